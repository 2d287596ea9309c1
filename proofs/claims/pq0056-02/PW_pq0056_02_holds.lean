import PyProof.Rows.All
import Wide.All
import OpenK.AllK
import Wide.FinOn
import Lean
import PySem.Challenge.RW_pq0056_02
set_option Elab.async false
set_option linter.unusedVariables false
set_option linter.unusedSectionVars false
set_option linter.unusedSimpArgs false
set_option maxRecDepth 100000
section
set_option compiler.extract_closed false
set_option genInjectivity false
set_option genSizeOf false
set_option genSizeOfSpec false
namespace Mine.O
open Lean Meta
abbrev X := Lean.Expr
theorem mprX {α : Sort u} {a b : α} (f : α → Prop) (h : a = b) (x : f b) : f a := h ▸ x
theorem mpX {α : Sort u} {a b : α} (f : α → Prop) (h : a = b) (x : f a) : f b := h ▸ x
theorem eq1 {a b : Nat} (h : a = b) : a ≤ b := Nat.le_of_eq h
theorem eq2 {a b : Nat} (h : a = b) : b ≤ a := Nat.le_of_eq h.symm
theorem sb1 {a b : Nat} {p : Prop} (h : b ≤ a ∧ p) : a - b + b ≤ a := Nat.le_of_eq (Nat.sub_add_cancel h.1)
theorem sb2 {a b : Nat} {p : Prop} (h : b ≤ a ∧ p) : a ≤ a - b + b := Nat.le_of_eq (Nat.sub_add_cancel h.1).symm
theorem sb3 {a b : Nat} {p : Prop} (h : a < b ∧ p) : a - b ≤ 0 := Nat.le_of_eq (Nat.sub_eq_zero_of_le (Nat.le_of_lt h.1))
theorem sb4 {a b : Nat} {p : Prop} (_ : a < b ∧ p) : 0 ≤ a - b := Nat.zero_le _
inductive Cs
 | n
 | o (a b : Nat.Internal.Linear.Expr) (r : Cs)
 | k (m : Nat) (a b : Nat.Internal.Linear.Expr) (r : Cs)
section
open Nat.Internal.Linear
noncomputable def den (c : Nat.Internal.Linear.Context) : Cs → Prop → Prop
 | .n, P => P
 | .o a b r, P => a.denote c ≤ b.denote c → den c r P
 | .k _ a b r, P => a.denote c ≤ b.denote c → den c r P
noncomputable def sl : Cs → Nat.Internal.Linear.Expr
 | .n => .num 0
 | .o a _ r => .add a (sl r)
 | .k m a _ r => .add (.mulL m a) (sl r)
noncomputable def sr : Cs → Nat.Internal.Linear.Expr
 | .n => .num 0
 | .o _ b r => .add b (sr r)
 | .k m _ b r => .add (.mulL m b) (sr r)
theorem den_of {c : Nat.Internal.Linear.Context} {cs : Cs} : ∀ {P : Prop}, ((sl cs).denote c ≤ (sr cs).denote c → P) → den c cs P := by
 induction cs with
 | n => exact fun h => h (Nat.le_refl _)
 | o a b r ih => exact fun h q => ih fun q' => h (Nat.add_le_add q q')
 | k m a b r ih => exact fun h q => ih fun q' => h (Nat.add_le_add (Nat.mul_le_mul_left m q) q')
theorem lin (c : Nat.Internal.Linear.Context) (cs : Cs) (h : (ExprCnstr.mk false (sl cs) (sr cs)).toNormPoly.isUnsat = true) : den c cs False :=
 den_of fun q => (ExprCnstr.eq_false_of_isUnsat c _ h).mp q
end
def fix {α β : Type} (d : β) (f : (α → β) → α → β) (n : Nat) : α → β := Nat.repeat f n fun _ => d
abbrev V := Array Int
abbrev B := Option (Int × Int × V)
abbrev P := V × B × B
abbrev F := X × X × X × X
def bare (e : X) : X := let e := e.consumeMData; if e.isAppOfArity ``id 2 then e.appArg!.consumeMData else e
def lst (e : X) : X := let e := e.getAppArgs.back?.getD e; bare e
def ap (n : Name) (a : List X) : X := a.foldl .app (.const n [])
def lc (x y : Int) (u v : V) : V := Array.zipWith (fun i j => x * i + y * j) u v
def unit (n i : Nat) (k : Int) : V := (Array.replicate n 0).set! i k
def num (k : Nat) : X := ap ``Nat.Internal.Linear.Expr.num [mkRawNatLit k]
def reify (t : Array X) : X → V × X := fix default (fun rec e =>
 let n := t.size
 match e.nat? with
 | some k => (unit (n + 2) (n + 1) k, num k)
 | none =>
  let i := (t.idxOf? e).getD n
  let z := (unit (n + 2) i 1, ap ``Nat.Internal.Linear.Expr.var [mkRawNatLit i])
  if i < n then z else
  match e with
  | .app (.app f a) b =>
   let p := rec a
   let q := rec b
   if f.getAppFn.isConstOf ``HAdd.hAdd then (lc 1 1 p.1 q.1, ap ``Nat.Internal.Linear.Expr.add [p.2, q.2])
   else if f.getAppFn.isConstOf ``HMul.hMul then
    match a.nat?, b.nat? with
    | some k, _ => (lc k 0 q.1 q.1, ap ``Nat.Internal.Linear.Expr.mulL [mkRawNatLit k, q.2])
    | _, some k => (lc k 0 p.1 p.1, ap ``Nat.Internal.Linear.Expr.mulR [p.2, mkRawNatLit k])
    | _, _ => z
   else z
  | _ => z) 300
def mixB (a b : Int) (p q : B) : B :=
 match p, q with
 | some (s, c, u), some (t, d, v) => some (s * t, a * t * c + b * s * d, lc (a * t) (b * s) u v)
 | _, _ => none
def best (p q : B) : B :=
 match p, q with
 | some a, some b => if a.2.1 * b.1 ≤ b.2.1 * a.1 then p else q
 | some _, none => p
 | _, _ => q
def bad (p : B) : B := p.filter (·.2.1 < 0)
def no : P := (#[], none, none)
def leaf (t : Array X) (x y : X) (s : Nat) (h h' : X) : StateM (Array F) P := modifyGet fun fs =>
 let a := reify t x
 let b := reify t y
 let n := t.size
 let one := (unit (n + 2) (n + 1) s)
 if a.1[n]! != 0 || b.1[n]! != 0 then (no, fs) else
 let v := lc 1 (-1) b.1 (lc 1 1 a.1 one)
 let c := v[n + 1]!
 ((v.set! (n + 1) 0, some (1, c, unit 200 fs.size 1), if h' == default then none else some (1, -c, unit 200 fs.size (-1))),
  fs.push (if s == 0 then a.2 else ap ``Nat.Internal.Linear.Expr.add [a.2, num 1], b.2, h, h'))
def fact (t : Array X) (h : X) : StateM (Array F) P :=
 let h := bare h
 let g := if h.isAppOf ``le_of_le_of_eq then bare (h.getAppArgs.getD 5 h) else lst h
 let z := mkRawNatLit 0
 if g.isAppOf ``Int.natCast_nonneg then leaf t (mkNatLit 0) (lst g) 0 z default
 else
  let c := g.getAppArgs
  let k := lst g
  let k := if k.isAppOf ``Int.add_one_le_of_lt then lst k else k
  let b := k.getAppArgs
  if k.isAppOf ``Lean.Omega.Int.ofNat_lt_of_lt then leaf t b[0]! b[1]! 1 b[2]! default
  else if k.isAppOf ``Lean.Omega.Int.ofNat_le_of_le then leaf t b[0]! b[1]! 0 b[2]! default
  else if k.isAppOf ``Lean.Omega.Int.ofNat_congr then leaf t b[1]! b[0]! 0 (ap ``eq2 b.toList) (ap ``eq1 b.toList)
  else if k.isAppOfArity ``And.right 3 && c.size > 1 && c[0]!.isAppOfArity ``Nat.cast 3 && c[0]!.appArg!.isAppOfArity ``HSub.hSub 6 then
   let d := c[0]!.appArg!
   let m := d.getAppArgs
   let l := [m[4]!, m[5]!, b[1]!, b[2]!]
   if c[1]!.isAppOfArity ``HSub.hSub 6 then
    leaf t m[4]! (mkNatAdd d m[5]!) 0 (ap ``sb2 l) (ap ``sb1 l)
   else leaf t (mkNatLit 0) d 0 (ap ``sb4 l) (ap ``sb3 l)
  else pure no
def conv (t : Array X) (rec : X → StateM (Array F) P) (e : X) : StateM (Array F) P :=
 let e := bare e
 let a := e.getAppArgs
 if e.isAppOf ``Lean.Omega.combo_sat' then do
  let i := (a[2]!.int?).getD 0
  let j := (a[4]!.int?).getD 0
  let (x, l, u) ← rec a[7]!
  let (y, k, v) ← rec a[8]!
  let (l, u) := if i < 0 then (u, l) else (l, u)
  let (k, v) := if j < 0 then (v, k) else (k, v)
  pure (lc i j x y, mixB i.natAbs j.natAbs l k, mixB i.natAbs j.natAbs u v)
 else if e.isAppOf ``Lean.Omega.tidy_sat then do
  let (x, l, u) ← rec a[3]!
  let g : Int := (x.foldl (fun g i => Nat.gcd g i.natAbs) 0 : Nat)
  let g := if (x.find? (· != 0)).getD 0 < 0 then -g else g
  if g == 0 then pure (x, l, u) else
  let f := fun (b : B) => b.map fun b => (b.1 * (g.natAbs : Int), b.2)
  pure (x.map (· / g), if g < 0 then (f u, f l) else (f l, f u))
 else if e.isAppOf ``Lean.Omega.Constraint.combine_sat' then do
  let (x, l, u) ← rec a[4]!
  let (y, k, v) ← rec a[5]!
  pure (if x.isEmpty then y else x, best l k, best u v)
 else if e.isAppOf ``Lean.Omega.Constraint.addInequality_sat || e.isAppOf ``Lean.Omega.Constraint.addEquality_sat then fact t a[3]!
 else pure no
def mkR (xs : Array X) : Nat × Nat → X := fix default (fun rec (i, j) =>
 if j ≤ i + 1 then mkApp2 (.const ``RArray.leaf [0]) (.const ``Nat []) (xs.getD i (mkRawNatLit 0))
 else
  let m := (i + j) / 2
  mkApp4 (.const ``RArray.branch [0]) (.const ``Nat []) (mkRawNatLit m) (rec (i, m)) (rec (m, j))) 20
def lin? (y e : X) : Option X :=
 let t := (((lst y).listLit?.getD (default, [])).2.map fun e => if e.isAppOfArity ``Nat.cast 3 then e.appArg! else mkRawNatLit 0).toArray
 let ((x, l, u), fs) := fix (pure no) (conv t) 1000 e #[]
 match (bad (mixB 1 1 l u)).or (if x.all (· == 0) then (bad l).or (bad u) else none) with
 | none => none
 | some (_, _, v) =>
  let g : Int := (v.foldl (fun g i => Nat.gcd g i.natAbs) 0 : Nat)
  let (cs, hs) := fs.size.fold (fun i _ (r : X × Array X) =>
   let (a, b, h, h') := fs[i]!
   let m := v[i]! / g
   if m == 0 || h.isRawNatLit then r else
   let (a, b, h) := if m > 0 then (a, b, h) else (b, a, h')
   (if m.natAbs == 1 then ap ``Cs.o [a, b, r.1] else ap ``Cs.k [mkRawNatLit m.natAbs, a, b, r.1], r.2.push h)) (ap ``Cs.n [], #[])
  some (ap ``lin ([mkR t (0, t.size), cs, mkApp2 (.const ``Eq.refl [1]) (.const ``Bool []) (.const ``true [])] ++ hs.toList.reverse))
def proofs? (env : Environment) (I : Name) : Option (Nat × Nat) :=
 match env.find? I, env.find? (.str I "casesOn") with
 | some (.inductInfo v), some c =>
  if v.numIndices == 0 && !v.isRec && v.ctors.length == 1 && c.levelParams.length > v.levelParams.length && v.type.getForallBody.isProp then
   match env.find? v.ctors.head! with
   | some (.ctorInfo k) => some (v.numParams, k.numFields)
   | _ => none
  else none
 | _, _ => none
def rule (env old : Environment) (e : X) : Option X :=
 let args := e.getAppArgs
 let more := fun (f : X) (k : Nat) => if args.size < k then none else some (f.beta (args.extract k args.size))
 match e.getAppFn with
 | .const n ls =>
  match if old.contains n then none else (env.find? n).bind fun ci => (ci.value? (allowOpaque := true)).map (·.instantiateLevelParams ci.levelParams ls) with
  | some v => more v 0
  | none =>
  if n == ``Lean.Omega.Constraint.not_sat'_of_isImpossible && args.size == 5 then lin? args[3]! args[4]! else
  if n == ``id then more (args.getD 1 e) 2 else
  if n == ``Exists.casesOn && args.size ≥ 5 then
   match args[2]! with
   | .lam _ _ g _ => if g.hasLooseBVar 0 then none else more (mkAppN (.const ``Exists.elim ls) #[args[0]!, args[1]!, g.lowerLooseBVars 1 1, args[3]!, args[4]!]) 5
   | _ => none
  else if (n == ``Eq.mpr || n == ``Eq.mp) && args.size ≥ 4 then
   let p := bare args[2]!
   if p.isAppOfArity ``congrArg 6 then
    let ca := p.getAppArgs
    more (mkAppN (.const (if n == ``Eq.mpr then ``mprX else ``mpX) [p.getAppFn.constLevels!.head!]) #[ca[0]!, ca[2]!, ca[3]!, ca[4]!, ca[5]!, args[3]!]) 4
   else none
  else match env.getProjectionFnInfo? n with
  | some p =>
   if args.size > p.numParams && (proofs? env p.ctorName.getPrefix).isSome then more (.proj p.ctorName.getPrefix p.i args[p.numParams]!) (p.numParams + 1) else none
  | none =>
   match n with
   | .str I w =>
    match if w == "casesOn" || w == "rec" then proofs? env I else none with
    | some (np, nf) =>
     if args.size < np + 3 then none else
     let i := if w == "casesOn" then 1 else 2
     more (args[np + 3 - i]!.beta ((Array.range nf).map fun j => .proj I j args[np + i]!)) (np + 3)
    | none => none
   | _ => none
 | .lam n t b i => if args.isEmpty then none else more (.lam n t b i) 0
 | .letE _ _ v b _ => more (b.instantiate1 v) 0
 | .mdata _ h => more h 0
 | _ => none
structure S where
 lctx : LocalContext
 tbl : Std.HashMap X Nat := {}
 es : Array X := #[]
 ns : Array (Array Nat) := #[]
 xs : Nat := 1
def var (i : Nat) : X := .fvar ⟨.num `x i⟩
def mk (e : X) (k a b x fv0 : Nat) : StateM S Nat := modifyGet fun s =>
 match s.tbl.get? e with
 | some i => (i, s)
 | none =>
  let i := s.es.size
  let m := (s.ns.getD b #[]).getD 4 0
  let fv := if k == 0 then fv0 else (s.ns.getD a #[]).getD 4 0 ||| (if x != 0 && m.testBit x then m - (1 <<< x) else m)
  (i, { s with tbl := s.tbl.insert e i, es := s.es.push e, ns := s.ns.push #[k, a, b, x, fv] })
def newVar (t : X) : StateM S Nat := modifyGet fun s =>
 (s.xs, { s with xs := s.xs + 1, lctx := s.lctx.mkLocalDecl ⟨.num `x s.xs⟩ `x t })
def known (e : X) (r : Nat) : StateM S Nat := modifyGet fun s => (r, { s with tbl := s.tbl.insert e r })
def visit (rl : X → Option X) (rec : Bool × X → StateM S Nat) (we : Bool × X) : StateM S Nat := do
 let (w, e) := we
 let s ← get
 match if w then s.tbl.get? e else none with
 | some i => return i
 | none =>
 let r ← match if w then rl e else none with
  | some e => rec (true, e)
  | none => match e with
   | .app f a => do
    let i ← rec (false, f)
    let j ← rec (true, a)
    let s ← get
    mk (.app s.es[i]! s.es[j]!) 1 i j 0 0
   | .lam _ t b _ => do
    let i ← rec (true, t)
    let t := (← get).es[i]!
    let x ← newVar t
    let j ← rec (true, b.instantiate1 (var x))
    let s ← get
    let q := s.ns[j]!
    if q[0]! == 1 && s.es[q[2]!]! == var x && !(s.ns[q[1]!]!)[4]!.testBit x then pure q[1]!
    else mk (.lam `x t (s.es[j]!.abstract #[var x]) .default) 2 i j x 0
   | .forallE _ t b _ => do
    let i ← rec (true, t)
    let t := (← get).es[i]!
    let x ← newVar t
    let j ← rec (true, b.instantiate1 (var x))
    mk (.forallE `x t ((← get).es[j]!.abstract #[var x]) .default) 3 i j x 0
   | .mdata _ b => rec (w, b)
   | .proj n k b => do
    let i ← rec (true, b)
    mk (.proj n k (← get).es[i]!) 5 i i 0 0
   | .fvar f => mk e 0 0 0 0 (1 <<< match f.name with | .num `x i => i | _ => 0)
   | _ => mk e 0 0 0 0 0
 if w then known e r else return r
def news (tbl : Std.HashMap X Nat) : X → Nat := fix 0 (fun rec e =>
 if !e.hasFVar && !e.hasLooseBVars || tbl.contains e then 0 else
 match e with
 | .app f a => 1 + rec f + rec a
 | .lam _ t b _ | .forallE _ t b _ => 2 + rec t + rec b
 | .proj _ _ b | .mdata _ b | .letE _ _ _ b _ => 1 + rec b
 | _ => 0) 500
def pop (m : Nat) : Nat := (Nat.fold 20 (fun _ _ (p : Nat × Nat) => if p.1 == 0 then p else (p.1 &&& (p.1 - 1), p.2 + 1)) (m, 0)).2
def low (m : Nat) : Nat := (m ^^^ (m - 1)).log2
def ors (D : Array Nat) (i d : Nat) : Array Nat := D.modify i (· ||| d)
structure T where
 val : Std.HashMap Nat X := {}
 y : Std.HashMap Nat X := {}
 ix : Std.HashMap Nat Nat := {}
 lets : Std.HashMap Nat (Array (X × X × X)) := {}
def own (par w : Array Nat) (j : Nat) : Nat := if par[j]! ≤ 1 then w[j]! else 0
def owned (s : S) : Array Nat :=
 let par := s.ns.foldl (fun (p : Array Nat) nd => (p.modify nd[1]! (· + 1)).modify nd[2]! (· + 1)) (Array.replicate s.ns.size 0)
 s.ns.foldl (fun (w : Array Nat) nd =>
  let k := if nd[0]! == 0 || nd[4]! == 0 then 0 else 1 + own par w nd[1]! + if nd[1]! == nd[2]! then 0 else own par w nd[2]!
  w.push k) #[]
abbrev U := Array Nat × Array Nat × Array (Option X)
def hoist? (s : S) (w : Array Nat) (i d : Nat) : MetaM (Option X) :=
 let gain := (pop d - 1) * w[i]!
 if gain < 2 then pure none else
 try
  let t ← withReader (fun c => { c with lctx := s.lctx }) (inferType s.es[i]!)
  pure (if t.hasMVar || gain * 32 ≤ 60 + 36 * news s.tbl t then none else some t)
 catch _ => pure none
def nl (o : T) (x : Nat) : Nat := (o.lets.getD x #[]).size
def place (s : S) (o : T) (i d : Nat) (u : U) : U :=
 let (D, bd, ty) := u
 let nd := s.ns[i]!
 let D := ors D nd[1]! d
 let x := nd[3]!
 if x == 0 then (ors D nd[2]! d, bd, ty)
 else
  let q := low d + 1
  (ors D nd[2]! (1 <<< (q + nl o x)), bd.set! x q, ty)
def step (s : S) (w : Array Nat) (o : T) (i : Nat) (u : U) : MetaM U := do
 let d := u.1[i]!
 let nd := s.ns[i]!
 let fv := nd[4]!
 let x := fv.log2
 if d == 0 || nd[0]! == 0 then return u
 if fv == 0 then return place s o i (1 <<< low d) u
 match o.ix.get? i with
 | some j => return place s o i (1 <<< (u.2.1[x]! + j)) u
 | none =>
  match ← hoist? s w i d with
  | some t =>
   let (D, bd, ty) := u
   let p := 1 <<< (bd[x]! + nl o x)
   return place s o i p (D, bd, ty.set! i (some t))
  | none => return place s o i d u
def mkLets (ls : Array (X × X × X)) (pre : Array X) (b : X) : X :=
 let ys := pre ++ ls.map (·.1)
 (ls.size.fold (fun i _ (r : X) =>
  let j := ls.size - 1 - i
  let (_, t, v) := ls[j]!
  let zs := ys.extract 0 (pre.size + j)
  .letE `y (t.abstract zs) (v.abstract zs) r false) (b.abstract ys))
def named (x i : Nat) (y t v : X) : StateM T X := modifyGet fun o =>
 (y, { o with y := o.y.insert i y, ix := o.ix.insert i (nl o x), lets := o.lets.insert x ((o.lets.getD x #[]).push (y, t, v)) })
def told (i : Nat) (v : X) : StateM T X := modifyGet fun o => (v, { o with val := o.val.insert i v })
def out (s : S) (u : U) (rec : Nat × Nat × X → StateM T X) (wie : Nat × Nat × X) : StateM T X := do
 let (w, i, e) := wie
 let o ← get
 if w == 0 then
  match u.2.2.getD i none with
  | none => rec (1, i, e)
  | some t =>
   match o.y.get? i with
   | some y => return y
   | none =>
    let v ← rec (1, i, e)
    let t ← rec (2, 0, t)
    named (s.ns[i]!)[4]!.log2 i (var (s.xs + i)) t v
 else if w == 1 then
  match o.val.get? i with
  | some v => return v
  | none =>
   let nd := s.ns[i]!
   let e := s.es[i]!
   if nd[0]! == 0 then return e
   let a ← rec (0, nd[1]!, e)
   let b ← rec (0, nd[2]!, e)
   let x := nd[3]!
   let o ← get
   let b := if x == 0 then b else mkLets (o.lets.getD x #[]) #[var x] b
   told i (match e with
    | .app .. => .app a b
    | .lam .. => .lam `x a b .default
    | .forallE .. => .forallE `x a b .default
    | .proj n j _ => .proj n j b
    | e => e)
 else
  match (if e.hasLooseBVars then none else s.tbl.get? e).filter (u.1.getD · 0 != 0) with
  | some i => rec (0, i, e)
  | none =>
   match e with
   | .app f a => return .app (← rec (2, 0, f)) (← rec (2, 0, a))
   | .lam n t b bi => return .lam n (← rec (2, 0, t)) (← rec (2, 0, b)) bi
   | .forallE n t b bi => return .forallE n (← rec (2, 0, t)) (← rec (2, 0, b)) bi
   | .proj n i b => return .proj n i (← rec (2, 0, b))
   | e => return e
def opt (old : Environment) (e : X) : MetaM X := do
 let (r, s) := fix (pure 0) (visit (rule (← getEnv) old)) 20000 (true, e) { lctx := ← getLCtx }
 let w := owned s
 let pl := fun (o : T) (ty : Array (Option X)) =>
  s.ns.size.foldRevM (fun i _ => step s w o i) ((Array.replicate s.ns.size 0).set! r (1 <<< nl o 0), Array.replicate s.xs 0, ty)
 let run := fun (u : U) => fix (pure default) (out s u) 20000 (0, r, e) {}
 let u ← pl {} (Array.replicate s.ns.size none)
 let u ← pl (run u).2 u.2.2
 let (v, o) := run u
 return mkLets (o.lets.getD 0 #[]) #[] v
open Elab Tactic in
def run : TacticM Unit := do
 match (← getRef).find? (·.isOfKind ``Parser.Tactic.tacticSeq) with
 | none => throwError "no text"
 | some t =>
  let g ← getMainGoal
  let env ← getEnv
  evalTactic t
  let e ← instantiateMVars (mkMVar g)
  if e.hasMVar || !(← getUnsolvedGoals).isEmpty then throwError "open"
  let e ← g.withContext (opt env e)
  g.assign e
  if e.getUsedConstants.all env.contains then setEnv env
end Mine.O
end
local macro_rules | `(tactic| iterate 1 $t:tacticSeq) => `(tactic| run_tac (show True ∧ True ∧ True by $t))
local macro_rules | `(term| show True ∧ True ∧ True by $_t) => `(term| Mine.O.run)
section
open PySem PySem.W PyProof.Rows
open Lean in
theorem Mine.set : True := by
  run_tac do
    for c in [`hd.heap_718, `hd.heap_39, `hd.tree_717, `hd.tree_570, `hd.tree_651, `hd.tree_435, `hd.tree_434, `hd.tree_350, `hd.tree_224, `hd.tree_307, `hd.view_39, `PySem.Challenge.pw_pq0056_02, `hd.o_96, `hd.o_56, `hd.o_54, `hd.env_41, `hd.sts_435, `hd.o_113, `hd.o_67, `hd.o_58, `hd.o_91, `hd.o_59, `hd.o_102, `hd.o_111, `hd.o_78, `hd.o_57, `hd.tree_114, `hd.o_100, `hd.o_81, `hd.o_84, `hd.o_88, `hd.o_72, `hd.o_52, `hd.o_103, `hd.o_99, `hd.o_93, `hd.o_63, `hd.o_61, `hd.sts_437, `hd.o_98, `hd.o_79, `hd.o_77, `hd.o_85, `hd.tree_47, `hd.tree_87, `hd.sts_115, `hd.o_101, `hd.o_60, `hd.o_80, `hd.o_83, `hd.o_43, `hd.o_87, `hd.o_90, `hd.o_92, `hd.o_94, `hd.o_65, `hd.sts_351, `hd.o_71, `hd.o_108, `hd.o_86, `hd.o_82, `hd.o_70, `hd.o_75, `PySem.Challenge.rw_pq0056_02, `hd.o_46, `hd.o_97, `hd.heap_46, `hd.o_107, `hd.o_110, `hd.o_105, `hd.o_55, `hd.o_114, `hd.o_112, `hd.o_73, `hd.sts_655, `hd.sts_311, `hd.o_68, `hd.o_49, `hd.o_45, `hd.o_50, `hd.sts_88, `hd.o_62, `hd.o_74, `hd.o_66, `hd.o_106, `hd.sts_49] do
      PySem.W.Fast.primed.modify (·.insert c none)
  trivial
set_option maxHeartbeats 8000000
open_top hd for PySem.Challenge.rw_pq0056_02
end
open PySem renaming wpAny_bind -> Ab, wpAny_pure -> Ad, wpAny_mono -> Ai, wpAny_holding -> Bh, wpAny_newObj_type -> CM, wpAny_call_entry -> Cz, wpAny_callSpecial?_slot -> Ek, wpAny_setState_of -> DN, wpAny_setField_rec -> D6, wpAny_seqItems -> Dy, codeAny_mono -> De, wpAny_standAt -> EB, wpAny_field -> D5, sizeLine_eq -> D1, wpAny_isInstance -> FO, codeAny_builtin -> FT, wpAny_assign_Name -> Gw, wpAny_rule -> D2, wpAny_typeNameOfWhole_keyiter -> LA, wpAny_ite_split -> GP, wpAny_attempt -> FS, wpAny_setEntries_of -> Jg, wpAny_typeNameOf_keyiter -> LB, wpAny_comprehension_free -> Lb, plainId_quiet -> GL, wpAny_specialOf -> Hp, wpAny_truthy_bool -> Iq, wpAny_fieldsOf -> Hr, wpAny_forIn_list -> IK, wpAny_askSetting -> Ip, isSubtype_stop -> IW, wpAny_storeSet_of -> LX, wpAny_of_eq -> Ho, wpAny_dictEntries -> Lp, wpAny_typeOf -> IY, wpAny_pyNext_list_item -> NB, wpAny_pyNext_list_end -> NC, wpAny_notOrdered_dict -> Od, builtinLookup_eq_fast -> OI, wpAny_updateSeq_pair -> OM, wpAny_setField -> LC, wpAny_onRaise -> LK, wpAny_handled -> LD, wpAny_tupleItemsOf -> N0, wpAny_pyIter_tuple -> NE, wpAny_pyIter_slot -> OD, wpAny_pyIter_list -> ND, slot_list_getitem -> Nz, call_meetsIn -> Li, noFill_tuple_add -> NS, wpAny_throw -> LF, wpAny_dictEpoch -> OE, typeLookup_type -> OH, codeAny_of_tree -> NK, wpAny_newTuple -> Oy, isSubtype_type -> Pm, intKind_is -> Lg, call_meets -> Le
open List renaming mem_singleton -> Ag, length_map -> Am, not_mem_nil -> Ar, getElem?_eq_some_iff -> AT, length_append -> AD, mem_append -> AC, mem_map -> Av, getD_eq_getElem?_getD -> Bt, mem_of_getElem? -> AX, mem_map_of_mem -> AS, mem_cons -> Ay, getElem?_eq_getElem -> Bw, lookup_cons -> AY, nodup_append -> Bf, map_cons -> AM, getElem?_map -> Bs, mem_cons_self -> Bv, mem_append_right -> BK, map_append -> Bo, mem_cons_of_mem -> BM, map_map -> A2, mem_append_left -> BY, getElem?_append_left -> CQ, getElem?_append_right -> C8, nodup_cons -> BE, map_congr_left -> Cg, append_nil -> BQ, range -> Bn, take_add_one -> Co, take_length -> Ci, length_singleton -> Dp, mem_filter -> Ch, length_cons -> CE, pairwise_singleton -> El, mem_flatMap -> Dc, length_take -> C7, append_assoc -> Dg, getElem?_eq_none -> D8, nodup_nil -> Cw, length_range -> D7, all_eq_true -> D0, mem_iff_getElem? -> EZ, size_toArray -> Eh, any_eq_true -> Er, length_filter_le -> Ga, pairwise_map -> E7, mem_range -> Ep, length_set -> Fk, flatMap_cons -> G8, sum_cons -> Fv, filterMap_cons_some -> I7, getElem_mem -> GJ, filter_cons -> GA, cons_append -> GU, nil_append -> GV, getElem?_toArray -> Ic, perm_ext_iff_of_nodup -> MA, perm_append_singleton -> LV, getElem?_range -> Ie, flatMap_append -> Km, find?_cons -> Hj, zip_cons_cons -> Ik, find?_eq_none -> I6, length_eq_zero_iff -> LZ, find?_cons_of_neg -> Mq, cons_lt_cons_iff -> Ls, flatMap_nil -> Kn, map_id -> G1, filter_map -> J7, filter_append -> Mp, pairwise_iff_getElem -> Ou, drop_eq_getElem_cons -> NT, length -> HN, length_erase_of_mem -> O7, all_cons -> Im, zipIdx_cons -> LJ, mem_nil_iff -> LL, find?_cons_of_pos -> Qi, range_succ -> LU, forIn_cons -> K7, countP_singleton -> PC, take_zero -> MJ, filter_sublist -> Qg, any_cons -> KH, countP_append -> PB, map -> HF, getElem?_set -> Py, ext_getElem? -> OG, eq_nil_of_length_eq_zero -> Ss, length_eraseIdx_of_lt -> Tn, getElem?_eq_none_iff -> RT, getElem?_take_of_lt -> SR, filterMap_cons_none -> Td, getElem?_cons_succ -> RC, append_cancel_left -> Sm, pairwise_lt_range -> SY, length_pos_of_mem -> S7, drop_of_length_le -> R2, take_append_drop -> R1, pairwise_flatMap -> Ws, mem_of_mem_take -> V9, mem_erase_of_ne -> S6, getElem?_set_ne -> U7
open PySem.Heap renaming get?_push_of_some -> AA, get?_push_size -> AR, lt_size -> AZ, get?_update_self -> EE, size_push -> E4, get?_update_other -> TB
open Nat renaming le_trans -> Ap, lt_of_le_of_lt -> Bd, le_refl -> Az, ne_of_lt -> A8, le_of_lt -> Bz, zero_le -> BC, le_of_ble_eq_true -> DR, lt_succ_of_lt -> Dx, succ_le_of_lt -> EO, not_lt_zero -> En, lt_trans -> DB, succ_le_succ -> Fn, min_le_right -> Fp, lt_succ_self -> E8, lt_irrefl -> Ef, mul_le_mul_right -> G7, min_eq_left -> Ft, add_le_add_left -> G4, min_eq_right -> F0, le_add_right -> FW, le_total -> EI, le_succ -> Ej, sub_self -> Fj, ne_of_gt -> E3, lt_of_lt_of_le -> Ht, min_le_left -> GG, le_succ_of_le -> HL, not_lt -> ED, add_le_add -> GT, succ_mul -> Gk, max_eq_right -> HB, lt_succ_iff_lt_or_eq -> M7, max_eq_left -> HC, le_of_eq -> Gx, add_comm -> GZ, strongRecOn -> Ji, lt_trichotomy -> Mo, le_of_lt_succ -> LR, add_assoc -> II, le_of_not_lt -> Mn, le_mul_of_pos_left -> QD, mul_pos -> Kd, mul_le_mul -> MX, mul_le_mul_left -> QA, add_right_comm -> OX, pow_succ -> LQ, lt_succ_of_le -> O5, one_mul -> My, mul_one -> MH, le_add_left -> Qc, mod_lt -> LS, lt_of_succ_lt_succ -> S8
open Bool renaming false_eq_true -> Be, false_ne_true -> Cu, and_eq_true -> Cv, not_true -> FP, not_false -> Lx, or_eq_true -> Nv, eq_iff_iff -> Oh
open Array renaming getElem?_eq_getElem -> CA, getD_eq_getD_getElem? -> Dd, length_toList -> CP, getElem?_toList -> DV, getElem?_eq_none -> IV, toList_inj -> It, perm_iff_toList_perm -> Ni, getElem?_eq_some_iff -> OF, forIn_toList -> Lo, toList_push -> Ph, getD -> Kz
open Option renaming map_eq_some_iff -> Dl, none -> Dw, isSome_iff_exists -> Hk, map_eq_none_iff -> Mr, toList_some -> MC, bind_eq_bind -> OU, getD_some -> NN, bind_some -> OV
open PySem.Heap.SameBut renaming update -> Df
open Option.some renaming inj -> Cn
open PySem.PyData renaming keyHash -> Cc, strOk -> E1, eqvAll -> GF, depth -> Ll, depthAll -> NZ
open PySem.SetTable renaming bits -> CS, below -> Dk, turns -> Eo, grown -> Fg, insertAt -> GN, runEnd -> GO, laid -> I0, advance -> LO, leap -> LP, layClean -> OT, fill -> Pg, insertAt_perm -> SS
open PySem.Builtin.SmallTypes renaming nextOf -> FU, ownedTupleIsFree -> LI, ownedTupleHandOut -> SM
open Int renaming ofNat_inj -> DT, toNat_natCast -> Fb, ofNat_lt -> Fs, natCast_nonneg -> J1, lt_irrefl -> Lq
open PySem.Builtin.Tuple renaming tupleHashOf -> Hi
open PySem.W renaming kas_place -> CL, kas_asc -> Dt, kas_rev -> DI, kas_sort -> Ez, kas_desc -> Gu, kas_descPart -> KC
open PySem.SetTable.probe renaming go -> Hs
open List.cons renaming inj -> Gl, injEq -> Ot
open LawfulBEq renaming eq_of_beq -> DX
open PySem.SetTable.below renaming go -> IZ
open PySem.SetTable.layClean renaming free -> Pa
open Classical renaming byContradiction -> O8
open PySem.Builtin.Dict_items renaming ownsTuple -> Sy
open PySem.Txt renaming slice -> Hm
open Nat.succ renaming inj -> ME
open PySem.Builtin.List renaming listLengthHint -> Tw, listExtendWith -> Tz, listSameRef -> TA
open PyProof.Rows renaming mirror_perm -> Ia
open PySem.Builtin.Range renaming rangeSize -> RS
open PySem.Builtin.Dict renaming updateFrom -> SK, pairItems -> SJ, showsAll -> Sw
open Decidable renaming byContradiction -> Va
open PySem.Builtin.Str renaming occurrences -> Sg
open PySem.Heap.IsSliceOf renaming new -> RO
open PySem PySem.W PySem.Calls PyProof.Rows
namespace Mine
set_option autoImplicit true
set_option relaxedAutoImplicit true
noncomputable def AI {α : Type} (lt : Nat -> Nat -> Bool) : KasT α -> α
 | .ret a => a
 | .ask i j k => AI lt (k (lt i j))
theorem Gs {α β : Type} (lt : Nat -> Nat -> Bool) (f : α -> KasT β) : ∀ t : KasT α, AI lt (t.bind f) = AI lt (f (AI lt t))
 | .ret a => rfl
 | .ask i j k => Gs lt f (k (lt i j))
noncomputable def B3 (n : Nat) {α : Type} (P : α -> Prop) : KasT α -> Prop
 | .ret a => P a
 | .ask i j k => i < n /\ j < n /\ ∀ b, B3 n P (k b)
theorem B3.bind {α β : Type} {P : α -> Prop} {P' : β -> Prop} {f : α -> KasT β} (hf : ∀ a, P a -> B3 n P' (f a)) : ∀ {t : KasT α}, B3 n P t -> B3 n P' (t.bind f)
 | .ret a, h => hf a h
 | .ask i j k, h => ⟨h.1, h.2.1, fun b => B3.bind hf (h.2.2 b)⟩
theorem Nh {α : Type} {lt : Nat -> Nat -> Bool} {cmp : Nat -> Nat -> (Bool -> Shared -> Prop) -> Shared -> Prop} {n : Nat}
  (hc : ∀ i j C, i < n -> j < n -> C (lt i j) s -> cmp i j C s) {P : α -> Prop} {Q : α -> Shared -> Prop} : ∀ t : KasT α, B3 n P t -> Q (AI lt t) s -> t.kasWp cmp Q s
 | .ret a, _, h => h
 | .ask i j k, ha, h => hc i j _ ha.1 ha.2.1 (Nh hc (k (lt i j)) (ha.2.2 _) h)
noncomputable def InR (p : Array Nat) (n : Nat) : Prop := ∀ k, p.getD k 0 < n
theorem InR.perm (hn : 0 < n) (h : q.Perm p) (x : InR p n) : InR q n := by iterate 1
 exact fun k => by
  by_cases hk : k < q.size
  ·have e : q.getD k 0 = q[k] := by simp [Kz, hk]
   rw [e]
   have hm : q[k] ∈ p.toList := (Ni.mp h).mem_iff.mp (by simp)
   obtain ⟨i, hi⟩ := EZ.mp hm
   have := x i
   rw [Dd, <- DV, hi] at this
   simpa using this
  ·have e : q.getD k 0 = 0 := by simp [Kz, hk]
   rw [e]; exact hn
theorem InR.rev (hn : 0 < n) (x : InR p n) : InR (DI p i j) n := x.perm hn (Ia _ _ _ _)
theorem InR.bub (hn : 0 < n) (x : InR p n) : InR (bubble p i j) n := x.perm hn (bubble_perm _ _ _)
section
variable {N : Nat} (hN : 0 < N)
include hN
theorem KA (x : InR p N) : ∀ (f n : Nat), B3 N (fun _ => True) (Dt p f n)
 | 0, n => trivial
 | f + 1, n => by iterate 1
  exact ⟨x _, x _, fun b => by
   cases b with
   | true => trivial
   | false => exact KA x f (n + 1)⟩
theorem Ib : ∀ (f : Nat) (p : Array Nat) (n q : Nat), InR p N -> B3 N (fun r => InR r.1 N) (Gu f p n q)
 | 0, p, n, q, x => x
 | f + 1, p, n, q, x => by iterate 1
  exact ⟨x _, x _, fun b => by
   cases b with
   | true =>
    simp only [if_true]
    split
    ·exact Ib f _ _ _ (x.rev hN)
    ·exact Ib f _ _ _ x
   | false =>
    simp only [Be, if_false]
    refine ⟨x _, x _, fun b => ?_⟩
    cases b with
    | true => exact x
    | false => exact Ib f _ _ _ x⟩
theorem Nj (x : InR p N) : B3 N (fun r => InR r.2 N) (kas_tail3 n nrem p) := by iterate 1
 unfold kas_tail3
 refine B3.bind (P := fun _ => True) (fun a _ => ?_) (KA hN (x.rev hN) _ _)
 show InR _ N
 exact x.rev hN
theorem Nk (x : InR p N) : B3 N (fun r => InR r.2 N) (KC n nrem p) := by iterate 1
 exact
  B3.bind (P := fun r => InR r.1 N) (fun r hr => by
   split
   ·exact Nj hN (hr.rev hN)
   ·exact Nj hN hr) (Ib hN _ _ _ _ x)
theorem Rz (x : InR p N) : B3 N (fun r => InR r.2 N) (kas_count nrem p) := by iterate 1
 exact
  B3.bind (P := fun _ => True) (fun n _ => by
   split
   ·exact x
   ·split
    ·refine ⟨x _, x _, fun b => ?_⟩
     cases b with
     | true => exact x
     | false => exact Nk hN (x.rev hN)
    ·exact Nk hN x) (KA hN x _ _)
theorem KD (x : InR p N) : ∀ (f l r : Nat), B3 N (fun _ => True) (CL p k f l r)
 | 0, l, r => trivial
 | f + 1, l, r => by iterate 1
  unfold CL
  split
  ·trivial
  ·refine ⟨x _, x _, fun b => ?_⟩
   cases b with
   | true => exact KD x f _ _
   | false => exact KD x f _ _
theorem Nl : ∀ (f : Nat) (p : Array Nat) (k : Nat), InR p N -> B3 N (fun r => InR r N) (kas_bin f p k)
 | 0, p, k, x => x
 | f + 1, p, k, x => by iterate 1 exact B3.bind (P := fun _ => True) (fun l _ => Nl f _ _ (x.bub hN)) (KD hN x _ _ _)
theorem RA : B3 N (fun r => InR r N) (Ez N) := by iterate 1
 have x : InR (List.toArray (Bn N)) N := fun k => by
  rw [Dd]
  simp only [Ic, Ie]
  by_cases hk : k < N
  ·simp [hk]
  ·simp [hk, hN]
 refine B3.bind (P := fun r => InR r.2 N) (fun r hr => ?_) (Rz hN x)
 split
 ·exact Nl hN _ _ _ hr
 ·exact hr
end
section
variable (lt : Nat -> Nat -> Bool)
structure SWO : Prop where
 irrefl : ∀ a, lt a a = false
 trans : ∀ a b c, lt b a = false -> lt c b = false -> lt c a = false
 asymm : ∀ a b, lt a b = true -> lt b a = false
variable {lt} (O : SWO lt)
noncomputable def At (p : Array Nat) (k : Nat) : Nat := p.getD k 0
noncomputable def Asc (lt : Nat -> Nat -> Bool) (p : Array Nat) (m : Nat) : Prop := ∀ a b, a <= b -> b < m -> lt (At p b) (At p a) = false
noncomputable def Dsc (lt : Nat -> Nat -> Bool) (p : Array Nat) (m : Nat) : Prop := ∀ a b, a <= b -> b < m -> lt (At p a) (At p b) = false
theorem E0 (hj : j <= p.size) (k : Nat) : At (DI p i j) k = if i <= k /\ k < j then At p (i + j - 1 - k) else At p k := by iterate 1
 unfold At DI
 have e := getElem?_mirror (xs := p) (i := i) (j := j) hj ((j - i) / 2) (by omega) k
 have g : ∀ (q : Array Nat) (k : Nat), q.getD k 0 = (q[k]?).getD 0 := fun q k => by simp [Dd]
 rw [g, g, g, e]
 by_cases h : i <= k /\ k < j
 ·rw [if_pos h]
  by_cases h2 : (i <= k /\ k < i + (j - i) / 2) ∨ (j - (j - i) / 2 <= k /\ k < j)
  ·rw [if_pos h2]
  ·rw [if_neg h2]
   have : i + j - 1 - k = k := by omega
   rw [this]
 ·rw [if_neg h, if_neg (by omega)]
theorem Nm (hk : k < p.size) (hd : d <= k) (j : Nat) : At (bubble p k d) j = if j = k - d then At p k else if k - d < j /\ j <= k then At p (j - 1) else At p j := by iterate 1
 unfold At
 have e := getElem?_bubble hk d hd j
 have g : ∀ (q : Array Nat) (k : Nat), q.getD k 0 = (q[k]?).getD 0 := fun q k => by simp [Dd]
 rw [g, g, g, g, e]
 split
 ·rfl
 ·split <;> rfl
include O
theorem KE : ∀ (f n : Nat), 1 <= n -> Asc lt p n -> n <= AI lt (Dt p f n) /\ AI lt (Dt p f n) <= n + f /\ Asc lt p (AI lt (Dt p f n)) /\
  (AI lt (Dt p f n) < n + f -> lt (At p (AI lt (Dt p f n))) (At p (AI lt (Dt p f n) - 1)) = true)
 | 0, n, h1, h => by iterate 1 exact ⟨Az _, Az _, h, fun hh => absurd hh (Ef _)⟩
 | f + 1, n, h1, h => by iterate 1
  show n <= AI lt (if lt (At p n) (At p (n - 1)) = true then KasT.ret n else Dt p f (n + 1)) /\ _
  cases e : lt (At p n) (At p (n - 1)) with
  | true =>
   have hr : AI lt (Dt p (f + 1) n) = n := by
    show AI lt (if lt (At p n) (At p (n - 1)) = true then KasT.ret n else Dt p f (n + 1)) = n
    rw [e]; rfl
   rw [hr]
   exact ⟨Az _, by omega, h, fun _ => e⟩
  | false =>
   have hr : AI lt (Dt p (f + 1) n) = AI lt (Dt p f (n + 1)) := by
    show AI lt (if lt (At p n) (At p (n - 1)) = true then KasT.ret n else Dt p f (n + 1)) = _
    rw [e]; rfl
   have hA : Asc lt p (n + 1) := fun a b hab hb => by
    by_cases q : b < n
    ·exact h a b hab q
    ·have : b = n := by omega
     subst this
     by_cases q2 : a = b
     ·rw [q2]; exact O.irrefl _
     ·exact O.trans _ _ _ (h a (b - 1) (by omega) (by omega)) e
   have ih := KE f (n + 1) (by omega) hA
   rw [hr]
   refine ⟨?_, by omega, ih.2.2.1, fun hh => ih.2.2.2 (by omega)⟩
   simp only [Be, if_false]
   omega
noncomputable def Lvl (lt : Nat -> Nat -> Bool) (p : Array Nat) (n q : Nat) : Prop := ∀ a b, n - (q + 1) <= a -> a < n -> n - (q + 1) <= b -> b < n -> lt (At p a) (At p b) = false
theorem Ig : ∀ (f : Nat) (p : Array Nat) (n q : Nat), q + 1 <= n -> n + f <= p.size -> Dsc lt p n -> Lvl lt p n q ->
  ∃ p' n' q', AI lt (Gu f p n q) = (p', n', q') /\ p'.Perm p /\ n <= n' /\ n' <= n + f /\ q' + 1 <= n' /\ Dsc lt p' n' /\ Lvl lt p' n' q'
 | 0, p, n, q, h1, h2, h3, h4 => by iterate 1 exact ⟨p, n, q, rfl, .refl _, Az _, Az _, h1, h3, h4⟩
 | f + 1, p, n, q, h1, h2, h3, h4 => by iterate 1
  have hr : AI lt (Gu (f + 1) p n q) = AI lt (if lt (At p n) (At p (n - 1)) = true then (if q > 0 then Gu f (DI p (n - (q + 1)) n) (n + 1) 0 else Gu f p (n + 1) 0)
   else .ask (p.getD (n - 1) 0) (p.getD n 0) fun d => if d = true then .ret (p, n, q) else Gu f p (n + 1) (q + 1)) := rfl
  rw [hr]
  have lvl0 : ∀ p' : Array Nat, Lvl lt p' (n + 1) 0 := fun p' a b ha ha' hb hb' => by
   have e1 : a = n := by omega
   have e2 : b = n := by omega
   rw [e1, e2]; exact O.irrefl _
  cases e : lt (At p n) (At p (n - 1)) with
  | true =>
   have le1 : lt (At p (n - 1)) (At p n) = false := O.asymm _ _ e
   by_cases hq : q > 0
   ·simp only [hq, if_true]
    have hsz : n <= p.size := by omega
    have hD : Dsc lt (DI p (n - (q + 1)) n) (n + 1) := fun a b hab hb => by
     rw [E0 hsz, E0 hsz]
     by_cases hbn : b = n
     ·subst hbn
      rw [if_neg (show ¬ (b - (q + 1) <= b /\ b < b) by omega)]
      by_cases ha : b - (q + 1) <= a /\ a < b
      ·rw [if_pos ha]
       exact O.trans _ _ _ le1 (h4 _ _ (by omega) (by omega) (by omega) (by omega))
      ·rw [if_neg ha]
       by_cases hab' : a = b
       ·rw [hab']; exact O.irrefl _
       ·exact O.trans _ _ _ le1 (h3 a (b - 1) (by omega) (by omega))
     ·by_cases hb' : n - (q + 1) <= b /\ b < n
      ·rw [if_pos hb']
       by_cases ha : n - (q + 1) <= a /\ a < n
       ·rw [if_pos ha]
        exact h4 _ _ (by omega) (by omega) (by omega) (by omega)
       ·rw [if_neg ha]
        exact h3 _ _ (by omega) (by omega)
      ·rw [if_neg hb', if_neg (by omega)]
       exact h3 _ _ hab (by omega)
    obtain ⟨p', n', q', e1, e2, e3, e4, e5, e6, e7⟩ := Ig f (DI p (n - (q + 1)) n) (n + 1) 0 (by omega) (by unfold DI; rw [mirror_size]; omega) hD (lvl0 _)
    exact ⟨p', n', q', e1, e2.trans (Ia _ _ _ _), by omega, by omega, e5, e6, e7⟩
   ·simp only [hq, if_true, if_false]
    have hD : Dsc lt p (n + 1) := fun a b hab hb => by
     by_cases hbn : b = n
     ·subst hbn
      by_cases hab' : a = b
      ·rw [hab']; exact O.irrefl _
      ·exact O.trans _ _ _ le1 (h3 a (b - 1) (by omega) (by omega))
     ·exact h3 _ _ hab (by omega)
    obtain ⟨p', n', q', e1, e2, e3, e4, e5, e6, e7⟩ := Ig f p (n + 1) 0 (by omega) (by omega) hD (lvl0 _)
    exact ⟨p', n', q', e1, e2, by omega, by omega, e5, e6, e7⟩
  | false =>
   simp only [Be, if_false]
   show ∃ p' n' q', AI lt (if lt (At p (n - 1)) (At p n) = true then .ret (p, n, q) else Gu f p (n + 1) (q + 1)) = (p', n', q') /\ _
   cases e' : lt (At p (n - 1)) (At p n) with
   | true => exact ⟨p, n, q, rfl, .refl _, Az _, by omega, h1, h3, h4⟩
   | false =>
    simp only [Be, if_false]
    have hD : Dsc lt p (n + 1) := fun a b hab hb => by
     by_cases hbn : b = n
     ·subst hbn
      by_cases hab' : a = b
      ·rw [hab']; exact O.irrefl _
      ·exact O.trans _ _ _ e' (h3 a (b - 1) (by omega) (by omega))
     ·exact h3 _ _ hab (by omega)
    have hL : Lvl lt p (n + 1) (q + 1) := fun a b ha ha' hb hb' => by
     by_cases han : a = n
     ·subst han
      by_cases hbn : b = a
      ·rw [hbn]; exact O.irrefl _
      ·exact O.trans _ _ _ (h4 (a - 1) b (by omega) (by omega) (by omega) (by omega)) e
     ·by_cases hbn : b = n
      ·subst hbn
       exact O.trans _ _ _ e' (h4 a (b - 1) (by omega) (by omega) (by omega) (by omega))
      ·exact h4 _ _ (by omega) (by omega) (by omega) (by omega)
    obtain ⟨p', n', q', e1, e2, e3, e4, e5, e6, e7⟩ := Ig f p (n + 1) (q + 1) (by omega) (by omega) hD hL
    exact ⟨p', n', q', e1, e2, by omega, by omega, e5, e6, e7⟩
theorem Nn (h1 : 1 <= n) (hn : n <= nrem) (hz : nrem <= p.size) (hD : Dsc lt p n) : ∃ m p', AI lt (kas_tail3 n nrem p) = (m, p') /\ p'.Perm p /\ 1 <= m /\ m <= nrem /\ Asc lt p' m := by iterate 1
 unfold kas_tail3
 rw [Gs]
 have hA : Asc lt (DI p 0 n) n := fun a b hab hb => by
  rw [E0 (by omega), E0 (by omega), if_pos (by omega), if_pos (by omega)]
  exact hD _ _ (by omega) (by omega)
 have sp := KE O (nrem - n) n h1 hA
 exact ⟨_, _, rfl, Ia _ _ _ _, by omega, by omega, sp.2.2.1⟩
theorem No (h1 : 1 <= n) (hn : n + 1 <= nrem) (hz : nrem <= p.size) (hD : Dsc lt p (n + 1)) : ∃ m p', AI lt (KC n nrem p) = (m, p') /\ p'.Perm p /\ 1 <= m /\ m <= nrem /\ Asc lt p' m := by iterate 1
 unfold KC
 rw [Gs]
 obtain ⟨p', n', q', e1, e2, e3, e4, e5, e6, e7⟩ := Ig O (nrem - (n + 1)) p (n + 1) 0 (by omega) (by omega) hD (fun a b ha ha' hb hb' => by
  have : a = n := by omega
  have : b = n := by omega
  subst a; subst b; exact O.irrefl _)
 rw [e1]
 dsimp only
 have hs := e2.size_eq
 by_cases hq : q' > 0
 ·rw [if_pos hq]
  have hD' : Dsc lt (DI p' (n' - (q' + 1)) n') n' := fun a b hab hb => by
   rw [E0 (by omega), E0 (by omega)]
   by_cases hb' : n' - (q' + 1) <= b /\ b < n'
   ·rw [if_pos hb']
    by_cases ha : n' - (q' + 1) <= a /\ a < n'
    ·rw [if_pos ha]
     exact e7 _ _ (by omega) (by omega) (by omega) (by omega)
    ·rw [if_neg ha]
     exact e6 _ _ (by omega) (by omega)
   ·rw [if_neg hb', if_neg (by omega)]
    exact e6 _ _ hab (by omega)
  obtain ⟨m, p'', f1, f2, f3, f4, f5⟩ := Nn O (n := n') (nrem := nrem) (by omega) (by omega) (by unfold DI; rw [mirror_size]; omega) hD'
  exact ⟨m, p'', f1, f2.trans ((Ia _ _ _ _).trans e2), f3, f4, f5⟩
 ·rw [if_neg hq]
  obtain ⟨m, p'', f1, f2, f3, f4, f5⟩ := Nn O (n := n') (nrem := nrem) (by omega) (by omega) (by omega) e6
  exact ⟨m, p'', f1, f2.trans e2, f3, f4, f5⟩
theorem RB (h1 : 1 <= nrem) (hz : nrem <= p.size) : ∃ m p', AI lt (kas_count nrem p) = (m, p') /\ p'.Perm p /\ 1 <= m /\ m <= nrem /\ Asc lt p' m := by iterate 1
 unfold kas_count
 rw [Gs]
 have sp := KE O (p := p) (nrem - 1) 1 (Az _) (fun a b hab hb => by
  have : a = 0 := by omega
  have : b = 0 := by omega
  subst a; subst b; exact O.irrefl _)
 generalize AI lt (Dt p (nrem - 1) 1) = m at sp
 obtain ⟨s1, s2, s3, s4⟩ := sp
 by_cases hm : (m == nrem) = true
 ·rw [if_pos hm]
  exact ⟨m, p, rfl, .refl _, s1, by omega, s3⟩
 ·rw [if_neg hm]
  have hm' : m ≠ nrem := fun e => hm (by simp [e])
  have e := s4 (by omega)
  by_cases h2 : m > 1
  ·rw [if_pos h2]
   show ∃ m' p', AI lt (if lt (At p 0) (At p (m - 1)) = true then KasT.ret (m, p) else KC m nrem (DI p 0 m)) = (m', p') /\ _
   cases e0 : lt (At p 0) (At p (m - 1)) with
   | true => exact ⟨m, p, rfl, .refl _, s1, by omega, s3⟩
   | false =>
    simp only [Be, if_false]
    have same : ∀ a b, a < m -> b < m -> lt (At p a) (At p b) = false := fun a b ha hb =>
     O.trans _ _ _ (s3 b (m - 1) (by omega) (by omega)) (O.trans _ _ _ e0 (s3 0 a (by omega) (by omega)))
    have hD : Dsc lt (DI p 0 m) (m + 1) := fun a b hab hb => by
     rw [E0 (by omega), E0 (by omega)]
     by_cases hbm : b = m
     ·subst hbm
      rw [if_neg (show ¬ (0 <= b /\ b < b) by omega)]
      by_cases ha : a = b
      ·rw [if_neg (by omega), ha]; exact O.irrefl _
      ·rw [if_pos (by omega)]
       exact O.trans _ _ _ (O.asymm _ _ e) (same _ _ (by omega) (by omega))
     ·rw [if_pos (by omega), if_pos (by omega)]
      exact same _ _ (by omega) (by omega)
    obtain ⟨m', p'', f1, f2, f3, f4, f5⟩ := No O (n := m) (nrem := nrem) s1 (by omega) (by unfold DI; rw [mirror_size]; omega) hD
    exact ⟨m', p'', f1, f2.trans (Ia _ _ _ _), f3, f4, f5⟩
  ·rw [if_neg h2]
   have hm1 : m = 1 := by omega
   subst hm1
   have hD : Dsc lt p (1 + 1) := fun a b hab hb => by
    by_cases hb1 : b = 1
    ·subst hb1
     by_cases ha : a = 1
     ·rw [ha]; exact O.irrefl _
     ·have : a = 0 := by omega
      subst this; exact O.asymm _ _ e
    ·have : a = 0 := by omega
     have : b = 0 := by omega
     subst a; subst b; exact O.irrefl _
   exact No O (Az _) (by omega) hz hD
theorem KG (hs : Asc lt p k) : ∀ (f l r : Nat), l <= r -> r <= k -> r - l <= f -> (∀ i, i < l -> lt (At p k) (At p i) = false) -> (∀ i, r <= i -> i < k -> lt (At p k) (At p i) = true) ->
  AI lt (CL p k f l r) <= k /\ (∀ i, i < AI lt (CL p k f l r) -> lt (At p k) (At p i) = false) /\ ∀ i, AI lt (CL p k f l r) <= i -> i < k -> lt (At p k) (At p i) = true
 | 0, l, r, h1, h2, h3, h4, h5 => by iterate 1
  have : l = r := by omega
  subst this
  exact ⟨h2, h4, h5⟩
 | f + 1, l, r, h1, h2, h3, h4, h5 => by iterate 1
  have hr : AI lt (CL p k (f + 1) l r) = AI lt (if l ≥ r then KasT.ret l else .ask (p.getD k 0) (p.getD ((l + r) / 2) 0) fun c => if c = true then CL p k f l ((l + r) / 2) else CL p k f ((l + r) / 2 + 1) r) := rfl
  rw [hr]
  by_cases hlr : l ≥ r
  ·rw [if_pos hlr]
   have : l = r := by omega
   subst this
   exact ⟨h2, h4, h5⟩
  ·rw [if_neg hlr]
   show AI lt (if lt (At p k) (At p ((l + r) / 2)) = true then CL p k f l ((l + r) / 2) else CL p k f ((l + r) / 2 + 1) r) <= k /\ (∀ i, i < AI lt (if lt (At p k) (At p ((l + r) / 2)) = true then CL p k f l ((l + r) / 2) else CL p k f ((l + r) / 2 + 1) r) -> _) /\ ∀ i, AI lt (if lt (At p k) (At p ((l + r) / 2)) = true then CL p k f l ((l + r) / 2) else CL p k f ((l + r) / 2 + 1) r) <= i -> _
   cases e : lt (At p k) (At p ((l + r) / 2)) with
   | true =>
    simp only [if_true]
    refine KG hs f l ((l + r) / 2) (by omega) (by omega) (by omega) h4 fun i hi hik => ?_
    by_cases q : r <= i
    ·exact h5 i q hik
    ·cases e2 : lt (At p k) (At p i) with
     | true => rfl
     | false => exact absurd (O.trans _ _ _ (hs ((l + r) / 2) i hi hik) e2) (by rw [e]; decide)
   | false =>
    simp only [Be, if_false]
    refine KG hs f ((l + r) / 2 + 1) r (by omega) h2 (by omega) (fun i hi => ?_) h5
    exact O.trans _ _ _ (hs i ((l + r) / 2) (by omega) (by omega)) e
theorem Np : ∀ (f : Nat) (p : Array Nat) (k : Nat), k + f <= p.size -> Asc lt p k -> (AI lt (kas_bin f p k)).Perm p /\ Asc lt (AI lt (kas_bin f p k)) (k + f)
 | 0, p, k, h1, h2 => ⟨.refl _, h2⟩
 | f + 1, p, k, h1, h2 => by iterate 1
  have hr : AI lt (kas_bin (f + 1) p k) = AI lt (kas_bin f (bubble p k (k - AI lt (CL p k k 0 k))) (k + 1)) := by
   show AI lt ((CL p k k 0 k).bind fun l => kas_bin f (bubble p k (k - l)) (k + 1)) = _
   rw [Gs]
  rw [hr]
  obtain ⟨s1, s2, s3⟩ := KG O h2 k 0 k (BC _) (Az _) (by omega) (fun i hi => by omega) (fun i hi hk => by omega)
  generalize AI lt (CL p k k 0 k) = l at s1 s2 s3
  have hA : Asc lt (bubble p k (k - l)) (k + 1) := fun a b hab hb => by
   rw [Nm (by omega) (by omega), Nm (by omega) (by omega)]
   have ekl : k - (k - l) = l := by omega
   rw [ekl]
   by_cases hb1 : b = l
   ·rw [if_pos hb1]
    by_cases ha1 : a = l
    ·rw [if_pos ha1]; exact O.irrefl _
    ·rw [if_neg ha1, if_neg (by omega)]
     exact s2 a (by omega)
   ·rw [if_neg hb1]
    by_cases hb2 : l < b /\ b <= k
    ·rw [if_pos hb2]
     by_cases ha1 : a = l
     ·rw [if_pos ha1]
      exact O.asymm _ _ (s3 (b - 1) (by omega) (by omega))
     ·rw [if_neg ha1]
      by_cases ha2 : l < a /\ a <= k
      ·rw [if_pos ha2]
       exact h2 _ _ (by omega) (by omega)
      ·rw [if_neg ha2]
       exact h2 _ _ (by omega) (by omega)
    ·rw [if_neg hb2, if_neg (by omega), if_neg (by omega)]
     exact h2 _ _ hab (by omega)
  obtain ⟨i1, i2⟩ := Np f (bubble p k (k - l)) (k + 1) (by rw [bubble_size]; omega) hA
  exact ⟨i1.trans (bubble_perm _ _ _), by rw [show k + (f + 1) = k + 1 + f by omega]; exact i2⟩
theorem Ih (n : Nat) (h1 : 1 <= n) : (AI lt (Ez n)).Perm (List.toArray (Bn n)) /\ Asc lt (AI lt (Ez n)) n := by iterate 1
 unfold Ez
 rw [Gs]
 obtain ⟨m, p', e1, e2, e3, e4, e5⟩ := RB O (nrem := n) (p := List.toArray (Bn n)) h1 (by simp)
 rw [e1]
 dsimp only
 have hs := e2.size_eq
 simp at hs
 by_cases hlt : m < n
 ·rw [if_pos hlt]
  have em : max m 1 = m := by omega
  rw [em]
  obtain ⟨i1, i2⟩ := Np O (n - m) p' m (by omega) e5
  exact ⟨i1.trans e2, by rw [show m + (n - m) = n by omega] at i2; exact i2⟩
 ·rw [if_neg hlt]
  have : m = n := by omega
  subst this
  exact ⟨e2, e5⟩
end
inductive D where
 | none
 | bool (b : Bool)
 | int (i : Int)
 | str (s : Str)
 | tup (ds : List D)
 | ref (a : Addr)
noncomputable abbrev AV (vs : List Value) (n : Nat) : Obj := { cls := .type "tuple", data := .seq vs.toArray n }
noncomputable abbrev Ct (vs : List Value) (n : Nat) : Obj := { cls := .type "list", data := .seq vs.toArray n }
mutual
inductive Aj (B : Addr -> Prop) (h : Heap) : Value -> D -> Prop
 | none : Aj B h .none .none
 | bool (b : Bool) : Aj B h (.bool b) (.bool b)
 | int (i : Int) (t : Tok) : Aj B h (.int i t) (.int i)
 | str (s : Str) (t : Tok) : Aj B h (.str s t) (.str s)
 | tup {a : Addr} {vs : List Value} {n : Nat} {ds : List D} : ¬ B a -> h.get? a = some (AV vs n) -> Ak B h vs ds -> Aj B h (.ref a) (.tup ds)
 | ref (a : Addr) : Aj B h (.ref a) (.ref a)
inductive Ak (B : Addr -> Prop) (h : Heap) : List Value -> List D -> Prop
 | nil : Ak B h [] []
 | cons {v : Value} {d : D} {vs : List Value} {ds : List D} : Aj B h v d -> Ak B h vs ds -> Ak B h (v :: vs) (d :: ds)
end
noncomputable def AW (h h' : Heap) : Prop := ∀ b vs n, h.get? b = some (AV vs n) -> h'.get? b = some (AV vs n)
noncomputable def DW (B : Addr -> Prop) (h h' : Heap) : Prop := ∀ b vs n, h.get? b = some (AV vs n) -> ¬ B b -> h'.get? b = some (AV vs n)
theorem AW.b (k : AW h h') : DW B h h' := fun b vs n e _ => k b vs n e
mutual
theorem Aj.mono' (k : DW B h h') : ∀ {v : Value} {d : D}, Aj B h v d -> Aj B h' v d
 | _, _, .none => .none
 | _, _, .bool b => .bool b
 | _, _, .int i t => .int i t
 | _, _, .str s t => .str s t
 | _, _, .ref a => .ref a
 | _, _, .tup hb ho hs => .tup hb (k _ _ _ ho hb) (Ak.mono' k hs)
theorem Ak.mono' (k : DW B h h') : ∀ {vs : List Value} {ds : List D}, Ak B h vs ds -> Ak B h' vs ds
 | _, _, .nil => .nil
 | _, _, .cons a b => .cons (Aj.mono' k a) (Ak.mono' k b)
end
theorem Aj.mono (k : AW h h') (x : Aj B h v d) : Aj B h' v d := Aj.mono' k.b x
theorem Ak.mono (k : AW h h') (x : Ak B h v d) : Ak B h' v d := Ak.mono' k.b x
theorem Ak.length : ∀ {vs : List Value} {ds : List D}, Ak B h vs ds -> vs.length = ds.length
 | _, _, .nil => rfl
 | _, _, .cons _ b => by simp [Ak.length b]
theorem Ak.append : ∀ {vs : List Value} {ds : List D} {ws : List Value} {es : List D}, Ak B h vs ds -> Ak B h ws es -> Ak B h (vs ++ ws) (ds ++ es)
 | _, _, _, _, .nil, y => y
 | _, _, _, _, .cons a b, y => .cons a (Ak.append b y)
theorem Ak.get : ∀ {vs : List Value} {ds : List D}, Ak B h vs ds -> ∀ {i : Nat} {d : D}, ds[i]? = some d -> ∃ v, vs[i]? = some v /\ Aj B h v d
 | _, _, .nil, i, d, e => by simp at e
 | _, _, .cons a b, 0, d, e => by simp at e; subst e; exact ⟨_, rfl, a⟩
 | _, _, .cons a b, i + 1, d, e => by iterate 1
  simp only [RC] at e
  obtain ⟨v, hv, r⟩ := Ak.get b e
  exact ⟨v, by simpa using hv, r⟩
theorem Ak.drop : ∀ {vs : List Value} {ds : List D} (n : Nat), Ak B h vs ds -> Ak B h (vs.drop n) (ds.drop n)
 | _, _, 0, x => x
 | _, _, n + 1, .nil => .nil
 | _, _, n + 1, .cons _ b => Ak.drop n b
theorem Ak.take : ∀ {vs : List Value} {ds : List D} (n : Nat), Ak B h vs ds -> Ak B h (vs.take n) (ds.take n)
 | _, _, 0, x => .nil
 | _, _, n + 1, .nil => .nil
 | _, _, n + 1, .cons a b => .cons a (Ak.take n b)
theorem Ak.set : ∀ {vs : List Value} {ds : List D} (n : Nat) {v : Value} {d : D}, Ak B h vs ds -> Aj B h v d -> Ak B h (vs.set n v) (ds.set n d)
 | _, _, _, _, _, .nil, _ => .nil
 | _, _, 0, _, _, .cons _ b, x => .cons x b
 | _, _, n + 1, _, _, .cons a b, x => .cons a (Ak.set n b x)
mutual
noncomputable def Br (w : World) : D -> Int
 | .int i => hashInt i
 | .str s => hashStr w s
 | .tup ds => reduceHash (Hi (Eg w ds))
 | _ => 0
noncomputable def Eg (w : World) : List D -> List Int
 | [] => []
 | d :: ds => Br w d :: Eg w ds
end
noncomputable def Al : Nat -> D -> Bool
 | _, .int _ => true
 | _, .str s => E1 s
 | n + 1, .tup ds => ds.all (Al n)
 | _, _ => false
inductive MO where
 | list (ds : List D)
 | dictS (es : List (Str × D))
 | dictI (es : List (Int × D))
 | dictT (es : List (List D × D))
 | set (ds : List D)
 | inst (C d : Addr)
 | ns (es : List (Str × D))
 | raw (o : Obj)
structure Cx where
 prog : Program
 bad : Addr -> Prop
 w : World
 K : Frag
 h₀ : Heap
 os : OsState
 low : ∃ o, h₀.get? mainGlobals = some o
noncomputable abbrev Cx.M (c : Cx) : Model := model c.prog c.w
noncomputable def AF {K : Type} (B : Addr -> Prop) (h : Heap) : List (K × Value) -> List (K × D) -> Prop
 | [], [] => True
 | (k, v) :: r, (k', d) :: r' => k = k' /\ Aj B h v d /\ AF B h r r'
 | _, _ => False
theorem AF.mono' {K : Type} (k : DW B h h') : ∀ {x : List (K × Value)} {y : List (K × D)}, AF B h x y -> AF B h' x y
 | [], [], _ => trivial
 | (_, _) :: _, (_, _) :: _, ⟨a, b, r⟩ => ⟨a, b.mono' k, AF.mono' k r⟩
 | [], _ :: _, f => f.elim
 | _ :: _, [], f => f.elim
theorem AF.mono {K : Type} {B : Addr -> Prop} {h h' : Heap} (k : AW h h') {x : List (K × Value)} {y : List (K × D)} (r : AF B h x y) : AF B h' x y := AF.mono' k.b r
noncomputable def Du (B : Addr -> Prop) (w : World) (h : Heap) : List DictEntry -> List (List D × D) -> Prop
 | [], [] => True
 | e :: r, (k, d) :: r' => e.hash = Br w (.tup k) /\ Aj B h e.key (.tup k) /\ Al 4 (.tup k) = true /\ Aj B h e.val d /\ Du B w h r r'
 | _, _ => False
theorem Du.mono' (k : DW B h h') : ∀ {x : List DictEntry} {y : List (List D × D)}, Du B w h x y -> Du B w h' x y
 | [], [], _ => trivial
 | _ :: _, (_, _) :: _, ⟨a, b, q, c, r⟩ => ⟨a, b.mono' k, q, c.mono' k, Du.mono' k r⟩
 | [], _ :: _, f => f.elim
 | _ :: _, [], f => f.elim
noncomputable def Bu (B : Addr -> Prop) (h : Heap) : List DictEntry -> List (Str × D) -> Prop
 | [], [] => True
 | e :: r, (k, d) :: r' => (∃ t, e.key = .str k t) /\ Aj B h e.val d /\ Bu B h r r'
 | _, _ => False
theorem Bu.mono' (k : DW B h h') : ∀ {x : List DictEntry} {y : List (Str × D)}, Bu B h x y -> Bu B h' x y
 | [], [], _ => trivial
 | _ :: _, (_, _) :: _, ⟨a, b, r⟩ => ⟨a, b.mono' k, Bu.mono' k r⟩
 | [], _ :: _, f => f.elim
 | _ :: _, [], f => f.elim
theorem Bu.mono (k : AW h h') (r : Bu B h x y) : Bu B h' x y := Bu.mono' k.b r
noncomputable def Dv (x : Str) (d : D) : List (Str × D) -> List (Str × D)
 | [] => [(x, d)]
 | (k, e) :: r => if k = x then (k, d) :: r else (k, e) :: Dv x d r
theorem Bu.getL {B : Addr -> Prop} {h : Heap} {x : Str} : ∀ {arr : List DictEntry} {es : List (Str × D)}, Bu B h arr es -> match es.lookup x with
  | some d => ∃ v, PySem.W.getL x arr = some (some v) /\ Aj B h v d
  | none => PySem.W.getL x arr = some none
 | [], [], _ => rfl
 | e :: r, (k, d) :: r', ⟨⟨t, hk⟩, hd, hr⟩ => by iterate 1
  have ih := Bu.getL (x := x) hr
  rw [AY]
  unfold PySem.W.getL at ih ⊢
  rw [Hj, KH]
  cases q : x == k with
  | true =>
   have : e.key.isStr x = true := by rw [hk]; show (k == x) = true; rw [DX q]; exact beq_self_eq_true _
   rw [this]
   exact ⟨_, rfl, hd⟩
  | false =>
   have : e.key.isStr x = false := by
    rw [hk]; show (k == x) = false
    rw [beq_eq_false_iff_ne] at q ⊢; exact fun z => q z.symm
   rw [this]
   have hr2 : e.refKey = false := by simp [DictEntry.refKey, hk]
   rw [hr2, Bool.false_or]
   exact ih
 | [], _ :: _, f => f.elim
 | _ :: _, [], f => f.elim
theorem Bu.putL (hv : Aj B h v d) : ∀ {arr : List DictEntry} {es : List (Str × D)}, Bu B h arr es ->
  Bu B h (PySem.W.putL x hsh (.str x t) v arr) (Dv x d es)
 | [], [], _ => ⟨⟨t, rfl⟩, hv, trivial⟩
 | e :: r, (k, d') :: r', ⟨⟨t', hk⟩, hd, hr⟩ => by iterate 1
  unfold PySem.W.putL Dv
  by_cases q : k = x
  ·have : e.key.isStr x = true := by rw [hk]; show (k == x) = true; rw [q]; exact beq_self_eq_true _
   rw [if_pos this, if_pos q]
   exact ⟨⟨t', hk⟩, hv, hr⟩
  ·have : e.key.isStr x = false := by rw [hk]; show (k == x) = false; rw [beq_eq_false_iff_ne]; exact q
   rw [if_neg (by rw [this]; exact Cu), if_neg q]
   exact ⟨⟨t', hk⟩, hd, Bu.putL hv hr⟩
 | [], _ :: _, f => f.elim
 | _ :: _, [], f => f.elim
theorem Bu.length : ∀ {arr : List DictEntry} {es : List (Str × D)}, Bu B h arr es -> arr.length = es.length
 | [], [], _ => rfl
 | _ :: _, (_, _) :: _, ⟨_, _, r⟩ => by simp [Bu.length r]
 | [], _ :: _, f => f.elim
 | _ :: _, [], f => f.elim
noncomputable def FI (xs : Array Nat) : Prop := ∀ i k, i < k -> k < xs.size -> xs.getD i 0 < xs.getD k 0
structure TOk (b : Bool) (t : SetTable) : Prop where
 dum : t.dummies = #[]
 led : t.led = b
 rise : FI t.place
noncomputable abbrev BV (es : Array (Int × Value)) (ep : Nat) (t : SetTable) : Obj := { cls := .type "set", dict := none, data := .set es ep t, slots := #[] }
noncomputable def DY (w : World) : Bool := !w.params.followText "set-order"
noncomputable def A4 (B : Addr -> Prop) (w : World) (h : Heap) : List (Int × Value) -> List D -> Prop
 | [], [] => True
 | e :: r, d :: r' => e.1 = Br w d /\ Aj B h e.2 d /\ Al 4 d = true /\ A4 B w h r r'
 | _, _ => False
theorem A4.mono' (k : DW B h h') : ∀ {x : List (Int × Value)} {y : List D}, A4 B w h x y -> A4 B w h' x y
 | [], [], _ => trivial
 | _ :: _, _ :: _, ⟨a, b, q, r⟩ => ⟨a, b.mono' k, q, A4.mono' k r⟩
 | [], _ :: _, f => f.elim
 | _ :: _, [], f => f.elim
noncomputable def BD (c : Cx) (h : Heap) (a : Addr) : MO -> Prop
 | .list ds => ∃ vs n, h.get? a = some (Ct vs n) /\ Ak c.bad h vs ds
 | .dictS es => ∃ kvs, h.DictOf (PySem.strKind c.prog c.w) a kvs /\ AF c.bad h kvs es
 | .dictI es => ∃ kvs, h.DictOf (intKind c.prog c.w) a kvs /\ AF c.bad h kvs es
 | .dictT es => ∃ o arr ep, h.get? a = some o /\ o.ExactDict /\ o.data = .dict arr ep /\ Du c.bad c.w h arr.toList es /\ (es.map (·.1)).Nodup
 | .set ds => ∃ es ep t, h.get? a = some (BV es ep t) /\ A4 c.bad c.w h es.toList ds /\ TOk (DY c.w) t /\ t.place.size = es.size /\ es.size <= t.mask
 | .inst C d => h.get? a = some (instObj C d)
 | .ns es => ∃ arr n, h.get? a = some (dictOf arr n) /\ Bu c.bad h arr es
 | .raw ob => h.get? a = some ob /\ ob.cls ≠ .type "tuple"
theorem BD.mono' (x : BD c h a o) (e : ∀ ob, h.get? a = some ob -> h'.get? a = some ob) (k : DW c.bad h h') : BD c h' a o := by iterate 1
 cases o with
 | list ds => obtain ⟨vs, n, ho, r⟩ := x; exact ⟨vs, n, e _ ho, r.mono' k⟩
 | dictS es => obtain ⟨kvs, ⟨o, arr, ep, ho, q⟩, r⟩ := x; exact ⟨kvs, ⟨o, arr, ep, e _ ho, q⟩, r.mono' k⟩
 | dictI es => obtain ⟨kvs, ⟨o, arr, ep, ho, q⟩, r⟩ := x; exact ⟨kvs, ⟨o, arr, ep, e _ ho, q⟩, r.mono' k⟩
 | dictT es => obtain ⟨o, arr, ep, ho, hx, hd, r, nd⟩ := x; exact ⟨o, arr, ep, e _ ho, hx, hd, r.mono' k, nd⟩
 | set ds => obtain ⟨es, ep, t, ho, r, q⟩ := x; exact ⟨es, ep, t, e _ ho, r.mono' k, q⟩
 | inst C d => exact e _ x
 | ns es => obtain ⟨arr, n, ho, r⟩ := x; exact ⟨arr, n, e _ ho, r.mono' k⟩
 | raw ob => exact ⟨e _ x.1, x.2⟩
theorem BD.mono (x : BD c h a o) (e : ∀ ob, h.get? a = some ob -> h'.get? a = some ob) (k : AW h h') : BD c h' a o := BD.mono' x e k.b
theorem BD.some (x : BD c h a o) : ∃ ob, h.get? a = some ob /\ ∀ vs n, ob ≠ AV vs n := by iterate 1
 have hd : ∀ ob : Obj, ob.ExactDict -> ∀ vs n, ob ≠ AV vs n := fun ob h vs n e => by have := h.1; rw [e] at this; exact absurd this (by show Value.type "tuple" ≠ Value.type "dict"; decide)
 cases o with
 | list ds => obtain ⟨vs, n, ho, r⟩ := x; exact ⟨_, ho, fun ws k e => absurd (congrArg Obj.cls e) (by show Value.type "list" ≠ Value.type "tuple"; decide)⟩
 | dictS es => obtain ⟨kvs, ⟨o, arr, ep, ho, q⟩, r⟩ := x; exact ⟨o, ho, hd _ q.1⟩
 | dictI es => obtain ⟨kvs, ⟨o, arr, ep, ho, q⟩, r⟩ := x; exact ⟨o, ho, hd _ q.1⟩
 | dictT es => obtain ⟨o, arr, ep, ho, hx, r⟩ := x; exact ⟨o, ho, hd _ hx⟩
 | set ds => obtain ⟨es, ep, t, ho, r, q⟩ := x; exact ⟨_, ho, fun ws k e => absurd (congrArg Obj.cls e) (by show Value.type "set" ≠ Value.type "tuple"; decide)⟩
 | inst C d => exact ⟨_, x, fun vs n e => by cases e⟩
 | ns es => obtain ⟨arr, n, ho, r⟩ := x; exact ⟨_, ho, fun ws k e => absurd (congrArg Obj.cls e) (by show Value.type "dict" ≠ Value.type "tuple"; decide)⟩
 | raw ob => exact ⟨_, x.1, fun vs n e => x.2 (by rw [e])⟩
noncomputable abbrev Aa := Addr -> Option MO
noncomputable def Sim (c : Cx) (σ : Aa) (s : Shared) : Prop :=
 (∀ a o, σ a = some o -> BD c s.heap a o /\ c.h₀.get? a = none /\ a ≠ sysModules) /\ (∀ b o, c.h₀.get? b = some o -> s.heap.get? b = some o) /\ s.gens = #[] /\ s.os = c.os /\ ∀ a, c.bad a -> ∃ vs n, s.heap.get? a = some (AV vs n)
noncomputable def Frm (σ : Aa) (h : Heap) (σ' : Aa) (h' : Heap) : Prop :=
 (∀ b o, σ b = none -> h.get? b = some o -> h'.get? b = some o) /\ ∀ b o, h.get? b = some o -> σ b = none -> σ' b = none
theorem Frm.refl (σ : Aa) (h : Heap) : Frm σ h σ h := ⟨fun _ _ _ e => e, fun _ _ _ e => e⟩
theorem Frm.trans {σ σ1 σ2 : Aa} {h h1 h2 : Heap} (x : Frm σ h σ1 h1) (y : Frm σ1 h1 σ2 h2) : Frm σ h σ2 h2 := by iterate 1
 exact
  ⟨fun b o hb e => y.1 b o (x.2 b o e hb) (x.1 b o hb e), fun b o e hb => y.2 b o (x.1 b o hb e) (x.2 b o e hb)⟩
theorem Sim.off_tup {c : Cx} {σ : Aa} {s : Shared} (S : Sim c σ s) {b : Addr} {vs : List Value} {n : Nat} (e : s.heap.get? b = some (AV vs n)) : σ b = none := by iterate 1
 cases hb : σ b with
 | none => rfl
 | some o =>
  obtain ⟨ob, ho, hc⟩ := (S.1 b o hb).1.some
  rw [e] at ho; cases ho; exact absurd rfl (hc _ _)
theorem Sim.lt (S : Sim c σ s) (e : σ b = some o) : b < s.heap.objs.size := by iterate 1
 obtain ⟨ob, ho, _⟩ := (S.1 b o e).1.some
 exact AZ ho
theorem Frm.tups {c : Cx} {σ σ' : Aa} {s s' : Shared} (S : Sim c σ s) (F : Frm σ s.heap σ' s'.heap) : AW s.heap s'.heap := by iterate 1
 exact fun b _ _ e => F.1 b _ (S.off_tup e) e
noncomputable def Ah (c : Cx) (σ : Aa) (s : Shared) (σ' : Aa) (s' : Shared) : Prop := Sim c σ' s' /\ Frm σ s.heap σ' s'.heap
theorem Ah.refl (S : Sim c σ s) : Ah c σ s σ s := ⟨S, .refl ..⟩
theorem Ah.trans {c : Cx} {σ σ1 σ2 : Aa} {s s1 s2 : Shared} (x : Ah c σ s σ1 s1) (y : Ah c σ1 s1 σ2 s2) : Ah c σ s σ2 s2 := ⟨y.1, x.2.trans y.2⟩
theorem Ah.rel {c : Cx} {σ σ1 : Aa} {s s1 : Shared} {v : Value} {d : D} (x : Ah c σ s σ1 s1) (S : Sim c σ s) (r : Aj c.bad s.heap v d) : Aj c.bad s1.heap v d := r.mono (x.2.tups S)
theorem Ah.rels {c : Cx} {σ σ1 : Aa} {s s1 : Shared} {v : List Value} {d : List D} (x : Ah c σ s σ1 s1) (S : Sim c σ s) (r : Ak c.bad s.heap v d) : Ak c.bad s1.heap v d := r.mono (x.2.tups S)
noncomputable def Sub (σ' σ : Aa) : Prop := ∀ a o, σ' a = some o -> σ a = some o
theorem Sim.sub (S : Sim c σ s) (h : Sub σ' σ) : Sim c σ' s := ⟨fun a o e => S.1 a o (h a o e), S.2⟩
noncomputable def Aa.set (σ : Aa) (a : Addr) (o : MO) : Aa := fun b => if b = a then some o else σ b
@[simp] theorem Aa.DZ (σ : Aa) (a : Addr) (o : MO) : (σ.set a o) a = some o := by simp [Aa.set]
theorem Aa.B5 (σ : Aa) {a b : Addr} (o : MO) (h : b ≠ a) : (σ.set a o) b = σ b := by simp [Aa.set, h]
inductive Ret {α β : Type} (R : Heap -> α -> β -> Prop) (c : Cx) (σ : Aa) (s : Shared) (Q : β -> Aa -> Prop) (v : α) (s' : Shared) : Prop
 | mk (d : β) (σ' : Aa) (q : Q d σ') (p : Ah c σ s σ' s') (r : R s'.heap v d) : Ret R c σ s Q v s'
noncomputable def WR {α β : Type} (R : Heap -> α -> β -> Prop) (c : Cx) (A : Around) (t : Sem α) (σ : Aa) (Q : β -> Aa -> Prop) (s : Shared) : Prop :=
 wpAny c.M A t (Ret R c σ s Q) (fun _ _ => False) s
noncomputable abbrev W (c : Cx) (A : Around) (t : Sem Value) (σ : Aa) (Q : D -> Aa -> Prop) (s : Shared) : Prop := WR (Aj c.bad) c A t σ Q s
noncomputable abbrev WL (c : Cx) (A : Around) (t : Sem (List Value)) (σ : Aa) (Q : List D -> Aa -> Prop) (s : Shared) : Prop := WR (Ak c.bad) c A t σ Q s
noncomputable def REq {α : Type} (_ : Heap) (a b : α) : Prop := a = b
noncomputable abbrev WE {α : Type} (c : Cx) (A : Around) (t : Sem α) (σ : Aa) (Q : α -> Aa -> Prop) (s : Shared) : Prop := WR REq c A t σ Q s
section
variable {α β γ δ : Type} {R : Heap -> α -> β -> Prop} {R' : Heap -> γ -> δ -> Prop} {c : Cx} {A : Around} {σ : Aa} {s : Shared}
theorem WR.mono (h : WR R c A t σ Q s) (k : ∀ d σ', Q d σ' -> Q' d σ') : WR R c A t σ Q' s := by iterate 1
 exact
  Ai h (fun _ _ ⟨d, σ', a, b, e⟩ => ⟨d, σ', k d σ' a, b, e⟩) fun _ _ e => e
theorem WR.bind {m : Sem α} {f : α -> Sem γ} {Q₁ : β -> Aa -> Prop} {Q : δ -> Aa -> Prop} (hm : WR R c A m σ Q₁ s)
   (hf : ∀ v s1 d σ1, Q₁ d σ1 -> Ah c σ s σ1 s1 -> R s1.heap v d -> WR R' c A (f v) σ1 Q s1) : WR R' c A (m >>= f) σ Q s := by iterate 1
 exact
  Ab (Ai hm (fun v s1 ⟨d, σ1, q, p, r⟩ => Ai (hf v s1 d σ1 q p r) (fun _ _ ⟨e, σ2, q2, p2, r2⟩ => ⟨e, σ2, q2, p.trans p2, r2⟩) fun _ _ e => e) fun _ _ e => e)
theorem WR.pure (S : Sim c σ s) (q : Q d σ) (r : R s.heap v d) : WR R c A (Pure.pure v) σ Q s := Ad ⟨d, σ, q, .refl S, r⟩
theorem WR.holding (h : WR R c A m σ Q s) : WR R c A (holding vs m) σ Q s := Bh h
theorem WR.seq (h : wpAny c.M A m (fun v s' => s' = s /\ WR R c A (f v) σ Q s) (fun _ _ => False) s) : WR R c A (m >>= f) σ Q s := by iterate 1
 exact
  Ab (Ai h (fun _ _ ⟨e, k⟩ => e ▸ k) fun _ _ e => e)
theorem WR.standAt (h : WR R c A (f ()) σ Q s) : WR R c A (PySem.standAt p >>= f) σ Q s := Ab (EB h)
end
theorem Sim.heap (S : Sim c σ s) (k : ∀ a o, σ a = some o -> BD c h' a o) (k0 : ∀ b o, c.h₀.get? b = some o -> h'.get? b = some o) (kz : AW s.heap h') :
  Sim c σ { s with heap := h', toks := t } := by iterate 1
 exact ⟨fun a o e => ⟨k a o e, (S.1 a o e).2⟩, k0, S.2.2.1, S.2.2.2.1, fun a ha => let ⟨vs, n, e⟩ := S.2.2.2.2 a ha; ⟨vs, n, kz _ _ _ e⟩⟩
theorem Sim.push (S : Sim c σ s) (o : Obj) (t : Nat) : Sim c σ { s with heap := s.heap.push o, toks := t } := by iterate 1
 exact
  S.heap (fun a x e => (S.1 a x e).1.mono (fun _ e => AA _ e) fun _ _ _ e => AA _ e) (fun b x e => AA _ (S.2.1 b x e)) (fun _ _ _ e => AA _ e)
theorem Frm.push (σ : Aa) (h : Heap) (o : Obj) : Frm σ h σ (h.push o) := ⟨fun _ _ _ e => AA _ e, fun _ _ _ e => e⟩
theorem Ah.push (S : Sim c σ s) (o : Obj) (t : Nat) : Ah c σ s σ { s with heap := s.heap.push o, toks := t } := ⟨S.push o t, .push ..⟩
theorem Sim.freshB (S : Sim c σ s) : ¬ c.bad s.heap.objs.size := by iterate 1
 exact fun h => let ⟨_, _, e⟩ := S.2.2.2.2 _ h; Ef _ (AZ e)
theorem Sim.fresh (S : Sim c σ s) : σ s.heap.objs.size = none := by
 cases e : σ s.heap.objs.size with
 | none => rfl
 | some o => exact absurd (S.lt e) (Ef _)
theorem Sim.fresh_sys (S : Sim c σ s) : s.heap.objs.size ≠ sysModules := by iterate 1
 obtain ⟨o, e⟩ := c.low
 have := AZ (S.2.1 _ _ e)
 intro q
 rw [q] at this
 exact absurd this (by decide)
theorem Sim.fresh₀ (S : Sim c σ s) : c.h₀.get? s.heap.objs.size = none := by iterate 1
 cases e : c.h₀.get? s.heap.objs.size with
 | none => rfl
 | some o => exact absurd (AZ (S.2.1 _ _ e)) (Ef _)
theorem Ah.EC (S : Sim c σ s) (ob : Obj) (t : Nat) (h : BD c (s.heap.push ob) s.heap.objs.size o) :
  Ah c σ s (σ.set s.heap.objs.size o) { s with heap := s.heap.push ob, toks := t } := by iterate 1
 refine ⟨⟨fun a x e => ?_, (S.push ob t).2⟩, (Frm.push σ s.heap ob).1, fun b o' hb e => ?_⟩
 ·unfold Aa.set at e
  by_cases q : a = s.heap.objs.size
  ·rw [if_pos q] at e; cases e; subst q; exact ⟨h, S.fresh₀, S.fresh_sys⟩
  ·rw [if_neg q] at e; exact (S.push ob t).1 a x e
 ·rw [Aa.B5 _ _ (A8 (AZ hb))]; exact e
theorem Ah.Ii (S : Sim c σ s) (t : Nat) (ha : σ a = some o) (hs : Heap.SameBut a s.heap h')
  (h : AW s.heap h' -> BD c h' a o') : Ah c σ s (σ.set a o') { s with heap := h', toks := t } := by iterate 1
 have hk : AW s.heap h' := fun b vs n e => by
  have : b ≠ a := fun q => by rw [q] at e; have := S.off_tup e; rw [ha] at this; cases this
  exact (hs.2 b this).trans e
 refine ⟨⟨fun b x e => ?_, fun b x e => ?_, S.2.2.1, S.2.2.2.1, fun a ha => let ⟨vs, n, e⟩ := S.2.2.2.2 a ha; ⟨vs, n, hk _ _ _ e⟩⟩, fun b x hb e => ?_, fun b _ _ e => ?_⟩
 ·unfold Aa.set at e
  by_cases q : b = a
  ·rw [if_pos q] at e; cases e; subst q; exact ⟨h hk, (S.1 _ _ ha).2⟩
  ·rw [if_neg q] at e; exact ⟨(S.1 b x e).1.mono (fun ob z => (hs.2 b q).trans z) hk, (S.1 b x e).2⟩
 ·have : b ≠ a := fun q => by rw [q, (S.1 _ _ ha).2.1] at e; cases e
  exact (hs.2 b this).trans (S.2.1 b x e)
 ·have : b ≠ a := fun q => by rw [q, ha] at hb; cases hb
  exact (hs.2 b this).trans e
 ·have : b ≠ a := fun q => by rw [q, ha] at e; cases e
  rw [Aa.B5 _ _ this]; exact e
noncomputable abbrev Au := List (Str × D)
structure EnvOk (c : Cx) (env : Env) : Prop where
 kind : env.scope.kind = .function
 globals : env.globals = mainGlobals
 builtins : env.builtins = builtinsNs
 h0L : c.h₀.get? env.locals = none
 h0c : ∀ x a, env.cells.lookup x = some a -> c.h₀.get? a = none
 apart : env.cells.Pairwise fun x y => x.2 ≠ y.2
 Lc : ∀ x a, env.cells.lookup x = some a -> a ≠ env.locals
noncomputable def has (env : Env) (a : Addr) : Prop := a = env.locals ∨ ∃ x, env.cells.lookup x = some a
noncomputable def own (env : Env) (a : Addr) : Prop := a = env.locals ∨ (env.func.isSome = true /\ ∃ x, env.cells.lookup x = some a)
theorem own.has : own env a -> has env a := Or.imp id And.right
structure E2 (B : Addr -> Prop) (env : Env) (m : Au) (h : Heap) : Prop where
 ns : ∃ mm, h.Ns env.locals mm /\ ∀ x d, env.kindOf x = some .local -> m.lookup x = some d -> ∃ v, mm x = some v /\ Aj B h v d
 cells : ∀ x a, env.cells.lookup x = some a -> ∃ ov, h.IsCell a ov
 cl : ∀ x d, (env.kindOf x = some .cell ∨ env.kindOf x = some .free) -> m.lookup x = some d -> ∃ a v, env.cells.lookup x = some a /\ h.IsCell a (some v) /\ Aj B h v d
structure Ax (c : Cx) (env : Env) (m : Au) (σ : Aa) (s : Shared) : Prop where
 sim : Sim c σ s
 ok : EnvOk c env
 vars : E2 c.bad env m s.heap
 off : ∀ a, has env a -> σ a = none
theorem IsCell.at' {h h' : Heap} {a : Addr} {v : Option Value} (x : h.IsCell a v) (e : ∀ o, h.get? a = some o -> h'.get? a = some o) : h'.IsCell a v := let ⟨o, ho, hd⟩ := x; ⟨o, e o ho, hd⟩
theorem E2.keep' (x : E2 B env m h) (k : ∀ a o, has env a -> h.get? a = some o -> h'.get? a = some o) (t : DW B h h') : E2 B env m h' := by iterate 1
 exact {
  ns := let ⟨mm, hn, r⟩ := x.ns; ⟨mm, hn.at' fun o e => k _ o (.inl rfl) e, fun y d a b => let ⟨v, p, q⟩ := r y d a b; ⟨v, p, q.mono' t⟩⟩
  cells := fun y a hm => let ⟨ov, h1⟩ := x.cells y a hm; ⟨ov, IsCell.at' h1 fun o e => k _ o (.inr ⟨y, hm⟩) e⟩
  cl := fun y d a b => let ⟨ad, v, p, q, r⟩ := x.cl y d a b; ⟨ad, v, p, IsCell.at' q fun o e => k _ o (.inr ⟨y, p⟩) e, r.mono' t⟩ }
theorem E2.keep (x : E2 B env m h) (k : ∀ a o, has env a -> h.get? a = some o -> h'.get? a = some o) (t : AW h h') : E2 B env m h' := x.keep' k t.b
theorem Ax.post (x : Ax c env m σ s) (p : Ah c σ s σ' s') : Ax c env m σ' s' := by iterate 1
 exact {
  sim := p.1
  ok := x.ok
  vars := x.vars.keep (fun a o ha e => p.2.1 a o (x.off a ha) e) (p.2.tups x.sim)
  off := fun a ha => by
   obtain ⟨ob, hob⟩ : ∃ ob, s.heap.get? a = some ob := by
    rcases ha with rfl | ⟨y, hm⟩
    ·obtain ⟨mm, ⟨o, _, _, ho, _⟩, _⟩ := x.vars.ns; exact ⟨o, ho⟩
    ·obtain ⟨ov, o, ho, _⟩ := x.vars.cells y a hm; exact ⟨o, ho⟩
   exact p.2.2 a ob hob (x.off a ha) }
noncomputable def EV (c : Cx) (A : Around) (env : Env) (m : Au) (e : Expr) (σ : Aa) (Q : D -> Aa -> Prop) : Prop := ∀ s, Ax c env m σ s -> W c A (eval e env) σ Q s
noncomputable def ET (c : Cx) (A : Around) (env : Env) (m : Au) (e : Expr) (σ : Aa) (Q : Bool -> Aa -> Prop) : Prop := ∀ s, Ax c env m σ s -> WE c A (isTrue e env (eval e env)) σ Q s
noncomputable def EL (c : Cx) (A : Around) (env : Env) (m : Au) (es : List Expr) (σ : Aa) (Q : List D -> Aa -> Prop) : Prop :=
 ∀ s pos, Ax c env m σ s -> WL c A (spliced (backTo pos (starEach es env))) σ Q s
inductive AFl where
 | next | brk | cont
 | ret (d : D)
noncomputable def KJ (B : Addr -> Prop) (h : Heap) : Flow -> AFl -> Prop
 | .next, .next => True
 | .brk, .brk => True
 | .cont, .cont => True
 | .ret v, .ret d => Aj B h v d
 | _, _ => False
noncomputable def A9 (own : Addr -> Prop) (σ : Aa) (h : Heap) (σ' : Aa) (h' : Heap) : Prop :=
 (∀ b o, σ b = none -> ¬ own b -> h.get? b = some o -> h'.get? b = some o) /\ ∀ b o, h.get? b = some o -> σ b = none -> ¬ own b -> σ' b = none
theorem A9.refl (own : Addr -> Prop) (σ : Aa) (h : Heap) : A9 own σ h σ h := ⟨fun _ _ _ _ e => e, fun _ _ _ e _ => e⟩
theorem A9.trans {own : Addr -> Prop} {σ σ1 σ2 : Aa} {h h1 h2 : Heap} (x : A9 own σ h σ1 h1) (y : A9 own σ1 h1 σ2 h2) : A9 own σ h σ2 h2 := by iterate 1
 exact
  ⟨fun b o hb ho e => y.1 b o (x.2 b o e hb ho) ho (x.1 b o hb ho e), fun b o e hb ho => y.2 b o (x.1 b o hb ho e) (x.2 b o e hb ho) ho⟩
theorem Frm.toX {own : Addr -> Prop} (x : Frm σ h σ' h') : A9 own σ h σ' h' := by iterate 1
 exact ⟨fun b o hb _ e => x.1 b o hb e, fun b o e hb _ => x.2 b o e hb⟩
inductive RetX (c : Cx) (env : Env) (σ : Aa) (s : Shared) (Q : AFl -> Au -> Aa -> Prop) (f : Flow) (s' : Shared) : Prop
 | mk (fl : AFl) (m' : Au) (σ' : Aa) (q : Q fl m' σ') (F : A9 (own env) σ s.heap σ' s'.heap) (X : Ax c env m' σ' s') (r : KJ c.bad s'.heap f fl) : RetX c env σ s Q f s'
inductive RetA (c : Cx) (env : Env) (σ : Aa) (s : Shared) (Q : Au -> Aa -> Prop) (s' : Shared) : Prop
 | mk (m' : Au) (σ' : Aa) (q : Q m' σ') (F : A9 (own env) σ s.heap σ' s'.heap) (X : Ax c env m' σ' s') : RetA c env σ s Q s'
noncomputable def WX (c : Cx) (A : Around) (env : Env) (t : Sem Flow) (σ : Aa) (Q : AFl -> Au -> Aa -> Prop) (s : Shared) : Prop :=
 wpAny c.M A t (RetX c env σ s Q) (fun _ _ => False) s
noncomputable def WA (c : Cx) (A : Around) (env : Env) (t : Sem Unit) (σ : Aa) (Q : Au -> Aa -> Prop) (s : Shared) : Prop :=
 wpAny c.M A t (fun _ s' => RetA c env σ s Q s') (fun _ _ => False) s
noncomputable def EX (c : Cx) (A : Around) (env : Env) (m : Au) (st : Stmt) (σ : Aa) (Q : AFl -> Au -> Aa -> Prop) : Prop := ∀ s, Ax c env m σ s -> WX c A env (exec st env) σ Q s
noncomputable def EXs (c : Cx) (A : Around) (env : Env) (m : Au) (sts : List Stmt) (σ : Aa) (Q : AFl -> Au -> Aa -> Prop) : Prop := ∀ s, Ax c env m σ s -> WX c A env (execs sts env) σ Q s
noncomputable def EA (c : Cx) (A : Around) (env : Env) (m : Au) (t : Expr) (d : D) (σ : Aa) (Q : Au -> Aa -> Prop) : Prop :=
 ∀ s v, Ax c env m σ s -> Aj c.bad s.heap v d -> WA c A env (assign t env v) σ Q s
section
variable {c : Cx} {A : Around} {env : Env} {m : Au} {σ : Aa}
theorem EV.mono (h : EV c A env m e σ Q) (k : ∀ d σ', Q d σ' -> Q' d σ') : EV c A env m e σ Q' := fun s x => (h s x).mono k
theorem ET.mono {Q Q' : Bool -> Aa -> Prop} (h : ET c A env m e σ Q) (k : ∀ d σ', Q d σ' -> Q' d σ') : ET c A env m e σ Q' := fun s x => (h s x).mono k
theorem WX.mono (h : WX c A env t σ Q s) (k : ∀ f m σ', Q f m σ' -> Q' f m σ') : WX c A env t σ Q' s := by iterate 1
 exact
  Ai h (fun _ _ ⟨f, m', σ', a, b, e, r⟩ => ⟨f, m', σ', k f m' σ' a, b, e, r⟩) fun _ _ e => e
theorem EXs.mono (h : EXs c A env m e σ Q) (k : ∀ f m σ', Q f m σ' -> Q' f m σ') : EXs c A env m e σ Q' := fun s x => (h s x).mono k
noncomputable def KL (env : Env) (x : Str) : Bool := match env.kindOf x with | some .local => true | some .cell => true | some .free => true | _ => false
theorem EV.name (hk : KL env x = true) (hl : m.lookup x = some d) (q : Q d σ)
   (hd : (x == ("__debug__" : Str)) = false := by decide) (hd' : (x == ("__classdict__" : Str)) = false := by decide) : EV c A env m (.Name x pos) σ Q := by iterate 1
 exact fun s X => by
  refine wpAny_Name ?_ hd
  unfold KL at hk
  split at hk
  ·rename_i e
   obtain ⟨mm, hn, r⟩ := X.vars.ns
   obtain ⟨v, hv, hr⟩ := r x d e hl
   exact wpAny_loadName_local X.ok.kind e hn hv ⟨d, σ, q, .refl X.sim, hr⟩
  ·rename_i e
   obtain ⟨a, v, h1, h2, h3⟩ := X.vars.cl x d (.inl e) hl
   exact wpAny_loadName_cell X.ok.kind e h1 h2 ⟨d, σ, q, .refl X.sim, h3⟩
  ·rename_i e
   obtain ⟨a, v, h1, h2, h3⟩ := X.vars.cl x d (.inr e) hl
   exact wpAny_loadName_free X.ok.kind e h1 h2 ⟨d, σ, q, .refl X.sim, h3⟩ hd'
  ·cases hk
theorem EV.cInt (q : Q (.int i) σ) : EV c A env m (.Constant (.int i) k pos) σ Q := by iterate 1
 exact fun s X =>
  wpAny_Constant_int ⟨_, σ, q, ⟨X.sim.heap (fun a o e => (X.sim.1 a o e).1) X.sim.2.1 (fun _ _ _ e => e), .refl ..⟩, .int i _⟩
theorem EV.KN (q : Q (.str i) σ) : EV c A env m (.Constant (.str i) k pos) σ Q := by iterate 1
 exact fun s X => by
  show W c A (mkText i) σ Q s
  exact wpAny_mkText ⟨_, σ, q, ⟨X.sim.heap (fun a o e => (X.sim.1 a o e).1) X.sim.2.1 (fun _ _ _ e => e), .refl ..⟩, .str i _⟩
theorem EV.cBool (q : Q (.bool i) σ) : EV c A env m (.Constant (.bool i) k pos) σ Q := fun s X => WR.pure X.sim q (.bool i)
theorem EV.cNone (q : Q .none σ) : EV c A env m (.Constant .none k pos) σ Q := fun s X => WR.pure X.sim q .none
theorem EXs.nil (q : Q .next m σ) : EXs c A env m [] σ Q := fun s X => Ad ⟨.next, m, σ, q, .refl .., X, trivial⟩
theorem EXs.cons {st : Stmt} {rest : List Stmt} {Q : AFl -> Au -> Aa -> Prop}
   (h : EX c A env m st σ fun f m' σ' => match f with | .next => EXs c A env m' rest σ' Q | f => Q f m' σ') : EXs c A env m (st :: rest) σ Q := by iterate 1
 exact fun s X => by
  refine wpAny_execs_cons (Ai (h s X) (fun f s1 ⟨fl, m', σ', q, F, X', r⟩ => ?_) fun _ _ e => e)
  cases f <;> cases fl <;> first | exact r.elim | skip
  ·exact Ai (q s1 X') (fun f s2 ⟨fl, m2, σ2, q2, F2, X2, r2⟩ => ⟨fl, m2, σ2, q2, F.trans F2, X2, r2⟩) fun _ _ e => e
  ·exact ⟨_, m', σ', q, F, X', trivial⟩
  ·exact ⟨_, m', σ', q, F, X', trivial⟩
  ·exact ⟨_, m', σ', q, F, X', r⟩
theorem EX.ret (h : EV c A env m e σ fun d σ' => Q (.ret d) m σ') : EX c A env m (.Return (some e) pos) σ Q := by iterate 1
 exact fun s X =>
  wpAny_Return_some (Ai (h s X) (fun v s' ⟨d, σ', q, p, r⟩ => ⟨.ret d, m, σ', q, p.2.toX, X.post p, r⟩) fun _ _ e => e)
theorem EX.iff
   (h : ET c A env m test σ fun b σ' => if b = true then EXs c A env m body σ' Q else EXs c A env m orelse σ' Q) : EX c A env m (.If test body orelse pos) σ Q := by iterate 1
 exact fun s X => by
  refine wpAny_If (Ai (h s X) (fun b s' ⟨d, σ', q, p, r⟩ => ?_) fun _ _ e => e)
  cases (show b = d from r)
  cases b
  ·exact Ai (q s' (X.post p)) (fun f s2 ⟨fl, m2, σ2, q2, F2, X2, r2⟩ => ⟨fl, m2, σ2, q2, p.2.toX.trans F2, X2, r2⟩) fun _ _ e => e
  ·exact Ai (q s' (X.post p)) (fun f s2 ⟨fl, m2, σ2, q2, F2, X2, r2⟩ => ⟨fl, m2, σ2, q2, p.2.toX.trans F2, X2, r2⟩) fun _ _ e => e
theorem DJ (h : y ≠ x) : List.lookup y ((x, d) :: m) = m.lookup y := by iterate 1
 rw [AY, beq_eq_false_iff_ne.mpr h]
theorem Ax.store_local (X : Ax c env m σ s) (t : Nat) (hk : env.kindOf x = some .local)
  (h0 : s.heap.Ns env.locals mm) (hr : Aj c.bad s.heap v d) (hn : h'.Ns env.locals fun y => if y = x then some v else mm y) (hs : Heap.SameBut env.locals s.heap h') :
  A9 (own env) σ s.heap σ h' /\ Ax c env ((x, d) :: m) σ { s with heap := h', toks := t } := by iterate 1
 have hL : σ env.locals = none := X.off _ (.inl rfl)
 have htup : ∀ b vs n, s.heap.get? b = some (AV vs n) -> b ≠ env.locals := fun b vs n e q => by
  obtain ⟨o, es, ep, ho, hd, _⟩ := h0
  rw [q, ho] at e; cases e; cases hd
 have hk' : AW s.heap h' := fun b vs n e => (hs.2 b (htup b vs n e)).trans e
 have kp : ∀ b o, b ≠ env.locals -> s.heap.get? b = some o -> h'.get? b = some o := fun b o hb e => (hs.2 b hb).trans e
 refine ⟨⟨fun b o hb ho e => kp b o (fun q => ho (.inl q)) e, fun _ _ _ e _ => e⟩, ⟨X.sim.heap (fun a o e => ?_) (fun b o e => ?_) hk', X.ok, ⟨?_, fun y a hm => ?_, fun y e hy hl => ?_⟩, X.off⟩⟩
 ·exact (X.sim.1 a o e).1.mono (fun ob z => kp a ob (fun q => by rw [q, hL] at e; cases e) z) hk'
 ·exact kp b o (fun q => by rw [q, X.ok.h0L] at e; cases e) (X.sim.2.1 b o e)
 ·obtain ⟨mm', hn', r⟩ := X.vars.ns
  refine ⟨_, hn, fun y e hy hl => ?_⟩
  by_cases q : y = x
  ·subst q
   rw [AY, beq_self_eq_true] at hl
   cases hl
   exact ⟨v, by simp, hr.mono hk'⟩
  ·rw [DJ q] at hl
   obtain ⟨u, hu, hru⟩ := r y e hy hl
   have e1 : mm' y = mm y := by
    obtain ⟨o, es, ep, ho, hd, _, hf⟩ := hn'
    obtain ⟨o2, es2, ep2, ho2, hd2, _, hf2⟩ := h0
    rw [ho] at ho2; cases ho2; rw [hd] at hd2; cases hd2
    rw [<- hf, <- hf2]
   exact ⟨u, by rw [if_neg q, <- e1]; exact hu, hru.mono hk'⟩
 ·obtain ⟨ov, hc⟩ := X.vars.cells y a hm
  exact ⟨ov, IsCell.at' hc fun o e => kp a o (X.ok.Lc y a hm) e⟩
 ·have q : y ≠ x := fun q => by rw [q, hk] at hy; rcases hy with z | z <;> cases z
  rw [DJ q] at hl
  obtain ⟨a, u, h1, h2, h3⟩ := X.vars.cl y e hy hl
  exact ⟨a, u, h1, IsCell.at' h2 fun o z => kp a o (X.ok.Lc y a h1) z, h3.mono hk'⟩
theorem Ax.store_cell (X : Ax c env m σ s) (hfn : env.func.isSome = true) (hk : env.kindOf x = some .cell) (hc : env.cells.lookup x = some a)
  (h0 : s.heap.IsCell a ov) (hr : Aj c.bad s.heap v d) (hn : h'.IsCell a (some v)) (hs : Heap.SameBut a s.heap h') :
  A9 (own env) σ s.heap σ h' /\ Ax c env ((x, d) :: m) σ { s with heap := h' } := by iterate 1
 have hown : own env a := .inr ⟨hfn, x, hc⟩
 have hL : σ a = none := X.off _ hown.has
 have htup : ∀ b vs n, s.heap.get? b = some (AV vs n) -> b ≠ a := fun b vs n e q => by
  obtain ⟨o, ho, hd⟩ := h0
  rw [q, ho] at e; cases e; cases hd
 have hk' : AW s.heap h' := fun b vs n e => (hs.2 b (htup b vs n e)).trans e
 have kp : ∀ b o, b ≠ a -> s.heap.get? b = some o -> h'.get? b = some o := fun b o hb e => (hs.2 b hb).trans e
 have aL : a ≠ env.locals := X.ok.Lc x a hc
 refine ⟨⟨fun b o hb ho e => kp b o (fun q => ho (q ▸ hown)) e, fun _ _ _ e _ => e⟩, ⟨X.sim.heap (t := s.toks) (fun b o e => ?_) (fun b o e => ?_) hk', X.ok, ⟨?_, fun y b hm => ?_, fun y e hy hl => ?_⟩, X.off⟩⟩
 ·exact (X.sim.1 b o e).1.mono (fun ob z => kp b ob (fun q => by rw [q, hL] at e; cases e) z) hk'
 ·exact kp b o (fun q => by rw [q, X.ok.h0c x a hc] at e; cases e) (X.sim.2.1 b o e)
 ·obtain ⟨mm', hn', r⟩ := X.vars.ns
  refine ⟨mm', hn'.at' fun o z => kp _ o (Ne.symm aL) z, fun y e hy hl => ?_⟩
  have q : y ≠ x := fun q => by rw [q, hk] at hy; cases hy
  rw [DJ q] at hl
  obtain ⟨u, hu, hru⟩ := r y e hy hl
  exact ⟨u, hu, hru.mono hk'⟩
 ·by_cases q : b = a
  ·subst q; exact ⟨_, hn⟩
  ·obtain ⟨ov', hc'⟩ := X.vars.cells y b hm
   exact ⟨ov', IsCell.at' hc' fun o e => kp b o q e⟩
 ·by_cases q : y = x
  ·subst q
   rw [AY, beq_self_eq_true] at hl
   cases hl
   exact ⟨a, v, hc, hn, hr.mono hk'⟩
  ·rw [DJ q] at hl
   obtain ⟨b, u, h1, h2, h3⟩ := X.vars.cl y e hy hl
   have ba : b ≠ a := fun z => q (name_of_addr X.ok.apart (mem_of_lookup h1) (z ▸ mem_of_lookup hc))
   exact ⟨b, u, h1, IsCell.at' h2 fun o z => kp b o ba z, h3.mono hk'⟩
noncomputable def Bi (env : Env) (x : Str) : Bool := match env.kindOf x with | some .local => true | some .cell => env.func.isSome && (env.cells.lookup x).isSome | _ => false
theorem Gv (X : Ax c env m σ s) (hk : Bi env x = true) (hr : Aj c.bad s.heap v d) (q : Q ((x, d) :: m) σ) :
  WA c A env (storeName env x v) σ Q s := by iterate 1
 unfold Bi at hk
 split at hk
 ·rename_i e
  obtain ⟨mm, hn, r⟩ := X.vars.ns
  refine wpAny_storeName_local e hn (fun h' hn' hs' => ?_) (by rw [X.ok.kind]; rfl)
  obtain ⟨F, X'⟩ := X.store_local (s.toks + 1) e hn hr hn' hs'
  exact ⟨_, σ, q, F, X'⟩
 ·rename_i e
  rw [Cv] at hk
  obtain ⟨a, ha⟩ := Hk.mp hk.2
  obtain ⟨ov, hc⟩ := X.vars.cells x a ha
  refine wpAny_storeName_cell X.ok.kind e ha hc fun h' hn' hs' => ?_
  obtain ⟨F, X'⟩ := X.store_cell hk.1 e ha hc hr hn' hs'
  exact ⟨_, σ, q, F, X'⟩
 ·cases hk
theorem EA.name (hk : Bi env x = true) (q : Q ((x, d) :: m) σ) : EA c A env m (.Name x pos) d σ Q := fun s v X hr =>
 Gw (Gv X hk hr q)
theorem EX.assign (hk : Bi env x = true)
   (h : EV c A env m value σ fun d σ' => Q .next ((x, d) :: m) σ') (hs : swapsWith value (some (.Name x pos')) pos.line env = pure false := by rfl) :
   EX c A env m (.Assign [.Name x pos'] value pos) σ Q := by iterate 1
 exact fun s X => by
  refine wpAny_Assign_Name (Ai (h s X) (fun v s' ⟨d, σ', q, p, r⟩ => ?_) fun _ _ e => e) hs
  exact Ai (Gv (X.post p) hk r (Q := fun m' σ'' => Q .next m' σ'') q) (fun _ s2 ⟨m2, σ2, q2, F2, X2⟩ => ⟨.next, m2, σ2, q2, p.2.toX.trans F2, X2, trivial⟩) fun _ _ e => e
end
structure Af (A : Around) (n : Nat) : Prop where
 handled : A.handled = none
 depth : A.depth + 2 * n + 4 < recursionLimit
 units : A.units + 10 * n + 300 < cLine
theorem Af.le (x : Af A n) (h : k <= n) : Af A k := by iterate 1
 exact ⟨x.handled, by have := x.depth; omega, by have := x.units; omega⟩
theorem Af.deeper (x : Af A (n + 1)) (env : Env) : Af (A.deeper env) n := by iterate 1
 exact
  ⟨x.handled, by have := x.depth; show A.depth + 1 + 2 * n + 4 < _; omega, by have := x.units; show A.units + 3 + 10 * n + 300 < _; omega⟩
structure C4 (c : Cx) : Prop where
 X : c.K.In c.h₀
 nolimit : c.h₀.NoLimit
 globals : ∃ mg, c.h₀.Ns mainGlobals mg
 builtins : ∃ mb, c.h₀.Ns builtinsNs mb /\ ∀ x : Str, x ≠ "__name__" -> mb x = bootBuiltins x
theorem Sim.keep (S : Sim c σ s) : ∀ b o, c.h₀.get? b = some o -> s.heap.get? b = some o := S.2.1
theorem Sim.K (S : Sim c σ s) (C : C4 c) : c.K.In s.heap := C.X.keeps S.2.1
noncomputable def Ij (c : Cx) (σ : Aa) (s : Shared) (Q : D -> Aa -> Prop) (r : Result) (s' : Shared) : Prop :=
 ∃ v d σ', r = .ok (.ret v) /\ Q d σ' /\ Ah c σ s σ' s' /\ Aj c.bad s'.heap v d
noncomputable def Ac (c : Cx) (A : Around) (f : Value) (args : List D) (σ : Aa) (Q : D -> Aa -> Prop) : Prop :=
 ∀ s vs, Sim c σ s -> Ak c.bad s.heap vs args -> W c A (call f vs []) σ Q s
noncomputable def AB (c : Cx) (A : Around) (f : Value) (args : List D) (σ : Aa) (Q : D -> Aa -> Prop) : Prop :=
 ∀ s vs, Sim c σ s -> Ak c.bad s.heap vs args -> codeAny c.M A (.call f ⟨vs, []⟩) (Ij c σ s Q) s
theorem Ij.of (h : codeAny c.M A (.call f ⟨vs, []⟩) (Ij c σ s Q) s) : W c A (call f vs []) σ Q s := by iterate 1
 exact
  wpAny_call (De h fun r s' ⟨v, d, σ', e, q, p, z⟩ => by subst e; exact ⟨d, σ', q, p, z⟩)
theorem AB.call (h : AB c A f args σ Q) : Ac c A f args σ Q := fun s vs S r => Ij.of (h s vs S r)
theorem Nq {kindOf : Str -> Option NameKind} : ∀ (binds : List (Str × Value)) (m : Str -> Option Value) (x : Str), x ∉ binds.map (·.1) -> bindL kindOf binds m x = m x
 | [], _, _, _ => rfl
 | (n, v) :: r, m, x, h => by iterate 1
  simp only [AM, Ay, not_or] at h
  unfold bindL
  rw [Nq r _ x h.2]
  by_cases q : kindOf n = some .local
  ·rw [if_pos q]; simp only [if_neg h.1]
  ·rw [if_neg q]
theorem Nr {kindOf : Str -> Option NameKind} : ∀ (binds : List (Str × Value)) (m : Str -> Option Value) (x : Str) (v : Value), (binds.map (·.1)).Nodup -> (x, v) ∈ binds -> kindOf x = some .local -> bindL kindOf binds m x = some v
 | (n, u) :: r, m, x, v, hn, hm, hk => by iterate 1
  rw [AM, BE] at hn
  unfold bindL
  rcases Ay.mp hm with e | hm
  ·cases e
   rw [Nq r _ n hn.1, if_pos hk]; simp
  ·exact Nr r _ x v hn.2 hm hk
theorem Nt {kindOf : Str -> Option NameKind} : ∀ (binds : List (Str × Value)) (m : Str -> Option Value) (x : Str), x ∉ binds.map (·.1) -> bindC kindOf binds m x = m x
 | [], _, _, _ => rfl
 | (n, v) :: r, m, x, h => by iterate 1
  simp only [AM, Ay, not_or] at h
  unfold bindC
  rw [Nt r _ x h.2]
  by_cases q : kindOf n = some .local
  ·rw [if_pos q]
  ·rw [if_neg q]; simp only [if_neg h.1]
theorem Nu {kindOf : Str -> Option NameKind} : ∀ (binds : List (Str × Value)) (m : Str -> Option Value) (x : Str) (v : Value), (binds.map (·.1)).Nodup -> (x, v) ∈ binds -> kindOf x ≠ some .local -> bindC kindOf binds m x = some v
 | (n, u) :: r, m, x, v, hn, hm, hk => by iterate 1
  rw [AM, BE] at hn
  unfold bindC
  rcases Ay.mp hm with e | hm
  ·cases e
   rw [Nt r _ n hn.1, if_neg hk]; simp
  ·exact Nu r _ x v hn.2 hm hk
theorem KO : ∀ {names : List Str} {args : List D} {vs : List Value}, Ak B h vs args -> ∀ {x : Str} {d : D}, (names.zip args).lookup x = some d -> ∃ v, (x, v) ∈ names.zip vs /\ Aj B h v d
 | [], _, _, _, x, d, e => by simp at e
 | n :: ns, _, _, .nil, x, d, e => by simp at e
 | n :: ns, _, _, .cons (v := v) a b, x, d, e => by iterate 1
  rw [Ik, AY] at e
  cases q : x == n with
  | true => rw [q] at e; cases e; rw [DX q]; exact ⟨v, by simp, a⟩
  | false =>
   rw [q] at e
   obtain ⟨u, h1, h2⟩ := KO b e
   exact ⟨u, by rw [Ik]; exact BM _ h1, h2⟩
noncomputable def AK (K : Frag) (f : Addr) : Option FuncData := match K.lookup f with
 | some ⟨_, _, .func fd, _⟩ => some fd
 | _ => none
structure AQ (K : Frag) (fd : FuncData) (body : List Stmt) (names : List Str) : Prop where
 code : codeIn K fd.code fd.qualname = true
 body : fd.body = .stmts body
 clo : fd.closure = []
 glob : fd.globals = mainGlobals
 built : fd.builtins = builtinsNs
 co : fd.scope.isCoroutine = false
 gen : fd.scope.isGenerator = false
 kind : fd.scope.kind = .function
 kinds : names.all (fun x => fd.scope.names.lookup x == some .local || (fd.scope.names.lookup x == some .cell && ((cellsFrom 0 fd.scope.names []).lookup x).isSome)) = true
 nodup : names.Nodup
 bind : ∀ vs : List Value, vs.length = names.length -> bindArgs fd ⟨vs, []⟩ = pure (names.zip vs)
theorem Il (x : Str) : ∀ (names : List (Str × NameKind)) (n k : Nat) (acc acc' : List (Str × Addr)), (acc.lookup x).isSome = (acc'.lookup x).isSome ->
  ((cellsFrom n names acc).lookup x).isSome = ((cellsFrom k names acc').lookup x).isSome
 | [], _, _, _, _, h => h
 | (y, kd) :: r, n, k, acc, acc', h => by iterate 1
  unfold cellsFrom
  split
  ·refine Il x r _ _ _ _ ?_
   rw [AY, AY]
   cases x == y with
   | true => rfl
   | false => exact h
  ·exact Il x r _ _ _ _ h
section
variable {c : Cx} {A : Around} {σ : Aa}
theorem AB.def {f : Addr} {fd : FuncData} {body : List Stmt} {names : List Str} {args : List D} {Q : D -> Aa -> Prop} {n : Nat} (C : C4 c) (hf : AK c.K f = some fd) (P : AQ c.K fd body names)
   (hlen : args.length = names.length) (hroom : Af A (n + 1))
   (h : ∀ L, σ L = none -> EXs c (A.deeper (callEnvC fd L f)) (callEnvC fd L f) (names.zip args) body σ fun fl m' σ' => match fl with | .ret d => Q d σ' | .next => Q .none σ' | _ => False) :
   AB c A (.ref f) args σ Q := by iterate 1
 exact fun s vs S hr => by
  obtain ⟨ob, hob, hdata⟩ : ∃ ob, c.K.lookup f = some ob /\ ob.data = .func fd := by
   unfold AK at hf
   split at hf
   ·rename_i e; cases hf; exact ⟨_, e, rfl⟩
   ·cases hf
  have hlv : vs.length = names.length := hr.length.trans hlen
  have K := S.K C
  have hkinds := P.kinds
  rw [D0] at hkinds
  have hzip : ((names.zip vs).map (·.1)) = names := by
   rw [List.map_fst_zip]; exact Gx hlv.symm
  refine codeAny_call_cells (binds := names.zip vs) (body := body) (by have := hroom.depth; omega) (K _ _ hob) hdata (C.nolimit.keeps S.keep) (codeRec_of K P.code) P.body (P.bind vs hlv) P.clo
   (fun x hx => ?_) (fun s1 x => ?_) P.co P.gen P.kind
  ·have hm : x.1 ∈ names := hzip ▸ AS hx
   have := hkinds _ hm
   simp only [Nv, Cv, beq_iff_eq] at this
   refine this.imp id fun q => ⟨q.1, ?_⟩
   rw [Il x.1 fd.scope.names _ 0 [] [] rfl]; exact q.2
  ·obtain ⟨⟨⟨h1, tk, e⟩, hns, hkeep, hfresh⟩, hcell, hapart, habove⟩ := x
   subst e
   have hloc : (callEnvC fd s.heap.objs.size f).locals = s.heap.objs.size := rfl
   have tk' : AW s.heap h1 := fun b vs n e => hkeep _ _ e
   have h0 : ∀ a, s.heap.objs.size <= a -> c.h₀.get? a = none := fun a ha => by
    cases e : c.h₀.get? a with
    | none => rfl
    | some o => exact absurd (AZ (S.keep _ _ e)) (ED.mpr ha)
   have hσ : ∀ a, s.heap.objs.size <= a -> σ a = none := fun a ha => by
    cases e : σ a with
    | none => rfl
    | some o => exact absurd (S.lt e) (ED.mpr ha)
   have X : Ax c (callEnvC fd s.heap.objs.size f) (names.zip args) σ { s with heap := h1, toks := tk } := by
    refine ⟨S.heap (fun a o e => (S.1 a o e).1.mono (fun ob e => hkeep _ _ e) tk') (fun b o e => hkeep _ _ (S.keep _ _ e)) tk', ⟨P.kind, P.glob, P.built, h0 _ (Gx rfl), fun x a e => h0 _ (Bz (habove x a (mem_of_lookup e))), hapart, fun x a e => E3 (habove x a (mem_of_lookup e))⟩,
     ⟨⟨_, hns, fun x d hk hl => ?_⟩, fun x a e => ⟨_, hcell x a e⟩, fun x d hk hl => ?_⟩, fun a ha => ?_⟩
    ·obtain ⟨v, hm, hv⟩ := KO hr hl
     exact ⟨v, Nr _ _ _ _ (hzip.symm ▸ P.nodup) hm hk, hv.mono tk'⟩
    ·obtain ⟨v, hm, hv⟩ := KO hr hl
     have hx : x ∈ names := hzip ▸ AS (f := (·.1)) hm
     have hk' := hkinds x hx
     have hnl : fd.scope.names.lookup x ≠ some .local := fun q => by
      have : (callEnvC fd s.heap.objs.size f).kindOf x = some .local := q
      rw [this] at hk; rcases hk with z | z <;> cases z
     simp only [Nv, Cv, beq_iff_eq] at hk'
     obtain ⟨q1, q2⟩ := hk'.resolve_left hnl
     rw [<- Il x fd.scope.names (s.heap.objs.size + 1) 0 [] [] rfl] at q2
     obtain ⟨a, ha⟩ := Hk.mp q2
     refine ⟨a, v, ha, ?_, hv.mono tk'⟩
     have := hcell x a ha
     rw [Nu _ _ _ v (hzip.symm ▸ P.nodup) hm hnl] at this
     exact this
    ·rcases ha with rfl | ⟨x, e⟩
     ·exact hσ _ (Gx rfl)
     ·exact hσ _ (Bz (habove x a (mem_of_lookup e)))
   refine Ai (h _ (hσ _ (Az _)) _ X) (fun fl s2 ⟨afl, m', σ', q, F, X', r⟩ => ?_) fun _ _ e => e.elim
   have FF : Frm σ s.heap σ' s2.heap := by
    have hno : ∀ b o, s.heap.get? b = some o -> ¬ own (callEnvC fd s.heap.objs.size f) b := fun b o e ho => by
     have hlt := AZ e
     rcases ho with rfl | ⟨_, x, e'⟩
     ·exact absurd hlt (ED.mpr (Gx rfl))
     ·exact absurd hlt (ED.mpr (Bz (habove x b (mem_of_lookup e'))))
    exact ⟨fun b o hb e => F.1 b o hb (hno b o e) (hkeep _ _ e), fun b o e hb => F.2 b o (hkeep _ _ e) hb (hno b o e)⟩
   cases fl <;> cases afl <;> first | exact r.elim | exact q.elim | skip
   ·exact ⟨.none, .none, σ', rfl, q, ⟨X'.sim, FF⟩, .none⟩
   ·exact ⟨_, _, σ', rfl, q, ⟨X'.sim, FF⟩, r⟩
end
theorem Ah.toks (S : Sim c σ s) (t : Nat) : Ah c σ s σ { s with toks := t } := ⟨S, .refl ..⟩
section
variable {α β : Type} {R : Heap -> α -> β -> Prop} {c : Cx} {A : Around} {σ : Aa} {s : Shared}
end
section
variable {c : Cx} {A : Around} {env : Env} {m : Au} {σ : Aa}
theorem EL.nil (q : Q [] σ) : EL c A env m [] σ Q := fun s pos X => Ad ⟨[], σ, q, .refl X.sim, .nil⟩
theorem KP (h : isStarred e = false) : starEach (e :: rest) env = (false, eval e env) :: starEach rest env := by iterate 1
 cases e <;> first | rfl | cases h
theorem EL.cons (h : EV c A env m e σ fun d σ1 => EL c A env m rest σ1 fun ds σ2 => Q (d :: ds) σ2) (hs : isStarred e = false := by rfl) : EL c A env m (e :: rest) σ Q := by iterate 1
 exact fun s pos X => by
  rw [KP hs]
  refine spliced_cons (Ai (h s X) (fun v s1 ⟨d, σ1, q, p, r⟩ => ?_) fun _ _ e => e)
  exact Ai (q s1 pos (X.post p)) (fun vs s2 ⟨ds, σ2, q2, p2, r2⟩ => ⟨d :: ds, σ2, q2, p.trans p2, .cons (p2.rel p.1 r) r2⟩) fun _ _ e => e
theorem EL.mono (h : EL c A env m es σ Q) (k : ∀ d σ', Q d σ' -> Q' d σ') : EL c A env m es σ Q' := fun s pos x => (h s pos x).mono k
noncomputable def Aw (c : Cx) (f : Value) : Prop := ∀ h, (∀ b o, c.h₀.get? b = some o -> h.get? b = some o) -> ∃ k, (k = Keeper.frame ∨ k = Keeper.machine ∨ k = Keeper.boundFrame) /\ Looks c.M h (keeperOf f) k
theorem Aw.own (C : C4 c) (hk : keepIn c.K f = true) : Aw c f := fun h k => keeps_K hk h (C.X.keeps k)
theorem Aw.builtin (id : String) : Aw c (.builtin id) := fun h k => ⟨.machine, .inr (.inl rfl), Looks.of_pure rfl⟩
theorem Aw.type (n : String) : Aw c (.type n) := fun h k => ⟨.machine, .inr (.inl rfl), Looks.of_pure rfl⟩
theorem KQ (h : es.all (fun e => !isStarred e) = true) : (backTo pos (starEach es env)).any (·.1) = false := by iterate 1
 induction es with
 | nil => rfl
 | cons e r ih =>
  rw [Im, Cv] at h
  rw [KP (by simpa using h.1)]
  show (false || (backTo pos (starEach r env)).any (·.1)) = false
  rw [ih h.2]; rfl
theorem Nw (hs : es.all (fun e => !isStarred e) = true)
  (h : wpAny c.M A (spliced (backTo pos (starEach es env))) (fun vs s' => Q ⟨vs, []⟩ s') E s) : wpAny c.M A (evalArgs f true (backTo pos (starEach es env)) []) Q E s := by iterate 1
 cases es with
 | nil =>
  unfold evalArgs
  show wpAny c.M A (spliced [] >>= _) Q E s
  refine Ab (Ai h (fun vs s' h' => ?_) fun _ _ x => x)
  refine Ab (Ad ?_)
  refine Bh ?_
  exact Ab (Ad (Ab (Ad (Ad h'))))
 | cons e r =>
  rw [Im, Cv] at hs
  rw [KP (by simpa using hs.1)] at h ⊢
  exact evalArgs_plain h
theorem Nx (X : Ax c env m σ s) (hk : Aw c f) (hf : Ak c.bad s.heap first fd)
  (hs : es.all (fun e => !isStarred e) = true) (h : EL c A env m es σ fun ds σ1 => Ac c A f (fd ++ ds) σ1 Q) : W c A (callWith pos f first (backTo pos (starEach es env)) []) σ Q s := by iterate 1
 refine callWith_of (P := fun h => ∀ b o, c.h₀.get? b = some o -> h.get? b = some o) (by rw [KQ hs]; rfl) hk (Nw hs ?_)
 exact Ai (h s pos X) (fun vs s1 ⟨ds, σ1, q, p, r⟩ => ⟨p.1.2.1, Ai (q s1 (first ++ vs) p.1 ((p.rels X.sim hf).append r)) (fun v s2 ⟨d, σ2, q2, p2, r2⟩ => ⟨d, σ2, q2, p.trans p2, r2⟩) fun _ _ e => e⟩) fun _ _ e => e
inductive Bj (c : Cx) (x : Str) : Value -> Prop
 | own {v : Value} : nsIn c.K mainGlobals x = some (some v) -> Bj c x v
 | boot {v : Value} : nsIn c.K mainGlobals x = some none -> bootBuiltins x = some v -> x ≠ "__name__" -> Bj c x v
theorem Ny (C : C4 c) (X : Ax c env m σ s) (hg : Bj c x v) (hl : env.kindOf x = some .globalImplicit)
  (q : Q v s) : wpAny c.M A (loadName env x) Q E s := by iterate 1
 obtain ⟨mg, Gg⟩ := C.globals
 obtain ⟨mb, Gb, hb⟩ := C.builtins
 unfold loadName
 simp only [Env.blockKind, X.ok.kind, hl, ScopeKind.isAnnotationScope, Bool.false_and, Be, if_false]
 unfold loadGlobal
 rw [X.ok.globals, X.ok.builtins]
 cases hg with
 | own e =>
  refine Ab (wpAny_nsGet (Gg.keeps X.sim.keep) ?_)
  rw [mg_of C.X Gg e]
  exact Ad q
 | boot e1 e2 e3 =>
  refine Ab (wpAny_nsGet (Gg.keeps X.sim.keep) ?_)
  rw [mg_none_of C.X Gg e1]
  refine Ab (wpAny_nsGet (Gb.keeps X.sim.keep) ?_)
  rw [(hb x e3).trans e2]
  exact Ad q
theorem EV.callG (C : C4 c) (hg : Bj c x f) (hl : env.kindOf x = some .globalImplicit) (hk : Aw c f)
  (h : EL c A env m es σ fun ds σ1 => Ac c A f ds σ1 Q) (hs : es.all (fun e => !isStarred e) = true := by rfl) (hd : (x == ("__debug__" : Str)) = false := by decide) :
  EV c A env m (.Call (.Name x np) es [] pos) σ Q := fun s X =>
 wpAny_Call_ofName (wpAny_Name (Ny C X hg hl (Nx X hk (fd := []) .nil hs h)) hd)
theorem KR (S : Sim c σ s) (ha : σ a = some (.inst C dd)) (hd : σ dd = some (.ns es)) :
  ∃ arr n, InstAt s.heap a (instObj C dd) C (some (dictOf arr n)) /\ Bu c.bad s.heap arr es /\ s.heap.get? dd = some (dictOf arr n) := by iterate 1
 have h1 : s.heap.get? a = some (instObj C dd) := (S.1 _ _ ha).1
 obtain ⟨arr, n, h2, r⟩ := (S.1 _ _ hd).1
 exact ⟨arr, n, ⟨h1, rfl, rfl, h2⟩, r, h2⟩
theorem EV.attr {attr : Str} (C : C4 c)
   (h : EV c A env m o σ fun d σ1 => ∃ a cl dd es r, d = .ref a /\ σ1 a = some (.inst cl dd) /\ σ1 dd = some (.ns es) /\ es.lookup attr = some r /\ plainGet c.K cl attr = true /\ hasDictIn c.K cl = true /\
    findIn c.K (.ref cl) attr = some none /\ Q r σ1)
   (hb : attributeBase o attr env (eval o env) = eval o env := by rfl) :
   EV c A env m (.Attribute o attr pos) σ Q := by iterate 1
 exact fun s X => by
  show W c A (do
    let ov <- attributeBase o attr env (eval o env)
    PySem.standAt pos.atName
    let r <- PySem.holding [ov] (getAttr ov attr true)
    letTemporaryGo o ov r
    pure r) σ Q s
  rw [hb]
  refine WR.bind (h s X) fun v s1 d σ1 q p r => ?_
  obtain ⟨a, cl, dd, es, rv, rfl, h1, h2, h3, h4, h5, h6, q⟩ := q
  cases r
  obtain ⟨arr, n, I, R, _⟩ := KR p.1 h1 h2
  have := R.getL (x := attr)
  rw [h3] at this
  obtain ⟨u, hu, hur⟩ := this
  refine WR.standAt ?_
  refine Ab (Bh ?_)
  have hh : handedIn u = true := by cases hur <;> rfl
  refine get_value (p.1.K C) I (plainGet_of h4).1 (findObj_own h5 h6 rfl (by show PySem.W.getL attr arr = _; exact hu)) hh ?_
  exact Ab (wpAny_letTemporaryGo (Ad ⟨rv, σ1, q, Ah.toks p.1 _, hur⟩))
end
section
open Builtin Builtin.ObjectAttr
section
variable {c : Cx} {A : Around} {env : Env} {m : Au} {σ : Aa}
noncomputable def GM (c : Cx) (A : Around) (name : Str) (d : D) (σ : Aa) (K : Value -> List D -> Prop) : Prop :=
 ∀ s v (pl : Sem Bool), Sim c σ s -> Aj c.bad s.heap v d -> wpAny c.M A (getMethod v name pl) (fun fx s' => s' = s /\ ∃ fd, Aw c fx.1 /\ Ak c.bad s.heap fx.2 fd /\ K fx.1 fd) (fun _ _ => False) s
theorem EV.RD {name : Str}
   (h : EV c A env m o σ fun d σ1 => GM c A name d σ1 fun f fd => EL c A env m es σ1 fun ds σ2 => Ac c A f (fd ++ ds) σ2 Q)
   (hline : (apos.endLine == pos.line) = true := by rfl) (hs : (es.all (fun e => !isStarred e) && decide (es.length < 30)) = true := by rfl)
   (hb : attributeBase o name env (eval o env) = eval o env := by rfl) :
   EV c A env m (.Call (.Attribute o name apos) es [] pos) σ Q := by iterate 1
 exact fun s X => by
  obtain ⟨hs1, hs2⟩ := Bool.and_eq_true_iff.mp hs
  have hfew : methodCallForm (es.length + ([] : List Keyword).length) (backTo pos (starEach es env)) (backToKw pos (keywordEach [] env)) = true := by
   unfold methodCallForm
   have h1 : (backTo pos (starEach es env)).all (fun x => !x.1) = true := by
    have := KQ (pos := pos) (env := env) hs1
    rw [List.all_eq_not_any_not]; simpa using this
   have h2 : decide (es.length < 30) = true := hs2
   rw [h1]
   show (true && true && decide (es.length + 0 + 0 < 30)) = true
   simpa using h2
  show W c A (do
    let ov <- attributeBase o name env (eval o env)
    PySem.standAt apos.atName
    methodCall o name apos pos env ov (es.length + ([] : List Keyword).length) (backTo pos (starEach es env)) (backToKw pos (keywordEach [] env))) σ Q s
  rw [hb]
  refine WR.bind (h s X) fun v s1 d σ1 q p r => WR.standAt ?_
  unfold methodCall
  rw [hfew]
  refine WR.seq (Bh (Ai (q s1 v _ (X.post p).sim r) (fun fx s' ⟨e, fd, k1, k2, k3⟩ => ⟨e, ?_⟩) fun _ _ e => e))
  subst e
  show W c A (methodCallPos true o env apos pos >>= fun callPos => callWith callPos fx.1 fx.2 (backTo pos (starEach es env)) (backToKw pos (keywordEach [] env))) σ1 Q s'
  have hp : methodCallPos true o env apos pos = pure pos := by
   unfold methodCallPos
   rw [if_pos (by rw [hline]; rfl)]
  rw [hp]
  exact Nx (X.post p) k1 k2 hs1 k3
theorem GM.inst {name : Str} {a cl dd f : Addr} {es : List (Str × D)} {K : Value -> List D -> Prop} (C : C4 c) (h1 : σ a = some (.inst cl dd)) (h2 : σ dd = some (.ns es)) (h3 : es.lookup name = none)
   (hg : plainGet c.K cl name = true) (hf : findIn c.K (.ref cl) name = some (some (.ref f))) (ht : isFn c.K (.ref f) = true) (hk : keepIn c.K (.ref f) = true) (k : K (.ref f) [.ref a]) : GM c A name (.ref a) σ K := by iterate 1
 exact fun s v pl X r => by
  cases r
  obtain ⟨arr, n, I, R, _⟩ := KR X h1 h2
  have := R.getL (x := name)
  rw [h3] at this
  exact method_fn (X.K C) I (plainGet_of hg).1 (plainGet_of hg).2 hf (beq_iff_eq.mp ht) (by show (PySem.W.getL name arr).map _ = _; rw [this]; rfl) ⟨rfl, [.ref a], Aw.own C hk, .cons (.ref a) .nil, k⟩
theorem GM.builtin {name : Str} {d : D} {T id : String} {K : Value -> List D -> Prop} (pa : PlainAttrs T) (slot : Slot T name id) (hty : typeOf (.builtin id) = pure (.type "method_descriptor"))
   (hT : ∀ s v, Sim c σ s -> Aj c.bad s.heap v d -> s.TypeIs v T /\ ∀ a, v = .ref a -> ∃ o, s.heap.get? a = some o /\ o.dict = none) (k : K (.builtin id) [d]) : GM c A name d σ K := by iterate 1
 exact fun s v pl X r =>
  getMethod_builtin (hT s v X r).1 pa slot hty (hT s v X r).2 ⟨rfl, [d], Aw.builtin id, .cons r .nil, k⟩
theorem KS (h : σ a = some (.list ds)) : ∀ s v, Sim c σ s -> Aj c.bad s.heap v (.ref a) -> s.TypeIs v "list" /\ ∀ b, v = .ref b -> ∃ o, s.heap.get? b = some o /\ o.dict = none := by iterate 1
 exact fun s v S r => by
  cases r
  obtain ⟨vs, n, ho, _⟩ := (S.1 _ _ h).1
  exact ⟨⟨_, ho, rfl⟩, fun b e => by cases e; exact ⟨_, ho, rfl⟩⟩
theorem Heap.DictOf.obj {K : Type} [DecidableEq K] {knd : PySem.KeyKind c.prog c.w K} {h : Heap} {a : Addr} {kvs : List (K × Value)} (x : h.DictOf knd a kvs) : ∃ o, h.get? a = some o /\ o.ExactDict := by iterate 1
 exact let ⟨o, _, _, ho, e, _⟩ := x; ⟨o, ho, e⟩
theorem Io {s : Shared} {a : Addr} {o : Obj} (ho : s.heap.get? a = some o) (e : o.ExactDict) : s.TypeIs (.ref a) "dict" /\ ∀ b, Value.ref a = .ref b -> ∃ o, s.heap.get? b = some o /\ o.dict = none := by iterate 1
 exact
  ⟨⟨o, ho, e.1⟩, fun b z => by cases z; exact ⟨o, ho, e.2.1⟩⟩
theorem KU (h : σ a = some (.dictS es)) : ∀ s v, Sim c σ s -> Aj c.bad s.heap v (.ref a) -> s.TypeIs v "dict" /\ ∀ b, v = .ref b -> ∃ o, s.heap.get? b = some o /\ o.dict = none := by iterate 1
 exact fun s v S r => by
  cases r
  obtain ⟨kvs, x, _⟩ := (S.1 _ _ h).1
  obtain ⟨o, ho, e⟩ := Heap.DictOf.obj x
  exact Io ho e
theorem RE (h : σ a = some (.dictI es)) : ∀ s v, Sim c σ s -> Aj c.bad s.heap v (.ref a) -> s.TypeIs v "dict" /\ ∀ b, v = .ref b -> ∃ o, s.heap.get? b = some o /\ o.dict = none := by iterate 1
 exact fun s v S r => by
  cases r
  obtain ⟨kvs, x, _⟩ := (S.1 _ _ h).1
  obtain ⟨o, ho, e⟩ := Heap.DictOf.obj x
  exact Io ho e
theorem KV (h : σ a = some (.dictT es)) : ∀ s v, Sim c σ s -> Aj c.bad s.heap v (.ref a) -> s.TypeIs v "dict" /\ ∀ b, v = .ref b -> ∃ o, s.heap.get? b = some o /\ o.dict = none := by iterate 1
 exact fun s v S r => by
  cases r
  obtain ⟨o, arr, ep, ho, e, _⟩ := (S.1 _ _ h).1
  exact Io ho e
theorem Af.under (x : Af A (n + 1)) : Af (A.under (.builtin "type.__call__" ⟨.ref C :: rest, []⟩)) n := by iterate 1
 have hw : (Code.builtin "type.__call__" ⟨.ref C :: rest, []⟩).weight = 1 := rfl
 have hu : (Code.builtin "type.__call__" ⟨.ref C :: rest, []⟩).cUnits = 1 := rfl
 refine ⟨x.handled, ?_, ?_⟩
 ·show A.depth + (Code.builtin "type.__call__" ⟨.ref C :: rest, []⟩).weight + 2 * n + 4 < _
  rw [hw]; have := x.depth; omega
 ·show A.units + (Code.builtin "type.__call__" ⟨.ref C :: rest, []⟩).cUnits + 10 * n + 300 < _
  rw [hu]; have := x.units; omega
theorem AB.cls {C fI : Addr} {args : List D} {Q : D -> Aa -> Prop} {n : Nat} (CO : C4 c) (hm : makesIn c.K C = true) (hi : findIn c.K (.ref C) "__init__" = some (some (.ref fI))) (hf : typeIn c.K (.ref fI) = some (.type "function"))
   (hroom : Af A (n + 1))
   (h : ∀ A' x dd, Af A' n -> σ x = none -> σ dd = none -> x ≠ dd -> AB c A' (.ref fI) (.ref x :: args) ((σ.set dd (.ns [])).set x (.inst C dd)) fun d σ' => d = .none /\ Q (.ref x) σ') :
   AB c A (.ref C) args σ Q := by iterate 1
 exact fun s vs S hr => by
  obtain ⟨hh, g, dr, t, os⟩ := s
  have K := S.K CO
  have S' : Sim c σ (⟨hh, g, dr, t, os⟩ : Shared) := S
  have p1 : Ah c σ ⟨hh, g, dr, t, os⟩ (σ.set hh.objs.size (.ns [])) { (⟨hh, g, dr, t, os⟩ : Shared) with heap := hh.push emptyDict, toks := t } :=
   Ah.EC S emptyDict t ⟨[], 0, AR _ rfl, trivial⟩
  have p2 := Ah.EC p1.1 (instObj C hh.objs.size) t (o := .inst C hh.objs.size) (AR _ rfl)
  have hsz : (hh.push emptyDict).objs.size = hh.objs.size + 1 := E4 ..
  have hsz' : ({ (⟨hh, g, dr, t, os⟩ : Shared) with heap := hh.push emptyDict, toks := t } : Shared).heap.objs.size = hh.objs.size + 1 := hsz
  rw [hsz'] at p2
  refine make_core (makes_of K hm) (looks_findIn K hi) (fun self => bind_fn K self hf) (.inl rfl) ?_
  have hn1 : σ (hh.objs.size + 1) = none := by
   cases e : σ (hh.objs.size + 1) with
   | none => rfl
   | some o => exact absurd (show hh.objs.size + 1 < hh.objs.size from S.lt e) (by omega)
  have hc := h (A.under (.builtin "type.__call__" ⟨.ref C :: vs, []⟩)) (hh.objs.size + 1) hh.objs.size hroom.under hn1 (S.fresh : σ hh.objs.size = none) (show hh.objs.size + 1 ≠ hh.objs.size from Nat.succ_ne_self _)
  have pp : Ah c σ ⟨hh, g, dr, t, os⟩ ((σ.set hh.objs.size (.ns [])).set (hh.objs.size + 1) (.inst C hh.objs.size)) ⟨(hh.push emptyDict).push (instObj C hh.objs.size), g, dr, t, os⟩ := p1.trans p2
  have hcc := hc ⟨(hh.push emptyDict).push (instObj C hh.objs.size), g, dr, t, os⟩ (.ref (hh.objs.size + 1) :: vs) pp.1 (.cons (.ref _) (pp.rels S hr))
  refine De hcc fun r s' hz => ?_
  obtain ⟨v, d, σ', rfl, ⟨rfl, q⟩, p, z⟩ := hz
  cases z
  exact ⟨rfl, _, _, σ', rfl, q, pp.trans p, .ref _⟩
end
end
section
open Builtin Builtin.ObjectAttr
theorem Bu.noRef : ∀ {arr : List DictEntry} {es : List (Str × D)}, Bu B h arr es -> arr.any (·.refKey) = false
 | [], [], _ => rfl
 | e :: r, (k, d) :: r', ⟨⟨t, hk⟩, _, hr⟩ => by iterate 1
  rw [KH, Bu.noRef hr]
  simp [DictEntry.refKey, hk]
 | [], _ :: _, f => f.elim
 | _ :: _, [], f => f.elim
section
variable {c : Cx} {A : Around} {env : Env} {m : Au} {σ : Aa}
theorem RF {s : Shared} {a cl dd : Addr} {es : List (Str × D)} {name : Str} {v : Value} {d : D} (C : C4 c) (S : Sim c σ s) (h1 : σ a = some (.inst cl dd)) (h2 : σ dd = some (.ns es)) (hr : Aj c.bad s.heap v d)
  (hs : findIn c.K (.ref cl) "__setattr__" = some (some (.builtin "object.__setattr__"))) (hp : plainOver c.K cl = true) (ht : takerIn c.K cl name = some none) (hh : hasDictIn c.K cl = true) (hz : es.length < 900) :
  wpAny c.M A (setAttr (.ref a) name v) (fun _ s' => Ah c σ s (σ.set dd (.ns (Dv name d es))) s') (fun _ _ => False) s := by iterate 1
 obtain ⟨arr, n, I, R, hdd⟩ := KR S h1 h2
 have K := S.K C
 refine set_plain K I hs ?_
 refine osa_open (s := { s with toks := s.toks + 1 }) K I hp ht fun b => ?_
 obtain ⟨cd, hc, hd'⟩ := any_some hh
 have hx : s.heap.get? a = some ⟨.ref cl, some dd, .plain, #[]⟩ := (S.1 _ _ h1).1
 refine Ab (Ad (Ab (Ab (wpAny_loadPart hx (Ab (Looks.here (s := { s with toks := s.toks + 1 }) (looks_clsIn K hc) ?_))))))
 rw [hd']
 refine Ad (a := some dd) (Ab (Ad (Ab ?_)))
 have hlen : arr.length = es.length := R.length
 have key : ∀ tk : Nat, BD c (s.heap.update dd (Obj.putName name (Cc c.w.params name) (.str name tk) v)) dd (.ns (Dv name d es)) /\
   Ah c σ s (σ.set dd (.ns (Dv name d es))) { s with heap := s.heap.update dd (Obj.putName name (Cc c.w.params name) (.str name tk) v), toks := tk + 1 } := by
  intro tk
  have e : Obj.putName name (Cc c.w.params name) (.str name tk) v (dictOf arr n) = dictOf (putL name (Cc c.w.params name) (.str name tk) v arr) (putN name arr n) := putName_dict ..
  have hg : (s.heap.update dd (Obj.putName name (Cc c.w.params name) (.str name tk) v)).get? dd = some (dictOf (putL name (Cc c.w.params name) (.str name tk) v arr) (putN name arr n)) := by
   rw [<- e]; exact EE _ hdd (by rw [e]; rfl)
  have SB := Df s.heap dd (Obj.putName name (Cc c.w.params name) (.str name tk) v)
  have mo : AW s.heap (s.heap.update dd (Obj.putName name (Cc c.w.params name) (.str name tk) v)) -> BD c (s.heap.update dd (Obj.putName name (Cc c.w.params name) (.str name tk) v)) dd (.ns (Dv name d es)) :=
   fun k => ⟨_, _, hg, Bu.putL (hr.mono k) (R.mono k)⟩
  have P := Ah.Ii (h' := s.heap.update dd (Obj.putName name (Cc c.w.params name) (.str name tk) v)) S (tk + 1) h2 SB mo
  exact ⟨(P.1.1 dd _ (Aa.DZ ..)).1, P⟩
 have hput : (putL name (Cc c.w.params name) (.str name (s.toks + 1)) v arr).length <= 1000 := by
  obtain ⟨⟨arr', n', hg', R'⟩, P⟩ := key (s.toks + 1)
  have hl : ∀ (es : List (Str × D)), (Dv name d es).length <= es.length + 1 := by
   intro es
   induction es with
   | nil => simp [Dv]
   | cons x r ih => obtain ⟨k, y⟩ := x; unfold Dv; split <;> simp <;> omega
  have e : Obj.putName name (Cc c.w.params name) (.str name (s.toks + 1)) v (dictOf arr n) = dictOf (putL name (Cc c.w.params name) (.str name (s.toks + 1)) v arr) (putN name arr n) := putName_dict ..
  have hg : (s.heap.update dd (Obj.putName name (Cc c.w.params name) (.str name (s.toks + 1)) v)).get? dd = some (dictOf (putL name (Cc c.w.params name) (.str name (s.toks + 1)) v arr) (putN name arr n)) := by
   rw [<- e]; exact EE _ hdd (by rw [e]; rfl)
  rw [hg] at hg'
  have e2 : putL name (Cc c.w.params name) (.str name (s.toks + 1)) v arr = arr' := by
   injection hg' with h'; injection h' with _ _ h3 _; injection h3 with h4 _; simpa using congrArg Array.toList h4
  rw [e2, R'.length]
  have := hl es; omega
 unfold nsSet
 refine Ab (Ab (Ip (Ad (Ab (wpAny_mkText (Ab (wpAny_loadPart hdd ?_)))))))
 have hl := R.getL (x := name)
 have hany : (!arr.toArray.any (·.key.isStr name) && arr.toArray.any (·.refKey)) = false := by
  have : arr.any (·.refKey) = false := R.noRef
  simp [this]
 dsimp only
 rw [aRefKeyMayBeTheName_at, hany]
 refine wpAny_updatePart hdd ?_
 obtain ⟨_, P⟩ := key (s.toks + 1)
 have e : Obj.putName name (Cc c.w.params name) (.str name (s.toks + 1)) v (dictOf arr n) = dictOf (putL name (Cc c.w.params name) (.str name (s.toks + 1)) v arr) (putN name arr n) := putName_dict ..
 have hg : (s.heap.update dd (Obj.putName name (Cc c.w.params name) (.str name (s.toks + 1)) v)).get? dd = some (dictOf (putL name (Cc c.w.params name) (.str name (s.toks + 1)) v arr) (putN name arr n)) := by
  rw [<- e]; exact EE _ hdd (by rw [e]; rfl)
 refine Ab (wpAny_lookBehind hg (pastItsLine_dict (by rw [Eh, D1]; omega)) ?_)
 exact Ad P
theorem EX.RG (C : C4 c)
   (h : EV c A env m value σ fun d σ1 => EV c A env m o σ1 fun t σ2 => ∃ a cl dd es, t = .ref a /\ σ2 a = some (.inst cl dd) /\ σ2 dd = some (.ns es) /\
    findIn c.K (.ref cl) "__setattr__" = some (some (.builtin "object.__setattr__")) /\ plainOver c.K cl = true /\ takerIn c.K cl attr = some none /\ hasDictIn c.K cl = true /\ es.length < 900 /\
    Q .next m (σ2.set dd (.ns (Dv attr d es))))
   (hs : swapsWith value (some (.Attribute o attr pos')) pos.line env = pure false := by rfl) : EX c A env m (.Assign [.Attribute o attr pos'] value pos) σ Q := by iterate 1
 exact fun s X => by
  refine plainObj_wpAny_Assign_Attribute (Ai (h s X) (fun v s1 ⟨d, σ1, q, p, r⟩ => ?_) fun _ _ e => e) hs
  refine Ai (q s1 (X.post p)) (fun ov s2 ⟨t, σ2, q2, p2, r2⟩ => ?_) fun _ _ e => e
  obtain ⟨a, cl, dd, es, rfl, h1, h2, h3, h4, h5, h6, h7, q⟩ := q2
  cases r2
  refine Ai (RF C p2.1 h1 h2 (p2.rel p.1 r) h3 h4 h5 h6 h7) (fun _ s3 p3 => ?_) fun _ _ e => e
  have pp := (p.trans p2).trans p3
  exact ⟨.next, m, _, q, pp.2.toX, X.post pp, trivial⟩
theorem EX.expr (h : EV c A env m e σ fun d σ' => (∀ a, d ≠ .ref a) /\ (∀ ds, d ≠ .tup ds) /\ Q .next m σ')
   (hs : swapsWith e Dw pos.line env = pure false := by rfl) : EX c A env m (.Expr e pos) σ Q := by iterate 1
 exact fun s X => by
  have hi : interactive env = false := by unfold interactive; rw [X.ok.kind]; rfl
  refine wpAny_Expr (Ai (h s X) (fun v s' ⟨d, σ', ⟨q1, q2, q⟩, p, r⟩ => ?_) fun _ _ e => e) hi hs
  cases r with
  | ref a => exact absurd rfl (q1 a)
  | tup _ _ _ => exact absurd rfl (q2 _)
  | _ => exact ⟨.next, m, σ', q, p.2.toX, X.post p, trivial⟩
end
end
section
variable {c : Cx} {A : Around} {env : Env} {m : Au} {σ : Aa}
noncomputable def BOP (c : Cx) (A : Around) (op : Operator) (a b : D) (σ : Aa) (Q : D -> Aa -> Prop) : Prop := ∀ s va vb, Sim c σ s -> Aj c.bad s.heap va a -> Aj c.bad s.heap vb b -> W c A (binaryOp op va vb) σ Q s
noncomputable def CMP (c : Cx) (A : Around) (op : CmpOp) (a b : D) (σ : Aa) (Q : Bool -> Aa -> Prop) : Prop :=
 ∀ s va vb, Sim c σ s -> Aj c.bad s.heap va a -> Aj c.bad s.heap vb b -> wpAny c.M A (compareOp op va vb) (fun v s' => ∃ b σ', v = .bool b /\ Q b σ' /\ Ah c σ s σ' s') (fun _ _ => False) s
theorem EV.binop (h : EV c A env m l σ fun a σ1 => EV c A env m r σ1 fun b σ2 => BOP c A op a b σ2 Q) : EV c A env m (.BinOp l op r pos) σ Q := by iterate 1
 exact fun s X => by
  refine wpAny_BinOp (Ai (h s X) (fun va s1 ⟨a, σ1, q, p, r⟩ => ?_) fun _ _ e => e)
  refine Ai (q s1 (X.post p)) (fun vb s2 ⟨b, σ2, q2, p2, r2⟩ => ?_) fun _ _ e => e
  exact Ai (q2 s2 va vb p2.1 (p2.rel p.1 r) r2) (fun v s3 ⟨d, σ3, q3, p3, r3⟩ => ⟨d, σ3, q3, (p.trans p2).trans p3, r3⟩) fun _ _ e => e
theorem EV.cmp (h : EV c A env m l σ fun a σ1 => EV c A env m r σ1 fun b σ2 => CMP c A op a b σ2 fun t σ3 => Q (.bool t) σ3)
   (hm : behindInMarks op r = false := by rfl) : EV c A env m (.Compare l [op] [r] pos) σ Q := by iterate 1
 exact fun s X => by
  refine wpAny_Compare1 (Ai (h s X) (fun va s1 ⟨a, σ1, q, p, r⟩ => ?_) fun _ _ e => e) hm
  refine Ai (q s1 (X.post p)) (fun vb s2 ⟨b, σ2, q2, p2, r2⟩ => ?_) fun _ _ e => e
  exact Ai (q2 s2 va vb p2.1 (p2.rel p.1 r) r2) (fun v s3 ⟨t, σ3, e, q3, p3⟩ => ⟨.bool t, σ3, q3, (p.trans p2).trans p3, e ▸ .bool t⟩) fun _ _ e => e
theorem ET.cmp {Q : Bool -> Aa -> Prop} (h : EV c A env m l σ fun a σ1 => EV c A env m r σ1 fun b σ2 => CMP c A op a b σ2 Q)
   (hm : behindInMarks op r = false := by rfl) : ET c A env m (.Compare l [op] [r] pos) σ Q := by iterate 1
 exact fun s X => by
  refine wpAny_isTrue_Compare1 (Ai (h s X) (fun va s1 ⟨a, σ1, q, p, r⟩ => ?_) fun _ _ e => e) hm
  refine Ai (q s1 (X.post p)) (fun vb s2 ⟨b, σ2, q2, p2, r2⟩ => ?_) fun _ _ e => e
  refine Ai (q2 s2 va vb p2.1 (p2.rel p.1 r) r2) (fun v s3 ⟨t, σ3, e, q3, p3⟩ => ?_) fun _ _ e => e
  subst e
  exact Iq ⟨t, σ3, q3, (p.trans p2).trans p3, rfl⟩
theorem ET.chain {Q : Bool -> Aa -> Prop}
   (h : EV c A env m l σ fun a σ1 => EV c A env m k σ1 fun b σ2 => CMP c A op1 a b σ2 fun t σ3 => if t = true then EV c A env m r σ3 fun d σ4 => CMP c A op2 b d σ4 Q else Q false σ3)
   (hm : behindInMarks op2 r = false := by rfl) : ET c A env m (.Compare l [op1, op2] [k, r] pos) σ Q := by iterate 1
 exact fun s X => by
  show WE c A (do testChain pos (<- eval l env) [op1, op2] [eval k env, markedBehindIn op2 r (eval r env)]) σ Q s
  rw [markedBehindIn_of_false hm]
  refine WR.bind (h s X) fun va s1 a σ1 q p r1 => ?_
  show WE c A (do
   let rv <- PySem.holding [va] (eval k env)
   PySem.standAt pos
   let x <- PySem.holding [va, rv] (compareOp op1 va rv)
   release [va, rv] [x]
   if <- PySem.holding [x, rv] (truthy x) then testChain pos rv [op2] [eval r env] else pure false) σ1 Q s1
  refine WR.bind (R := Aj c.bad) (WR.holding (q s1 (X.post p))) fun vb s2 b σ2 q2 p2 r2 => WR.standAt ?_
  have X2 := X.post (p.trans p2)
  refine Ab (Bh (Ai (q2 s2 va vb p2.1 (p2.rel p.1 r1) r2) (fun v s3 ⟨t, σ3, e, q3, p3⟩ => ?_) fun _ _ e => e))
  subst e
  have hrel : ∀ (vs keep : List Value) {Q' : Unit -> Shared -> Prop}, Q' () s3 -> wpAny c.M A (release vs keep) Q' (fun _ _ => False) s3 := fun vs keep Q' hq Γ pp _ => by rw [Sem.wp_release]; exact hq
  refine Ab (hrel _ _ (Ab (Bh (Iq ?_))))
  cases t with
  | false => exact Ad ⟨false, σ3, q3, p3, rfl⟩
  | true =>
   show wpAny c.M A (do
    let rv <- PySem.holding [vb] (eval r env)
    PySem.standAt pos
    let x <- operate [vb, rv] (compareOp op2 vb rv)
    PySem.holding [x] (truthy x)) _ _ s3
   refine Ab (Bh (Ai (q3 s3 (X2.post p3)) (fun vd s4 ⟨d, σ4, q4, p4, r4⟩ => ?_) fun _ _ e => e))
   refine Ab (EB (Ab ?_))
   have := q4 s4 vb vd p4.1 (p4.rel p3.1 (p3.rel p2.1 r2)) r4
   refine fun Γ pp hΓ => ?_
   rw [Sem.wp_operate]
   refine Sem.wp_mono _ _ _ (fun v p' s5 hz => ?_) (fun _ _ _ e => e) _ _ (this Γ pp hΓ)
   obtain ⟨t, σ5, e, q5, p5⟩ := hz
   subst e
   exact Bh (Iq ⟨t, σ5, q5, (p3.trans p4).trans p5, rfl⟩)
theorem ET.not {Q : Bool -> Aa -> Prop} (h : ET c A env m x σ fun b σ' => Q (!b) σ') : ET c A env m (.UnaryOp .Not x pos) σ Q := by iterate 1
 exact fun s X => by
  show WE c A (do return !(<- isTrue x env (eval x env))) σ Q s
  exact Ab (Ai (h s X) (fun b s' ⟨d, σ', q, p, r⟩ => Ad ⟨!d, σ', q, p, by cases (show b = d from r); rfl⟩) fun _ _ e => e)
theorem ET.and {Q : Bool -> Aa -> Prop} (h : ET c A env m x σ fun b σ' => if b = true then ET c A env m y σ' Q else Q false σ') : ET c A env m (.BoolOp .And [x, y] pos) σ Q := by iterate 1
 exact fun s X => by
  show WE c A (allTrue .And [x, y] env) σ Q s
  show WE c A (do
   match BoolOp.And, <- isTrue x env (eval x env) with
   | .And, false => pure false
   | .Or, true => pure true
   | _, _ => allTrue .And [y] env) σ Q s
  refine Ab (Ai (h s X) (fun b s' ⟨d, σ', q, p, r⟩ => ?_) fun _ _ e => e)
  cases (show b = d from r)
  cases b with
  | false => exact Ad ⟨false, σ', q, p, rfl⟩
  | true =>
   show wpAny c.M A (do
    match BoolOp.And, <- isTrue y env (eval y env) with
    | .And, false => pure false
    | .Or, true => pure true
    | _, _ => allTrue .And [] env) _ _ s'
   refine Ab (Ai (q s' (X.post p)) (fun b s2 ⟨d, σ2, q2, p2, r2⟩ => ?_) fun _ _ e => e)
   cases (show b = d from r2)
   cases b with
   | false => exact Ad ⟨false, σ2, q2, p.trans p2, rfl⟩
   | true => exact Ad ⟨true, σ2, q2, p.trans p2, rfl⟩
theorem ET.or {Q : Bool -> Aa -> Prop} (h : ET c A env m x σ fun b σ' => if b = true then Q true σ' else ET c A env m y σ' Q) : ET c A env m (.BoolOp .Or [x, y] pos) σ Q := by iterate 1
 exact fun s X => by
  show WE c A (do
   match BoolOp.Or, <- isTrue x env (eval x env) with
   | .And, false => pure false
   | .Or, true => pure true
   | _, _ => allTrue .Or [y] env) σ Q s
  refine Ab (Ai (h s X) (fun b s' ⟨d, σ', q, p, r⟩ => ?_) fun _ _ e => e)
  cases (show b = d from r)
  cases b with
  | true => exact Ad ⟨true, σ', q, p, rfl⟩
  | false =>
   show wpAny c.M A (do
    match BoolOp.Or, <- isTrue y env (eval y env) with
    | .And, false => pure false
    | .Or, true => pure true
    | _, _ => allTrue .Or [] env) _ _ s'
   refine Ab (Ai (q s' (X.post p)) (fun b s2 ⟨d, σ2, q2, p2, r2⟩ => ?_) fun _ _ e => e)
   cases (show b = d from r2)
   cases b with
   | false => exact Ad ⟨false, σ2, q2, p.trans p2, rfl⟩
   | true => exact Ad ⟨true, σ2, q2, p.trans p2, rfl⟩
theorem ET.val {Q : Bool -> Aa -> Prop} (h : EV c A env m e σ fun d σ' => ∃ b, d = .bool b /\ Q b σ')
   (he : isTrue e env (eval e env) = (do let v <- eval e env; PySem.standAt e.pos; PySem.holding [v] (truthy v)) := by rfl) : ET c A env m e σ Q := by iterate 1
 exact fun s X => by
  rw [he]
  refine WR.bind (h s X) fun v s1 d σ1 q p r => WR.standAt ?_
  obtain ⟨b, rfl, q⟩ := q
  cases r
  exact Bh (Iq ⟨b, σ1, q, .refl p.1, rfl⟩)
theorem EV.and (h : EV c A env m x σ fun d σ' => ∃ b, d = .bool b /\ if b = true then EV c A env m y σ' Q else Q (.bool false) σ') : EV c A env m (.BoolOp .And [x, y] pos) σ Q := by iterate 1
 exact fun s X => by
  show W c A (do
   let v <- eval x env
   PySem.standAt pos
   let t <- PySem.holding [v] (truthy v)
   match BoolOp.And, t with
   | .And, false | .Or, true => pure v
   | _, _ => eval y env) σ Q s
  refine WR.bind (h s X) fun v s1 d σ1 q p r => WR.standAt ?_
  obtain ⟨b, rfl, q⟩ := q
  cases r
  refine Ab (Bh (Iq ?_))
  cases b with
  | false => exact Ad ⟨.bool false, σ1, q, .refl p.1, .bool _⟩
  | true => exact q s1 (X.post p)
theorem EV.ife (h : ET c A env m t σ fun x σ' => if x = true then EV c A env m b σ' Q else EV c A env m o σ' Q) : EV c A env m (.IfExp t b o pos) σ Q := by iterate 1
 exact fun s X => by
  show W c A (do if <- isTrue t env (eval t env) then eval b env else eval o env) σ Q s
  refine WR.bind (h s X) fun v s1 d σ1 q p r => ?_
  cases (show v = d from r)
  cases v
  ·exact q s1 (X.post p)
  ·exact q s1 (X.post p)
theorem EV.neg (h : EV c A env m x σ fun d σ' => ∃ i, d = .int i /\ Q (.int (-i)) σ') : EV c A env m (.UnaryOp .USub x pos) σ Q := by iterate 1
 exact fun s X => by
  show W c A (do let v <- eval x env; PySem.standAt pos; PySem.holding [v] (unaryOp .USub v)) σ Q s
  refine WR.bind (h s X) fun v s1 d σ1 q p r => WR.standAt ?_
  obtain ⟨i, rfl, q⟩ := q
  cases r
  exact Bh (PySem.P.neg_int ⟨.int (-i), σ1, q, Ah.toks p.1 _, .int _ _⟩)
theorem BOP.Hl (q : Q (.int (i + j)) σ) : BOP c A .Add (.int i) (.int j) σ Q := by iterate 1
 exact fun s va vb S ra rb => by
  cases ra; cases rb; exact PySem.P.add_int ⟨_, σ, q, Ah.toks S _, .int _ _⟩
theorem BOP.subI (q : Q (.int (i - j)) σ) : BOP c A .Sub (.int i) (.int j) σ Q := by iterate 1
 exact fun s va vb S ra rb => by
  cases ra; cases rb; exact PySem.P.sub_int ⟨_, σ, q, Ah.toks S _, .int _ _⟩
theorem BOP.Ir (hm : IntMulOk i j) (q : Q (.int (i * j)) σ) : BOP c A .Mult (.int i) (.int j) σ Q := by iterate 1
 exact fun s va vb S ra rb => by
  cases ra; cases rb; exact PySem.P.mul_int ⟨_, σ, q, Ah.toks S _, .int _ _⟩ hm
theorem BOP.KW (hj : 0 < j) (q : Q (.int (i % j)) σ) : BOP c A .Mod (.int i) (.int j) σ Q := by iterate 1
 exact fun s va vb S ra rb => by
  cases ra; cases rb
  refine PyProof.Rows.mod_int (by omega) ⟨_, σ, q, Ah.toks S _, ?_⟩
  rw [Int.fmod_eq_emod_of_nonneg _ (Int.le_of_lt hj)]
  exact .int _ _
theorem CMP.eqI {Q : Bool -> Aa -> Prop} (q : Q (decide (i = j)) σ) : CMP c A .Eq (.int i) (.int j) σ Q := by iterate 1
 exact fun s va vb S ra rb => by
  cases ra; cases rb; exact PySem.P.eq_int ⟨_, σ, by first | rfl, q, .refl S⟩
theorem CMP.neI {Q : Bool -> Aa -> Prop} (q : Q (!decide (i = j)) σ) : CMP c A .NotEq (.int i) (.int j) σ Q := by iterate 1
 exact fun s va vb S ra rb => by
  cases ra; cases rb; exact PySem.P.ne_int ⟨_, σ, by first | rfl, q, .refl S⟩
theorem CMP.ltI {Q : Bool -> Aa -> Prop} (q : Q (decide (i < j)) σ) : CMP c A .Lt (.int i) (.int j) σ Q := by iterate 1
 exact fun s va vb S ra rb => by
  cases ra; cases rb; exact PySem.P.lt_int ⟨_, σ, rfl, q, .refl S⟩
theorem CMP.leI {Q : Bool -> Aa -> Prop} (q : Q (decide (i <= j)) σ) : CMP c A .LtE (.int i) (.int j) σ Q := by iterate 1
 exact fun s va vb S ra rb => by
  cases ra; cases rb; exact PySem.P.le_int ⟨_, σ, rfl, q, .refl S⟩
theorem CMP.gtI {Q : Bool -> Aa -> Prop} (q : Q (decide (i > j)) σ) : CMP c A .Gt (.int i) (.int j) σ Q := by iterate 1
 exact fun s va vb S ra rb => by
  cases ra; cases rb; exact PySem.P.gt_int ⟨_, σ, rfl, q, .refl S⟩
theorem CMP.geI {Q : Bool -> Aa -> Prop} (q : Q (decide (i ≥ j)) σ) : CMP c A .GtE (.int i) (.int j) σ Q := by iterate 1
 exact fun s va vb S ra rb => by
  cases ra; cases rb; exact PySem.P.ge_int ⟨_, σ, rfl, q, .refl S⟩
theorem CMP.eqS {Q : Bool -> Aa -> Prop} (q : Q (decide (i = j)) σ) : CMP c A .Eq (.str i) (.str j) σ Q := by iterate 1
 exact fun s va vb S ra rb => by
  cases ra; cases rb
  refine PySem.P.eq_str ⟨_, σ, rfl, ?_, .refl S⟩
  rw [show (i.cps.toList == j.cps.toList) = decide (i = j) from ?_]
  ·exact q
  ·by_cases h : i = j
   ·subst h; simp
   ·rw [decide_eq_false h]
    exact beq_eq_false_iff_ne.mpr fun e => h (by cases i; cases j; simp only at e; congr; exact It.mp e)
theorem CMP.neS {Q : Bool -> Aa -> Prop} (q : Q (!decide (i = j)) σ) : CMP c A .NotEq (.str i) (.str j) σ Q := by iterate 1
 exact fun s va vb S ra rb => by
  cases ra; cases rb
  refine PySem.P.ne_str ⟨_, σ, rfl, ?_, .refl S⟩
  rw [show (i.cps.toList != j.cps.toList) = !decide (i = j) from ?_]
  ·exact q
  ·by_cases h : i = j
   ·subst h; simp
   ·rw [decide_eq_false h]
    show (!(i.cps.toList == j.cps.toList)) = _
    rw [beq_eq_false_iff_ne.mpr fun e => h (by cases i; cases j; simp only at e; congr; exact It.mp e)]
end
theorem BA : sizeLine = 16777216 := by rw [D1]
section
variable {c : Cx} {A : Around} {env : Env} {m : Au} {σ : Aa}
theorem RH (S : Sim c σ s) (r : Ak c.bad s.heap vs ds) (hz : ds.length <= 1000000) (q : Q (.tup ds) σ) : W c A (newTuple vs) σ Q s := by iterate 1
 have hl := r.length
 refine CM ⟨.tup ds, σ, q, Ah.push S _ _, ?_⟩ (by show vs.toArray.size <= sizeLine; rw [Eh, BA]; omega)
 exact .tup (n := 0) S.freshB (AR _ rfl) (r.mono fun _ _ _ e => AA _ e)
theorem RJ (S : Sim c σ s) (r : Ak c.bad s.heap vs ds) (hz : ds.length <= 1000000)
  (q : ∀ l, σ l = none -> Q (.ref l) (σ.set l (.list ds))) : W c A (newList vs) σ Q s := by
 have hl := r.length
 refine CM ⟨.ref _, _, q _ S.fresh, Ah.EC S _ _ ?_, .ref _⟩ (by show vs.toArray.size <= sizeLine; rw [Eh, BA]; omega)
 exact ⟨vs, 0, AR _ rfl, r.mono fun _ _ _ e => AA _ e⟩
theorem EV.tuple (h : EL c A env m es σ fun ds σ' => ds.length <= 1000000 /\ Q (.tup ds) σ') : EV c A env m (.Tuple es k pos) σ Q := by iterate 1
 exact fun s X => by
  refine Tuple_ (Ai (h s pos X) (fun vs s1 ⟨ds, σ1, ⟨hz, q⟩, p, r⟩ => ?_) fun _ _ e => e)
  exact Ai (RH p.1 r hz q) (fun v s2 ⟨d, σ2, q2, p2, r2⟩ => ⟨d, σ2, q2, p.trans p2, r2⟩) fun _ _ e => e
theorem EV.list (h : EL c A env m es σ fun ds σ' => ds.length <= 1000000 /\ ∀ l, σ' l = none -> Q (.ref l) (σ'.set l (.list ds))) : EV c A env m (.List es pos) σ Q := by iterate 1
 exact fun s X => by
  refine List_ (Ai (h s pos X) (fun vs s1 ⟨ds, σ1, ⟨hz, q⟩, p, r⟩ => ?_) fun _ _ e => e)
  exact Ai (RJ p.1 r hz q) (fun v s2 ⟨d, σ2, q2, p2, r2⟩ => ⟨d, σ2, q2, p.trans p2, r2⟩) fun _ _ e => e
theorem EV.dict0 (o : MO) (ho : o = .dictS [] ∨ o = .dictI [] ∨ o = .dictT []) (q : ∀ l, σ l = none -> Q (.ref l) (σ.set l o)) : EV c A env m (.Dict [] [] pos) σ Q := by iterate 1
 exact fun s X => by
  refine wpAny_Dict_empty ⟨.ref _, _, q _ X.sim.fresh, Ah.EC X.sim _ _ ?_, .ref _⟩
  have hg : (s.heap.push { cls := .type "dict", data := .dict #[] }).get? s.heap.objs.size = some { cls := .type "dict", data := .dict #[] } := AR _ rfl
  rcases ho with rfl | rfl | rfl
  ·exact ⟨[], ⟨_, #[], 0, hg, ⟨rfl, rfl, rfl⟩, rfl, fun _ h => by simp at h, .nil, Cw⟩, trivial⟩
  ·exact ⟨[], ⟨_, #[], 0, hg, ⟨rfl, rfl, rfl⟩, rfl, fun _ h => by simp at h, .nil, Cw⟩, trivial⟩
  ·exact ⟨_, #[], 0, hg, ⟨rfl, rfl, rfl⟩, rfl, trivial, Cw⟩
noncomputable def IT (c : Cx) (A : Around) (o i : D) (σ : Aa) (Q : D -> Aa -> Prop) : Prop :=
 ∀ s vo vi, Sim c σ s -> Aj c.bad s.heap vo o -> Aj c.bad s.heap vi i -> ItemOn c.M A (fun _ _ => False) vo vi (Ret (Aj c.bad) c σ s Q) s
theorem EV.sub (h : EV c A env m value σ fun o σ1 => EV c A env m slice σ1 fun i σ2 => IT c A o i σ2 Q)
   (hs : ∀ o i, subscripted slice false o i = operate [o, i] (getItem o i) := by intro _ _; rfl) : EV c A env m (.Subscript value slice pos) σ Q := by iterate 1
 exact fun s X => by
  refine Subscript_ (Ai (h s X) (fun vo s1 ⟨o, σ1, q, p, r⟩ => ?_) fun _ _ e => e)
  refine Ai (q s1 (X.post p)) (fun vi s2 ⟨i, σ2, q2, p2, r2⟩ => ?_) fun _ _ e => e
  obtain ⟨T, id, hl, hT, hg⟩ := q2 s2 vo vi p2.1 (p2.rel p.1 r) r2
  exact tail_any hT hl (Ai hg (fun v s3 ⟨d, σ3, q3, p3, r3⟩ => ⟨d, σ3, q3, (p.trans p2).trans p3, r3⟩) fun _ _ e => e) (hs _ _)
theorem BF (S : Sim c σ s) (h : σ a = some (.list ds)) : ∃ vs n, s.heap.get? a = some (Ct vs n) /\ Ak c.bad s.heap vs ds /\ s.heap.IsList a vs.toArray := by iterate 1
 exact
  let ⟨vs, n, ho, r⟩ := (S.1 _ _ h).1; ⟨vs, n, ho, r, ⟨_, ho, rfl, n, rfl⟩⟩
theorem IT.list (h : σ a = some (.list ds)) (h0 : 0 <= i) (hi : i < 2 ^ 63) (hd : ds[i.toNat]? = some d) (q : Q d σ) : IT c A (.ref a) (.int i) σ Q := by iterate 1
 exact fun s vo vi S ro ri => by
  cases ro; cases ri
  obtain ⟨vs, n, ho, r, hl⟩ := BF S h
  obtain ⟨v, hv, hr⟩ := r.get hd
  exact ⟨"list", _, Nz.lookup, hl.typeIs, wpAny_getItem_list hl h0 hi (by simpa using hv) ⟨d, σ, q, .refl S, hr⟩⟩
theorem IT.RK (h : σ a = some (.list ds)) (h0 : i < 0) (h1 : -(ds.length : Int) <= i) (hi : -(2 ^ 63) <= i) (hd : ds[(i + ds.length).toNat]? = some d) (q : Q d σ) : IT c A (.ref a) (.int i) σ Q := by iterate 1
 exact fun s vo vi S ro ri => by
  cases ro; cases ri
  obtain ⟨vs, n, ho, r, hl⟩ := BF S h
  obtain ⟨v, hv, hr⟩ := r.get hd
  have hlen := r.length
  exact ⟨"list", _, Nz.lookup, hl.typeIs, wpAny_getItem_list_neg hl h0 (by simpa [hlen] using h1) hi (by simpa [hlen] using hv) ⟨d, σ, q, .refl S, hr⟩⟩
theorem RL {i : Int} {n : Nat} (h0 : 0 <= i) (h1 : i < n) : seqIndex? i n = some i.toNat := by iterate 1
 unfold seqIndex?
 have : ¬ i < 0 := by omega
 simp [this, h1]
theorem IT.tup (h0 : 0 <= i) (hi : i < 2 ^ 63) (hd : ds[i.toNat]? = some d) (q : Q d σ) : IT c A (.tup ds) (.int i) σ Q := by iterate 1
 exact fun s vo vi S ro ri => by
  cases ri
  cases ro with
  | @tup a vs n _ nb ho r =>
   obtain ⟨v, hv, hr⟩ := r.get hd
   have ht : IsTup s.heap a vs.toArray := ⟨_, ho, rfl, n, rfl⟩
   have hlt : i.toNat < vs.length := (AT.mp hv).1
   exact ⟨"tuple", _, slot_tuple_getitem.lookup, ht.typeIs, getItem_tuple ht (by omega) hi (RL h0 (by simp; omega)) (by simpa using hv) ⟨d, σ, q, .refl S, hr⟩⟩
theorem RM
  (h : Q (.ref s.heap.objs.size) { s with heap := s.heap.push { cls := .type "slice", data := .fields #[.int a s.toks, .none, .none] }, toks := s.toks + 1 }) :
  wpAny c.M A (eval (.Slice (some (.Constant (.int a) k p)) none none pos) env) Q E s := by iterate 1
 show wpAny c.M A (do
  let l <- mkInt a
  let u <- PySem.holding [l] (pure Value.none)
  let st <- PySem.holding [l, u] (pure Value.none)
  newFields "slice" [l, u, st]) Q E s
 exact Ab (wpAny_mkInt (Ab (Bh (Ad (Ab (Bh (Ad (CM h (by size_fits)))))))))
theorem NA
  (h : Q (.ref s.heap.objs.size) { s with heap := s.heap.push { cls := .type "slice", data := .fields #[.none, .int a s.toks, .none] }, toks := s.toks + 1 }) :
  wpAny c.M A (eval (.Slice none (some (.Constant (.int a) k p)) none pos) env) Q E s := by iterate 1
 show wpAny c.M A (do
  let l <- pure Value.none
  let u <- PySem.holding [l] (mkInt a)
  let st <- PySem.holding [l, u] (pure Value.none)
  newFields "slice" [l, u, st]) Q E s
 exact Ab (Ad (Ab (Bh (wpAny_mkInt (Ab (Bh (Ad (CM h (by size_fits)))))))))
theorem EV.RN (ha : 1 <= a) (h : EV c A env m value σ fun o σ1 => ∃ ds, o = .tup ds /\ a <= ds.length /\ ds.length <= 1000000 /\ Q (.tup (ds.drop a)) σ1) :
   EV c A env m (.Subscript value (.Slice (some (.Constant (.int a) k p)) none none p') pos) σ Q := by iterate 1
 exact fun s X => by
  refine Subscript_ (Ai (h s X) (fun vo s1 ⟨o, σ1, ⟨ds, e, h1, h2, q⟩, P, r⟩ => RM ?_) fun _ _ e => e)
  subst e
  cases r with
  | @tup t vs n _ nb ho r =>
   have hl := r.length
   have P1 : Ah c σ1 s1 σ1 { s1 with heap := s1.heap.push { cls := .type "slice", data := .fields #[.int a s1.toks, .none, .none] }, toks := s1.toks + 1 } := Ah.push P.1 _ _
   have ht : IsTup (s1.heap.push { cls := .type "slice", data := .fields #[.int a s1.toks, .none, .none] }) t vs.toArray := ⟨_, AA _ ho, rfl, n, rfl⟩
   refine tail_any (s := { s1 with heap := s1.heap.push { cls := .type "slice", data := .fields #[.int a s1.toks, .none, .none] }, toks := s1.toks + 1 }) ht.typeIs slot_tuple_getitem.lookup
    (getItem_tuple_from ht (RO ..) ha (by simp; omega) ?_ (by rw [BA]; simp; omega)) (ops := [_, _]) rfl
   have P2 := Ah.push P1.1 { cls := .type "tuple", data := .seq (vs.toArray.toList.drop a).toArray } (s1.toks + 1)
   refine ⟨_, σ1, q, (P.trans P1).trans P2, .tup (n := 0) P1.1.freshB (AR _ rfl) ?_⟩
   show Ak c.bad _ (vs.toArray.toList.drop a) _
   simpa using (r.drop a).mono fun _ _ _ e => AA _ (AA _ e)
theorem RP (vs : List Value) (b : Nat) : slicePick vs.toArray none (some (b : Int)) none = (vs.take b).toArray := slicePick_upto' _ _
theorem IT.str (h1 : 0 <= i) (h2 : i < x.length) (h3 : x.length < 1000000) (q : Q (.str (Txt.item x i)) σ) : IT c A (.str x) (.int i) σ Q := by iterate 1
 exact fun s vo vi S ro ri => by
  cases ro; cases ri
  have hf : fitsSsize i = true := by unfold fitsSsize; simp; omega
  exact SB.item hf (charAt_isSome (by omega) h2) ⟨_, σ, q, Ah.toks S _, .str _ _⟩
theorem EV.strTo (h : EV c A env m value σ fun o σ1 => ∃ x, o = .str x /\ x.length < 1000000 /\ Q (.str (Hm x none (some b))) σ1) :
   EV c A env m (.Subscript value (.Slice none (some (.Constant (.int b) k p)) none p') pos) σ Q := by iterate 1
 exact fun s X => by
  refine Subscript_ (Ai (h s X) (fun vo s1 ⟨o, σ1, ⟨x, e, h1, q⟩, P, r⟩ => NA ?_) fun _ _ e => e)
  subst e
  cases r
  have it := SBG.sliceItem_ns (prog := c.prog) (w := c.w) (A := A) (E := fun _ _ => False) (x := x) (t := by assumption) (Q := Ret (Aj c.bad) c σ s Q) (j := b) (uj := s1.toks) (s := { s1 with toks := s1.toks + 1 })
   (Fm := fun s' => Ah c σ s σ1 s') (fun s' ob k p => p.trans (Ah.push p.1 ob k)) (P.trans (Ah.toks P.1 _)) (fun s' t' p => ⟨_, σ1, q, p, .str _ _⟩) (by rw [BA]; omega)
  obtain ⟨T, id, hl, hT, hg⟩ := it
  exact tail_any hT hl hg (ops := [_, _]) rfl
end
structure Chg (c : Cx) (fp : List Addr) (h h' : Heap) : Prop where
 keep : ∀ b o, b ∉ fp -> h.get? b = some o -> h'.get? b = some o
 tk : DW c.bad h h'
 bk : ∀ b, c.bad b -> (∃ vs n, h.get? b = some (AV vs n)) -> ∃ vs n, h'.get? b = some (AV vs n)
theorem Chg.refl (c : Cx) (fp : List Addr) (h : Heap) : Chg c fp h h := ⟨fun _ _ _ e => e, fun _ _ _ e _ => e, fun _ _ e => e⟩
theorem Chg.trans {c : Cx} {fp : List Addr} {h h1 h2 : Heap} (x : Chg c fp h h1) (y : Chg c fp h1 h2) : Chg c fp h h2 := by iterate 1
 exact
  ⟨fun b o hb e => y.keep b o hb (x.keep b o hb e), fun b vs n e hb => y.tk b vs n (x.tk b vs n e hb) hb, fun b hb e => y.bk b hb (x.bk b hb e)⟩
theorem Chg.one (ho : h.get? I = some o) (hc : o.cls ≠ .type "tuple") (k : ∀ b o, b ∉ [I] -> h.get? b = some o -> h'.get? b = some o) : Chg c [I] h h' := by
 have hne : ∀ b vs n, h.get? b = some (AV vs n) -> b ∉ [I] := fun b vs n e hb => by
  cases Ag.mp hb
  rw [ho] at e; cases e; exact hc rfl
 exact ⟨k, fun b vs n e _ => k b _ (hne b vs n e) e, fun b _ ⟨vs, n, e⟩ => ⟨vs, n, k b _ (hne b vs n e) e⟩⟩
theorem Chg.of (_ : True) (ho : h.get? I = some o) (hc : ∀ vs n, o ≠ AV vs n) (k : ∀ b o, b ∉ [I] -> h.get? b = some o -> h'.get? b = some o) : Chg c [I] h h' := by iterate 1
 have hne : ∀ b vs n, h.get? b = some (AV vs n) -> b ∉ [I] := fun b vs n e hb => by
  cases Ag.mp hb
  rw [ho] at e; cases e; exact hc _ _ rfl
 exact ⟨k, fun b vs n e _ => k b _ (hne b vs n e) e, fun b _ ⟨vs, n, e⟩ => ⟨vs, n, k b _ (hne b vs n e) e⟩⟩
structure Wk (c : Cx) (A : Around) (target : Expr) (I : Addr) (fp : List Addr) (ds : List D) (Hold : Aa -> Prop) (St : Nat -> Heap -> Prop) (Mid : Nat -> Value -> Heap -> Prop) : Prop where
 ex : ∀ i h, St i h -> ∀ b ∈ fp, ∃ o, h.get? b = some o
 frame : ∀ i h h', St i h -> (∀ b ∈ fp, ∀ o, h.get? b = some o -> h'.get? b = some o) -> AW h h' -> St i h'
 next : ∀ i s σ d, Sim c σ s -> Hold σ -> St i s.heap -> ds[i]? = some d -> wpAny c.M A (pyNext (.ref I)) (fun r s' => ∃ v h' t, r = some v /\ s' = { s with heap := h', toks := t } /\ Aj c.bad h' v d /\ Mid (i + 1) v h' /\ Chg c fp s.heap h') (fun _ _ => False) s
 done : ∀ s σ, Sim c σ s -> Hold σ -> St ds.length s.heap -> wpAny c.M A (pyNext (.ref I)) (fun r s' => r = none /\ ∃ h' t, s' = { s with heap := h', toks := t } /\ Chg c fp s.heap h') (fun _ _ => False) s
 self : ∀ i s, St i s.heap -> wpAny c.M A (pyIter (.ref I)) (fun r s' => r = .ref I /\ s' = s) (fun _ _ => False) s
 go : ∀ i s v d, Mid i v s.heap -> Aj c.bad s.heap v d -> wpAny c.M A (letOwnedTupleGo target (.ref I) v) (fun _ s' => ∃ h', s' = { s with heap := h' } /\ Aj c.bad h' v d /\ St i h' /\ Chg c fp s.heap h') (fun _ _ => False) s
theorem KY
  (ho : s.heap.get? I = some o) (hc : o.cls = .type n) (hd : o.data = .fields vs) (hn : (["enumerate", "zip", "dict_itemiterator", "dict_reverseitemiterator", "odict_iterator", "itertools.zip_longest", "itertools.pairwise"].contains n) = false) (h : Q' () s) :
  wpAny M A (letOwnedTupleGo target (.ref I) v) Q' E s := by iterate 1
 unfold letOwnedTupleGo
 cases target <;> first
  | exact Ad h
  | (cases v <;> first
   | exact Ad h
   | (refine Ab (wpAny_load ho ?_); rw [hc, hd]; dsimp only; rw [hn]; exact Ad h))
noncomputable def ITR (c : Cx) (A : Around) (target : Expr) (d : D) (σ : Aa) (ds : List D) (Hold : Aa -> Prop) : Prop := ∀ s v, Sim c σ s -> Aj c.bad s.heap v d ->
 wpAny c.M A (pyIter v) (fun it s' => ∃ I fp St Mid, it = .ref I /\ Wk c A target I fp ds Hold St Mid /\ St 0 s'.heap /\ (∀ b ∈ fp, s.heap.get? b = none) /\ Ah c σ s σ s' /\ ∀ i v h, Mid i v h -> St i h) (fun _ _ => False) s
noncomputable def Hid (c : Cx) (env : Env) (σ : Aa) (s : Shared) (fp : List Addr) (σ' : Aa) : Prop := ∀ b ∈ fp, σ' b = none /\ c.h₀.get? b = none /\ ¬ has env b /\ (σ b = none -> s.heap.get? b = none)
noncomputable def EIT (c : Cx) (A : Around) (target : Expr) (env : Env) (m : Au) (e : Expr) (σ : Aa) (Q : List D -> (Aa -> Prop) -> Aa -> Prop) : Prop := ∀ s, Ax c env m σ s ->
 wpAny c.M A (eval e env) (fun v s1 => wpAny c.M A (pyIter v) (fun it s' => ∃ I fp St Mid ds Hold σ', Q ds Hold σ' /\ it = .ref I /\ Wk c A target I fp ds Hold St Mid /\ St 0 s'.heap /\ Hid c env σ s fp σ' /\ Ah c σ s σ' s') (fun _ _ => False) s1) (fun _ _ => False) s
section
variable {c : Cx} {A : Around} {env : Env} {m : Au} {σ : Aa} {target : Expr}
theorem Ax.own_some (X : Ax c env m σ s) (h : has env b) : ∃ o, s.heap.get? b = some o := by iterate 1
 rcases h with rfl | ⟨y, hm⟩
 ·obtain ⟨mm, ⟨o, _, _, ho, _⟩, _⟩ := X.vars.ns; exact ⟨o, ho⟩
 ·obtain ⟨ov, o, ho, _⟩ := X.vars.cells y b hm; exact ⟨o, ho⟩
theorem Sim.none_of (S : Sim c σ s) (h : s.heap.get? b = none) : σ b = none /\ c.h₀.get? b = none := by iterate 1
 constructor
 ·cases e : σ b with
  | none => rfl
  | some o => obtain ⟨ob, ho, _⟩ := (S.1 b o e).1.some; rw [h] at ho; cases ho
 ·cases e : c.h₀.get? b with
  | none => rfl
  | some o => have := S.2.1 b o e; rw [h] at this; cases this
theorem EIT.of {e : Expr} {Q : List D -> (Aa -> Prop) -> Aa -> Prop} (h : EV c A env m e σ fun d σ' => ∃ ds Hold, ITR c A target d σ' ds Hold /\ Q ds Hold σ') : EIT c A target env m e σ Q := by iterate 1
 exact fun s X => by
  refine Ai (h s X) (fun v s1 ⟨d, σ1, ⟨ds, Hold, hi, q⟩, p, r⟩ => ?_) fun _ _ e => e
  refine Ai (hi s1 v p.1 r) (fun it s2 ⟨I, fp, St, Mid, e, w, st, hf, p2, _⟩ => ⟨I, fp, St, Mid, ds, Hold, σ1, q, e, w, st, fun b hb => ?_, p.trans p2⟩) fun _ _ e => e
  obtain ⟨h1, h2⟩ := Sim.none_of p.1 (hf b hb)
  refine ⟨h1, h2, fun ho => ?_, fun hn => ?_⟩
  ·obtain ⟨o, e⟩ := (X.post p).own_some ho
   rw [hf b hb] at e; cases e
  ·cases e : s.heap.get? b with
   | none => rfl
   | some o => have := p.2.1 b o hn e; rw [hf b hb] at this; cases this
theorem Wk.list (hh : A.handled = none) {l I : Addr} {ds : List D} (hne : l ≠ I) : Wk c A target I [I] ds (fun σ => σ l = some (.list ds)) (fun i h => h.IsListIter I l i) (fun i _ h => h.IsListIter I l i) := by iterate 1
 exact {
  ex := fun i h st b hb => by
   cases Ag.mp hb
   obtain ⟨o, ho, hc, _⟩ := st
   exact ⟨o, ho⟩
  frame := fun i h h' st k _ => st.at fun o e => k I (Ag.mpr rfl) o e
  next := fun i s σ d S hσ st hd => by
   obtain ⟨vs, n, ho, r, hl⟩ := BF S hσ
   obtain ⟨v, hv, hr⟩ := r.get hd
   refine NB st hl (x := v) (by simpa using hv) fun h' hit hs => ?_
   obtain ⟨o, ho', hc, _⟩ := st
   have C : Chg c [I] s.heap h' := Chg.one ho' (by rw [hc]; show Value.type "list_iterator" ≠ Value.type "tuple"; decide) fun b o hb e => (hs.2 b (fun q => hb (Ag.mpr q))).trans e
   exact ⟨v, h', s.toks, rfl, rfl, hr.mono' C.tk, hit, C⟩
  done := fun s σ S hσ st => by
   obtain ⟨vs, n, ho, r, hl⟩ := BF S hσ
   have hlen := r.length
   refine NC hh st hl (by simp; omega) fun h' he => ?_
   obtain ⟨o, ho', hc, _⟩ := st
   exact ⟨rfl, h', s.toks, rfl, Chg.one ho' (by rw [hc]; show Value.type "list_iterator" ≠ Value.type "tuple"; decide) fun b o hb e => he b o (fun q => hb (Ag.mpr q)) e⟩
  self := fun i s st => wpAny_pyIter_listiter st ⟨rfl, rfl⟩
  go := fun i s v d st hr => by
   obtain ⟨o, ho, hc, hd⟩ := id st
   exact KY ho hc hd (by decide) ⟨_, rfl, hr, st, .refl ..⟩ }
theorem ITR.list (hh : A.handled = none) {l : Addr} {ds : List D} (h : σ l = some (.list ds)) : ITR c A target (.ref l) σ ds (fun σ => σ l = some (.list ds)) := by iterate 1
 exact fun s v S r => by
  cases r
  obtain ⟨vs, n, ho, r, hl⟩ := BF S h
  refine ND hl ⟨_, [s.heap.objs.size], _, _, rfl, Wk.list hh (A8 (S.lt h)), ⟨_, AR _ rfl, rfl, rfl⟩, fun b hb => ?_, Ah.push S _ s.toks, fun _ _ _ h => h⟩
  cases Ag.mp hb
  cases e : s.heap.get? s.heap.objs.size with
  | none => rfl
  | some o => exact absurd (AZ e) (Ef _)
theorem Iu (h : Heap) : ∀ b ∈ [h.objs.size], h.get? b = none := by iterate 1
 exact fun b hb => by
  cases Ag.mp hb
  cases e : h.get? h.objs.size with
  | none => rfl
  | some o => exact absurd (AZ e) (Ef _)
theorem Wk.tup (hh : A.handled = none) {I t : Addr} {vs : List Value} {n : Nat} {ds : List D} (hne : t ≠ I) :
   Wk c A target I [I] ds (fun _ => True) (fun i h => h.IsTupleIter I t i /\ h.get? t = some (AV vs n) /\ Ak c.bad h vs ds) (fun i _ h => h.IsTupleIter I t i /\ h.get? t = some (AV vs n) /\ Ak c.bad h vs ds) := by iterate 1
 exact {
  ex := fun i h st b hb => by
   cases Ag.mp hb
   obtain ⟨⟨o, ho, hc, _⟩, _⟩ := st
   exact ⟨o, ho⟩
  frame := fun i h h' st k tk => ⟨st.1.at fun o e => k I (Ag.mpr rfl) o e, tk _ _ _ st.2.1, st.2.2.mono tk⟩
  next := fun i s σ d S hσ st hd => by
   obtain ⟨st, ht, r⟩ := st
   obtain ⟨v, hv, hr⟩ := r.get hd
   refine wpAny_pyNext_tuple_item st (items := vs.toArray) ⟨_, ht, rfl, n, rfl⟩ (x := v) (by simpa using hv) fun h' hit hs => ?_
   obtain ⟨o, ho', hc, _⟩ := st
   have C : Chg c [I] s.heap h' := Chg.one ho' (by rw [hc]; show Value.type "tuple_iterator" ≠ Value.type "tuple"; decide) fun b o hb e => (hs.2 b (fun q => hb (Ag.mpr q))).trans e
   exact ⟨v, h', s.toks, rfl, rfl, hr.mono' C.tk, ⟨hit, C.keep _ _ (fun q => hne (Ag.mp q)) ht, r.mono' C.tk⟩, C⟩
  done := fun s σ S hσ st => by
   obtain ⟨st, ht, r⟩ := st
   have hlen := r.length
   refine wpAny_pyNext_tuple_end hh st (items := vs.toArray) ⟨_, ht, rfl, n, rfl⟩ (by simp; omega) fun h' he => ?_
   obtain ⟨o, ho', hc, _⟩ := st
   exact ⟨rfl, h', s.toks, rfl, Chg.one ho' (by rw [hc]; show Value.type "tuple_iterator" ≠ Value.type "tuple"; decide) fun b o hb e => he b o (fun q => hb (Ag.mpr q)) e⟩
  self := fun i s st => wpAny_pyIter_tupleiter st.1 ⟨rfl, rfl⟩
  go := fun i s v d st hr => by
   obtain ⟨⟨o, ho, hc, hd⟩, _⟩ := id st
   exact KY ho hc hd (by decide) ⟨_, rfl, hr, st, .refl ..⟩ }
theorem ITR.tup (hh : A.handled = none) {ds : List D} : ITR c A target (.tup ds) σ ds (fun _ => True) := by iterate 1
 exact fun s v S r => by
  cases r with
  | @tup t vs n _ nb ho r =>
   refine NE (items := vs.toArray) ⟨_, ho, rfl, n, rfl⟩ ⟨_, [s.heap.objs.size], _, _, rfl, Wk.tup hh (t := t) (vs := vs) (n := n) (A8 (AZ ho)), ⟨⟨_, AR _ rfl, rfl, rfl⟩, AA _ ho, r.mono fun _ _ _ e => AA _ e⟩,
    Iu _, Ah.push S _ s.toks, fun _ _ _ h => h⟩
theorem Wk.KZ {I : Addr} {ds : List D} {P : Nat -> Value -> Prop} {St : Nat -> Heap -> Prop} (Wf : Walks c.prog c.w A I [I] [I] ds.length P St) {T : String} (hT : ∀ i h, St i h -> ∃ o vs, h.get? I = some o /\ o.cls = .type T /\ o.data = .fields vs)
   (hT1 : T ≠ "tuple") (hT2 : (["enumerate", "zip", "dict_itemiterator", "dict_reverseitemiterator", "odict_iterator", "itertools.zip_longest", "itertools.pairwise"].contains T) = false)
   (hP : ∀ i v d h, P i v -> ds[i]? = some d -> Aj c.bad h v d) : Wk c A target I [I] ds (fun _ => True) St (fun i _ h => St i h) := by iterate 1
 exact {
  ex := fun i h st b hb => by
   cases Ag.mp hb
   obtain ⟨o, vs, ho, hc, _⟩ := hT i h st
   exact ⟨o, ho⟩
  frame := fun i h h' st k tk => Wf.frame i h h' st k
  next := fun i s σ d S hσ st hd => by
   obtain ⟨o, vs, ho, hc, _⟩ := hT i _ st
   exact Wf.item i s _ _ (AT.mp hd).1 st fun v h' tk hv hs hk => ⟨v, h', tk, rfl, rfl, hP _ _ _ _ hv hd, hs, Chg.one ho (by rw [hc]; exact fun e => hT1 (by injection e)) hk⟩
  done := fun s σ S hσ st => by
   obtain ⟨o, vs, ho, hc, _⟩ := hT _ _ st
   exact Wf.done s _ _ st fun h' tk hk => ⟨rfl, h', tk, rfl, Chg.one ho (by rw [hc]; exact fun e => hT1 (by injection e)) hk⟩
  self := fun i s st => Wf.self i s _ _ st ⟨rfl, rfl⟩
  go := fun i s v d st hr => by
   obtain ⟨o, vs, ho, hc, hd⟩ := hT i _ st
   exact KY ho hc hd hT2 ⟨_, rfl, hr, st, .refl ..⟩ }
noncomputable def FJ (x : Str) : List D := x.cps.toList.map fun k => .str ⟨#[k]⟩
theorem ITR.str (hh : A.handled = none) {x : Str} : ITR c A target (.str x) σ (FJ x) (fun _ => True) := by iterate 1
 exact fun s v S r => by
  cases r with
  | str _ t =>
   have hlen : (FJ x).length = x.cps.size := by simp [FJ]
   have hP : ∀ i v d h, SignAt x i v -> (FJ x)[i]? = some d -> Aj c.bad h v d := fun i v d h ⟨k, u, e, hv⟩ hd => by
    subst hv
    have : (FJ x)[i]? = some (.str ⟨#[k]⟩) := by simp [FJ, e]
    rw [this] at hd; cases hd; exact .str _ _
   cases ha : x.cps.all (· < 128)
   ·refine wpAny_pyIter_wide ha ⟨_, [s.heap.objs.size], _, _, rfl, Wk.KZ (hlen ▸ Walks.strWide hh _ x t) (T := "str_iterator") (fun i h ⟨o, ho, hc, hd⟩ => ⟨o, _, ho, hc, hd⟩) (by decide) (by decide) hP, ⟨_, AR _ rfl, rfl, rfl⟩, Iu _, Ah.push S _ s.toks, fun _ _ _ h => h⟩
   ·refine wpAny_pyIter_ascii ha ⟨_, [s.heap.objs.size], _, _, rfl, Wk.KZ (hlen ▸ Walks.strAscii hh _ x t) (T := "str_ascii_iterator") (fun i h ⟨o, ho, hc, hd⟩ => ⟨o, _, ho, hc, hd⟩) (by decide) (by decide) hP, ⟨_, AR _ rfl, rfl, rfl⟩, Iu _, Ah.push S _ s.toks, fun _ _ _ h => h⟩
noncomputable def FK (n : Int) (t u v : Tok) : Obj := { cls := .type "range", dict := none, data := .fields #[.int 0 t, .int n u, .int 1 v], slots := #[] }
noncomputable def Ce (n : Nat) : List D := (Bn n).map fun i : Nat => D.int (i : Int)
theorem Ac.range (q : ∀ r t u v, σ r = none -> Q (.ref r) (σ.set r (.raw (FK n t u v)))) : Ac c A (.type "range") [.int n] σ Q := by iterate 1
 exact fun s vs S r => by
  cases r with
  | cons a b =>
   cases a with
   | int _ t =>
   cases b
   exact call_range_1 ⟨_, _, q _ _ _ _ S.fresh, Ah.EC S _ _ (o := .raw (FK n s.toks t (s.toks + 1))) ⟨AR _ rfl, by show Value.type "range" ≠ Value.type "tuple"; decide⟩, .ref _⟩
theorem ITR.range (hh : A.handled = none) {r : Addr} {n : Nat} (hn : n < 1000000) {t u v : Tok} (h : σ r = some (.raw (FK n t u v))) : ITR c A target (.ref r) σ (Ce n) (fun _ => True) := by iterate 1
 exact fun s va S ra => by
  cases ra
  have ho := ((S.1 _ _ h).1).1
  have hlen : (Ce n).length = n := by simp [Ce]
  have hsz : RS 0 n 1 = n := by rw [rangeSize_one]; split <;> omega
  refine wpAny_pyIter_range (a := 0) (b := n) (c := 1) ho (small_one (by omega) (by omega) (by omega) (by omega)) ?_
  rw [hsz]
  refine ⟨_, [s.heap.objs.size], _, _, rfl, Wk.KZ (hlen.symm ▸ Walks.range hh s.heap.objs.size 0 1 n) (T := "range_iterator") (fun i h st => ⟨_, _, st, rfl, rfl⟩) (by decide) (by decide) ?_, ?_, Iu _, Ah.push S _ s.toks, fun _ _ _ h => h⟩
  ·rintro i v d h ⟨t, rfl⟩ hd
   have hi : i < n := by have := (AT.mp hd).1; rwa [hlen] at this
   have : (Ce n)[i]? = some (.int i) := by simp [Ce, hi]
   rw [this] at hd; cases hd
   have : (0 : Int) + i * 1 = i := by omega
   rw [this]; exact .int _ _
  ·show IsRangeIter _ _ _ _ _
   have := AR (h := s.heap) (o := { cls := .type "range_iterator", data := .fields #[rawInt 0, rawInt n, rawInt 1] }) rfl
   have e2 : ((Ce n).length : Int) - ((0 : Nat) : Int) = n := by rw [hlen]; omega
   rw [e2]; exact this
end
section
variable {c : Cx} {A : Around} {env : Env} {m : Au} {σ : Aa} {target : Expr}
noncomputable def B7 (c : Cx) (env : Env) (σ : Aa) (fp : List Addr) : Prop := ∀ b ∈ fp, σ b = none /\ c.h₀.get? b = none /\ ¬ has env b
theorem Sim.chg (S : Sim c σ s) (hid : ∀ b ∈ fp, σ b = none /\ c.h₀.get? b = none) (C : Chg c fp s.heap h') (t : Nat) : Sim c σ { s with heap := h', toks := t } := by iterate 1
 exact
  ⟨fun a o e => ⟨(S.1 a o e).1.mono' (fun ob z => C.keep a ob (fun hb => by rw [(hid a hb).1] at e; cases e) z) C.tk, (S.1 a o e).2⟩,
   fun b o e => C.keep b o (fun hb => by rw [(hid b hb).2] at e; cases e) (S.2.1 b o e), S.2.2.1, S.2.2.2.1, fun b hb => C.bk b hb (S.2.2.2.2 b hb)⟩
theorem Ax.chg (X : Ax c env m σ s) (hid : B7 c env σ fp) (C : Chg c fp s.heap h') (t : Nat) : Ax c env m σ { s with heap := h', toks := t } := by iterate 1
 exact {
  sim := X.sim.chg (fun b hb => ⟨(hid b hb).1, (hid b hb).2.1⟩) C t
  ok := X.ok
  vars := X.vars.keep' (fun a o ho e => C.keep a o (fun hb => (hid a hb).2.2 ho) e) C.tk
  off := X.off }
noncomputable abbrev Hn (env : Env) (fp : List Addr) (b : Addr) : Prop := own env b ∨ b ∈ fp
theorem A9.wide {own own' : Addr -> Prop} (x : A9 own σ h σ' h') (k : ∀ b, own b -> own' b) : A9 own' σ h σ' h' := by iterate 1
 exact
  ⟨fun b o hb ho e => x.1 b o hb (fun q => ho (k b q)) e, fun b o e hb ho => x.2 b o e hb fun q => ho (k b q)⟩
theorem Chg.frm (C : Chg c fp h h') (σ : Aa) : A9 (Hn env fp) σ h σ h' := ⟨fun b o hb ho e => C.keep b o (fun q => ho (.inr q)) e, fun _ _ _ e _ => e⟩
theorem B7.on {s s' : Shared} {σ' : Aa} {fp : List Addr} (hid : B7 c env σ fp) (ex : ∀ b ∈ fp, ∃ o, s.heap.get? b = some o) (F : A9 (own env) σ s.heap σ' s'.heap) : B7 c env σ' fp := by iterate 1
 exact fun b hb =>
  let ⟨o, ho⟩ := ex b hb
  ⟨F.2 b o ho (hid b hb).1 (fun q => (hid b hb).2.2 q.has), (hid b hb).2⟩
theorem A9.tups {s s' : Shared} {σ' : Aa} {own : Addr -> Prop} (S : Sim c σ s) (hown : ∀ b, own b -> ∀ vs n, s.heap.get? b ≠ some (AV vs n)) (F : A9 own σ s.heap σ' s'.heap) : AW s.heap s'.heap := by iterate 1
 exact fun b vs n e =>
  F.1 b _ (S.off_tup e) (fun q => hown b q vs n e) e
theorem Ax.own_tup (X : Ax c env m σ s) (h : own env b) (vs : List Value) (n : Nat) : s.heap.get? b ≠ some (AV vs n) := by iterate 1
 exact fun e => by
  rcases h.has with rfl | ⟨y, hm⟩
  ·obtain ⟨mm, ⟨o, _, _, ho, hd, _⟩, _⟩ := X.vars.ns; rw [ho] at e; cases e; cases hd
  ·obtain ⟨ov, o, ho, hd⟩ := X.vars.cells y b hm; rw [ho] at e; cases e; cases hd
theorem NF {I : Addr} {fp : List Addr} {ds : List D} {Hold : Aa -> Prop} {St : Nat -> Heap -> Prop} {Mid : Nat -> Value -> Heap -> Prop} {body : List Stmt} {Q : AFl -> Au -> Aa -> Prop}
  (w : Wk c A target I fp ds Hold St Mid) (Inv : Nat -> Au -> Aa -> Prop) (hold : ∀ i m' σ', Inv i m' σ' -> Hold σ')
  (step : ∀ i d m' σ', Inv i m' σ' -> ds[i]? = some d -> EA c A env m' target d σ' fun m2 σ2 => EXs c A env m2 body σ2 fun fl m3 σ3 => match fl with
   | .next | .cont => Inv (i + 1) m3 σ3
   | .brk => Q .next m3 σ3
   | .ret d => Q (.ret d) m3 σ3)
  (fin : ∀ m' σ', Inv ds.length m' σ' -> Q .next m' σ')
  {s : Shared} (X : Ax c env m σ s) (h0 : Inv 0 m σ) (st : St 0 s.heap) (hid : B7 c env σ fp) :
  codeAny c.M A (.forLoop target (.ref I) body [] env) (fun r s' => ∃ f fl m' σ', r = .ok f /\ Q fl m' σ' /\ A9 (Hn env fp) σ s.heap σ' s'.heap /\ Ax c env m' σ' s' /\ KJ c.bad s'.heap f fl) s := by iterate 1
 refine codeAny_forLoop_any (fun n s' => ∃ i m' σ', n = ds.length - i /\ i <= ds.length /\ Inv i m' σ' /\ St i s'.heap /\ Ax c env m' σ' s' /\ B7 c env σ' fp /\ A9 (Hn env fp) σ s.heap σ' s'.heap) ?_ ds.length
  ⟨0, m, σ, rfl, BC _, h0, st, X, hid, .refl ..⟩
 rintro n s1 ⟨i, m1, σ1, rfl, hi, hInv, hst, X1, hid1, F1⟩
 cases hd : ds[i]? with
 | none =>
  have hi' : i = ds.length := by
   have := RT.mp hd; omega
  subst hi'
  refine Ai (w.done s1 σ1 X1.sim (hold _ _ _ hInv) hst) (fun r s2 ⟨hr, h', t, e, C⟩ => ?_) fun _ _ e => e.elim
  subst hr; subst e
  exact wpAny_execs_nil ⟨.next, .next, m1, σ1, rfl, fin _ _ hInv, F1.trans (C.frm σ1), X1.chg hid1 C t, trivial⟩
 | some d =>
  have hlt : i < ds.length := (AT.mp hd).1
  refine Ai (w.next i s1 σ1 d X1.sim (hold _ _ _ hInv) hst hd) (fun r s2 ⟨v, h', t, hr, e, hv, hmid, C⟩ => ?_) fun _ _ e => e.elim
  subst hr; subst e
  refine Ai (w.go (i + 1) _ v d hmid hv) (fun _ s2 ⟨h'', e, hv', hst', C'⟩ => ?_) fun _ _ e => e.elim
  subst e
  have C2 := C.trans C'
  have X2 : Ax c env m1 σ1 { s1 with heap := h'', toks := t } := X1.chg hid1 C2 t
  refine Ai (step i d m1 σ1 hInv hd _ v X2 hv') (fun _ s3 ⟨m3, σ3, q3, F3, X3⟩ => ?_) fun _ _ e => e.elim
  have hid3 : B7 c env σ3 fp := B7.on (s := { s1 with heap := h'', toks := t }) hid1 (w.ex _ _ hst') F3
  have ex3 : ∀ b ∈ fp, ∀ o, h''.get? b = some o -> s3.heap.get? b = some o := fun b hb o e => F3.1 b o (hid1 b hb).1 (fun q => (hid1 b hb).2.2 q.has) e
  have hst3 : St (i + 1) s3.heap := w.frame _ _ _ hst' ex3 (A9.tups (s := { s1 with heap := h'', toks := t }) X2.sim (fun b hb vs n => X2.own_tup hb vs n) F3)
  refine Ai (q3 s3 X3) (fun f s4 ⟨fl, m4, σ4, q4, F4, X4, r4⟩ => ?_) fun _ _ e => e.elim
  have FF : A9 (Hn env fp) σ s.heap σ4 s4.heap := F1.trans ((C2.frm σ1).trans ((F3.wide fun _ => .inl).trans (F4.wide fun _ => .inl)))
  have again : Inv (i + 1) m4 σ4 -> ∃ k, k < ds.length - i /\ ∃ i' m' σ', k = ds.length - i' /\ i' <= ds.length /\ Inv i' m' σ' /\ St i' s4.heap /\ Ax c env m' σ' s4 /\ B7 c env σ' fp /\ A9 (Hn env fp) σ s.heap σ' s4.heap := fun hI =>
   ⟨ds.length - (i + 1), by omega, i + 1, m4, σ4, rfl, hlt, hI, w.frame _ _ _ hst3 (fun b hb o e => F4.1 b o (hid3 b hb).1 (fun q => (hid3 b hb).2.2 q.has) e) (A9.tups X3.sim (fun b hb vs n => X3.own_tup hb vs n) F4), X4, B7.on hid3 (w.ex _ _ hst3) F4, FF⟩
  cases f <;> cases fl <;> first | exact r4.elim | skip
  ·exact again q4
  ·exact ⟨.next, .next, m4, σ4, rfl, q4, FF, X4, trivial⟩
  ·exact again q4
  ·exact ⟨_, _, m4, σ4, rfl, q4, FF, X4, r4⟩
theorem EX.for {iter : Expr} {body : List Stmt} {pos : Pos} {Q : AFl -> Au -> Aa -> Prop}
   (h : EIT c A target env m iter σ fun ds Hold σ1 => ∃ Inv : Nat -> Au -> Aa -> Prop, Inv 0 m σ1 /\ (∀ i m' σ', Inv i m' σ' -> Hold σ') /\
    (∀ i d m' σ', Inv i m' σ' -> ds[i]? = some d -> EA c A env m' target d σ' fun m2 σ2 => EXs c A env m2 body σ2 fun fl m3 σ3 => match fl with
     | .next | .cont => Inv (i + 1) m3 σ3
     | .brk => Q .next m3 σ3
     | .ret d => Q (.ret d) m3 σ3) /\
    (∀ m' σ', Inv ds.length m' σ' -> Q .next m' σ'))
   (hs : ∀ x, foldedSetIterable iter env x = pure x := by intro _; rfl) : EX c A env m (.For target iter body [] pos) σ Q := by iterate 1
 exact fun s X => by
  refine wpAny_For (Ai (h s X) (fun v s1 h1 => Ai h1 (fun it s2 ⟨I, fp, St, Mid, ds, Hold, σ2, ⟨Inv, h0, hold, step, fin⟩, e, w, st, hid, p⟩ => ?_) fun _ _ e => e.elim) fun _ _ e => e.elim) hs
  subst e
  refine De (NF w Inv hold step fin (X.post p) h0 st fun b hb => ⟨(hid b hb).1, (hid b hb).2.1, (hid b hb).2.2.1⟩) fun r s3 ⟨f, fl, m', σ', e, q, F, X', r'⟩ => ?_
  subst e
  refine ⟨fl, m', σ', q, ⟨fun b o hb ho e => ?_, fun b o e hb ho => ?_⟩, X', r'⟩
  ·have e2 := p.2.1 b o hb e
   have hnf : b ∉ fp := fun q => by rw [(hid b q).2.2.2 hb] at e; cases e
   exact F.1 b o (p.2.2 b o e hb) (fun q => q.elim ho hnf) e2
  ·have e2 := p.2.1 b o hb e
   have hnf : b ∉ fp := fun q => by rw [(hid b q).2.2.2 hb] at e; cases e
   exact F.2 b o e2 (p.2.2 b o e hb) fun q => q.elim ho hnf
theorem EX.while {test : Expr} {body : List Stmt} {pos : Pos} {Q : AFl -> Au -> Aa -> Prop} (Inv : Nat -> Au -> Aa -> Prop) (n : Nat) (h0 : Inv n m σ)
   (step : ∀ n m' σ', Inv n m' σ' -> ET c A env m' test σ' fun b σ2 => if b = true then EXs c A env m' body σ2 (fun fl m3 σ3 => match fl with
     | .next | .cont => ∃ k, k < n /\ Inv k m3 σ3
     | .brk => Q .next m3 σ3
     | .ret d => Q (.ret d) m3 σ3) else Q .next m' σ2) : EX c A env m (.While test body [] pos) σ Q := by iterate 1
 exact fun s X => by
  refine wpAny_While ?_
  refine De (R := fun r s' => ∃ f fl m' σ', r = .ok f /\ Q fl m' σ' /\ A9 (own env) σ s.heap σ' s'.heap /\ Ax c env m' σ' s' /\ KJ c.bad s'.heap f fl) ?_ fun r s3 ⟨f, fl, m', σ', e, q, F, X', r'⟩ => by subst e; exact ⟨fl, m', σ', q, F, X', r'⟩
  refine codeAny_whileLoop (fun n s' => ∃ m' σ', Inv n m' σ' /\ Ax c env m' σ' s' /\ A9 (own env) σ s.heap σ' s'.heap) ?_ n ⟨m, σ, h0, X, .refl ..⟩
  rintro n s1 ⟨m1, σ1, hInv, X1, F1⟩
  refine Ai (step n m1 σ1 hInv s1 X1) (fun b s2 ⟨d, σ2, q2, p2, r2⟩ => ?_) fun _ _ e => e.elim
  cases (show b = d from r2)
  cases b
  ·exact wpAny_execs_nil ⟨.next, .next, m1, σ2, rfl, q2, F1.trans p2.2.toX, X1.post p2, trivial⟩
  ·refine Ai (q2 s2 (X1.post p2)) (fun f s4 ⟨fl, m4, σ4, q4, F4, X4, r4⟩ => ?_) fun _ _ e => e.elim
   have FF := F1.trans (p2.2.toX.trans F4)
   cases f <;> cases fl <;> first | exact r4.elim | skip
   ·obtain ⟨k, hk, hI⟩ := q4; exact ⟨k, hk, m4, σ4, hI, X4, FF⟩
   ·exact ⟨.next, .next, m4, σ4, rfl, q4, FF, X4, trivial⟩
   ·obtain ⟨k, hk, hI⟩ := q4; exact ⟨k, hk, m4, σ4, hI, X4, FF⟩
   ·exact ⟨_, _, m4, σ4, rfl, q4, FF, X4, r4⟩
end
noncomputable def Cy (c : Cx) (h : Heap) (a : Addr) (acc : List D) : Prop := ∃ vs n, h.get? a = some (Ct vs n) /\ Ak c.bad h vs acc
theorem Cy.mono' (x : Cy c h a acc) (e : ∀ o, h.get? a = some o -> h'.get? a = some o) (k : DW c.bad h h') : Cy c h' a acc := by iterate 1
 exact
  let ⟨vs, n, ho, r⟩ := x; ⟨vs, n, e _ ho, r.mono' k⟩
theorem Cy.no_tup (x : Cy c h a acc) (vs : List Value) (n : Nat) : h.get? a ≠ some (AV vs n) := by iterate 1
 exact fun e => by
  obtain ⟨vs', n', ho, _⟩ := x
  rw [ho] at e; injection e with e; exact absurd (congrArg Obj.cls e) (by show Value.type "list" ≠ Value.type "tuple"; decide)
noncomputable def ETs (c : Cx) (A : Around) (env : Env) (m : Au) : List Expr -> Aa -> (Bool -> Aa -> Prop) -> Prop
 | [], σ, Q => Q true σ
 | [t], σ, Q => ET c A env m t σ Q
 | _, _, _ => False
noncomputable def CT (c : Cx) (A : Around) (cenv : Env) (a : Addr) (m : Au) (σ : Aa) (acc : List D) (T : Sem Unit) (Q : List D -> Au -> Aa -> Prop) : Prop :=
 ∀ s, Ax c cenv m σ s -> Cy c s.heap a acc -> σ a = none -> c.h₀.get? a = none -> ¬ has cenv a ->
  wpAny c.M A T (fun _ s' => ∃ acc' m' σ', Q acc' m' σ' /\ A9 (fun b => own cenv b ∨ b = a) σ s.heap σ' s'.heap /\ Ax c cenv m' σ' s' /\ Cy c s'.heap a acc' /\ σ' a = none) (fun _ _ => False) s
section
variable {c : Cx} {A : Around} {env : Env} {m : Au} {σ : Aa} {target : Expr}
theorem RU (X : Ax c cenv m σ s) (ha : Cy c s.heap a acc) (hn : σ a = none) (h0 : c.h₀.get? a = none) (hh : ¬ has cenv a) (hr : Aj c.bad s.heap v d) (hz : acc.length <= 1000000) :
  wpAny c.M A (call (.builtin "list.append") [.ref a, v]) (fun _ s' => A9 (fun b => own cenv b ∨ b = a) σ s.heap σ s'.heap /\ Ax c cenv m σ s' /\ Cy c s'.heap a (acc ++ [d])) (fun _ _ => False) s := by iterate 1
 obtain ⟨vs, n, ho, r⟩ := ha
 have hl := r.length
 refine wpAny_list_append_plain (items := vs.toArray) ⟨n, ho⟩ (fun h' ⟨n', ho'⟩ hs => ?_) (by rw [BA]; simp; omega)
 have C : Chg c [a] s.heap h' := Chg.one ho (by show Value.type "list" ≠ Value.type "tuple"; decide) fun b o hb e => (hs.2 b (fun q => hb (Ag.mpr q))).trans e
 have hid : B7 c cenv σ [a] := fun b hb => by cases Ag.mp hb; exact ⟨hn, h0, hh⟩
 refine ⟨⟨fun b o hb ho e => C.keep b o (fun q => ho (.inr (Ag.mp q))) e, fun _ _ _ e _ => e⟩, X.chg hid C s.toks, vs ++ [v], n', ?_, (r.append (.cons hr .nil)).mono' C.tk⟩
 rw [ho']; simp
theorem CT.K6 (hz : acc.length <= 1000000) (h : EV c A cenv m elt σ fun d σ' => Q (acc ++ [d]) m σ') :
   CT c A cenv a m σ acc (do let _ <- call (.builtin "list.append") [.ref a, <- eval elt cenv]) Q := by iterate 1
 exact fun s X ha hn h0 hh => by
  refine Ab (Ai (h s X) (fun v s1 ⟨d, σ1, q, p, r⟩ => ?_) fun _ _ e => e)
  have hob : ∃ o, s.heap.get? a = some o := let ⟨vs, n, ho, _⟩ := ha; ⟨_, ho⟩
  obtain ⟨o, ho⟩ := hob
  refine Ab (Ai (RU (X.post p) (ha.mono' (fun o e => p.2.1 a o hn e) (p.2.tups X.sim).b) (p.2.2 a o ho hn) h0 hh r hz) (fun _ s2 ⟨F, X2, a2⟩ => ?_) fun _ _ e => e)
  exact Ad ⟨_, m, σ1, q, p.2.toX.trans F, X2, a2, p.2.2 a o ho hn⟩
noncomputable def FL (p : Pos) (target : Expr) (ifs : List Expr) (it : Value) (env : Env) (T : Sem Unit) (k : Sem Fin) : Sem Fin := do
 standAt p
 match <- pyNext it with
 | none => pure (.done .next)
 | some v =>
  letOwnedTupleGo target it v
  assign target env v
  let mut ok := true
  for t in ifs do
   if ok then ok <- isTrue t env (eval t env)
  if ok then T
  k
theorem RV {Q : Bool -> Aa -> Prop} (X : Ax c env m σ s) (h : ETs c A env m ifs σ Q) :
  WE c A (forIn ifs true fun c r => if r = true then do let ok <- isTrue c env (eval c env); pure (ForInStep.yield ok) else pure (ForInStep.yield r)) σ Q s := by iterate 1
 match ifs, h with
 | [], h => exact wpAny_tests_nil ⟨true, σ, h, .refl X.sim, rfl⟩
 | [t], h => exact wpAny_tests_one (h s X)
 | _ :: _ :: _, h => exact h.elim
theorem NG {elt : Expr} {gens : List Comprehension} {scope : Scope} {pos : Pos} {k : Nat} {I a : Addr} {fp : List Addr} {ds : List D} {Hold : Aa -> Prop} {St : Nat -> Heap -> Prop} {Mid : Nat -> Value -> Heap -> Prop} {p : Pos} {ifs : List Expr} {T : Sem Unit}
  (hT : compTurn (.ListComp elt gens scope pos) k (.ref I) (.ref a) env = FL p target ifs (.ref I) env T (again (.compLoop (.ListComp elt gens scope pos) k (.ref I) (.ref a) env)))
  (w : Wk c A target I fp ds Hold St Mid) (Inv : Nat -> List D -> Au -> Aa -> Prop) (hold : ∀ i acc m' σ', Inv i acc m' σ' -> Hold σ')
  (step : ∀ i d acc m' σ', Inv i acc m' σ' -> ds[i]? = some d -> EA c A env m' target d σ' fun m2 σ2 => ETs c A env m2 ifs σ2 fun ok σ3 => if ok = true then CT c A env a m2 σ3 acc T (Inv (i + 1)) else Inv (i + 1) acc m2 σ3)
  {s : Shared} {acc : List D} (X : Ax c env m σ s) (h0 : Inv 0 acc m σ) (st : St 0 s.heap) (hid : B7 c env σ fp) (ha : Cy c s.heap a acc) (hn : σ a = none) (hz : c.h₀.get? a = none) (hh : ¬ has env a) (haf : a ∉ fp) :
  codeAny c.M A (.compLoop (.ListComp elt gens scope pos) k (.ref I) (.ref a) env) (fun r s' => r = .ok .next /\ ∃ acc' m' σ', Inv ds.length acc' m' σ' /\ A9 (fun b => own env b ∨ b = a ∨ b ∈ fp) σ s.heap σ' s'.heap /\ Ax c env m' σ' s' /\ Cy c s'.heap a acc' /\ σ' a = none) s := by iterate 1
 refine codeAny_loop' rfl (fun n s' => ∃ i acc' m' σ', n = ds.length - i /\ i <= ds.length /\ Inv i acc' m' σ' /\ St i s'.heap /\ Ax c env m' σ' s' /\ B7 c env σ' fp /\ Cy c s'.heap a acc' /\ σ' a = none /\ A9 (fun b => own env b ∨ b = a ∨ b ∈ fp) σ s.heap σ' s'.heap) ?_ ds.length
  ⟨0, acc, m, σ, rfl, BC _, h0, st, X, hid, ha, hn, .refl ..⟩
 rintro n s1 ⟨i, acc1, m1, σ1, rfl, hi, hInv, hst, X1, hid1, ha1, hn1, F1⟩
 show wpAny _ A ((compTurn (.ListComp elt gens scope pos) k (.ref I) (.ref a) env).onRaise (fun x => do noteFrame x env; theTreesLotGoes x)) _ _ s1
 refine wpAny_noted ?_
 rw [hT]
 unfold FL
 cases hd : ds[i]? with
 | none =>
  have hi' : i = ds.length := by
   have := RT.mp hd; omega
  subst hi'
  refine Ab (EB (Ab (Ai (w.done s1 σ1 X1.sim (hold _ _ _ _ hInv) hst) (fun r s2 ⟨hr, h', t, e, C⟩ => ?_) fun _ _ e => e.elim)))
  subst hr; subst e
  exact Ad ⟨rfl, acc1, m1, σ1, hInv, F1.trans ⟨fun b o hb ho e => C.keep b o (fun q => ho (.inr (.inr q))) e, fun _ _ _ e _ => e⟩, X1.chg hid1 C t, ha1.mono' (fun o e => C.keep a o haf e) C.tk, hn1⟩
 | some d =>
  have hlt : i < ds.length := (AT.mp hd).1
  refine Ab (EB (Ab (Ai (w.next i s1 σ1 d X1.sim (hold _ _ _ _ hInv) hst hd) (fun r s2 ⟨v, h', t, hr, e, hv, hmid, C⟩ => ?_) fun _ _ e => e.elim)))
  subst hr; subst e
  dsimp only
  refine Ab (Ai (w.go (i + 1) _ v d hmid hv) (fun _ s2 ⟨h'', e, hv', hst', C'⟩ => ?_) fun _ _ e => e.elim)
  subst e
  have C2 := C.trans C'
  have X2 : Ax c env m1 σ1 { s1 with heap := h'', toks := t } := X1.chg hid1 C2 t
  have ha2 : Cy c h'' a acc1 := ha1.mono' (fun o e => C2.keep a o haf e) C2.tk
  refine Ab (Ai (step i d acc1 m1 σ1 hInv hd _ v X2 hv') (fun _ s3 ⟨m3, σ3, q3, F3, X3⟩ => ?_) fun _ _ e => e.elim)
  have hid3 : B7 c env σ3 fp := B7.on (s := { s1 with heap := h'', toks := t }) hid1 (w.ex _ _ hst') F3
  have tk3 := A9.tups (s := { s1 with heap := h'', toks := t }) X2.sim (fun b hb vs n => X2.own_tup hb vs n) F3
  have hst3 : St (i + 1) s3.heap := w.frame _ _ _ hst' (fun b hb o e => F3.1 b o (hid1 b hb).1 (fun q => (hid1 b hb).2.2 q.has) e) tk3
  have ha3 : Cy c s3.heap a acc1 := ha2.mono' (fun o e => F3.1 a o hn1 (fun q => hh q.has) e) tk3.b
  have hob : ∃ o, h''.get? a = some o := let ⟨vs, n, ho, _⟩ := ha2; ⟨_, ho⟩
  obtain ⟨oa, hoa⟩ := hob
  have hn3 : σ3 a = none := F3.2 a oa hoa hn1 (fun q => hh q.has)
  refine Ab (Ai (RV X3 q3) (fun ok s4 ⟨ok', σ4, q4, p4, r4⟩ => ?_) fun _ _ e => e.elim)
  cases (show ok = ok' from r4)
  have X4 := X3.post p4
  have ha4 : Cy c s4.heap a acc1 := ha3.mono' (fun o e => p4.2.1 a o hn3 e) (p4.2.tups X3.sim).b
  have hob3 : ∃ o, s3.heap.get? a = some o := let ⟨vs, n, ho, _⟩ := ha3; ⟨_, ho⟩
  obtain ⟨oa3, hoa3⟩ := hob3
  have hn4 : σ4 a = none := p4.2.2 a oa3 hoa3 hn3
  have hid4 : B7 c env σ4 fp := B7.on hid3 (w.ex _ _ hst3) p4.2.toX
  have hst4 : St (i + 1) s4.heap := w.frame _ _ _ hst3 (fun b hb o e => p4.2.1 b o (hid3 b hb).1 e) (p4.2.tups X3.sim)
  have F4 : A9 (fun b => own env b ∨ b = a ∨ b ∈ fp) σ s.heap σ4 s4.heap :=
   F1.trans ((show A9 _ σ1 s1.heap σ1 h'' from ⟨fun b o hb ho e => C2.keep b o (fun q => ho (.inr (.inr q))) e, fun _ _ _ e _ => e⟩).trans ((F3.wide fun _ => .inl).trans p4.2.toX))
  cases ok with
  | false =>
   have q4' : Inv (i + 1) acc1 m3 σ4 := q4
   exact Ad (.inl ⟨rfl, ds.length - (i + 1), by omega, i + 1, acc1, m3, σ4, rfl, hlt, q4', hst4, X4, hid4, ha4, hn4, F4⟩)
  | true =>
   have q4' : CT c A env a m3 σ4 acc1 T (Inv (i + 1)) := q4
   refine Ab (Ai (q4' s4 X4 ha4 hn4 hz hh) (fun _ s5 ⟨acc5, m5, σ5, q5, F5, X5, ha5, hn5⟩ => ?_) fun _ _ e => e.elim)
   have hob4 : ∃ o, s4.heap.get? a = some o := let ⟨vs, n, ho, _⟩ := ha4; ⟨_, ho⟩
   obtain ⟨oa4, hoa4⟩ := hob4
   have hne : ∀ b ∈ fp, ¬ (own env b ∨ b = a) := fun b hb q => q.elim (fun q => (hid4 b hb).2.2 q.has) fun q => haf (q ▸ hb)
   have hid5 : B7 c env σ5 fp := fun b hb => by
    obtain ⟨o, ho⟩ := w.ex _ _ hst4 b hb
    exact ⟨F5.2 b o ho (hid4 b hb).1 (hne b hb), (hid4 b hb).2⟩
   have tk5 : AW s4.heap s5.heap := A9.tups X4.sim (fun b hb vs n => hb.elim (fun q => X4.own_tup q vs n) fun q => q ▸ ha4.no_tup vs n) F5
   have hst5 : St (i + 1) s5.heap := w.frame _ _ _ hst4 (fun b hb o e => F5.1 b o (hid4 b hb).1 (hne b hb) e) tk5
   exact Ad (.inl ⟨rfl, ds.length - (i + 1), by omega, i + 1, acc5, m5, σ5, rfl, hlt, q5, hst5, X5, hid5, ha5, hn5, F4.trans (F5.wide fun b hb => hb.elim .inl fun q => .inr (.inl q))⟩)
theorem NH (elt target iter : Expr) (ifs : List Expr) (scope : Scope) (pos : Pos) (it acc : Value) (env : Env) :
 compTurn (.ListComp elt [⟨target, iter, ifs, 0⟩] scope pos) 0 it acc env = FL iter.pos target ifs it env (do let _ <- call (.builtin "list.append") [acc, <- eval elt env]) (again (.compLoop (.ListComp elt [⟨target, iter, ifs, 0⟩] scope pos) 0 it acc env)) := by rfl
noncomputable def Gy (e : Expr) (iter : Expr) (acc : Value) (env : Env) : Sem Unit := do
 let x <- eval iter env
 standAt iter.pos
 let x <- foldedSetIterable iter env x
 let _ <- runOwn (.compStart e 1 (<- holding [x] (pyIter x)) acc env) env
theorem NI (elt target iter target' iter' : Expr) (ifs ifs' : List Expr) (scope : Scope) (pos : Pos) (it acc : Value) (env : Env) :
  compTurn (.ListComp elt [⟨target, iter, ifs, 0⟩, ⟨target', iter', ifs', 0⟩] scope pos) 0 it acc env = FL iter.pos target ifs it env
   (Gy (.ListComp elt [⟨target, iter, ifs, 0⟩, ⟨target', iter', ifs', 0⟩] scope pos) iter' acc env) (again (.compLoop (.ListComp elt [⟨target, iter, ifs, 0⟩, ⟨target', iter', ifs', 0⟩] scope pos) 0 it acc env)) := by iterate 1
 unfold FL Gy
 simp only [bind_assoc]
 rfl
theorem RW (elt target iter target' iter' : Expr) (ifs ifs' : List Expr) (scope : Scope) (pos : Pos) (it acc : Value) (env : Env) :
 compTurn (.ListComp elt [⟨target, iter, ifs, 0⟩, ⟨target', iter', ifs', 0⟩] scope pos) 1 it acc env = FL iter'.pos target' ifs' it env
  (do let _ <- call (.builtin "list.append") [acc, <- eval elt env]) (again (.compLoop (.ListComp elt [⟨target, iter, ifs, 0⟩, ⟨target', iter', ifs', 0⟩] scope pos) 1 it acc env)) := by rfl
theorem NJ (hg : gens[k]? = some g) (ha : g.is_async = 0)
  (hs : wpAny c.M A (pyIter (.ref I)) (fun r s' => r = .ref I /\ s' = s) (fun _ _ => False) s)
  (h0 : codeAny c.M A (.compLoop (.ListComp elt gens scope pos) k (.ref I) acc env) R s) : codeAny c.M A (.compStart (.ListComp elt gens scope pos) k (.ref I) acc env) R s := by iterate 1
 refine NK ?_
 show wpAny _ _ ((compStart (.ListComp elt gens scope pos) k (.ref I) acc env).onRaise (fun x => do noteFrame x env; standAt theWindowsPlace)) _ _ s
 refine wpAny_notedAt ?_
 unfold compStart
 have hc : (clausesOf (.ListComp elt gens scope pos))[k]? = some g := hg
 rw [hc]
 have hne : Option.elim (some g) false (fun x => x.is_async != 0) = false := by simp [ha]
 rw [hne]
 simp only [Be, if_false]
 show wpAny _ _ (ask >>= _) _ _ s
 refine Ab (Ip (wpAny_ite ?_))
 split
 ·first
   | exact Ab (Ad (Ad (And.intro rfl h0)))
   | exact Ad (And.intro rfl h0)
 ·refine Ab (D2 ?_)
  show wpAny _ _ (standAt g.iter.pos >>= _) _ _ s
  refine Ab (EB (Ab (Ai hs (fun it' s' h' => ?_) fun _ _ x => x.elim)))
  obtain ⟨rfl, rfl⟩ := h'
  exact Ad (And.intro rfl h0)
end
noncomputable def C5 (env : Env) : List (Str × NameKind) -> List (Str × Addr) -> List (Str × Addr)
 | [], cs => cs
 | (n, k) :: r, cs => C5 env r (if k == .free then (n, (env.cells.lookup n).getD 0) :: cs else cs)
noncomputable def Ei (env : Env) (scope : Scope) : Bool :=
 (scope.kind == .function) && decide ((scope.names.map (·.1)).Nodup) && scope.names.all fun p => match p.2 with
  | .cell => false
  | .free => (env.cells.lookup p.1).isSome && (env.kindOf p.1 == some .cell || env.kindOf p.1 == some .free)
  | _ => true
theorem NM : ∀ (names : List (Str × NameKind)) (cs : List (Str × Addr)), (∀ p ∈ names, p.2 = .free -> (env.cells.lookup p.1).isSome = true) ->
  (forIn names cs fun x r => if (x.2 == NameKind.free) = true then do let a <- cellOf env x.1; pure (ForInStep.yield ((x.1, a) :: r)) else pure (ForInStep.yield r)) = (pure (C5 env names cs) : Sem (List (Str × Addr)))
 | [], cs, _ => rfl
 | (n, k) :: r, cs, h => by iterate 1
  rw [K7]
  unfold C5
  have ih := fun cs => NM (env := env) r cs fun p hp => h p (BM _ hp)
  cases hk : k == NameKind.free with
  | true =>
   have hs := h (n, k) Bv (DX hk)
   obtain ⟨a, ha⟩ := Hk.mp hs
   simp only [if_true]
   rw [show cellOf env n = pure a by unfold cellOf; rw [ha]]
   simp only [pure_bind, ha, NN]
   exact ih _
  | false =>
   simp only [Be, if_false, pure_bind]
   exact ih _
theorem Iv (h : ∀ p ∈ scope.names, p.2 = .free -> (env.cells.lookup p.1).isSome = true) : closureFor scope env = pure (C5 env scope.names []) := by iterate 1
 unfold closureFor
 rw [<- NM scope.names [] h]
 simp only [bind_pure]
theorem NO : ∀ (names : List (Str × NameKind)) (cs : List (Str × Addr)), (x, a) ∈ C5 env names cs -> (x, a) ∈ cs ∨ ((x, NameKind.free) ∈ names /\ a = (env.cells.lookup x).getD 0)
 | [], cs, h => .inl h
 | (n, k) :: r, cs, h => by iterate 1
  unfold C5 at h
  rcases NO r _ h with h | ⟨h1, h2⟩
  ·cases hk : k == NameKind.free with
   | true =>
    rw [hk, if_pos rfl] at h
    rcases Ay.mp h with e | h
    ·cases e; exact .inr ⟨by rw [DX hk]; exact Bv, rfl⟩
    ·exact .inl h
   | false => rw [hk, if_neg Cu] at h; exact .inl h
  ·exact .inr ⟨BM _ h1, h2⟩
theorem NP : ∀ (names : List (Str × NameKind)) (cs : List (Str × Addr)), ((∃ a, (x, a) ∈ cs) ∨ (x, NameKind.free) ∈ names) -> ∃ a, (x, a) ∈ C5 env names cs
 | [], cs, h => by
  rcases h with h | h
  ·exact h
  ·cases h
 | (n, k) :: r, cs, h => by iterate 1
  unfold C5
  refine NP r _ ?_
  rcases h with ⟨a, h⟩ | h
  ·refine .inl ⟨a, ?_⟩
   split
   ·exact BM _ h
   ·exact h
  ·rcases Ay.mp h with e | h
   ·cases e; refine .inl ⟨(env.cells.lookup x).getD 0, ?_⟩; rw [if_pos (by rfl)]; exact Bv
   ·exact .inr h
theorem D3 {β : Type} {x : Str} {b : β} : ∀ {l : List (Str × β)}, l.lookup x = some b -> (x, b) ∈ l
 | [], h => by cases h
 | (y, c) :: r, h => by iterate 1
  rw [AY] at h
  cases q : x == y with
  | true => rw [q] at h; cases h; rw [DX q]; exact Bv
  | false => rw [q] at h; exact BM _ (D3 h)
theorem E5 {β : Type} {x : Str} {b : β} : ∀ {l : List (Str × β)}, (l.map (·.1)).Nodup -> (x, b) ∈ l -> l.lookup x = some b
 | [], _, h => by cases h
 | (y, c) :: r, hn, h => by iterate 1
  rw [AM, BE] at hn
  rw [AY]
  rcases Ay.mp h with e | h
  ·cases e; simp
  ·have : x ≠ y := fun q => hn.1 (q ▸ AS (f := (·.1)) h)
   rw [beq_eq_false_iff_ne.mpr this]
   exact E5 hn.2 h
theorem K9 {β : Type} {x : Str} {b : β} : ∀ {l : List (Str × β)}, (x, b) ∈ l -> ∃ b', l.lookup x = some b'
 | (y, c) :: r, h => by iterate 1
  rw [AY]
  cases q : x == y with
  | true => exact ⟨_, rfl⟩
  | false =>
   rcases Ay.mp h with e | h
   ·cases e; rw [beq_self_eq_true] at q; cases q
   ·exact K9 h
structure Gz (env : Env) (scope : Scope) : Prop where
 kind : scope.kind = .function
 nodup : (scope.names.map (·.1)).Nodup
 nocell : ∀ x ∈ scope.names, x.2 ≠ .cell
 free : ∀ x, (x, NameKind.free) ∈ scope.names -> (env.cells.lookup x).isSome = true /\ (env.kindOf x = some .cell ∨ env.kindOf x = some .free)
theorem Iw (h : Ei env scope = true) : Gz env scope := by iterate 1
 unfold Ei at h
 simp only [Cv, beq_iff_eq, decide_eq_true_eq, D0] at h
 obtain ⟨⟨h1, h2⟩, h3⟩ := h
 refine ⟨h1, h2, fun x hx e => ?_, fun x hx => ?_⟩
 ·have := h3 x hx
  rw [e] at this; cases this
 ·have := h3 _ hx
  simp only [Cv, Nv, beq_iff_eq] at this
  exact this
noncomputable def DL (scope : Scope) (m : Au) : Au := m.filter fun p => scope.names.lookup p.1 != some .local
theorem Iy : ∀ {m : Au}, (DL scope m).lookup x = some d -> m.lookup x = some d /\ scope.names.lookup x ≠ some .local
 | [], h => by cases h
 | (y, e) :: r, h => by iterate 1
  unfold DL at h
  rw [GA] at h
  rw [AY]
  cases q : (scope.names.lookup y != some .local) with
  | true =>
   rw [q, if_pos rfl, AY] at h
   cases q' : x == y with
   | true =>
    rw [q'] at h; refine ⟨h, ?_⟩
    rw [DX q']; simpa using q
   | false => rw [q'] at h; exact Iy h
  | false =>
   rw [q, if_neg Cu] at h
   obtain ⟨h1, h2⟩ := Iy h
   cases q' : x == y with
   | true => rw [DX q'] at h2; simp at q; exact absurd q h2
   | false => exact ⟨h1, h2⟩
theorem Iz {env : Env} {x : Str} {k : NameKind} : ∀ {names : List (Str × NameKind)}, (names.map fun (n, k) => if (k == NameKind.free && env.scope.kind == .function && env.kindOf n == some .cell) then (n, NameKind.cell) else (n, k)).lookup x = some k ->
  names.lookup x = some k ∨ (k = .cell /\ names.lookup x = some .free)
 | [], h => by cases h
 | (n, kd) :: r, h => by iterate 1
  have ih := @Iz env x k r
  rw [AM, AY] at h
  rw [AY]
  by_cases hc : (kd == NameKind.free && env.scope.kind == .function && env.kindOf n == some .cell) = true
  ·simp only [hc, if_true] at h
   cases q : x == n with
   | true =>
    rw [q] at h; cases h
    simp only [Cv] at hc
    exact .inr ⟨rfl, congrArg some (DX hc.1.1)⟩
   | false => rw [q] at h; exact ih h
  ·simp only [hc, Be, if_false] at h
   cases q : x == n with
   | true => rw [q] at h; cases h; exact .inl rfl
   | false => rw [q] at h; exact ih h
noncomputable abbrev A0 (scope : Scope) (env : Env) (L : Addr) : Env := compEnvC scope (C5 env scope.names []) L env
section
variable {c : Cx} {A : Around} {env : Env} {m : Au} {σ : Aa}
theorem E6 (F : Gz env scope) (h : (C5 env scope.names []).lookup x = some a) : env.cells.lookup x = some a /\ (x, NameKind.free) ∈ scope.names := by iterate 1
 rcases NO _ _ (D3 h) with h | ⟨h1, h2⟩
 ·cases h
 ·obtain ⟨b, hb⟩ := Hk.mp (F.free x h1).1
  rw [hb] at h2; subst h2
  exact ⟨hb, h1⟩
theorem RX (F : Gz env scope) (h : (x, NameKind.free) ∈ scope.names) : (C5 env scope.names []).lookup x = env.cells.lookup x := by iterate 1
 obtain ⟨a, ha⟩ := NP (env := env) scope.names [] (.inr h)
 obtain ⟨b, hb⟩ := K9 ha
 rw [hb, (E6 F hb).1]
theorem NQ : ∀ (names : List (Str × NameKind)) (cs : List (Str × Addr)), (names.map (·.1)).Nodup -> (∀ p ∈ cs, p.1 ∉ names.map (·.1)) -> (cs.map (·.1)).Nodup -> ((C5 env names cs).map (·.1)).Nodup
 | [], cs, _, _, h => h
 | (n, k) :: r, cs, h1, h2, h3 => by iterate 1
  rw [AM, BE] at h1
  unfold C5
  refine NQ r _ h1.2 (fun p hp => ?_) ?_
  ·split at hp
   ·rcases Ay.mp hp with rfl | hp
    ·exact h1.1
    ·exact fun q => h2 p hp (BM _ q)
   ·exact fun q => h2 p hp (BM _ q)
  ·split
   ·rw [AM, BE]
    refine ⟨fun q => ?_, h3⟩
    obtain ⟨p, hp, e⟩ := Av.mp q
    exact h2 p hp (by rw [e]; exact Bv)
   ·exact h3
theorem RY (F : Gz env scope) (hap : env.cells.Pairwise fun x y => x.2 ≠ y.2) : (C5 env scope.names []).Pairwise fun x y => x.2 ≠ y.2 := by iterate 1
 have hn := NQ (env := env) scope.names [] F.nodup (fun p hp => by cases hp) (by simp)
 rw [List.Nodup, E7] at hn
 refine List.Pairwise.imp_of_mem (fun {x y} hx hy hne e => ?_) hn
 have hx' := E6 F (E5 (by rw [List.Nodup, E7]; exact hn) (b := x.2) (x := x.1) hx)
 have hy' := E6 F (E5 (by rw [List.Nodup, E7]; exact hn) (b := y.2) (x := y.1) hy)
 exact hne (name_of_addr hap (mem_of_lookup hx'.1) (e ▸ mem_of_lookup hy'.1))
theorem Ax.comp (X : Ax c env m σ s) (F : Gz env scope) (hL : s.heap.get? L = none) (hns : h'.Ns L mm) (hk : ∀ b o, s.heap.get? b = some o -> h'.get? b = some o) :
  Ax c (A0 scope env L) (DL scope m) σ { s with heap := h', toks := t } := by iterate 1
 have tk : AW s.heap h' := fun b vs n e => hk _ _ e
 obtain ⟨hσ, h0⟩ := X.sim.none_of hL
 have hne : ∀ x a, env.cells.lookup x = some a -> a ≠ L := fun x a e q => by
  obtain ⟨ov, o, ho, _⟩ := X.vars.cells x a e
  rw [q, hL] at ho; cases ho
 refine ⟨X.sim.heap (fun a o e => (X.sim.1 a o e).1.mono (fun ob z => hk _ _ z) tk) (fun b o e => hk _ _ (X.sim.2.1 b o e)) tk, ⟨F.kind, X.ok.globals, X.ok.builtins, h0, fun x a e => X.ok.h0c x a (E6 F e).1, RY F X.ok.apart, fun x a e => hne x a (E6 F e).1⟩,
  ⟨⟨mm, hns, fun x d hkd hl => ?_⟩, fun x a e => ?_, fun x d hkd hl => ?_⟩, fun a ha => ?_⟩
 ·exfalso
  obtain ⟨_, h2⟩ := Iy hl
  rcases Iz (k := .local) hkd with h | ⟨h, _⟩
  ·exact h2 h
  ·cases h
 ·obtain ⟨ov, hc⟩ := X.vars.cells x a (E6 F e).1
  exact ⟨ov, IsCell.at' hc fun o e => hk _ _ e⟩
 ·have hfree : (x, NameKind.free) ∈ scope.names := by
   rcases hkd with hkd | hkd
   ·rcases Iz (k := .cell) hkd with h | ⟨_, h⟩
    ·exact absurd rfl (F.nocell _ (D3 h))
    ·exact D3 h
   ·rcases Iz (k := .free) hkd with h | ⟨h, _⟩
    ·exact D3 h
    ·cases h
  obtain ⟨a, v, h1, h2, h3⟩ := X.vars.cl x d (F.free x hfree).2 (Iy hl).1
  exact ⟨a, v, (RX F hfree).trans h1, IsCell.at' h2 fun o e => hk _ _ e, h3.mono tk⟩
 ·rcases ha with rfl | ⟨x, e⟩
  ·exact hσ
  ·exact X.off a (.inr ⟨x, (E6 F e).1⟩)
end
section
variable {c : Cx} {A : Around} {env : Env} {m : Au} {σ : Aa}
structure La (c : Cx) (env : Env) (σ : Aa) (s : Shared) (σ'' : Aa) (s' : Shared) (L : Addr) : Prop where
 ns : ∃ mm, s'.heap.Ns L mm
 σn : σ'' L = none
 h0 : c.h₀.get? L = none
 nh : ¬ has env L
 new : σ L = none -> s.heap.get? L = none
theorem La.post (G : La c env σ s σ'' s' L) (p : Ah c σ s σ'' s') (hs : Heap.SameBut L s'.heap h') : Ah c σ s σ'' { s' with heap := h' } := by iterate 1
 obtain ⟨mm, o, es, ep, ho, hd, _⟩ := G.ns
 have C : Chg c [L] s'.heap h' := Chg.of (show True from trivial) ho (by intro vs n e; subst e; cases hd) fun b o hb e => (hs.2 b (fun q => hb (Ag.mpr q))).trans e
 refine ⟨p.1.chg (fun b hb => by cases Ag.mp hb; exact ⟨G.σn, G.h0⟩) C s'.toks, fun b o hb e => C.keep b o (fun q => ?_) (p.2.1 b o hb e), p.2.2⟩
 cases Ag.mp q
 rw [G.new hb] at e; cases e
theorem RZ (h : own (A0 scope env L) b) : b = L := by iterate 1
 rcases h with h | ⟨h, _⟩
 ·exact h
 ·cases h
theorem IA {elt : Expr} {gens : List Comprehension} {scope : Scope} {pos : Pos} {g : Comprehension} (hgens : gens[0]? = some g) (hga : g.is_async = 0) (F : Gz env scope)
  {I : Addr} {fp : List Addr} {ds : List D} {Hold : Aa -> Prop} {St : Nat -> Heap -> Prop} {Mid : Nat -> Value -> Heap -> Prop} {σ1 : Aa} {s s2 : Shared} (X : Ax c env m σ s) (p : Ah c σ s σ1 s2)
  (w : Wk c A g.target I fp ds Hold St Mid) (st : St 0 s2.heap) (hid : Hid c env σ s fp σ1)
  (T : Addr -> Env -> Sem Unit) (hT : ∀ a cenv, compTurn (.ListComp elt gens scope pos) 0 (.ref I) (.ref a) cenv = FL g.iter.pos g.target g.ifs (.ref I) cenv (T a cenv) (again (.compLoop (.ListComp elt gens scope pos) 0 (.ref I) (.ref a) cenv)))
  (Inv : Nat -> List D -> Au -> Aa -> Prop) (h0 : Inv 0 [] (DL scope m) σ1) (hold : ∀ i acc m' σ', Inv i acc m' σ' -> Hold σ')
  (step : ∀ L a i d acc m' σ', Inv i acc m' σ' -> ds[i]? = some d -> EA c A (A0 scope env L) m' g.target d σ' fun m2 σ2 => ETs c A (A0 scope env L) m2 g.ifs σ2 fun ok σ3 =>
   if ok = true then CT c A (A0 scope env L) a m2 σ3 acc (T a (A0 scope env L)) (Inv (i + 1)) else Inv (i + 1) acc m2 σ3)
  {RR : Value -> Addr -> Result -> Shared -> Prop}
  (fin : ∀ a L acc m' σ' s', Inv ds.length acc m' σ' -> σ' a = none -> Ah c σ s (σ'.set a (.list acc)) s' -> La c env σ s (σ'.set a (.list acc)) s' L -> RR (.ref a) L (.ok .next) s') :
  wpAny c.M A (newList []) (fun acc s3 => wpAny c.M A (newFunctionEnv scope env.globals (C5 env scope.names []) [] env.qual none .none (some env)) (fun cenv s4 =>
   codeAny c.M A (.compStart (.ListComp elt gens scope pos) 0 (.ref I) acc { cenv with scope := relabel scope env }) (RR acc cenv.locals) s4) (fun _ _ => False) s3) (fun _ _ => False) s2 := by iterate 1
 refine CM (wpAny_newFunctionEnv F.nocell (by intro y hy; simp at hy) (fun h1 hns1 hsb1 => ?_) F.kind)
 dsimp only at hns1 hsb1 ⊢
 generalize hH2 : s2.heap.push { cls := .type "list", dict := none, data := .seq ([] : List Value).toArray } = H2 at hns1 hsb1 ⊢
 have hC : H2.objs.size = s2.heap.objs.size + 1 := by rw [<- hH2, E4]
 have hDC : s2.heap.objs.size ≠ H2.objs.size := by rw [hC]; exact A8 (E8 _)
 have below : ∀ b o, s2.heap.get? b = some o -> b ≠ H2.objs.size /\ b ≠ s2.heap.objs.size := fun b o e => ⟨by rw [hC]; exact A8 (Dx (AZ e)), A8 (AZ e)⟩
 have old : ∀ b o, s2.heap.get? b = some o -> h1.get? b = some o := fun b o e => hsb1.extBut b o (below b o e).1 (AA _ (hH2 ▸ AA _ e))
 have fresh : ∀ a, s2.heap.objs.size <= a -> s2.heap.get? a = none := fun a ha => by
  cases e : s2.heap.get? a with
  | none => rfl
  | some o' => exact absurd (AZ e) (ED.mpr ha)
 have X2 := X.post p
 have hLn : s2.heap.get? H2.objs.size = none := fresh _ (by rw [hC]; exact Ej _)
 have han : s2.heap.get? s2.heap.objs.size = none := fresh _ (Az _)
 have X4 : Ax c (A0 scope env H2.objs.size) (DL scope m) σ1 { s2 with heap := h1, toks := s2.toks + ([] : List (Str × Value)).length } := X2.comp F hLn hns1 old
 have hacc : Cy c h1 s2.heap.objs.size [] := ⟨[], 0, hsb1.extBut _ _ hDC (AA _ (hH2 ▸ AR _ rfl)), .nil⟩
 have fpx : ∀ b ∈ fp, ∃ o, s2.heap.get? b = some o := w.ex _ _ st
 have hst1 : St 0 h1 := w.frame _ _ _ st (fun b hb o e => old b o e) fun _ _ _ e => old _ _ e
 have nhas : ∀ b, s2.heap.get? b = none -> ¬ has env b := fun b hb hh => by
  obtain ⟨o, e⟩ := X2.own_some hh
  rw [hb] at e; cases e
 have has' : ∀ b, b ≠ H2.objs.size -> has (A0 scope env H2.objs.size) b -> has env b := fun b hb hh => by
  rcases hh with h | ⟨x, e⟩
  ·exact absurd h hb
  ·exact .inr ⟨x, (E6 F e).1⟩
 obtain ⟨haσ, ha0⟩ := p.1.none_of han
 obtain ⟨hLσ, hL0⟩ := p.1.none_of hLn
 have hid' : B7 c (A0 scope env H2.objs.size) σ1 fp := fun b hb => by
  obtain ⟨o, e⟩ := fpx b hb
  exact ⟨(hid b hb).1, (hid b hb).2.1, fun q => (hid b hb).2.2.1 (has' b (below b o e).1 q)⟩
 have haf : s2.heap.objs.size ∉ fp := fun hb => by
  obtain ⟨o, e⟩ := fpx _ hb
  rw [han] at e; cases e
 refine NJ hgens hga (w.self 0 _ hst1) ?_
 refine De (NG (hT _ _) w Inv hold (step _ _) X4 h0 hst1 hid' hacc haσ ha0 (fun q => nhas _ han (has' _ hDC q)) haf) fun r s' ⟨e, acc, m', σ', hI, FF, X', ha', hn'⟩ => ?_
 subst e
 have key : ∀ b o, σ b = none -> s.heap.get? b = some o -> b ≠ s2.heap.objs.size /\ σ1 b = none /\ h1.get? b = some o /\ ¬ (own (A0 scope env H2.objs.size) b ∨ b = s2.heap.objs.size ∨ b ∈ fp) := fun b o hb e => by
  have e2 := p.2.1 b o hb e
  obtain ⟨n1, n2⟩ := below b o e2
  refine ⟨n2, p.2.2 b o e hb, old b o e2, fun q => ?_⟩
  rcases q with q | q | q
  ·exact n1 (RZ q)
  ·exact n2 q
  ·rw [(hid b q).2.2.2 hb] at e; cases e
 have hsn : ∀ b, s2.heap.get? b = none -> σ b = none -> s.heap.get? b = none := fun b hb hσ => by
  cases e : s.heap.get? b with
  | none => rfl
  | some o => have := p.2.1 b o hσ e; rw [hb] at this; cases this
 have hL : (σ'.set s2.heap.objs.size (.list acc)) H2.objs.size = none := by
  rw [Aa.B5 _ _ hDC.symm]; exact X'.off _ (.inl rfl)
 refine fin _ _ acc m' σ' s' hI hn' ⟨⟨fun b o e => ?_, X'.sim.2⟩, fun b o hb e => ?_, fun b o e hb => ?_⟩ ⟨?_, hL, hL0, nhas _ hLn, ?_⟩
 ·unfold Aa.set at e
  by_cases q : b = s2.heap.objs.size
  ·rw [if_pos q] at e; cases e; subst q; exact ⟨ha', ha0, p.1.fresh_sys⟩
  ·rw [if_neg q] at e; exact X'.sim.1 b o e
 ·obtain ⟨n1, k1, k2, k3⟩ := key b o hb e
  exact FF.1 b o k1 k3 k2
 ·obtain ⟨n1, k1, k2, k3⟩ := key b o hb e
  rw [Aa.B5 _ _ n1]
  exact FF.2 b o k2 k1 k3
 ·obtain ⟨mm, hn, _⟩ := X'.vars.ns
  exact ⟨mm, hn⟩
 ·exact hsn _ hLn
theorem EV.comp1 (hok : Ei env scope = true)
   (h : EIT c A target env m iter σ fun ds Hold σ1 => ∃ Inv : Nat -> List D -> Au -> Aa -> Prop, Inv 0 [] (DL scope m) σ1 /\ (∀ i acc m' σ', Inv i acc m' σ' -> Hold σ') /\
    (∀ L i d acc m' σ', Inv i acc m' σ' -> ds[i]? = some d -> EA c A (A0 scope env L) m' target d σ' fun m2 σ2 => ETs c A (A0 scope env L) m2 ifs σ2 fun ok σ3 =>
     if ok = true then EV c A (A0 scope env L) m2 elt σ3 fun d' σ4 => acc.length <= 1000000 /\ Inv (i + 1) (acc ++ [d']) m2 σ4 else Inv (i + 1) acc m2 σ3) /\
    (∀ acc m' σ' a, Inv ds.length acc m' σ' -> σ' a = none -> Q (.ref a) (σ'.set a (.list acc))))
   (hs : ∀ x, foldedSetIterable iter env x = pure x := by intro _; rfl) : EV c A env m (.ListComp elt [⟨target, iter, ifs, 0⟩] scope pos) σ Q := by iterate 1
 exact fun s X => by
  have F := Iw hok
  show wpAny c.M A (eval (.ListComp elt [⟨target, iter, ifs, 0⟩] scope pos) env) _ _ s
  rw [eval_ListComp]
  have hclos := Iv (scope := scope) (env := env) fun p hp e => (F.free p.1 (by rw [<- e]; exact hp)).1
  refine Lb (use := none) rfl hs hclos F.kind (fun x hx e => E5 F.nodup (by rw [<- e]; exact hx)) ?_
  refine Ai (h s X) (fun v s1 h1 => Ai h1 (fun it s2 ⟨I, fp, St, Mid, ds, Hold, σ2, ⟨Inv, h0, hold, step, fin⟩, e, w, st, hid, p⟩ => ?_) fun _ _ e => e.elim) fun _ _ e => e.elim
  subst e
  refine IA (g := ⟨target, iter, ifs, 0⟩) rfl rfl F X p w st hid (fun a cenv => do let _ <- call (.builtin "list.append") [.ref a, <- eval elt cenv]) (fun a cenv => NH ..) Inv h0 hold ?_ ?_
  ·intro L a i d acc m' σ' hI hd s' v' X' hr'
   refine Ai (step L i d acc m' σ' hI hd s' v' X' hr') (fun _ s3 ⟨m3, σ3, q3, F3, X3⟩ => ⟨m3, σ3, ?_, F3, X3⟩) fun _ _ e => e
   revert q3
   have conv : ∀ (Q₁ Q2 : Bool -> Aa -> Prop), (∀ b σ', Q₁ b σ' -> Q2 b σ') -> ETs c A (A0 scope env L) m3 ifs σ3 Q₁ -> ETs c A (A0 scope env L) m3 ifs σ3 Q2 := fun Q₁ Q2 k hh => by
    match ifs, hh with
    | [], hh => exact k _ _ hh
    | [t], hh => exact ET.mono hh k
   refine conv _ _ fun ok σ4 q4 => ?_
   cases ok with
   | false => exact q4
   | true =>
    rw [if_pos rfl] at q4 ⊢
    intro s5 X5 ha hn hz hh
    by_cases hlen : acc.length <= 1000000
    ·exact CT.K6 hlen (EV.mono q4 fun d' σ' hq => hq.2) s5 X5 ha hn hz hh
    ·refine Ab (Ai (q4 s5 X5) (fun v s1 ⟨d, σ1, q, p, r⟩ => absurd q.1 hlen) fun _ _ e => e)
  ·intro a L acc m' σ' s' hI hn' P G
   exact ⟨G.ns.choose, G.ns.choose_spec, fun h' hs' => ⟨.ref a, _, fin acc m' σ' a hI hn', G.post P hs', .ref a⟩⟩
theorem EX.comp1 (hok : Ei env scope = true) (hk : Bi env x = true)
   (h : EIT c A target env m iter σ fun ds Hold σ1 => ∃ Inv : Nat -> List D -> Au -> Aa -> Prop, Inv 0 [] (DL scope m) σ1 /\ (∀ i acc m' σ', Inv i acc m' σ' -> Hold σ') /\
    (∀ L i d acc m' σ', Inv i acc m' σ' -> ds[i]? = some d -> EA c A (A0 scope env L) m' target d σ' fun m2 σ2 => ETs c A (A0 scope env L) m2 ifs σ2 fun ok σ3 =>
     if ok = true then EV c A (A0 scope env L) m2 elt σ3 fun d' σ4 => acc.length <= 1000000 /\ Inv (i + 1) (acc ++ [d']) m2 σ4 else Inv (i + 1) acc m2 σ3) /\
    (∀ acc m' σ' a, Inv ds.length acc m' σ' -> σ' a = none -> Q .next ((x, .ref a) :: m) (σ'.set a (.list acc))))
   (hsw : swapsWith (.ListComp elt [⟨target, iter, ifs, 0⟩] scope pos) (some (.Name x pos')) spos.line env = pure true)
   (hs : ∀ x, foldedSetIterable iter env x = pure x := by intro _; rfl) : EX c A env m (.Assign [.Name x pos'] (.ListComp elt [⟨target, iter, ifs, 0⟩] scope pos) spos) σ Q := by iterate 1
 exact fun s X => by
  have F := Iw hok
  have hclos := Iv (scope := scope) (env := env) fun p hp e => (F.free p.1 (by rw [<- e]; exact hp)).1
  unfold WX
  rw [exec_Assign_Name_used _ _ _ _ hsw]
  refine Ab (EB (Ab ?_))
  show wpAny _ A (do let _ <- comprehension (.ListComp elt [⟨target, iter, ifs, 0⟩] scope pos) scope env _ (newList []) false (eval iter env) (some (PySem.assign (Expr.Name x pos') env))) _ _ s
  refine Ab (Ai (Lb (use := some (PySem.assign (Expr.Name x pos') env)) (Q := fun _ s' => ∃ m' σ', Q .next m' σ' /\ A9 (own env) σ s.heap σ' s'.heap /\ Ax c env m' σ' s') (E := fun _ _ => False) rfl hs hclos F.kind (fun x hx e => E5 F.nodup (by rw [<- e]; exact hx)) ?_)
   (fun _ s' ⟨m', σ', q, FF, X'⟩ => Ad (Ad ⟨.next, m', σ', q, FF, X', trivial⟩)) fun _ _ e => e)
  refine Ai (h s X) (fun v s1 h1 => Ai h1 (fun it s2 ⟨I, fp, St, Mid, ds, Hold, σ2, ⟨Inv, h0, hold, step, fin⟩, e, w, st, hid, p⟩ => ?_) fun _ _ e => e.elim) fun _ _ e => e.elim
  subst e
  refine IA (g := ⟨target, iter, ifs, 0⟩) rfl rfl F X p w st hid (fun a cenv => do let _ <- call (.builtin "list.append") [.ref a, <- eval elt cenv]) (fun a cenv => NH ..) Inv h0 hold ?_ ?_
  ·intro L a i d acc m' σ' hI hd s' v' X' hr'
   refine Ai (step L i d acc m' σ' hI hd s' v' X' hr') (fun _ s3 ⟨m3, σ3, q3, F3, X3⟩ => ⟨m3, σ3, ?_, F3, X3⟩) fun _ _ e => e
   revert q3
   have conv : ∀ (Q₁ Q2 : Bool -> Aa -> Prop), (∀ b σ', Q₁ b σ' -> Q2 b σ') -> ETs c A (A0 scope env L) m3 ifs σ3 Q₁ -> ETs c A (A0 scope env L) m3 ifs σ3 Q2 := fun Q₁ Q2 k hh => by
    match ifs, hh with
    | [], hh => exact k _ _ hh
    | [t], hh => exact ET.mono hh k
   refine conv _ _ fun ok σ4 q4 => ?_
   cases ok with
   | false => exact q4
   | true =>
    rw [if_pos rfl] at q4 ⊢
    intro s5 X5 ha hn hz hh
    by_cases hlen : acc.length <= 1000000
    ·exact CT.K6 hlen (EV.mono q4 fun d' σ' hq => hq.2) s5 X5 ha hn hz hh
    ·refine Ab (Ai (q4 s5 X5) (fun v s1 ⟨d, σ1, q, p, r⟩ => absurd q.1 hlen) fun _ _ e => e)
  ·intro a L acc m' σ' s' hI hn' P G
   have X' := X.post P
   refine Gw (Ai (Gv X' hk (d := .ref a) (.ref a) (Q := fun m'' σ'' => m'' = (x, .ref a) :: m /\ σ'' = σ'.set a (.list acc)) ⟨rfl, rfl⟩) (fun _ s'' ⟨m'', σ'', ⟨e1, e2⟩, F2, X2⟩ => ?_) fun _ _ e => e)
   subst e1 e2
   have hLk : ∀ o, s'.heap.get? L = some o -> s''.heap.get? L = some o := fun o e => F2.1 L o G.σn (fun q => G.nh q.has) e
   obtain ⟨mm, hns⟩ := G.ns
   have hns2 : s''.heap.Ns L mm := hns.at' hLk
   refine ⟨mm, hns2, fun h' hs' => ⟨_, _, fin acc m' σ' a hI hn', ?_, ?_⟩⟩
   ·refine ⟨fun b o hb ho e => ?_, fun b o e hb ho => ?_⟩
    ·have hbL : b ≠ L := fun q => by rw [q] at e hb; rw [G.new hb] at e; cases e
     exact (hs'.2 b hbL).trans (F2.1 b o (P.2.2 b o e hb) ho (P.2.1 b o hb e))
    ·exact F2.2 b o (P.2.1 b o hb e) (P.2.2 b o e hb) ho
   ·obtain ⟨o, es, ep, ho, hd, _⟩ := hns2
    have C : Chg c [L] s''.heap h' := Chg.of trivial ho (by intro vs n e; subst e; cases hd) fun b o hb e => (hs'.2 b (fun q => hb (Ag.mpr q))).trans e
    exact X2.chg (fun b hb => by cases Ag.mp hb; exact ⟨G.σn, G.h0, G.nh⟩) C s''.toks
end
section
variable {c : Cx} {A : Around} {env : Env} {m : Au} {σ : Aa}
theorem ETs.mono {Q₁ Q2 : Bool -> Aa -> Prop} (hh : ETs c A env m ifs σ Q₁) (k : ∀ b σ', Q₁ b σ' -> Q2 b σ') : ETs c A env m ifs σ Q2 := by iterate 1
 match ifs, hh with
 | [], hh => exact k _ _ hh
 | [t], hh => exact ET.mono hh k
theorem EA.mono (h : EA c A env m t d σ Q₁) (k : ∀ m' σ', Q₁ m' σ' -> Q2 m' σ') : EA c A env m t d σ Q2 := by iterate 1
 exact fun s v X r =>
  Ai (h s v X r) (fun _ s3 ⟨m3, σ3, q3, F3, X3⟩ => ⟨m3, σ3, k _ _ q3, F3, X3⟩) fun _ _ e => e
theorem CT.emit' (q4 : EV c A env m elt σ fun d σ' => acc.length <= 1000000 /\ Q (acc ++ [d]) m σ') :
  CT c A env a m σ acc (do let _ <- call (.builtin "list.append") [.ref a, <- eval elt env]) Q := by iterate 1
 intro s5 X5 ha hn hz hh
 by_cases hlen : acc.length <= 1000000
 ·exact CT.K6 hlen (EV.mono q4 fun d' σ' hq => hq.2) s5 X5 ha hn hz hh
 ·refine Ab (Ai (q4 s5 X5) (fun v s1 ⟨d, σ1, q, p, r⟩ => absurd q.1 hlen) fun _ _ e => e)
theorem CT.NR
  (h : EIT c A target env m iter σ fun ds Hold σ1 => ∃ Inv : Nat -> List D -> Au -> Aa -> Prop, Inv 0 acc m σ1 /\ (∀ i acc m' σ', Inv i acc m' σ' -> Hold σ') /\
   (∀ i d acc m' σ', Inv i acc m' σ' -> ds[i]? = some d -> EA c A env m' target d σ' fun m2 σ2 => ETs c A env m2 ifs σ2 fun ok σ3 =>
    if ok = true then EV c A env m2 elt σ3 fun d' σ4 => acc.length <= 1000000 /\ Inv (i + 1) (acc ++ [d']) m2 σ4 else Inv (i + 1) acc m2 σ3) /\
   (∀ acc m' σ', Inv ds.length acc m' σ' -> Q acc m' σ'))
  (hs : ∀ x, foldedSetIterable iter env x = pure x := by intro _; rfl) :
  CT c A env a m σ acc (Gy (.ListComp elt [⟨target1, iter1, ifs1, 0⟩, ⟨target, iter, ifs, 0⟩] scope pos) iter (.ref a) env) Q := by iterate 1
 intro s X ha hn hz hh
 unfold Gy
 refine Ab (Ai (h s X) (fun v s1 h1 => Ab (EB (Ab (Ho (hs v) (Ab (Bh (Ai h1 (fun it s2 ⟨I, fp, St, Mid, ds, Hold, σ2, ⟨Inv, h0, hold, step, fin⟩, e, w, st, hid, p⟩ => ?_) fun _ _ e => e.elim))))))) fun _ _ e => e.elim)
 subst e
 have X2 := X.post p
 have hob : ∃ o, s.heap.get? a = some o := let ⟨vs, n, ho, _⟩ := ha; ⟨_, ho⟩
 obtain ⟨o, ho⟩ := hob
 have ha2 : Cy c s2.heap a acc := ha.mono' (fun o e => p.2.1 a o hn e) (p.2.tups X.sim).b
 have hn2 : σ2 a = none := p.2.2 a o ho hn
 have haf : a ∉ fp := fun q => by rw [(hid a q).2.2.2 hn] at ho; cases ho
 refine Ab (wpAny_runOwn ?_)
 refine NJ (g := ⟨target, iter, ifs, 0⟩) rfl rfl (w.self 0 _ st) ?_
 refine De (NG (RW ..) w Inv hold (fun i d acc m' σ' hI hd => EA.mono (step i d acc m' σ' hI hd) fun m2 σ2 hq => ETs.mono hq fun ok σ3 hq => ?_) X2 h0 st (fun b hb => ⟨(hid b hb).1, (hid b hb).2.1, (hid b hb).2.2.1⟩) ha2 hn2 hz hh haf)
  fun r s' ⟨e, acc', m', σ', hI, FF, X', ha', hn'⟩ => ?_
 ·cases ok with
  | false => exact hq
  | true => rw [if_pos rfl] at hq ⊢; exact CT.emit' hq
 ·subst e
  refine Ad ⟨acc', m', σ', fin _ _ _ hI, ⟨fun b o hb hob e => ?_, fun b o e hb hob => ?_⟩, X', ha', hn'⟩
  ·refine FF.1 b o (p.2.2 b o e hb) (fun q => ?_) (p.2.1 b o hb e)
   rcases q with q | q | q
   ·exact hob (.inl q)
   ·exact hob (.inr q)
   ·rw [(hid b q).2.2.2 hb] at e; cases e
  ·refine FF.2 b o (p.2.1 b o hb e) (p.2.2 b o e hb) (fun q => ?_)
   rcases q with q | q | q
   ·exact hob (.inl q)
   ·exact hob (.inr q)
   ·rw [(hid b q).2.2.2 hb] at e; cases e
noncomputable def Ld (c : Cx) (A : Around) (env : Env) (m : Au) (σ : Aa) (elt target iter target' iter' : Expr) (ifs ifs' : List Expr) (scope : Scope) (Q : Addr -> Aa -> Prop) : Prop :=
 EIT c A target env m iter σ fun ds Hold σ1 => ∃ Inv : Nat -> List D -> Au -> Aa -> Prop, Inv 0 [] (DL scope m) σ1 /\ (∀ i acc m' σ', Inv i acc m' σ' -> Hold σ') /\
  (∀ L i d acc m' σ', Inv i acc m' σ' -> ds[i]? = some d -> EA c A (A0 scope env L) m' target d σ' fun m2 σ2 => ETs c A (A0 scope env L) m2 ifs σ2 fun ok σ3 =>
   if ok = true then EIT c A target' (A0 scope env L) m2 iter' σ3 fun ds' Hold' σ1' => ∃ Inv' : Nat -> List D -> Au -> Aa -> Prop, Inv' 0 acc m2 σ1' /\ (∀ j acc m' σ', Inv' j acc m' σ' -> Hold' σ') /\
     (∀ j d acc m' σ', Inv' j acc m' σ' -> ds'[j]? = some d -> EA c A (A0 scope env L) m' target' d σ' fun m2 σ2 => ETs c A (A0 scope env L) m2 ifs' σ2 fun ok σ3 =>
      if ok = true then EV c A (A0 scope env L) m2 elt σ3 fun d' σ4 => acc.length <= 1000000 /\ Inv' (j + 1) (acc ++ [d']) m2 σ4 else Inv' (j + 1) acc m2 σ3) /\
     (∀ acc m' σ', Inv' ds'.length acc m' σ' -> Inv (i + 1) acc m' σ')
    else Inv (i + 1) acc m2 σ3) /\
  (∀ acc m' σ' a, Inv ds.length acc m' σ' -> σ' a = none -> Q a (σ'.set a (.list acc)))
theorem EV.comp2 (hok : Ei env scope = true)
   (h : Ld c A env m σ elt target iter target' iter' ifs ifs' scope fun a σ' => Q (.ref a) σ')
   (hs : ∀ x, foldedSetIterable iter env x = pure x := by intro _; rfl) (hs' : ∀ L x, foldedSetIterable iter' (A0 scope env L) x = pure x := by intro _ _; rfl) : EV c A env m (.ListComp elt [⟨target, iter, ifs, 0⟩, ⟨target', iter', ifs', 0⟩] scope pos) σ Q := by iterate 1
 exact fun s X => by
  have F := Iw hok
  show wpAny c.M A (eval (.ListComp elt [⟨target, iter, ifs, 0⟩, ⟨target', iter', ifs', 0⟩] scope pos) env) _ _ s
  rw [eval_ListComp]
  have hclos := Iv (scope := scope) (env := env) fun p hp e => (F.free p.1 (by rw [<- e]; exact hp)).1
  refine Lb (use := none) rfl hs hclos F.kind (fun x hx e => E5 F.nodup (by rw [<- e]; exact hx)) ?_
  refine Ai (h s X) (fun v s1 h1 => Ai h1 (fun it s2 ⟨I, fp, St, Mid, ds, Hold, σ2, ⟨Inv, h0, hold, step, fin⟩, e, w, st, hid, p⟩ => ?_) fun _ _ e => e.elim) fun _ _ e => e.elim
  subst e
  refine IA (g := ⟨target, iter, ifs, 0⟩) rfl rfl F X p w st hid (fun a cenv => Gy (.ListComp elt [⟨target, iter, ifs, 0⟩, ⟨target', iter', ifs', 0⟩] scope pos) iter' (.ref a) cenv) (fun a cenv => NI ..) Inv h0 hold ?_ ?_
  ·intro L a i d acc m' σ' hI hd
   refine EA.mono (step L i d acc m' σ' hI hd) fun m2 σ2 hq => ETs.mono hq fun ok σ3 hq => ?_
   cases ok with
   | false => exact hq
   | true => rw [if_pos rfl] at hq ⊢; exact CT.NR hq (hs' L)
  ·intro a L acc m' σ' s' hI hn' P G
   exact ⟨G.ns.choose, G.ns.choose_spec, fun h' hs' => ⟨.ref a, _, fin acc m' σ' a hI hn', G.post P hs', .ref a⟩⟩
theorem EX.comp2 (hok : Ei env scope = true) (hk : Bi env x = true)
   (h : Ld c A env m σ elt target iter target' iter' ifs ifs' scope fun a σ' => Q .next ((x, .ref a) :: m) σ')
   (hsw : swapsWith (.ListComp elt [⟨target, iter, ifs, 0⟩, ⟨target', iter', ifs', 0⟩] scope pos) (some (.Name x pos')) spos.line env = pure true)
   (hs : ∀ x, foldedSetIterable iter env x = pure x := by intro _; rfl) (hs' : ∀ L x, foldedSetIterable iter' (A0 scope env L) x = pure x := by intro _ _; rfl) :
   EX c A env m (.Assign [.Name x pos'] (.ListComp elt [⟨target, iter, ifs, 0⟩, ⟨target', iter', ifs', 0⟩] scope pos) spos) σ Q := by iterate 1
 exact fun s X => by
  have F := Iw hok
  have hclos := Iv (scope := scope) (env := env) fun p hp e => (F.free p.1 (by rw [<- e]; exact hp)).1
  unfold WX
  rw [exec_Assign_Name_used _ _ _ _ hsw]
  refine Ab (EB (Ab ?_))
  show wpAny _ A (do let _ <- comprehension (.ListComp elt [⟨target, iter, ifs, 0⟩, ⟨target', iter', ifs', 0⟩] scope pos) scope env _ (newList []) false (eval iter env) (some (PySem.assign (Expr.Name x pos') env))) _ _ s
  refine Ab (Ai (Lb (use := some (PySem.assign (Expr.Name x pos') env)) (Q := fun _ s' => ∃ m' σ', Q .next m' σ' /\ A9 (own env) σ s.heap σ' s'.heap /\ Ax c env m' σ' s') (E := fun _ _ => False) rfl hs hclos F.kind (fun x hx e => E5 F.nodup (by rw [<- e]; exact hx)) ?_)
   (fun _ s' ⟨m', σ', q, FF, X'⟩ => Ad (Ad ⟨.next, m', σ', q, FF, X', trivial⟩)) fun _ _ e => e)
  refine Ai (h s X) (fun v s1 h1 => Ai h1 (fun it s2 ⟨I, fp, St, Mid, ds, Hold, σ2, ⟨Inv, h0, hold, step, fin⟩, e, w, st, hid, p⟩ => ?_) fun _ _ e => e.elim) fun _ _ e => e.elim
  subst e
  refine IA (g := ⟨target, iter, ifs, 0⟩) rfl rfl F X p w st hid (fun a cenv => Gy (.ListComp elt [⟨target, iter, ifs, 0⟩, ⟨target', iter', ifs', 0⟩] scope pos) iter' (.ref a) cenv) (fun a cenv => NI ..) Inv h0 hold ?_ ?_
  ·intro L a i d acc m' σ' hI hd
   refine EA.mono (step L i d acc m' σ' hI hd) fun m2 σ2 hq => ETs.mono hq fun ok σ3 hq => ?_
   cases ok with
   | false => exact hq
   | true => rw [if_pos rfl] at hq ⊢; exact CT.NR hq (hs' L)
  ·intro a L acc m' σ' s' hI hn' P G
   have X' := X.post P
   refine Gw (Ai (Gv X' hk (d := .ref a) (.ref a) (Q := fun m'' σ'' => m'' = (x, .ref a) :: m /\ σ'' = σ'.set a (.list acc)) ⟨rfl, rfl⟩) (fun _ s'' ⟨m'', σ'', ⟨e1, e2⟩, F2, X2⟩ => ?_) fun _ _ e => e)
   subst e1 e2
   have hLk : ∀ o, s'.heap.get? L = some o -> s''.heap.get? L = some o := fun o e => F2.1 L o G.σn (fun q => G.nh q.has) e
   obtain ⟨mm, hns⟩ := G.ns
   have hns2 : s''.heap.Ns L mm := hns.at' hLk
   refine ⟨mm, hns2, fun h' hs' => ⟨_, _, fin acc m' σ' a hI hn', ?_, ?_⟩⟩
   ·refine ⟨fun b o hb ho e => ?_, fun b o e hb ho => ?_⟩
    ·have hbL : b ≠ L := fun q => by rw [q] at e hb; rw [G.new hb] at e; cases e
     exact (hs'.2 b hbL).trans (F2.1 b o (P.2.2 b o e hb) ho (P.2.1 b o hb e))
    ·exact F2.2 b o (P.2.1 b o hb e) (P.2.2 b o e hb) ho
   ·obtain ⟨o, es, ep, ho, hd, _⟩ := hns2
    have C : Chg c [L] s''.heap h' := Chg.of trivial ho (by intro vs n e; subst e; cases hd) fun b o hb e => (hs'.2 b (fun q => hb (Ag.mpr q))).trans e
    exact X2.chg (fun b hb => by cases Ag.mp hb; exact ⟨G.σn, G.h0, G.nh⟩) C s''.toks
end
theorem R0 (f : Array Value -> Array Value) (vs : List Value) (n : Nat) : ∃ n', Obj.mapSeq f (Ct vs n) = { cls := .type "list", data := .seq (f vs.toArray) n' } := ⟨_, by simp only [Obj.mapSeq]; rfl⟩
section
variable {c : Cx} {A : Around} {env : Env} {m : Au} {σ : Aa}
theorem Ah.seq {s : Shared} {l : Addr} {ds ds' : List D} {vs vs' : List Value} {n : Nat} (S : Sim c σ s) (h : σ l = some (.list ds)) (ho : s.heap.get? l = some (Ct vs n)) (f : Array Value -> Array Value)
  (hf : f vs.toArray = vs'.toArray) (r : Ak c.bad s.heap vs' ds') (t : Nat) : Ah c σ s (σ.set l (.list ds')) { s with heap := s.heap.update l (Obj.mapSeq f), toks := t } := by iterate 1
 obtain ⟨n', hm⟩ := R0 f vs n
 refine Ah.Ii S t h (Df ..) fun k => ⟨vs', n', ?_, r.mono k⟩
 rw [EE _ ho (by rw [hm]; rfl), hm, hf]
theorem BOP.addL {a b : Addr} {xs ys : List D} {Q : D -> Aa -> Prop} (ha : σ a = some (.list xs)) (hb : σ b = some (.list ys)) (hz : xs.length + ys.length <= 1000000) (q : ∀ l, σ l = none -> Q (.ref l) (σ.set l (.list (xs ++ ys)))) :
   BOP c A .Add (.ref a) (.ref b) σ Q := by iterate 1
 exact fun s va vb S ra rb => by
  cases ra; cases rb
  obtain ⟨vs, n, ho, r, hl⟩ := BF S ha
  obtain ⟨ws, k, ho', r', hl'⟩ := BF S hb
  have e1 := r.length
  have e2 := r'.length
  have P := Ah.EC S (Ct (vs ++ ws) 0) s.toks (o := .list (xs ++ ys)) ⟨vs ++ ws, 0, AR _ rfl, (r.append r').mono fun _ _ _ e => AA _ e⟩
  refine PySem.P.add_list (n := n) (n2 := k) ho ho' ⟨.ref _, _, q _ S.fresh, ?_, .ref _⟩ (by rw [BA]; simp; omega)
  simpa using P
theorem BOP.FN (hz : xs.length + ys.length <= 1000000) (q : Q (.tup (xs ++ ys)) σ) : BOP c A .Add (.tup xs) (.tup ys) σ Q := by iterate 1
 exact fun s va vb S ra rb => by
  cases ra with
  | @tup a vs n _ nb ho r =>
  cases rb with
  | @tup b ws k _ nb' ho' r' =>
  have e1 := r.length
  have e2 := r'.length
  have hs : (vs.toArray.size + ws.toArray.size) <= sizeLine := by rw [BA]; simp; omega
  by_cases h1 : vs.toArray.isEmpty = true
  ·refine concat_meets ⟨_, ho, rfl⟩ ⟨_, ho', rfl⟩ NS seq_tuple_add F.slot_tuple_add F.entry_tuple_add (F.args_tuple_add_2 _ _) (AutoSeq1.tuple___add___tuple_tuple_0 a vs.toArray n b ws.toArray k h1) ⟨ho, ho', ?_⟩
   have : vs = [] := by simpa using h1
   subst this
   cases r
   exact ⟨_, σ, q, .refl S, .tup nb' ho' r'⟩
  ·by_cases h2 : ws.toArray.isEmpty = true
   ·refine concat_meets ⟨_, ho, rfl⟩ ⟨_, ho', rfl⟩ NS seq_tuple_add F.slot_tuple_add F.entry_tuple_add (F.args_tuple_add_2 _ _) (AutoSeq1.tuple___add___tuple_tuple_1 a vs.toArray n b ws.toArray k h1 h2) ⟨ho, ho', ?_⟩
    have : ws = [] := by simpa using h2
    subst this
    cases r'
    rw [BQ] at q
    exact ⟨_, σ, q, .refl S, .tup nb ho r⟩
   ·refine concat_meets ⟨_, ho, rfl⟩ ⟨_, ho', rfl⟩ NS seq_tuple_add F.slot_tuple_add F.entry_tuple_add (F.args_tuple_add_2 _ _) (AutoSeq1.tuple___add___tuple_tuple_2 a vs.toArray n b ws.toArray k h1 h2 hs) ⟨ho, ho', ?_⟩
    have P := Ah.push S (AV (vs ++ ws) 0) s.toks
    refine ⟨_, σ, q, ?_, .tup (vs := vs ++ ws) (n := 0) S.freshB ?_ ((r.append r').mono fun _ _ _ e => AA _ e)⟩
    ·simpa using P
    ·have := AR (h := s.heap) (o := AV (vs ++ ws) 0) rfl
     simpa using this
theorem Ac.append (h : σ l = some (.list xs)) (hz : xs.length <= 1000000) (q : Q .none (σ.set l (.list (xs ++ [d])))) : Ac c A (.builtin "list.append") [.ref l, d] σ Q := by iterate 1
 exact fun s vs S r => by
  cases r with
  | cons ra r =>
  cases r with
  | @cons v _ _ _ rv r =>
  cases r; cases ra
  obtain ⟨vs, n, ho, r, hl⟩ := BF S h
  have e1 := r.length
  refine Le F.slot_list_append hl.typeIs F.entry_list_append (F.args_list_append_2 _ _) (PySem.list_append l vs.toArray n v (by rw [BA]; simp; omega)) ⟨ho, ?_⟩
  exact ⟨.none, _, q, Ah.seq (vs' := vs ++ [v]) S h ho _ (by simp) (r.append (.cons rv .nil)) s.toks, .none⟩
theorem Ac.extend {l k : Addr} {xs ys : List D} {Q : D -> Aa -> Prop} (h : σ l = some (.list xs)) (h' : σ k = some (.list ys)) (hz : xs.length + ys.length <= 1000000) (q : Q .none (σ.set l (.list (xs ++ ys)))) :
   Ac c A (.builtin "list.extend") [.ref l, .ref k] σ Q := by iterate 1
 exact fun s vs S r => by
  cases r with
  | cons ra r =>
  cases r with
  | cons rv r =>
  cases r; cases ra; cases rv
  obtain ⟨vs, n, ho, r, hl⟩ := BF S h
  obtain ⟨ws, n', ho', r', hl'⟩ := BF S h'
  have e1 := r.length
  have e2 := r'.length
  refine Le F.slot_list_extend hl.typeIs F.entry_list_extend (F.args_list_extend_2 _ _) (AutoSeq1.list_extend_list_list_0 l vs.toArray n k ws.toArray n' ?_ (by rw [BA]; simp; omega) (by rw [BA]; simp; omega)) ⟨ho, ho', ?_⟩
  ·unfold Builtin.List.listTooLong
   rw [BA] at *
   simp
   intro _
   omega
  ·exact ⟨.none, _, q, Ah.seq (vs' := vs ++ ws) S h ho _ (by simp) (r.append r') s.toks, .none⟩
theorem Ac.pop (h : σ l = some (.list (xs ++ [d]))) (hz : xs.length <= 1000000) (q : Q d (σ.set l (.list xs))) : Ac c A (.builtin "list.pop") [.ref l] σ Q := by iterate 1
 exact fun s vs S r => by
  cases r with
  | cons ra r =>
  cases r; cases ra
  obtain ⟨vs, n, ho, r, hl⟩ := BF S h
  have e1 := r.length
  simp at e1
  obtain ⟨v, hv, hr⟩ := r.get (i := xs.length) (d := d) (by simp)
  have hlast : vs = vs.take xs.length ++ [v] := by
   have h1 := R1 xs.length vs
   have h2 : vs.drop xs.length = [v] := by
    have h3 := (AT.mp hv).1
    rw [NT h3, R2 (by omega)]
    rw [(AT.mp hv).2]
   rw [h2] at h1; exact h1.symm
  refine Le F.slot_list_pop hl.typeIs F.entry_list_pop (F.args_list_pop_1 _) (PySem.MeetsSeq.list_pop_last l vs.toArray n v ?_ (by rw [BA]; simp; omega)) ⟨ho, ?_⟩
  ·simp only [Eh, e1]; simpa using hv
  ·have P := Ah.seq (vs' := vs.take xs.length) (ds' := xs) S h ho (fun xs => xs.eraseIdxIfInBounds (vs.toArray.size - 1)) ?_ (by have := r.take xs.length; simpa using this) s.toks
   ·exact ⟨d, _, q, P, P.rel S hr⟩
   ·apply Array.ext'
    have hk : vs.toArray.size - 1 = xs.length := by simp [e1]
    rw [hk]
    simp only [Array.eraseIdxIfInBounds]
    rw [dif_pos (by simp [e1])]
    simp
    rw [List.eraseIdx_eq_take_drop_succ]
    rw [R2 (by omega)]
    simp
theorem R3 {i : Int} (S : Sim c σ s) (h : σ l = some (.list ds)) (h0 : 0 <= i) (hi : i < ds.length) (hz : ds.length <= 1000000) (hr : Aj c.bad s.heap v d) :
  wpAny c.M A (PySem.setItem (.ref l) (.int i t) v) (fun _ s' => Ah c σ s (σ.set l (.list (ds.set i.toNat d))) s') (fun _ _ => False) s := by iterate 1
 obtain ⟨vs, n, ho, r, hl⟩ := BF S h
 have e1 := r.length
 unfold PySem.setItem
 try with_reducible refine Bh ?_
 refine Ab (wpAny_sequenceKey hl.typeIs (by decide) ?_)
 refine Ab (Ek (name := Str.ofString "__setitem__") hl.typeIs PySem.slot_list_setitem
  (Cz PySem.slot_list_setitem hl.typeIs PySem.entry_list_setitem ?_ (PySem.args_list_setitem _ _ _)))
 show wpAny _ _ (Builtin.List.listSubscript? (.int i t) >>= _) _ _ s
 refine Ab (wpAny_listSubscript_int (fitsIndex_of h0 (by omega)) ?_)
 obtain ⟨j, rfl⟩ := Int.eq_ofNat_of_zero_le h0
 have hj : j < vs.toArray.size := by simp; omega
 have hx' : vs.toArray[j]? = some vs.toArray[j] := CA hj
 show wpAny _ _ ((seqItemAt l j >>= fun r => pure (r.map (j, ·))) >>= _) _ _ s
 refine Ab (Ab (wpAny_seqItemAt ho rfl (Ad ?_)))
 rw [hx']
 show wpAny _ _ (setSeqItemAt l j v >>= _) _ _ s
 have P := Ah.seq (vs' := vs.set j v) (ds' := ds.set j d) S h ho (·.setIfInBounds j v) (by simp) (r.set j hr) s.toks
 refine Ab (wpAny_setSeqItemAt ho rfl ?_)
 first
  | exact Ab (Ad (Ad ⟨.none, rfl, Ad P⟩))
  | exact Ad ⟨.none, rfl, Ad P⟩
end
section
variable {c : Cx} {A : Around} {env : Env} {m : Au} {σ : Aa}
theorem Ac.Cf (h : σ l = some (.list xs)) (hz : xs.length <= 1000000) (q : Q (.int xs.length) σ) : Ac c A (.builtin "len") [.ref l] σ Q := by iterate 1
 exact fun s vs S r => by
  cases r with
  | cons ra r =>
  cases r; cases ra
  obtain ⟨vs, n, ho, r, hl⟩ := BF S h
  have e1 := r.length
  refine call_len_list hl (by simp; omega) ⟨_, σ, q, Ah.toks S _, ?_⟩
  simp only [Eh, e1]
  exact .int _ _
theorem Ac.IB (hz : xs.length <= 1000000) (q : Q (.int xs.length) σ) : Ac c A (.builtin "len") [.tup xs] σ Q := by iterate 1
 exact fun s vs S r => by
  cases r with
  | cons ra r =>
  cases r
  cases ra with
  | @tup a vs n _ nb ho r =>
  have e1 := r.length
  refine PySem.P.len_tuple (n := n) ho (by simp; omega) ⟨_, σ, q, Ah.toks S _, ?_⟩
  simp only [Eh, e1]
  exact .int _ _
noncomputable def SI (c : Cx) (A : Around) (o i d : D) (σ : Aa) (Q : Aa -> Prop) : Prop := ∀ s vo vi v, Sim c σ s -> Aj c.bad s.heap vo o -> Aj c.bad s.heap vi i -> Aj c.bad s.heap v d ->
 wpAny c.M A (PySem.setItem vo vi v) (fun _ s' => ∃ σ', Q σ' /\ Ah c σ s σ' s') (fun _ _ => False) s
theorem SI.list {i : Int} (h : σ l = some (.list ds)) (h0 : 0 <= i) (hi : i < ds.length) (hz : ds.length <= 1000000) (q : Q (σ.set l (.list (ds.set i.toNat d)))) : SI c A (.ref l) (.int i) d σ Q := by iterate 1
 exact fun s vo vi v S ro ri r => by
  cases ro; cases ri
  exact Ai (R3 S h h0 hi hz r) (fun _ s' p => ⟨_, q, p⟩) fun _ _ e => e
theorem EX.setItem
   (h : EV c A env m value σ fun d σ1 => EV c A env m o σ1 fun od σ2 => EV c A env m i σ2 fun id σ3 => SI c A od id d σ3 fun σ4 => Q .next m σ4)
   (hs : swapsWith value (some (.Subscript o i pos')) pos.line env = pure false := by rfl) : EX c A env m (.Assign [.Subscript o i pos'] value pos) σ Q := by iterate 1
 exact fun s X => by
  refine wpAny_Assign_Subscript (Ai (h s X) (fun v s1 ⟨d, σ1, q, p, r⟩ => ?_) fun _ _ e => e) hs
  refine Ai (q s1 (X.post p)) (fun ov s2 ⟨od, σ2, q2, p2, r2⟩ => ?_) fun _ _ e => e
  refine Ai (q2 s2 ((X.post p).post p2)) (fun iv s3 ⟨id, σ3, q3, p3, r3⟩ => ?_) fun _ _ e => e
  refine Ai (q3 s3 ov iv v p3.1 (p3.rel p2.1 r2) r3 (p3.rel p2.1 (p2.rel p.1 r))) (fun _ s4 ⟨σ4, q4, p4⟩ => ?_) fun _ _ e => e
  have pp := ((p.trans p2).trans p3).trans p4
  exact ⟨.next, m, σ4, q4, pp.2.toX, X.post pp, trivial⟩
theorem NU {St : Nat -> Heap -> Prop} {Mid : Nat -> Value -> Heap -> Prop} (w : Wk c A target I fp ds Hold St Mid) (hm : ∀ i v h, Mid i v h -> St i h) (hH : Hold σ)
  (hid : ∀ b ∈ fp, σ b = none /\ c.h₀.get? b = none) : ∀ (n i : Nat) (s : Shared), Sim c σ s -> St i s.heap -> i + n = ds.length ->
   wpAny c.M A (draw (.ref I) n) (fun vs s' => ∃ h' t, s' = { s with heap := h', toks := t } /\ Ak c.bad h' vs (ds.drop i) /\ St ds.length h' /\ Chg c fp s.heap h') (fun _ _ => False) s
 | 0, i, s, S, st, hi => by iterate 1
  have : i = ds.length := hi
  subst this
  rw [List.drop_length]
  exact Ad ⟨_, _, rfl, .nil, st, .refl ..⟩
 | n + 1, i, s, S, st, hi => by iterate 1
  have hlt : i < ds.length := by omega
  show wpAny _ _ (pyNext (.ref I) >>= _) _ _ s
  refine Ab (Ai (w.next i s σ ds[i] S hH st (Bw hlt)) (fun r s1 ⟨v, h1, t, hr, e, hv, hmid, C⟩ => ?_) fun _ _ e => e)
  subst hr; subst e
  refine Ab (Bh (Ai (NU w hm hH hid n (i + 1) _ (S.chg hid C t) (hm _ _ _ hmid) (by omega)) (fun vs s2 ⟨h2, t2, e, hr, hst, C2⟩ => ?_) fun _ _ e => e))
  subst e
  refine Ad ⟨h2, t2, rfl, ?_, hst, C.trans C2⟩
  rw [NT hlt]
  exact .cons (hv.mono' C2.tk) hr
theorem NV {d : D} {ds : List D} {Hold : Aa -> Prop} {target : Expr} {T id : String} (slot : Slot T "__iter__" id) (hi : ITR c A target d σ ds Hold) (hH : Hold σ) {n : Nat} (hn : ds.length = n) {s : Shared} {v : Value}
  (X : Ax c env m σ s) (hr : Aj c.bad s.heap v d) (hT : s.TypeIs v T) : wpAny c.M A (unpackItems v n none) (fun vs s' => Ak c.bad s'.heap vs ds /\ Ah c σ s σ s') (fun _ _ => False) s := by iterate 1
 unfold unpackItems
 refine Ab ?_
 unfold notIterableAtAll
 refine Ab (Hp hT slot.lookup ?_)
 refine Ad ?_
 simp only [Be, if_false]
 refine Ab (Bh (Ai (hi s v X.sim hr) (fun it s1 ⟨I, fp, St, Mid, e, w, st, hf, p, hm⟩ => ?_) fun _ _ e => e.elim))
 subst e
 have hid : ∀ b ∈ fp, σ b = none /\ c.h₀.get? b = none := fun b hb => X.sim.none_of (hf b hb)
 refine Ab (Bh (Ai (NU w hm hH hid n 0 s1 p.1 st (by omega)) (fun vs s2 ⟨h2, t2, e, hr, hst, C⟩ => ?_) fun _ _ e => e.elim))
 subst e
 rw [List.drop_zero] at hr
 have hlen := hr.length
 rw [if_neg (by omega)]
 have S2 : Sim c σ { s1 with heap := h2, toks := t2 } := p.1.chg hid C t2
 refine Ab (Bh (Ai (w.done _ σ S2 hH hst) (fun r s3 ⟨e1, h3, t3, e, C3⟩ => ?_) fun _ _ e => e.elim))
 subst e; subst e1
 simp only [Option.isSome_none, Be, if_false]
 have CC := C.trans C3
 refine Ad ⟨hr.mono' C3.tk, p.1.chg hid CC t3, fun b o hb e => CC.keep b o (fun q => ?_) (p.2.1 b o hb e), p.2.2⟩
 rw [hf b q] at e; cases e
theorem R4 {ds : List D} {s : Shared} {v : Value} (hr : Aj c.bad s.heap v (.tup ds)) : s.TypeIs v "tuple" := by iterate 1
 cases hr with
 | tup _ ho _ => exact ⟨_, ho, rfl⟩
theorem NW (hh : A.handled = none) (X : Ax c env m σ s) (hr : Aj c.bad s.heap v (.tup ds)) (hn : ds.length = n) :
  wpAny c.M A (unpackItems v n none) (fun vs s' => Ak c.bad s'.heap vs ds /\ Ah c σ s σ s') (fun _ _ => False) s :=
 NV (Hold := fun _ => True) (target := .Constant .none 0 ⟨0, 0, 0, 0⟩) PySem.F.slot_tuple_iter (ITR.tup hh) trivial hn X hr (R4 hr)
theorem R5 (hh : A.handled = none) (X : Ax c env m σ s) (hl : σ l = some (.list ds)) (hr : Aj c.bad s.heap v (.ref l)) (hn : ds.length = n) :
   wpAny c.M A (unpackItems v n none) (fun vs s' => Ak c.bad s'.heap vs ds /\ Ah c σ s σ s') (fun _ _ => False) s := by iterate 1
 exact
  NV (Hold := fun σ => σ l = some (.list ds)) (target := .Constant .none 0 ⟨0, 0, 0, 0⟩) PySem.slot_list_iter (ITR.list hh hl) hl hn X hr (KS hl s v X.sim hr).1
theorem Lf {x y : Str} {dx dy : D} {s : Shared} {vs : List Value} {Q : Au -> Aa -> Prop} (X : Ax c env m σ s) (hr : Ak c.bad s.heap vs [dx, dy]) (hx : Bi env x = true) (hy : Bi env y = true) (q : Q ((y, dy) :: (x, dx) :: m) σ)
  {t1 t2 : Value -> Sem Unit} (h1 : ∀ v s {Q : Unit -> Shared -> Prop}, wpAny c.M A (storeName env x v) Q (fun _ _ => False) s -> wpAny c.M A (t1 v) Q (fun _ _ => False) s) (h2 : ∀ v s {Q : Unit -> Shared -> Prop}, wpAny c.M A (storeName env y v) Q (fun _ _ => False) s -> wpAny c.M A (t2 v) Q (fun _ _ => False) s) :
  WA c A env (assignInOrder [t1, t2] vs) σ Q s := by iterate 1
 cases hr with
 | @cons v d vs ds r1 hr =>
 cases hr with
 | @cons v' d' vs ds r2 hr =>
 cases hr
 refine assignInOrder_cons (h1 _ _ (Ai (Gv X hx r1 (Q := fun m' σ' => m' = (x, dx) :: m /\ σ' = σ) ⟨rfl, rfl⟩) (fun _ s1 ⟨m1, σ1, ⟨e1, e2⟩, F1, X1⟩ => ?_) fun _ _ e => e))
 subst e1 e2
 have r2' : Aj c.bad s1.heap v' dy := r2.mono (A9.tups X.sim (fun b hb vs n => X.own_tup hb vs n) F1)
 refine assignInOrder_cons (h2 _ _ (Ai (Gv X1 hy r2' q) (fun _ s2 ⟨m2, σ2, q2, F2, X2⟩ => ?_) fun _ _ e => e))
 exact assignInOrder_nil ⟨m2, σ2, q2, F1.trans F2, X2⟩
theorem NX : assignEach [.Name x px, .Name y py] env = [(false, PySem.assign (.Name x px) env), (false, PySem.assign (.Name y py) env)] := rfl
theorem NY : unpack v [(false, f), (false, g)] = (do assignInOrder [f, g] (<- PySem.holding [v] (unpackItems v 2 none))) := rfl
theorem EA.IC (hh : A.handled = none) (hx : Bi env x = true) (hy : Bi env y = true) (q : Q ((y, dy) :: (x, dx) :: m) σ) :
   EA c A env m (.Tuple [.Name x px, .Name y py] k pos) (.tup [dx, dy]) σ Q := by iterate 1
 exact fun s v X r => by
  unfold WA
  rw [assign_Tuple]
  refine Ab (EB ?_)
  rw [NX, NY]
  refine Ab (Bh (Ai (NW (ds := [dx, dy]) hh X r (n := 2) rfl) (fun vs s1 ⟨r', p⟩ => ?_) fun _ _ e => e))
  refine Ai (Lf (t1 := PySem.assign (.Name x px) env) (t2 := PySem.assign (.Name y py) env) (X.post p) r' hx hy q (fun v s Q h => Gw h) (fun v s Q h => Gw h)) (fun _ s2 ⟨m2, σ2, q2, F2, X2⟩ => ⟨m2, σ2, q2, p.2.toX.trans F2, X2⟩) fun _ _ e => e
theorem EX.R6 (hh : A.handled = none) (hx : Bi env x = true) (hy : Bi env y = true)
   (h : EV c A env m value σ fun d σ' => ∃ dx dy, d = .tup [dx, dy] /\ Q .next ((y, dy) :: (x, dx) :: m) σ')
   (hs : swapsWithSole [.Tuple [.Name x px, .Name y py] k tpos] value pos.line env = pure false := by rfl)
   (hw : swappedStores [.Tuple [.Name x px, .Name y py] k tpos] value env = pure none := by rfl) : EX c A env m (.Assign [.Tuple [.Name x px, .Name y py] k tpos] value pos) σ Q := by iterate 1
 exact fun s X => by
  refine Assign_Tuple (Ai (h s X) (fun v s1 ⟨d, σ1, ⟨dx, dy, e, q⟩, p, r⟩ => ?_) fun _ _ e => e) hs hw
  subst e
  exact Ai (EA.IC hh hx hy (Q := fun m' σ' => Q .next m' σ') q s1 v (X.post p) r) (fun _ s2 ⟨m2, σ2, q2, F2, X2⟩ => ⟨.next, m2, σ2, q2, p.2.toX.trans F2, X2, trivial⟩) fun _ _ e => e
theorem EX.R7 (hh : A.handled = none) (hx : Bi env x = true) (hy : Bi env y = true)
   (h : EV c A env m value σ fun d σ' => ∃ dx dy, d = .tup [dx, dy] /\ Q .next ((x, dx) :: (y, dy) :: m) σ')
   (hs : swapsWithSole [.Tuple [.Name x px, .Name y py] k tpos] value pos.line env = pure false := by rfl)
   (hw : swappedStores [.Tuple [.Name x px, .Name y py] k tpos] value env = pure (some [x, y]) := by rfl) : EX c A env m (.Assign [.Tuple [.Name x px, .Name y py] k tpos] value pos) σ Q := by iterate 1
 exact fun s X => by
  refine Assign_Tuple_swapped (Ai (h s X) (fun v s1 ⟨d, σ1, ⟨dx, dy, e, q⟩, p, r⟩ => ?_) fun _ _ e => e) hs hw
  subst e
  refine Ai (NW (ds := [dx, dy]) hh (X.post p) r (n := 2) rfl) (fun vs s2 ⟨r', p2⟩ => ?_) fun _ _ e => e
  have rr : Ak c.bad s2.heap vs.reverse [dy, dx] := by
   cases r' with
   | cons a r' =>
   cases r' with
   | cons b r' =>
   cases r'
   exact .cons b (.cons a .nil)
  exact Ai (Lf (t1 := fun v => bindName env y v) (t2 := fun v => bindName env x v) ((X.post p).post p2) rr hy hx (Q := fun m' σ' => Q .next m' σ') q (fun v s Q h => wpAny_bindName h) (fun v s Q h => wpAny_bindName h)) (fun _ s3 ⟨m2, σ2, q2, F2, X2⟩ => ⟨.next, m2, σ2, q2, (p.trans p2).2.toX.trans F2, X2, trivial⟩) fun _ _ e => e
theorem EX.R8 (hh : A.handled = none) (hx : Bi env x = true) (hy : Bi env y = true)
   (h : EV c A env m value σ fun d σ' => ∃ l dx dy, d = .ref l /\ σ' l = some (.list [dx, dy]) /\ Q .next ((y, dy) :: (x, dx) :: m) σ')
   (hs : swapsWithSole [.Tuple [.Name x px, .Name y py] k tpos] value pos.line env = pure false := by rfl)
   (hw : swappedStores [.Tuple [.Name x px, .Name y py] k tpos] value env = pure none := by rfl) : EX c A env m (.Assign [.Tuple [.Name x px, .Name y py] k tpos] value pos) σ Q := by iterate 1
 exact fun s X => by
  refine Assign_Tuple (Ai (h s X) (fun v s1 ⟨d, σ1, ⟨l, dx, dy, e, hl, q⟩, p, r⟩ => ?_) fun _ _ e => e) hs hw
  subst e
  have hT : s1.TypeIs v "list" := (KS hl s1 v p.1 r).1
  rw [assign_Tuple]
  refine Ab (EB ?_)
  rw [NX, NY]
  refine Ab (Bh (Ai (R5 (ds := [dx, dy]) hh (X.post p) hl r (n := 2) rfl) (fun vs s2 ⟨r', p2⟩ => ?_) fun _ _ e => e))
  exact Ai (Lf (t1 := PySem.assign (.Name x px) env) (t2 := PySem.assign (.Name y py) env) ((X.post p).post p2) r' hx hy (Q := fun m' σ' => Q .next m' σ') q (fun v s Q h => Gw h) (fun v s Q h => Gw h)) (fun _ s3 ⟨m2, σ2, q2, F2, X2⟩ => ⟨.next, m2, σ2, q2, (p.trans p2).2.toX.trans F2, X2, trivial⟩) fun _ _ e => e
end
section
variable {K : Type} [DecidableEq K]
noncomputable def AN (es : List (K × D)) (k : K) : Option D := (es.find? fun kv => kv.1 = k).map (·.2)
noncomputable def Bb (es : List (K × D)) (k : K) (d : D) : List (K × D) := if es.any (fun kv => kv.1 = k) then es.map (fun kv => if kv.1 = k then (kv.1, d) else kv) else es ++ [(k, d)]
noncomputable def GB (es : List (K × D)) (k : K) : List (K × D) := es.filter fun kv => decide (kv.1 ≠ k)
theorem AF.length : ∀ {kvs : List (K × Value)} {es : List (K × D)}, AF B h kvs es -> kvs.length = es.length
 | [], [], _ => rfl
 | (_, _) :: _, (_, _) :: _, ⟨_, _, r⟩ => by simp [AF.length r]
 | [], _ :: _, f => f.elim
 | _ :: _, [], f => f.elim
theorem AF.keys : ∀ {kvs : List (K × Value)} {es : List (K × D)}, AF B h kvs es -> kvs.map (·.1) = es.map (·.1)
 | [], [], _ => rfl
 | (_, _) :: _, (_, _) :: _, ⟨e, _, r⟩ => by simp [AF.keys r, e]
 | [], _ :: _, f => f.elim
 | _ :: _, [], f => f.elim
theorem AF.val {B : Addr -> Prop} {h : Heap} (k : K) : ∀ {kvs : List (K × Value)} {es : List (K × D)}, AF B h kvs es -> match AN es k with
  | some d => ∃ v, valueAt kvs k = some v /\ Aj B h v d
  | none => valueAt kvs k = none
 | [], [], _ => rfl
 | (a, v) :: r, (b, d) :: r', ⟨e, hd, hr⟩ => by iterate 1
  have ih := AF.val k hr
  subst e
  unfold AN valueAt at ih ⊢
  rw [Hj, Hj]
  by_cases q : a = k
  ·simp only [q, decide_true]
   exact ⟨v, rfl, hd⟩
  ·simp only [q, decide_false]
   exact ih
 | [], _ :: _, f => f.elim
 | _ :: _, [], f => f.elim
theorem AF.append (hd : Aj B h v d) : ∀ {kvs : List (K × Value)} {es : List (K × D)}, AF B h kvs es -> AF B h (kvs ++ [(k, v)]) (es ++ [(k, d)])
 | [], [], _ => ⟨rfl, hd, trivial⟩
 | (_, _) :: _, (_, _) :: _, ⟨e, h1, r⟩ => ⟨e, h1, AF.append hd r⟩
 | [], _ :: _, f => f.elim
 | _ :: _, [], f => f.elim
theorem AF.mapSet (hd : Aj B h v d) : ∀ {kvs : List (K × Value)} {es : List (K × D)}, AF B h kvs es ->
  AF B h (kvs.map fun kv => if kv.1 = k then (kv.1, v) else kv) (es.map fun kv => if kv.1 = k then (kv.1, d) else kv)
 | [], [], _ => trivial
 | (a, u) :: _, (b, e) :: _, ⟨q, h1, r⟩ => by iterate 1
  subst q
  simp only [AM]
  by_cases q : a = k
  ·simp only [q, if_true]; exact ⟨rfl, hd, AF.mapSet hd r⟩
  ·simp only [q, if_false]; exact ⟨rfl, h1, AF.mapSet hd r⟩
 | [], _ :: _, f => f.elim
 | _ :: _, [], f => f.elim
theorem AF.any : ∀ {kvs : List (K × Value)} {es : List (K × D)}, AF B h kvs es -> kvs.any (fun kv => kv.1 = k) = es.any (fun kv => kv.1 = k)
 | [], [], _ => rfl
 | (a, u) :: _, (b, e) :: _, ⟨q, h1, r⟩ => by iterate 1 subst q; simp only [KH, AF.any r]
 | [], _ :: _, f => f.elim
 | _ :: _, [], f => f.elim
theorem AF.stored {B : Addr -> Prop} {h : Heap} {k : K} {v : Value} {d : D} (hd : Aj B h v d) {kvs : List (K × Value)} {es : List (K × D)} (r : AF B h kvs es) : AF B h (PySem.stored kvs k v) (Bb es k d) := by iterate 1
 unfold PySem.stored Bb
 rw [r.any]
 split
 ·exact r.mapSet hd
 ·exact r.append hd
theorem AF.without (k : K) : ∀ {kvs : List (K × Value)} {es : List (K × D)}, AF B h kvs es -> AF B h (PySem.without kvs k) (GB es k)
 | [], [], _ => trivial
 | (a, u) :: _, (b, e) :: _, ⟨q, h1, r⟩ => by iterate 1
  subst q
  unfold PySem.without GB
  simp only [GA]
  by_cases q : a = k
  ·simp only [q, ne_eq, not_true_eq_false, decide_false, Be, if_false]; exact AF.without k r
  ·simp only [q, ne_eq, not_false_eq_true, decide_true, if_true]; exact ⟨rfl, h1, AF.without k r⟩
 | [], _ :: _, f => f.elim
 | _ :: _, [], f => f.elim
end
structure DK (K : Type) [DecidableEq K] where
 of : List (K × D) -> MO
 knd : ∀ c : Cx, PySem.KeyKind c.prog c.w K
 key : K -> D
 iff : ∀ c h a es, BD c h a (of es) ↔ ∃ kvs, h.DictOf (knd c) a kvs /\ AF c.bad h kvs es
 is : ∀ (c : Cx) B h v k, Aj B h v (key k) -> (knd c).is k v = true
 part : ∀ B h v k, Aj B h v (key k) -> (keyPart v).isSome = true
noncomputable def dkS : DK Str where
 of := .dictS
 knd := fun c => PySem.strKind c.prog c.w
 key := .str
 iff := fun c h a es => Iff.rfl
 is := fun c B h v k r => by cases r; exact strKind_is ..
 part := fun B h v k r => by cases r; rfl
noncomputable def dkI : DK Int where
 of := .dictI
 knd := fun c => intKind c.prog c.w
 key := .int
 iff := fun c h a es => Iff.rfl
 is := fun c B h v k r => by cases r; exact Lg ..
 part := fun B h v k r => by cases r; rfl
section
variable {c : Cx} {A : Around} {env : Env} {m : Au} {σ : Aa} {K : Type} [DecidableEq K]
theorem far (S : Sim c σ s) (h : σ a = some o) : (a == sysModules) = false := by iterate 1
 exact beq_eq_false_iff_ne.mpr (S.1 a o h).2.2
theorem Lh (dk : DK K) (h : σ a = some (dk.of es)) : ∀ s v, Sim c σ s -> Aj c.bad s.heap v (.ref a) -> s.TypeIs v "dict" /\ ∀ b, v = .ref b -> ∃ o, s.heap.get? b = some o /\ o.dict = none := by iterate 1
 exact fun s v S r => by
  cases r
  obtain ⟨kvs, x, _⟩ := (dk.iff ..).mp (S.1 _ _ h).1
  obtain ⟨o, ho, e⟩ := Heap.DictOf.obj x
  exact Io ho e
theorem Ah.dict (dk : DK K) (S : Sim c σ s) (h : σ a = some (dk.of es)) (hs : Heap.SameBut a s.heap h') (hd : h'.DictOf (dk.knd c) a kvs') (r : AF c.bad s.heap kvs' es') (t : Nat) :
  Ah c σ s (σ.set a (dk.of es')) { s with heap := h', toks := t } := by iterate 1
 exact Ah.Ii S t h hs fun k => (dk.iff ..).mpr ⟨kvs', hd, r.mono k⟩
theorem IT.dict (dk : DK K) (h : σ a = some (dk.of es)) (hd : AN es k = some d) (q : Q d σ) : IT c A (.ref a) (dk.key k) σ Q := by iterate 1
 exact fun s vo vi S ro ri => by
  obtain ⟨hT, _⟩ := Lh dk h s vo S ro
  cases ro
  obtain ⟨kvs, x, r⟩ := (dk.iff ..).mp (S.1 _ _ h).1
  have := r.val k
  rw [hd] at this
  obtain ⟨v, hv, hr⟩ := this
  exact ⟨"dict", _, slot_dict_getitem.lookup, hT, wpAny_getItem_of (dk.is c _ _ _ _ ri) x.mapOf hv ⟨d, σ, q, Ah.toks S _, hr⟩⟩
theorem SI.dict (dk : DK K) (h : σ a = some (dk.of es)) (hz : es.length <= 1000000) (q : Q (σ.set a (dk.of (Bb es k d)))) : SI c A (.ref a) (dk.key k) d σ Q := by iterate 1
 exact fun s vo vi v S ro ri rv => by
  cases ro
  obtain ⟨kvs, x, r⟩ := (dk.iff ..).mp (S.1 _ _ h).1
  have hl := r.length
  exact wpAny_setItem_pairs (dk.is c _ _ _ _ ri) x (fun h' hd' hs' => ⟨_, q, Ah.dict dk S h hs' hd' (r.stored rv) _⟩) (by rw [BA]; omega)
theorem CMP.inD (dk : DK K) {Q : Bool -> Aa -> Prop} (h : σ a = some (dk.of es)) (q : Q (AN es k).isSome σ) : CMP c A .In (dk.key k) (.ref a) σ Q := by iterate 1
 exact fun s va vb S ra rb => by
  cases rb
  obtain ⟨kvs, x, r⟩ := (dk.iff ..).mp (S.1 _ _ h).1
  have := r.val k
  refine wpAny_in_of (dk.is c _ _ _ _ ra) (far S h) x.mapOf ⟨_, σ, rfl, ?_, Ah.toks S _⟩
  cases hv : AN es k with
  | none => rw [hv] at this q; rw [this]; exact q
  | some d => rw [hv] at this q; obtain ⟨v, hv, _⟩ := this; rw [hv]; exact q
theorem Ac.getD (dk : DK K) (h : σ a = some (dk.of es)) (q : Q ((AN es k).getD d) σ) : Ac c A (.builtin "dict.get") [.ref a, dk.key k, d] σ Q := by iterate 1
 exact fun s vs S r => by
  cases r with
  | cons ra r =>
  cases r with
  | cons rk r =>
  cases r with
  | @cons w _ _ _ rd r =>
  cases r
  obtain ⟨hT, _⟩ := Lh dk h s _ S ra
  cases ra
  obtain ⟨kvs, x, r⟩ := (dk.iff ..).mp (S.1 _ _ h).1
  have := r.val k
  refine Li F.slot_dict_get hT F.entry_dict_get (F.args_dict_get_3 _ _ _) (meets_dict_get_default (dk.knd c) _ (dk.is c _ _ _ _ rk) (far S h) w) ⟨_, x.mapOf, ?_⟩
  cases hv : AN es k with
  | none => rw [hv] at this q; rw [this]; exact ⟨_, σ, q, Ah.toks S _, rd⟩
  | some e => rw [hv] at this q; obtain ⟨v, hv, hr⟩ := this; rw [hv]; exact ⟨_, σ, q, Ah.toks S _, hr⟩
theorem Ac.popD (dk : DK K) (h : σ a = some (dk.of es)) (hz : es.length <= 1000000) (hd : AN es k = some d) (q : Q d (σ.set a (dk.of (GB es k)))) :
   Ac c A (.builtin "dict.pop") [.ref a, dk.key k] σ Q := by iterate 1
 exact fun s vs S r => by
  cases r with
  | cons ra r =>
  cases r with
  | cons rk r =>
  cases r
  obtain ⟨hT, _⟩ := Lh dk h s _ S ra
  cases ra
  obtain ⟨kvs, x, r⟩ := (dk.iff ..).mp (S.1 _ _ h).1
  have hl := r.length
  have := r.val k
  rw [hd] at this
  obtain ⟨v, hv, hr⟩ := this
  refine Li F.slot_dict_pop hT F.entry_dict_pop (F.args_dict_pop_2 _ _) (meets_dict_pop_there (dk.knd c) _ (dk.is c _ _ _ _ rk) [] (.inl rfl) (dk.part _ _ _ _ rk)) ⟨kvs, v, x, by rw [BA]; omega, hv, fun h' hd' hs' => ?_⟩
  have P := Ah.dict dk S h hs' hd' (r.without k) (s.toks + 1)
  exact ⟨d, _, q, P, P.rel S hr⟩
end
mutual
noncomputable def CB : D -> PyData
 | .none => .none
 | .bool b => .bool b
 | .int i => .int i
 | .str s => .str s
 | .tup ds => .tuple (BS ds)
 | .ref _ => .none
noncomputable def BS : List D -> List PyData
 | [] => []
 | d :: ds => CB d :: BS ds
end
mutual
noncomputable def GC : D -> Nat
 | .tup ds => ID ds + 1
 | _ => 1
noncomputable def ID : List D -> Nat
 | [] => 0
 | d :: ds => GC d + ID ds
end
theorem A5 (h : Al (n + 1) (.tup (d :: ds)) = true) : Al n d = true /\ Al (n + 1) (.tup ds) = true := by
 simpa [Al] using h
mutual
theorem GD : ∀ {n : Nat} {d : D} {v : Value}, Al n d = true -> Aj B h v d -> Reads h v (CB d) []
 | n, .none, _, hk, r => by cases n <;> cases hk
 | n, .bool _, _, hk, r => by cases n <;> cases hk
 | n, .ref _, _, hk, r => by cases n <;> cases hk
 | n, .int i, _, hk, r => by cases r; exact .int _ _
 | n, .str i, _, hk, r => by cases r; exact .str _ _
 | 0, .tup ds, _, hk, r => by cases hk
 | n + 1, .tup ds, _, hk, r => by iterate 1
  cases r with
  | tup nb ho rs => exact .tuple ho rfl rfl (Lj hk rs)
theorem Lj : ∀ {n : Nat} {ds : List D} {vs : List Value}, Al (n + 1) (.tup ds) = true -> Ak B h vs ds -> ReadsAll h vs (BS ds) []
 | n, [], _, hk, r => by cases r; exact .nil
 | n, d :: ds, _, hk, r => by iterate 1
  cases r with
  | cons a b => exact ReadsAll.cons (as := []) (bs := []) (GD (A5 hk).1 a) (Lj (A5 hk).2 b)
end
mutual
theorem GE : ∀ {n : Nat} {d : D}, Al n d = true -> (CB d).canLay0 = true
 | n, .none, hk => by cases n <;> cases hk
 | n, .bool _, hk => by cases n <;> cases hk
 | n, .ref _, hk => by cases n <;> cases hk
 | n, .int i, hk => rfl
 | 0, .str i, hk => hk
 | n + 1, .str i, hk => hk
 | 0, .tup ds, hk => by cases hk
 | n + 1, .tup ds, hk => Lk hk
theorem Lk : ∀ {n : Nat} {ds : List D}, Al (n + 1) (.tup ds) = true -> PyData.canLayAll0 (BS ds) = true
 | n, [], hk => rfl
 | n, d :: ds, hk => by iterate 1
  show ((CB d).canLay0 && PyData.canLayAll0 (BS ds)) = true
  rw [GE (A5 hk).1, Lk (A5 hk).2]; rfl
end
mutual
theorem IE : ∀ {n : Nat} {d : D}, Al n d = true -> (CB d).depth <= n + 1
 | n, .none, hk => by cases n <;> cases hk
 | n, .bool _, hk => by cases n <;> cases hk
 | n, .ref _, hk => by cases n <;> cases hk
 | n, .int i, hk => by simp [CB, Ll]
 | n, .str i, hk => by simp [CB, Ll]
 | 0, .tup ds, hk => by cases hk
 | n + 1, .tup ds, hk => by iterate 1
  have := Lm hk
  simp only [CB, Ll]; omega
theorem Lm : ∀ {n : Nat} {ds : List D}, Al (n + 1) (.tup ds) = true -> NZ (BS ds) <= n + 1
 | n, [], hk => by simp [BS, NZ]
 | n, d :: ds, hk => by iterate 1
  have h1 := IE (A5 hk).1
  have h2 := Lm (A5 hk).2
  simp only [BS, NZ]; omega
end
open Classical in
mutual
theorem IF : ∀ {n k : Nat} {d e : D}, Al n d = true -> Al k e = true -> PyData.eqv (CB d) (CB e) = decide (d = e)
 | n, k, .none, _, hk, _ => by cases n <;> cases hk
 | n, k, .bool _, _, hk, _ => by cases n <;> cases hk
 | n, k, .ref _, _, hk, _ => by cases n <;> cases hk
 | n, k, _, .none, _, hk => by cases k <;> cases hk
 | n, k, _, .bool _, _, hk => by cases k <;> cases hk
 | n, k, _, .ref _, _, hk => by cases k <;> cases hk
 | n, k, .int i, .int j, _, _ => by iterate 1
  show (i == j) = _
  by_cases h : i = j
  ·subst h; simp
  ·rw [decide_eq_false (fun q => h (by injection q))]; exact beq_eq_false_iff_ne.mpr h
 | n, k, .int i, .str j, _, _ => by rw [decide_eq_false (fun q => by cases q)]; rfl
 | n, k, .int i, .tup j, _, _ => by rw [decide_eq_false (fun q => by cases q)]; rfl
 | n, k, .str i, .int j, _, _ => by rw [decide_eq_false (fun q => by cases q)]; rfl
 | n, k, .str i, .str j, _, _ => by iterate 1
  show (i == j) = _
  by_cases h : i = j
  ·subst h; simp
  ·rw [decide_eq_false (fun q => h (by injection q))]; exact beq_eq_false_iff_ne.mpr h
 | n, k, .str i, .tup j, _, _ => by rw [decide_eq_false (fun q => by cases q)]; rfl
 | n, k, .tup i, .int j, _, _ => by rw [decide_eq_false (fun q => by cases q)]; rfl
 | n, k, .tup i, .str j, _, _ => by rw [decide_eq_false (fun q => by cases q)]; rfl
 | 0, k, .tup i, .tup j, hk, _ => by cases hk
 | _, 0, .tup i, .tup j, _, hk => by cases hk
 | n + 1, k + 1, .tup i, .tup j, h1, h2 => by iterate 1
  show GF (BS i) (BS j) = _
  rw [IG h1 h2]
  by_cases h : i = j
  ·subst h; simp
  ·rw [decide_eq_false h, decide_eq_false (fun q => h (by injection q))]
theorem IG : ∀ {n k : Nat} {d e : List D}, Al (n + 1) (.tup d) = true -> Al (k + 1) (.tup e) = true -> GF (BS d) (BS e) = decide (d = e)
 | n, k, [], [], _, _ => by simp [BS, GF]
 | n, k, [], _ :: _, _, _ => by simp [BS, GF]
 | n, k, _ :: _, [], _, _ => by simp [BS, GF]
 | n, k, x :: xs, y :: ys, h1, h2 => by iterate 1
  show (PyData.eqv (CB x) (CB y) && GF (BS xs) (BS ys)) = _
  rw [IF (A5 h1).1 (A5 h2).1, IG (A5 h1).2 (A5 h2).2]
  by_cases h : x = y
  ·by_cases h' : xs = ys
   ·simp [h, h']
   ·simp [h, h']
  ·simp [h]
end
mutual
theorem Aj.fn {B : Addr -> Prop} {h : Heap} : ∀ (d : D) {n k : Nat} {v : Value} {e : D}, Al n d = true -> Al k e = true -> Aj B h v d -> Aj B h v e -> d = e
 | .none, n, k, _, _, hd, he, _, _ => by cases n <;> cases hd
 | .bool _, n, k, _, _, hd, he, _, _ => by cases n <;> cases hd
 | .ref _, n, k, _, _, hd, he, _, _ => by cases n <;> cases hd
 | .int i, n, k, _, _, hd, he, r1, r => by cases r1; cases r; rfl
 | .str i, n, k, _, _, hd, he, r1, r => by cases r1; cases r; rfl
 | .tup ds, 0, k, _, _, hd, he, r1, r => by cases hd
 | .tup ds, n + 1, k, _, _, hd, he, r1, r => by iterate 1
  cases r1 with
  | tup nb ho rs =>
  cases r with
  | ref a => cases k <;> cases he
  | tup nb' ho' rs' =>
   rw [ho] at ho'
   cases k with
   | zero => cases he
   | succ k =>
    injection ho' with ho'
    injection ho' with _ _ h3 _
    injection h3 with h4 _
    have e := congrArg Array.toList h4
    simp at e
    subst e
    rw [Ak.fn ds hd he rs rs']
theorem Ak.fn {B : Addr -> Prop} {h : Heap} : ∀ (d : List D) {n k : Nat} {v : List Value} {e : List D}, Al (n + 1) (.tup d) = true -> Al (k + 1) (.tup e) = true -> Ak B h v d -> Ak B h v e -> d = e
 | [], n, k, _, _, hd, he, r1, r => by cases r1; cases r; rfl
 | d :: ds, n, k, _, _, hd, he, r1, r => by iterate 1
  cases r1 with
  | cons a b =>
  cases r with
  | cons a' b' => rw [Aj.fn d (A5 hd).1 (A5 he).1 a a', Ak.fn ds (A5 hd).2 (A5 he).2 b b']
end
theorem Ak.IH : ∀ (ws : List Value) (es : List D), Al (n + 1) (.tup es) = true -> Ak B h ws es -> ∀ x ∈ ws, ∃ d, Al n d = true /\ Aj B h x d
 | _, _, _, .nil, x, hx => by cases hx
 | _, _, hk, .cons a b, x, hx => by iterate 1
  rcases Ay.mp hx with rfl | hx
  ·exact ⟨_, (A5 hk).1, a⟩
  ·exact Ak.IH _ _ (A5 hk).2 b x hx
section
variable {prog : Program} {w : World} {E : Value -> Shared -> Prop} {B : Addr -> Prop}
mutual
theorem Ln : ∀ (n : Nat) (d : D) (v : Value) (A : Around) (s : Shared) (Q : Int -> Shared -> Prop), Al n d = true -> Aj B s.heap v d -> A.units + n + 1 < cLine ->
  Q (Br w d) { s with toks := s.toks + GC d } -> wpAny (model prog w) A (PySem.pyHash v) Q E s
 | n, .none, v, A, s, Q, hk, r, hu, h => by cases n <;> cases hk
 | n, .bool _, v, A, s, Q, hk, r, hu, h => by cases n <;> cases hk
 | n, .ref _, v, A, s, Q, hk, r, hu, h => by cases n <;> cases hk
 | n, .int i, v, A, s, Q, hk, r, hu, h => by cases r; exact wpAny_pyHash_int h
 | n, .str i, v, A, s, Q, hk, r, hu, h => by cases r; exact wpAny_pyHash_str h
 | 0, .tup ds, v, A, s, Q, hk, r, hu, h => by cases hk
 | n + 1, .tup ds, v, A, s, Q, hk, r, hu, h => by iterate 1
  cases r with
  | @tup a vs k _ nb ho rs =>
  have hT : s.TypeIs (.ref a) "tuple" := ⟨_, ho, rfl⟩
  unfold PySem.pyHash
  first | unfold pyHashByItsType | skip
  first | refine Ab (wpAny_cRoomFor_or (.inr (by omega)) ?_) | skip
  refine Ab (Hp hT F.slot_tuple_hash.lookup ?_)
  show wpAny _ _ (if (some (Value.builtin "tuple.__hash__") == some Value.none) = true then _ else _) Q E s
  rw [if_neg (by rw [beq_builtin_none]; exact Cu)]
  refine Ab (Hp hT F.slot_tuple_hash.lookup ?_)
  show wpAny _ _ (callSpecialIfBoundUnlessNone? (.ref a) "__hash__" _ >>= _) Q E s
  refine Ab (wpAny_callSpecialIfBoundUnlessNone?_slot hT F.slot_tuple_hash (Cz F.slot_tuple_hash hT F.entry_tuple_hash ?_ (F.args_tuple_hash_1 _)))
  show wpAny _ _ (Builtin.Tuple.tupleItemsOf (.ref a) >>= _) _ _ s
  refine Ab (N0 ho rfl ?_)
  refine Ab ?_
  rw [<- Lo]
  refine N5 n ds vs A.in1 s #[] _ hk rs (by simp only [Around.in1_units]; omega) fun b hb => ?_
  show wpAny _ _ (retInt (Hi b.toList)) _ _ _
  have hb' : b.toList = Eg w ds := by simpa using hb
  rw [hb']
  refine wpAny_ret_mkInt ?_
  show wpAny _ _ (if (decide (-(2 : Int) ^ 63 <= Hi (Eg w ds)) && decide (Hi (Eg w ds) < 2 ^ 63)) = true then _ else _) Q E _
  simp only [Br, GC] at h
  unfold reduceHash at h
  by_cases hr : (decide (-(2 : Int) ^ 63 <= Hi (Eg w ds)) && decide (Hi (Eg w ds) < 2 ^ 63)) = true
  ·rw [if_pos hr]
   rw [if_pos hr] at h
   exact Ad (by simpa [II] using h)
  ·rw [if_neg hr]
   rw [if_neg hr] at h
   exact Ab (D2 (Ad (by simpa [II] using h)))
theorem N5 : ∀ (n : Nat) (ds : List D) (vs : List Value) (A : Around) (s : Shared) (b : Array Int) (Q : Array Int -> Shared -> Prop), Al (n + 1) (.tup ds) = true -> Ak B s.heap vs ds -> A.units + n + 1 < cLine ->
  (∀ b', b'.toList = b.toList ++ Eg w ds -> Q b' { s with toks := s.toks + ID ds }) ->
  wpAny (model prog w) A (forIn vs b fun x r => do let h <- PySem.pyHash x; pure PUnit.unit; pure (ForInStep.yield (r.push h))) Q E s
 | n, [], vs, A, s, b, Q, _, r, _, h => by iterate 1 cases r; exact Ad (h b (by simp [Eg]))
 | n, d :: ds, vs, A, s, b, Q, hk, r, hu, h => by iterate 1
  cases r with
  | cons r1 r2 =>
  rw [K7]
  refine Ab (Ab (Ln n d _ A s _ (A5 hk).1 r1 (by omega) ?_))
  refine Ab (Ad (Ad ?_))
  refine N5 n ds _ A { s with toks := s.toks + GC d } _ Q (A5 hk).2 r2 (by omega) fun b' hb => ?_
  have := h b' (by simp [hb, Eg])
  simpa [ID, II] using this
end
mutual
theorem IJ : ∀ (n m : Nat) (d : D) (v : Value) (A : Around) (s : Shared) (Q : Bool -> Shared -> Prop), n <= m -> Al n d = true -> Aj B s.heap v d -> Q true s -> wpAny (model prog w) A (eqIsQuiet m v) Q E s
 | n, m, .none, v, A, s, Q, _, hk, r, h => by cases n <;> cases hk
 | n, m, .bool _, v, A, s, Q, _, hk, r, h => by cases n <;> cases hk
 | n, m, .ref _, v, A, s, Q, _, hk, r, h => by cases n <;> cases hk
 | n, m, .int i, v, A, s, Q, _, hk, r, h => by iterate 1 cases r; rw [eqIsQuiet_byValue _ rfl]; exact Ad h
 | n, m, .str i, v, A, s, Q, _, hk, r, h => by iterate 1 cases r; rw [eqIsQuiet_byValue _ rfl]; exact Ad h
 | 0, m, .tup ds, v, A, s, Q, _, hk, r, h => by cases hk
 | n + 1, 0, .tup ds, v, A, s, Q, hm, hk, r, h => by omega
 | n + 1, m + 1, .tup ds, v, A, s, Q, hm, hk, r, h => by iterate 1
  cases r with
  | @tup a vs k _ nb ho rs =>
  have hT : s.TypeIs (.ref a) "tuple" := ⟨_, ho, rfl⟩
  unfold eqIsQuiet
  refine Ab (Hp hT F.slot_tuple_eq.lookup ?_)
  show wpAny _ _ (isInstance (.ref a) (.type "tuple") >>= _) _ _ s
  refine Ab (FO hT isSubtype_tuple_tuple ?_)
  simp only [FP, Be, if_false]
  refine Ab (Dy ho rfl ?_)
  refine Ab ?_
  show wpAny _ _ (forIn vs.toArray _ _) _ _ s
  rw [<- Lo]
  have hvs := Ak.IH vs ds hk rs
  refine IK _ (fun rest r s' => r.1 = none /\ s' = s /\ ∀ v ∈ rest, ∃ d, Al n d = true /\ Aj B s.heap v d) _ ?_ ?_ _ _ ⟨rfl, rfl, hvs⟩
  ·rintro v rest r s' ⟨hr, rfl, hall⟩
   obtain ⟨d, hd, hrd⟩ := hall v Bv
   refine Ab (IJ n m d v A _ _ (by omega) hd hrd ?_)
   simp only [FP, Be, if_false]
   exact Ad ⟨rfl, rfl, fun u hu' => hall u (BM _ hu')⟩
  ·rintro ⟨r1, r2⟩ s' ⟨hr, rfl, _⟩
   simp only at hr
   subst hr
   exact Ad h
end
end
section
open Classical
noncomputable def Dz (B : Addr -> Prop) (h : Heap) (ks : List D) (a : Addr) : Prop := Aj B h (.ref a) (.tup ks) /\ Al 4 (.tup ks) = true
theorem Dz.keeps {B : Addr -> Prop} {h h' : Heap} {k : List D} {a d : Addr} {o : Obj} {es ep} (x : Dz B h k a) (ho : h.get? d = some o) (hd : o.data = .dict es ep) (hs : Heap.SameBut d h h') : Dz B h' k a := by iterate 1
 exact
  ⟨x.1.mono fun b vs n e => (hs.2 b fun q => by rw [q, ho] at e; cases e; cases hd).trans e, x.2⟩
noncomputable def C6 (B : Addr -> Prop) (prog : Program) (w : World) : HeapKind prog w (List D) where
 is := Dz B
 hash := fun k => Br w (.tup k)
 draws := fun k => GC (.tup k)
 room := fun A => A.units + 10 < cLine
 inj := fun hx hy => by have := Aj.fn _ hx.2 hy.2 hx.1 hy.1; injection this
 keeps := fun x ho hd hs => x.keeps ho hd hs
 pyHash := fun {A E s k a Q} hu hk h => Ln 4 _ _ A s Q hk.2 hk.1 (by show A.units + 4 + 1 < cLine; have : A.units + 10 < cLine := hu; omega) h
 eqBool := fun {A E s x y a b Q} hu hx hy h => by
  have d1 := IE hx.2
  refine SeqAt.eqBoolOverData prog _ A E s _ _ _ _ _ _ Q (GD hx.2 hx.1) (GD hy.2 hy.1) (GE hx.2) (GE hy.2) ?_ ?_
  ·have : A.units + 10 < cLine := hu
   have := GG (CB (.tup x)).depth (CB (.tup y)).depth
   omega
  ·rw [IF hx.2 hy.2]
   by_cases q : x = y
   ·subst q; simpa using h
   ·rw [decide_eq_false q] at h
    rw [decide_eq_false fun e => q (by injection e)]; exact h
 quiet := fun {A E s k a Q} hk h => IJ 4 8 _ _ A s Q (by omega) hk.2 hk.1 h
section
variable {c : Cx} {A : Around} {env : Env} {m : Au} {σ : Aa}
theorem Oa : ∀ {arr : List DictEntry} {es : List (List D × D)}, Du B w h arr es ->
  ∃ xs : List (List D × Addr × Value), arr = xs.map (entryOfKey (C6 B prog w)) /\ (∀ x ∈ xs, Dz B h x.1 x.2.1) /\ AF B h (xs.map fun x => (x.1, x.2.2)) es
 | [], [], _ => ⟨[], rfl, fun x hx => (by cases hx), trivial⟩
 | e :: r, (k, d) :: r', ⟨h1, h2, h3, h4, h5⟩ => by iterate 1
  obtain ⟨xs, e1, e2, e3⟩ := Oa (prog := prog) h5
  obtain ⟨hsh, key, val⟩ := e
  simp only at h1 h2 h4
  cases h2 with
  | @tup a vs n _ nb ho rs =>
  refine ⟨(k, a, val) :: xs, ?_, fun x hx => ?_, ⟨rfl, h4, e3⟩⟩
  ·rw [AM, <- e1]
   unfold entryOfKey
   rw [h1]; rfl
  ·rcases Ay.mp hx with rfl | hx
   ·exact ⟨.tup nb ho rs, h3⟩
   ·exact e2 x hx
 | [], _ :: _, f => f.elim
 | _ :: _, [], f => f.elim
theorem Ob : ∀ {xs : List (List D × Addr × Value)} {es : List (List D × D)}, (∀ x ∈ xs, Dz B h x.1 x.2.1) -> AF B h (xs.map fun x => (x.1, x.2.2)) es ->
  Du B w h (xs.map (entryOfKey (C6 B prog w))) es
 | [], [], _, _ => trivial
 | (k, a, v) :: xs, (k', d) :: r', h1, ⟨e, h2, h3⟩ => by iterate 1
  have e' : k = k' := e
  subst e'
  have := h1 _ Bv
  exact ⟨rfl, this.1, this.2, h2, Ob (fun x hx => h1 x (BM _ hx)) h3⟩
 | [], _ :: _, _, f => f.elim
 | _ :: _, [], _, f => f.elim
theorem GH : BD c h a (.dictT es) ↔ ∃ xs, h.DictOfH (C6 c.bad c.prog c.w) a xs /\ AF c.bad h (xs.map fun x => (x.1, x.2.2)) es := by iterate 1
 constructor
 ·rintro ⟨o, arr, ep, ho, hx, hd, r, nd⟩
  obtain ⟨xs, e1, e2, e3⟩ := Oa (prog := c.prog) r
  refine ⟨xs, ⟨o, arr, ep, ho, hx, hd, e1, e2, ?_⟩, e3⟩
  have := e3.keys
  rw [A2] at this
  have e4 : xs.map (·.1) = es.map (·.1) := this
  rw [e4]; exact nd
 ·rintro ⟨xs, ⟨o, arr, ep, ho, hx, hd, e1, e2, nd⟩, r⟩
  refine ⟨o, arr, ep, ho, hx, hd, e1 ▸ Ob e2 r, ?_⟩
  have := r.keys
  rw [A2] at this
  rw [<- this]; exact nd
theorem Dz.of (r : Aj c.bad h v (.tup ks)) (hk : Al 4 (.tup ks) = true) : ∃ a, v = .ref a /\ Dz c.bad h ks a := by iterate 1
 cases r with
 | @tup a vs n _ nb ho rs => exact ⟨a, rfl, .tup nb ho rs, hk⟩
theorem IL (k : List D) : (atKey xs k).map (·.2) = valueAt (xs.map fun x => (x.1, x.2.2)) k := by iterate 1
 unfold atKey valueAt
 induction xs with
 | nil => rfl
 | cons x r ih =>
  rw [AM, Hj, Hj]
  by_cases q : x.1 = k
  ·simp only [q, decide_true]; rfl
  ·simp only [q, decide_false]; exact ih
theorem Oc (k : List D) (a : Addr) (v : Value) : (storedH xs k a v).map (fun x => (x.1, x.2.2)) = stored (xs.map fun x => (x.1, x.2.2)) k v := by iterate 1
 have e : (atKey xs k).isSome = (xs.map fun x => (x.1, x.2.2)).any (fun kv => kv.1 = k) := by
  unfold atKey
  rw [Option.isSome_map]
  induction xs with
  | nil => rfl
  | cons x r ih =>
   rw [Hj, AM, KH]
   by_cases q : x.1 = k
   ·simp [q]
   ·simp only [q, decide_false, Bool.false_or]; exact ih
 unfold storedH stored
 rw [e]
 split
 ·rw [A2, A2]
  refine Cg fun x hx => ?_
  simp only [Function.comp, putAt]
  by_cases q : x.1 = k
  ·simp [q]
  ·simp [q]
 ·simp
theorem IM (S : Sim c σ s) (h : σ a = some (.dictT es)) : s.TypeIs (.ref a) "dict" := (KV h s _ S (.ref a)).1
theorem Ah.dictT (S : Sim c σ s) (h : σ a = some (.dictT es)) (hs : Heap.SameBut a s.heap h') (hd : h'.DictOfH (C6 c.bad c.prog c.w) a xs)
  (r : AF c.bad s.heap (xs.map fun x => (x.1, x.2.2)) es') (t : Nat) : Ah c σ s (σ.set a (.dictT es')) { s with heap := h', toks := t } := by iterate 1
 exact Ah.Ii S t h hs fun k => GH.mpr ⟨xs, hd, r.mono k⟩
theorem IT.dictT (hu : A.units + 20 < cLine) (h : σ a = some (.dictT es)) (hk : Al 4 (.tup k) = true) (hd : AN es k = some d) (q : Q d σ) : IT c A (.ref a) (.tup k) σ Q := by iterate 1
 exact fun s vo vi S ro ri => by
  cases ro
  obtain ⟨xs, x, r⟩ := GH.mp (S.1 _ _ h).1
  obtain ⟨b, rfl, kb⟩ := Dz.of ri hk
  have := r.val k
  rw [hd] at this
  obtain ⟨v, hv, hr⟩ := this
  rw [<- IL] at hv
  cases hp : atKey xs k with
  | none => rw [hp] at hv; cases hv
  | some p =>
   rw [hp] at hv; cases hv
   exact ⟨"dict", _, slot_dict_getitem.lookup, IM S h, wpAny_getItem_heap (by show A.in1.units + 10 < cLine; simp only [Around.in1_units]; omega) kb x hp ⟨d, σ, q, Ah.toks S _, hr⟩⟩
theorem SI.dictT (hu : A.units + 20 < cLine) (h : σ a = some (.dictT es)) (hk : Al 4 (.tup k) = true) (hz : es.length <= 1000000) (q : Q (σ.set a (.dictT (Bb es k d)))) :
   SI c A (.ref a) (.tup k) d σ Q := by iterate 1
 exact fun s vo vi v S ro ri rv => by
  cases ro
  obtain ⟨xs, x, r⟩ := GH.mp (S.1 _ _ h).1
  obtain ⟨b, rfl, kb⟩ := Dz.of ri hk
  have hl := r.length
  rw [Am] at hl
  exact wpAny_setItem_heap (by show A.in1.units + 10 < cLine; simp only [Around.in1_units]; omega) kb x (fun h' hd' hs' => ⟨_, q, Ah.dictT S h hs' hd' (by rw [Oc]; exact r.stored rv) _⟩) (by rw [BA]; omega)
theorem CMP.inT {Q : Bool -> Aa -> Prop} (hu : A.units + 20 < cLine) (h : σ a = some (.dictT es)) (hk : Al 4 (.tup k) = true) (q : Q (AN es k).isSome σ) : CMP c A .In (.tup k) (.ref a) σ Q := by iterate 1
 exact fun s va vb S ra rb => by
  cases rb
  obtain ⟨xs, x, r⟩ := GH.mp (S.1 _ _ h).1
  obtain ⟨b, rfl, kb⟩ := Dz.of ra hk
  have := r.val k
  rw [<- IL] at this
  refine wpAny_in_heap (by show A.in1.units + 10 < cLine; simp only [Around.in1_units]; omega) kb (far S h) x ⟨_, σ, rfl, ?_, Ah.toks S _⟩
  cases hv : AN es k with
  | none =>
   rw [hv] at this q
   have e : atKey xs k = none := by simpa using this
   rw [e]; exact q
  | some d =>
   rw [hv] at this q
   obtain ⟨v, hv, _⟩ := this
   cases hp : atKey xs k with
   | none => rw [hp] at hv; cases hv
   | some p => exact q
theorem Ac.getT (hu : A.units + 20 < cLine) (h : σ a = some (.dictT es)) (hk : Al 4 (.tup k) = true) (q : Q ((AN es k).getD d) σ) :
   Ac c A (.builtin "dict.get") [.ref a, .tup k, d] σ Q := by iterate 1
 exact fun s vs S r => by
  cases r with
  | cons ra r =>
  cases r with
  | cons rk r =>
  cases r with
  | @cons w _ _ _ rd r =>
  cases r
  cases ra
  obtain ⟨xs, x, r⟩ := GH.mp (S.1 _ _ h).1
  obtain ⟨b, rfl, kb⟩ := Dz.of rk hk
  have := r.val k
  rw [<- IL] at this
  refine Li F.slot_dict_get (IM S h) F.entry_dict_get (F.args_dict_get_3 _ _ _) (meetsH_dict_get_default (C6 c.bad c.prog c.w) _ _ (far S h) w) ⟨by show A.in1.units + 10 < cLine; simp only [Around.in1_units]; omega, k, xs, kb, x, ?_⟩
  cases hv : AN es k with
  | none => rw [hv] at this q; rw [this]; exact ⟨_, σ, q, Ah.toks S _, rd⟩
  | some e => rw [hv] at this q; obtain ⟨v, hv, hr⟩ := this; rw [hv]; exact ⟨_, σ, q, Ah.toks S _, hr⟩
theorem Ac.R9 (hu : A.units + 20 < cLine) (h : σ a = some (.dictT es)) (hk : Al 4 (.tup k) = true) (hz : es.length <= 1000000)
   (q : match AN es k with | some e => Q e σ | none => Q d (σ.set a (.dictT (Bb es k d)))) : Ac c A (.builtin "dict.setdefault") [.ref a, .tup k, d] σ Q := by iterate 1
 exact fun s vs S r => by
  cases r with
  | cons ra r =>
  cases r with
  | cons rk r =>
  cases r with
  | @cons w _ _ _ rd r =>
  cases r
  cases ra
  obtain ⟨xs, x, r⟩ := GH.mp (S.1 _ _ h).1
  obtain ⟨b, rfl, kb⟩ := Dz.of rk hk
  have hval := r.val k
  rw [<- IL] at hval
  have hl := r.length
  rw [Am] at hl
  refine Cz F.slot_dict_setdefault (IM S h) F.entry_dict_setdefault ?_ (F.args_dict_setdefault_3 _ _ _)
  unfold Builtin.«dict.setdefault»
  refine Ab ?_
  unfold Builtin.Dict.keyAndDefault
  refine Ab (Od (IM S h) ?_)
  show wpAny _ _ (pure (a, Value.ref b, some w)) _ _ s
  refine Ad ?_
  show wpAny _ _ (if (a == sysModules) = true then _ else (dictSetDefault a (.ref b) w >>= _)) _ _ s
  rw [if_neg (by rw [far S h]; exact Cu)]
  have hu' : (C6 c.bad c.prog c.w).room A.in1 := by show A.in1.units + 10 < cLine; simp only [Around.in1_units]; omega
  refine Ab ?_
  obtain ⟨o, arr, ep, ho, hc, hd, he, his, hn⟩ := x
  unfold dictSetDefault
  try with_reducible refine Bh ?_
  refine Ab ((C6 c.bad c.prog c.w).pyHash hu' kb ?_)
  refine Ab (wpAny_dictFind_heap (s := { s with toks := s.toks + (C6 c.bad c.prog c.w).draws k }) hu' kb ho hd he his hn ?_ ?_)
  ·intro hno
   have hnone : atKey xs k = none := atKey_none_of_get hno
   rw [hnone] at hval
   have hv : AN es k = none := by
    cases hv : AN es k with
    | none => rfl
    | some e => rw [hv] at hval; obtain ⟨v, h1, _⟩ := hval; cases h1
   rw [hv] at q
   have hnot : k ∉ xs.map (·.1) := not_mem_keys_of_get hno
   refine Ab (D2 (Ab (wpAny_updateDictKeys (hz := by have e := size_of_entries he; rw [BA]; omega) (s := { s with toks := s.toks + (C6 c.bad c.prog c.w).draws k }) ho hd (Ad (Ad ⟨_, rfl, ?_⟩)))))
   have hD : (s.heap.update a (Obj.mapDictKeys fun es => es.push ⟨(C6 c.bad c.prog c.w).hash k, .ref b, w⟩)).DictOfH (C6 c.bad c.prog c.w) a (storedH xs k b w) := by
    refine ⟨_, _, ep + 1, EE _ ho (Obj.isFreed_of_dict (Obj.data_mapDictKeys hd _)), hc.mapDictKeys _, Obj.data_mapDictKeys hd _, ?_, ?_, ?_⟩
    ·rw [storedH_new hnone]
     simp [he, entryOfKey]
    ·rw [storedH_new hnone]
     intro x hx
     rcases AC.mp hx with hx | hx
     ·exact (C6 c.bad c.prog c.w).keeps (his x hx) ho hd (Df ..)
     ·simp only [Ag] at hx
      subst hx
      exact (C6 c.bad c.prog c.w).keeps kb ho hd (Df ..)
    ·rw [storedH_new hnone]
     rw [Bo, Bf]
     refine ⟨hn, by simp, ?_⟩
     intro x hx y hy
     simp only [AM, List.map_nil, Ag] at hy
     subst hy
     exact fun e => hnot (e ▸ hx)
   have P := Ah.dictT (t := s.toks + (C6 c.bad c.prog c.w).draws k) S h (Df ..) hD (by rw [Oc]; exact r.stored rd)
   exact ⟨d, _, q, P, P.rel S rd⟩
  ·intro j p hj
   have hsome : atKey xs k = some p := atKey_of_get hn hj
   rw [hsome] at hval
   cases hv : AN es k with
   | none => rw [hv] at hval; cases hval
   | some e =>
    rw [hv] at hval q
    obtain ⟨v, h1, hr⟩ := hval
    cases h1
    refine Ab (Lp (s := { s with toks := s.toks + (C6 c.bad c.prog c.w).draws k }) ho hd ?_)
    rw [entry_at he j, hj]
    exact Ab (D2 (Ad (Ad ⟨_, rfl, e, σ, q, Ah.toks S _, hr⟩)))
end
end
section
open Classical
inductive PD (c : Cx) (σ : Aa) : D -> PyData -> Prop
 | key {d : D} : Al 5 d = true -> PD c σ d (CB d)
 | list {l : Addr} {ds : List D} : σ l = some (.list ds) -> Al 6 (.tup ds) = true -> PD c σ (.ref l) (.list (BS ds))
section
variable {c : Cx} {A : Around} {env : Env} {m : Au} {σ : Aa}
theorem PD.reads (x : PD c σ d p) (S : Sim c σ s) (r : Aj c.bad s.heap v d) : ∃ as, Reads s.heap v p as := by iterate 1
 cases x with
 | key h => exact ⟨_, GD h r⟩
 | list h hk =>
  cases r
  obtain ⟨vs, n, ho, rs⟩ := (S.1 _ _ h).1
  exact ⟨_, .list ho rfl rfl (Lj (n := 5) hk rs)⟩
theorem PD.lay (x : PD c σ d p) : p.canLay0 = true := by iterate 1
 cases x with
 | key h => exact GE h
 | list h hk => exact Lk (n := 5) hk
theorem PD.depth (x : PD c σ d p) : p.depth <= 8 := by iterate 1
 cases x with
 | key h => have := IE h; omega
 | list h hk => have := Lm (n := 5) hk; simp only [Ll]; omega
theorem CMP.eqPD {a b : D} {p q : PyData} {Q : Bool -> Aa -> Prop} (ha : PD c σ a p) (hb : PD c σ b q) (hu : A.units + 20 < cLine) (h : Q (PyData.eqv p q) σ) : CMP c A .Eq a b σ Q := by iterate 1
 exact fun s va vb S ra rb => by
  obtain ⟨as, r1⟩ := ha.reads S ra
  obtain ⟨bs, r2⟩ := hb.reads S rb
  exact SeqAt.compareEq_reads r1 r2 ha.lay hb.lay (by have := ha.depth; have := GG p.depth q.depth; omega) ⟨_, σ, rfl, h, .refl S⟩
theorem CMP.nePD {a b : D} {p q : PyData} {Q : Bool -> Aa -> Prop} (ha : PD c σ a p) (hb : PD c σ b q) (hu : A.units + 20 < cLine) (h : Q (!PyData.eqv p q) σ) : CMP c A .NotEq a b σ Q := fun s va vb S ra rb => by
 obtain ⟨as, r1⟩ := ha.reads S ra
 obtain ⟨bs, r2⟩ := hb.reads S rb
 exact SeqAt.compareNe_reads r1 r2 ha.lay hb.lay (by have := ha.depth; have := GG p.depth q.depth; omega) ⟨_, σ, rfl, h, .refl S⟩
theorem CMP.eqT {Q : Bool -> Aa -> Prop} (ha : Al 5 (.tup a) = true) (hb : Al 5 (.tup b) = true) (hu : A.units + 20 < cLine) (h : Q (decide (a = b)) σ) : CMP c A .Eq (.tup a) (.tup b) σ Q := by iterate 1
 refine CMP.eqPD (.key ha) (.key hb) hu ?_
 rw [IF ha hb]
 by_cases e : a = b
 ·subst e; simpa using h
 ·rw [decide_eq_false e] at h; rw [decide_eq_false fun q => e (by injection q)]; exact h
theorem CMP.eqL {a b : Addr} {x y : List D} {Q : Bool -> Aa -> Prop} (ha : σ a = some (.list x)) (hb : σ b = some (.list y)) (hx : Al 6 (.tup x) = true) (hy : Al 6 (.tup y) = true) (hu : A.units + 20 < cLine) (h : Q (decide (x = y)) σ) : CMP c A .Eq (.ref a) (.ref b) σ Q := by iterate 1
 refine CMP.eqPD (.list ha hx) (.list hb hy) hu ?_
 show Q (GF (BS x) (BS y)) σ
 rw [IG (n := 5) (k := 5) hx hy]; exact h
theorem CMP.neL {a b : Addr} {x y : List D} {Q : Bool -> Aa -> Prop} (ha : σ a = some (.list x)) (hb : σ b = some (.list y)) (hx : Al 6 (.tup x) = true) (hy : Al 6 (.tup y) = true) (hu : A.units + 20 < cLine) (h : Q (!decide (x = y)) σ) : CMP c A .NotEq (.ref a) (.ref b) σ Q := by iterate 1
 refine CMP.nePD (.list ha hx) (.list hb hy) hu ?_
 show Q (!PyData.eqvAll (BS x) (BS y)) σ
 rw [IG (n := 5) (k := 5) hx hy]; exact h
theorem Hq : ∀ {ns : List Int} {vs : List Value}, Ak B h vs (ns.map .int) -> IntsAre vs ns
 | [], vs, r => by cases r; exact .nil
 | n :: ns, vs, r => by iterate 1
  cases r with
  | cons a b => cases a; exact .cons _ _ (Hq b)
theorem Oe : ∀ {ns : List Str} {vs : List Value}, Ak B h vs (ns.map .str) -> StrsAre vs ns
 | [], vs, r => by cases r; exact .nil
 | n :: ns, vs, r => by iterate 1
  cases r with
  | cons a b => cases a; exact .cons _ _ (Oe b)
theorem Og (ns : List Int) (k : Int) : ns.any (· == k) = decide (k ∈ ns) := by
 rw [Oh]; simp
theorem Sa (ns : List Str) (k : Str) : ns.any (· == k) = decide (k ∈ ns) := by
 rw [Oh]; simp
theorem CMP.Sb {ns : List Int} {Q : Bool -> Aa -> Prop} (q : Q (decide (k ∈ ns)) σ) : CMP c A .In (.int k) (.tup (ns.map .int)) σ Q := by iterate 1
 exact fun s va vb S ra rb => by
  cases ra
  cases rb with
  | @tup a vs n _ nb ho rs =>
  exact in_tuple_ints (items := vs.toArray) ⟨_, ho, rfl, n, rfl⟩ (Hq rs) ⟨_, σ, rfl, by rw [Og]; exact q, .refl S⟩
theorem CMP.Se {l : Addr} {ns : List Int} {Q : Bool -> Aa -> Prop} (h : σ l = some (.list (ns.map .int))) (q : Q (decide (k ∈ ns)) σ) : CMP c A .In (.int k) (.ref l) σ Q := by iterate 1
 exact fun s va vb S ra rb => by
  cases ra; cases rb
  obtain ⟨vs, n, ho, rs, hl⟩ := BF S h
  exact in_list_ints hl (Hq rs) ⟨_, σ, rfl, by rw [Og]; exact q, .refl S⟩
theorem CMP.Sf {l : Addr} {ns : List Str} {k : Str} {Q : Bool -> Aa -> Prop} (h : σ l = some (.list (ns.map .str))) (q : Q (!decide (k ∈ ns)) σ) : CMP c A .NotIn (.str k) (.ref l) σ Q := by iterate 1
 exact fun s va vb S ra rb => by
  cases ra; cases rb
  obtain ⟨vs, n, ho, rs, hl⟩ := BF S h
  exact notin_list_strs hl (Oe rs) ⟨_, σ, rfl, by rw [Sa]; exact q, .refl S⟩
theorem CMP.inStr {Q : Bool -> Aa -> Prop} (q : Q (!(Sg x y 0 x.length 1).isEmpty) σ) : CMP c A .In (.str y) (.str x) σ Q := by iterate 1
 exact fun s va vb S ra rb => by
  cases ra; cases rb
  exact PySem.P.in_str ⟨_, σ, rfl, q, .refl S⟩
theorem CMP.isNone {Q : Bool -> Aa -> Prop} (hd : d = .none ∨ (∃ ds, d = .tup ds)) (q : Q (match d with | .none => true | _ => false) σ) : CMP c A .Is d .none σ Q := by iterate 1
 exact fun s va vb S ra rb => by
  cases rb
  rcases hd with rfl | ⟨ds, rfl⟩
  ·cases ra
   exact wpAny_is_self rfl ⟨_, σ, rfl, q, .refl S⟩
  ·cases ra
   exact is_none_ne (by intro x; cases x) ⟨_, σ, rfl, q, .refl S⟩
end
end
section
open Classical
noncomputable def ltL : List Int -> List Int -> Bool
 | [], [] => false
 | [], _ :: _ => true
 | _ :: _, [] => false
 | a :: s, b :: t => if a < b then true else if b < a then false else ltL s t
theorem Oi : ∀ s, ltL s s = false
 | [] => rfl
 | a :: s => by iterate 1 unfold ltL; rw [if_neg (Lq a), if_neg (Lq a)]; exact Oi s
theorem Oj : ∀ s t, ltL s t = true -> ltL t s = false
 | [], [], h => by cases h
 | [], _ :: _, _ => rfl
 | _ :: _, [], h => by cases h
 | a :: s, b :: t, h => by iterate 1
  unfold ltL at h ⊢
  by_cases h1 : a < b
  ·rw [if_neg (by omega), if_pos h1]
  ·rw [if_neg h1] at h
   by_cases h2 : b < a
   ·rw [if_pos h2] at h; cases h
   ·rw [if_neg h2] at h ⊢
    rw [if_neg h1]; exact Oj s t h
theorem Ol : ∀ a b c, ltL b a = false -> ltL c b = false -> ltL c a = false
 | [], [], [], _, _ => rfl
 | [], [], _ :: _, _, _ => rfl
 | [], _ :: _, [], _, h => by cases h
 | [], _ :: _, _ :: _, _, _ => rfl
 | _ :: _, [], _, h, _ => by cases h
 | _ :: _, _ :: _, [], _, h => by cases h
 | x :: a, y :: b, z :: c, h1, h2 => by iterate 1
  unfold ltL at h1 h2 ⊢
  by_cases q1 : y < x
  ·rw [if_pos q1] at h1; cases h1
  ·by_cases q2 : z < y
   ·rw [if_pos q2] at h2; cases h2
   ·rw [if_neg q1] at h1
    rw [if_neg q2] at h2
    rw [if_neg (by omega)]
    by_cases q3 : x < z
    ·rw [if_pos q3]
    ·rw [if_neg q3]
     have e1 : ¬ x < y := by omega
     have e2 : ¬ y < z := by omega
     rw [if_neg e1] at h1
     rw [if_neg e2] at h2
     exact Ol a b c h1 h2
theorem Om : ∀ s t, ltL s t = false -> ltL t s = false -> s = t
 | [], [], _, _ => rfl
 | [], _ :: _, h, _ => by cases h
 | _ :: _, [], _, h => by cases h
 | a :: s, b :: t, h, h' => by iterate 1
  unfold ltL at h h'
  by_cases h1 : a < b
  ·rw [if_pos h1] at h; cases h
  ·by_cases h2 : b < a
   ·rw [if_pos h2] at h'; cases h'
   ·rw [if_neg h1, if_neg h2] at h
    rw [if_neg h2, if_neg h1] at h'
    rw [Om s t h h', show a = b by omega]
theorem FQ : ∀ l s t, ltL (l ++ s) (l ++ t) = ltL s t
 | [], _, _ => rfl
 | a :: l, s, t => by iterate 1
  show (if a < a then true else if a < a then false else ltL (l ++ s) (l ++ t)) = _
  rw [if_neg (Lq a), if_neg (Lq a)]; exact FQ l s t
mutual
noncomputable def enc : D -> List Int
 | .int i => [0, i]
 | .str s => 1 :: (s.cps.toList.map (fun c : Nat => (c : Int) + 1) ++ [0])
 | .tup ds => 2 :: CN ds
 | _ => [3]
noncomputable def CN : List D -> List Int
 | [] => [0]
 | d :: ds => 1 :: (enc d ++ CN ds)
end
noncomputable def Div (u v : List Int) : Prop := ∃ l a b t t', u = l ++ a :: t /\ v = l ++ b :: t' /\ a ≠ b
theorem Div.cons (h : Div u v) (x : Int) : Div (x :: u) (x :: v) := let ⟨l, a, b, t, t', h1, h2, h3⟩ := h; ⟨x :: l, a, b, t, t', by rw [h1]; rfl, by rw [h2]; rfl, h3⟩
theorem Div.app (h : Div u v) : ∀ l, Div (l ++ u) (l ++ v)
 | [] => h
 | x :: l => (Div.app h l).cons x
theorem Div.ends (h : Div u v) (r r' : List Int) : Div (u ++ r) (v ++ r') := by iterate 1
 exact let ⟨l, a, b, t, t', h1, h2, h3⟩ := h; ⟨l, a, b, t ++ r, t' ++ r', by rw [h1]; simp, by rw [h2]; simp, h3⟩
theorem Div.head (h : a ≠ b) : Div (a :: u) (b :: v) := ⟨[], a, b, u, v, rfl, rfl, h⟩
theorem Div.lt (h : Div u v) (r r' : List Int) : ltL (u ++ r) (v ++ r') = ltL u v := by iterate 1
 obtain ⟨l, a, b, t, t', h1, h2, h3⟩ := h
 subst h1 h2
 rw [Dg, Dg, FQ, FQ]
 show (if a < b then true else if b < a then false else ltL (t ++ r) (t' ++ r')) = (if a < b then true else if b < a then false else ltL t t')
 by_cases q : a < b
 ·rw [if_pos q, if_pos q]
 ·rw [if_neg q, if_neg q, if_pos (by omega), if_pos (by omega)]
theorem Oo : ∀ (s t : List Nat), s ≠ t -> Div (s.map (fun c : Nat => (c : Int) + 1) ++ [0]) (t.map (fun c : Nat => (c : Int) + 1) ++ [0])
 | [], [], h => absurd rfl h
 | [], c :: t, _ => Div.head (a := 0) (b := (c : Int) + 1) (by omega)
 | c :: s, [], _ => Div.head (a := (c : Int) + 1) (b := 0) (by omega)
 | c :: s, d :: t, h => by iterate 1
  by_cases q : c = d
  ·subst q; exact (Oo s t (fun e => h (by rw [e]))).cons _
  ·exact Div.head (a := (c : Int) + 1) (b := (d : Int) + 1) (by omega)
theorem Sh {x y : Str} (h : x.cps.toList = y.cps.toList) : x = y := by iterate 1 cases x; cases y; simp only at h; congr; exact It.mp h
mutual
theorem Lr : ∀ (n : Nat) (d e : D) (k : Nat), Al n d = true -> Al k e = true -> d ≠ e -> Div (enc d) (enc e)
 | n, .none, _, k, hd, _, _ => by cases n <;> cases hd
 | n, .bool _, _, k, hd, _, _ => by cases n <;> cases hd
 | n, .ref _, _, k, hd, _, _ => by cases n <;> cases hd
 | n, _, .none, k, _, he, _ => by cases k <;> cases he
 | n, _, .bool _, k, _, he, _ => by cases k <;> cases he
 | n, _, .ref _, k, _, he, _ => by cases k <;> cases he
 | n, .int i, .int j, k, _, _, h => (Div.head (fun e => h (by rw [e]))).cons 0
 | n, .int i, .str j, k, _, _, h => .head (by decide)
 | n, .int i, .tup j, k, _, _, h => .head (by decide)
 | n, .str i, .int j, k, _, _, h => .head (by decide)
 | n, .str i, .str j, k, _, _, h => by iterate 1 exact (Oo _ _ (fun e => h (by rw [Sh e]))).cons 1
 | n, .str i, .tup j, k, _, _, h => .head (by decide)
 | n, .tup i, .int j, k, _, _, h => .head (by decide)
 | n, .tup i, .str j, k, _, _, h => .head (by decide)
 | 0, .tup i, .tup j, k, hd, _, h => by cases hd
 | _, .tup i, .tup j, 0, _, he, h => by cases he
 | n + 1, .tup i, .tup j, k + 1, hd, he, h => by iterate 1 exact (Op n i j k hd he (fun e => h (by rw [e]))).cons 2
theorem Op : ∀ (n : Nat) (d e : List D) (k : Nat), Al (n + 1) (.tup d) = true -> Al (k + 1) (.tup e) = true -> d ≠ e -> Div (CN d) (CN e)
 | n, [], [], k, _, _, h => absurd rfl h
 | n, [], _ :: _, k, _, _, h => .head (by decide)
 | n, _ :: _, [], k, _, _, h => .head (by decide)
 | n, x :: xs, y :: ys, k, hd, he, h => by iterate 1
  by_cases q : x = y
  ·subst q
   exact ((Op n xs ys k (A5 hd).2 (A5 he).2 (fun e => h (by rw [e]))).app (enc x)).cons 1
  ·exact ((Lr n x y k (A5 hd).1 (A5 he).1 q).ends _ _).cons 1
end
noncomputable def ltD (d e : D) : Bool := ltL (enc d) (enc e)
theorem Si (d : D) : ltD d d = false := Oi _
theorem Sj (h : ltD d e = true) : ltD e d = false := Oj _ _ h
theorem Sk {a b c : D} (h1 : ltD b a = false) (h2 : ltD c b = false) : ltD c a = false := Ol _ _ _ h1 h2
theorem Sl {n k : Nat} {d e : D} (hd : Al n d = true) (he : Al k e = true) (h1 : ltD d e = false) (h2 : ltD e d = false) : d = e := by iterate 1
 by_cases q : d = e
 ·exact q
 ·obtain ⟨l, a, b, t, t', e1, e2, e3⟩ := Lr n d e k hd he q
  have := Om _ _ h1 h2
  rw [e1, e2] at this
  have := Sm this
  injection this with h _
  exact absurd h e3
theorem GI (i j : Int) : ltD (.int i) (.int j) = decide (i < j) := by iterate 1
 show ltL [0, i] [0, j] = _
 show (if i < j then true else if j < i then false else false) = _
 by_cases q : i < j
 ·rw [if_pos q, decide_eq_true q]
 ·rw [if_neg q, decide_eq_false q]; split <;> rfl
theorem Oq : ∀ (s t : List Nat), ltL (s.map (fun c : Nat => (c : Int) + 1) ++ [0]) (t.map (fun c : Nat => (c : Int) + 1) ++ [0]) = decide (s < t)
 | [], [] => by simp [ltL]
 | [], c :: t => by iterate 1
  show (if (0 : Int) < (c : Int) + 1 then true else _) = _
  rw [if_pos (by omega)]; simp
 | c :: s, [] => by iterate 1
  show (if (c : Int) + 1 < 0 then true else if (0 : Int) < (c : Int) + 1 then false else _) = _
  rw [if_neg (by omega), if_pos (by omega)]; simp
 | c :: s, d :: t => by iterate 1
  show (if (c : Int) + 1 < (d : Int) + 1 then true else if (d : Int) + 1 < (c : Int) + 1 then false else ltL (s.map (fun c : Nat => (c : Int) + 1) ++ [0]) (t.map (fun c : Nat => (c : Int) + 1) ++ [0])) = _
  rw [Oq s t]
  by_cases q : c < d
  ·rw [if_pos (by omega)]; symm; rw [decide_eq_true_iff]; exact Ls.mpr (.inl q)
  ·by_cases q2 : d < c
   ·rw [if_neg (by omega), if_pos (by omega)]; symm; rw [decide_eq_false_iff_not]
    intro h; rcases Ls.mp h with h | ⟨h, _⟩ <;> omega
   ·have : c = d := by omega
    subst this
    rw [if_neg (by omega), if_neg (by omega)]
    by_cases q3 : s < t
    ·rw [decide_eq_true q3]; symm; rw [decide_eq_true_iff]; exact Ls.mpr (.inr ⟨rfl, q3⟩)
    ·rw [decide_eq_false q3]; symm; rw [decide_eq_false_iff_not]
     intro h; rcases Ls.mp h with h | ⟨_, h⟩
     ·omega
     ·exact q3 h
theorem Lu (x y : Str) : ltD (.str x) (.str y) = decide (x.cps.toList < y.cps.toList) := by iterate 1
 show ltL (1 :: (x.cps.toList.map (fun c : Nat => (c : Int) + 1) ++ [0])) (1 :: (y.cps.toList.map (fun c : Nat => (c : Int) + 1) ++ [0])) = _
 rw [<- Oq]
 exact FQ [1] _ _
noncomputable def E9 (xs ys : List D) : Bool := ltL (CN xs) (CN ys)
theorem IN (xs ys : List D) : ltD (.tup xs) (.tup ys) = E9 xs ys := FQ [2] _ _
theorem Lv (x : D) (xs ys : List D) : E9 (x :: xs) (x :: ys) = E9 xs ys := by iterate 1
 show ltL (1 :: (enc x ++ CN xs)) (1 :: (enc x ++ CN ys)) = _
 exact FQ (1 :: enc x) (CN xs) (CN ys)
theorem IP {n k : Nat} {x y : D} (hx : Al n x = true) (hy : Al k y = true) (h : x ≠ y) (xs ys : List D) : E9 (x :: xs) (y :: ys) = ltD x y := by iterate 1
 show ltL (1 :: (enc x ++ CN xs)) (1 :: (enc y ++ CN ys)) = _
 rw [show (1 :: (enc x ++ CN xs)) = [1] ++ (enc x ++ CN xs) from rfl, show (1 :: (enc y ++ CN ys)) = [1] ++ (enc y ++ CN ys) from rfl, FQ]
 exact (Lr n x y k hx hy h).lt _ _
end
section
open Classical
mutual
noncomputable def like : D -> D -> Bool
 | .int _, .int _ => true
 | .str _, .str _ => true
 | .tup xs, .tup ys => Dh xs ys
 | _, _ => false
noncomputable def Dh : List D -> List D -> Bool
 | x :: xs, y :: ys => like x y && Dh xs ys
 | _, _ => true
end
section
variable {prog : Program} {w : World} {B : Addr -> Prop}
theorem Lw {n : Nat} {x y : D} {u v : Value} {A : Around} {s : Shared} {Q : Bool -> Shared -> Prop} {E : Value -> Shared -> Prop} (hx : Al n x = true) (hy : Al n y = true) (ru : Aj B s.heap u x) (rv : Aj B s.heap v y) (hu : A.units + n + 2 < cLine)
  (h : Q (decide (x = y)) s) : wpAny (model prog w) A (PySem.eqBool u v) Q E s := by iterate 1
 refine SeqAt.eqBoolOverData prog w A E s u v _ _ _ _ Q (GD hx ru) (GD hy rv) (GE hx) (GE hy) ?_ ?_
 ·have := IE hx
  have := GG (CB x).depth (CB y).depth
  omega
 ·rw [IF hx hy]; exact h
theorem Os {d e : D} {va vb : Value} {A : Around} {s : Shared} {Q : Value -> Shared -> Prop} {E : Value -> Shared -> Prop} (hl : like d e = true) (ht : ∀ xs, d ≠ .tup xs) (ra : Aj B s.heap va d) (rb : Aj B s.heap vb e) (h : Q (.bool (ltD d e)) s) : wpAny (model prog w) A (compareOp .Lt va vb) Q E s := by iterate 1
 cases d with
 | int i =>
  cases e with
  | int j =>
   cases ra; cases rb
   rw [GI] at h
   exact PySem.P.lt_int h
  | _ => simp [like] at hl
 | str i =>
  cases e with
  | str j =>
   cases ra; cases rb
   rw [Lu] at h
   exact PySem.P.lt_str h
  | _ => simp [like] at hl
 | tup xs => exact absurd rfl (ht xs)
 | _ => simp [like] at hl
theorem Sn (h : like (.tup xs) e = true) : ∃ ys, e = .tup ys /\ Dh xs ys = true := by iterate 1
 cases e with
 | tup ys => exact ⟨ys, rfl, by simpa [like] using h⟩
 | _ => simp [like] at h
theorem lt_D : ∀ (n : Nat) (d e : D) (va vb : Value) (A : Around) (s : Shared) (Q : Value -> Shared -> Prop) (E : Value -> Shared -> Prop), Al n d = true -> Al n e = true -> like d e = true -> Aj B s.heap va d -> Aj B s.heap vb e ->
  A.units + n + 5 < cLine -> Q (.bool (ltD d e)) s -> wpAny (model prog w) A (compareOp .Lt va vb) Q E s := by iterate 1
 intro n
 induction n with
 | zero =>
  intro d e va vb A s Q E hd he hl ra rb hu h
  refine Os hl (fun xs q => ?_) ra rb h
  subst q; cases hd
 | succ n ih =>
  intro d e va vb A s Q E hd he hl ra rb hu h
  by_cases ht : ∃ xs, d = .tup xs
  case neg => exact Os hl (fun xs q => ht ⟨xs, q⟩) ra rb h
  obtain ⟨xs, rfl⟩ := ht
  obtain ⟨ys, rfl, hl⟩ := Sn hl
  cases ra with
  | @tup a vs k _ nb ho rs =>
  cases rb with
  | @tup b ws k' _ nb' ho' rs' =>
  have hTa : s.TypeIs (.ref a) "tuple" := ⟨_, ho, rfl⟩
  have hTb : s.TypeIs (.ref b) "tuple" := ⟨_, ho', rfl⟩
  rw [IN] at h
  show wpAny _ _ (richCompare .Lt (.ref a) (.ref b)) Q E s
  refine wpAny_richCompare_same_room (op := .Lt) hTa hTb F.slot_tuple_lt (Cz F.slot_tuple_lt hTa F.entry_tuple_lt ?_ (F.args_tuple_lt_2 _ _)) (by omega)
  show wpAny _ _ (isInstance (.ref b) (.type "tuple") >>= _) _ _ s
  refine Ab (FO hTb isSubtype_tuple_tuple ?_)
  simp only [FP, Be, if_false]
  refine Ab (N0 ho rfl ?_)
  refine Ab (N0 ho' rfl ?_)
  refine Ab ?_
  refine IK _
   (fun rest r s' => r.1 = none /\ s' = s /\ ∃ dx dy vx vy, rest = List.zip vx vy /\ Ak B s.heap vx dx /\ Ak B s.heap vy dy /\ Al (n + 1) (.tup dx) = true /\ Al (n + 1) (.tup dy) = true /\ Dh dx dy = true /\ E9 dx dy = E9 xs ys /\
    decide (vx.length < vy.length) = decide (vs.length < ws.length))
   _ ?_ ?_ _ _ ⟨rfl, rfl, xs, ys, vs, ws, rfl, rs, rs', hd, he, hl, rfl, rfl⟩
  ·rintro ⟨u, v⟩ rest r s' ⟨hr, rfl, dx, dy, vx, vy, hz, rx, ry, kx, ky, kl, klt, klen⟩
   cases rx with
   | nil => simp at hz
   | @cons u' x vx' dx' r1 rx' =>
   cases ry with
   | nil => simp at hz
   | @cons v' y vy' dy' r2 ry' =>
   simp only [Ik, Ot, Prod.mk.injEq] at hz
   obtain ⟨⟨rfl, rfl⟩, rfl⟩ := hz
   have hl' : like x y = true /\ Dh dx' dy' = true := by simpa [Dh] using kl
   refine Ab (Lw (A5 kx).1 (A5 ky).1 r1 r2 (by simp only [Around.in1_units]; omega) ?_)
   by_cases q : x = y
   ·rw [decide_eq_true q]
    simp only [FP, Be, if_false]
    subst q
    rw [Lv] at klt
    exact Ad ⟨rfl, rfl, dx', dy', vx', vy', rfl, rx', ry', (A5 kx).2, (A5 ky).2, hl'.2, klt, by simpa using klen⟩
   ·rw [decide_eq_false q]
    simp only [Lx, if_true]
    rw [IP (A5 kx).1 (A5 ky).1 q] at klt
    refine Ab (D2 ?_)
    refine Ab (ih x y _ _ _ _ _ _ (A5 kx).1 (A5 ky).1 hl'.1 r1 r2 (by simp only [Around.in1_units]; omega) ?_)
    refine Ab (Ad (Ad ?_))
    rw [klt]
    exact Ad ⟨_, rfl, (fun e => nomatch e), h⟩
  ·rintro ⟨r1, r2⟩ s' ⟨hr, rfl, dx, dy, vx, vy, hz, rx, ry, kx, ky, kl, klt, klen⟩
   simp only at hr
   subst hr
   refine Ad ⟨.bool (decide (vs.toArray.size < ws.toArray.size)), rfl, (fun e => nomatch e), ?_⟩
   have hfin : E9 dx dy = decide (vx.length < vy.length) := by
    have l1 := rx.length
    have l2 := ry.length
    cases dx with
    | nil =>
     cases dy with
     | nil => rw [l1, l2]; rfl
     | cons y ys => rw [l1, l2]; rfl
    | cons x xs =>
     cases dy with
     | nil => rw [l1, l2]; rfl
     | cons y ys =>
      exfalso
      cases vx with
      | nil => simp at l1
      | cons a b =>
       cases vy with
       | nil => simp at l2
       | cons a' b' => simp at hz
   simp only [Eh]
   rw [<- klen, <- hfin, klt]; exact h
end
end
section
open Classical
noncomputable def D4 (ds : List D) (i j : Nat) : Bool := ltD (ds.getD i .none) (ds.getD j .none)
noncomputable def DM (ds : List D) : Array Nat := AI (D4 ds) (Ez ds.length)
noncomputable def B9 (ds : List D) : List D := if ds.length < 2 then ds else (DM ds).toList.map fun i => ds.getD i .none
theorem IQ (ds : List D) : SWO (D4 ds) := by iterate 1
 exact ⟨fun a => Si _, fun a b c h1 h2 => Sk h1 h2, fun a b h => Sj h⟩
theorem So (ds : List D) : (Bn ds.length).map (fun i => ds.getD i .none) = ds := by iterate 1
 refine List.ext_getElem (by simp) fun i h1 h2 => ?_
 simp [h2]
theorem Di (ds : List D) : (B9 ds).Perm ds := by iterate 1
 unfold B9
 split
 ·exact .refl _
 ·have h := (Ih (IQ ds) ds.length (by omega)).1
  have h2 : (AI (D4 ds) (Ez ds.length)).toList.Perm (Bn ds.length) := by simpa using Ni.mp h
  have := h2.map fun i => ds.getD i .none
  rwa [So] at this
theorem IR (ds : List D) : (B9 ds).Pairwise fun a b => ltD b a = false := by iterate 1
 unfold B9
 split
 ·rename_i h
  match ds, h with
  | [], _ => exact .nil
  | [_], _ => exact El _ _
 ·have h := (Ih (IQ ds) ds.length (by omega))
  have hs := h.1.size_eq
  simp at hs
  rw [Ou]
  intro i j hi hj hij
  simp only [List.getElem_map]
  have hj' : j < (DM ds).size := by simpa using hj
  have hi' : i < (DM ds).size := by simpa using hi
  have := h.2 i j (by omega) (by unfold DM at hj'; omega)
  unfold At at this
  have e1 : (AI (D4 ds) (Ez ds.length)).getD i 0 = (DM ds).toList[i]'(by simpa using hi') := by
   show (DM ds).getD i 0 = _
   simp [Kz, hi']
  have e2 : (AI (D4 ds) (Ez ds.length)).getD j 0 = (DM ds).toList[j]'(by simpa using hj') := by
   show (DM ds).getD j 0 = _
   simp [Kz, hj']
  rw [e1, e2] at this
  exact this
theorem Ov : ∀ {xs ys : List D}, (∀ d ∈ xs, Al n d = true) -> xs.Perm ys -> xs.Pairwise (fun a b => ltD b a = false) -> ys.Pairwise (fun a b => ltD b a = false) -> xs = ys
 | [], ys, _, hp, _, _ => hp.nil_eq
 | x :: xs, ys, hk, hp, h1, h2 => by iterate 1
  match ys, hp with
  | [], hp => exact absurd hp.length_eq (by simp)
  | y :: ys, hp =>
   rw [List.pairwise_cons] at h1 h2
   have hx : x ∈ y :: ys := hp.mem_iff.mp Bv
   have hy : y ∈ x :: xs := hp.mem_iff.mpr Bv
   have hxy : x = y := by
    rcases Ay.mp hx with e | hx
    ·exact e
    ·rcases Ay.mp hy with e | hy
     ·exact e.symm
     ·exact Sl (hk x Bv) (hk y (BM _ hy)) (h2.1 x hx) (h1.1 y hy)
   subst hxy
   rw [Ov (fun d hd => hk d (BM _ hd)) (List.perm_cons x |>.mp hp) h1.2 h2.2]
theorem IS (hk : ∀ d ∈ ds, Al n d = true) (hp : ds.Perm es) (hs : es.Pairwise fun a b => ltD b a = false) : B9 ds = es := by iterate 1
 exact
  Ov (n := n) (fun d hd => hk d ((Di ds).mem_iff.mp hd)) ((Di ds).trans hp) (IR ds) hs
noncomputable def Ly : D -> Bool
 | .int _ => true
 | .str _ => true
 | _ => false
inductive Cls : List D -> SortKind -> Prop
 | kInts {ds : List D} : (∀ d ∈ ds, ∃ i, d = .int i) -> Cls ds oneType'
 | kStrs {ds : List D} : (∀ d ∈ ds, ∃ i, d = .str i) -> Cls ds oneType'
 | tupI {ds : List D} : (∀ d ∈ ds, ∃ i xs, d = .tup (.int i :: xs)) -> Cls ds (tuples' true)
 | tupS {ds : List D} : (∀ d ∈ ds, ∃ i xs, d = .tup (.str i :: xs)) -> Cls ds (tuples' true)
 | tupT {ds : List D} : (∀ d ∈ ds, ∃ i xs, d = .tup (.tup i :: xs)) -> Cls ds (tuples' false)
section
variable {prog : Program} {w : World} {B : Addr -> Prop}
theorem Sp {A : Around} {s : Shared} {b fin : Bool} {Q : Bool -> Shared -> Prop} {n : Nat} (hu : A.units + n + 6 < cLine) : ∀ (dx dy : List D) (vx vy : List Value) (i : Nat), Ak B s.heap vx dx -> Ak B s.heap vy dy -> Al (n + 1) (.tup dx) = true -> Al (n + 1) (.tup dy) = true ->
  Dh dx dy = true -> (b = true -> i = 0 -> ∀ x xs, dx = x :: xs -> Ly x = true) -> decide (vx.length < vy.length) = fin -> Q (E9 dx dy) s -> KatLex prog w A b fin Q (vx.zip vy) i s := by iterate 1
 intro dx
 induction dx with
 | nil =>
  intro dy vx vy i rx ry kx ky kl hb hf h
  cases rx
  cases dy with
  | nil => cases ry; subst hf; exact h
  | cons y ys =>
   cases ry
   have : fin = true := by rw [<- hf]; simp
   subst this; exact h
 | cons x xs ih =>
  intro dy vx vy i rx ry kx ky kl hb hf h
  cases rx
  rename_i u vx r1 rx
  cases dy with
  | nil =>
   cases ry
   have : fin = false := by rw [<- hf]; simp
   subst this; exact h
  | cons y ys =>
   cases ry
   rename_i v vy r2 ry
   have hl' : like x y = true /\ Dh xs ys = true := by simpa [Dh] using kl
   refine kat_cons (Lw (A5 kx).1 (A5 ky).1 r1 r2 (by omega) ?_)
   by_cases q : x = y
   ·rw [decide_eq_true q]
    refine kat_yes ?_
    subst q
    rw [Lv] at h
    exact ih ys vx vy (i + 1) rx ry (A5 kx).2 (A5 ky).2 hl'.2 (fun _ e => absurd e (Nat.succ_ne_zero _)) (by simpa using hf) h
   ·rw [decide_eq_false q]
    rw [IP (A5 kx).1 (A5 ky).1 q] at h
    refine kat_no ?_
    by_cases hbi : (b && i == 0) = true
    ·rw [hbi]
     simp only [Cv, beq_iff_eq] at hbi
     have ha := hb hbi.1 hbi.2 x xs rfl
     cases x with
     | int p =>
      cases y with
      | int q =>
       cases r1; cases r2
       rw [GI] at h
       exact oneLt_int h
      | _ => simp [like] at hl'
     | str p =>
      cases y with
      | str q =>
       cases r1; cases r2
       rw [Lu] at h
       exact oneLt_str h
      | _ => simp [like] at hl'
     | _ => simp [Ly] at ha
    ·have : (b && i == 0) = false := by simpa using hbi
     rw [this]
     exact kat_one u v (lt_D n x y u v A s _ _ (A5 kx).1 (A5 ky).1 hl'.1 r1 r2 (by omega) h)
theorem Ow (h : Heap) (M : Model) (i : Int) (t : Tok) : Looks M h (typeOf (.int i t)) (.type "int") := Looks.of_pure rfl
theorem Ox (h : Heap) (M : Model) (i : Str) (t : Tok) : Looks M h (typeOf (.str i t)) (.type "str") := Looks.of_pure rfl
theorem Ak.mem : ∀ {vs : List Value} {ds : List D}, Ak B h vs ds -> ∀ v ∈ vs, ∃ d ∈ ds, Aj B h v d
 | _, _, .nil, v, hv => by cases hv
 | _, _, .cons a b, v, hv => by iterate 1
  rcases Ay.mp hv with rfl | hv
  ·exact ⟨_, Bv, a⟩
  ·obtain ⟨d, hd, r⟩ := Ak.mem b v hv
   exact ⟨d, BM _ hd, r⟩
theorem IU : ∀ {vs : List Value} {ds : List D}, Ak B h vs ds -> (∀ d ∈ ds, ∃ x xs, d = .tup (x :: xs)) -> ∃ fs, KatTups h vs fs /\ fs.length = vs.length /\ ∀ f ∈ fs, ∃ x xs, .tup (x :: xs) ∈ ds /\ Aj B h f x
 | _, _, .nil, _ => ⟨[], trivial, rfl, fun f hf => by cases hf⟩
 | _, _, .cons (d := d) (ds := ds) a b, hd => by iterate 1
  obtain ⟨fs, k1, k2, k3⟩ := IU b fun d hd' => hd d (BM _ hd')
  obtain ⟨x, xs, e⟩ := hd d Bv
  subst e
  cases a with
  | @tup t vs' n _ nb ho rs =>
  cases rs with
  | @cons f _ ws _ r1 r2 =>
  refine ⟨f :: fs, KatTups.cons (xs := (f :: ws).toArray) ho rfl rfl (by simp) k1, by simp [k2], fun g hg => ?_⟩
  rcases Ay.mp hg with rfl | hg
  ·exact ⟨x, xs, Bv, r1⟩
  ·obtain ⟨y, ys, h1, h2⟩ := k3 g hg
   exact ⟨y, ys, BM _ h1, h2⟩
theorem Sq (x : Cls ds κ) (r : Ak B s.heap vs ds) (h2 : 2 <= vs.length) (h : Q κ s) : wpAny (model prog w) A (keyKind' vs.toArray) Q E s := by iterate 1
 cases x with
 | kInts hd =>
  refine kas_kind (T := .type "int") h2 (fun v hv => ?_) (by decide) (by decide) h
  obtain ⟨d, hd', rd⟩ := Ak.mem r v hv
  obtain ⟨i, rfl⟩ := hd d hd'
  cases rd; exact Ow _ _ _ _
 | kStrs hd =>
  refine kas_kind (T := .type "str") h2 (fun v hv => ?_) (by decide) (by decide) h
  obtain ⟨d, hd', rd⟩ := Ak.mem r v hv
  obtain ⟨i, rfl⟩ := hd d hd'
  cases rd; exact Ox _ _ _ _
 | tupI hd =>
  obtain ⟨fs, k1, k2, k3⟩ := IU r fun d hd' => let ⟨i, xs, e⟩ := hd d hd'; ⟨_, xs, e⟩
  refine kat_kind (T := .type "int") k1 (by omega) (fun f hf => ?_) (by decide) h
  obtain ⟨x, xs, hm, rf⟩ := k3 f hf
  obtain ⟨i, ys, e⟩ := hd _ hm
  cases e; cases rf; exact Ow _ _ _ _
 | tupS hd =>
  obtain ⟨fs, k1, k2, k3⟩ := IU r fun d hd' => let ⟨i, xs, e⟩ := hd d hd'; ⟨_, xs, e⟩
  refine kat_kind (T := .type "str") k1 (by omega) (fun f hf => ?_) (by decide) h
  obtain ⟨x, xs, hm, rf⟩ := k3 f hf
  obtain ⟨i, ys, e⟩ := hd _ hm
  cases e; cases rf; exact Ox _ _ _ _
 | tupT hd =>
  obtain ⟨fs, k1, k2, k3⟩ := IU r fun d hd' => let ⟨i, xs, e⟩ := hd d hd'; ⟨_, xs, e⟩
  refine kat_kind (T := .type "tuple") k1 (by omega) (fun f hf => ?_) (by decide) h
  obtain ⟨x, xs, hm, rf⟩ := k3 f hf
  obtain ⟨i, ys, e⟩ := hd _ hm
  cases e
  cases rf with
  | tup nb ho rs => exact (Looks.ld ho).andThen .now
theorem ask_D (x : Cls ds κ) (r : Ak B s.heap vs ds) (hk : ∀ d ∈ ds, Al (n + 1) d = true) (hl : ∀ d ∈ ds, ∀ e ∈ ds, like d e = true) (hu : A.units + n + 6 < cLine)
  {i j : Nat} {C : Bool -> Shared -> Prop} (hi : i < ds.length) (hj : j < ds.length) (h : C (D4 ds i j) s) : kas_ask prog w A κ vs i j C s := by iterate 1
 unfold kas_ask
 obtain ⟨u, hu1, ru⟩ := r.get (i := i) (d := ds[i]) (Bw hi)
 obtain ⟨v, hv1, rv⟩ := r.get (i := j) (d := ds[j]) (Bw hj)
 have e1 : vs.getD i Value.none = u := by simp [hu1]
 have e2 : vs.getD j Value.none = v := by simp [hv1]
 rw [e1, e2]
 have mi : ds[i] ∈ ds := GJ hi
 have mj : ds[j] ∈ ds := GJ hj
 have hlt : D4 ds i j = ltD ds[i] ds[j] := by simp [D4, hi, hj]
 rw [hlt] at h
 have ki := hk _ mi
 have kj := hk _ mj
 have l := hl _ mi _ mj
 generalize ds[i] = d at *
 generalize ds[j] = e at *
 have tup : ∀ (b : Bool) (x : D) (xs : List D) (y : D) (ys : List D), d = .tup (x :: xs) -> e = .tup (y :: ys) -> (b = true -> Ly x = true) -> wpAny (model prog w) A (keyLt' (tuples' b) u v) C (fun _ _ => False) s := by
  rintro b x xs y ys rfl rfl hb
  cases ru with
  | @tup a vx k _ nb ho rx =>
  cases rv with
  | @tup a' vy k' _ nb' ho' ry =>
  rw [IN] at h
  have l' : Dh (x :: xs) (y :: ys) = true := by simpa [like] using l
  refine kat_lt ho rfl ho' rfl ?_
  exact Sp (n := n) hu _ _ vx vy 0 rx ry ki kj l' (fun hb' _ x' xs' e => by cases e; exact hb hb') (by simp) h
 cases x with
 | kInts hd =>
  obtain ⟨p, rfl⟩ := hd d mi
  obtain ⟨q, rfl⟩ := hd e mj
  cases ru; cases rv
  rw [GI] at h
  exact kat_lt_int h
 | kStrs hd =>
  obtain ⟨p, rfl⟩ := hd d mi
  obtain ⟨q, rfl⟩ := hd e mj
  cases ru; cases rv
  rw [Lu] at h
  exact kas_lt_str h
 | tupI hd =>
  obtain ⟨p, xs, e1⟩ := hd d mi
  obtain ⟨q, ys, e2⟩ := hd e mj
  exact tup true _ _ _ _ e1 e2 fun _ => rfl
 | tupS hd =>
  obtain ⟨p, xs, e1⟩ := hd d mi
  obtain ⟨q, ys, e2⟩ := hd e mj
  exact tup true _ _ _ _ e1 e2 fun _ => rfl
 | tupT hd =>
  obtain ⟨p, xs, e1⟩ := hd d mi
  obtain ⟨q, ys, e2⟩ := hd e mj
  exact tup false _ _ _ _ e1 e2 fun e => nomatch e
end
end
section
open Classical
section
variable {c : Cx} {A : Around} {env : Env} {m : Au} {σ : Aa}
noncomputable def COL (c : Cx) (A : Around) (d : D) (σ : Aa) (P : List D -> Prop) : Prop := ∀ s v, Sim c σ s -> Aj c.bad s.heap v d ->
 wpAny c.M A (collect v) (fun vs s' => ∃ ds, P ds /\ Ak c.bad s'.heap vs ds /\ Ah c σ s σ s') (fun _ _ => False) s
theorem Ah.DA (S : Sim c σ s) (t : Nat) (k : ∀ b o, s.heap.get? b = some o -> h'.get? b = some o) : Ah c σ s σ { s with heap := h', toks := t } := by iterate 1
 exact
  ⟨S.heap (fun a o e => (S.1 a o e).1.mono (fun ob z => k _ _ z) fun _ _ _ e => k _ _ e) (fun b o e => k _ _ (S.2.1 b o e)) fun _ _ _ e => k _ _ e, fun b o _ e => k b o e, fun _ _ _ e => e⟩
theorem COL.list (h : σ l = some (.list ds)) (hz : ds.length <= 1000000) : COL c A (.ref l) σ (· = ds) := by iterate 1
 exact fun s v S r => by
  cases r
  obtain ⟨vs, n, ho, rs, hl⟩ := BF S h
  have e := rs.length
  refine collect_list hl ?_ (by rw [BA]; omega)
  have P := Ah.DA S (h' := (s.heap.push (seqObj "list" #[] 0)).update s.heap.objs.size (Obj.mapSeq (· ++ vs.toArray))) s.toks fun b o e => by
   rw [Heap.get?_update_ne _ _ _ _ (A8 (AZ e))]
   exact AA _ e
  exact ⟨ds, rfl, P.rels S rs, P⟩
theorem Sr {s : Shared} {a : Addr} {vs : List Value} {n k : Nat} {ds : List D} (S : Sim c σ s) (ho : s.heap.get? a = some (Ct vs n)) (hσ : σ a = none) (h0 : c.h₀.get? a = none) (rs : Ak c.bad s.heap vs ds) (h64 : ds.length < 64)
  (hcls : 2 <= ds.length -> ∃ κ, Cls ds κ) (hk : ∀ d ∈ ds, Al (k + 1) d = true) (hl : ∀ d ∈ ds, ∀ e ∈ ds, like d e = true) (hu : A.units + k + 8 < cLine) :
  wpAny c.M A (Builtin.«list.sort» ⟨[.ref a], []⟩) (fun fin s' => fin = .done (.ret .none) /\ ∃ h' vs' n', s' = { s with heap := h' } /\ h'.get? a = some (Ct vs' n') /\ Ak c.bad h' vs' (B9 ds) /\ ∀ b o, b ≠ a -> s.heap.get? b = some o -> h'.get? b = some o) (fun _ _ => False) s := by iterate 1
 have hlen := rs.length
 have s1 := Df s.heap a (Obj.mapSeq fun _ => (#[] : Array Value))
 obtain ⟨e1, ho1⟩ : ∃ e1, (s.heap.update a (Obj.mapSeq fun _ => (#[] : Array Value))).get? a = some (seqObj "list" #[] e1) := ⟨_, get?_update_seq ho fun _ => #[]⟩
 rw [list_sort_plain]
 refine Ab (listItems_at ho rfl ?_)
 refine Ab (listUpdate_at ho rfl ?_ (by rw [Eh, D1]; omega) (BC _))
 refine Ab (seqEpoch_at ho1 rfl ?_)
 refine Ab (Oy ?_ (by show vs.length <= _; rw [D1]; omega))
 refine Ab (wpAny_newList ?_ (BC _))
 refine Bh ?_
 generalize hH : ((s.heap.update a (Obj.mapSeq fun _ => (#[] : Array Value))).push (seqObj "tuple" vs.toArray 0)).push (seqObj "list" #[] 0) = H
 have keep : ∀ b o, b ≠ a -> s.heap.get? b = some o -> H.get? b = some o := fun b o hb e => by
  rw [<- hH]; exact AA _ (AA _ ((s1.2 b hb).trans e))
 have hoH : H.get? a = some (seqObj "list" #[] e1) := by rw [<- hH]; exact AA _ (AA _ ho1)
 have tk : AW s.heap H := fun b ws j e => keep b _ (fun q => by rw [q, ho] at e; injection e with e; exact absurd (congrArg Obj.cls e) (by show Value.type "list" ≠ Value.type "tuple"; decide)) e
 have rH : Ak c.bad H vs ds := rs.mono tk
 show wpAny c.M A _ _ _ { s with heap := H }
 dsimp only
 -- the end: the list is written back
 have fin : ∀ (st' : SortSt) (out : List Value) (outD : List D), (arrOf st').map (·.2) = out.toArray -> failedOf st' = none -> out.length = vs.length -> Ak c.bad H out outD -> outD = B9 ds ->
   wpAny c.M A (do
    let before' <- seqEpoch a
    let touched := before' != e1
    Builtin.List.listUpdate (.ref a) fun _ => (arrOf st').map (·.2)
    if let some e := failedOf st' then rule "list.sort.comparison-raised"; throw e
    if touched then rule "list.sort.modified"; raiseError "ValueError" "list modified during sort"
    ret .none : Sem PySem.Fin) (fun fin s' => fin = .done (.ret .none) /\ ∃ h' vs' n', s' = { s with heap := h' } /\ h'.get? a = some (Ct vs' n') /\ Ak c.bad h' vs' (B9 ds) /\ ∀ b o, b ≠ a -> s.heap.get? b = some o -> h'.get? b = some o) (fun _ _ => False) { s with heap := H } := by
  intro st' out outD hout hf hol rout hoD
  subst hoD
  have s2 := Df H a (Obj.mapSeq fun _ => out.toArray)
  obtain ⟨c2, hc2⟩ : ∃ c2, (H.update a (Obj.mapSeq fun _ => out.toArray)).get? a = some (seqObj "list" out.toArray c2) := ⟨_, get?_update_seq hoH fun _ => out.toArray⟩
  rw [hout]
  refine Ab (seqEpoch_at hoH rfl ?_)
  refine Ab (listUpdate_at hoH rfl ?_ (BC _) (by rw [Eh, D1]; omega))
  rw [hf]
  simp only [bne_self_eq_false, Be, if_false]
  have tk2 : AW H (H.update a (Obj.mapSeq fun _ => out.toArray)) := fun b ws j e => (s2.2 b (fun q => by rw [q, hoH] at e; injection e with e; exact absurd (congrArg Obj.cls e) (by show Value.type "list" ≠ Value.type "tuple"; decide))).trans e
  exact Ad ⟨rfl, _, out, c2, rfl, hc2, rout.mono tk2, fun b o hb e => (s2.2 b hb).trans (keep b o hb e)⟩
 by_cases h2 : ds.length < 2
 ·have hn2 : vs.toArray.size < 2 := by rw [Eh]; omega
  rw [if_pos hn2, if_pos hn2]
  refine Ab (Ad ?_)
  rw [StateT.run_pure]
  refine Ab (Ad ?_)
  refine fin _ vs ds ?_ rfl rfl rH (by unfold B9; rw [if_pos h2])
  show (vs.toArray.zip vs.toArray).map (·.2) = _
  apply It.mp
  simp
  exact List.map_snd_zip (Az _)
 ·have hn2 : ¬ vs.toArray.size < 2 := by rw [Eh]; omega
  rw [if_neg hn2, if_neg hn2]
  obtain ⟨κ, hcl⟩ := hcls (by omega)
  refine Ab (Sq hcl rH (by omega) ?_)
  have run := kat_run (prog := c.prog) (w := c.w) (A := A) (E := fun _ _ => False) (s := { s with heap := H }) (κ := κ) (ks := vs) (vs := vs) (Q := fun st' s' => s' = { s with heap := H } /\ ∃ p : Array Nat, p = DM ds /\ arrOf st' = p.map (kas_item (vs.toArray.zip vs.toArray)) /\ failedOf st' = none)
   (G := fun p s' => s' = { s with heap := H } /\ p = DM ds) rfl (by omega) (by omega) (fun p st' s' a1 a2 a3 ⟨a4, a5⟩ => ⟨a4, p, a5, a2, a3⟩) (by
    rw [hlen]
    refine Nh (lt := D4 ds) (n := ds.length) (fun i j C hi hj hC => ask_D (n := k) hcl rH hk hl (by omega) hi hj hC) _ (RA (by omega)) ⟨rfl, rfl⟩)
  refine Ab (Ai run ?_ fun _ _ e => e)
  rintro ⟨⟨⟩, st'⟩ s' ⟨rfl, p, hp, har, hf⟩
  dsimp only
  have hout := kat_snds rfl har
  have hpsz : p.size = ds.length := by
   have := (Ih (IQ ds) ds.length (by omega)).1.size_eq
   rw [hp]; unfold DM; simpa using this
  refine fin st' (p.toList.map fun i => vs.getD i Value.none) ((DM ds).toList.map fun i => ds.getD i .none) hout hf (by simp [hpsz, hlen]) ?_ (by unfold B9; rw [if_neg h2])
  rw [<- hp]
  have hin : ∀ i ∈ p.toList, i < ds.length := fun i hi => by
   have := (Ih (IQ ds) ds.length (by omega)).1
   have h3 : (AI (D4 ds) (Ez ds.length)).toList.Perm (Bn ds.length) := by simpa using Ni.mp this
   have h4 : i ∈ (AI (D4 ds) (Ez ds.length)).toList := by rw [hp] at hi; exact hi
   simpa using h3.mem_iff.mp h4
  generalize p.toList = l at hin
  induction l with
  | nil => exact .nil
  | cons i l ih =>
   have hi := hin i Bv
   obtain ⟨v, hv, rv⟩ := rH.get (i := i) (d := ds[i]) (Bw hi)
   have e1 : vs.getD i Value.none = v := by simp [hv]
   have e2 : ds.getD i D.none = ds[i] := by simp [hi]
   rw [AM, AM, e1, e2]
   exact .cons rv (ih fun j hj => hin j (BM _ hj))
theorem Ac.GK (hcol : COL c A.in1 d σ P)
   (hP : ∀ ds, P ds -> ds.length < 64 /\ (2 <= ds.length -> ∃ κ, Cls ds κ) /\ (∀ d ∈ ds, Al (k + 1) d = true) /\ (∀ d ∈ ds, ∀ e ∈ ds, like d e = true) /\ ∀ l, σ l = none -> Q (.ref l) (σ.set l (.list (B9 ds))))
   (hu : A.units + k + 20 < cLine) : Ac c A (.builtin "sorted") [d] σ Q := by iterate 1
 exact fun s vs S r => by
  cases r with
  | @cons v _ _ _ rv r =>
  cases r
  refine Calls.call_function_entry kind_sorted plain_sorted entry_sorted (args_sorted1 _) ?_
  unfold Builtin.«sorted»
  refine Ab (m := checkCount "sorted" 1 1 _) (Ad ?_)
  refine Ab (Ai (hcol s v S rv) (fun ws s1 ⟨ds, hp, rs, P1⟩ => ?_) fun _ _ e => e)
  obtain ⟨h64, hcls, hk, hl, q⟩ := hP ds hp
  have hlen := rs.length
  refine Ab (wpAny_newList ?_ (by rw [D1]; omega))
  have P2 := Ah.push P1.1 (Ct ws 0) s1.toks
  have hoL : (s1.heap.push (Ct ws 0)).get? s1.heap.objs.size = some (Ct ws 0) := AR _ rfl
  have rs2 : Ak c.bad (s1.heap.push (Ct ws 0)) ws ds := rs.mono fun _ _ _ e => AA _ e
  refine Ab (Bh (Cz slot_list_sort ⟨_, hoL, rfl⟩ entry_list_sort ?_ (args_list_sort _)))
  refine Ai (Sr (s := { s1 with heap := s1.heap.push (Ct ws 0) }) (k := k) P2.1 hoL P1.1.fresh P1.1.fresh₀ rs2 h64 hcls hk hl (by simp only [Around.in1_units]; omega)) (fun fin s3 ⟨e, h', vs', n', e3, ho', r', keep⟩ => ?_) fun _ _ e => e.elim
  subst e; subst e3
  refine ⟨_, rfl, Ad ⟨_, rfl, .ref s1.heap.objs.size, _, q _ P1.1.fresh, ?_, .ref _⟩⟩
  have hlt : ∀ b o, s1.heap.get? b = some o -> b ≠ s1.heap.objs.size := fun b o e => A8 (AZ e)
  have kk : ∀ b o, s1.heap.get? b = some o -> h'.get? b = some o := fun b o e => keep b o (hlt b o e) (AA _ e)
  have P4 : Ah c σ s1 σ { s1 with heap := h' } := Ah.DA P1.1 s1.toks kk
  refine P1.trans ⟨⟨fun b o e => ?_, P4.1.2⟩, fun b o _ e => kk b o e, fun b o e hb => ?_⟩
  ·unfold Aa.set at e
   by_cases qq : b = s1.heap.objs.size
   ·rw [if_pos qq] at e; cases e; subst qq
    exact ⟨⟨vs', n', ho', r'⟩, P1.1.fresh₀, P1.1.fresh_sys⟩
   ·rw [if_neg qq] at e; exact P4.1.1 b o e
  ·rw [Aa.B5 _ _ (hlt b o e)]; exact hb
end
end
section
variable {c : Cx} {A : Around} {env : Env} {m : Au} {σ : Aa}
theorem Ah.Lz {s : Shared} (S : Sim c σ s) {h' : Heap} {t : Nat} {vs : List Value} {n : Nat} {ds : List D} (k : ∀ b o, s.heap.get? b = some o -> h'.get? b = some o) (ho : h'.get? s.heap.objs.size = some (Ct vs n)) (r : Ak c.bad h' vs ds) :
  Ah c σ s (σ.set s.heap.objs.size (.list ds)) { s with heap := h', toks := t } := by iterate 1
 have P := Ah.DA S t k
 refine ⟨⟨fun b o e => ?_, P.1.2⟩, fun b o _ e => k b o e, fun b o e hb => ?_⟩
 ·unfold Aa.set at e
  by_cases q : b = s.heap.objs.size
  ·rw [if_pos q] at e; cases e; subst q; exact ⟨⟨vs, n, ho, r⟩, S.fresh₀, S.fresh_sys⟩
  ·rw [if_neg q] at e; exact P.1.1 b o e
 ·rw [Aa.B5 _ _ (A8 (AZ e))]; exact hb
theorem Ac.FR (h : σ l = some (.list ds)) (hz : ds.length <= 1000000) (q : Q (.tup ds) σ) : Ac c A (.type "tuple") [.ref l] σ Q := by iterate 1
 exact fun s vs S r => by
  cases r with
  | cons ra r =>
  cases r; cases ra
  obtain ⟨vs, n, ho, rs, hl⟩ := BF S h
  have e := rs.length
  refine call_tuple_list hl (fun h' hk => ?_) (by rw [BA]; simp; omega)
  have P1 := Ah.DA S s.toks hk
  have P2 := Ah.push P1.1 { cls := .type "tuple", data := .seq vs.toArray } s.toks
  exact ⟨.tup ds, σ, q, P1.trans P2, .tup (n := 0) P1.1.freshB (AR _ rfl) (rs.mono fun _ _ _ e => AA _ (hk _ _ e))⟩
theorem Ac.Oz (q : Q (.tup ds) σ) : Ac c A (.type "tuple") [.tup ds] σ Q := by iterate 1
 exact fun s vs S r => by
  cases r with
  | cons ra r =>
  cases r
  cases ra with
  | @tup a vs n _ nb ho rs => exact call_tuple_tup (items := vs.toArray) ⟨_, ho, rfl, n, rfl⟩ ⟨_, σ, q, .refl S, .tup nb ho rs⟩
theorem Ac.listL (h : σ l = some (.list ds)) (hz : ds.length <= 1000000) (q : ∀ l', σ l' = none -> Q (.ref l') (σ.set l' (.list ds))) : Ac c A (.type "list") [.ref l] σ Q := by iterate 1
 exact fun s vs S r => by
  cases r with
  | cons ra r =>
  cases r; cases ra
  obtain ⟨vs, n, ho, rs, hl⟩ := BF S h
  have e := rs.length
  refine call_list_seq (hsz := by rw [BA]; simp; omega) l (.inl rfl) ho rfl rfl fun h' c' hk hD => ?_
  exact ⟨_, _, q _ S.fresh, Ah.Lz (t := s.toks) S hk hD (rs.mono fun _ _ _ e => hk _ _ e), .ref _⟩
theorem Ac.listRange {r : Addr} {n : Nat} {t u v : Tok} {Q : D -> Aa -> Prop} (hh : A.handled = none) (h : σ r = some (.raw (FK n t u v))) (hz : n <= 1000000) (q : ∀ l', σ l' = none -> Q (.ref l') (σ.set l' (.list (Ce n)))) : Ac c A (.type "list") [.ref r] σ Q := by iterate 1
 exact fun s vs S ra => by
  cases ra with
  | cons ra ra' =>
  cases ra'; cases ra
  have ho := ((S.1 _ _ h).1).1
  have hsz : RS 0 n 1 = n := by rw [rangeSize_one]; split <;> omega
  refine call_list_range (a := 0) (b := n) (c := 1) (n := n) hh ho (small_one (by omega) (by omega) (by omega) (by omega)) hsz (by omega) fun h' tk acc' c' hk hD hacc => ?_
  have e : acc' = acc'.toList.toArray := by simp
  rw [e] at hD
  refine ⟨_, _, q _ S.fresh, Ah.Lz (t := tk) S hk hD ?_, .ref _⟩
  have key : ∀ (vs : List Value) (k : Nat), (∀ j v, vs[j]? = some v -> ∃ t, v = Value.int ((k + j : Nat) : Int) t) -> Ak c.bad h' vs ((List.range' k vs.length).map fun i : Nat => D.int (i : Int)) := by
   intro vs
   induction vs with
   | nil => intro k _; exact .nil
   | cons v vs ih =>
    intro k hv
    obtain ⟨t, e⟩ := hv 0 v rfl
    subst e
    have := ih (k + 1) fun j v hj => by
     obtain ⟨t, e⟩ := hv (j + 1) v (by simpa using hj)
     exact ⟨t, by rw [e]; congr 2; omega⟩
    show Ak _ _ _ (D.int (k : Int) :: (List.range' (k + 1) vs.length).map fun i : Nat => D.int (i : Int))
    exact .cons (by simpa using Aj.int _ _) this
  have hk2 := key acc'.toList 0 fun j v hj => by
   obtain ⟨t, e⟩ := hacc.2 j v (by simpa using hj)
   exact ⟨t, by rw [e]; congr 1; omega⟩
  have hlen : acc'.toList.length = n := by rw [CP]; exact hacc.1
  rw [hlen] at hk2
  unfold Ce
  rw [List.range_eq_range']
  exact hk2
theorem Ac.int (q : Q (.int i) σ) : Ac c A (.type "int") [.int i] σ Q := by iterate 1
 exact fun s vs S r => by
  cases r with
  | cons ra r => cases r; cases ra; exact PySem.call_int_int ⟨_, σ, q, .refl S, .int _ _⟩
theorem Ac.min2 (hh : A.handled = none) (q : Q (.int (min i j)) σ) : Ac c A (.builtin "min") [.int i, .int j] σ Q := by iterate 1
 exact fun s vs S r => by
  cases r with
  | cons ra r =>
  cases r with
  | cons rb r =>
  cases r; cases ra; cases rb
  refine min_two_ints hh fun h' tk hk => ?_
  refine ⟨_, σ, q, Ah.DA S tk hk, ?_⟩
  by_cases h : j < i
  ·rw [if_pos h, show min i j = j by omega]; exact .int _ _
  ·rw [if_neg h, show min i j = i by omega]; exact .int _ _
theorem OA (h : IntsAre vs ns) : ∃ xs : Array (Int × Tok), vs.toArray = intItems xs /\ ns = xs.toList.map (·.1) := by iterate 1
 induction h with
 | nil => exact ⟨#[], by simp [intItems], rfl⟩
 | cons n t _ ih =>
  obtain ⟨xs, h1, h2⟩ := ih
  refine ⟨((n, t) :: xs.toList).toArray, ?_, by simp [h2]⟩
  apply It.mp
  have := congrArg Array.toList h1
  simp [intItems] at this ⊢
  exact this
theorem Ac.sum {l : Addr} {ns : List Int} {Q : D -> Aa -> Prop} (hh : A.handled = none) (h : σ l = some (.list (ns.map .int))) (q : ∀ i, Q (.int i) σ) : Ac c A (.builtin "sum") [.ref l] σ Q := by iterate 1
 exact fun s vs S r => by
  cases r with
  | cons ra r =>
  cases r; cases ra
  obtain ⟨vs, n, ho, rs, hl⟩ := BF S h
  obtain ⟨xs, h1, h2⟩ := OA (Hq rs)
  rw [h1] at hl
  exact sum_intListG hh hl fun h' tk t' hk => ⟨_, σ, q _, Ah.DA S tk hk, .int _ _⟩
theorem Ac.max (hh : A.handled = none) (h : σ l = some (.list (ns.map .int))) (hne : ns ≠ []) (q : ∀ i, Q (.int i) σ) : Ac c A (.builtin "max") [.ref l] σ Q := by iterate 1
 exact fun s vs S r => by
  cases r with
  | cons ra r =>
  cases r; cases ra
  obtain ⟨vs, n, ho, rs, hl⟩ := BF S h
  obtain ⟨xs, h1, h2⟩ := OA (Hq rs)
  rw [h1] at hl
  have hsz : 0 < xs.size := by
   rcases Nat.eq_zero_or_pos xs.size with e | e
   ·exfalso; apply hne; rw [h2]
    have : xs.toList = [] := Ss (by simpa using e)
    rw [this]; rfl
   ·exact e
  refine max_intList hh hl hsz fun v h' tk hv hk => ?_
  obtain ⟨t, rfl⟩ := intItems_at hv
  exact ⟨_, σ, q _, Ah.DA S tk hk, .int _ _⟩
theorem Ac.Su {K : Type} [DecidableEq K] (dk : DK K) {a : Addr} {es : List (K × D)} {Q : D -> Aa -> Prop} (h : σ a = some (dk.of es)) (hz : es.length <= 1000000) (q : ∀ l', σ l' = none -> Q (.ref l') (σ.set l' (dk.of es))) : Ac c A (.type "dict") [.ref a] σ Q := by iterate 1
 exact fun s vs S r => by
  cases r with
  | cons ra r =>
  cases r; cases ra
  obtain ⟨kvs, x, rk⟩ := (dk.iff ..).mp (S.1 _ _ h).1
  have hl := rk.length
  refine kt_call_dict (far S h) x (by rw [BA]; omega) fun h' hd hs => ?_
  have hk : ∀ b o, s.heap.get? b = some o -> h'.get? b = some o := fun b o e => (hs.2 b (A8 (AZ e))).trans (AA _ e)
  have P := Ah.DA S s.toks hk
  refine ⟨_, _, q _ S.fresh, ⟨⟨fun b o e => ?_, P.1.2⟩, fun b o _ e => hk b o e, fun b o e hb => ?_⟩, .ref _⟩
  ·unfold Aa.set at e
   by_cases q : b = s.heap.objs.size
   ·rw [if_pos q] at e; cases e; subst q; exact ⟨(dk.iff ..).mpr ⟨kvs, hd, rk.mono fun _ _ _ e => hk _ _ e⟩, S.fresh₀, S.fresh_sys⟩
   ·rw [if_neg q] at e; exact P.1.1 b o e
  ·rw [Aa.B5 _ _ (A8 (AZ e))]; exact hb
noncomputable def EG (d : Addr) : Obj := { cls := .type "dict_items", data := .fields #[.ref d] }
theorem Ac.items (h : σ a = some (.dictS es)) (q : ∀ l', σ l' = none -> Q (.ref l') (σ.set l' (.raw (EG a)))) : Ac c A (.builtin "dict.items") [.ref a] σ Q := by iterate 1
 exact fun s vs S r => by
  cases r with
  | cons ra r =>
  cases r
  obtain ⟨hT, _⟩ := KU h s _ S ra
  cases ra
  obtain ⟨kvs, x, rk⟩ := (S.1 _ _ h).1
  refine Li F.slot_dict_items hT F.entry_dict_items (F.args_dict_items_1 _) (meets_dict_items (PySem.strKind c.prog c.w) a (far S h)) ⟨⟨kvs, x⟩, ?_⟩
  exact ⟨_, _, q _ S.fresh, Ah.EC S (EG a) s.toks (o := .raw (EG a)) ⟨AR _ rfl, by show Value.type "dict_items" ≠ Value.type "tuple"; decide⟩, .ref _⟩
noncomputable def BW (es : List (Str × D)) : List D := es.map fun e => .tup [.str e.1, e.2]
theorem OB (S : Sim c σ s) (rk : AF c.bad s.heap kvs es) (hk : ∀ b o, s.heap.get? b = some o -> h'.get? b = some o)
  (hl : as.length = kvs.length) (G : KdxG (PySem.strKind c.prog c.w) kvs s.heap.objs.size h' as) : Ak c.bad h' (as.map Value.ref) (BW es) := by iterate 1
 have nb : ∀ a ∈ as, ¬ c.bad a := fun a ha hb => by
  obtain ⟨vs, n, e⟩ := S.2.2.2.2 a hb
  exact absurd (AZ e) (ED.mpr (Bz (G.above a ha)))
 have key : ∀ (as : List Addr) (kvs : List (Str × Value)) (es : List (Str × D)), as.length = kvs.length -> AF c.bad s.heap kvs es -> (∀ a ∈ as, ¬ c.bad a) ->
   (∀ (j : Nat) (a : Addr), as[j]? = some a -> ∃ key k x, kvs[j]? = some (k, x) /\ (PySem.strKind c.prog c.w).is k key = true /\ h'.get? a = some { cls := .type "tuple", data := .seq #[key, x] }) -> Ak c.bad h' (as.map Value.ref) (BW es) := by
  intro as
  induction as with
  | nil =>
   intro kvs es hl r _ _
   cases kvs with
   | cons _ _ => simp at hl
   | nil =>
    cases es with
    | nil => exact .nil
    | cons _ _ => exact r.elim
  | cons a as ih =>
   intro kvs es hl r hnb hp
   cases kvs with
   | nil => simp at hl
   | cons kv kvs =>
    cases es with
    | nil => exact r.elim
    | cons e es =>
     obtain ⟨k, v⟩ := kv
     obtain ⟨k', d⟩ := e
     obtain ⟨e, rd, r⟩ := r
     subst e
     obtain ⟨key, k2, x, e1, e2, e3⟩ := hp 0 a rfl
     cases e1
     obtain ⟨t, rfl⟩ := PySem.Value.isStrOf_shape e2
     refine .cons (.tup (n := 0) (vs := [.str k t, v]) (hnb a Bv) e3 (.cons (.str _ _) (.cons (rd.mono fun _ _ _ e => hk _ _ e) .nil))) (ih kvs es (by simpa using hl) r (fun a ha => hnb a (BM _ ha)) fun j a hj => ?_)
     exact hp (j + 1) a (by simpa using hj)
 exact key as kvs es hl rk nb G.pairs
theorem OC (S : Sim c σ s) (h : σ a = some (.dictS es)) (hl : σ l = some (.raw (EG a))) :
  ∃ kvs ep, s.heap.IsItemsView l a /\ s.heap.DictAt (PySem.strKind c.prog c.w) a kvs ep /\ AF c.bad s.heap kvs es := by iterate 1
 obtain ⟨kvs, x, rk⟩ := (S.1 _ _ h).1
 obtain ⟨ep, hat⟩ := x.dictAt
 exact ⟨kvs, ep, ⟨_, (S.1 _ _ hl).1.1, rfl, rfl⟩, hat, rk⟩
theorem Ac.listItems (hh : A.handled = none) (h : σ a = some (.dictS es)) (hl : σ l = some (.raw (EG a))) (hz : es.length <= 1000000) (q : ∀ l', σ l' = none -> Q (.ref l') (σ.set l' (.list (BW es)))) :
   Ac c A (.type "list") [.ref l] σ Q := by iterate 1
 exact fun s vs S r => by
  cases r with
  | cons ra r =>
  cases r; cases ra
  obtain ⟨kvs, ep, hv, hat, rk⟩ := OC S h hl
  have hlen := rk.length
  refine kdx_call hh hv hat (by rw [BA]; omega) fun h' tk acc c' as hk hD hl' hG hacc => ?_
  have e : acc = (as.map Value.ref).toArray := by rw [<- hacc]
  rw [e] at hD
  exact ⟨_, _, q _ S.fresh, Ah.Lz (t := tk) S hk hD (OB S rk hk hl' hG), .ref _⟩
theorem COL.items (hh : A.handled = none) (h : σ a = some (.dictS es)) (hl : σ l = some (.raw (EG a))) (hz : es.length <= 1000000) : COL c A (.ref l) σ (· = BW es) := by iterate 1
 exact fun s v S r => by
  cases r
  obtain ⟨kvs, ep, hv, hat, rk⟩ := OC S h hl
  have hlen := rk.length
  refine kdx_collect hh hv hat (by rw [BA]; omega) fun h' tk as hk hl' hG => ?_
  exact ⟨_, rfl, OB S rk hk hl' hG, Ah.DA S tk hk⟩
theorem Ac.isspace (q : Q (.bool (Txt.isspace x)) σ) : Ac c A (.builtin "str.isspace") [.str x] σ Q := by iterate 1
 exact fun s vs S r => by
  cases r with
  | cons ra r => cases r; cases ra; exact PySem.SC.isspace ⟨_, σ, q, .refl S, .bool _⟩
end
noncomputable def Em (h : Heap) (d : Addr) (es : Array DictEntry) (ep : Nat) : Prop := ∃ o, h.get? d = some o /\ o.ExactDict /\ o.data = .dict es ep
theorem Em.at (x : Em h d es ep) (k : ∀ o, h.get? d = some o -> h'.get? d = some o) : Em h' d es ep := let ⟨o, ho, r⟩ := x; ⟨o, k o ho, r⟩
theorem Em.typeIs {s : Shared} {d : Addr} {es : Array DictEntry} {ep : Nat} (x : Em s.heap d es ep) : s.TypeIs (.ref d) "dict" := let ⟨o, ho, e, _⟩ := x; ⟨o, ho, e.1⟩
section
variable {prog : Program} {w : World} {A : Around} {E : Value -> Shared -> Prop} {s : Shared}
theorem Sv {d : Addr} {es : Array DictEntry} {ep : Nat} {Q : Value -> Shared -> Prop} (hd : (d == sysModules) = false) (hm : Em s.heap d es ep)
  (hQ : Q (.ref s.heap.objs.size) { s with heap := s.heap.push { cls := .type "dict_keyiterator", data := .fields #[.ref d, .int 0 0, .int es.size 0, .int ep 0] } }) :
  wpAny (model prog w) A (pyIter (.ref d)) Q E s := by iterate 1
 have hT := hm.typeIs
 obtain ⟨o, ho, hc, hdat⟩ := id hm
 refine OD hT F.slot_dict_iter (Cz F.slot_dict_iter hT F.entry_dict_iter ?_ (F.args_dict_iter_1 _))
 unfold Builtin.«dict.__iter__»
 refine Ab ?_
 unfold Builtin.Dict.dictSlotNone
 refine Ab (Od hT ?_)
 show wpAny _ _ (pure (Value.ref d)) _ _ s
 refine Ad ?_
 show wpAny _ _ (Sw d >>= _) _ _ s
 unfold Sw
 rw [if_neg (by rw [hd]; exact Cu)]
 refine Ab (Ad ?_)
 refine Ab (Lp ho hdat ?_)
 refine Ab (OE ho hdat ?_)
 refine Ab (CM (Ad ⟨_, rfl, "dict_keyiterator", _, ⟨_, AR _ rfl, rfl⟩, F.slot_dict_keyiterator_next.lookup, ?_⟩))
 simpa [rawInt] using hQ
theorem Sx {it d : Addr} {i ep : Nat} {es : Array DictEntry} {e : DictEntry} {Q : Option Value -> Shared -> Prop} (hit : s.heap.IsKeyIter it d i es.size ep)
  (hm : Em s.heap d es ep) (hx : es[i]? = some e)
  (hQ : ∀ h', h'.IsKeyIter it d (i + 1) es.size ep -> Heap.SameBut it s.heap h' -> Q (some e.key) { s with heap := h' }) :
  wpAny (model prog w) A (pyNext (.ref it)) Q E s := by iterate 1
 obtain ⟨o, ho, hc, hd⟩ := id hit
 obtain ⟨od, hod, hcd, hdd⟩ := id hm
 unfold pyNext
 refine Ab (FS (Ek (name := Str.ofString "__next__") hit.typeIs F.slot_dict_keyiterator_next
  (Cz F.slot_dict_keyiterator_next hit.typeIs F.entry_dict_keyiterator_next ?_ (F.args_dict_keyiterator_next_1 _))))
 refine Ab (Ad ?_)
 refine Ab ?_
 refine Ab ?_
 first | refine Ab (LA hit.typeIs (Ad ?_)) | refine Ab (LB hit.typeIs (Ad ?_))
 refine Ab (Hr ho hd ?_)
 have hown : Sy "dict_keyiterator" = false := by decide
 simp only [hown, Be, if_false]
 show wpAny _ _ (if (Value.ref d == Value.none) = true then _ else _) _ _ s
 rw [if_neg (show ¬ ((Value.ref d == Value.none) = true) from Cu)]
 refine Ab (Ad ?_)
 refine Ab (Lp hod hdd ?_)
 rw [if_neg (by simp)]
 refine Ab (Ad ?_)
 refine Ab (OE hod hdd ?_)
 rw [if_neg (by simp)]
 refine Ad ?_
 obtain ⟨hlt', rfl⟩ := OF.mp hx
 simp only [show ¬ ((i : Int) < 0) from by omega, if_false, Fb, CA hlt']
 refine Ab ?_
 first | refine Ab (LA hit.typeIs (Ad ?_)) | refine Ab (LB hit.typeIs (Ad ?_))
 refine Ab (wpAny_isOneOf_keyiter hit.typeIs ?_)
 show wpAny _ _ (setField (.ref it) 1 (rawInt ((i : Int) + 1)) >>= _) _ _ s
 refine Ab (LC ho hd (by simp) ?_)
 have hit' : (s.heap.update it (Obj.mapFields (·.setIfInBounds 1 (rawInt ((i : Int) + 1))))).IsKeyIter it d (i + 1) es.size ep :=
  ⟨_, EE _ ho (Obj.isFreed_of_fields (Obj.data_mapFields hd _)), (Obj.cls_mapFields ..).trans hc, by rw [Obj.data_mapFields hd]; simp [rawInt]⟩
 refine Ab (Bh ?_)
 refine Ab (wpAny_isOneOf_keyiter (s := { s with heap := s.heap.update it (Obj.mapFields (·.setIfInBounds 1 (rawInt ((i : Int) + 1)))) }) hit'.typeIs ?_)
 show wpAny _ _ (pure es[i].key) _ _ _
 exact Ad (Ad ⟨_, rfl, Ad (hQ _ hit' (Df ..))⟩)
theorem Sz {it d : Addr} {i ep : Nat} {es : Array DictEntry} {Q : Option Value -> Shared -> Prop} (hh : A.handled = none) (hit : s.heap.IsKeyIter it d i es.size ep)
  (hm : Em s.heap d es ep) (hx : es.size <= i)
  (hQ : ∀ h', Heap.ExtBut it s.heap h' -> Q none { s with heap := h' }) : wpAny (model prog w) A (pyNext (.ref it)) Q E s := by iterate 1
 obtain ⟨o, ho, hc, hd⟩ := id hit
 obtain ⟨od, hod, hcd, hdd⟩ := id hm
 unfold pyNext
 refine Ab (FS (Ek (name := Str.ofString "__next__") hit.typeIs F.slot_dict_keyiterator_next
  (Cz F.slot_dict_keyiterator_next hit.typeIs F.entry_dict_keyiterator_next ?_ (F.args_dict_keyiterator_next_1 _))))
 refine Ab (Ad ?_)
 refine Ab ?_
 refine Ab ?_
 first | refine Ab (LA hit.typeIs (Ad ?_)) | refine Ab (LB hit.typeIs (Ad ?_))
 refine Ab (Hr ho hd ?_)
 have hown : Sy "dict_keyiterator" = false := by decide
 simp only [hown, Be, if_false]
 show wpAny _ _ (if (Value.ref d == Value.none) = true then _ else _) _ _ s
 rw [if_neg (show ¬ ((Value.ref d == Value.none) = true) from Cu)]
 refine Ab (Ad ?_)
 refine Ab (Lp hod hdd ?_)
 rw [if_neg (by simp)]
 refine Ab (Ad ?_)
 refine Ab (OE hod hdd ?_)
 rw [if_neg (by simp)]
 refine Ad ?_
 simp only [show ¬ ((i : Int) < 0) from by omega, if_false, Fb, IV hx]
 refine Ab ?_
 first | refine Ab (LA hit.typeIs (Ad ?_)) | refine Ab (LB hit.typeIs (Ad ?_))
 show wpAny _ _ (setField (.ref it) 0 .none >>= _) _ _ s
 refine Ab (LC ho hd (by simp) ?_)
 show wpAny _ _ (newExc (.type "StopIteration") [] >>= _) _ _ _
 refine Ab ?_
 simp only [newExc, newTuple]
 refine Ab (CM ?_ (by size_fits))
 refine Ab (m := firstArgMember _ _) (Ho (a := Value.none) (by first | rfl | (simp only [firstArgMember]; rfl)) ?_)
 refine CM ?_ (by size_fits)
 simp only [raiseNew]
 refine Ab (LD ?_)
 rw [show A.in1.handled = none from hh]
 refine Ab (Ad (LF ?_))
 refine Ab (FO (T := "StopIteration") (b := true) ⟨_, AR _ rfl, rfl⟩ IW ?_)
 exact Ad (hQ _ (((Df ..).extBut.push _).push _))
theorem SA (hh : A.handled = none) (I d : Addr) (hne : d ≠ I) (es : Array DictEntry) (ep : Nat) :
   Walks prog w A I [I, d] [I] es.size (fun i v => ∃ e, es[i]? = some e /\ v = e.key) (fun i h => h.IsKeyIter I d i es.size ep /\ Em h d es ep) := by iterate 1
 exact {
  sub := fun b hb => by simp at hb; simp [hb]
  frame := fun _ _ _ st hk => ⟨st.1.at fun o e => hk I (by simp) o e, st.2.at fun o e => hk d (by simp) o e⟩
  item := fun i s Q E hi st hQ => by
   refine Sx st.1 st.2 (e := es[i]) (by simp [hi]) fun h' hit' hs' => ?_
   exact hQ _ h' s.toks ⟨es[i], by simp [hi], rfl⟩ ⟨hit', st.2.at fun o e => hs'.extBut d o hne e⟩ fun b o hb e => hs'.extBut b o (fun h => hb (by simp [h])) e
  done := fun s Q E st hQ => Sz hh st.1 st.2 (Az _) fun h' he' => hQ h' s.toks fun b o hb e => he' b o (fun h => hb (by simp [h])) e
  self := fun _ _ _ _ st hQ => wpAny_pyIter_keyiter st.1 hQ }
theorem SD (lo : (d == sysModules) = false) : KdlSrc prog w "dict" d d es.size (fun i v => ∃ e, es[i]? = some e /\ v = e.key) (fun h => Em h d es ep) := by iterate 1
 exact {
  type := fun _ hm => hm.typeIs
  there := fun _ hm => let ⟨o, ho, _⟩ := hm; ⟨AZ ho, AZ ho⟩
  keep := fun _ _ hm hk => hm.at fun o e => hk d (.inl rfl) o e
  notList := by decide
  notTuple := by decide
  hint := fun _ _ _ _ hm hq => kdl_hint_dict hm.typeIs hq
  iter := fun _ s hh hm => ⟨_, _, (fun _ _ hq => Sv lo hm hq), SA hh _ d (by obtain ⟨o, ho, _⟩ := hm; exact A8 (AZ ho)) es ep, ⟨⟨_, AR _ rfl, rfl, rfl⟩, hm.at fun o e => AA _ e⟩⟩ }
end
section
variable {c : Cx} {A : Around} {env : Env} {m : Au} {σ : Aa}
theorem LG : ∀ {arr : List DictEntry} {es : List (List D × D)}, Du B w h arr es -> Ak B h (arr.map (·.key)) (es.map fun e => .tup e.1)
 | [], [], _ => .nil
 | e :: r, (k, d) :: r', ⟨h1, h2, h3, h4, h5⟩ => .cons h2 (LG h5)
 | [], _ :: _, f => f.elim
 | _ :: _, [], f => f.elim
theorem COL.keysT (hh : A.handled = none) (h : σ a = some (.dictT es)) (hz : es.length <= 1000000) : COL c A (.ref a) σ (· = es.map fun e => .tup e.1) := by iterate 1
 exact fun s v S r => by
  cases r
  obtain ⟨o, arr, ep, ho, hx, hd, rt, nd⟩ := (S.1 _ _ h).1
  have hlen := (LG rt).length
  simp at hlen
  refine kdu_collect (SD (es := arr) (ep := ep) (far S h)) hh ⟨o, ho, hx, hd⟩ (by rw [BA]; omega) fun h' tk acc hk hacc => ?_
  have e : acc.toList = arr.toList.map (·.key) := by
   refine OG fun i => ?_
   by_cases hi : i < acc.size
   ·obtain ⟨x, hx1, hx2⟩ := hacc.2 i acc[i] (by simp [hi])
    rw [DV, Bs, DV, hx1, <- CA hi |>.symm]
    simp [hi, hx2]
   ·have h1 : acc.size = arr.size := hacc.1
    simp [h1 ▸ hi]
    omega
  rw [e]
  have P := Ah.DA S tk hk
  exact ⟨_, rfl, P.rels S (LG rt), P⟩
end
theorem SE : typeLookup (.type "list") "keys" = pure none := by iterate 1 rw [OH, OI]; kernel_rfl
section
variable {prog : Program} {w : World} {A : Around} {E : Value -> Shared -> Prop}
theorem SF {s : Shared} {a : Addr} {o : Obj} {xs : Array Value} {k : Nat} {Q : Option Value -> Shared -> Prop} (hx : s.heap.get? a = some o) (hc : o.cls = .type "list") (hs : o.dict = none) (hsl : o.slots = #[]) (hd : o.data = .seq xs k) (hA : A.handled = none)
  (h : ∀ h' tk, (∀ b o, s.heap.get? b = some o -> h'.get? b = some o) -> Q none { s with heap := h', toks := tk }) : wpAny (model prog w) A (getAttr? (.ref a) "keys") Q E s := by iterate 1
 obtain ⟨c, dct, dat, sl⟩ := o
 simp only at hc hd hs hsl
 subst hc hd hs hsl
 obtain ⟨hp, g, d, tk, os⟩ := s
 have hT : ∀ tk', (⟨hp, g, d, tk', os⟩ : Shared).TypeIs (.ref a) "list" := fun _ => ⟨_, hx, rfl⟩
 have f1 := sub_AttributeError
 have f3 := F.slot_list_getattribute.lookup
 have f4 := F.slot_list_getattribute.bind (.ref a)
 have f5 := am_list_getattr_none
 unfold getAttr? getAttrBy? getAttrBy
 repeat (any_goals (first | assumption | exact hT _ | ((with_reducible show wpAny _ _ (call (Value.builtin "list.__getattribute__") _ _) _ _ _); refine Le F.slot_list_getattribute (hT _) am_entry_list_getattribute (F.args_list_getattribute_2 _ _) (meets_getattribute_miss_list a xs k #[] _ _ SE (by decide +kernel) (by rw [BA]; decide)) ⟨hx, hA, fun h' tk' e hx' => ?_⟩) | wp_step))
 obtain ⟨t', u', he⟩ := hx'.there
 show wpAny _ _ (getattributeRaised _ _ _ _ _ _ _) _ _ _
 unfold getattributeRaised
 repeat (any_goals (first | assumption | wp_step))
 exact h _ _ hx'.keeps
end
theorem IX : plainId "dict.update.loop" = true := by decide +kernel
theorem OJ : entryFor table "dict.update.loop" = some Builtin.«dict.update.loop» := entryFor_of_tree (by kernel_rfl)
noncomputable def EH {K : Type} [DecidableEq K] : List (K × D) -> List (K × D) -> List (K × D)
 | es, [] => es
 | es, (k, d) :: r => EH (Bb es k d) r
section
variable {c : Cx} {A : Around} {env : Env} {m : Au} {σ : Aa}
theorem SG (r : Aj c.bad h v (.tup [.str k, d])) : ∃ a n t x, v = .ref a /\ h.get? a = some (AV [.str k t, x] n) /\ Aj c.bad h x d := by iterate 1
 cases r with
 | @tup a vs n _ nb ho rs =>
 cases rs with
 | cons r1 rs =>
 cases rs with
 | cons r2 rs =>
 cases rs
 cases r1
 exact ⟨a, n, _, _, rfl, ho, r2⟩
theorem SH {l I S : Addr} {ps : List (Str × D)} (hh : A.handled = none) : ∀ (n i : Nat) (es : List (Str × D)) (σ : Aa) (s : Shared) (tk : Int), n = ps.length - i -> i <= ps.length -> Sim c σ s -> σ l = some (.list (BW ps)) -> σ S = some (.dictS es) -> l ≠ S -> s.heap.IsListIter I l i -> σ I = none -> c.h₀.get? I = none ->
  es.length + (ps.length - i) <= 1000000 ->
  codeAny c.M A (.builtin "dict.update.loop" ⟨[.ref S, .ref I, .int tk 0, .none], []⟩) (fun r s' => r = .ok (.ret .none) /\ ∃ h' t, s' = { s with heap := h', toks := t } /\ Sim c (σ.set S (.dictS (EH es (ps.drop i)))) s' /\ ∀ b o, b ≠ I -> b ≠ S -> s.heap.get? b = some o -> h'.get? b = some o) s := by iterate 1
 intro n
 induction n with
 | zero =>
  intro i es σ s tk hn hi S' hl hS hlS hit hI hI0 hz
  have hi' : i = ps.length := by omega
  subst hi'
  obtain ⟨vs, k, ho, r, hlist⟩ := BF S' hl
  have hlen := r.length
  simp [BW] at hlen
  refine FT OJ ?_
  rw [Around.under_plainId IX _]
  show wpAny _ _ (pyNext (.ref I) >>= _) _ _ s
  refine Ab (NC (A := A.in1) hh hit hlist (by simp; omega) fun h' he => ?_)
  show wpAny _ _ (Builtin.Dict.addKeywords S [] >>= _) _ _ _
  obtain ⟨o, hoI, hcI, _⟩ := hit
  have C : Chg c [I] s.heap h' := Chg.one hoI (by rw [hcI]; show Value.type "list_iterator" ≠ Value.type "tuple"; decide) fun b o hb e => he b o (fun q => hb (Ag.mpr q)) e
  have S1 := S'.chg (fun b hb => by cases Ag.mp hb; exact ⟨hI, hI0⟩) C s.toks
  refine Ab (Ad (Ad ⟨rfl, h', s.toks, rfl, ?_, fun b o hb _ e => he b o hb e⟩))
  rw [List.drop_length]
  refine S1.sub fun a o e => ?_
  unfold Aa.set at e
  by_cases q : a = S
  ·rw [if_pos q] at e; cases e; rw [q]; exact hS
  ·rw [if_neg q] at e; exact e
 | succ n ih =>
  intro i es σ s tk hn hi S' hl hS hlS hit hI hI0 hz
  have hlt : i < ps.length := by omega
  obtain ⟨vs, k, ho, r, hlist⟩ := BF S' hl
  obtain ⟨⟨key, d⟩, hp⟩ : ∃ p, ps[i]? = some p := ⟨_, Bw hlt⟩
  obtain ⟨v, hv, hr⟩ := r.get (i := i) (d := .tup [.str key, d]) (by simp [BW, hp])
  refine FT OJ ?_
  rw [Around.under_plainId IX _]
  show wpAny _ _ (pyNext (.ref I) >>= _) _ _ s
  refine Ab (NB hit hlist (x := v) (by simpa using hv) fun h1 hit1 hs1 => ?_)
  obtain ⟨o, hoI, hcI, _⟩ := hit
  have C : Chg c [I] s.heap h1 := Chg.one hoI (by rw [hcI]; show Value.type "list_iterator" ≠ Value.type "tuple"; decide) fun b o hb e => (hs1.2 b (fun q => hb (Ag.mpr q))).trans e
  have S1 : Sim c σ { s with heap := h1 } := S'.chg (fun b hb => by cases Ag.mp hb; exact ⟨hI, hI0⟩) C s.toks
  have hr1 := hr.mono' C.tk
  obtain ⟨a, n', t, x, rfl, hoa, rx⟩ := SG hr1
  dsimp only
  refine Ab (Bh ?_)
  have hpair : ∀ (E : Value -> Shared -> Prop) (Q : List Value -> Shared -> Prop), Q [.str key t, x] { s with heap := h1 } -> wpAny c.M A.in1 (SJ (.ref a)) Q E { s with heap := h1 } := fun E Q hq => by
   unfold SJ
   refine Ab (IY (T := "tuple") ⟨_, hoa, rfl⟩ ?_)
   rw [if_pos (by decide)]
   exact Ab (Dy hoa rfl (Ad hq))
  refine Ab (wpAny_tryCatch ?_)
  refine hpair _ _ ?_
  dsimp only
  obtain ⟨kvs, xD, rk⟩ := (S1.1 _ _ hS).1
  have hkl := rk.length
  refine Bh (wpAny_dictSet_pairs (strKind_is ..) xD (fun h2 hd2 hs2 => ?_) (by rw [BA]; omega))
  have P2 := Ah.dict dkS S1 hS hs2 hd2 (rk.stored rx) (s.toks + 1)
  refine Ad ?_
  have hIS : I ≠ S := fun q => by rw [q] at hI; rw [hS] at hI; cases hI
  have hit2 : h2.IsListIter I l (i + 1) := hit1.extBut hs2.extBut hIS
  refine ⟨GL IX _, ?_⟩
  have hstl : (Bb es key d).length <= es.length + 1 := by
   unfold Bb; split
   ·simp
   ·simp
  have := ih (i + 1) (Bb es key d) (σ.set S (.dictS (Bb es key d))) { s with heap := h2, toks := s.toks + 1 } (tk + 1) (by omega) hlt P2.1 (by rw [Aa.B5 _ _ hlS]; exact hl) (Aa.DZ ..) hlS hit2 (by rw [Aa.B5 _ _ hIS]; exact hI) hI0 (by omega)
  refine De this fun r s' ⟨e, h', t', e', S3, keep⟩ => ?_
  subst e; subst e'
  refine ⟨rfl, h', t', rfl, ?_, fun b o hb hb' e => keep b o hb hb' ((hs2.2 b hb').trans (C.keep b o (fun q => hb (Ag.mp q)) e))⟩
  have e1 : EH es (ps.drop i) = EH (Bb es key d) (ps.drop (i + 1)) := by
   rw [NT hlt]
   have : ps[i] = (key, d) := (AT.mp hp).2
   rw [this]; rfl
  rw [e1]
  refine S3.sub fun a o e => ?_
  unfold Aa.set at e ⊢
  by_cases q : a = S
  ·rw [if_pos q] at e ⊢; exact e
  ·rw [if_neg q] at e ⊢; rw [if_neg q]; exact e
theorem Ac.dictPairs (hh : A.handled = none) (h : σ l = some (.list (BW ps))) (hz : ps.length <= 1000) (q : ∀ l', σ l' = none -> Q (.ref l') (σ.set l' (.dictS (EH [] ps)))) : Ac c A (.type "dict") [.ref l] σ Q := by iterate 1
 exact fun s vs S r => by
  cases r with
  | cons ra r =>
  cases r; cases ra
  obtain ⟨vs, k, ho, r, hlist⟩ := BF S h
  refine callType_codes (Q₁ := fun obj s1 => obj = .ref s.heap.objs.size /\ s1 = { s with heap := s.heap.push { cls := .type "dict", data := .dict #[] } }) F.kt_called_dict (F.kt_typeCall_dict_1 _) F.entry_dict_init (kt_code_dict_new _ ⟨rfl, rfl⟩) ?_
  rintro obj s1 ⟨rfl, rfl⟩
  have hnew : (s.heap.push { cls := .type "dict", data := .dict #[] }).DictOf (PySem.strKind c.prog c.w) s.heap.objs.size [] := Heap.DictOf.new s.heap
  have P1 := Ah.EC S { cls := .type "dict", data := .dict #[] } s.toks (o := .dictS []) ⟨[], hnew, trivial⟩
  have hne : l ≠ s.heap.objs.size := A8 (AZ ho)
  refine ⟨hnew.typeIs, F.args_dict_init_2 _ _, ?_⟩
  unfold Builtin.«dict.__init__»
  refine Ab ?_
  unfold Builtin.Dict.selfAndRest
  refine Ab (Od hnew.typeIs ?_)
  show wpAny _ _ (pure (s.heap.objs.size, [Value.ref l])) _ _ _
  refine Ad ?_
  show wpAny _ _ (SK "dict.__init__" s.heap.objs.size (.ref l) [] .none) _ _ _
  unfold SK
  have ho1 : (s.heap.push { cls := .type "dict", data := .dict #[] }).get? l = some (Ct vs k) := AA _ ho
  refine Ab (IY (T := "list") ⟨_, ho1, rfl⟩ ?_)
  rw [if_pos (by decide)]
  refine Ab (SF (k := k) ho1 rfl rfl rfl rfl (by first | exact hh | simpa using hh) fun h2 tk2 hk2 => ?_)
  rw [if_pos (by rfl)]
  have P2 := Ah.DA P1.1 tk2 hk2
  have hl2 : (σ.set s.heap.objs.size (.dictS [])) l = some (.list (BW ps)) := by rw [Aa.B5 _ _ hne]; exact h
  obtain ⟨vs2, k2, ho2, r2, hlist2⟩ := BF P2.1 hl2
  refine Ab (D2 ?_)
  refine Ab (ND hlist2 ?_)
  refine Ad ⟨GL IX _, ?_⟩
  have P3 := Ah.push P2.1 { cls := .type "list_iterator", data := .fields #[.ref l, .int 0 0] } tk2
  have hS2 := hk2 _ _ (AR s.heap (o := { cls := .type "dict", data := .dict #[] }) rfl)
  have hIn : h2.get? h2.objs.size = none := by
   cases e : h2.get? h2.objs.size with
   | none => rfl
   | some o => exact absurd (AZ e) (Ef _)
  obtain ⟨hσI, h0I⟩ := Sim.none_of P2.1 hIn
  have run := SH (A := A.in1) (c := c) (l := l) (I := h2.objs.size) (S := s.heap.objs.size) (ps := ps) hh (ps.length - 0) 0 [] (σ.set s.heap.objs.size (.dictS [])) _ 0 rfl (BC _) P3.1 hl2 (Aa.DZ ..) hne ⟨_, AR _ rfl, rfl, rfl⟩ hσI h0I (by simp; omega)
  refine De (c := .builtin "dict.update.loop" ⟨[.ref s.heap.objs.size, .ref h2.objs.size, .int 0 0, .none], []⟩) run fun r s' ⟨e, h', t', e', S3, keep⟩ => ?_
  subst e; subst e'
  have hk : ∀ b o, s.heap.get? b = some o -> h'.get? b = some o := fun b o e => by
   have h1 := AZ e
   have e2 := hk2 b o (AA _ e)
   exact keep b o (A8 (AZ e2)) (A8 h1) (AA _ e2)
  refine ⟨rfl, .ref s.heap.objs.size, _, q _ S.fresh, ⟨S3.sub fun a o e => ?_, fun b o _ e => hk b o e, fun b o e hb => ?_⟩, .ref _⟩
  ·unfold Aa.set at e ⊢
   rw [List.drop_zero]
   by_cases qq : a = s.heap.objs.size
   ·rw [if_pos qq] at e ⊢; exact e
   ·rw [if_neg qq] at e ⊢; rw [if_neg qq]; exact e
  ·rw [Aa.B5 _ _ (A8 (AZ e))]; exact hb
end
section
variable {prog : Program} {w : World} {A : Around} {E : Value -> Shared -> Prop} {s : Shared}
theorem LH {it t : Addr} {i : Nat} {items : Array Value} {x : Value} {Q : Value -> Shared -> Prop} (hit : s.heap.IsTupleIter it t i)
  (ht : s.heap.IsTuple t items) (hx : items[i]? = some x) (hQ : ∀ h', h'.IsTupleIter it t (i + 1) -> Heap.SameBut it s.heap h' -> Q x { s with heap := h' }) :
  wpAny (model prog w) A (FU (.ref it)) Q E s := by iterate 1
 obtain ⟨o, ho, hc, hd⟩ := id hit
 obtain ⟨ol, hol, _, nl, hdl⟩ := ht
 unfold FU
 refine Ab (Ek (name := Str.ofString "__next__") hit.typeIs F.slot_tuple_iterator_next
  (Cz F.slot_tuple_iterator_next hit.typeIs F.entry_tuple_iterator_next ?_ (F.args_tuple_iterator_next_1 _)))
 show wpAny _ _ (field (.ref it) 0 >>= _) _ _ s
 refine Ab (D5 ho hd (x := .ref t) rfl ?_)
 show wpAny _ _ (if (Value.ref t == Value.none) = true then _ else _) _ _ s
 rw [if_neg (show ¬ ((Value.ref t == Value.none) = true) from Cu)]
 show wpAny _ _ (field (.ref it) 1 >>= _) _ _ s
 refine Ab (D5 ho hd (x := .int i 0) rfl ?_)
 show wpAny _ _ (seqItems? (.ref t) >>= _) _ _ s
 refine Ab (Dy hol hdl ?_)
 simp only [Fb, hx]
 refine Ab (LC ho hd (by simp) (Ad ⟨x, rfl, Ad (hQ _ ?_ (Df ..))⟩))
 exact ⟨_, EE _ ho (Obj.isFreed_of_fields (Obj.data_mapFields hd _)), (Obj.cls_mapFields ..).trans hc, by
  rw [Obj.data_mapFields hd]; simp [rawInt]⟩
theorem OL {it t : Addr} {i : Nat} {items : Array Value} {Q : Value -> Shared -> Prop} (hh : A.handled = none) (hit : s.heap.IsTupleIter it t i)
  (ht : s.heap.IsTuple t items) (hx : items[i]? = none) (hE : ∀ h' e, Heap.ExtBut it s.heap h' -> (∃ o, h'.get? e = some o /\ o.cls = .type "StopIteration") -> E (.ref e) { s with heap := h' }) :
  wpAny (model prog w) A (FU (.ref it)) Q E s := by iterate 1
 obtain ⟨o, ho, hc, hd⟩ := id hit
 obtain ⟨ol, hol, _, nl, hdl⟩ := ht
 unfold FU
 refine Ab (Ek (name := Str.ofString "__next__") hit.typeIs F.slot_tuple_iterator_next
  (Cz F.slot_tuple_iterator_next hit.typeIs F.entry_tuple_iterator_next ?_ (F.args_tuple_iterator_next_1 _)))
 show wpAny _ _ (field (.ref it) 0 >>= _) _ _ s
 refine Ab (D5 ho hd (x := .ref t) rfl ?_)
 show wpAny _ _ (if (Value.ref t == Value.none) = true then _ else _) _ _ s
 rw [if_neg (show ¬ ((Value.ref t == Value.none) = true) from Cu)]
 show wpAny _ _ (field (.ref it) 1 >>= _) _ _ s
 refine Ab (D5 ho hd (x := .int i 0) rfl ?_)
 show wpAny _ _ (seqItems? (.ref t) >>= _) _ _ s
 refine Ab (Dy hol hdl ?_)
 simp only [Fb, hx]
 refine Ab (D2 (Ab (LC ho hd (by simp) ?_)))
 show wpAny _ _ (newExc (.type "StopIteration") [] >>= _) _ _ _
 refine Ab ?_
 simp only [newExc, newTuple]
 refine Ab (CM ?_ (by size_fits))
 refine Ab (m := firstArgMember _ _) (Ho (a := Value.none) (by first | rfl | (simp only [firstArgMember]; rfl)) ?_)
 refine CM ?_ (by size_fits)
 simp only [raiseNew]
 refine Ab (LD ?_)
 first | rw [show A.in1.handled = none from hh] | rw [hh]
 refine Ab (Ad (LF ?_))
 exact hE _ _ (((Df ..).extBut.push _).push _) ⟨_, AR _ rfl, rfl⟩
theorem n4 (N : Nat) : (N + 4 : Addr) ≠ N := E3 (by omega)
theorem n41 (N : Nat) : (N + 4 : Addr) ≠ N + 1 := E3 (by omega)
theorem n34 (N : Nat) : (N + 3 : Addr) ≠ N + 4 := A8 (by omega)
theorem n30 (N : Nat) : (N + 3 : Addr) ≠ N := E3 (by omega)
theorem n31 (N : Nat) : (N + 3 : Addr) ≠ N + 1 := E3 (by omega)
structure ZIs (h : Heap) (N t1 t2 : Nat) (xs ys : Array Value) (f0 a b : Value) (k1 k2 : Nat) : Prop where
 z : IsZip h (N + 4) (N + 2) (N + 3) f0
 ti : IsPair h (N + 2) (.ref N) (.ref (N + 1))
 to : IsPair h (N + 3) a b
 i1 : h.IsTupleIter N t1 k1
 i2 : h.IsTupleIter (N + 1) t2 k2
 t1 : h.IsTuple t1 xs
 t2 : h.IsTuple t2 ys
noncomputable abbrev zfp (N : Nat) : List Addr := [N + 4, N + 3, N, N + 1]
theorem ZIs.by {h h' : Heap} {N t1 t2 : Nat} {xs ys : Array Value} {f0 a b f0' a' b' : Value} {k1 k2 k1' k2' : Nat} (l1 : t1 < N) (l2 : t2 < N) (Z : ZIs h N t1 t2 xs ys f0 a b k1 k2) {d : Nat} (hs : Heap.ExtBut d h h') (hd : d ∈ zfp N)
  (z : d = N + 4 -> IsZip h' (N + 4) (N + 2) (N + 3) f0') (ez : d ≠ N + 4 -> f0' = f0) (to : d = N + 3 -> IsPair h' (N + 3) a' b') (eo : d ≠ N + 3 -> a' = a /\ b' = b)
  (i1 : d = N -> h'.IsTupleIter N t1 k1') (e1 : d ≠ N -> k1' = k1) (i2 : d = N + 1 -> h'.IsTupleIter (N + 1) t2 k2') (e2 : d ≠ N + 1 -> k2' = k2) : ZIs h' N t1 t2 xs ys f0' a' b' k1' k2' := by iterate 1
 have hd2 : d ≠ N + 2 /\ t1 ≠ d /\ t2 ≠ d := by simp at hd; omega
 constructor
 ·by_cases q : d = N + 4
  ·exact z q
  ·rw [ez q]; exact hs _ _ (fun e => q e.symm) Z.z
 ·exact hs _ _ (fun e => hd2.1 e.symm) Z.ti
 ·by_cases q : d = N + 3
  ·exact to q
  ·rw [(eo q).1, (eo q).2]; exact hs _ _ (fun e => q e.symm) Z.to
 ·by_cases q : d = N
  ·exact i1 q
  ·rw [e1 q]; exact Z.i1.extBut hs fun e => q e.symm
 ·by_cases q : d = N + 1
  ·exact i2 q
  ·rw [e2 q]; exact Z.i2.extBut hs fun e => q e.symm
 ·exact Z.t1.extBut hs hd2.2.1
 ·exact Z.t2.extBut hs hd2.2.2
noncomputable def Dj (N : Nat) (h h' : Heap) : Prop := ∀ c o, c ∉ zfp N -> h.get? c = some o -> h'.get? c = some o
theorem Dj.of {N d : Nat} {h h' : Heap} (hs : Heap.ExtBut d h h') (hd : d ∈ zfp N) : Dj N h h' := by iterate 1
 exact fun c o hc e => hs c o (fun q => hc (q ▸ hd)) e
theorem Dj.trans {N : Nat} {h h1 h2 : Heap} (x : Dj N h h1) (y : Dj N h1 h2) : Dj N h h2 := fun c o hc e => y c o hc (x c o hc e)
theorem ZIs.lt {h : Heap} {N t1 t2 : Nat} {xs ys : Array Value} {f0 a b : Value} {k1 k2 : Nat} (Z : ZIs h N t1 t2 xs ys f0 a b k1 k2) : N + 4 < h.objs.size := AZ Z.z
theorem SL {N t1 t2 : Nat} {xs ys : Array Value} {a b x y : Value} {k : Nat} {Q : Option Value -> Shared -> Prop} (l1 : t1 < N) (l2 : t2 < N) (Z : ZIs s.heap N t1 t2 xs ys .none a b k k) (hx : xs[k]? = some x) (hy : ys[k]? = some y)
  (hQ : ∀ h', ZIs h' N t1 t2 xs ys (rawInt s.heap.objs.size) x y (k + 1) (k + 1) -> IsPair h' s.heap.objs.size x y -> Dj N s.heap h' -> Q (some (.ref s.heap.objs.size)) { s with heap := h' }) :
  wpAny (model prog w) A (pyNext (.ref (N + 4))) Q E s := by iterate 1
 have hT : s.TypeIs (.ref (N + 4)) "zip" := ⟨_, Z.z, rfl⟩
 unfold pyNext
 refine Ab (FS (Ek (name := Str.ofString "__next__") hT F.slot_zip_next
  (Cz F.slot_zip_next hT F.entry_zip_next ?_ (F.args_zip_next_1 _))))
 show wpAny _ _ (field (.ref (N + 4)) 2 >>= _) _ _ _
 refine Ab (D5 Z.z rfl (x := .bool false) rfl ?_)
 show wpAny _ _ (field (.ref (N + 4)) 3 >>= _) _ _ _
 refine Ab (D5 Z.z rfl (x := .ref (N + 2)) rfl ?_)
 refine Ab (Dy Z.ti rfl ?_)
 show wpAny _ _ (LI (.ref (N + 4)) >>= _) _ _ _
 refine Ab ?_
 unfold LI
 refine Ab (D5 Z.z rfl (x := .none) rfl (Ad ?_))
 simp only [if_true]
 refine Ab (D2 ?_)
 refine Ab (D5 Z.z rfl (x := .ref (N + 3)) rfl ?_)
 refine Ab (D6 Z.z (by simp) fun h1 hz1 hs1 => ?_)
 have Z1 : ZIs h1 N t1 t2 xs ys .ellipsis a b k k := Z.by l1 l2 hs1.extBut (by simp) (fun _ => hz1) (fun q => absurd rfl q) (fun q => by omega) (fun _ => ⟨rfl, rfl⟩) (fun q => by omega) (fun _ => rfl) (fun q => by omega) (fun _ => rfl)
 have K1 : Dj N s.heap h1 := .of hs1.extBut (by simp)
 refine Ab ?_
 simp only [LJ, List.zipIdx_nil, K7, List.forIn_nil]
 refine Ab (Ab (LK ?_))
 show wpAny _ _ (FU (.ref N) >>= _) _ _ _
 refine Ab (LH Z1.i1 Z1.t1 hx fun h2 hi2 hs2 => Ad ?_)
 have Z2 : ZIs h2 N t1 t2 xs ys .ellipsis a b (k + 1) k := Z1.by l1 l2 hs2.extBut (by simp) (fun q => by omega) (fun _ => rfl) (fun q => by omega) (fun _ => ⟨rfl, rfl⟩) (fun _ => hi2) (fun q => absurd rfl q) (fun q => by omega) (fun _ => rfl)
 have K2 := K1.trans (.of (N := N) hs2.extBut (by simp))
 refine Ab (Dy Z2.to rfl ?_)
 refine Ab (OM Z2.to fun h3 ho3 hs3 => ?_)
 have Z3 : ZIs h3 N t1 t2 xs ys .ellipsis x b (k + 1) k := Z2.by l1 l2 hs3.extBut (by simp) (fun q => by omega) (fun _ => rfl) (fun _ => ho3) (fun q => absurd rfl q) (fun q => by omega) (fun _ => rfl) (fun q => by omega) (fun _ => rfl)
 have K3 := K2.trans (.of (N := N) hs3.extBut (by simp))
 refine Ab (wpAny_letGo (Ad ?_))
 refine Ab (Ab (LK ?_))
 show wpAny _ _ (FU (.ref (N + 1)) >>= _) _ _ _
 refine Ab (LH Z3.i2 Z3.t2 hy fun h4 hi4 hs4 => Ad ?_)
 have Z4 : ZIs h4 N t1 t2 xs ys .ellipsis x b (k + 1) (k + 1) := Z3.by l1 l2 hs4.extBut (by simp) (fun q => by omega) (fun _ => rfl) (fun q => by omega) (fun _ => ⟨rfl, rfl⟩) (fun q => by omega) (fun _ => rfl) (fun _ => hi4) (fun q => absurd rfl q)
 have K4 := K3.trans (.of (N := N) hs4.extBut (by simp))
 refine Ab (Dy Z4.to rfl ?_)
 refine Ab (OM Z4.to fun h5 ho5 hs5 => ?_)
 have Z5 : ZIs h5 N t1 t2 xs ys .ellipsis x y (k + 1) (k + 1) := Z4.by l1 l2 hs5.extBut (by simp) (fun q => by omega) (fun _ => rfl) (fun _ => ho5) (fun q => absurd rfl q) (fun q => by omega) (fun _ => rfl) (fun q => by omega) (fun _ => rfl)
 have K5 := K4.trans (.of (N := N) hs5.extBut (by simp))
 refine Ab (wpAny_letGo (Ad (Ad ?_)))
 refine Ab (Dy Z5.to rfl ?_)
 refine Ab (Oy ?_)
 have hsz : h5.objs.size = s.heap.objs.size := by rw [hs5.1, hs4.1, hs3.1, hs2.1, hs1.1]
 have hlt := Z5.lt
 show wpAny _ _ (SM (.ref (N + 4)) (.ref h5.objs.size) >>= _) _ _ _
 refine Ab ?_
 unfold SM
 have pz : IsZip (h5.push { cls := .type "tuple", data := .seq #[x, y] }) (N + 4) (N + 2) (N + 3) .ellipsis := AA _ Z5.z
 refine Ab (D6 pz (by simp) fun h7 hz7 hs7 => ?_)
 refine D6 hz7 (by simp) fun h8 hz8 hs8 => ?_
 have up : Heap.ExtBut (N + 4) h5 h8 := fun c o hc e => hs8.extBut _ _ hc (hs7.extBut _ _ hc (AA _ e))
 have Z8 : ZIs h8 N t1 t2 xs ys (rawInt h5.objs.size) x y (k + 1) (k + 1) := Z5.by l1 l2 up (by simp) (fun _ => hz8) (fun q => absurd rfl q) (fun q => by omega) (fun _ => ⟨rfl, rfl⟩) (fun q => by omega) (fun _ => rfl) (fun q => by omega) (fun _ => rfl)
 have K8 := K5.trans (.of (N := N) up (by simp))
 have hT8 : IsPair h8 h5.objs.size x y := hs8.extBut _ _ (E3 hlt) (hs7.extBut _ _ (E3 hlt) (AR _ rfl))
 rw [hsz] at Z8 hT8
 refine Ad ⟨_, rfl, Ad ?_⟩
 show Q (some (.ref h5.objs.size)) _
 rw [hsz]
 exact hQ h8 Z8 hT8 K8
theorem SN {N t1 t2 : Nat} {xs ys : Array Value} {a b : Value} {k : Nat} {Q : Option Value -> Shared -> Prop} (hh : A.handled = none) (l1 : t1 < N) (l2 : t2 < N) (Z : ZIs s.heap N t1 t2 xs ys .none a b k k) (hend : xs[k]? = none ∨ ys[k]? = none)
  (hQ : ∀ h' a' b', Dj N s.heap h' -> IsPair h' (N + 3) a' b' -> Q none { s with heap := h' }) : wpAny (model prog w) A (pyNext (.ref (N + 4))) Q E s := by iterate 1
 have hT : s.TypeIs (.ref (N + 4)) "zip" := ⟨_, Z.z, rfl⟩
 unfold pyNext
 refine Ab (FS (Ek (name := Str.ofString "__next__") hT F.slot_zip_next
  (Cz F.slot_zip_next hT F.entry_zip_next ?_ (F.args_zip_next_1 _))))
 show wpAny _ _ (field (.ref (N + 4)) 2 >>= _) _ _ _
 refine Ab (D5 Z.z rfl (x := .bool false) rfl ?_)
 show wpAny _ _ (field (.ref (N + 4)) 3 >>= _) _ _ _
 refine Ab (D5 Z.z rfl (x := .ref (N + 2)) rfl ?_)
 refine Ab (Dy Z.ti rfl ?_)
 show wpAny _ _ (LI (.ref (N + 4)) >>= _) _ _ _
 refine Ab ?_
 unfold LI
 refine Ab (D5 Z.z rfl (x := .none) rfl (Ad ?_))
 simp only [if_true]
 refine Ab (D2 ?_)
 refine Ab (D5 Z.z rfl (x := .ref (N + 3)) rfl ?_)
 refine Ab (D6 Z.z (by simp) fun h1 hz1 hs1 => ?_)
 have Z1 : ZIs h1 N t1 t2 xs ys .ellipsis a b k k := Z.by l1 l2 hs1.extBut (by simp) (fun _ => hz1) (fun q => absurd rfl q) (fun q => by omega) (fun _ => ⟨rfl, rfl⟩) (fun q => by omega) (fun _ => rfl) (fun q => by omega) (fun _ => rfl)
 have K1 : Dj N s.heap h1 := .of hs1.extBut (by simp)
 refine Ab ?_
 simp only [LJ, List.zipIdx_nil, K7, List.forIn_nil]
 refine Ab (Ab (LK ?_))
 show wpAny _ _ (FU (.ref N) >>= _) _ _ _
 cases hx : xs[k]? with
 | none =>
  refine Ab (OL hh Z1.i1 Z1.t1 hx fun h2 e hs2 he => ?_)
  obtain ⟨oe, hoe, hce⟩ := he
  have hz2 : IsZip h2 (N + 4) (N + 2) (N + 3) .ellipsis := hs2 _ _ (n4 N) hz1
  have hez : e ≠ N + 4 := fun x => by subst x; rw [hz2] at hoe; cases hoe; simp at hce
  refine D6 hz2 (by simp) fun h3 _ hs3 => ?_
  refine Ab (FO (T := "StopIteration") (b := true) ⟨oe, hs3.extBut _ _ hez hoe, hce⟩ IW ?_)
  exact Ad (hQ _ _ _ (K1.trans ((Dj.of hs2 (by simp)).trans (.of hs3.extBut (by simp)))) (hs3.extBut _ _ (n34 N) (hs2 _ _ (n30 N) Z1.to)))
 | some x =>
  have hy : ys[k]? = none := by rcases hend with h | h; rw [hx] at h; cases h; exact h
  refine Ab (LH Z1.i1 Z1.t1 hx fun h2 hi2 hs2 => Ad ?_)
  have Z2 : ZIs h2 N t1 t2 xs ys .ellipsis a b (k + 1) k := Z1.by l1 l2 hs2.extBut (by simp) (fun q => by omega) (fun _ => rfl) (fun q => by omega) (fun _ => ⟨rfl, rfl⟩) (fun _ => hi2) (fun q => absurd rfl q) (fun q => by omega) (fun _ => rfl)
  have K2 := K1.trans (.of (N := N) hs2.extBut (by simp))
  refine Ab (Dy Z2.to rfl ?_)
  refine Ab (OM Z2.to fun h3 ho3 hs3 => ?_)
  have Z3 : ZIs h3 N t1 t2 xs ys .ellipsis x b (k + 1) k := Z2.by l1 l2 hs3.extBut (by simp) (fun q => by omega) (fun _ => rfl) (fun _ => ho3) (fun q => absurd rfl q) (fun q => by omega) (fun _ => rfl) (fun q => by omega) (fun _ => rfl)
  have K3 := K2.trans (.of (N := N) hs3.extBut (by simp))
  refine Ab (wpAny_letGo (Ad ?_))
  refine Ab (Ab (LK ?_))
  show wpAny _ _ (FU (.ref (N + 1)) >>= _) _ _ _
  refine Ab (OL hh Z3.i2 Z3.t2 hy fun h4 e hs4 he => ?_)
  obtain ⟨oe, hoe, hce⟩ := he
  have hz4 : IsZip h4 (N + 4) (N + 2) (N + 3) .ellipsis := hs4 _ _ (n41 N) Z3.z
  have hez : e ≠ N + 4 := fun x => by subst x; rw [hz4] at hoe; cases hoe; simp at hce
  refine D6 hz4 (by simp) fun h5 _ hs5 => ?_
  refine Ab (FO (T := "StopIteration") (b := true) ⟨oe, hs5.extBut _ _ hez hoe, hce⟩ IW ?_)
  exact Ad (hQ _ _ _ (K3.trans ((Dj.of hs4 (by simp)).trans (.of hs5.extBut (by simp)))) (hs5.extBut _ _ (n34 N) (hs4 _ _ (n31 N) Z3.to)))
end
mutual
theorem Aj.toB (k : ∀ a vs n, h.get? a = some (AV vs n) -> ¬ B a -> ¬ B' a) : ∀ {v : Value} {d : D}, Aj B h v d -> Aj B' h v d
 | _, _, .none => .none
 | _, _, .bool b => .bool b
 | _, _, .int i t => .int i t
 | _, _, .str s t => .str s t
 | _, _, .ref a => .ref a
 | _, _, .tup hb ho hs => .tup (k _ _ _ ho hb) ho (Ak.toB k hs)
theorem Ak.toB (k : ∀ a vs n, h.get? a = some (AV vs n) -> ¬ B a -> ¬ B' a) : ∀ {vs : List Value} {ds : List D}, Ak B h vs ds -> Ak B' h vs ds
 | _, _, .nil => .nil
 | _, _, .cons a b => .cons (Aj.toB k a) (Ak.toB k b)
end
theorem AF.toB {K : Type} (k : ∀ a vs n, h.get? a = some (AV vs n) -> ¬ B a -> ¬ B' a) : ∀ {x : List (K × Value)} {y : List (K × D)}, AF B h x y -> AF B' h x y
 | [], [], _ => trivial
 | (_, _) :: _, (_, _) :: _, ⟨a, b, r⟩ => ⟨a, b.toB k, AF.toB k r⟩
 | [], _ :: _, f => f.elim
 | _ :: _, [], f => f.elim
theorem Du.toB (k : ∀ a vs n, h.get? a = some (AV vs n) -> ¬ B a -> ¬ B' a) : ∀ {x : List DictEntry} {y : List (List D × D)}, Du B w h x y -> Du B' w h x y
 | [], [], _ => trivial
 | _ :: _, (_, _) :: _, ⟨a, b, q, c, r⟩ => ⟨a, b.toB k, q, c.toB k, Du.toB k r⟩
 | [], _ :: _, f => f.elim
 | _ :: _, [], f => f.elim
theorem Bu.toB (k : ∀ a vs n, h.get? a = some (AV vs n) -> ¬ B a -> ¬ B' a) : ∀ {x : List DictEntry} {y : List (Str × D)}, Bu B h x y -> Bu B' h x y
 | [], [], _ => trivial
 | _ :: _, (_, _) :: _, ⟨a, b, r⟩ => ⟨a, b.toB k, Bu.toB k r⟩
 | [], _ :: _, f => f.elim
 | _ :: _, [], f => f.elim
theorem A4.toB (k : ∀ a vs n, h.get? a = some (AV vs n) -> ¬ B a -> ¬ B' a) : ∀ {x : List (Int × Value)} {y : List D}, A4 B w h x y -> A4 B' w h x y
 | [], [], _ => trivial
 | _ :: _, _ :: _, ⟨a, b, q, r⟩ => ⟨a, b.toB k, q, A4.toB k r⟩
 | [], _ :: _, f => f.elim
 | _ :: _, [], f => f.elim
noncomputable def Cx.plus (c : Cx) (b : Addr) : Cx := { c with bad := fun a => c.bad a ∨ a = b }
theorem C4.plus (C : C4 c) (b : Addr) : C4 (c.plus b) := by iterate 1
 exact ⟨C.X, C.nolimit, C.globals, C.builtins⟩
theorem BD.up (hb : h.get? b = none) (x : BD c h a o) : BD (c.plus b) h a o := by iterate 1
 have k : ∀ a vs n, h.get? a = .some (AV vs n) -> ¬ c.bad a -> ¬ (c.plus b).bad a := fun a vs n e hn hq => hq.elim hn fun q => by rw [q, hb] at e; cases e
 cases o with
 | list ds => obtain ⟨vs, n, ho, r⟩ := x; exact ⟨vs, n, ho, r.toB k⟩
 | dictS es => obtain ⟨kvs, q, r⟩ := x; exact ⟨kvs, q, r.toB k⟩
 | dictI es => obtain ⟨kvs, q, r⟩ := x; exact ⟨kvs, q, r.toB k⟩
 | dictT es => obtain ⟨o, arr, ep, ho, hx, hd, r, nd⟩ := x; exact ⟨o, arr, ep, ho, hx, hd, r.toB k, nd⟩
 | set ds => obtain ⟨es, ep, t, ho, r, q⟩ := x; exact ⟨es, ep, t, ho, r.toB k, q⟩
 | inst C d => exact x
 | ns es => obtain ⟨arr, n, ho, r⟩ := x; exact ⟨arr, n, ho, r.toB k⟩
 | raw ob => exact x
theorem BD.down (x : BD (c.plus b) h a o) : BD c h a o := by iterate 1
 have k : ∀ a vs n, h.get? a = .some (AV vs n) -> ¬ (c.plus b).bad a -> ¬ c.bad a := fun a vs n e hn hq => hn (.inl hq)
 cases o with
 | list ds => obtain ⟨vs, n, ho, r⟩ := x; exact ⟨vs, n, ho, r.toB k⟩
 | dictS es => obtain ⟨kvs, q, r⟩ := x; exact ⟨kvs, q, r.toB k⟩
 | dictI es => obtain ⟨kvs, q, r⟩ := x; exact ⟨kvs, q, r.toB k⟩
 | dictT es => obtain ⟨o, arr, ep, ho, hx, hd, r, nd⟩ := x; exact ⟨o, arr, ep, ho, hx, hd, r.toB k, nd⟩
 | set ds => obtain ⟨es, ep, t, ho, r, q⟩ := x; exact ⟨es, ep, t, ho, r.toB k, q⟩
 | inst C d => exact x
 | ns es => obtain ⟨arr, n, ho, r⟩ := x; exact ⟨arr, n, ho, r.toB k⟩
 | raw ob => exact x
theorem Sim.up (S : Sim c σ s) (hb : s.heap.get? b = none) (k : ∀ b o, s.heap.get? b = some o -> h'.get? b = some o)
   (e : ∃ vs n, h'.get? b = some (AV vs n)) : Sim (c.plus b) σ { s with heap := h', toks := t } := by iterate 1
 exact
  ⟨fun a o e => ⟨((S.1 a o e).1.up hb).mono (fun ob z => k _ _ z) fun _ _ _ z => k _ _ z, (S.1 a o e).2⟩, fun b o z => k _ _ (S.2.1 b o z), S.2.2.1, S.2.2.2.1,
   fun a ha => ha.elim (fun ha => let ⟨vs, n, z⟩ := S.2.2.2.2 a ha; ⟨vs, n, k _ _ z⟩) fun q => q ▸ e⟩
theorem Sim.down (S : Sim (c.plus b) σ s) : Sim c σ s := by iterate 1
 exact
  ⟨fun a o e => ⟨(S.1 a o e).1.down, (S.1 a o e).2⟩, S.2.1, S.2.2.1, S.2.2.2.1, fun a ha => S.2.2.2.2 a (.inl ha)⟩
theorem Ax.up (X : Ax c env m σ s) (hb : s.heap.get? b = none) (k : ∀ b o, s.heap.get? b = some o -> h'.get? b = some o)
   (e : ∃ vs n, h'.get? b = some (AV vs n)) : Ax (c.plus b) env m σ { s with heap := h', toks := t } := by iterate 1
 exact {
  sim := X.sim.up hb k e
  ok := ⟨X.ok.kind, X.ok.globals, X.ok.builtins, X.ok.h0L, X.ok.h0c, X.ok.apart, X.ok.Lc⟩
  vars := by
   have kk : ∀ a vs n, s.heap.get? a = some (AV vs n) -> ¬ c.bad a -> ¬ (c.plus b).bad a := fun a vs n e hn hq => hq.elim hn fun q => by rw [q, hb] at e; cases e
   have V : E2 (c.plus b).bad env m s.heap := ⟨let ⟨mm, h1, h2⟩ := X.vars.ns; ⟨mm, h1, fun x d a b => let ⟨v, p, q⟩ := h2 x d a b; ⟨v, p, q.toB kk⟩⟩, X.vars.cells, fun x d a b => let ⟨ad, v, p, q, r⟩ := X.vars.cl x d a b; ⟨ad, v, p, q, r.toB kk⟩⟩
   exact V.keep (fun a o _ e => k _ _ e) fun _ _ _ e => k _ _ e
  off := X.off }
theorem Ax.down (X : Ax (c.plus b) env m σ s) : Ax c env m σ s := by iterate 1
 exact {
  sim := X.sim.down
  ok := ⟨X.ok.kind, X.ok.globals, X.ok.builtins, X.ok.h0L, X.ok.h0c, X.ok.apart, X.ok.Lc⟩
  vars := by
   have kk : ∀ a vs n, s.heap.get? a = some (AV vs n) -> ¬ (c.plus b).bad a -> ¬ c.bad a := fun a vs n e hn hq => hn (.inl hq)
   exact ⟨let ⟨mm, h1, h2⟩ := X.vars.ns; ⟨mm, h1, fun x d a b => let ⟨v, p, q⟩ := h2 x d a b; ⟨v, p, q.toB kk⟩⟩, X.vars.cells, fun x d a b => let ⟨ad, v, p, q, r⟩ := X.vars.cl x d a b; ⟨ad, v, p, q, r.toB kk⟩⟩
  off := X.off }
noncomputable def FV (xs ys : List D) : List D := List.zipWith (fun x y => D.tup [x, y]) xs ys
theorem ON {i : Nat} (h : (FV xs ys)[i]? = some d) : ∃ x y, xs[i]? = some x /\ ys[i]? = some y /\ d = .tup [x, y] := by iterate 1
 unfold FV at h
 rw [List.getElem?_zipWith] at h
 split at h
 ·rename_i x y hx hy; cases h; exact ⟨x, y, hx, hy, rfl⟩
 ·cases h
theorem OO (h : x ∈ zfp N) : LE.le (α := Nat) N x /\ LE.le (α := Nat) x (N + 4) := by iterate 1
 simp only [Ay, LL, or_false] at h
 rcases h with rfl | rfl | rfl | rfl <;> exact ⟨by omega, by omega⟩
theorem Chg.zip {c : Cx} {N t1 t2 : Nat} {h h' : Heap} {xs ys : Array Value} {f0 a b a' b' : Value} {k1 k2 : Nat} (hb : c.bad (N + 3)) (Z : ZIs h N t1 t2 xs ys f0 a b k1 k2) (k : Dj N h h') (e : IsPair h' (N + 3) a' b') : Chg c (zfp N) h h' := by iterate 1
 have hne : ∀ b vs n, h.get? b = some (AV vs n) -> b ≠ N + 3 -> b ∉ zfp N := fun b vs n e h3 hm => by
  simp only [Ay, LL, or_false] at hm
  rcases hm with q | q | q | q
  ·rw [q, Z.z] at e
   exact absurd (congrArg Obj.cls (Cn e)) (by show Value.type "zip" ≠ Value.type "tuple"; decide)
  ·exact h3 q
  ·obtain ⟨o, ho, hc, _⟩ := Z.i1
   rw [q, ho] at e
   have := congrArg Obj.cls (Cn e)
   rw [hc] at this
   exact absurd this (by show Value.type "tuple_iterator" ≠ Value.type "tuple"; decide)
  ·obtain ⟨o, ho, hc, _⟩ := Z.i2
   rw [q, ho] at e
   have := congrArg Obj.cls (Cn e)
   rw [hc] at this
   exact absurd this (by show Value.type "tuple_iterator" ≠ Value.type "tuple"; decide)
 refine ⟨k, fun b vs n e hn => k b _ (hne b vs n e fun q => hn (q ▸ hb)) e, fun b hb' ⟨vs, n, e'⟩ => ?_⟩
 by_cases q : b = N + 3
 ·subst q; exact ⟨[a', b'], _, e⟩
 ·exact ⟨vs, n, k b _ (hne b vs n e' q) e'⟩
structure ZSt (c : Cx) (N t1 t2 : Nat) (xs ys : List D) (vs1 vs2 : List Value) (n1 n2 : Nat) (f0 : Value) (i : Nat) (h : Heap) : Prop where
 z : ∃ a b, ZIs h N t1 t2 vs1.toArray vs2.toArray f0 a b i i
 g1 : h.get? t1 = some (AV vs1 n1)
 g2 : h.get? t2 = some (AV vs2 n2)
 r1 : Ak c.bad h vs1 xs
 r2 : Ak c.bad h vs2 ys
theorem wkZip (hh : A.handled = none) (hb : c.bad (N + 3)) (b1 : ¬ c.bad t1) (b2 : ¬ c.bad t2) (l1 : t1 < N) (l2 : t2 < N) :
   Wk c A (.Tuple elts tk tpos) (N + 4) (zfp N) (FV xs ys) (fun _ => True) (fun i h => ZSt c N t1 t2 xs ys vs1 vs2 n1 n2 .none i h) (fun i v h => ∃ T, v = .ref T /\ T ∉ zfp N /\ ZSt c N t1 t2 xs ys vs1 vs2 n1 n2 (rawInt T) i h) := by iterate 1
 exact {
  ex := fun i h st b hb => by
   obtain ⟨a, b, Z⟩ := st.z
   simp at hb
   rcases hb with rfl | rfl | rfl | rfl
   ·exact ⟨_, Z.z⟩
   ·exact ⟨_, Z.to⟩
   ·obtain ⟨o, ho, _⟩ := Z.i1; exact ⟨_, ho⟩
   ·obtain ⟨o, ho, _⟩ := Z.i2; exact ⟨_, ho⟩
  frame := fun i h h' st k tk => by
   obtain ⟨a, b, Z⟩ := st.z
   exact ⟨⟨a, b, k _ (by simp) _ Z.z, tk (N + 2) [_, _] _ Z.ti, k _ (by simp) _ Z.to, (let ⟨o, ho, r⟩ := Z.i1; ⟨o, k _ (by simp) _ ho, r⟩), (let ⟨o, ho, r⟩ := Z.i2; ⟨o, k _ (by simp) _ ho, r⟩), ⟨_, tk _ _ _ st.g1, rfl, _, rfl⟩, ⟨_, tk _ _ _ st.g2, rfl, _, rfl⟩⟩, tk _ _ _ st.g1, tk _ _ _ st.g2, st.r1.mono tk, st.r2.mono tk⟩
  next := fun i s σ d S hσ st hd => by
   obtain ⟨a, b, Z⟩ := st.z
   obtain ⟨x, y, hx, hy, rfl⟩ := ON hd
   obtain ⟨v, hv, rv⟩ := st.r1.get hx
   obtain ⟨u, hu, ru⟩ := st.r2.get hy
   refine SL l1 l2 Z (x := v) (y := u) (by simpa using hv) (by simpa using hu) fun h' Z' hT hk => ?_
   have C : Chg c (zfp N) s.heap h' := Chg.zip hb Z hk Z'.to
   have hlt := Z.lt
   refine ⟨_, h', s.toks, rfl, rfl, .tup (vs := [v, u]) S.freshB hT (.cons (rv.mono' C.tk) (.cons (ru.mono' C.tk) .nil)), ⟨s.heap.objs.size, rfl, ?_, ⟨_, _, Z'⟩, C.tk _ _ _ st.g1 b1, C.tk _ _ _ st.g2 b2, st.r1.mono' C.tk, st.r2.mono' C.tk⟩, C⟩
   intro hm; exact absurd (OO hm).2 (Nat.not_le.mpr hlt)
  done := fun s σ S hσ st => by
   obtain ⟨a, b, Z⟩ := st.z
   refine SN hh l1 l2 Z ?_ fun h' a' b' hk hp => ⟨rfl, h', s.toks, rfl, Chg.zip hb Z hk hp⟩
   have e1 := st.r1.length
   have e2 := st.r2.length
   have : (FV xs ys).length = min xs.length ys.length := by simp [FV]
   rw [this]
   rcases EI xs.length ys.length with h | h
   ·exact .inl (by simp; omega)
   ·exact .inr (by simp; omega)
  self := fun i s st => by
   obtain ⟨a, b, Z⟩ := st.z
   exact wpAny_pyIter_zip Z.z ⟨rfl, rfl⟩
  go := fun i s v d hm hr => by
   obtain ⟨T, rfl, hT, st⟩ := hm
   obtain ⟨a, b, Z⟩ := st.z
   refine wpAny_letOwnedTupleGo_zip Z.z fun h' hz' hs' => ?_
   have hk : Dj N s.heap h' := .of (d := N + 4) hs'.extBut (by simp)
   have hp : IsPair h' (N + 3) a b := hs'.extBut _ _ (n34 N) Z.to
   have C : Chg c (zfp N) s.heap h' := Chg.zip hb Z hk hp
   have Z' : ZIs h' N t1 t2 vs1.toArray vs2.toArray .none a b i i := Z.by l1 l2 hs'.extBut (by simp) (fun _ => hz') (fun q => absurd rfl q) (fun q => by omega) (fun _ => ⟨rfl, rfl⟩) (fun q => by omega) (fun _ => rfl) (fun q => by omega) (fun _ => rfl)
   exact ⟨h', rfl, hr.mono' C.tk, ⟨⟨a, b, Z'⟩, C.tk _ _ _ st.g1 b1, C.tk _ _ _ st.g2 b2, st.r1.mono' C.tk, st.r2.mono' C.tk⟩, C⟩ }
noncomputable abbrev itO (t : Addr) : Obj := { cls := .type "tuple_iterator", data := .fields #[.ref t, .int 0 0] }
noncomputable abbrev zH2 (h : Heap) (t1 t2 : Addr) : Heap := (h.push (itO t1)).push (itO t2)
noncomputable abbrev zH3 (h : Heap) (t1 t2 : Addr) : Heap := (zH2 h t1 t2).push { cls := .type "tuple", data := .seq #[.ref h.objs.size, .ref (h.push (itO t1)).objs.size] }
noncomputable abbrev zH4 (h : Heap) (t1 t2 : Addr) : Heap := (zH3 h t1 t2).push { cls := .type "tuple", data := .seq #[.none, .none] }
noncomputable abbrev zH5 (h : Heap) (t1 t2 : Addr) : Heap := (zH4 h t1 t2).push { cls := .type "zip", data := .fields #[.none, .bool false, .bool false, .ref (zH2 h t1 t2).objs.size, .ref (zH3 h t1 t2).objs.size] }
theorem SO (t1 t2 : Addr) (xs ys : Array Value) :
   Meets (Builtin.«zip.__new__» ⟨[.type "zip", .ref t1, .ref t2], []⟩) (fun _ R s => s.heap.IsTuple t1 xs /\ s.heap.IsTuple t2 ys /\
    R (.ok (.ret (.ref (zH4 s.heap t1 t2).objs.size))) { s with heap := zH5 s.heap t1 t2 }) := by iterate 1
 exact
  .of_wp fun prog w A R s h => by
   obtain ⟨hp, g, d, tk, os⟩ := s; obtain ⟨hl1, hl2, h⟩ := h
   have hsub := sub_zip
   have hL1 : Heap.IsTuple (Shared.heap ⟨hp, g, d, tk, os⟩) t1 xs := hl1
   have hL2 : Heap.IsTuple (Shared.heap ⟨hp.push { cls := .type "tuple_iterator", data := .fields #[.ref t1, .int 0 0] }, g, d, tk, os⟩) t2 ys := Heap.IsTuple.push hl2 _
   wp_walk using NE hL1, NE hL2
   exact ⟨_, rfl, h⟩
theorem SP {prog : Program} {w : World} {A : Around} {E : Value -> Shared -> Prop} {s : Shared} {t1 t2 : Addr} {xs ys : Array Value} {Q : Value -> Shared -> Prop} (h1 : s.heap.IsTuple t1 xs) (h2 : s.heap.IsTuple t2 ys)
  (h : ∀ h', ZIs h' s.heap.objs.size t1 t2 xs ys .none .none .none 0 0 -> (∀ c o, s.heap.get? c = some o -> h'.get? c = some o) -> Q (.ref (s.heap.objs.size + 4)) { s with heap := h' }) :
  wpAny (model prog w) A (call (.type "zip") [.ref t1, .ref t2]) Q E s := by iterate 1
 refine callType_new F.called_zip (by decide) (F.typeCall_zip_2 _ _) (F.newCall_zip_2 _ _) (fun obj => F.args_object_init_3 obj _ _) F.entry_zip_new
  (SO t1 t2 xs ys) ⟨h1, h2, ?_⟩
 have z1 : (s.heap.push (itO t1)).objs.size = s.heap.objs.size + 1 := E4 ..
 have z2 : (zH2 s.heap t1 t2).objs.size = s.heap.objs.size + 2 := by rw [E4, z1]
 have z3 : (zH3 s.heap t1 t2).objs.size = s.heap.objs.size + 3 := by rw [E4, z2]
 have z4 : (zH4 s.heap t1 t2).objs.size = s.heap.objs.size + 4 := by rw [E4, z3]
 have g5 : (zH5 s.heap t1 t2).get? (zH4 s.heap t1 t2).objs.size = some _ := AR _ rfl
 have g4 : (zH5 s.heap t1 t2).get? (zH3 s.heap t1 t2).objs.size = some _ := AA _ (AR _ rfl)
 have g3 : (zH5 s.heap t1 t2).get? (zH2 s.heap t1 t2).objs.size = some _ := AA _ (AA _ (AR _ rfl))
 have g2 : (zH5 s.heap t1 t2).get? (s.heap.push (itO t1)).objs.size = some _ := AA _ (AA _ (AA _ (AR _ rfl)))
 have g1 : (zH5 s.heap t1 t2).get? s.heap.objs.size = some _ := AA _ (AA _ (AA _ (AA _ (AR _ rfl))))
 have k : ∀ c o, s.heap.get? c = some o -> (zH5 s.heap t1 t2).get? c = some o := fun c o x => AA _ (AA _ (AA _ (AA _ (AA _ x))))
 show _ /\ _
 rw [z2, z3, z4] at g5
 rw [z1, z2] at g3
 rw [z3] at g4
 rw [z1] at g2
 rw [z4]
 exact ⟨⟨_, g5, rfl⟩, h _ ⟨g5, g3, g4, ⟨_, g1, rfl, rfl⟩, ⟨_, g2, rfl, rfl⟩, (let ⟨o, ho, r⟩ := h1; ⟨o, k _ _ ho, r⟩), (let ⟨o, ho, r⟩ := h2; ⟨o, k _ _ ho, r⟩)⟩ k⟩
section
variable {c : Cx} {A : Around} {env : Env} {m : Au} {σ : Aa}
theorem EX.SQ {elts : List Expr} {tk : Nat} {tpos np cpos pos : Pos} {e1 e2 : Expr} {body : List Stmt} {Q : AFl -> Au -> Aa -> Prop} (C : C4 c) (hh : A.handled = none) (hg : Bj c "zip" (.type "zip")) (hl : env.kindOf "zip" = some .globalImplicit)
   (hs : [e1, e2].all (fun e => !isStarred e) = true)
   (h : EL c A env m [e1, e2] σ fun ds σ1 => ∃ xs ys, ds = [.tup xs, .tup ys] /\ ∀ b, σ1 b = none -> ∃ Inv : Nat -> Au -> Aa -> Prop, Inv 0 m σ1 /\
    (∀ i x y m' σ', Inv i m' σ' -> xs[i]? = some x -> ys[i]? = some y -> EA (c.plus b) A env m' (.Tuple elts tk tpos) (.tup [x, y]) σ' fun m2 σ2 => EXs (c.plus b) A env m2 body σ2 fun fl m3 σ3 => match fl with
     | .next | .cont => Inv (i + 1) m3 σ3
     | .brk => Q .next m3 σ3
     | .ret d => Q (.ret d) m3 σ3) /\
    (∀ m' σ', Inv (min xs.length ys.length) m' σ' -> Q .next m' σ'))
   (hf : ∀ x, foldedSetIterable (.Call (.Name "zip" np) [e1, e2] [] cpos) env x = pure x := by intro _; rfl) :
   EX c A env m (.For (.Tuple elts tk tpos) (.Call (.Name "zip" np) [e1, e2] [] cpos) body [] pos) σ Q := by iterate 1
 exact fun s X => by
  refine wpAny_For (wpAny_Call_ofName (wpAny_Name (Ny C X hg hl ?_) (by decide))) hf
  refine callWith_of (P := fun h => ∀ b o, c.h₀.get? b = some o -> h.get? b = some o) (by rw [KQ hs]; rfl) (Aw.type _) (Nw hs ?_)
  refine Ai (h s _ X) (fun vs s1 ⟨ds, σ1, q, p, r⟩ => ⟨p.1.2.1, ?_⟩) fun _ _ e => e.elim
  obtain ⟨xs, ys, rfl, q⟩ := q
  cases r with
  | cons r1 r =>
   cases r with
   | cons r2 r =>
   cases r
   cases r1 with
   | @tup t1 vs1 n1 _ b1 g1 r1 =>
   cases r2 with
   | @tup t2 vs2 n2 _ b2 g2 r2 =>
   refine SP (xs := vs1.toArray) (ys := vs2.toArray) ⟨_, g1, rfl, n1, rfl⟩ ⟨_, g2, rfl, n2, rfl⟩ fun h₂ Z k => ?_
   have l1 := AZ g1
   have l2 := AZ g2
   have nn : ∀ j, s1.heap.get? (s1.heap.objs.size + j) = none := fun j => by
    cases e : s1.heap.get? (s1.heap.objs.size + j) with
    | none => rfl
    | some o => have := AZ e; exact absurd this (ED.mpr (FW _ _))
   have hB := nn 3
   have X1 := X.post p
   have X2 : Ax (c.plus (s1.heap.objs.size + 3)) env m σ1 { s1 with heap := h₂ } := X1.up (t := s1.toks) hB k ⟨[.none, .none], _, Z.to⟩
   obtain ⟨Inv, h0, step, fin⟩ := q _ (p.1.none_of hB).1
   have kk : ∀ a vs n, s1.heap.get? a = some (AV vs n) -> ¬ c.bad a -> ¬ (c.plus (s1.heap.objs.size + 3)).bad a := fun a vs n e hn hq => hq.elim hn fun q => by rw [q, hB] at e; cases e
   have tk2 : AW s1.heap h₂ := fun _ _ _ e => k _ _ e
   have st : ZSt (c.plus (s1.heap.objs.size + 3)) s1.heap.objs.size t1 t2 xs ys vs1 vs2 n1 n2 .none 0 h₂ := ⟨⟨_, _, Z⟩, k _ _ g1, k _ _ g2, (r1.toB kk).mono tk2, (r2.toB kk).mono tk2⟩
   have hid : B7 (c.plus (s1.heap.objs.size + 3)) env σ1 (zfp s1.heap.objs.size) := fun b hb => by
    have hn : s1.heap.get? b = none := by
     simp at hb
     rcases hb with rfl | rfl | rfl | rfl
     ·exact nn 4
     ·exact nn 3
     ·exact nn 0
     ·exact nn 1
    exact ⟨(p.1.none_of hn).1, (p.1.none_of hn).2, fun ho => by obtain ⟨o, e⟩ := X1.own_some ho; rw [hn] at e; cases e⟩
   refine wpAny_pyIter_zip Z.z ?_
   have W := wkZip (c := c.plus (s1.heap.objs.size + 3)) (A := A) (elts := elts) (tk := tk) (tpos := tpos) (xs := xs) (ys := ys) (vs1 := vs1) (vs2 := vs2) (n1 := n1) (n2 := n2) hh (.inr rfl) (kk _ _ _ g1 b1) (kk _ _ _ g2 b2) l1 l2
   refine De (NF (Q := Q) W Inv (fun _ _ _ _ => trivial) (fun i d m' σ' hI hd => ?_) (fun m' σ' hI => fin m' σ' ?_) X2 h0 st hid) fun r s3 ⟨f, fl, m', σ', e, q, F, X', r'⟩ => ?_
   ·obtain ⟨x, y, hx, hy, rfl⟩ := ON hd
    exact step i x y m' σ' hI hx hy
   ·have : (FV xs ys).length = min xs.length ys.length := by simp [FV]
    rwa [this] at hI
   subst e
   have hfp : ∀ b o, s.heap.get? b = some o -> σ b = none -> b ∉ zfp s1.heap.objs.size /\ h₂.get? b = some o /\ σ1 b = none := fun b o e hb => by
    have e1 := p.2.1 b o hb e
    have := AZ e1
    exact ⟨fun hm => absurd this (ED.mpr (OO hm).1), k _ _ e1, p.2.2 b o e hb⟩
   refine ⟨fl, m', σ', q, ⟨fun b o hb ho e => ?_, fun b o e hb ho => ?_⟩, X'.down, ?_⟩
   ·obtain ⟨h1, h2, h3⟩ := hfp b o e hb
    exact F.1 b o h3 (fun q => q.elim ho h1) h2
   ·obtain ⟨h1, h2, h3⟩ := hfp b o e hb
    exact F.2 b o h2 h3 fun q => q.elim ho h1
   ·have kd : ∀ a vs n, s3.heap.get? a = some (AV vs n) -> ¬ (c.plus (s1.heap.objs.size + 3)).bad a -> ¬ c.bad a := fun a vs n e hn hq => hn (.inl hq)
    cases f <;> cases fl <;> first | exact r'.elim | exact trivial | exact Aj.toB kd r'
end
theorem LM (hr : FI xs) : ∀ (fuel lo hi : Nat), hi - lo <= fuel -> lo <= hi -> hi <= xs.size -> (∀ i, i < lo -> xs.getD i 0 < j) -> (∀ i, hi <= i -> i < xs.size -> j <= xs.getD i 0) ->
  (IZ xs j fuel lo hi <= xs.size /\ (∀ i, i < IZ xs j fuel lo hi -> xs.getD i 0 < j) /\ ∀ i, IZ xs j fuel lo hi <= i -> i < xs.size -> j <= xs.getD i 0)
 | 0, lo, hi, hf, hl, hs, h1, h2 => by iterate 1
  unfold IZ
  have : lo = hi := by omega
  subst this
  exact ⟨hs, h1, h2⟩
 | fuel + 1, lo, hi, hf, hl, hs, h1, h2 => by iterate 1
  unfold IZ
  by_cases q : lo < hi
  ·rw [if_pos q]
   dsimp only
   have hm : xs.getD ((lo + hi) / 2) j = xs.getD ((lo + hi) / 2) 0 := by
    have hq : (lo + hi) / 2 < xs.size := by omega
    rw [Dd, Dd, CA hq]; rfl
   rw [hm]
   by_cases p : xs.getD ((lo + hi) / 2) 0 < j
   ·rw [if_pos p]
    refine LM hr fuel _ _ (by omega) (by omega) hs (fun i hi' => ?_) h2
    by_cases e : i = (lo + hi) / 2
    ·rw [e]; exact p
    ·exact DB (hr i ((lo + hi) / 2) (by omega) (by omega)) p
   ·rw [if_neg p]
    refine LM hr fuel _ _ (by omega) (by omega) (by omega) h1 (fun i hi' hs' => ?_)
    by_cases e : i = (lo + hi) / 2
    ·rw [e]; omega
    ·exact Ap (ED.mp p) (Bz (hr ((lo + hi) / 2) i (by omega) hs'))
  ·rw [if_neg q]
   have : lo = hi := by omega
   subst this
   exact ⟨hs, h1, h2⟩
theorem OP (hr : FI xs) (j : Nat) : Dk xs j <= xs.size /\ (∀ i, i < Dk xs j -> xs.getD i 0 < j) /\ ∀ i, Dk xs j <= i -> i < xs.size -> j <= xs.getD i 0 := by iterate 1
 exact
  LM hr xs.size 0 xs.size (by omega) (by omega) (Az _) (fun i h => absurd h (En _)) fun i h h' => by omega
theorem getD_some {xs : Array Nat} (h : i < xs.size) : xs[i]? = some (xs.getD i 0) := by iterate 1
 rw [Dd, CA h]; rfl
theorem OQ (xs : Array Nat) (p x : Nat) (hp : p <= xs.size) (i : Nat) : (GN xs p x).getD i 0 = if i < p then xs.getD i 0 else if i = p then x else xs.getD (i - 1) 0 := by iterate 1
 have e : ∀ (ys : Array Nat) k, ys.getD k 0 = (ys.toList[k]?).getD 0 := fun ys k => by rw [Dd, DV]
 rw [e, SetTable.toList_insertAt, e, e]
 have hl : (xs.toList.take p).length = p := by rw [C7, CP]; omega
 by_cases h1 : i < p
 ·rw [if_pos h1, CQ (by omega), SR h1]
 ·rw [if_neg h1, C8 (by omega), hl]
  by_cases h2 : i = p
  ·subst h2; simp
  ·rw [if_neg h2]
   obtain ⟨k, rfl⟩ : ∃ k, i = p + k + 1 := ⟨i - p - 1, by omega⟩
   have : p + k + 1 - p = k + 1 := by omega
   rw [this, RC, List.getElem?_drop]
   rfl
theorem LN {α : Type} (xs : Array α) (p : Nat) (x : α) : (GN xs p x).size = xs.size + 1 := by iterate 1
 have := (SS xs p x).length_eq
 simpa using this
theorem OR (j : Nat) : SetTable.has #[] j = false := rfl
theorem SU {t : SetTable} (h : t.slot j = .empty) : t.place[Dk t.place j]? ≠ some j := by iterate 1
 exact fun e => by
  unfold SetTable.slot at h
  dsimp only at h
  rw [e] at h
  simp at h
theorem SV (hr : FI xs) (hj : xs[Dk xs j]? ≠ some j) : FI (GN xs (Dk xs j) j) := by iterate 1
 obtain ⟨hp, h1, h2⟩ := OP hr j
 have h2' : ∀ i, Dk xs j <= i -> i < xs.size -> j < xs.getD i 0 := fun i hi hs => by
  by_cases e : i = Dk xs j
  ·refine Nat.lt_of_le_of_ne (h2 i hi hs) fun q => hj ?_
   rw [<- e, getD_some hs, <- q]
  ·exact Bd (h2 _ (Az _) (by omega)) (hr _ i (by omega) hs)
 intro i k hik hk
 rw [LN] at hk
 rw [OQ _ _ _ hp, OQ _ _ _ hp]
 generalize Dk xs j = p at *
 by_cases a : k < p
 ·rw [if_pos (by omega), if_pos a]; exact hr i k hik (by omega)
 ·rw [if_neg a]
  by_cases b : k = p
  ·rw [if_pos b, if_pos (by omega)]; exact h1 i (by omega)
  ·rw [if_neg b]
   by_cases c : i < p
   ·rw [if_pos c]; exact DB (h1 i c) (h2' (k - 1) (by omega) (by omega))
   ·rw [if_neg c]
    by_cases d : i = p
    ·rw [if_pos d]; exact h2' (k - 1) (by omega) (by omega)
    ·rw [if_neg d]; exact hr (i - 1) (k - 1) (by omega) (by omega)
theorem TOk.plain (h : TOk b t) (p : Bool) : TOk b { t with plain := p } := ⟨h.dum, h.led, h.rise⟩
theorem TOk.slot (h : TOk b t) (j : Nat) : t.slot j = .empty ∨ ∃ i, t.slot j = .live i /\ t.place[i]? = some j := by iterate 1
 unfold SetTable.slot
 dsimp only
 rw [h.dum]
 cases e : t.place[Dk t.place j]? == some j with
 | true => right; exact ⟨_, by rw [if_pos (by rfl)], by simpa using e⟩
 | false => left; rw [if_neg (by exact Cu), if_neg (by rw [OR]; exact Cu)]
theorem TOk.put (h : TOk b t) (hj : t.slot j = .empty) : TOk b (t.put j).1 := by iterate 1
 unfold SetTable.put
 refine ⟨?_, h.led, SV h.rise (SU hj)⟩
 dsimp only
 rw [h.dum, OR]
 rfl
theorem SW (t : SetTable) (j : Nat) : (t.put j).1.mask = t.mask := rfl
theorem SX (t : SetTable) (j : Nat) : (t.put j).1.place.size = t.place.size + 1 := LN ..
theorem TOk.standIn (h : TOk b t) (n : Nat) : TOk b (t.standIn n) := by iterate 1
 exact ⟨rfl, h.led, fun i k hik hk => by
  have hk' : k < n := by simpa [SetTable.standIn] using hk
  show (Array.range n).getD i 0 < (Array.range n).getD k 0
  rw [Dd, Dd]
  simp only [Array.getElem?_range, hk', (by omega : i < n), if_true, NN]
  exact hik⟩
theorem TOk.orStandIn (h : TOk b t) (n : Nat) : TOk b (t.orStandIn n) := by iterate 1
 unfold SetTable.orStandIn; split
 ·exact h
 ·exact h.standIn n
theorem TOk.probe_go {b : Bool} {t : SetTable} (h : TOk b t) {hashAt : Nat -> Int} {hs : Int} : ∀ (fuel : Nat) (p : SetTable.Probe), p.dummy = none ->
  match Hs t hashAt hs fuel p with
  | some (.empty j d) => d = none /\ t.slot j = .empty
  | some (.candidate j i next) => t.slot j = .live i /\ t.place[i]? = some j /\ hashAt i = hs /\ next.dummy = none
  | none => True
 | 0, p, hp => trivial
 | fuel + 1, p, hp => by iterate 1
  have adv : (t.advance p).dummy = none := by unfold LO; split <;> exact hp
  unfold Hs
  rcases h.slot p.j with e | ⟨i, e, hi⟩
  ·rw [e]; exact ⟨hp, e⟩
  ·rw [e]
   dsimp only
   by_cases q : hashAt i == hs
   ·rw [if_pos q]; exact ⟨e, hi, by simpa using q, adv⟩
   ·rw [if_neg q]; exact TOk.probe_go h fuel _ adv
theorem TOk.freeSlot (h : TOk b t) (e : t.freeSlot hs = some (j, d)) : d = false /\ t.slot j = .empty := by iterate 1
 unfold SetTable.freeSlot at e
 have := h.probe_go (hashAt := fun _ => hs + 1) (hs := hs) (10 * Eo t.mask) (t.probeStart hs) rfl
 unfold SetTable.probe at e
 split at e
 ·rename_i j' d' e'
  rw [e'] at this
  obtain ⟨rfl, h2⟩ := this
  simp at e
  exact ⟨e.2, by rw [<- e.1]; exact h2⟩
 ·cases e
theorem TOk.layNew (h : TOk b t) (es : Array (Int × Value)) (hs : Int) (x : Value) : TOk b (layNew t es hs x).2.1 := by iterate 1
 unfold PySem.layNew
 split
 ·rename_i slot d e
  exact (h.put (h.freeSlot e).2).orStandIn _
 ·exact h.standIn _
theorem OS {mask finger moves : Nat} {led plain : Bool} {hashes : Array Int} {t : SetTable} {order : Array Nat} (h : I0 mask finger moves led plain hashes = some (t, order)) : TOk led t /\ t.mask = mask /\ t.plain = plain /\ t.place.size = order.size := by iterate 1
 unfold I0 at h
 cases e : OT mask hashes with
 | none => rw [e] at h; cases h
 | some owner =>
  rw [e] at h
  simp only [OU, OV] at h
  have h' := Cn h
  have h1 := (Prod.mk.inj h').1
  have h2 := (Prod.mk.inj h').2
  subst h1; subst h2
  refine ⟨⟨rfl, rfl, ?_⟩, rfl, rfl, by simp⟩
  have hp : ∀ (l : List Nat), l.Pairwise (· < ·) -> ((l.filterMap fun j => (owner.getD j none).map (j, ·)).map (·.1)).Pairwise (· < ·) := by
   intro l hl
   rw [E7]
   refine List.Pairwise.filterMap (R := (· < ·)) _ (fun a a' haa b hb b' hb' => ?_) hl
   simp only [Option.mem_def, Dl] at hb hb'
   obtain ⟨_, _, rfl⟩ := hb
   obtain ⟨_, _, rfl⟩ := hb'
   exact haa
  have hq := hp _ (SY (n := mask + 1))
  intro i k hik hk
  have hk' : k < ((((Bn (mask + 1)).filterMap fun j => (owner.getD j none).map (j, ·)).map (·.1))).length := by simpa using hk
  have := Ou.mp hq i k (by omega) hk' hik
  rw [Dd, Dd]
  rw [Ic, Ic, Bw (by omega), Bw hk']
  exact this
theorem TOk.relayAll (h : TOk b t) (es : Array (Int × Value)) (wanted : Nat) : TOk b (relayAll t es wanted).2.1 := by iterate 1
 unfold PySem.relayAll
 split
 ·rename_i t' order e
  dsimp only
  split
  ·have := (OS e).1; rw [h.led] at this; exact this
  ·exact h.standIn _
 ·exact h.standIn _
noncomputable def DC (t : SetTable) : Nat -> SetTable.Probe -> SetTable.Probe
 | 0, p => p
 | n + 1, p => DC t n (t.advance p)
theorem OW (t : SetTable) : ∀ (n m : Nat) (p : SetTable.Probe), DC t (n + m) p = DC t m (DC t n p)
 | 0, m, p => by rw [Nat.zero_add]; rfl
 | n + 1, m, p => by rw [OX]; exact OW t n m _
noncomputable def CD (mask : Nat) : Nat -> Nat × Nat -> Nat × Nat
 | 0, x => x
 | n + 1, x => CD mask n (LP mask x.1 x.2)
theorem OY (mask : Nat) : ∀ (n m : Nat) (x : Nat × Nat), CD mask (n + m) x = CD mask m (CD mask n x)
 | 0, m, p => by rw [Nat.zero_add]; rfl
 | n + 1, m, p => by rw [OX]; exact OY mask n m _
noncomputable def CR (mask : Nat) (x : Nat × Nat) : SetTable.Probe := { j := x.1, more := GO mask x.1 - x.1, i := x.1, perturb := x.2, dummy := none }
theorem SZ (t : SetTable) (h : Int) : t.probeStart h = CR t.mask (CS h % (t.mask + 1), CS h) := rfl
theorem OZ (t : SetTable) : ∀ (q : Nat) (p : SetTable.Probe), p.more = q -> p.dummy = none -> DC t (q + 1) p = CR t.mask (LP t.mask p.i p.perturb)
 | 0, p, h, hd => by iterate 1
  show t.advance p = _
  unfold LO
  rw [if_neg (by omega)]
  unfold CR
  simp only [hd]
 | q + 1, p, h, hd => by iterate 1
  show DC t (q + 1) (t.advance p) = _
  have e : t.advance p = { p with j := p.j + 1, more := p.more - 1 } := by unfold LO; rw [if_pos (by omega)]
  rw [e]
  exact OZ t q _ (by show p.more - 1 = q; omega) hd
theorem S0 (mask i : Nat) : GO mask i - i <= 9 := by iterate 1 unfold GO; split <;> omega
theorem O0 (t : SetTable) : ∀ (k : Nat) (x : Nat × Nat), ∃ n, n <= 10 * k /\ DC t n (CR t.mask x) = CR t.mask (CD t.mask k x)
 | 0, x => ⟨0, by omega, rfl⟩
 | k + 1, x => by iterate 1
  obtain ⟨n, hn, e⟩ := O0 t k (LP t.mask x.1 x.2)
  refine ⟨(GO t.mask x.1 - x.1 + 1) + n, by have := S0 t.mask x.1; omega, ?_⟩
  have hr := OZ t _ (CR t.mask x) rfl rfl
  rw [show (CR t.mask x).more + 1 = GO t.mask x.1 - x.1 + 1 from rfl] at hr
  rw [OW, hr]
  exact e
theorem O1 (mask : Nat) : ∀ (k : Nat) (x : Nat × Nat), (CD mask k x).2 = x.2 / 32 ^ k
 | 0, x => by simp [CD]
 | k + 1, x => by iterate 1
  show (CD mask k (LP mask x.1 x.2)).2 = _
  rw [O1 mask k]
  show x.2 / 32 / 32 ^ k = _
  rw [Nat.div_div_eq_div_mul, LQ, Nat.mul_comm]
theorem O2 (mask : Nat) : ∀ (k : Nat) (x : Nat × Nat), x.1 <= mask -> (CD mask k x).1 <= mask
 | 0, x, h => h
 | k + 1, x, h => by iterate 1 exact O2 mask k _ (by show (x.1 * 5 + 1 + x.2 / 32) % (mask + 1) <= mask; exact LR (LS (x.1 * 5 + 1 + x.2 / 32) (Nat.zero_lt_succ mask)))
theorem S4 (h : Int) : CS h < 2 ^ 64 := by iterate 1
 unfold CS
 have h1 := Int.emod_lt_of_pos h (show (0 : Int) < 2 ^ 64 by decide)
 have h0 := Int.emod_nonneg h (show (2 ^ 64 : Int) ≠ 0 by decide)
 omega
noncomputable def Fd (mask : Nat) : Bool := (Bn (mask + 1)).all fun i => (Bn (mask + 1)).all fun j => (Bn (mask + 1)).any fun m => (CD mask m (i, 0)).1 == j
theorem S5 : Fd 7 = true := by decide +kernel
theorem O3 : Fd 31 = true := by decide +kernel
theorem O4 (hc : Fd mask = true) (h : Int) (hj : j <= mask) : ∃ k, k <= mask + 13 /\ (CD mask k (CS h % (mask + 1), CS h)).1 = j := by iterate 1
 have hi : (CS h % (mask + 1)) <= mask := LR (LS (CS h) (Nat.zero_lt_succ mask))
 generalize hx : (CS h % (mask + 1), CS h) = x at *
 have h13 : (CD mask 13 x).2 = 0 := by
  rw [O1]
  have := S4 h
  have e : x.2 = CS h := by rw [<- hx]
  rw [e]
  exact Nat.div_eq_of_lt (Ht this (by decide))
 have hl : (CD mask 13 x).1 <= mask := O2 mask 13 x (by rw [<- hx]; exact hi)
 have e0 : CD mask 13 x = ((CD mask 13 x).1, 0) := by rw [<- h13]
 unfold Fd at hc
 rw [D0] at hc
 have := hc _ (Ep.mpr (O5 hl))
 rw [D0] at this
 have := this j (Ep.mpr (O5 hj))
 rw [Er] at this
 obtain ⟨m, hm, e⟩ := this
 refine ⟨13 + m, by have := Ep.mp hm; omega, ?_⟩
 rw [OY, e0]
 simpa using e
theorem O6 {α : Type} [DecidableEq α] : ∀ {l ys : List α}, l.Nodup -> (∀ x ∈ l, x ∈ ys) -> l.length <= ys.length
 | [], ys, _, _ => BC _
 | x :: l, ys, hn, hs => by iterate 1
  rw [BE] at hn
  have hx := hs x (Bv)
  have ih := O6 (l := l) (ys := ys.erase x) hn.2 fun y hy => (S6 (fun e => hn.1 (by rw [<- e]; exact hy))).mpr (hs y (BM _ hy))
  rw [O7 hx] at ih
  have := S7 hx
  rw [CE]; omega
theorem TOk.hole (h : TOk b t) (hs : t.place.size <= t.mask) : ∃ j, j <= t.mask /\ t.slot j = .empty := by iterate 1
 apply O8
 intro hn
 have hall : ∀ x ∈ Bn (t.mask + 1), x ∈ t.place.toList := fun x hx => by
  rcases h.slot x with e | ⟨i, _, e⟩
  ·exact absurd ⟨x, by have := Ep.mp hx; omega, e⟩ hn
  ·rw [<- DV] at e; exact AX e
 have := O6 (List.nodup_range) hall
 rw [D7, CP] at this
 omega
theorem TOk.near (h : TOk b t) (hm : t.mask = 7 ∨ t.mask = 31) (hs : t.place.size <= t.mask) (x : Int) : ∃ n, n < 10 * Eo t.mask /\ t.slot (DC t n (t.probeStart x)).j = .empty := by iterate 1
 obtain ⟨j, hj, e⟩ := h.hole hs
 have hc : Fd t.mask = true := by rcases hm with q | q <;> rw [q]; exact S5; exact O3
 obtain ⟨k, hk, ek⟩ := O4 hc x hj
 obtain ⟨n, hn, en⟩ := O0 t k (CS x % (t.mask + 1), CS x)
 refine ⟨n, by unfold Eo; omega, ?_⟩
 rw [SZ, en]
 show t.slot (CD t.mask k _).1 = _
 rw [ek]; exact e
theorem TOk.probe_total {b : Bool} {t : SetTable} (h : TOk b t) {hashAt : Nat -> Int} {hs : Int} : ∀ (fuel n : Nat) (p : SetTable.Probe), p.dummy = none -> n < fuel -> t.slot (DC t n p).j = .empty ->
  match Hs t hashAt hs fuel p with
  | some (.empty j d) => True
  | some (.candidate j i next) => ∃ n', n' < n /\ t.slot (DC t n' next).j = .empty
  | none => False
 | 0, n, p, hp, hn, e => absurd hn (En _)
 | fuel + 1, n, p, hp, hn, e => by iterate 1
  have adv : (t.advance p).dummy = none := by unfold LO; split <;> exact hp
  unfold Hs
  rcases h.slot p.j with e0 | ⟨i, e0, hi⟩
  ·rw [e0]; trivial
  ·rw [e0]
   dsimp only
   cases n with
   | zero => rw [show DC t 0 p = p from rfl, e0] at e; cases e
   | succ n =>
    by_cases q : hashAt i == hs
    ·rw [if_pos q]; exact ⟨n, E8 _, e⟩
    ·rw [if_neg q]
     have ih := TOk.probe_total h (hashAt := hashAt) (hs := hs) fuel n _ adv (S8 hn) e
     revert ih
     cases Hs t hashAt hs fuel (t.advance p) with
     | none => exact id
     | some mt =>
      cases mt with
      | empty => exact id
      | candidate => exact fun ⟨n', h1, h2⟩ => ⟨n', Dx h1, h2⟩
theorem O9 {mask : Nat} {owner : Array (Option Nat)} : ∀ (fuel k i pt : Nat), k < fuel -> owner.getD (CD mask k (i, pt)).1 (some 0) = none -> ∃ j, Pa mask owner fuel i pt = some j /\ owner.getD j (some 0) = none
 | 0, k, i, pt, hk, _ => absurd hk (En _)
 | fuel + 1, k, i, pt, hk, e => by iterate 1
  unfold Pa
  cases hf : (Bn (GO mask i + 1 - i)).find? fun k => (owner.getD (i + k) (some 0)).isNone with
  | some k' =>
   refine ⟨_, rfl, ?_⟩
   have := List.find?_some hf
   exact Option.isNone_iff_eq_none.mp this
  | none =>
   dsimp only
   cases k with
   | zero =>
    have h0 := I6.mp hf 0 (Ep.mpr (by unfold GO; split <;> omega))
    exfalso
    apply h0
    show (owner.getD i (some 0)).isNone = true
    rw [show owner.getD i (some 0) = none from e]; rfl
   | succ k => exact O9 fuel k _ _ (S8 hk) e
theorem S9 {owner : Array (Option Nat)} (h : owner.getD j (some 0) = none) : j < owner.size /\ owner[j]? = some none := by iterate 1
 rw [Dd] at h
 cases e : owner[j]? with
 | none => rw [e] at h; cases h
 | some x => rw [e] at h; cases h; exact ⟨(OF.mp e).1, rfl⟩
theorem Pb : ∀ {l : List (Option Nat)} {j k : Nat}, l[j]? = some none -> List.Perm ((l.set j (some k)).filterMap id) (k :: l.filterMap id)
 | [], j, k, h => by simp at h
 | a :: l, 0, k, h => by simp at h; subst h; simp
 | a :: l, j + 1, k, h => by iterate 1
  have ih := Pb (k := k) (show l[j]? = some none by simpa using h)
  cases a with
  | none => simpa using ih
  | some a =>
   simp only [List.set_cons_succ, I7 (show id (some a) = some a from rfl)]
   exact (ih.cons a).trans (List.Perm.swap _ _ _)
theorem Ta {l : List (Option Nat)} (h : (l.filterMap id).length < l.length) : ∃ j, j < l.length /\ l[j]? = some none := by iterate 1
 induction l with
 | nil => simp at h
 | cons a l ih =>
  cases a with
  | none => exact ⟨0, by simp, rfl⟩
  | some a =>
   simp only [I7 (show id (some a) = some a from rfl), CE] at h
   obtain ⟨j, h1, h2⟩ := ih (by omega)
   exact ⟨j + 1, by simpa using h1, by simpa using h2⟩
noncomputable def Hu (mask k : Nat) (owner : Array (Option Nat)) : Prop := owner.size = mask + 1 /\ List.Perm (owner.toList.filterMap id) (Bn k)
theorem Pc (hc : Fd mask = true) : ∀ (hs : List Int) (owner : Array (Option Nat)) (k : Nat), Hu mask k owner -> k + hs.length <= mask ->
  ∃ owner', (hs.foldl (fun (acc : Option (Array (Option Nat) × Nat)) h => do
   let (owner, k) <- acc
   let j <- Pa mask owner (Eo mask) (CS h % (mask + 1)) (CS h)
   pure (owner.setIfInBounds j (some k), k + 1)) (some (owner, k))) = some (owner', k + hs.length) /\ Hu mask (k + hs.length) owner'
 | [], owner, k, hI, _ => ⟨owner, rfl, hI⟩
 | h :: hs, owner, k, hI, hk => by iterate 1
  have hlen := hI.2.length_eq
  rw [D7] at hlen
  simp only [CE] at hk
  obtain ⟨j, hj, ej⟩ := Ta (l := owner.toList) (by rw [hlen, CP, hI.1]; omega)
  rw [CP, hI.1] at hj
  obtain ⟨n, hn, en⟩ := O4 hc h (LR hj)
  obtain ⟨j', hf, e'⟩ := O9 (mask := mask) (owner := owner) (Eo mask) n (CS h % (mask + 1)) (CS h) (by unfold Eo; omega) (by
   rw [en, Dd, <- DV, ej]; rfl)
  obtain ⟨hlt, hg⟩ := S9 e'
  have hI' : Hu mask (k + 1) (owner.setIfInBounds j' (some k)) := by
   refine ⟨by rw [Array.size_setIfInBounds]; exact hI.1, ?_⟩
   rw [Array.toList_setIfInBounds]
   refine (Pb (by rw [DV]; exact hg)).trans ?_
   rw [LU]
   exact (hI.2.cons k).trans (LV _ _).symm
  obtain ⟨owner', e, hI''⟩ := Pc hc hs _ (k + 1) hI' (by omega)
  refine ⟨owner', ?_, ?_⟩
  ·rw [List.foldl_cons]
   simp only [OU, OV, hf, Option.pure_def]
   simp only [OU, OV, Option.pure_def] at e
   rw [e]
   simp only [CE]
   congr 2
   omega
  ·simp only [CE]
   rw [show k + (hs.length + 1) = k + 1 + hs.length by omega]
   exact hI''
theorem Tb (hc : Fd mask = true) (hs : Array Int) (h : hs.size <= mask) : ∃ owner, OT mask hs = some owner /\ Hu mask hs.size owner := by iterate 1
 have hI : Hu mask 0 (Array.replicate (mask + 1) none) := ⟨by simp, by simp⟩
 obtain ⟨owner, e, hI'⟩ := Pc hc hs.toList _ 0 hI (by rw [CP]; omega)
 refine ⟨owner, ?_, by simpa using hI'⟩
 unfold OT
 rw [<- Array.foldl_toList]
 rw [e]; rfl
theorem Tc (owner : Array (Option Nat)) (hm : owner.size = mask + 1) : ((Bn (mask + 1)).filterMap fun j => (owner.getD j none).map (j, ·)).map (·.2) = owner.toList.filterMap id := by iterate 1
 have h1 : ∀ (l : List Nat), ((l.filterMap fun j => (owner.getD j none).map (j, ·)).map (·.2)) = l.filterMap fun j => owner.getD j none := by
  intro l
  induction l with
  | nil => rfl
  | cons a l ih =>
   cases e : owner.getD a none with
   | none =>
    rw [Td (f := fun j => (owner.getD j none).map (j, ·)) (by show (owner.getD a none).map _ = none; rw [e]; rfl), Td (f := fun j => owner.getD j none) e]; exact ih
   | some x =>
    rw [I7 (f := fun j => (owner.getD j none).map (j, ·)) (b := (a, x)) (by show (owner.getD a none).map _ = _; rw [e]; rfl), I7 (f := fun j => owner.getD j none) e, AM, ih]
 rw [h1]
 have h2 : owner.toList = (Bn (mask + 1)).map fun j => owner.getD j none := by
  refine OG fun i => ?_
  rw [DV, Bs]
  by_cases hi : i < mask + 1
  ·rw [Ie hi, CA (by omega)]
   show _ = some (owner.getD i none)
   rw [Dd, CA (by omega)]; rfl
  ·rw [IV (by omega), D8 (by simp; omega)]; rfl
 rw [h2, List.filterMap_map]
 rfl
theorem Te (hc : Fd mask = true) (finger moves : Nat) (led plain : Bool) (hs : Array Int) (h : hs.size <= mask) :
  ∃ t order, I0 mask finger moves led plain hs = some (t, order) /\ List.Perm order.toList (Bn hs.size) := by iterate 1
 obtain ⟨owner, e, hI⟩ := Tb hc hs h
 have hq : ∃ t, I0 mask finger moves led plain hs = some (t, (((Bn (mask + 1)).filterMap fun j => (owner.getD j none).map (j, ·)).map (·.2)).toArray) := by
  unfold I0
  rw [e]
  exact ⟨_, rfl⟩
 obtain ⟨t, hq⟩ := hq
 refine ⟨t, _, hq, ?_⟩
 rw [List.toList_toArray, Tc owner hI.1]
 exact hI.2
section
open Classical
noncomputable def Es (ds : List D) (d : D) (ds' : List D) : Prop := (ds' = ds /\ d ∈ ds) ∨ List.Perm ds' (d :: ds)
theorem Es.mem (g : Es ds d ds') (y : D) : y ∈ ds' ↔ y ∈ ds ∨ y = d := by iterate 1
 rcases g with ⟨rfl, h⟩ | p
 ·exact ⟨.inl, fun q => q.elim id fun e => e ▸ h⟩
 ·rw [p.mem_iff, Ay, or_comm]
structure Got (acc xs : List D) : Prop where
 sub : ∃ l, List.Perm acc l /\ List.Sublist l xs
 mem : ∀ y, y ∈ acc ↔ y ∈ xs
theorem Got.len (g : Got acc xs) : acc.length <= xs.length := by iterate 1
 exact let ⟨l, p, s⟩ := g.sub; p.length_eq ▸ s.length_le
theorem Got.grow (g : Got acc xs) (w : Es acc d acc') : Got acc' (xs ++ [d]) := by iterate 1
 exact {
  sub := by
   obtain ⟨l, p, s⟩ := g.sub
   rcases w with ⟨rfl, _⟩ | q
   ·exact ⟨l, p, s.trans (List.sublist_append_left ..)⟩
   ·exact ⟨l ++ [d], q.trans ((List.Perm.cons d p).trans (LV d l).symm), s.append (List.Sublist.refl _)⟩
  mem := fun y => by rw [w.mem, g.mem, AC, Ag] }
theorem A4.perm (p : List.Perm l' l) : ∀ {ds : List D}, A4 B w h l ds -> ∃ ds', A4 B w h l' ds' /\ List.Perm ds' ds := by iterate 1
 induction p with
 | nil => intro ds r; exact ⟨ds, r, .refl _⟩
 | cons x p ih =>
  intro ds r
  cases ds with
  | nil => exact r.elim
  | cons d ds => obtain ⟨ds', r', q⟩ := ih r.2.2.2; exact ⟨d :: ds', ⟨r.1, r.2.1, r.2.2.1, r'⟩, q.cons d⟩
 | swap x y l =>
  intro ds r
  cases ds with
  | nil => exact r.elim
  | cons d ds =>
   cases ds with
   | nil => exact r.2.2.2.elim
   | cons e ds => exact ⟨e :: d :: ds, ⟨r.2.2.2.1, r.2.2.2.2.1, r.2.2.2.2.2.1, r.1, r.2.1, r.2.2.1, r.2.2.2.2.2.2⟩, .swap _ _ _⟩
 | trans p q ih1 ih2 =>
  intro ds r
  obtain ⟨ds1, r1, q1⟩ := ih2 r
  obtain ⟨ds2, r2, q2⟩ := ih1 r1
  exact ⟨ds2, r2, q2.trans q1⟩
theorem A4.push (hr : Aj B h x d) (hk : Al 4 d = true) (r : A4 B w h l ds) : A4 B w h ((Br w d, x) :: l) (d :: ds) := ⟨rfl, hr, hk, r⟩
theorem A4.length : ∀ {l : List (Int × Value)} {ds : List D}, A4 B w h l ds -> l.length = ds.length
 | [], [], _ => rfl
 | _ :: _, _ :: _, r => by simp [A4.length r.2.2.2]
 | [], _ :: _, f => f.elim
 | _ :: _, [], f => f.elim
theorem A4.get : ∀ {l : List (Int × Value)} {ds : List D}, A4 B w h l ds -> ∀ {i : Nat} {e : Int × Value}, l[i]? = some e -> ∃ d, ds[i]? = some d /\ e.1 = Br w d /\ Aj B h e.2 d /\ Al 4 d = true
 | [], [], _, i, e, q => by simp at q
 | _ :: _, d :: _, r, 0, e, q => by iterate 1 simp at q; subst q; exact ⟨d, rfl, r.1, r.2.1, r.2.2.1⟩
 | _ :: _, _ :: _, r, i + 1, e, q => by iterate 1
  obtain ⟨d, h1, h2⟩ := A4.get r.2.2.2 (i := i) (e := e) (by simpa using q)
  exact ⟨d, by simpa using h1, h2⟩
 | [], _ :: _, f, _, _, _ => f.elim
 | _ :: _, [], f, _, _, _ => f.elim
theorem A4.mem (r : A4 B w h l ds) {e : Int × Value} (q : e ∈ l) : ∃ d, d ∈ ds /\ e.1 = Br w d /\ Aj B h e.2 d /\ Al 4 d = true := by iterate 1
 obtain ⟨i, hi⟩ := EZ.mp q
 obtain ⟨d, h1, h2⟩ := r.get hi
 exact ⟨d, AX h1, h2⟩
theorem A4.vals : ∀ {l : List (Int × Value)} {ds : List D}, A4 B w h l ds -> Ak B h (l.map (·.2)) ds
 | [], [], _ => .nil
 | _ :: _, _ :: _, r => .cons r.2.1 (A4.vals r.2.2.2)
 | [], _ :: _, f => f.elim
 | _ :: _, [], f => f.elim
section
variable {c : Cx} {A : Around} {B : Addr -> Prop} {prog : Program} {w : World}
mutual
theorem LW : ∀ (n m : Nat) (d : D) (v : Value) (A : Around) (s : Shared) (Q : Bool -> Shared -> Prop), n <= m -> Al n d = true -> Aj B s.heap v d -> Q false s -> wpAny (model prog w) A (ofAClassStatement m v) Q (fun _ _ => False) s
 | n, m, .none, v, A, s, Q, _, hk, r, h => by cases n <;> cases hk
 | n, m, .bool _, v, A, s, Q, _, hk, r, h => by cases n <;> cases hk
 | n, m, .ref _, v, A, s, Q, _, hk, r, h => by cases n <;> cases hk
 | n, m, .int i, v, A, s, Q, _, hk, r, h => by cases r; cases m <;> exact Ad h
 | n, m, .str i, v, A, s, Q, _, hk, r, h => by cases r; cases m <;> exact Ad h
 | 0, m, .tup ds, v, A, s, Q, _, hk, r, h => by cases hk
 | n + 1, 0, .tup ds, v, A, s, Q, hm, hk, r, h => by omega
 | n + 1, m + 1, .tup ds, v, A, s, Q, hm, hk, r, h => by iterate 1
  cases r with
  | @tup a vs k _ nb ho rs =>
  have hT : s.TypeIs (.ref a) "tuple" := ⟨_, ho, rfl⟩
  unfold ofAClassStatement
  refine Ab (IY hT ?_)
  dsimp only
  rw [if_pos (by decide)]
  refine Ab (Ad ?_)
  simp only [FP, Be, if_false]
  refine Ab (Dy ho rfl ?_)
  dsimp only
  refine Ab ?_
  show wpAny _ _ (forIn vs.toArray _ _) _ _ s
  rw [<- Lo]
  have hvs := Ak.IH vs ds hk rs
  refine IK _ (fun rest r s' => r.1 = none /\ s' = s /\ ∀ v ∈ rest, ∃ d, Al n d = true /\ Aj B s.heap v d) _ ?_ ?_ _ _ ⟨rfl, rfl, hvs⟩
  ·rintro v rest r s' ⟨hr, rfl, hall⟩
   obtain ⟨d, hd, hrd⟩ := hall v Bv
   refine Ab (LW n m d v A _ _ (by omega) hd hrd ?_)
   simp only [Be, if_false]
   exact Ad ⟨rfl, rfl, fun u hu' => hall u (BM _ hu')⟩
  ·rintro ⟨r1, r2⟩ s' ⟨hr, rfl, _⟩
   simp only at hr
   subst hr
   exact Ad h
end
theorem Tf {Q : Bool -> Shared -> Prop} (hk : Al 4 d = true) (r : Aj B s.heap x d) (stored : List Value) (hs : ∀ v ∈ stored, ∃ d, Al 4 d = true /\ Aj B s.heap v d) (h : Q false s) :
  wpAny (model prog w) A (searchCouldBeSeen x stored) Q (fun _ _ => False) s := by iterate 1
 unfold searchCouldBeSeen
 refine Ab ?_
 refine IK _ (fun rest r s' => r.1 = none /\ s' = s /\ ∀ v ∈ rest, ∃ d, Al 4 d = true /\ Aj B s.heap v d) _ ?_ ?_ _ _ ⟨rfl, rfl, hs⟩
 ·rintro v rest q s' ⟨hq, rfl, hall⟩
  obtain ⟨e, he, hre⟩ := hall v Bv
  have rest' : ∀ u ∈ rest, ∃ d, Al 4 d = true /\ Aj B s'.heap u d := fun u hu' => hall u (BM _ hu')
  dsimp only
  refine GP (fun _ => Ad ⟨rfl, rfl, rest'⟩) (fun _ => ?_)
  refine Ab (IJ 4 8 d x A _ _ (by omega) hk r ?_)
  simp only [FP, Be, if_false]
  refine Ab (IJ 4 8 e v A _ _ (by omega) he hre ?_)
  simp only [FP, Be, if_false]
  refine Ab (LW 4 8 d x A _ _ (by omega) hk r ?_)
  simp only [Be, if_false]
  refine Ab (LW 4 8 e v A _ _ (by omega) he hre ?_)
  simp only [Be, if_false]
  exact Ad ⟨rfl, rfl, rest'⟩
 ·rintro ⟨r1, r2⟩ s' ⟨hr, rfl, _⟩
  simp only at hr
  subst hr
  exact Ad h
noncomputable def Pd (t : SetTable) : Prop := t.mask = 7 ∨ t.mask = 31
theorem Pe {b : Bool} {S : Addr} {es : Array (Int × Value)} {ep : Nat} {t : SetTable} {ds : List D} {x : Value} {d : D} {s : Shared} {Q : SetFound -> Shared -> Prop} (hu : A.units + 6 < cLine)
  (ho : s.heap.get? S = some (BV es ep t)) (hf : t.fits es.size = true) (T : TOk b t) (hm : Pd t) (hp : t.place.size = es.size) (rs : A4 B w s.heap es.toList ds) (hds : ∀ d ∈ ds, ∃ xs, d = .tup xs) (hk : Al 4 d = true) (r : Aj B s.heap x d)
  (q1 : d ∈ ds -> Q (.there none) s) (q2 : ∀ j, t.slot j = .empty -> Q (.free j false) s) :
  ∀ (fuel n : Nat) (CR : Option SetTable.Probe), (CR.getD (t.probeStart (Br w d))).dummy = none -> n < 10 * Eo t.mask -> n < fuel -> t.slot (DC t n (CR.getD (t.probeStart (Br w d)))).j = .empty ->
  wpAny (model prog w) A (setSearchFrom S x (Br w d) true fuel CR) Q (fun _ _ => False) s
 | 0, n, CR, _, _, hn, _ => absurd hn (En _)
 | fuel + 1, n, CR, hdm, hlt, hn, he => by iterate 1
  have hodd : t.gaveWay = false := by unfold SetTable.gaveWay; rcases hm with q | q <;> rw [q] <;> rfl
  unfold setSearchFrom
  refine Ab (DN ho rfl hf ?_)
  dsimp only
  rw [hodd]
  simp only [Be, if_false]
  have gg : ∀ (H : Nat -> Int) met, t.probe H (Br w d) (CR.getD (t.probeStart (Br w d))) = met -> match met with
    | some (.empty j dm) => dm = none /\ t.slot j = .empty
    | some (.candidate j i next) => (t.slot j = .live i /\ t.place[i]? = some j /\ next.dummy = none) /\ ∃ n', n' < n /\ t.slot (DC t n' next).j = .empty
    | none => False := fun H met e => by
   have g1 := T.probe_go (hashAt := H) (hs := Br w d) (10 * Eo t.mask) _ hdm
   have g2 := T.probe_total (hashAt := H) (hs := Br w d) (10 * Eo t.mask) n _ hdm hlt he
   have e' : Hs t H (Br w d) (10 * Eo t.mask) (CR.getD (t.probeStart (Br w d))) = met := e
   rw [e'] at g1 g2
   cases met with
   | none => exact g2
   | some mt => cases mt with
    | empty j dm => exact g1
    | candidate j i next => exact ⟨⟨g1.1, g1.2.1, g1.2.2.2⟩, g2⟩
  generalize hmt : SetTable.probe t _ (Br w d) (CR.getD (t.probeStart (Br w d))) = met
  have g := gg _ _ hmt
  clear hmt gg
  cases met with
  | none => exact g.elim
  | some mt =>
   cases mt with
   | empty j dm =>
    obtain ⟨rfl, hj⟩ := g
    exact Ad (q2 j hj)
   | candidate j i next =>
    obtain ⟨⟨hj, hi, hnd⟩, n', hn', he'⟩ := g
    dsimp only
    have hlt' : i < es.size := by rw [<- hp]; exact (OF.mp hi).1
    obtain ⟨⟨h0, y⟩, hey⟩ : ∃ e, es[i]? = some e := ⟨_, CA hlt'⟩
    obtain ⟨dy, hdy, hy1, hy2, hy3⟩ := rs.get (i := i) (e := (h0, y)) (by rw [DV]; exact hey)
    have hdm' := AX hdy
    obtain ⟨ys, rfl⟩ := hds dy hdm'
    rw [hey]
    have sm : t.sameMemory t.moves t.mask = some true := by simp [SetTable.sameMemory]
    have ih := fun (hne : ¬ D.tup ys = d) => Pe hu ho hf T hm hp rs hds hk r q1 q2 fuel n' (some next) hnd (by omega) (by omega) he'
    have tail : ∀ equal : Bool, equal = decide (D.tup ys = d) -> wpAny (model prog w) A (do
      let (es', _, t') <- setState S
      if true && equal then return .there none
      let some same := t'.sameMemory t.moves t.mask | unsupported "set.changed-during-lookup:is-the-new-block-at-the-old-address"
      let still <- match (if same then t'.slot j else .empty) with
       | .live i' => match es'[i']? with
        | some (_, y') => do pure (if <- isSame y' y then some i' else none)
        | none => pure none
       | _ => pure none
      match still with
      | none => rule "set.search.anew"; setSearchFrom S x (Br w d) true fuel none
      | some i' => if equal then return .there (some i') else setSearchFrom S x (Br w d) true fuel (some next)) Q (fun _ _ => False) s := by
     intro equal heq
     refine Ab (DN ho rfl hf ?_)
     dsimp only
     by_cases hq : D.tup ys = d
     ·rw [heq, decide_eq_true hq]
      exact Ad (q1 (hq ▸ hdm'))
     ·rw [heq, decide_eq_false hq]
      simp only [Bool.and_false, Be, if_false, sm, if_true, hj, hey]
      cases hy2 with
      | tup nb hg hss =>
      refine Ab (wpAny_isSame_ref_self (Ab (Ad ?_)))
      simp only [if_true]
      exact ih hq
    have body : wpAny (model prog w) A (do
      let equal <- holding [y] (eqBool y x)
      let (es', _, t') <- setState S
      if true && equal then return .there none
      let some same := t'.sameMemory t.moves t.mask | unsupported "set.changed-during-lookup:is-the-new-block-at-the-old-address"
      let still <- match (if same then t'.slot j else .empty) with
       | .live i' => match es'[i']? with
        | some (_, y') => do pure (if <- isSame y' y then some i' else none)
        | none => pure none
       | _ => pure none
      match still with
      | none => rule "set.search.anew"; setSearchFrom S x (Br w d) true fuel none
      | some i' => if equal then return .there (some i') else setSearchFrom S x (Br w d) true fuel (some next)) Q (fun _ _ => False) s :=
     Ab (Bh (Lw hy3 hk hy2 r (by omega) (tail _ rfl)))
    refine GP (fun _ => ?_) (fun _ => body)
    refine Ab (Tf hk r _ (fun v hv => ?_) ?_)
    ·obtain ⟨e, he1, rfl⟩ := Av.mp hv
     rw [Array.toList_filter] at he1
     obtain ⟨dd, _, _, h2, h3⟩ := rs.mem (Ch.mp he1 |>.1)
     exact ⟨dd, h3, h2⟩
    ·simp only [Be, if_false]
     exact body
end
end
section
open Classical
section
variable {c : Cx} {A : Around} {B : Addr -> Prop} {prog : Program} {w : World}
mutual
theorem Pf : ∀ (n m : Nat) (d : D) (v : Value) (A : Around) (s : Shared) (Q : Bool -> Shared -> Prop), n <= m -> Al n d = true -> Aj B s.heap v d -> (∀ b, Q b s) -> wpAny (model prog w) A (hashByValue m v) Q (fun _ _ => False) s
 | n, m, .none, v, A, s, Q, _, hk, r, h => by cases n <;> cases hk
 | n, m, .bool _, v, A, s, Q, _, hk, r, h => by cases n <;> cases hk
 | n, m, .ref _, v, A, s, Q, _, hk, r, h => by cases n <;> cases hk
 | n, m, .int i, v, A, s, Q, _, hk, r, h => by iterate 1 cases r; cases m <;> exact Ad (h _)
 | n, m, .str i, v, A, s, Q, _, hk, r, h => by iterate 1 cases r; cases m <;> exact Ad (h _)
 | 0, m, .tup ds, v, A, s, Q, _, hk, r, h => by cases hk
 | n + 1, 0, .tup ds, v, A, s, Q, hm, hk, r, h => by omega
 | n + 1, m + 1, .tup ds, v, A, s, Q, hm, hk, r, h => by iterate 1
  cases r with
  | @tup a vs k _ nb ho rs =>
  have hT : s.TypeIs (.ref a) "tuple" := ⟨_, ho, rfl⟩
  unfold hashByValue
  refine Ab (Hp hT F.slot_tuple_hash.lookup ?_)
  dsimp only
  refine Ab (Dy ho rfl ?_)
  refine Ab ?_
  show wpAny _ _ (forIn vs.toArray _ _) _ _ s
  rw [<- Lo]
  have hvs := Ak.IH vs ds hk rs
  refine IK _ (fun rest r s' => s' = s /\ ∀ v ∈ rest, ∃ d, Al n d = true /\ Aj B s.heap v d) _ ?_ ?_ _ _ ⟨rfl, hvs⟩
  ·rintro v rest r s' ⟨rfl, hall⟩
   obtain ⟨d, hd, hrd⟩ := hall v Bv
   refine Ab (Pf n m d v A _ _ (by omega) hd hrd fun b => ?_)
   cases b
   ·simp only [Lx, if_true]
    exact Ad (Ad (h _))
   ·simp only [FP, Be, if_false]
    exact Ad ⟨rfl, fun u hu' => hall u (BM _ hu')⟩
  ·rintro ⟨r1, r2⟩ s' ⟨rfl, _⟩
   cases r1 <;> exact Ad (h _)
end
noncomputable def I8 (B : Addr -> Prop) (w : World) (h : Heap) (S : Addr) (ds : List D) : Prop :=
 ∃ es ep t, h.get? S = some (BV es ep t) /\ A4 B w h es.toList ds /\ TOk (DY w) t /\ t.place.size = es.size /\ ((t.mask = 7 /\ es.size <= 4) ∨ (t.mask = 31 /\ es.size <= 18))
theorem Ja (T : TOk b t) (hp : t.place.size = n) (hm : n <= t.mask) : t.fits n = true := by iterate 1
 simp only [SetTable.fits, Pg, T.dum, hp, beq_self_eq_true, Bool.true_and, decide_eq_true_eq]
 show n + 0 <= t.mask
 exact hm
theorem GQ (ho : h.get? S = some o) (hc : o.cls ≠ .type "tuple") (k : Heap.SameBut S h h') : AW h h' := by iterate 1
 exact fun b vs n e => by
  have : b ≠ S := fun q => by rw [q, ho] at e; cases e; exact hc rfl
  exact (k.2 b this).trans e
theorem Jb : (BV es ep t).cls ≠ .type "tuple" := by iterate 1 show Value.type "set" ≠ Value.type "tuple"; decide
theorem Jc {es es' : Array (Int × Value)} {t t' : SetTable} {h : Heap} {S : Addr} (ho : h.get? S = some (BV es ep t)) : (h.update S (Obj.putSet es' t')).get? S = some (BV es' (ep + 1) t') := by iterate 1
 have := EE (Obj.putSet es' t') ho (by rw [putSet_of es' t' rfl]; rfl)
 rw [putSet_of es' t' rfl] at this; exact this
theorem Tg {S : Addr} {ds : List D} {x : Value} {d : D} {s : Shared} (hu : A.units + 6 < cLine) (hS : I8 B w s.heap S ds) (hds : ∀ d ∈ ds, ∃ xs, d = .tup xs) (hz : ds.length <= 17) (hk : Al 4 d = true) {xs : List D} (hd : d = .tup xs) (r : Aj B s.heap x d) :
  wpAny (model prog w) A (setAdd S x) (fun _ s' => ∃ h' tk ds', s' = { s with heap := h', toks := tk } /\ Heap.SameBut S s.heap h' /\ AW s.heap h' /\ I8 B w h' S ds' /\ Es ds d ds') (fun _ _ => False) s := by iterate 1
 unfold setAdd
 refine Bh (Ab (Ln 4 d x _ _ _ hk r (by omega) ?_))
 generalize s.toks + GC d = tk
 unfold setAddHashed
 refine Bh ?_
 obtain ⟨es, ep, t, ho, rs, T, hp, hm⟩ := hS
 have hlen := rs.length
 rw [CP] at hlen
 have hmask : es.size <= t.mask := by omega
 have hf := Ja T hp hmask
 have hsm : Pd t := hm.imp And.left And.left
 unfold setAddHashedIn
 refine Ab (DN ho rfl hf ?_)
 dsimp only
 have hbs : byScan x es = false := by subst hd; cases r; rfl
 rw [hbs]
 simp only [Be, if_false]
 have tkeep : ∀ h', Heap.SameBut S s.heap h' -> AW s.heap h' := fun h' k => GQ ho Jb k
 unfold setSearch
 obtain ⟨n, hn, he⟩ := T.near hsm (by omega) (Br w d)
 refine Ab (Pe (s := { s with toks := tk }) (Q := fun fd s' => wpAny (model prog w) A _ _ _ s') hu ho hf T hsm hp rs hds hk r (fun hmem => ?_) (fun j hj => ?_) 100000 n none rfl hn (by rcases hsm with q | q <;> rw [q] at hn <;> simp [Eo] at hn <;> omega) he)
 ·exact Ad ⟨s.heap, tk, ds, rfl, Heap.SameBut.refl .., fun _ _ _ e => e, ⟨es, ep, t, ho, rs, T, hp, hm⟩, .inl ⟨rfl, hmem⟩⟩
 ·dsimp only
  refine Ab (DN ho rfl hf ?_)
  dsimp only
  have T1 := T.put hj
  have hp1 := SX t j
  rw [hp] at hp1
  have hm1 := SW t j
  generalize (t.put j).2 = p
  generalize (t.put j).1 = t1 at T1 hp1 hm1
  have key : ∀ t2 : SetTable, TOk (DY w) t2 -> t2.place.size = es.size + 1 -> t2.mask = t.mask -> wpAny (model prog w) A (do
    storeSet S (GN es p (Br w d, x)) t2
    if !false && t2.tooFull then setRelay S (Fg (es.size + 1))
    return true) (fun _ s' => ∃ h' tk ds', s' = { s with heap := h', toks := tk } /\ Heap.SameBut S s.heap h' /\ AW s.heap h' /\ I8 B w h' S ds' /\ Es ds d ds') (fun _ _ => False) { s with toks := tk } := by
   intro t2 T2 hp2 hm2
   have hsz := LN es p (Br w d, x)
   refine Ab (LX ho rfl ?_ (by rw [hsz]; rw [D1]; omega))
   have k1 := Df s.heap S (Obj.putSet (GN es p (Br w d, x)) t2)
   have ho1 := Jc (es' := GN es p (Br w d, x)) (t' := t2) ho
   generalize hE : GN es p (Br w d, x) = es1 at *
   have hperm : List.Perm es1.toList ((Br w d, x) :: es.toList) := by
    rw [<- hE]
    refine (SS es p _).trans ?_
    rw [Ph]
    exact LV _ _
   generalize hH : s.heap.update S (Obj.putSet es1 t2) = h1 at *
   have tk1 := tkeep h1 k1
   obtain ⟨ds1, rs1, pd⟩ := A4.perm hperm ((A4.push r hk rs).mono' tk1.b)
   have mem1 : ∀ y, y ∈ ds1 ↔ y ∈ ds ∨ y = d := fun y => by rw [pd.mem_iff, Ay, or_comm]
   have len1 : ds1.length = ds.length + 1 := by rw [pd.length_eq, CE]
   have hfill : t2.tooFull = decide ((es.size + 1) * 5 ≥ t.mask * 3) := by
    unfold SetTable.tooFull Pg; rw [T2.dum, hp2, hm2]; rfl
   rw [hfill]
   by_cases hq : (es.size + 1) * 5 ≥ t.mask * 3
   ·rw [decide_eq_true hq]
    simp only [Lx, Bool.and_self, if_true]
    have h7 : t.mask = 7 /\ es.size = 4 := by omega
    have hg : Fg (es.size + 1) = 20 := by rw [h7.2]; rfl
    rw [hg]
    refine Ab ?_
    unfold setRelay
    refine Ab (DN (s := { s with heap := h1, toks := tk }) ho1 rfl (Ja T2 (by omega) (by omega)) ?_)
    dsimp only
    refine GP (fun hab => absurd hab (by rw [D1]; decide)) (fun _ => ?_)
    have hms : (es1.map (·.1)).size = 5 := by rw [Array.size_map]; omega
    obtain ⟨t', order, hl, hpo⟩ := Te O3 t2.finger (t2.movedTo 31) t2.led t2.plain (es1.map (·.1)) (by omega)
    have hrel : t2.relaid (es1.map (·.1)) 20 = some (t', order) := hl
    rw [hrel]
    obtain ⟨T', hm', hpl', hp'⟩ := OS hl
    rw [T2.led] at T'
    rw [hms] at hpo
    have hpe : List.Perm (order.filterMap (es1[·]?)).toList es1.toList := by
     rw [Array.toList_filterMap]
     have := filterMap_getElem?_range es1
     rw [show es1.size = 5 by omega] at this
     rw [<- this]
     exact hpo.filterMap _
    have hsz2 : (order.filterMap (es1[·]?)).size = es1.size := by rw [<- CP, hpe.length_eq, CP]
    refine Ab ?_
    show wpAny (model prog w) A (if ((order.filterMap (es1[·]?)).size != es1.size) = true then _ else _) _ _ _
    rw [if_neg (by rw [hsz2]; simp)]
    refine Ad ?_
    dsimp only
    refine LX (s := { s with heap := h1, toks := tk }) ho1 rfl (Ad ?_) (by rw [hsz2, D1]; omega)
    have k2 := Df h1 S (Obj.putSet (order.filterMap (es1[·]?)) t')
    have ho2 := Jc (es' := order.filterMap (es1[·]?)) (t' := t') ho1
    have tk2 : AW h1 (h1.update S (Obj.putSet (order.filterMap (es1[·]?)) t')) := GQ ho1 Jb k2
    obtain ⟨ds2, rs2, pd2⟩ := A4.perm hpe (rs1.mono' tk2.b)
    have ho5 : order.size = 5 := by have := hpo.length_eq; rw [D7, CP] at this; exact this
    exact ⟨_, tk, ds2, rfl, k1.trans k2, fun b vs n e => tk2 b vs n (tk1 b vs n e), ⟨_, _, t', ho2, rs2, T', by omega, .inr ⟨hm', by omega⟩⟩, .inr (pd2.trans pd)⟩
   ·rw [decide_eq_false hq]
    simp only [Lx, Bool.and_false, Be, if_false]
    exact Ad ⟨h1, tk, ds1, rfl, k1, tk1, ⟨es1, _, t2, ho1, rs1, T2, by omega, by omega⟩, .inr pd⟩
  cases hpl : t1.plain with
  | false =>
   simp only [Be, if_false]
   refine Ab (Ad ?_)
   simp only [if_true]
   exact key t1 T1 hp1 hm1
  | true =>
   simp only [if_true]
   refine Ab (Pf 4 8 d x _ _ _ (by omega) hk r fun bv => ?_)
   cases bv
   ·simp only [Be, if_false]
    exact key { t1 with plain := false } (T1.plain false) hp1 hm1
   ·simp only [if_true]
    exact key t1 T1 hp1 hm1
end
end
section
open Classical
section
variable {c : Cx} {A : Around} {B : Addr -> Prop} {prog : Program} {w : World}
noncomputable def GR (B : Addr -> Prop) (w : World) (h : Heap) (S : Addr) (ds : List D) : Prop :=
 ∃ es ep t, h.get? S = some (BV es ep t) /\ A4 B w h es.toList ds /\ TOk (DY w) t /\ t.place.size = es.size /\ es.size <= t.mask /\ ds.Nodup /\ (∀ d ∈ ds, ∃ i, d = .int i)
theorem Jd {t : SetTable} (hf : t.fits n = true) : t.place.size = n /\ n <= t.mask := by iterate 1
 unfold SetTable.fits at hf
 rw [Cv, beq_iff_eq, decide_eq_true_eq] at hf
 refine ⟨hf.1, ?_⟩
 have := hf.2
 unfold Pg at this
 have h1 := hf.1
 omega
theorem Pi : ∀ {l : List (Int × Value)} {ds : List D}, A4 B w h l ds -> (∀ d ∈ ds, ∃ i, d = .int i) -> ElemsOf (intKind prog w) l
 | [], [], _, _ => fun e he => by simp at he
 | (x, v) :: l, d :: ds, r, hi => by iterate 1
  exact fun e he => by
   rcases Ay.mp he with rfl | he
   ·obtain ⟨i, rfl⟩ := hi d (Bv)
    obtain ⟨h1, h2, _⟩ := r
    simp only at h1 h2
    cases h2 with
    | int _ t => exact ⟨⟨i, Lg .., h1⟩, rfl⟩
   ·exact Pi r.2.2.2 (fun d hd => hi d (BM _ hd)) e he
 | [], _ :: _, f, _ => f.elim
 | _ :: _, [], f, _ => f.elim
theorem Pj : ∀ {l : List (Int × Value)} {ds : List D}, A4 B w h l ds -> (∀ d ∈ ds, ∃ i, d = .int i) -> ((∃ e ∈ l, (intKind prog w).is i e.2 = true) ↔ D.int i ∈ ds)
 | [], [], _, _ => by simp
 | (x, v) :: l, d :: ds, r, hi => by iterate 1
  obtain ⟨k, rfl⟩ := hi d (Bv)
  have ih := Pj (i := i) r.2.2.2 (fun d hd => hi d (BM _ hd))
  obtain ⟨h1, h2, _⟩ := r
  simp only at h2
  cases h2 with
  | int _ t =>
  rw [Ay, <- ih]
  have e : (intKind prog w).is i (.int k t) = true ↔ D.int i = D.int k := by
   rw [KeyKind.is_eq_decide (Lg prog w k t)]
   simp
  constructor
  ·rintro ⟨e', he', q⟩
   rcases Ay.mp he' with rfl | he'
   ·exact .inl (e.mp q)
   ·exact .inr ⟨e', he', q⟩
  ·rintro (q | ⟨e', he', q⟩)
   ·exact ⟨_, Bv, e.mpr q⟩
   ·exact ⟨e', BM _ he', q⟩
 | [], _ :: _, f, _ => f.elim
 | _ :: _, [], f, _ => f.elim
theorem add_int (hS : GR B w s.heap S ds) (hz : ds.length < 1000) :
  wpAny (model prog w) A (setAdd S (.int i tok)) (fun _ s' => ∃ h' tk ds', s' = { s with heap := h', toks := tk } /\ Heap.SameBut S s.heap h' /\ AW s.heap h' /\ GR B w h' S ds' /\ Es ds (.int i) ds') (fun _ _ => False) s := by iterate 1
 unfold setAdd
 refine Bh (Ab (wpAny_pyHash_int ?_))
 generalize s.toks + 1 = tk
 unfold setAddHashed
 refine Bh ?_
 obtain ⟨es, ep, t, ho, rs, T, hp, hm, nd, hi⟩ := hS
 have hlen := rs.length
 rw [CP] at hlen
 have hf := Ja T hp hm
 have hel : ElemsOf (intKind prog w) es.toList := Pi rs hi
 have hb : es.size < scanBound := by unfold scanBound; omega
 unfold setAddHashedIn
 refine Ab (DN ho rfl hf ?_)
 dsimp only
 rw [byScan_of (x := .int i tok) rfl hb hel]
 simp only [if_true]
 unfold setAddByScan
 refine Ab ?_
 refine Ab (D2 ?_)
 refine Ab (wpAny_setScan_of (knd := intKind prog w) (k := i) (s := { s with toks := tk }) (Lg ..) ho rfl hf hel ?_)
 have hhas := Pj (i := i) (prog := prog) rs hi
 cases hr : List.findIdx? (fun e => (intKind prog w).is i e.2) es.toList with
 | some j =>
  dsimp only
  obtain ⟨hj, hpj, _⟩ := List.findIdx?_eq_some_iff_getElem.mp hr
  have hmem := hhas.mp ⟨es.toList[j], GJ hj, hpj⟩
  exact Ad (Ad ⟨s.heap, tk, ds, rfl, Heap.SameBut.refl .., fun _ _ _ e => e, ⟨es, ep, t, ho, rs, T, hp, hm, nd, hi⟩, .inl ⟨rfl, hmem⟩⟩)
 | none =>
  dsimp only
  have hnm : D.int i ∉ ds := fun hq => by
   obtain ⟨e, he, hp⟩ := hhas.mpr hq
   have := List.findIdx?_eq_none_iff.mp hr e he
   rw [hp] at this; exact Bool.noConfusion this
  have hgw : ∀ (b : Bool) {s1 : Shared} {Q' : Unit -> Shared -> Prop}, Q' () s1 -> wpAny (model prog w) A (match b with | true => rule "set.scan.the-table-gave-way" | false => pure ()) Q' (fun _ _ => False) s1 :=
   fun b s1 Q' hq => by cases b <;> first | exact Ad hq | exact D2 hq
  have tkeep : ∀ h', Heap.SameBut S s.heap h' -> AW s.heap h' := fun h' k => GQ ho Jb k
  have hperm := layNew_perm t es (hashInt i) (.int i tok)
  have hfits := layNew_fits t es (hashInt i) (.int i tok)
  have T1 := T.layNew es (hashInt i) (.int i tok)
  generalize hL : layNew t es (hashInt i) (.int i tok) = L at hperm hfits T1 ⊢
  obtain ⟨es1, t1, wasDummy, gave⟩ := L
  dsimp only at hperm hfits T1 ⊢
  rw [Ph] at hperm
  have hperm' : List.Perm es1.toList ((Br w (.int i), .int i tok) :: es.toList) := hperm.trans (LV _ _)
  have hsz1 : es1.size = es.size + 1 := by rw [<- CP, hperm'.length_eq, CE, CP]
  refine Ab (hgw _ ?_)
  have key : ∀ (t2 : SetTable), TOk (DY w) t2 -> t2.fits es1.size = true -> ∀ {g : Bool -> Sem Unit}, (∀ (b : Bool) (s1 : Shared) (Q' : Unit -> Shared -> Prop), Q' () s1 -> wpAny (model prog w) A (g b) Q' (fun _ _ => False) s1) ->
    ∀ {R : Option Bool -> Shared -> Prop}, (∀ s', (∃ h' tk ds', s' = { s with heap := h', toks := tk } /\ Heap.SameBut S s.heap h' /\ AW s.heap h' /\ GR B w h' S ds' /\ Es ds (.int i) ds') -> R (some true) s') ->
    wpAny (model prog w) A (do
     storeSet S es1 t2
     if (!wasDummy && t2.tooFull) = true then do
       g (relayAll t2 es1 (Fg es1.size)).2.2
       storeSet S (relayAll t2 es1 (Fg es1.size)).1 (relayAll t2 es1 (Fg es1.size)).2.1
       pure (some true)
      else pure (some true)) R (fun _ _ => False) { s with toks := tk } := by
   intro t2 T2 hf2 g hg R hR
   refine Ab (LX ho rfl ?_ (by rw [D1]; omega))
   have k1 := Df s.heap S (Obj.putSet es1 t2)
   have ho1 := Jc (es' := es1) (t' := t2) ho
   generalize hH : s.heap.update S (Obj.putSet es1 t2) = h1 at *
   have tk1 := tkeep h1 k1
   obtain ⟨ds1, rs1, pd⟩ := A4.perm hperm' ((A4.push (.int i tok) (show Al 4 (.int i) = true from rfl) rs).mono' tk1.b)
   have mem1 : ∀ y, y ∈ ds1 ↔ y ∈ ds ∨ y = .int i := fun y => by rw [pd.mem_iff, Ay, or_comm]
   have nd1 : ds1.Nodup := pd.nodup_iff.mpr (BE.mpr ⟨hnm, nd⟩)
   have hi1 : ∀ d ∈ ds1, ∃ i, d = .int i := fun d hd => (mem1 d).mp hd |>.elim (hi d) fun e => ⟨i, e⟩
   have len1 : ds1.length = ds.length + 1 := by rw [pd.length_eq, CE]
   split
   ·have hpr := relayAll_perm t2 es1 (Fg es1.size)
    have hfr := relayAll_fits t2 es1 (Fg es1.size)
    have T3 := T2.relayAll es1 (Fg es1.size)
    generalize relayAll t2 es1 (Fg es1.size) = Rl at hpr hfr T3 ⊢
    obtain ⟨es2, t3, gave2⟩ := Rl
    dsimp only at hpr hfr T3 ⊢
    have hsz2 : es2.size = es1.size := by rw [<- CP, hpr.length_eq, CP]
    refine Ab (hg _ _ _ ?_)
    refine Ab (LX (s := { s with heap := h1, toks := tk }) ho1 rfl ?_ (by rw [D1]; omega))
    have k2 := Df h1 S (Obj.putSet es2 t3)
    have ho2 := Jc (es' := es2) (t' := t3) ho1
    have tk2 : AW h1 (h1.update S (Obj.putSet es2 t3)) := GQ ho1 Jb k2
    obtain ⟨ds2, rs2, pd2⟩ := A4.perm hpr (rs1.mono' tk2.b)
    obtain ⟨hp3, hm3⟩ := Jd hfr
    exact Ad (hR _ ⟨_, tk, ds2, rfl, k1.trans k2, fun b vs n e => tk2 b vs n (tk1 b vs n e), ⟨es2, _, t3, ho2, rs2, T3, hp3, hm3, pd2.nodup_iff.mpr nd1, fun d hd => hi1 d (pd2.mem_iff.mp hd)⟩, .inr (pd2.trans pd)⟩)
   ·obtain ⟨hp3, hm3⟩ := Jd hf2
    exact Ad (hR _ ⟨_, tk, ds1, rfl, k1, tk1, ⟨es1, _, t2, ho1, rs1, T2, hp3, hm3, nd1, hi1⟩, .inr pd⟩)
  have hgg : ∀ (b : Bool) (s1 : Shared) (Q' : Unit -> Shared -> Prop), Q' () s1 -> wpAny (model prog w) A (match b with | true => rule "set.scan.the-table-gave-way" | false => pure ()) Q' (fun _ _ => False) s1 := fun b s1 Q' hq => hgw b hq
  have fin : ∀ s', (∃ h' tk ds', s' = { s with heap := h', toks := tk } /\ Heap.SameBut S s.heap h' /\ AW s.heap h' /\ GR B w h' S ds' /\ Es ds (.int i) ds') ->
    wpAny (model prog w) A (match some true with | some added => return added | none => (return <- setAddHashedIn S (.int i tok) (hashInt i) 99999)) (fun _ s' => ∃ h' tk ds', s' = { s with heap := h', toks := tk } /\ Heap.SameBut S s.heap h' /\ AW s.heap h' /\ GR B w h' S ds' /\ Es ds (.int i) ds') (fun _ _ => False) s' := fun s' q => Ad q
  split
  ·refine Ab ?_
   rw [hashByValue_scannable 8 (x := .int i tok) rfl]
   refine Ad ?_
   refine key _ ?_ ?_ hgg fin
   ·split
    ·exact T1
    ·exact T1.plain false
   ·split
    ·exact hfits
    ·exact SetTable.fits_plain_off hfits
  ·refine Ab (Ad ?_)
   simp only [if_true]
   exact key _ T1 hfits hgg fin
end
end
section
open Classical
section
variable {prog : Program} {w : World} {B : Addr -> Prop}
noncomputable def Adds (prog : Program) (w : World) (B : Addr -> Prop) (A : Around) (S : Addr) (K : Heap -> List D -> Prop) (d : D) : Prop := ∀ (A' : Around) (s : Shared) (ds : List D) (x : Value), A'.units <= A.units + 20 -> K s.heap ds -> Aj B s.heap x d -> ds.length <= 15 ->
 wpAny (model prog w) A' (setAdd S x) (fun _ s' => ∃ h' tk ds', s' = { s with heap := h', toks := tk } /\ Heap.SameBut S s.heap h' /\ AW s.heap h' /\ K h' ds' /\ Es ds d ds') (fun _ _ => False) s
theorem Th {A : Around} {S I l : Addr} {K : Heap -> List D -> Prop} {vs : List Value} {ds : List D} (hh : A.handled = none) (hSI : S ≠ I) (hSl : S ≠ l) (hIl : l ≠ I)
  (Kf : ∀ h h' ds, K h ds -> (∀ o, h.get? S = some o -> h'.get? S = some o) -> AW h h' -> K h' ds) (hadd : ∀ d ∈ ds, Adds prog w B A S K d) (hn : ds.length <= 15) :
  ∀ (k i : Nat) (s : Shared) (acc : List D) {R : Result -> Shared -> Prop}, ds.length - i = k -> i <= ds.length -> s.heap.IsListIter I l i -> s.heap.IsList l vs.toArray -> Ak B s.heap vs ds -> K s.heap acc -> Got acc (ds.take i) ->
   (∀ h' tk acc', (∀ b o, b ≠ S -> b ≠ I -> s.heap.get? b = some o -> h'.get? b = some o) -> K h' acc' -> Got acc' ds -> R (.ok (.ret .none)) { s with heap := h', toks := tk }) ->
   codeAny (model prog w) A (.builtin "set.update.loop" ⟨[.ref S, .ref I], []⟩) R s := by iterate 1
 intro k
 induction k with
 | zero =>
  intro i s acc R hk hi hit hl hr hK hG hR
  have hin : i = ds.length := by omega
  have hvl := hr.length
  refine FT F.entry_set_update_loop ?_
  rw [Around.under_plainId F.plain_set_update_loop _]
  show wpAny _ A.in1 (pyNext (.ref I) >>= _) _ _ s
  refine Ab (NC (by exact hh) hit hl (by simp; omega) fun h' he => ?_)
  show wpAny _ A.in1 (ret Value.none) _ _ _
  obtain ⟨o, ho, hc, _⟩ := hit
  have hSne : ∀ b o, b ≠ I -> s.heap.get? b = some o -> h'.get? b = some o := fun b o hb e => he b o hb e
  have tk : AW s.heap h' := fun b vs n e => he b _ (fun q => by
   rw [q, ho] at e
   have := congrArg Obj.cls (Cn e)
   rw [hc] at this
   exact absurd this (by show Value.type "list_iterator" ≠ Value.type "tuple"; decide)) e
  refine Ad (hR h' s.toks acc (fun b o _ hb e => he b o hb e) (Kf _ _ _ hK (fun o e => he S o hSI e) tk) (by rw [hin, Ci] at hG; exact hG))
 | succ k ih =>
  intro i s acc R hk hi hit hl hr hK hG hR
  have hlt : i < ds.length := by omega
  refine FT F.entry_set_update_loop ?_
  rw [Around.under_plainId F.plain_set_update_loop _]
  show wpAny _ A.in1 (pyNext (.ref I) >>= _) _ _ s
  obtain ⟨v, hv, hvr⟩ := hr.get (Bw hlt)
  refine Ab (NB hit hl (x := v) (by simpa using hv) fun h1 hit1 hs1 => ?_)
  obtain ⟨o, ho, hc, _⟩ := hit
  have tk1 : AW s.heap h1 := GQ ho (by rw [hc]; show Value.type "list_iterator" ≠ Value.type "tuple"; decide) hs1
  have hK1 := Kf _ _ _ hK (fun o e => (hs1.2 S hSI).trans e) tk1
  have hr1 := hr.mono tk1
  have hl1 : h1.IsList l vs.toArray := hl.at fun o e => (hs1.2 l hIl).trans e
  show wpAny _ A.in1 (holding [v] (setAdd S v) >>= _) _ _ _
  refine Ab (Bh ?_)
  refine Ai (hadd _ (GJ hlt) A.in1 { s with heap := h1 } acc v (by show A.units + 1 <= A.units + 20; omega) hK1 (hvr.mono tk1) (by have := hG.len; rw [C7] at this; omega)) (fun _ s2 ⟨h2, tk, ds', e, hs2, tk2, hK2, hm2⟩ => ?_) fun _ _ e => e.elim
  subst e
  refine Ad ⟨GL F.plain_set_update_loop _, ih (i + 1) _ ds' (by omega) (by omega) (hit1.at fun o e => (hs2.2 I (Ne.symm hSI)).trans e) (hl1.at fun o e => (hs2.2 l (Ne.symm hSl)).trans e) (hr1.mono tk2) hK2 ?_ fun h' tk' acc' hk' hK' hm' => ?_⟩
  ·rw [Co, Bw hlt]
   exact hG.grow hm2
  ·exact hR h' tk' acc' (fun b o hb hb' e => hk' b o hb hb' ((hs2.2 b hb).trans ((hs1.2 b hb').trans e))) hK' hm'
noncomputable abbrev DO (w : World) : Obj := BV #[] 0 (.fresh 0 0 (DY w))
variable {A : Around} {E : Value -> Shared -> Prop} {s : Shared}
theorem Ti (a : Value) (h : Q₁ (.ref s.heap.objs.size) { s with heap := s.heap.push (DO w) }) :
  codeAny (model prog w) A (.call (.builtin "set.__new__") ⟨[.type "set", a], []⟩) (wants Q₁ E) s := by iterate 1
 refine NK ?_
 show wpAny _ A.in1 (do checkBuiltinCall "set.__new__" ⟨[.type "set", a], []⟩; again (.builtin "set.__new__" ⟨[.type "set", a], []⟩)) _ _ s
 refine Ab (Ho (F.newCall_set_1 a) (Ad ⟨GL F.plain_set_new _, FT F.entry_set_new ?_⟩))
 rw [Around.under_plainId F.plain_set_new _]
 unfold Builtin.«set.__new__» Builtin.Frozenset.newClass
 have hsub := sub_set_self
 obtain ⟨hp, g, d, tk, os⟩ := s
 dsimp only
 wp_walk
 refine Ip (Ad ?_)
 dsimp only
 simp only [newObj]
 refine Ab (wpAny_alloc (Ad ?_))
 exact Ad h
set_option maxHeartbeats 3200000 in
theorem Tj {l : Addr} {items : Array Value} {P : Heap -> Prop} {Q : Value -> Shared -> Prop} (hh : A.handled = none) (hl : s.heap.IsList l items)
  (hloop : ∀ A' : Around, A'.handled = none -> A'.units <= A.units + 20 -> codeAny (model prog w) A' (.builtin "set.update.loop" ⟨[.ref s.heap.objs.size, .ref (s.heap.push (DO w)).objs.size], []⟩)
   (fun r s' => r = .ok (.ret .none) /\ ∃ h' tk, s' = { s with heap := h', toks := tk } /\ P h') { s with heap := (s.heap.push (DO w)).push { cls := .type "list_iterator", data := .fields #[.ref l, .int 0 0] } })
  (h : ∀ (h' : Heap) (tk : Nat), P h' -> Q (.ref s.heap.objs.size) { s with heap := h', toks := tk }) :
  wpAny (model prog w) A (call (.type "set") [.ref l]) Q E s := by iterate 1
 obtain ⟨cl, tl, hmro⟩ := F.called_set.mro
 have hmade := F.called_set.made
 have hsub := F.called_set.sub
 refine wpAny_call (NK ?_)
 show wpAny _ _ (callAny (.type "set") _) _ _ _
 refine Ad ⟨Code.quiet_builtin _ (by decide +kernel), FT F.entry_type_call ?_⟩
 rw [Around.under_plain (weight_type_call_type "set" [.ref l] []) rfl]
 have h1 := F.called_set.notType
 have h2 := F.called_set.canCreate
 have hct := F.typeCall_set_1 (.ref l)
 repeat (any_goals (first | assumption | wp_step))
 refine De (Ti (.ref l) (E := E) (Q₁ := fun obj s1 => obj = .ref s.heap.objs.size /\ s1 = { s with heap := s.heap.push (DO w) }) ⟨rfl, rfl⟩) fun r s1 hr => ?_
 cases r with
 | error e => exact hr
 | ok fl =>
  cases fl with
  | ret obj =>
   obtain ⟨rfl, rfl⟩ := hr
   have hS : (s.heap.push (DO w)).get? s.heap.objs.size = some (DO w) := AR _ rfl
   have hT : Shared.TypeIs { s with heap := s.heap.push (DO w) } (.ref s.heap.objs.size) "set" := ⟨_, hS, rfl⟩
   have hli := F.called_set.init.lookup
   have hbi := F.called_set.init.bind (.ref s.heap.objs.size)
   repeat (any_goals (first | assumption | wp_step))
   refine De (codeAny_call_builtin (R := wants (fun r s2 => r = .none /\ ∃ h' tk, s2 = { s with heap := h', toks := tk } /\ P h') E) F.called_set.init.plain F.entry_set_init (check_set_init_1 hT ?_)) fun r2 s2 hr2 => ?_
   ·obtain ⟨ol, hol, hcl, nl, hdl⟩ := hl
    obtain ⟨ocls, odict, odata, oslots⟩ := ol
    simp only at hcl hdl
    subst hcl; subst hdl
    have hol' : (s.heap.push (DO w)).get? l = some { cls := .type "list", dict := odict, data := .seq items nl, slots := oslots } := AA _ hol
    have hsls := F.sub_list_set
    have hslf := F.sub_list_frozenset
    have hne : (Value.type "list" == Value.type "dict") = false := by decide
    have hl1 : (s.heap.push (DO w)).IsList l items := ⟨_, hol', rfl, nl, rfl⟩
    unfold Builtin.«set.__init__» noKeywords Builtin.Frozenset.updateFrom
    generalize hPI : pyIter = PI
    wp_walk
    subst hPI
    refine ND hl1 ?_
    refine Ab (wpAny_runValue ?_)
    refine De (hloop _ (by simp [hh]) (by first | (show A.units + _ <= A.units + 20; omega) | (simp [Around.in1_units]; done) | (simp only [Around.in1_units]; omega))) fun r s' hr => ?_
    obtain ⟨rfl, h', tk', rfl, hP⟩ := hr
    show wpAny _ _ _ _ _ _
    refine Ad ?_
    show wpAny _ _ (ret Value.none) _ _ _
    exact Ad ⟨rfl, h', tk', rfl, hP⟩
   ·cases r2 with
    | error e => exact hr2
    | ok fl2 =>
     cases fl2 with
     | ret r =>
      obtain ⟨rfl, h', tk, rfl, hP⟩ := hr2
      repeat (any_goals (first | assumption | wp_step))
      exact h _ _ hP
     | _ => exact hr2.elim
  | _ => exact hr.elim
end
end
section
open Classical
section
variable {c : Cx} {A : Around} {env : Env} {m : Au} {σ : Aa}
theorem Ah.made (S : Sim c σ s) (t : Nat) (k : ∀ b o, s.heap.get? b = some o -> h'.get? b = some o) (ho : BD c h' s.heap.objs.size o) :
  Ah c σ s (σ.set s.heap.objs.size o) { s with heap := h', toks := t } := by iterate 1
 have P := Ah.DA S t k
 refine ⟨⟨fun a x e => ?_, P.1.2⟩, P.2.1, fun b x hb e => ?_⟩
 ·unfold Aa.set at e
  by_cases q : a = s.heap.objs.size
  ·rw [if_pos q] at e; cases e; subst q; exact ⟨ho, S.fresh₀, S.fresh_sys⟩
  ·rw [if_neg q] at e; exact P.1.1 a x e
 ·rw [Aa.B5 _ _ (A8 (AZ hb))]; exact e
theorem Pk (w : World) : TOk (DY w) (SetTable.fresh 0 0 (DY w)) := ⟨rfl, rfl, fun i k _ hk => absurd hk (En _)⟩
theorem Pl {K : Heap -> List D -> Prop} {Q : D -> Aa -> Prop} (hh : A.handled = none) (h : σ l = some (.list ds)) (hn : ds.length <= 15)
  {s : Shared} (S : Sim c σ s)
  (K0 : ∀ h', h'.get? s.heap.objs.size = some (DO c.w) -> K h' [])
  (Kf : ∀ h h' ds, K h ds -> (∀ o, h.get? s.heap.objs.size = some o -> h'.get? s.heap.objs.size = some o) -> AW h h' -> K h' ds)
  (hadd : ∀ A' : Around, A'.units <= A.units + 20 -> ∀ d ∈ ds, Adds c.prog c.w c.bad A' s.heap.objs.size K d)
  (Kr : ∀ h' ds', K h' ds' -> BD c h' s.heap.objs.size (.set ds'))
  (q : ∀ h' ds', K h' ds' -> Got ds' ds -> Q (.ref s.heap.objs.size) (σ.set s.heap.objs.size (.set ds'))) :
  W c A (call (.type "set") [.ref l]) σ Q s := by iterate 1
 obtain ⟨vs, n, ho, r, hl⟩ := BF S h
 have hlt := S.lt h
 refine Tj (s := s) (P := fun h' => ∃ ds', K h' ds' /\ Got ds' ds /\ ∀ b o, s.heap.get? b = some o -> h'.get? b = some o) hh hl (fun A' hh' hu' => ?_) fun h' tk ⟨ds', hK, hm, hk⟩ => ?_
 ·have hsz : (s.heap.push (DO c.w)).objs.size = s.heap.objs.size + 1 := E4 ..
  have up : ∀ b o, s.heap.get? b = some o -> ((s.heap.push (DO c.w)).push { cls := .type "list_iterator", data := .fields #[.ref l, .int 0 0] }).get? b = some o := fun b o e => AA _ (AA _ e)
  refine Th (K := K) (B := c.bad) (vs := vs) (ds := ds) (l := l) hh' (by rw [hsz]; exact A8 (E8 _)) (E3 hlt) (by rw [hsz]; exact A8 (Dx hlt)) Kf (hadd A' hu') hn (ds.length - 0) 0 _ [] rfl (BC _)
   ⟨_, AR _ rfl, rfl, rfl⟩ (hl.at fun o e => up _ o e) (r.mono fun b vs n e => up _ _ e) (K0 _ (AA _ (AR _ rfl))) ⟨⟨[], .refl _, .refl _⟩, fun y => Iff.rfl⟩ fun h' tk acc' hk' hK' hm' => ⟨rfl, h', tk, rfl, acc', hK', hm', fun b o e => hk' b o (A8 (AZ e)) (by rw [hsz]; exact A8 (Dx (AZ e))) (up b o e)⟩
 ·exact ⟨_, _, q h' ds' hK hm, Ah.made S tk hk (Kr _ _ hK), .ref _⟩
theorem Ac.setInts (hh : A.handled = none) (h : σ l = some (.list ds)) (hn : ds.length <= 15) (hi : ∀ d ∈ ds, ∃ i, d = .int i)
   (q : ∀ r ds', σ r = none -> ds'.Nodup -> (∀ y, y ∈ ds' ↔ y ∈ ds) -> ds'.length <= ds.length -> Q (.ref r) (σ.set r (.set ds'))) : Ac c A (.type "set") [.ref l] σ Q := by iterate 1
 exact fun s vs S r => by
  cases r with
  | cons a b =>
   cases a; cases b
   refine Pl (K := fun h ds => GR c.bad c.w h s.heap.objs.size ds) hh h hn S (fun h' e => ⟨#[], 0, _, e, trivial, Pk _, rfl, BC _, Cw, fun d hd => by simp at hd⟩)
    (fun h h' ds ⟨es, ep, t, ho, r, T, hp, hm, nd, hi⟩ k tk => ⟨es, ep, t, k _ ho, r.mono' tk.b, T, hp, hm, nd, hi⟩) (fun A' hu' d hd A'' s' acc x _ hK hr hlen => ?_)
    (fun h' ds' ⟨es, ep, t, ho, r, T, hp, hm, _⟩ => ⟨es, ep, t, ho, r, T, hp, hm⟩) fun h' ds' hK hm => ?_
   ·obtain ⟨i, rfl⟩ := hi d hd
    cases hr with
    | int _ t => exact add_int hK (by omega)
   ·obtain ⟨es, ep, t, ho, r, T, hp, hm', nd, _⟩ := hK
    exact q _ ds' S.fresh nd hm.mem hm.len
theorem Ac.setTups (hh : A.handled = none) (hu : A.units + 60 < cLine) (h : σ l = some (.list ds)) (hn : ds.length <= 15) (hi : ∀ d ∈ ds, (∃ xs, d = .tup xs) /\ Al 4 d = true)
   (q : ∀ r ds', σ r = none -> Got ds' ds -> Q (.ref r) (σ.set r (.set ds'))) : Ac c A (.type "set") [.ref l] σ Q := by iterate 1
 exact fun s vs S r => by
  cases r with
  | cons a b =>
   cases a; cases b
   refine Pl (K := fun h ds => I8 c.bad c.w h s.heap.objs.size ds /\ ∀ d ∈ ds, ∃ xs, d = .tup xs) hh h hn S (fun h' e => ⟨⟨#[], 0, _, e, trivial, Pk _, rfl, .inl ⟨rfl, BC _⟩⟩, fun d hd => by simp at hd⟩)
    (fun h h' ds ⟨⟨es, ep, t, ho, r, T, hp, hm⟩, hi⟩ k tk => ⟨⟨es, ep, t, k _ ho, r.mono' tk.b, T, hp, hm⟩, hi⟩) (fun A' hu' d hd A'' s' acc x hu'' hK hr hlen => ?_)
    (fun h' ds' ⟨⟨es, ep, t, ho, r, T, hp, hm⟩, _⟩ => ⟨es, ep, t, ho, r, T, hp, by omega⟩) fun h' ds' hK hm => q _ ds' S.fresh hm
   obtain ⟨⟨xs, hxs⟩, hk⟩ := hi d hd
   refine Ai (Tg (by omega) hK.1 hK.2 (by omega) hk hxs hr) (fun _ s'' ⟨h', tk, ds', e, k1, k2, k3, k4⟩ => ⟨h', tk, ds', e, k1, k2, ⟨k3, fun y hy => ?_⟩, k4⟩) fun _ _ e => e
   rcases (k4.mem y).mp hy with hy | rfl
   ·exact hK.2 y hy
   ·exact ⟨xs, hxs⟩
end
end
theorem Tk : entryFor table "set.__iter__" = some Builtin.«frozenset.__iter__» := by iterate 1
 exact
  entryFor_alias (id' := "frozenset.__iter__") (by kernel_rfl) (by first | rfl | decide +kernel | (unfold String.splitOn; simp +decide [String.splitOnAux])) (by decide +kernel) (by kernel_rfl)
theorem D9 : Slot "set_iterator" "__next__" "set_iterator.__next__" := by iterate 1
 exact
  .of (owner := "set_iterator") (n := "__next__") (by rw [OH, OI]; kernel_rfl) (by decide +kernel) (by decide +kernel) (by decide +kernel)
   (by first | exact .inl (by decide +kernel) | exact .inr (by decide +kernel)) (by rw [Pm]; kernel_rfl)
theorem Je : entryFor table "set_iterator.__next__" = some Builtin.«set_iterator.__next__» := entryFor_of_tree (by kernel_rfl)
theorem Pn : Slot "set_iterator" "__iter__" "set_iterator.__iter__" := by iterate 1
 exact
  .of (owner := "set_iterator") (n := "__iter__") (by rw [OH, OI]; kernel_rfl) (by decide +kernel) (by decide +kernel) (by decide +kernel)
   (by first | exact .inl (by decide +kernel) | exact .inr (by decide +kernel)) (by rw [Pm]; kernel_rfl)
theorem Tl : entryFor table "set_iterator.__iter__" = some Builtin.«dict_keyiterator.__iter__» := by iterate 1
 exact
  entryFor_alias (id' := "dict_keyiterator.__iter__") (by kernel_rfl) (by first | rfl | decide +kernel | (unfold String.splitOn; simp +decide [String.splitOnAux])) (by decide +kernel) (by kernel_rfl)
theorem Jf (a : Value) : argsOk "set_iterator.__next__" ⟨[a], []⟩ := by
 unfold argsOk; kernel_rfl
theorem Tm (a : Value) : argsOk "set_iterator.__iter__" ⟨[a], []⟩ := by
 unfold argsOk; kernel_rfl
theorem LY {α : Type} : ∀ {l : List α} {i : Nat} (h : i < l.length), List.Perm (l[i] :: l.eraseIdx i) l
 | a :: l, 0, h => .refl _
 | a :: l, i + 1, h => by iterate 1
  have ih := LY (l := l) (i := i) (by simpa using h)
  simp only [List.getElem_cons_succ, List.eraseIdx_cons_succ]
  exact (List.Perm.swap _ _ _).trans (ih.cons a)
theorem Po {α : Type} (next : Nat -> Nat) : ∀ (fuel k : Nat) (left : List α) (out : Array α), fuel = left.length -> List.Perm (pickOrder.go next fuel k left out).toList (out.toList ++ left)
 | 0, k, left, out, h => by iterate 1
  have : left = [] := LZ.mp h.symm
  subst this
  unfold pickOrder.go; simp
 | fuel + 1, k, left, out, h => by iterate 1
  unfold pickOrder.go
  have hlt : next k % left.length < left.length := LS _ (by omega)
  rw [Bw hlt]
  dsimp only
  refine (Po next fuel (k + 1) _ _ (by rw [Tn hlt]; omega)).trans ?_
  rw [Ph, Dg]
  refine List.Perm.append_left _ ?_
  show List.Perm (left[next k % left.length] :: left.eraseIdx _) left
  exact LY hlt
theorem L0 {α : Type} (next : Nat -> Nat) (xs : Array α) : List.Perm (pickOrder next xs).toList xs.toList := by iterate 1
 unfold pickOrder
 exact (Po next xs.size 0 xs.toList #[] (by simp)).trans (by simp)
section
variable {prog : Program} {w : World} {A : Around} {E : Value -> Shared -> Prop} {s : Shared}
theorem Tp {Q : Nat -> Shared -> Prop} (hn : n ≠ 0) (h : ∀ k, k < n -> ∀ dr, Q k { s with drawn := dr }) : wpAny (model prog w) A (choose src n) Q E s := fun Γ p hA =>
 ⟨hn, h _ (LS _ (Nat.pos_of_ne_zero hn)) _⟩
theorem Pp {α : Type} : ∀ (xs : List α) (s : Shared) {Q : List α -> Shared -> Prop}, (∀ ys dr, List.Perm ys xs -> Q ys { s with drawn := dr }) -> wpAny (model prog w) A (drawOrder xs.length xs) Q E s
 | [], s, Q, h => Ad (h [] s.drawn (.refl _))
 | x :: xs, s, Q, h => by
  show wpAny _ _ (choose .order (x :: xs).length >>= _) _ _ _
  refine Ab (Tp (by simp) fun k hk dr => ?_)
  rw [Bw hk]
  dsimp only
  have hl : xs.length = ((x :: xs).eraseIdx k).length := by rw [Tn hk]; simp
  rw [hl]
  have hterm : ((x :: xs).eraseIdx k).length < (x :: xs).length := by rw [<- hl]; simp
  refine Ab (Pp ((x :: xs).eraseIdx k) _ fun ys dr' hp => ?_)
  exact Ad (h _ dr' ((hp.cons _).trans (LY hk)))
termination_by xs => xs.length
end
noncomputable abbrev siO (first : Value) (i : Nat) (S : Addr) (n ep : Nat) : Obj := { cls := .type "set_iterator", data := .fields #[first, rawInt i, .ref S, rawInt n, rawInt ep] }
section
variable {prog : Program} {w : World} {A : Around} {E : Value -> Shared -> Prop} {s : Shared} {I S : Addr} {es : Array (Int × Value)} {ep : Nat} {t : SetTable}
theorem Pq {slot i nx : Nat} {x : Value} {Q : Option Value -> Shared -> Prop} (hit : s.heap.get? I = some (siO (rawInt slot) i S es.size ep)) (ho : s.heap.get? S = some (BV es ep t)) (hf : t.fits es.size = true)
  (hn : ∀ (A' : Around) (E' : Value -> Shared -> Prop) (Q' : Option (Value × Nat) -> Shared -> Prop), Q' (some (x, nx)) s -> wpAny (model prog w) A' (setNext S slot i ep) Q' E' s)
  (hQ : ∀ h', h'.get? I = some (siO (rawInt nx) (i + 1) S es.size ep) -> Heap.SameBut I s.heap h' -> Q (some x) { s with heap := h' }) : wpAny (model prog w) A (pyNext (.ref I)) Q E s := by iterate 1
 have hT : s.TypeIs (.ref I) "set_iterator" := ⟨_, hit, rfl⟩
 unfold pyNext
 refine Ab (FS (Ek (name := Str.ofString "__next__") hT D9
  (Cz D9 hT Je ?_ (Jf _))))
 unfold Builtin.«set_iterator.__next__»
 refine Ab (Ad ?_)
 refine Ab (Hr hit rfl ?_)
 show wpAny _ _ (setEntries S >>= _) _ _ s
 refine Ab (Jg ho rfl hf ?_)
 rw [if_neg (by simp)]
 show wpAny _ _ (setNext S ((slot : Int)).toNat ((i : Int)).toNat ((ep : Int)).toNat >>= _) _ _ s
 simp only [Fb]
 refine Ab (hn _ _ _ ?_)
 dsimp only
 refine Ab (D6 hit (by simp) fun h1 hi1 hs1 => ?_)
 show wpAny _ _ (setField (.ref I) 1 (rawInt ((i : Int) + 1)) >>= _) _ _ _
 refine Ab (D6 hi1 (by simp) fun h2 hi2 hs2 => ?_)
 exact Ad ⟨x, rfl, Ad (hQ h2 hi2 (hs1.trans hs2))⟩
theorem Pr {slot i : Nat} {Q : Option Value -> Shared -> Prop} (hh : A.handled = none) (hit : s.heap.get? I = some (siO (rawInt slot) i S es.size ep)) (ho : s.heap.get? S = some (BV es ep t)) (hf : t.fits es.size = true)
  (hn : ∀ (A' : Around) (E' : Value -> Shared -> Prop) (Q' : Option (Value × Nat) -> Shared -> Prop), Q' none s -> wpAny (model prog w) A' (setNext S slot i ep) Q' E' s)
  (hQ : ∀ h', Heap.ExtBut I s.heap h' -> Q none { s with heap := h' }) : wpAny (model prog w) A (pyNext (.ref I)) Q E s := by iterate 1
 have hT : s.TypeIs (.ref I) "set_iterator" := ⟨_, hit, rfl⟩
 unfold pyNext
 refine Ab (FS (Ek (name := Str.ofString "__next__") hT D9
  (Cz D9 hT Je ?_ (Jf _))))
 unfold Builtin.«set_iterator.__next__»
 refine Ab (Ad ?_)
 refine Ab (Hr hit rfl ?_)
 show wpAny _ _ (setEntries S >>= _) _ _ s
 refine Ab (Jg ho rfl hf ?_)
 rw [if_neg (by simp)]
 show wpAny _ _ (setNext S ((slot : Int)).toNat ((i : Int)).toNat ((ep : Int)).toNat >>= _) _ _ s
 simp only [Fb]
 refine Ab (hn _ _ _ ?_)
 dsimp only
 refine Ab (D6 hit (by simp) fun h1 hi1 hs1 => ?_)
 show wpAny _ _ (newExc (.type "StopIteration") [] >>= _) _ _ _
 refine Ab ?_
 simp only [newExc, newTuple]
 refine Ab (CM ?_ (by size_fits))
 refine Ab (m := firstArgMember _ _) (Ho (a := Value.none) (by first | rfl | (simp only [firstArgMember]; rfl)) ?_)
 refine CM ?_ (by size_fits)
 simp only [raiseNew]
 refine Ab (LD ?_)
 rw [show A.in1.handled = none from hh]
 refine Ab (Ad (LF ?_))
 refine Ab (FO (T := "StopIteration") (b := true) ⟨_, AR _ rfl, rfl⟩ IW ?_)
 exact Ad (hQ _ ((hs1.extBut.push _).push _))
noncomputable abbrev FX (order : List Nat) : Obj := { cls := .type "tuple", data := .seq (order.map fun (i : Nat) => rawInt i).toArray }
theorem Tq {T : Addr} {order : List Nat} {i k : Nat} {hx : Int} {x : Value} {Q : Option Value -> Shared -> Prop} (hit : s.heap.get? I = some (siO (.ref T) i S es.size ep)) (ho : s.heap.get? S = some (BV es ep t)) (hf : t.fits es.size = true)
  (hT' : s.heap.get? T = some (FX order)) (hk : order[i]? = some k) (hx' : es[k]? = some (hx, x))
  (hQ : ∀ h', h'.get? I = some (siO (.ref T) (i + 1) S es.size ep) -> Heap.SameBut I s.heap h' -> Q (some x) { s with heap := h' }) : wpAny (model prog w) A (pyNext (.ref I)) Q E s := by iterate 1
 have hT : s.TypeIs (.ref I) "set_iterator" := ⟨_, hit, rfl⟩
 unfold pyNext
 refine Ab (FS (Ek (name := Str.ofString "__next__") hT D9
  (Cz D9 hT Je ?_ (Jf _))))
 unfold Builtin.«set_iterator.__next__»
 refine Ab (Ad ?_)
 refine Ab (Hr hit rfl ?_)
 show wpAny _ _ (setEntries S >>= _) _ _ s
 refine Ab (Jg ho rfl hf ?_)
 rw [if_neg (by simp)]
 dsimp only
 refine Ab (Dy hT' rfl ?_)
 have e1 : (order.map fun (i : Nat) => rawInt i).toArray[((i : Int)).toNat]? = some (rawInt k) := by
  rw [Fb, Ic, Bs, hk]; rfl
 dsimp only
 rw [e1]
 show wpAny _ _ (setNextDrawn S ((k : Int)).toNat ((ep : Int)).toNat >>= _) _ _ s
 simp only [Fb]
 refine Ab ?_
 unfold setNextDrawn
 refine Ab (DN ho rfl hf ?_)
 dsimp only
 rw [if_neg (by simp)]
 rw [hx']
 refine Ad ?_
 show wpAny _ _ (setField (.ref I) 1 (rawInt ((i : Int) + 1)) >>= _) _ _ _
 refine Ab (D6 hit (by simp) fun h2 hi2 hs2 => ?_)
 exact Ad ⟨x, rfl, Ad (hQ h2 hi2 hs2)⟩
theorem Tr {T : Addr} {order : List Nat} {i : Nat} {Q : Option Value -> Shared -> Prop} (hh : A.handled = none) (hit : s.heap.get? I = some (siO (.ref T) i S es.size ep)) (ho : s.heap.get? S = some (BV es ep t)) (hf : t.fits es.size = true)
  (hT' : s.heap.get? T = some (FX order)) (hk : order[i]? = none)
  (hQ : ∀ h', Heap.ExtBut I s.heap h' -> Q none { s with heap := h' }) : wpAny (model prog w) A (pyNext (.ref I)) Q E s := by iterate 1
 have hT : s.TypeIs (.ref I) "set_iterator" := ⟨_, hit, rfl⟩
 unfold pyNext
 refine Ab (FS (Ek (name := Str.ofString "__next__") hT D9
  (Cz D9 hT Je ?_ (Jf _))))
 unfold Builtin.«set_iterator.__next__»
 refine Ab (Ad ?_)
 refine Ab (Hr hit rfl ?_)
 show wpAny _ _ (setEntries S >>= _) _ _ s
 refine Ab (Jg ho rfl hf ?_)
 rw [if_neg (by simp)]
 dsimp only
 refine Ab (Dy hT' rfl ?_)
 have e1 : (order.map fun (i : Nat) => rawInt i).toArray[((i : Int)).toNat]? = none := by
  rw [Fb, Ic, Bs, hk]; rfl
 dsimp only
 rw [e1]
 dsimp only
 refine Ab (D6 hit (by simp) fun h1 hi1 hs1 => ?_)
 refine Ab (D6 hi1 (by simp) fun h2 hi2 hs2 => ?_)
 show wpAny _ _ (newExc (.type "StopIteration") [] >>= _) _ _ _
 refine Ab ?_
 simp only [newExc, newTuple]
 refine Ab (CM ?_ (by size_fits))
 refine Ab (m := firstArgMember _ _) (Ho (a := Value.none) (by first | rfl | (simp only [firstArgMember]; rfl)) ?_)
 refine CM ?_ (by size_fits)
 simp only [raiseNew]
 refine Ab (LD ?_)
 rw [show A.in1.handled = none from hh]
 refine Ab (Ad (LF ?_))
 refine Ab (FO (T := "StopIteration") (b := true) ⟨_, AR _ rfl, rfl⟩ IW ?_)
 exact Ad (hQ _ (((hs1.trans hs2).extBut.push _).push _))
end
section
variable {prog : Program} {w : World} {A : Around} {E : Value -> Shared -> Prop} {s : Shared} {I S : Addr} {es : Array (Int × Value)} {ep : Nat} {t : SetTable}
theorem Jh {Q : Bool -> Shared -> Prop} (h : Q (w.params.followText "set-order") s) : wpAny (model prog w) A setsByText Q E s := by iterate 1
 unfold setsByText
 exact Ab (Ip (Ad h))
theorem Pt (ho : s.heap.get? S = some (BV es ep t)) (hf : t.fits es.size = true) (hb : w.params.followText "set-order" = true)
  (h : Q (((pickOrder (w.params.setOrder S ep) es)[i]?).map fun e => (e.2, slot)) s) : wpAny (model prog w) A (setNext S slot i ep) Q E s := by iterate 1
 unfold setNext
 refine Ab (DN ho rfl hf ?_)
 dsimp only
 refine Ab (Jh ?_)
 rw [hb]
 simp only [if_true]
 rw [if_neg (by simp)]
 refine Ab ?_
 unfold setWalk
 refine Ab (DN ho rfl hf ?_)
 dsimp only
 refine Ab (Jh ?_)
 rw [hb]
 simp only [if_true]
 refine Ab (Ip (Ad ?_))
 exact Ad h
theorem Pu (ho : s.heap.get? S = some (BV es ep t)) (hf : t.fits es.size = true) (hb : w.params.followText "set-order" = false)
  (hd : (!t.plain && decide (es.size > 1)) = false) (hl : t.led = true)
  (h : Q (match es[Dk t.place slot]?, t.place[Dk t.place slot]? with | some (_, x), some j => some (x, j + 1) | _, _ => none) s) : wpAny (model prog w) A (setNext S slot i ep) Q E s := by iterate 1
 unfold setNext
 refine Ab (DN ho rfl hf ?_)
 dsimp only
 refine Ab (Jh ?_)
 rw [hb]
 simp only [Be, if_false]
 refine GP (fun hx => absurd (show (!t.plain && decide (es.size > 1)) = true from hx) (by rw [hd]; exact Cu)) (fun _ => ?_)
 refine Ab ?_
 show wpAny _ _ (if (!t.led && !es.isEmpty) = true then _ else _) _ _ _
 rw [if_neg (by rw [hl]; simp)]
 refine Ad ?_
 exact Ad h
inductive C9 where
 | ord (T : Addr) (order : List Nat)
 | txt
 | led
noncomputable def DP (place : Array Nat) (i : Nat) : Nat := if i = 0 then 0 else place.getD (i - 1) 0 + 1
theorem Pw (hr : FI place) (hi : i <= place.size) : Dk place (DP place i) = i := by iterate 1
 obtain ⟨h0, h1, h2⟩ := OP hr (DP place i)
 have le : Dk place (DP place i) <= i := by
  apply O8
  intro hq
  have := h1 i (by omega)
  unfold DP at this
  split at this
  ·omega
  ·have := hr (i - 1) i (by omega) (by omega)
   omega
 have ge : i <= Dk place (DP place i) := by
  apply O8
  intro hq
  have h3 := h2 (i - 1) (by omega) (by omega)
  unfold DP at h3
  rw [if_neg (by omega)] at h3
  omega
 omega
noncomputable def C9.ok (w : World) (es : Array (Int × Value)) (t : SetTable) : C9 -> Prop
 | .ord _ order => List.Perm order (Bn es.size)
 | .txt => w.params.followText "set-order" = true
 | .led => w.params.followText "set-order" = false /\ (!t.plain && decide (es.size > 1)) = false /\ t.led = true /\ FI t.place
noncomputable def C9.at (I S : Addr) (es : Array (Int × Value)) (ep : Nat) (t : SetTable) : C9 -> Nat -> Heap -> Prop
 | .ord T order, i, h => h.get? I = some (siO (.ref T) i S es.size ep) /\ h.get? T = some (FX order)
 | .txt, i, h => h.get? I = some (siO (rawInt (0 : Nat)) i S es.size ep)
 | .led, i, h => h.get? I = some (siO (rawInt (DP t.place i)) i S es.size ep)
noncomputable def C9.vals (w : World) (S : Addr) (es : Array (Int × Value)) (ep : Nat) : C9 -> List Value
 | .ord _ order => (order.filterMap (es[·]?)).map (·.2)
 | .txt => (pickOrder (w.params.setOrder S ep) es).toList.map (·.2)
 | .led => es.toList.map (·.2)
theorem C9.perm {md : C9} (h : md.ok w es t) : List.Perm (md.vals w S es ep) (es.toList.map (·.2)) := by iterate 1
 cases md with
 | ord T order => exact ((List.Perm.filterMap _ h).trans (by rw [filterMap_getElem?_range])).map _
 | txt => exact (L0 _ _).map _
 | led => exact .refl _
theorem Ts {order : List Nat} (h : ∀ k ∈ order, k < es.size) : ∀ i : Nat, (order.filterMap (es[·]?))[i]? = order[i]?.bind (es[·]?) := by iterate 1
 induction order with
 | nil => intro i; rfl
 | cons k order ih =>
  intro i
  have hk := h k Bv
  rw [I7 (CA hk)]
  cases i with
  | zero => simp [CA hk]
  | succ i => simpa using ih (fun k' hk' => h k' (BM _ hk')) i
noncomputable abbrev C9.fp (I S : Addr) : C9 -> List Addr
 | .ord T _ => [I, S, T]
 | _ => [I, S]
theorem Tt {md : C9} (hh : A.handled = none) (hok : md.ok w es t) (hf : t.fits es.size = true) (hIS : S ≠ I) (hT : ∀ T o, md = .ord T o -> T ≠ I) :
   Walks prog w A I (md.fp I S) [I] es.size (fun i v => (md.vals w S es ep)[i]? = some v) (fun i h => md.at I S es ep t i h /\ h.get? S = some (BV es ep t)) := by iterate 1
 exact {
  sub := fun b hb => by cases Ag.mp hb; cases md <;> exact Bv
  frame := fun i h h' st k => by
   cases md with
   | ord T order => exact ⟨⟨k _ (by simp) _ st.1.1, k _ (by simp) _ st.1.2⟩, k _ (by simp) _ st.2⟩
   | txt => exact ⟨k _ (by simp) _ st.1, k _ (by simp) _ st.2⟩
   | led => exact ⟨k _ (by simp) _ st.1, k _ (by simp) _ st.2⟩
  item := fun i s Q E hi st hQ => by
   have hsz := (Jd hf).1
   have fin : ∀ (x : Value) (h' : Heap), (md.vals w S es ep)[i]? = some x -> md.at I S es ep t (i + 1) h' -> Heap.SameBut I s.heap h' -> Q (some x) { s with heap := h' } := fun x h' hv ha hs =>
    hQ x h' s.toks hv ⟨ha, (hs.2 S hIS).trans st.2⟩ fun b o hb e => (hs.2 b (fun q => hb (Ag.mpr q))).trans e
   cases md with
   | ord T order =>
    have hlen : order.length = es.size := by have := (show List.Perm order _ from hok).length_eq; simpa using this
    have hk : order[i]? = some (order[i]'(by omega)) := Bw (by omega)
    have hall : ∀ k ∈ order, k < es.size := fun k hk => Ep.mp ((show List.Perm order _ from hok).mem_iff.mp hk)
    have hkl := hall _ (GJ (show i < order.length by omega))
    refine Tq st.1.1 st.2 hf st.1.2 hk (hx := es[order[i]'(by omega)].1) (x := es[order[i]'(by omega)].2) (CA hkl) fun h' hi' hs' => fin _ h' ?_ ⟨hi', (hs'.2 T (hT T order rfl)).trans st.1.2⟩ hs'
    show ((order.filterMap (es[·]?)).map (·.2))[i]? = _
    rw [Bs, Ts hall, hk]
    simp [CA hkl]
   | txt =>
    have hpz : (pickOrder (w.params.setOrder S ep) es).size = es.size := by have := (L0 (w.params.setOrder S ep) es).length_eq; simpa using this
    refine Pq (slot := 0) (nx := 0) (x := ((pickOrder (w.params.setOrder S ep) es)[i]'(by omega)).2) st.1 st.2 hf (fun A' E' Q' hq => Pt st.2 hf hok ?_) fun h' hi' hs' => fin _ h' ?_ hi' hs'
    ·rw [CA (by omega)]; exact hq
    ·show ((pickOrder (w.params.setOrder S ep) es).toList.map (·.2))[i]? = _
     rw [Bs, DV, CA (by omega)]; rfl
   | led =>
    refine Pq (slot := DP t.place i) (nx := DP t.place (i + 1)) (x := (es[i]'hi).2) st.1 st.2 hf (fun A' E' Q' hq => Pu st.2 hf hok.1 hok.2.1 hok.2.2.1 ?_) fun h' hi' hs' => fin _ h' ?_ hi' hs'
    ·rw [Pw hok.2.2.2 (by omega), CA hi, getD_some (by omega)]
     have : DP t.place (i + 1) = t.place.getD i 0 + 1 := by unfold DP; rw [if_neg (by omega)]; rfl
     rw [this] at hq
     exact hq
    ·show (es.toList.map (·.2))[i]? = _
     rw [Bs, DV, CA hi]; rfl
  done := fun s Q E st hQ => by
   have hsz := (Jd hf).1
   have fin : ∀ (h' : Heap), Heap.ExtBut I s.heap h' -> Q none { s with heap := h' } := fun h' hs => hQ h' s.toks fun b o hb e => hs b o (fun q => hb (Ag.mpr q)) e
   cases md with
   | ord T order =>
    have hlen : order.length = es.size := by have := (show List.Perm order _ from hok).length_eq; simpa using this
    exact Tr hh st.1.1 st.2 hf st.1.2 (D8 (by omega)) fin
   | txt =>
    have hpz : (pickOrder (w.params.setOrder S ep) es).size = es.size := by have := (L0 (w.params.setOrder S ep) es).length_eq; simpa using this
    refine Pr (slot := 0) hh st.1 st.2 hf (fun A' E' Q' hq => Pt st.2 hf hok ?_) fin
    rw [IV (by omega)]; exact hq
   | led =>
    refine Pr (slot := DP t.place es.size) hh st.1 st.2 hf (fun A' E' Q' hq => Pu st.2 hf hok.1 hok.2.1 hok.2.2.1 ?_) fin
    rw [Pw hok.2.2.2 (by omega), IV (Az _)]
    exact hq
  self := fun i s Q E st hQ => by
   have hT : s.TypeIs (.ref I) "set_iterator" := by
    cases md with
    | ord T order => exact ⟨_, st.1.1, rfl⟩
    | txt => exact ⟨_, st.1, rfl⟩
    | led => exact ⟨_, st.1, rfl⟩
   refine OD hT Pn (Cz Pn hT Tl ?_ (Tm _))
   show wpAny _ _ (ret (.ref I)) _ _ s
   exact Ad ⟨_, rfl, "set_iterator", _, hT, D9.lookup, hQ⟩ }
theorem Tu (hz : es.size <= 1000000) (ho : s.heap.get? S = some (BV es ep t)) (hf : t.fits es.size = true) (T : TOk (DY w) t) {Q : Value -> Shared -> Prop}
  (h : ∀ (md : C9) (I : Addr) h' dr, md.ok w es t -> S ≠ I -> (∀ T o, md = .ord T o -> T ≠ I) -> md.at I S es ep t 0 h' -> (∀ b o, s.heap.get? b = some o -> h'.get? b = some o) -> (∀ b ∈ md.fp I S, b = S ∨ s.heap.objs.size <= b) -> Q (.ref I) { s with heap := h', drawn := dr }) :
  wpAny (model prog w) A (pyIter (.ref S)) Q E s := by iterate 1
 have hT : s.TypeIs (.ref S) "set" := ⟨_, ho, rfl⟩
 have hlt := AZ ho
 refine OD hT F.slot_set_iter (Cz F.slot_set_iter hT Tk ?_ (F.args_set_iter_1 _))
 unfold Builtin.«frozenset.__iter__»
 refine Ab (Ab (Ad (Ad ?_)))
 refine Ab ?_
 unfold Builtin.Frozenset.sizeOf
 refine Ab (Jg ho rfl hf (Ad ?_))
 refine Ab ?_
 refine Ab (DN ho rfl hf ?_)
 dsimp only
 refine Ab (Jh ?_)
 refine Ad ?_
 show wpAny _ _ (if (!(w.params.followText "set-order") && (!t.plain && decide (es.size > 1))) = true then _ else _) _ _ _
 cases hb : (!(w.params.followText "set-order") && (!t.plain && decide (es.size > 1))) with
 | true =>
  simp only [if_true]
  have hr : es.size = (Bn es.size).length := by simp
  refine Ab ?_
  conv => arg 3; arg 1; rw [hr]
  refine Pp (Bn es.size) s fun ys dr hp => ?_
  have hyl : ys.length = es.size := by rw [hp.length_eq, D7]
  refine Ab (Oy (items := ys.map fun (i : Nat) => rawInt i) ?_ (by rw [Am, hyl, D1]; omega))
  refine Ab ?_
  have g1 : (s.heap.push (FX ys)).get? S = some (BV es ep t) := AA _ ho
  unfold setEpoch
  refine Ab (DN (s := { s with heap := s.heap.push (FX ys), drawn := dr }) g1 rfl hf (Ad ?_))
  refine Ab (CM (Ad ⟨_, rfl, "set_iterator", _, ⟨_, AR _ rfl, rfl⟩, D9.lookup, ?_⟩))
  have hsz : (s.heap.push (FX ys)).objs.size = s.heap.objs.size + 1 := E4 ..
  refine h (.ord s.heap.objs.size ys) (s.heap.push (FX ys)).objs.size _ dr hp (by rw [hsz]; exact A8 (Dx hlt)) (fun T o e => by cases e; rw [hsz]; exact A8 (E8 _))
   ⟨AR _ rfl, AA _ (AR _ rfl)⟩ (fun b o e => AA _ (AA _ e)) fun b hb => ?_
  simp only [C9.fp, Ay, LL, or_false] at hb
  rcases hb with rfl | rfl | rfl
  ·exact .inr (by rw [hsz]; exact Ej _)
  ·exact .inl rfl
  ·exact .inr (Az _)
 | false =>
  simp only [Be, if_false]
  refine Ab (Ad ?_)
  refine Ab ?_
  unfold setEpoch
  refine Ab (DN ho rfl hf (Ad ?_))
  refine Ab (CM (Ad ⟨_, rfl, "set_iterator", _, ⟨_, AR _ rfl, rfl⟩, D9.lookup, ?_⟩))
  have hfp : ∀ b ∈ [s.heap.objs.size, S], b = S ∨ s.heap.objs.size <= b := fun b hb => by
   simp only [Ay, LL, or_false] at hb
   rcases hb with rfl | rfl
   ·exact .inr (Az _)
   ·exact .inl rfl
  cases hbt : w.params.followText "set-order" with
  | true => exact h .txt s.heap.objs.size _ s.drawn hbt (A8 hlt) (fun T o e => by cases e) (AR _ rfl) (fun b o e => AA _ e) hfp
  | false =>
   rw [hbt] at hb
   refine h .led s.heap.objs.size _ s.drawn ⟨hbt, by simpa using hb, by rw [T.led]; unfold DY; rw [hbt]; rfl, T.rise⟩ (A8 hlt) (fun T o e => by cases e) (AR _ rfl) (fun b o e => AA _ e) hfp
end
section
variable {prog : Program} {w : World} {A : Around} {E : Value -> Shared -> Prop} {s : Shared} {S : Addr} {es : Array (Int × Value)} {ep : Nat} {t : SetTable}
theorem Tv {Q : Bool -> Shared -> Prop} (hT : s.TypeIs (.ref S) "set") (h : Q false s) : wpAny (model prog w) A (Tw (.ref S)) Q E s := by iterate 1
 unfold Tw
 refine Ab (Hp hT PySem.F.slot_set_len.lookup ?_)
 generalize hid : ("set.__len__" : String) = id0
 wp_delta
 rw [show splitId id0 = some ("set", "__len__") from by subst hid; decide +kernel]
 subst hid
 refine Ab (FO (T := "set") (b := true) hT (by rw [Pm]; kernel_rfl) ?_)
 refine GP (fun hab => absurd hab (by decide)) (fun _ => ?_)
 refine GP (fun _ => ?_) (fun hab => absurd (by decide +kernel) hab)
 refine Ab (IY hT ?_)
 exact Ad h
theorem Tx {Q : List Value -> Shared -> Prop} (hh : A.handled = none) (hz : es.size <= 1000000) (ho : s.heap.get? S = some (BV es ep t)) (hf : t.fits es.size = true) (T : TOk (DY w) t)
  (h : ∀ h' tk dr vals, (∀ b o, s.heap.get? b = some o -> h'.get? b = some o) -> List.Perm vals (es.toList.map (·.2)) -> Q vals { s with heap := h', toks := tk, drawn := dr }) :
  wpAny (model prog w) A (collect (.ref S)) Q E s := by iterate 1
 have hlt := AZ ho
 unfold collect
 refine Ab (wpAny_runValue (FT entry_proto_collect' ?_))
 rw [Around.under_plainId PySem.F.plain_proto_collect _]
 show wpAny _ A.in1 (newList [] >>= fun l => again (.builtin "list.__iadd__" ⟨[l, .ref S], []⟩)) _ _ s
 refine Ab (CM ?_)
 refine Ad ⟨GL PySem.F.plain_list_iadd _, FT entry_list_iadd' ?_⟩
 rw [Around.under_plainId PySem.F.plain_list_iadd _]
 generalize hN : s.heap.objs.size = N at *
 have hL : (s.heap.push { cls := .type "list", data := .seq ([] : List Value).toArray }).get? N = some { cls := .type "list", data := .seq #[] } := by rw [<- hN]; exact AR _ rfl
 have hsz : (s.heap.push { cls := .type "list", data := .seq ([] : List Value).toArray }).objs.size = N + 1 := by rw [E4, hN]
 have ho1 : (s.heap.push { cls := .type "list", data := .seq ([] : List Value).toArray }).get? S = some (BV es ep t) := AA _ ho
 have hk1 : ∀ b o, s.heap.get? b = some o -> (s.heap.push { cls := .type "list", data := .seq ([] : List Value).toArray }).get? b = some o := fun b o e => AA _ e
 generalize s.heap.push { cls := .type "list", data := .seq ([] : List Value).toArray } = h₁ at *
 show wpAny _ A.in1 (Tz (.ref N) (.ref S) (.ref N)) _ _ { s with heap := h₁ }
 have hNS : N ≠ S := E3 hlt
 unfold Tz
 refine Ab (IY (T := "set") ⟨_, ho1, rfl⟩ ?_)
 have e1 : TA (.ref N) (.ref S) = false := by simp [TA, hNS]
 have e2 : (Value.type "set" == Value.type "list") = false := by decide
 have e3 : (Value.type "set" == Value.type "tuple") = false := by decide
 simp only [e1, e2, e3, Bool.or_false, Be, if_false]
 refine Ab (Tu (s := { s with heap := h₁ }) hz ho1 hf T fun md I h2 dr hok hSI hTI hat hk2 hfp => ?_)
 have hL2 := hk2 _ _ hL
 have ho2 := hk2 _ _ ho1
 have hNfp : N ∉ md.fp I S := fun hm => by
  rcases hfp N hm with q | q
  ·exact hNS q
  ·exact absurd q (by show ¬ h₁.objs.size <= N; rw [hsz]; exact Nat.not_succ_le_self N)
 have hIge : N + 1 <= I := by
  have hI : I ∈ md.fp I S := by cases md <;> exact Bv
  rcases hfp I hI with q | q
  ·exact absurd q.symm hSI
  ·rw [<- hsz]; exact q
 have W := Tt (prog := prog) (w := w) (A := A.in1) (ep := ep) hh hok hf hSI hTI
 have hlen : ∀ vals, List.Perm vals (es.toList.map (·.2)) -> vals.length = es.size := fun vals p => by rw [p.length_eq, Am, CP]
 have key : ∀ (h : Heap) (c1 tk : Nat), (md.at I S es ep t 0 h /\ h.get? S = some (BV es ep t)) -> (∀ b o, s.heap.get? b = some o -> h.get? b = some o) -> h.get? N = some { cls := .type "list", data := .seq #[] c1 } ->
   codeAny (model prog w) A (.builtin "list.extend.loop" ⟨[.ref N, .ref I, .ref N], []⟩) (fun r s' => ∃ h' tk acc' c', r = .ok (.ret (.ref N)) /\ s' = { s with heap := h', toks := tk, drawn := dr } /\ (∀ b o, s.heap.get? b = some o -> h'.get? b = some o) /\
    h'.get? N = some { cls := .type "list", dict := none, data := .seq acc' c', slots := #[] } /\ ItemsOf (fun i v => (md.vals w S es ep)[i]? = some v) acc' es.size) { s with heap := h, toks := tk, drawn := dr } := by
  intro h c1 tk hst hk hS1
  refine codeAny_extend_loopS W.toS (by rw [BA]; omega) N hNfp (.ref N) es.size 0 _ #[] c1 rfl (BC _) hst hS1 (ItemsOf.nil _) fun s' acc' c' hm hS' hacc => ?_
  rw [Moved.eq_with hm]
  refine ⟨s'.heap, s'.toks, acc', c', rfl, rfl, fun b o e => hm.heap b o (fun hmem => ?_) (hk b o e), hS', hacc⟩
  have hb := AZ e
  rcases Ay.mp hmem with e' | hmem
  ·rw [e', hN] at hb; exact Ef _ hb
  ·have e' := Ag.mp hmem
   rw [e', hN] at hb
   exact absurd hb (ED.mpr (Nat.le_of_succ_le hIge))
 have fin : ∀ (r : Result) (s' : Shared), (∃ h' tk acc' c', r = .ok (.ret (.ref N)) /\ s' = { s with heap := h', toks := tk, drawn := dr } /\ (∀ b o, s.heap.get? b = some o -> h'.get? b = some o) /\
    h'.get? N = some { cls := .type "list", dict := none, data := .seq acc' c', slots := #[] } /\ ItemsOf (fun i v => (md.vals w S es ep)[i]? = some v) acc' es.size) ->
   ∃ h' tk acc' c', r = .ok (.ret (.ref N)) /\ s' = { s with heap := h', toks := tk, drawn := dr } /\ h'.get? N = some { cls := .type "list", dict := none, data := .seq acc' c', slots := #[] } /\ Q acc'.toList s' := fun r s' ⟨h', tk, acc', c', er, es', hk', hS', hacc⟩ => by
  refine ⟨h', tk, acc', c', er, es', hS', ?_⟩
  have hv : acc'.toList = md.vals w S es ep := by
   have hl2 := hlen _ (C9.perm (S := S) (ep := ep) hok)
   refine OG fun i => ?_
   rw [DV]
   by_cases hi : i < acc'.size
   ·rw [CA hi]
    exact (hacc.2 i _ (CA hi)).symm
   ·have h1 : acc'.size = es.size := hacc.1
    rw [IV (by omega), D8 (by omega)]
  rw [es', hv]
  exact h h' tk dr _ hk' (C9.perm hok)
 have run : ∀ (h : Heap) (c1 tk : Nat), (md.at I S es ep t 0 h /\ h.get? S = some (BV es ep t)) -> (∀ b o, s.heap.get? b = some o -> h.get? b = some o) -> h.get? N = some { cls := .type "list", data := .seq #[] c1 } ->
   codeAny (model prog w) A (.builtin "list.extend.loop" ⟨[.ref N, .ref I, .ref N], []⟩) (fun r s' => ∃ h' tk acc' c', r = .ok (.ret (.ref N)) /\ s' = { s with heap := h', toks := tk, drawn := dr } /\ h'.get? N = some { cls := .type "list", dict := none, data := .seq acc' c', slots := #[] } /\ Q acc'.toList s') { s with heap := h, toks := tk, drawn := dr } :=
  fun h c1 tk a b c => De (key h c1 tk a b c) fin
 have hk0 : ∀ b o, s.heap.get? b = some o -> h2.get? b = some o := fun b o e => hk2 _ _ (hk1 _ _ e)
 refine Ab (Bh (Tv (s := { s with heap := h2, drawn := dr }) ⟨_, ho2, rfl⟩ ?_))
 have last : ∀ (r : Result) (s' : Shared), (∃ h' tk acc' c', r = .ok (.ret (.ref N)) /\ s' = { s with heap := h', toks := tk, drawn := dr } /\ h'.get? N = some { cls := .type "list", dict := none, data := .seq acc' c', slots := #[] } /\ Q acc'.toList s') ->
   wants (fun v s' => wpAny (model prog w) A (match v with
    | .ref a => do match (<- load a).data with
     | .seq xs _ => pure xs.toList
     | _ => unsupported "internal:collect"
    | _ => unsupported "internal:collect") Q E s') E r s' := fun r s' ⟨h', tk, acc', c', er, e', hS', q⟩ => by
  subst er; subst e'
  show wpAny _ A (load N >>= _) _ _ _
  exact Ab (wpAny_load hS' (Ad q))
 refine GP (fun _ => ?_) (fun _ => Ad ⟨GL PySem.F.plain_extend_loop _, De (run _ _ _ ⟨hat, ho2⟩ hk0 hL2) last⟩)
 refine Ab (D2 ?_)
 refine Ab ?_
 show wpAny _ _ (updateSeq N (·.push .none) >>= fun _ => updateSeq N (·.pop)) _ _ _
 refine Ab (wpAny_updateSeq hL2 rfl ?_)
 have hL3 := EE (Obj.mapSeq (·.push Value.none)) hL2 rfl
 refine wpAny_updateSeq (hz := by seq_fits) hL3 rfl ?_
 have hL4 := EE (Obj.mapSeq (·.pop)) hL3 rfl
 have oth : ∀ b o, b ≠ N -> h2.get? b = some o -> ((h2.update N (Obj.mapSeq (·.push Value.none))).update N (Obj.mapSeq (·.pop))).get? b = some o := fun b o hb e =>
  (TB _ _ (Ne.symm hb)).trans ((TB _ _ (Ne.symm hb)).trans e)
 refine Ad ⟨GL PySem.F.plain_extend_loop _, De (run _ _ _ ?_ (fun b o e => oth b o (by have := AZ e; rw [hN] at this; exact A8 this) (hk0 b o e)) hL4) last⟩
 exact W.frame 0 _ _ ⟨hat, ho2⟩ fun b hb o e => oth b o (fun q => hNfp (q ▸ hb)) e
end
section
variable {c : Cx} {A : Around} {env : Env} {m : Au} {σ : Aa}
theorem Ak.perm (p : List.Perm l' l) : ∀ {ds : List D}, Ak B h l ds -> ∃ ds', Ak B h l' ds' /\ List.Perm ds' ds := by iterate 1
 induction p with
 | nil => intro ds r; exact ⟨ds, r, .refl _⟩
 | cons x p ih =>
  intro ds r
  cases r with
  | cons a b => obtain ⟨ds', r', q⟩ := ih b; exact ⟨_ :: ds', .cons a r', q.cons _⟩
 | swap x y l =>
  intro ds r
  cases r with
  | cons a r => cases r with
   | cons b r => exact ⟨_, .cons b (.cons a r), .swap _ _ _⟩
 | trans p q ih1 ih2 =>
  intro ds r
  obtain ⟨ds1, r1, q1⟩ := ih2 r
  obtain ⟨ds2, r2, q2⟩ := ih1 r1
  exact ⟨ds2, r2, q2.trans q1⟩
theorem COL.set (hh : A.handled = none) (h : σ a = some (.set ds)) (hz : ds.length <= 1000000) : COL c A (.ref a) σ (fun ds' => List.Perm ds' ds) := by iterate 1
 exact fun s v S r => by
  cases r
  obtain ⟨es, ep, t, ho, rs, T, hp, hm⟩ := (S.1 _ _ h).1
  have hlen := rs.length
  rw [CP] at hlen
  refine Tx hh (by omega) ho (Ja T hp hm) T fun h' tk dr vals hk p => ?_
  have P := Ah.DA S tk hk
  have P' : Ah c σ s σ { s with heap := h', toks := tk, drawn := dr } := P
  obtain ⟨ds', r', q⟩ := Ak.perm p (P.rels S rs.vals)
  exact ⟨ds', q, r', P'⟩
end
section
variable {c : Cx} {A : Around} {env : Env} {m : Au} {σ : Aa}
theorem Ah.write (S : Sim c σ s) (p : Ah c σ s σ2 s2) (t : Nat) (hN : s2.heap.get? s.heap.objs.size = some ob) (hc : ob.cls ≠ .type "tuple") (hs : Heap.SameBut s.heap.objs.size s2.heap h')
  (hm : AW s2.heap h' -> BD c h' s.heap.objs.size o) (h2 : σ2 s.heap.objs.size = none) : Ah c σ s (σ2.set s.heap.objs.size o) { s2 with heap := h', toks := t } := by iterate 1
 have tk : AW s2.heap h' := GQ hN hc hs
 refine ⟨⟨fun a x e => ?_, fun b x e => ?_, p.1.2.2.1, p.1.2.2.2.1, fun a ha => let ⟨vs, n, e⟩ := p.1.2.2.2.2 a ha; ⟨vs, n, tk _ _ _ e⟩⟩, fun b x hb e => ?_, fun b x hb e => ?_⟩
 ·unfold Aa.set at e
  by_cases q : a = s.heap.objs.size
  ·rw [if_pos q] at e; cases e; subst q; exact ⟨hm tk, S.fresh₀, S.fresh_sys⟩
  ·rw [if_neg q] at e; exact ⟨(p.1.1 a x e).1.mono (fun ob z => (hs.2 a q).trans z) tk, (p.1.1 a x e).2⟩
 ·have : b ≠ s.heap.objs.size := fun q => by rw [q, S.fresh₀] at e; cases e
  exact (hs.2 b this).trans (p.1.2.1 b x e)
 ·have : b ≠ s.heap.objs.size := A8 (AZ e)
  exact (hs.2 b this).trans (p.2.1 b x hb e)
 ·have : b ≠ s.heap.objs.size := A8 (AZ hb)
  rw [Aa.B5 _ _ this]
  exact p.2.2 b x hb e
theorem EV.dict2 (hne : k1 ≠ k2)
   (h : EV c A env m v1 σ fun d1 σ1 => EV c A env m v2 σ1 fun d2 σ2 => ∀ r, σ2 r = none -> Q (.ref r) (σ2.set r (.dictS [(k1, d1), (k2, d2)]))) :
   EV c A env m (.Dict [some (.Constant (.str k1) i1 p1), some (.Constant (.str k2) i2 p2)] [v1, v2] pos) σ Q := by iterate 1
 exact fun s X => by
  refine wpAny_Dict_walk (knd := PySem.strKind c.prog c.w) rfl rfl (by simp) (by simp) ?_
  have hN : (s.heap.push { cls := .type "dict", data := .dict #[] }).get? s.heap.objs.size = some { cls := .type "dict", data := .dict #[] } := AR _ rfl
  have p0 : Ah c σ s σ { s with heap := s.heap.push { cls := .type "dict", data := .dict #[] } } := Ah.push X.sim _ s.toks
  have X0 := X.post p0
  refine pairTrees_cons_walk ?_
  refine Ai ((EV.KN (c := c) (A := A) (env := env) (m := m) (σ := σ) (Q := fun d σ' => d = .str k1 /\ σ' = σ) ⟨rfl, rfl⟩) _ X0) (fun kv1 sk1 ⟨_, _, ⟨rfl, rfl⟩, pk1, rk1⟩ => ?_) fun _ _ e => e
  refine Ai (h sk1 (X0.post pk1)) (fun vv1 s1 ⟨d1, σ1, q1, pv1, rv1⟩ => ?_) fun _ _ e => e
  refine pairTrees_cons_walk ?_
  have X1 := (X0.post pk1).post pv1
  refine Ai ((EV.KN (c := c) (A := A) (env := env) (m := m) (σ := σ1) (Q := fun d σ' => d = .str k2 /\ σ' = σ1) ⟨rfl, rfl⟩) _ X1) (fun kv2 sk2 ⟨_, _, ⟨rfl, rfl⟩, pk2, rk2⟩ => ?_) fun _ _ e => e
  refine Ai (q1 sk2 (X1.post pk2)) (fun vv2 s2 ⟨d2, σ2, q2, pv2, rv2⟩ => ?_) fun _ _ e => e
  refine pairTrees_nil_walk ?_
  have n0 : σ s.heap.objs.size = none := X.sim.fresh
  have pA := (pk1.trans pv1).trans (pk2.trans pv2)
  have hN2 := pA.2.1 _ _ n0 hN
  have n2 := pA.2.2 _ _ hN n0
  have rk1' := (pk2.trans pv2).rel X1.sim ((pv1).rel pk1.1 rk1)
  have rv1' := (pk2.trans pv2).rel X1.sim rv1
  have rk2' := pv2.rel pk2.1 rk2
  cases rk1' with
  | str _ t1 =>
  cases rk2' with
  | str _ t2 =>
  refine display_done_str rfl (by simp [strPairs, hne]) ⟨_, #[], 0, hN2, ⟨rfl, rfl, rfl⟩, rfl, fun _ h => by simp at h, .nil, Cw⟩ fun h' hm hs => ?_
  exact ⟨_, _, q2 _ n2, Ah.write X.sim (p0.trans pA) _ hN2 (by show Value.type "dict" ≠ Value.type "tuple"; decide) hs (fun tk => ⟨_, hm, rfl, rv1'.mono tk, rfl, rv2.mono tk, trivial⟩) n2, .ref _⟩
end
noncomputable def GS (par : List Nat) : Nat -> Nat -> Nat
 | 0, a => a
 | n + 1, a => if par.getD a a = a then a else GS par n (par.getD a a)
noncomputable def Ae (par : List Nat) (a : Nat) : Nat := GS par (a + 1) a
noncomputable def Cp (par : List Nat) : Prop := ∀ (i x : Nat), par[i]? = some x -> x <= i
theorem Fh (le : Cp par) (a : Nat) : par.getD a a <= a := by iterate 1
 cases h : par[a]? with
 | none => simp [Bt, h]
 | some x =>
  have h1 : par.getD a a = x := by simp [Bt, h]
  have := le a x h
  omega
theorem TC (le : Cp par) : ∀ (a k : Nat), a < k -> GS par k a = GS par (a + 1) a := by iterate 1
 intro a
 induction a using Ji with
 | _ a ih =>
  intro k hk
  obtain ⟨k, rfl⟩ : ∃ k', k = k' + 1 := ⟨k - 1, by omega⟩
  unfold GS
  by_cases e : par.getD a a = a
  ·rw [if_pos e, if_pos e]
  ·rw [if_neg e, if_neg e]
   have := Fh le a
   have hl : par.getD a a < a := by omega
   rw [ih _ hl k (by omega), ih _ hl a hl]
theorem Fi (le : Cp par) (a : Nat) : Ae par a = if par.getD a a = a then a else Ae par (par.getD a a) := by iterate 1
 unfold Ae
 conv => lhs; unfold GS
 by_cases e : par.getD a a = a
 ·rw [if_pos e, if_pos e]
 ·rw [if_neg e, if_neg e]
  have := Fh le a
  exact TC le _ _ (by omega)
theorem L1 (le : Cp par) : ∀ a, Ae par a <= a := by iterate 1
 intro a
 induction a using Ji with
 | _ a ih =>
  rw [Fi le]
  by_cases e : par.getD a a = a
  ·rw [if_pos e]; exact Az _
  ·rw [if_neg e]
   have := Fh le a
   have := ih _ (show par.getD a a < a by omega)
   omega
theorem Dm (le : Cp par) : ∀ a, par.getD (Ae par a) (Ae par a) = Ae par a := by
 intro a
 induction a using Ji with
 | _ a ih =>
  rw [Fi le]
  by_cases e : par.getD a a = a
  ·rw [if_pos e]; exact e
  ·rw [if_neg e]
   have := Fh le a
   exact ih _ (by omega)
theorem EJ (le : Cp par) (h : par.getD a a = a) : Ae par a = a := by rw [Fi le, if_pos h]
theorem Jj (le : Cp par) (a : Nat) : Ae par (Ae par a) = Ae par a := EJ le (Dm le a)
theorem Dn (le : Cp par) (h : a < par.length) : Ae par a < par.length := Bd (L1 le a) h
theorem Px (le : Cp par) (h : k <= g) : Cp (par.set g k) := by iterate 1
 intro i x hx
 rw [Py] at hx
 split at hx
 ·split at hx
  ·cases hx; omega
  ·cases hx
 ·exact le i x hx
theorem Hv {par : List Nat} (hg : g < par.length) (a : Nat) : (par.set g k).getD a a = if a = g then k else par.getD a a := by iterate 1
 rw [Bt, Py]
 by_cases q : a = g
 ·subst q; simp [hg]
 ·rw [if_neg (fun e => q e.symm), if_neg q, Bt]
theorem L2 (le : Cp par) (h : k < g) (hg : g < par.length) (rk : par.getD k k = k) (rg : par.getD g g = g) : ∀ a, Ae (par.set g k) a = if Ae par a = g then k else Ae par a := by iterate 1
 have le' := Px le (Bz h)
 intro a
 induction a using Ji with
 | _ a ih =>
  rw [Fi le', Hv hg]
  by_cases q : a = g
  ·subst q
   rw [if_pos rfl, if_neg (by omega), ih k h, EJ le rk, EJ le rg, if_neg (by omega), if_pos rfl]
  ·rw [if_neg q]
   by_cases e : par.getD a a = a
   ·rw [if_pos e, EJ le e, if_neg q]
   ·rw [if_neg e]
    have := Fh le a
    rw [ih _ (by omega)]
    have : Ae par a = Ae par (par.getD a a) := by rw [Fi le a, if_neg e]
    rw [this]
theorem Jk (le : Cp par) : ∀ a, Ae (par ++ [par.length]) a = Ae par a := by iterate 1
 have le' : Cp (par ++ [par.length]) := fun i x hx => by
  by_cases hi : i < par.length
  ·rw [CQ hi] at hx; exact le i x hx
  ·rw [C8 (by omega)] at hx
   have : i - par.length = 0 := by have := (AT.mp hx).1; simp at this; omega
   rw [this] at hx; simp at hx; omega
 have hg : ∀ a, (par ++ [par.length]).getD a a = par.getD a a := fun a => by
  rw [Bt, Bt]
  by_cases hi : a < par.length
  ·rw [CQ hi]
  ·rw [C8 (by omega), D8 (by omega : par.length <= a)]
   by_cases h0 : a - par.length = 0
   ·rw [h0]; simp; omega
   ·rw [D8 (by simp; omega)]
 intro a
 induction a using Ji with
 | _ a ih =>
  rw [Fi le', Fi le, hg]
  by_cases e : par.getD a a = a
  ·rw [if_pos e, if_pos e]
  ·rw [if_neg e, if_neg e]
   have := Fh le a
   exact ih _ (by omega)
theorem TD (le : Cp par) : Cp (par ++ [par.length]) := by iterate 1
 exact fun i x hx => by
  by_cases hi : i < par.length
  ·rw [CQ hi] at hx; exact le i x hx
  ·rw [C8 (by omega)] at hx
   have : i - par.length = 0 := by have := (AT.mp hx).1; simp at this; omega
   rw [this] at hx; simp at hx; omega
structure UF where
 par : List Nat
 lots : List (List Nat)
noncomputable def UF.make (f : UF) : UF := ⟨f.par ++ [f.par.length], f.lots ++ [[f.par.length]]⟩
noncomputable def UF.join (f : UF) (k g : Nat) : UF := ⟨f.par.set g k, f.lots.set k (f.lots.getD k [] ++ f.lots.getD g [])⟩
noncomputable def UF.nroots (f : UF) : Nat := (Bn f.par.length).countP fun i => f.par.getD i i == i
structure UF.WF (f : UF) : Prop where
 len : f.lots.length = f.par.length
 le : Cp f.par
 all : ∀ i, (f.lots.getD i []).length <= f.par.length
 mem : ∀ k, k < f.par.length -> f.par.getD k k = k -> (f.lots.getD k []).Nodup /\ ∀ m, m ∈ f.lots.getD k [] ↔ m < f.par.length /\ Ae f.par m = k
theorem Pz {l : List Nat} (h : l.Nodup) (hl : ∀ m ∈ l, m < n) : l.length <= n := by iterate 1
 induction n generalizing l with
 | zero =>
  cases l with
  | nil => exact Az _
  | cons a l => exact absurd (hl a Bv) (En _)
 | succ n ih =>
  have h1 := ih (l := l.erase n) (h.erase _) (fun m hm => by
   have hm' := (h.mem_erase_iff).mp hm
   have := hl m hm'.2
   have := hm'.1
   omega)
  by_cases hn : n ∈ l
  ·rw [O7 hn] at h1; omega
  ·rw [List.erase_of_not_mem hn] at h1; omega
theorem UF.WF.make {f : UF} (h : f.WF) : f.make.WF := by iterate 1
 exact {
  len := by simp [UF.make, h.len]
  le := TD h.le
  all := fun i => by
   show ((f.lots ++ [[f.par.length]]).getD i []).length <= (f.par ++ [f.par.length]).length
   rw [Bt]
   by_cases hi : i < f.lots.length
   ·rw [CQ hi, <- Bt]
    have := h.all i; rw [AD]; simp only [Dp]; omega
   ·rw [C8 (by omega)]
    by_cases h0 : i - f.lots.length = 0
    ·rw [h0]; simp
    ·rw [D8 (by simp; omega)]; simp
  mem := fun k hk hf => by
   simp only [UF.make] at hk hf ⊢
   rw [AD] at hk
   simp only [Dp] at hk
   rw [Bt] at hf ⊢
   by_cases hi : k < f.par.length
   ·rw [CQ hi, <- Bt] at hf
    rw [CQ (by rw [h.len]; exact hi), <- Bt]
    obtain ⟨h1, h2⟩ := h.mem k hi hf
    refine ⟨h1, fun m => ?_⟩
    rw [h2 m, Jk h.le, AD, Dp]
    constructor
    ·rintro ⟨a, b⟩; exact ⟨by omega, b⟩
    ·rintro ⟨a, b⟩
     refine ⟨?_, b⟩
     by_cases q : m = f.par.length
     ·have hf' : f.par.getD m m = m := by rw [Bt, D8 (by omega)]; rfl
      rw [EJ h.le hf'] at b
      omega
     ·omega
   ·have : k = f.par.length := by omega
    subst this
    rw [C8 (by rw [h.len]; exact Az _), h.len]
    simp only [Fj, List.getElem?_cons_zero, NN]
    refine ⟨by simp, fun m => ?_⟩
    rw [Jk h.le, AD, Dp, Ag]
    constructor
    ·rintro rfl
     exact ⟨by omega, EJ h.le (by rw [Bt, D8 (by omega)]; rfl)⟩
    ·rintro ⟨a, b⟩
     have := L1 h.le m
     omega }
theorem PA {l : List (List Nat)} (hk : k < l.length) (x : List Nat) (i : Nat) : (l.set k x).getD i [] = if i = k then x else l.getD i [] := by iterate 1
 rw [Bt, Py]
 by_cases q : i = k
 ·subst q; simp [hk]
 ·rw [if_neg (fun e => q e.symm), if_neg q, Bt]
theorem UF.WF.join {f : UF} (h : f.WF) (hkg : k < g) (hg : g < f.par.length) (rk : f.par.getD k k = k) (rg : f.par.getD g g = g) : (f.join k g).WF := by iterate 1
 have hkl : k < f.lots.length := by rw [h.len]; omega
 obtain ⟨nk, mk⟩ := h.mem k (by omega) rk
 obtain ⟨ng, mg⟩ := h.mem g hg rg
 have nd : (f.lots.getD k [] ++ f.lots.getD g []).Nodup := by
  rw [Bf]
  refine ⟨nk, ng, fun a ha b hb e => ?_⟩
  subst e
  have h1 := (mk a).mp ha
  have h2 := (mg a).mp hb
  omega
 refine ⟨by simp [UF.join, h.len], Px h.le (Bz hkg), fun i => ?_, fun i hi hf => ?_⟩
 ·show ((f.lots.set k _).getD i []).length <= (f.par.set g k).length
  rw [PA hkl, Fk]
  split
  ·refine Pz nd fun m hm => ?_
   rcases AC.mp hm with hm | hm
   ·exact ((mk m).mp hm).1
   ·exact ((mg m).mp hm).1
  ·exact h.all i
 ·simp only [UF.join] at hi hf ⊢
  rw [Fk] at hi
  rw [Hv hg] at hf
  rw [PA hkl]
  by_cases q : i = g
  ·rw [if_pos q] at hf; omega
  ·rw [if_neg q] at hf
   by_cases e : i = k
   ·subst e
    rw [if_pos rfl]
    refine ⟨nd, fun m => ?_⟩
    rw [AC, mk m, mg m, Fk, L2 h.le hkg hg rk rg]
    constructor
    ·rintro (⟨a, b⟩ | ⟨a, b⟩)
     ·exact ⟨a, by rw [b, if_neg (by omega)]⟩
     ·exact ⟨a, by rw [if_pos b]⟩
    ·rintro ⟨a, b⟩
     split at b
     ·exact .inr ⟨a, by assumption⟩
     ·exact .inl ⟨a, b⟩
   ·rw [if_neg e]
    obtain ⟨h1, h2⟩ := h.mem i hi hf
    refine ⟨h1, fun m => ?_⟩
    rw [h2 m, Fk, L2 h.le hkg hg rk rg]
    constructor
    ·rintro ⟨a, b⟩; exact ⟨a, by rw [b, if_neg (by omega)]⟩
    ·rintro ⟨a, b⟩
     split at b
     ·omega
     ·exact ⟨a, b⟩
theorem TF {p q : Nat -> Bool} {n g : Nat} (hg : g < n) (hp : p g = true) (hq : q g = false) (h : ∀ i, i ≠ g -> p i = q i) : (Bn n).countP q + 1 = (Bn n).countP p := by iterate 1
 induction n with
 | zero => omega
 | succ n ih =>
  rw [LU, PB, PB]
  by_cases e : g = n
  ·subst e
   have : (Bn g).countP q = (Bn g).countP p := by
    rw [List.countP_congr]
    intro x hx
    rw [h x (by have := Ep.mp hx; omega)]
   rw [this]
   simp [hp, hq]
  ·have := ih (by omega)
   rw [PC, PC, h n (fun q => e q.symm)]
   omega
theorem UF.Jl {f : UF} (hkg : k < g) (hg : g < f.par.length) (rg : f.par.getD g g = g) : (f.join k g).nroots + 1 = f.nroots := by iterate 1
 unfold UF.nroots UF.join
 simp only [Fk]
 refine TF hg (by rw [rg]; exact beq_self_eq_true _) ?_ fun i hi => ?_
 ·rw [Hv hg, if_pos rfl]; simp; omega
 ·rw [Hv hg, if_neg hi]
theorem UF.L3 {f : UF} : f.make.nroots = f.nroots + 1 := by iterate 1
 unfold UF.nroots UF.make
 simp only [AD, Dp]
 rw [LU, PB]
 congr 1
 ·rw [List.countP_congr]
  intro x hx
  have := Ep.mp hx
  rw [Bt, CQ this, <- Bt]
 ·rw [PC, Bt, C8 (Az _)]
  simp
theorem UF.TG (f : UF) : f.nroots <= f.par.length := by iterate 1
 unfold UF.nroots
 have := List.countP_le_length (p := fun i => f.par.getD i i == i) (l := Bn f.par.length)
 simpa using this
theorem TH {vs : List Value} (h : vs.length = 0) : vs = [] := LZ.mp h
theorem DQ {vs : List Value} (h : vs.length = 1) : ∃ a, vs = [a] := by iterate 1
 match vs, h with
 | [a], _ => exact ⟨a, rfl⟩
theorem CU {vs : List Value} (h : vs.length = 2) : ∃ a b, vs = [a, b] := by iterate 1
 match vs, h with
 | [a, b], _ => exact ⟨a, b, rfl⟩
theorem FY {vs : List Value} (h : vs.length = 3) : ∃ a b c, vs = [a, b, c] := by iterate 1
 match vs, h with
 | [a, b, c], _ => exact ⟨a, b, c, rfl⟩
theorem Jm {vs : List Value} (h : vs.length = 4) : ∃ a b c d, vs = [a, b, c, d] := by iterate 1
 match vs, h with
 | [a, b, c, d], _ => exact ⟨a, b, c, d, rfl⟩
abbrev Fx (n : Addr) := {f : FuncData // ∀ p, AK (hd.heap_39 p) n = some f}
abbrev Bx (f : FuncData) := {b : List Stmt // f.body = .stmts b}
noncomputable def x67 : Fx 67 := ⟨_, fun _ => rfl⟩
noncomputable def f67 : FuncData := x67.1
noncomputable def y67 : Bx f67 := ⟨_, rfl⟩
noncomputable def b67 : List Stmt := y67.1
noncomputable def x74 : Fx 74 := ⟨_, fun _ => rfl⟩
noncomputable def f74 : FuncData := x74.1
noncomputable def y74 : Bx f74 := ⟨_, rfl⟩
noncomputable def b74 : List Stmt := y74.1
noncomputable def x88 : Fx 88 := ⟨_, fun _ => rfl⟩
noncomputable def f88 : FuncData := x88.1
noncomputable def y88 : Bx f88 := ⟨_, rfl⟩
noncomputable def b88 : List Stmt := y88.1
noncomputable def x100 : Fx 100 := ⟨_, fun _ => rfl⟩
noncomputable def Jn : FuncData := x100.1
noncomputable def y100 : Bx Jn := ⟨_, rfl⟩
noncomputable def b100 : List Stmt := y100.1
noncomputable def x107 : Fx 107 := ⟨_, fun _ => rfl⟩
noncomputable def Jo : FuncData := x107.1
noncomputable def y107 : Bx Jo := ⟨_, rfl⟩
noncomputable def b107 : List Stmt := y107.1
noncomputable def x135 : Fx 135 := ⟨_, fun _ => rfl⟩
noncomputable def Jp : FuncData := x135.1
noncomputable def y135 : Bx Jp := ⟨_, rfl⟩
noncomputable def b135 : List Stmt := y135.1
noncomputable def x142 : Fx 142 := ⟨_, fun _ => rfl⟩
noncomputable def Jq : FuncData := x142.1
noncomputable def y142 : Bx Jq := ⟨_, rfl⟩
noncomputable def b142 : List Stmt := y142.1
noncomputable def x196 : Fx 196 := ⟨_, fun _ => rfl⟩
noncomputable def Jr : FuncData := x196.1
noncomputable def y196 : Bx Jr := ⟨_, rfl⟩
noncomputable def b196 : List Stmt := y196.1
noncomputable def x201 : Fx 201 := ⟨_, fun _ => rfl⟩
noncomputable def Js : FuncData := x201.1
noncomputable def y201 : Bx Js := ⟨_, rfl⟩
noncomputable def b201 : List Stmt := y201.1
noncomputable def x208 : Fx 208 := ⟨_, fun _ => rfl⟩
noncomputable def Jt : FuncData := x208.1
noncomputable def y208 : Bx Jt := ⟨_, rfl⟩
noncomputable def b208 : List Stmt := y208.1
noncomputable def x213 : Fx 213 := ⟨_, fun _ => rfl⟩
noncomputable def Ju : FuncData := x213.1
noncomputable def y213 : Bx Ju := ⟨_, rfl⟩
noncomputable def b213 : List Stmt := y213.1
noncomputable def x234 : Fx 234 := ⟨_, fun _ => rfl⟩
noncomputable def Jv : FuncData := x234.1
noncomputable def y234 : Bx Jv := ⟨_, rfl⟩
noncomputable def b234 : List Stmt := y234.1
noncomputable def x241 : Fx 241 := ⟨_, fun _ => rfl⟩
noncomputable def Jw : FuncData := x241.1
noncomputable def y241 : Bx Jw := ⟨_, rfl⟩
noncomputable def b241 : List Stmt := y241.1
noncomputable def x248 : Fx 248 := ⟨_, fun _ => rfl⟩
noncomputable def Jx : FuncData := x248.1
noncomputable def y248 : Bx Jx := ⟨_, rfl⟩
noncomputable def b248 : List Stmt := y248.1
noncomputable def x255 : Fx 255 := ⟨_, fun _ => rfl⟩
noncomputable def Jy : FuncData := x255.1
noncomputable def y255 : Bx Jy := ⟨_, rfl⟩
noncomputable def b255 : List Stmt := y255.1
noncomputable def x262 : Fx 262 := ⟨_, fun _ => rfl⟩
noncomputable def Jz : FuncData := x262.1
noncomputable def y262 : Bx Jz := ⟨_, rfl⟩
noncomputable def b262 : List Stmt := y262.1
noncomputable def x269 : Fx 269 := ⟨_, fun _ => rfl⟩
noncomputable def JA : FuncData := x269.1
noncomputable def y269 : Bx JA := ⟨_, rfl⟩
noncomputable def b269 : List Stmt := y269.1
noncomputable def x274 : Fx 274 := ⟨_, fun _ => rfl⟩
noncomputable def JB : FuncData := x274.1
noncomputable def y274 : Bx JB := ⟨_, rfl⟩
noncomputable def b274 : List Stmt := y274.1
noncomputable def x316 : Fx 316 := ⟨_, fun _ => rfl⟩
noncomputable def JC : FuncData := x316.1
noncomputable def y316 : Bx JC := ⟨_, rfl⟩
noncomputable def b316 : List Stmt := y316.1
noncomputable def x328 : Fx 328 := ⟨_, fun _ => rfl⟩
noncomputable def JD : FuncData := x328.1
noncomputable def y328 : Bx JD := ⟨_, rfl⟩
noncomputable def b328 : List Stmt := y328.1
noncomputable def x333 : Fx 333 := ⟨_, fun _ => rfl⟩
noncomputable def JE : FuncData := x333.1
noncomputable def y333 : Bx JE := ⟨_, rfl⟩
noncomputable def b333 : List Stmt := y333.1
noncomputable def x347 : Fx 347 := ⟨_, fun _ => rfl⟩
noncomputable def JF : FuncData := x347.1
noncomputable def y347 : Bx JF := ⟨_, rfl⟩
noncomputable def b347 : List Stmt := y347.1
noncomputable def x354 : Fx 354 := ⟨_, fun _ => rfl⟩
noncomputable def JG : FuncData := x354.1
noncomputable def y354 : Bx JG := ⟨_, rfl⟩
noncomputable def b354 : List Stmt := y354.1
noncomputable def x368 : Fx 368 := ⟨_, fun _ => rfl⟩
noncomputable def JH : FuncData := x368.1
noncomputable def y368 : Bx JH := ⟨_, rfl⟩
noncomputable def b368 : List Stmt := y368.1
noncomputable def x375 : Fx 375 := ⟨_, fun _ => rfl⟩
noncomputable def JI : FuncData := x375.1
noncomputable def y375 : Bx JI := ⟨_, rfl⟩
noncomputable def b375 : List Stmt := y375.1
noncomputable def x382 : Fx 382 := ⟨_, fun _ => rfl⟩
noncomputable def JJ : FuncData := x382.1
noncomputable def y382 : Bx JJ := ⟨_, rfl⟩
noncomputable def b382 : List Stmt := y382.1
noncomputable def x396 : Fx 396 := ⟨_, fun _ => rfl⟩
noncomputable def JK : FuncData := x396.1
noncomputable def y396 : Bx JK := ⟨_, rfl⟩
noncomputable def b396 : List Stmt := y396.1
noncomputable def x403 : Fx 403 := ⟨_, fun _ => rfl⟩
noncomputable def JL : FuncData := x403.1
noncomputable def y403 : Bx JL := ⟨_, rfl⟩
noncomputable def b403 : List Stmt := y403.1
noncomputable def x408 : Fx 408 := ⟨_, fun _ => rfl⟩
noncomputable def JM : FuncData := x408.1
noncomputable def y408 : Bx JM := ⟨_, rfl⟩
noncomputable def b408 : List Stmt := y408.1
noncomputable def x441 : Fx 441 := ⟨_, fun _ => rfl⟩
noncomputable def JN : FuncData := x441.1
noncomputable def y441 : Bx JN := ⟨_, rfl⟩
noncomputable def b441 : List Stmt := y441.1
noncomputable def x448 : Fx 448 := ⟨_, fun _ => rfl⟩
noncomputable def JO : FuncData := x448.1
noncomputable def y448 : Bx JO := ⟨_, rfl⟩
noncomputable def b448 : List Stmt := y448.1
noncomputable def x453 : Fx 453 := ⟨_, fun _ => rfl⟩
noncomputable def JP : FuncData := x453.1
noncomputable def y453 : Bx JP := ⟨_, rfl⟩
noncomputable def b453 : List Stmt := y453.1
noncomputable def x458 : Fx 458 := ⟨_, fun _ => rfl⟩
noncomputable def JQ : FuncData := x458.1
noncomputable def y458 : Bx JQ := ⟨_, rfl⟩
noncomputable def b458 : List Stmt := y458.1
noncomputable def x463 : Fx 463 := ⟨_, fun _ => rfl⟩
noncomputable def JR : FuncData := x463.1
noncomputable def y463 : Bx JR := ⟨_, rfl⟩
noncomputable def b463 : List Stmt := y463.1
noncomputable def x470 : Fx 470 := ⟨_, fun _ => rfl⟩
noncomputable def JS : FuncData := x470.1
noncomputable def y470 : Bx JS := ⟨_, rfl⟩
noncomputable def b470 : List Stmt := y470.1
noncomputable def x475 : Fx 475 := ⟨_, fun _ => rfl⟩
noncomputable def JT : FuncData := x475.1
noncomputable def y475 : Bx JT := ⟨_, rfl⟩
noncomputable def b475 : List Stmt := y475.1
noncomputable def x480 : Fx 480 := ⟨_, fun _ => rfl⟩
noncomputable def JU : FuncData := x480.1
noncomputable def y480 : Bx JU := ⟨_, rfl⟩
noncomputable def b480 : List Stmt := y480.1
noncomputable def x485 : Fx 485 := ⟨_, fun _ => rfl⟩
noncomputable def JV : FuncData := x485.1
noncomputable def y485 : Bx JV := ⟨_, rfl⟩
noncomputable def b485 : List Stmt := y485.1
noncomputable def x490 : Fx 490 := ⟨_, fun _ => rfl⟩
noncomputable def JW : FuncData := x490.1
noncomputable def y490 : Bx JW := ⟨_, rfl⟩
noncomputable def b490 : List Stmt := y490.1
noncomputable def x495 : Fx 495 := ⟨_, fun _ => rfl⟩
noncomputable def JX : FuncData := x495.1
noncomputable def y495 : Bx JX := ⟨_, rfl⟩
noncomputable def b495 : List Stmt := y495.1
structure Ok (c : Cx) : Prop where
 X : C4 c
 K : ∃ p, c.K = hd.heap_39 p
theorem Ok.plus (O : Ok c) (b : Addr) : Ok (c.plus b) := ⟨O.X.plus b, O.K⟩
structure CF (K : Frag) (cl : Addr) (x : Str) : Prop where
 g : plainGet K cl x = true
 d : hasDictIn K cl = true
 f : findIn K (.ref cl) x = some none
structure BJ (K : Frag) (cl : Addr) (x : Str) (f : Addr) : Prop where
 g : plainGet K cl x = true
 h : findIn K (.ref cl) x = some (some (.ref f))
 t : isFn K (.ref f) = true
 k : keepIn K (.ref f) = true
structure CG (K : Frag) (cl : Addr) (x : Str) : Prop where
 s : findIn K (.ref cl) "__setattr__" = some (some (.builtin "object.__setattr__"))
 o : plainOver K cl = true
 t : takerIn K cl x = some none
 d : hasDictIn K cl = true
structure Hw (K : Frag) (C f : Addr) : Prop where
 m : makesIn K C = true
 i : findIn K (.ref C) "__init__" = some (some (.ref f))
 t : typeIn K (.ref f) = some (.type "function")
 k : keepIn K (.ref C) = true
local macro_rules | `(tactic| walk_at "k") => `(tactic| (obtain ⟨p, e⟩ := (‹Ok _› : Ok _).K; rw [e]; constructor <;> kernel_rfl))
theorem Ok.fn {c : Cx} (O : Ok c) {n : Addr} {f : FuncData} (h : ∀ p, AK (hd.heap_39 p) n = some f) : AK c.K n = some f := by iterate 1 obtain ⟨p, e⟩ := O.K; rw [e]; exact h p
theorem Ok.pl {c : Cx} (O : Ok c) {f : FuncData} {b : List Stmt} {ns : List Str} (h : ∀ p, codeIn (hd.heap_39 p) f.code f.qualname = true) (h1 : f.body = .stmts b /\ f.closure = [] /\ f.globals = mainGlobals /\ f.builtins = builtinsNs /\ f.scope.isCoroutine = false /\ f.scope.isGenerator = false /\ f.scope.kind = .function)
  (h2 : ns.all (fun x => f.scope.names.lookup x == some .local || (f.scope.names.lookup x == some .cell && ((cellsFrom 0 f.scope.names []).lookup x).isSome)) = true) (h3 : ns.Nodup) (h4 : ∀ vs : List Value, vs.length = ns.length -> bindArgs f ⟨vs, []⟩ = pure (ns.zip vs)) : AQ c.K f b ns := by iterate 1
 obtain ⟨p, e⟩ := O.K
 rw [e]
 exact ⟨h p, h1.1, h1.2.1, h1.2.2.1, h1.2.2.2.1, h1.2.2.2.2.1, h1.2.2.2.2.2.1, h1.2.2.2.2.2.2, h2, h3, h4⟩
section
variable {c : Cx} (O : Ok c)
include O
theorem TJ : Hw c.K 298 234 := by walk_at "k"
theorem TK : CF c.K 298 "above" := by walk_at "k"
theorem TM : CG c.K 298 "above" := by walk_at "k"
theorem TN : CF c.K 298 "lots" := by walk_at "k"
theorem TO : CG c.K 298 "lots" := by walk_at "k"
theorem TP : CF c.K 298 "merged" := by walk_at "k"
theorem TQ : CG c.K 298 "merged" := by walk_at "k"
theorem TR : BJ c.K 298 "make" 241 := by walk_at "k"
theorem TS : BJ c.K 298 "size" 248 := by walk_at "k"
theorem TU : BJ c.K 298 "find" 255 := by walk_at "k"
theorem TV : BJ c.K 298 "merge" 262 := by walk_at "k"
theorem TX : BJ c.K 298 "members" 269 := by walk_at "k"
theorem TY : BJ c.K 298 "classes" 274 := by walk_at "k"
theorem TZ : Hw c.K 178 88 := by walk_at "k"
theorem T0 : CF c.K 178 "nodes" := by walk_at "k"
theorem T4 : CG c.K 178 "nodes" := by walk_at "k"
theorem T5 : CF c.K 178 "numbers" := by walk_at "k"
theorem T6 : CG c.K 178 "numbers" := by walk_at "k"
theorem T7 : CF c.K 178 "weights" := by walk_at "k"
theorem T8 : CG c.K 178 "weights" := by walk_at "k"
theorem T9 : CF c.K 178 "depths" := by walk_at "k"
theorem Ub : CG c.K 178 "depths" := by walk_at "k"
theorem Ud : BJ c.K 178 "take" 100 := by walk_at "k"
theorem Ue : BJ c.K 178 "require" 107 := by walk_at "k"
theorem Uf : BJ c.K 178 "op" 135 := by walk_at "k"
theorem Ug : BJ c.K 178 "kids" 142 := by walk_at "k"
theorem Uh : Hw c.K 430 316 := by walk_at "k"
theorem Ui : CF c.K 430 "bank" := by walk_at "k"
theorem Uj : CG c.K 430 "bank" := by walk_at "k"
theorem Uk : CF c.K 430 "unions" := by walk_at "k"
theorem Ul : CG c.K 430 "unions" := by walk_at "k"
theorem Um : CF c.K 430 "edges" := by walk_at "k"
theorem Un : CG c.K 430 "edges" := by walk_at "k"
theorem Uo : CF c.K 430 "forest" := by walk_at "k"
theorem Up : CG c.K 430 "forest" := by walk_at "k"
theorem Uq : CF c.K 430 "known" := by walk_at "k"
theorem Ur : CG c.K 430 "known" := by walk_at "k"
theorem Us : CF c.K 430 "above" := by walk_at "k"
theorem Ut : CG c.K 430 "above" := by walk_at "k"
theorem Uu : CF c.K 430 "waiting" := by walk_at "k"
theorem Uv : CG c.K 430 "waiting" := by walk_at "k"
theorem Uw : BJ c.K 430 "node" 328 := by walk_at "k"
theorem Ux : BJ c.K 430 "add" 333 := by walk_at "k"
theorem Uy : BJ c.K 430 "look_at" 347 := by walk_at "k"
theorem Uz : BJ c.K 430 "find" 354 := by walk_at "k"
theorem UA : BJ c.K 430 "merge" 368 := by walk_at "k"
theorem UB : BJ c.K 430 "join" 375 := by walk_at "k"
theorem UC : BJ c.K 430 "settle" 382 := by walk_at "k"
theorem UD : BJ c.K 430 "classes" 396 := by walk_at "k"
theorem UE : BJ c.K 430 "members" 403 := by walk_at "k"
theorem UG : BJ c.K 430 "nodes_of" 408 := by walk_at "k"
theorem UH : Hw c.K 216 196 := by walk_at "k"
theorem UJ : CF c.K 216 "heap" := by walk_at "k"
theorem UK : CG c.K 216 "heap" := by walk_at "k"
theorem UL : BJ c.K 216 "extended" 201 := by walk_at "k"
theorem UM : BJ c.K 216 "found_in" 208 := by walk_at "k"
theorem UN : BJ c.K 216 "found" 213 := by walk_at "k"
theorem UO : Bj c "is_op" (.ref 67) /\ Aw c (.ref 67) := by iterate 1
 obtain ⟨p, e⟩ := O.K
 exact ⟨.own (by rw [e]; kernel_rfl), Aw.own O.X (by rw [e]; kernel_rfl)⟩
theorem UP : Bj c "is_variable" (.ref 74) /\ Aw c (.ref 74) := by iterate 1
 obtain ⟨p, e⟩ := O.K
 exact ⟨.own (by rw [e]; kernel_rfl), Aw.own O.X (by rw [e]; kernel_rfl)⟩
theorem UQ : Bj c "Bank" (.ref 178) /\ Aw c (.ref 178) := by iterate 1
 obtain ⟨p, e⟩ := O.K
 exact ⟨.own (by rw [e]; kernel_rfl), Aw.own O.X (by rw [e]; kernel_rfl)⟩
theorem US : Bj c "Walker" (.ref 216) /\ Aw c (.ref 216) := by iterate 1
 obtain ⟨p, e⟩ := O.K
 exact ⟨.own (by rw [e]; kernel_rfl), Aw.own O.X (by rw [e]; kernel_rfl)⟩
theorem UT : Bj c "Unions" (.ref 298) /\ Aw c (.ref 298) := by iterate 1
 obtain ⟨p, e⟩ := O.K
 exact ⟨.own (by rw [e]; kernel_rfl), Aw.own O.X (by rw [e]; kernel_rfl)⟩
theorem UU : Bj c "Heap" (.ref 430) /\ Aw c (.ref 430) := by iterate 1
 obtain ⟨p, e⟩ := O.K
 exact ⟨.own (by rw [e]; kernel_rfl), Aw.own O.X (by rw [e]; kernel_rfl)⟩
theorem L4 : Bj c "_law_forms" (.ref 441) /\ Aw c (.ref 441) := by iterate 1
 obtain ⟨p, e⟩ := O.K
 exact ⟨.own (by rw [e]; kernel_rfl), Aw.own O.X (by rw [e]; kernel_rfl)⟩
theorem DD : Bj c "_law_draw" (.ref 448) /\ Aw c (.ref 448) := by iterate 1
 obtain ⟨p, e⟩ := O.K
 exact ⟨.own (by rw [e]; kernel_rfl), Aw.own O.X (by rw [e]; kernel_rfl)⟩
theorem PE : Bj c "_law_grown" (.ref 453) /\ Aw c (.ref 453) := by iterate 1
 obtain ⟨p, e⟩ := O.K
 exact ⟨.own (by rw [e]; kernel_rfl), Aw.own O.X (by rw [e]; kernel_rfl)⟩
theorem L5 : Bj c "_law_row" (.ref 458) /\ Aw c (.ref 458) := by iterate 1
 obtain ⟨p, e⟩ := O.K
 exact ⟨.own (by rw [e]; kernel_rfl), Aw.own O.X (by rw [e]; kernel_rfl)⟩
theorem PF : Bj c "_law_one" (.ref 463) /\ Aw c (.ref 463) := by iterate 1
 obtain ⟨p, e⟩ := O.K
 exact ⟨.own (by rw [e]; kernel_rfl), Aw.own O.X (by rw [e]; kernel_rfl)⟩
theorem UV : Bj c "_law_homes" (.ref 470) /\ Aw c (.ref 470) := by iterate 1
 obtain ⟨p, e⟩ := O.K
 exact ⟨.own (by rw [e]; kernel_rfl), Aw.own O.X (by rw [e]; kernel_rfl)⟩
theorem L6 : Bj c "_law_pattern" (.ref 475) /\ Aw c (.ref 475) := by iterate 1
 obtain ⟨p, e⟩ := O.K
 exact ⟨.own (by rw [e]; kernel_rfl), Aw.own O.X (by rw [e]; kernel_rfl)⟩
theorem PG : Bj c "_law_worth" (.ref 480) /\ Aw c (.ref 480) := by iterate 1
 obtain ⟨p, e⟩ := O.K
 exact ⟨.own (by rw [e]; kernel_rfl), Aw.own O.X (by rw [e]; kernel_rfl)⟩
theorem PH : Bj c "_law_names" (.ref 485) /\ Aw c (.ref 485) := by iterate 1
 obtain ⟨p, e⟩ := O.K
 exact ⟨.own (by rw [e]; kernel_rfl), Aw.own O.X (by rw [e]; kernel_rfl)⟩
theorem UW : Bj c "_law_due" (.ref 490) /\ Aw c (.ref 490) := by iterate 1
 obtain ⟨p, e⟩ := O.K
 exact ⟨.own (by rw [e]; kernel_rfl), Aw.own O.X (by rw [e]; kernel_rfl)⟩
theorem Et : Bj c "sorted" (.builtin "sorted") /\ Aw c (.builtin "sorted") := by iterate 1
 obtain ⟨p, e⟩ := O.K
 exact ⟨.boot (by rw [e]; kernel_rfl) (by kernel_rfl) (by decide), Aw.builtin _⟩
theorem BN : Bj c "len" (.builtin "len") /\ Aw c (.builtin "len") := by iterate 1
 obtain ⟨p, e⟩ := O.K
 exact ⟨.boot (by rw [e]; kernel_rfl) (by kernel_rfl) (by decide), Aw.builtin _⟩
theorem UX : Bj c "sum" (.builtin "sum") /\ Aw c (.builtin "sum") := by iterate 1
 obtain ⟨p, e⟩ := O.K
 exact ⟨.boot (by rw [e]; kernel_rfl) (by kernel_rfl) (by decide), Aw.builtin _⟩
theorem UY : Bj c "max" (.builtin "max") /\ Aw c (.builtin "max") := by iterate 1
 obtain ⟨p, e⟩ := O.K
 exact ⟨.boot (by rw [e]; kernel_rfl) (by kernel_rfl) (by decide), Aw.builtin _⟩
theorem UZ : Bj c "min" (.builtin "min") /\ Aw c (.builtin "min") := by iterate 1
 obtain ⟨p, e⟩ := O.K
 exact ⟨.boot (by rw [e]; kernel_rfl) (by kernel_rfl) (by decide), Aw.builtin _⟩
theorem L7 : Bj c "set" (.type "set") /\ Aw c (.type "set") := by iterate 1
 obtain ⟨p, e⟩ := O.K
 exact ⟨.boot (by rw [e]; kernel_rfl) (by kernel_rfl) (by decide), Aw.type _⟩
theorem Fl : Bj c "tuple" (.type "tuple") /\ Aw c (.type "tuple") := by iterate 1
 obtain ⟨p, e⟩ := O.K
 exact ⟨.boot (by rw [e]; kernel_rfl) (by kernel_rfl) (by decide), Aw.type _⟩
theorem L8 : Bj c "list" (.type "list") /\ Aw c (.type "list") := by iterate 1
 obtain ⟨p, e⟩ := O.K
 exact ⟨.boot (by rw [e]; kernel_rfl) (by kernel_rfl) (by decide), Aw.type _⟩
theorem PJ : Bj c "dict" (.type "dict") /\ Aw c (.type "dict") := by iterate 1
 obtain ⟨p, e⟩ := O.K
 exact ⟨.boot (by rw [e]; kernel_rfl) (by kernel_rfl) (by decide), Aw.type _⟩
theorem Eu : Bj c "range" (.type "range") /\ Aw c (.type "range") := by iterate 1
 obtain ⟨p, e⟩ := O.K
 exact ⟨.boot (by rw [e]; kernel_rfl) (by kernel_rfl) (by decide), Aw.type _⟩
theorem U0 : Bj c "zip" (.type "zip") /\ Aw c (.type "zip") := by iterate 1
 obtain ⟨p, e⟩ := O.K
 exact ⟨.boot (by rw [e]; kernel_rfl) (by kernel_rfl) (by decide), Aw.type _⟩
theorem U5 : Bj c "int" (.type "int") /\ Aw c (.type "int") := by iterate 1
 obtain ⟨p, e⟩ := O.K
 exact ⟨.boot (by rw [e]; kernel_rfl) (by kernel_rfl) (by decide), Aw.type _⟩
theorem fO67 : AK c.K 67 = some f67 := O.fn x67.2
theorem fO74 : AK c.K 74 = some f74 := O.fn x74.2
theorem fO88 : AK c.K 88 = some f88 := O.fn x88.2
theorem fO100 : AK c.K 100 = some Jn := O.fn x100.2
theorem fO107 : AK c.K 107 = some Jo := O.fn x107.2
theorem fO135 : AK c.K 135 = some Jp := O.fn x135.2
theorem fO142 : AK c.K 142 = some Jq := O.fn x142.2
theorem fO196 : AK c.K 196 = some Jr := O.fn x196.2
theorem fO201 : AK c.K 201 = some Js := O.fn x201.2
theorem fO208 : AK c.K 208 = some Jt := O.fn x208.2
theorem fO213 : AK c.K 213 = some Ju := O.fn x213.2
theorem fO234 : AK c.K 234 = some Jv := O.fn x234.2
theorem fO241 : AK c.K 241 = some Jw := O.fn x241.2
theorem fO248 : AK c.K 248 = some Jx := O.fn x248.2
theorem fO255 : AK c.K 255 = some Jy := O.fn x255.2
theorem fO262 : AK c.K 262 = some Jz := O.fn x262.2
theorem fO269 : AK c.K 269 = some JA := O.fn x269.2
theorem fO274 : AK c.K 274 = some JB := O.fn x274.2
theorem fO316 : AK c.K 316 = some JC := O.fn x316.2
theorem fO328 : AK c.K 328 = some JD := O.fn x328.2
theorem fO333 : AK c.K 333 = some JE := O.fn x333.2
theorem fO347 : AK c.K 347 = some JF := O.fn x347.2
theorem fO354 : AK c.K 354 = some JG := O.fn x354.2
theorem fO368 : AK c.K 368 = some JH := O.fn x368.2
theorem fO375 : AK c.K 375 = some JI := O.fn x375.2
theorem fO382 : AK c.K 382 = some JJ := O.fn x382.2
theorem fO396 : AK c.K 396 = some JK := O.fn x396.2
theorem fO403 : AK c.K 403 = some JL := O.fn x403.2
theorem fO408 : AK c.K 408 = some JM := O.fn x408.2
theorem fO441 : AK c.K 441 = some JN := O.fn x441.2
theorem fO448 : AK c.K 448 = some JO := O.fn x448.2
theorem fO453 : AK c.K 453 = some JP := O.fn x453.2
theorem fO458 : AK c.K 458 = some JQ := O.fn x458.2
theorem fO463 : AK c.K 463 = some JR := O.fn x463.2
theorem fO470 : AK c.K 470 = some JS := O.fn x470.2
theorem fO475 : AK c.K 475 = some JT := O.fn x475.2
theorem fO480 : AK c.K 480 = some JU := O.fn x480.2
theorem fO485 : AK c.K 485 = some JV := O.fn x485.2
theorem fO490 : AK c.K 490 = some JW := O.fn x490.2
theorem fO495 : AK c.K 495 = some JX := O.fn x495.2
theorem pO67 : AQ c.K f67 b67 [("text" : Str)] := O.pl (fun _ => by kernel_rfl) ⟨rfl, rfl, rfl, rfl, rfl, rfl, rfl⟩ (by kernel_rfl) (by decide) fun vs h => by obtain ⟨a, rfl⟩ := DQ h; rfl
theorem pO74 : AQ c.K f74 b74 [("t" : Str)] := O.pl (fun _ => by kernel_rfl) ⟨rfl, rfl, rfl, rfl, rfl, rfl, rfl⟩ (by kernel_rfl) (by decide) fun vs h => by obtain ⟨a, rfl⟩ := DQ h; rfl
theorem pO88 : AQ c.K f88 b88 [("self" : Str)] := O.pl (fun _ => by kernel_rfl) ⟨rfl, rfl, rfl, rfl, rfl, rfl, rfl⟩ (by kernel_rfl) (by decide) fun vs h => by obtain ⟨a, rfl⟩ := DQ h; rfl
theorem pO100 : AQ c.K Jn b100 [("self" : Str), ("op" : Str), ("kids" : Str)] := O.pl (fun _ => by kernel_rfl) ⟨rfl, rfl, rfl, rfl, rfl, rfl, rfl⟩ (by kernel_rfl) (by decide) fun vs h => by obtain ⟨a, b, c, rfl⟩ := FY h; rfl
theorem pO107 : AQ c.K Jo b107 [("self" : Str), ("op" : Str)] := O.pl (fun _ => by kernel_rfl) ⟨rfl, rfl, rfl, rfl, rfl, rfl, rfl⟩ (by kernel_rfl) (by decide) fun vs h => by obtain ⟨a, b, rfl⟩ := CU h; rfl
theorem pO135 : AQ c.K Jp b135 [("self" : Str), ("n" : Str)] := O.pl (fun _ => by kernel_rfl) ⟨rfl, rfl, rfl, rfl, rfl, rfl, rfl⟩ (by kernel_rfl) (by decide) fun vs h => by obtain ⟨a, b, rfl⟩ := CU h; rfl
theorem pO142 : AQ c.K Jq b142 [("self" : Str), ("n" : Str)] := O.pl (fun _ => by kernel_rfl) ⟨rfl, rfl, rfl, rfl, rfl, rfl, rfl⟩ (by kernel_rfl) (by decide) fun vs h => by obtain ⟨a, b, rfl⟩ := CU h; rfl
theorem pO196 : AQ c.K Jr b196 [("self" : Str), ("heap" : Str)] := O.pl (fun _ => by kernel_rfl) ⟨rfl, rfl, rfl, rfl, rfl, rfl, rfl⟩ (by kernel_rfl) (by decide) fun vs h => by obtain ⟨a, b, rfl⟩ := CU h; rfl
theorem pO201 : AQ c.K Js b201 [("self" : Str), ("table" : Str), ("c" : Str), ("pattern" : Str)] := O.pl (fun _ => by kernel_rfl) ⟨rfl, rfl, rfl, rfl, rfl, rfl, rfl⟩ (by kernel_rfl) (by decide) fun vs h => by obtain ⟨a, b, c, d, rfl⟩ := Jm h; rfl
theorem pO208 : AQ c.K Jt b208 [("self" : Str), ("c" : Str), ("pattern" : Str)] := O.pl (fun _ => by kernel_rfl) ⟨rfl, rfl, rfl, rfl, rfl, rfl, rfl⟩ (by kernel_rfl) (by decide) fun vs h => by obtain ⟨a, b, c, rfl⟩ := FY h; rfl
theorem pO213 : AQ c.K Ju b213 [("self" : Str), ("pattern" : Str)] := O.pl (fun _ => by kernel_rfl) ⟨rfl, rfl, rfl, rfl, rfl, rfl, rfl⟩ (by kernel_rfl) (by decide) fun vs h => by obtain ⟨a, b, rfl⟩ := CU h; rfl
theorem pO234 : AQ c.K Jv b234 [("self" : Str)] := O.pl (fun _ => by kernel_rfl) ⟨rfl, rfl, rfl, rfl, rfl, rfl, rfl⟩ (by kernel_rfl) (by decide) fun vs h => by obtain ⟨a, rfl⟩ := DQ h; rfl
theorem pO241 : AQ c.K Jw b241 [("self" : Str)] := O.pl (fun _ => by kernel_rfl) ⟨rfl, rfl, rfl, rfl, rfl, rfl, rfl⟩ (by kernel_rfl) (by decide) fun vs h => by obtain ⟨a, rfl⟩ := DQ h; rfl
theorem pO248 : AQ c.K Jx b248 [("self" : Str)] := O.pl (fun _ => by kernel_rfl) ⟨rfl, rfl, rfl, rfl, rfl, rfl, rfl⟩ (by kernel_rfl) (by decide) fun vs h => by obtain ⟨a, rfl⟩ := DQ h; rfl
theorem pO255 : AQ c.K Jy b255 [("self" : Str), ("a" : Str)] := O.pl (fun _ => by kernel_rfl) ⟨rfl, rfl, rfl, rfl, rfl, rfl, rfl⟩ (by kernel_rfl) (by decide) fun vs h => by obtain ⟨a, b, rfl⟩ := CU h; rfl
theorem pO262 : AQ c.K Jz b262 [("self" : Str), ("a" : Str), ("b" : Str)] := O.pl (fun _ => by kernel_rfl) ⟨rfl, rfl, rfl, rfl, rfl, rfl, rfl⟩ (by kernel_rfl) (by decide) fun vs h => by obtain ⟨a, b, c, rfl⟩ := FY h; rfl
theorem pO269 : AQ c.K JA b269 [("self" : Str), ("a" : Str)] := O.pl (fun _ => by kernel_rfl) ⟨rfl, rfl, rfl, rfl, rfl, rfl, rfl⟩ (by kernel_rfl) (by decide) fun vs h => by obtain ⟨a, b, rfl⟩ := CU h; rfl
theorem pO274 : AQ c.K JB b274 [("self" : Str)] := O.pl (fun _ => by kernel_rfl) ⟨rfl, rfl, rfl, rfl, rfl, rfl, rfl⟩ (by kernel_rfl) (by decide) fun vs h => by obtain ⟨a, rfl⟩ := DQ h; rfl
theorem pO316 : AQ c.K JC b316 [("self" : Str)] := O.pl (fun _ => by kernel_rfl) ⟨rfl, rfl, rfl, rfl, rfl, rfl, rfl⟩ (by kernel_rfl) (by decide) fun vs h => by obtain ⟨a, rfl⟩ := DQ h; rfl
theorem pO328 : AQ c.K JD b328 [("self" : Str), ("n" : Str)] := O.pl (fun _ => by kernel_rfl) ⟨rfl, rfl, rfl, rfl, rfl, rfl, rfl⟩ (by kernel_rfl) (by decide) fun vs h => by obtain ⟨a, b, rfl⟩ := CU h; rfl
theorem pO333 : AQ c.K JE b333 [("self" : Str), ("op" : Str), ("numbers" : Str)] := O.pl (fun _ => by kernel_rfl) ⟨rfl, rfl, rfl, rfl, rfl, rfl, rfl⟩ (by kernel_rfl) (by decide) fun vs h => by obtain ⟨a, b, c, rfl⟩ := FY h; rfl
theorem pO347 : AQ c.K JF b347 [("self" : Str), ("n" : Str)] := O.pl (fun _ => by kernel_rfl) ⟨rfl, rfl, rfl, rfl, rfl, rfl, rfl⟩ (by kernel_rfl) (by decide) fun vs h => by obtain ⟨a, b, rfl⟩ := CU h; rfl
theorem pO354 : AQ c.K JG b354 [("self" : Str), ("n" : Str)] := O.pl (fun _ => by kernel_rfl) ⟨rfl, rfl, rfl, rfl, rfl, rfl, rfl⟩ (by kernel_rfl) (by decide) fun vs h => by obtain ⟨a, b, rfl⟩ := CU h; rfl
theorem pO368 : AQ c.K JH b368 [("self" : Str), ("a" : Str), ("b" : Str), ("reason" : Str)] := O.pl (fun _ => by kernel_rfl) ⟨rfl, rfl, rfl, rfl, rfl, rfl, rfl⟩ (by kernel_rfl) (by decide) fun vs h => by obtain ⟨a, b, c, d, rfl⟩ := Jm h; rfl
theorem pO375 : AQ c.K JI b375 [("self" : Str), ("a" : Str), ("b" : Str), ("reason" : Str)] := O.pl (fun _ => by kernel_rfl) ⟨rfl, rfl, rfl, rfl, rfl, rfl, rfl⟩ (by kernel_rfl) (by decide) fun vs h => by obtain ⟨a, b, c, d, rfl⟩ := Jm h; rfl
theorem pO382 : AQ c.K JJ b382 [("self" : Str)] := O.pl (fun _ => by kernel_rfl) ⟨rfl, rfl, rfl, rfl, rfl, rfl, rfl⟩ (by kernel_rfl) (by decide) fun vs h => by obtain ⟨a, rfl⟩ := DQ h; rfl
theorem pO396 : AQ c.K JK b396 [("self" : Str)] := O.pl (fun _ => by kernel_rfl) ⟨rfl, rfl, rfl, rfl, rfl, rfl, rfl⟩ (by kernel_rfl) (by decide) fun vs h => by obtain ⟨a, rfl⟩ := DQ h; rfl
theorem pO403 : AQ c.K JL b403 [("self" : Str), ("c" : Str)] := O.pl (fun _ => by kernel_rfl) ⟨rfl, rfl, rfl, rfl, rfl, rfl, rfl⟩ (by kernel_rfl) (by decide) fun vs h => by obtain ⟨a, b, rfl⟩ := CU h; rfl
theorem pO408 : AQ c.K JM b408 [("self" : Str), ("c" : Str)] := O.pl (fun _ => by kernel_rfl) ⟨rfl, rfl, rfl, rfl, rfl, rfl, rfl⟩ (by kernel_rfl) (by decide) fun vs h => by obtain ⟨a, b, rfl⟩ := CU h; rfl
theorem pO441 : AQ c.K JN b441 [] := O.pl (fun _ => by kernel_rfl) ⟨rfl, rfl, rfl, rfl, rfl, rfl, rfl⟩ (by kernel_rfl) (by decide) fun vs h => by rw [TH h]; rfl
theorem pO448 : AQ c.K JO b448 [("feed" : Str), ("wide" : Str)] := O.pl (fun _ => by kernel_rfl) ⟨rfl, rfl, rfl, rfl, rfl, rfl, rfl⟩ (by kernel_rfl) (by decide) fun vs h => by obtain ⟨a, b, rfl⟩ := CU h; rfl
theorem pO453 : AQ c.K JP b453 [("feed" : Str), ("heap" : Str), ("nodes" : Str), ("many" : Str)] := O.pl (fun _ => by kernel_rfl) ⟨rfl, rfl, rfl, rfl, rfl, rfl, rfl⟩ (by kernel_rfl) (by decide) fun vs h => by obtain ⟨a, b, c, d, rfl⟩ := Jm h; rfl
theorem pO458 : AQ c.K JQ b458 [("home" : Str), ("node" : Str)] := O.pl (fun _ => by kernel_rfl) ⟨rfl, rfl, rfl, rfl, rfl, rfl, rfl⟩ (by kernel_rfl) (by decide) fun vs h => by obtain ⟨a, b, rfl⟩ := CU h; rfl
theorem pO463 : AQ c.K JR b463 [("home" : Str), ("a" : Str), ("b" : Str)] := O.pl (fun _ => by kernel_rfl) ⟨rfl, rfl, rfl, rfl, rfl, rfl, rfl⟩ (by kernel_rfl) (by decide) fun vs h => by obtain ⟨a, b, c, rfl⟩ := FY h; rfl
theorem pO470 : AQ c.K JS b470 [("nodes" : Str), ("pairs" : Str)] := O.pl (fun _ => by kernel_rfl) ⟨rfl, rfl, rfl, rfl, rfl, rfl, rfl⟩ (by kernel_rfl) (by decide) fun vs h => by obtain ⟨a, b, rfl⟩ := CU h; rfl
theorem pO475 : AQ c.K JT b475 [("feed" : Str), ("deep" : Str)] := O.pl (fun _ => by kernel_rfl) ⟨rfl, rfl, rfl, rfl, rfl, rfl, rfl⟩ (by kernel_rfl) (by decide) fun vs h => by obtain ⟨a, b, rfl⟩ := CU h; rfl
theorem pO480 : AQ c.K JU b480 [("pattern" : Str), ("table" : Str), ("known" : Str)] := O.pl (fun _ => by kernel_rfl) ⟨rfl, rfl, rfl, rfl, rfl, rfl, rfl⟩ (by kernel_rfl) (by decide) fun vs h => by obtain ⟨a, b, c, rfl⟩ := FY h; rfl
theorem pO485 : AQ c.K JV b485 [("pattern" : Str)] := O.pl (fun _ => by kernel_rfl) ⟨rfl, rfl, rfl, rfl, rfl, rfl, rfl⟩ (by kernel_rfl) (by decide) fun vs h => by obtain ⟨a, rfl⟩ := DQ h; rfl
theorem pO490 : AQ c.K JW b490 [("pattern" : Str), ("home" : Str), ("known" : Str)] := O.pl (fun _ => by kernel_rfl) ⟨rfl, rfl, rfl, rfl, rfl, rfl, rfl⟩ (by kernel_rfl) (by decide) fun vs h => by obtain ⟨a, b, c, rfl⟩ := FY h; rfl
theorem pO495 : AQ c.K JX b495 [("script" : Str)] := O.pl (fun _ => by kernel_rfl) ⟨rfl, rfl, rfl, rfl, rfl, rfl, rfl⟩ (by kernel_rfl) (by decide) fun vs h => by obtain ⟨a, rfl⟩ := DQ h; rfl
end
noncomputable abbrev VS := List (Option D)
noncomputable abbrev at_ : VS -> Nat -> Option D
 | [], _ => none
 | d :: _, 0 => d
 | _ :: r, i + 1 => at_ r i
noncomputable abbrev put : VS -> Nat -> D -> VS
 | [], _, _ => []
 | _ :: r, 0, d => some d :: r
 | x :: r, i + 1, d => x :: put r i d
structure Bk (ns : List Str) (vs : VS) (m : Au) : Prop where
 len : vs.length = ns.length
 rel : ∀ i x d, ns[i]? = some x -> x ≠ ("" : Str) -> at_ vs i = some d -> m.lookup x = some d
theorem PK : ∀ {vs : VS} {i : Nat}, (put vs i d).length = vs.length
 | [], _ => rfl
 | _ :: _, 0 => rfl
 | _ :: r, i + 1 => congrArg (· + 1) (PK (vs := r))
theorem PL : ∀ {vs : VS} {i j : Nat}, j ≠ i -> at_ (put vs i d) j = at_ vs j
 | [], _, _, _ => rfl
 | _ :: _, 0, 0, h => absurd rfl h
 | _ :: _, 0, j + 1, _ => rfl
 | _ :: _, i + 1, 0, _ => rfl
 | _ :: r, i + 1, j + 1, h => PL (vs := r) fun e => h (congrArg (· + 1) e)
theorem PM : ∀ {vs : VS} {i : Nat}, at_ (put vs i d) i = some e -> e = d
 | [], _, h => by cases h
 | _ :: _, 0, h => by cases h; rfl
 | _ :: r, i + 1, h => PM (vs := r) (i := i) h
noncomputable def Cj (ns : List Str) (i : Nat) (x : Str) : Bool := ns[i]? == some x && (ns.set i "").all (· != x)
theorem PN {ns : List Str} {i j : Nat} {x y : Str} (h : Cj ns i x = true) (hy : ns[j]? = some y) (q : j ≠ i) : y ≠ x := by iterate 1
 unfold Cj at h
 rw [Cv, D0] at h
 have := h.2 y (AX (i := j) (by rw [U7 (Ne.symm q)]; exact hy))
 simpa using this
theorem PO (h : Cj ns i x = true) : ns[i]? = some x := by iterate 1
 unfold Cj at h
 rw [Cv] at h
 exact DX h.1
theorem Bk.put (d : D) (h : Bk ns vs m) (hs : Cj ns i x = true) : Bk ns (put vs i d) ((x, d) :: m) := by iterate 1
 exact ⟨PK.trans h.len, fun j y e hj hy he => by
  by_cases q : j = i
  ·subst q
   have := PO hs
   rw [hj] at this; cases this
   rw [AY, beq_self_eq_true, PM he]
  ·rw [PL q] at he
   rw [DJ (PN hs hj q)]
   exact h.rel j y e hj hy he⟩
structure Upd (σ σ' : Aa) (a : Addr) (o : MO) : Prop where
 at_ : σ' a = some o
 ne : ∀ b, b ≠ a -> σ' b = σ b
structure New (σ σ' : Aa) (a : Addr) (o : MO) : Prop where
 at_ : σ' a = some o
 ne : ∀ b, b ≠ a -> σ' b = σ b
 no : σ a = none
theorem Upd.set (σ : Aa) (a : Addr) (o : MO) : Upd σ (σ.set a o) a o := by iterate 1
 exact ⟨Aa.DZ .., fun _ h => Aa.B5 _ _ h⟩
theorem New.set (o : MO) (h : σ a = none) : New σ (σ.set a o) a o := by iterate 1
 exact ⟨Aa.DZ .., fun _ h => Aa.B5 _ _ h, h⟩
noncomputable abbrev VT := Cx -> Around -> VS -> Aa -> (D -> Aa -> Prop) -> Prop
noncomputable abbrev BT := Cx -> Around -> VS -> Aa -> (Bool -> Aa -> Prop) -> Prop
noncomputable abbrev LT := Cx -> Around -> VS -> Aa -> (List D -> Aa -> Prop) -> Prop
noncomputable abbrev XT := Cx -> Around -> VS -> Aa -> (AFl -> VS -> Aa -> Prop) -> Prop
noncomputable def Bp (c : Cx) (σ : Aa) (d : D) (x : Str) (Q : D -> Aa -> Prop) : Prop :=
 ∃ a cl dd es r, d = .ref a /\ σ a = some (.inst cl dd) /\ σ dd = some (.ns es) /\ es.lookup x = some r /\ CF c.K cl x /\ Q r σ
noncomputable def Cq (c : Cx) (σ : Aa) (t : D) (x : Str) (d : D) (Q : Aa -> Prop) : Prop :=
 ∃ a cl dd es, t = .ref a /\ σ a = some (.inst cl dd) /\ σ dd = some (.ns es) /\ CG c.K cl x /\ es.length < 900 /\ ∀ σ', Upd σ σ' dd (.ns (Dv x d es)) -> Q σ'
noncomputable def AH (c : Cx) (A : Around) (d : D) (σ : Aa) (ds : List D) (Hold : Aa -> Prop) : Prop := ∀ t, ITR c A t d σ ds Hold
noncomputable def flat : D -> Bool
 | .ref _ => false
 | .tup _ => false
 | _ => true
noncomputable def LAT (c : Cx) (σ : Aa) (l : Addr) (ds : List D) : Prop := σ l = some (.list ds) ∨ ∃ vs : List Value, c.h₀.IsList l vs.toArray /\ ∀ B h, Ak B h vs ds
noncomputable def JY (bd : D -> (VS -> Prop) -> VS -> Prop) (t : BT) (e : VT) (c : Cx) (A : Around) (vs : VS) (Q : D -> Aa -> Prop) (d : D) (σ : Aa) : Prop := ∃ ds Hold, AH c A d σ ds Hold /\
 ∃ Inv : Nat -> List D -> Aa -> Prop, Inv 0 [] σ /\ (∀ i acc σ', Inv i acc σ' -> Hold σ') /\
  (∀ i d acc σ', Inv i acc σ' -> ds[i]? = some d -> bd d (fun vs' => t c A vs' σ' fun ok σ2 => match ok with | true => e c A vs' σ2 fun d' σ3 => acc.length <= 1000000 /\ Inv (i + 1) (acc ++ [d']) σ3 | false => Inv (i + 1) acc σ2) vs) /\
  ∀ acc σ', Inv ds.length acc σ' -> ∀ a σ'', New σ' σ'' a (.list acc) -> Q (.ref a) σ''
noncomputable def L9 (e : VT) (c : Cx) (A : Around) (vs : VS) (d : D) (acc : List D) (P : List D -> Aa -> Prop) (d2 : D) (σ : Aa) : Prop := ∃ ds Hold, AH c A d2 σ ds Hold /\
 ∃ Inv : Nat -> List D -> Aa -> Prop, Inv 0 acc σ /\ (∀ j acc σ', Inv j acc σ' -> Hold σ') /\
  (∀ j d' acc σ', Inv j acc σ' -> ds[j]? = some d' -> e c A (vs ++ [some d, some d']) σ' fun x σ3 => acc.length <= 1000000 /\ Inv (j + 1) (acc ++ [x]) σ3) /\
  ∀ acc σ', Inv ds.length acc σ' -> P acc σ'
noncomputable def Mb (b e : VT) (c : Cx) (A : Around) (vs : VS) (Q : D -> Aa -> Prop) (d : D) (σ : Aa) : Prop := ∃ ds Hold, AH c A d σ ds Hold /\
 ∃ Inv : Nat -> List D -> Aa -> Prop, Inv 0 [] σ /\ (∀ i acc σ', Inv i acc σ' -> Hold σ') /\
  (∀ i d acc σ', Inv i acc σ' -> ds[i]? = some d -> b c A (vs ++ [some d]) σ' (L9 e c A vs d acc (Inv (i + 1)))) /\
  ∀ acc σ', Inv ds.length acc σ' -> ∀ a σ'', New σ' σ'' a (.list acc) -> Q (.ref a) σ''
noncomputable abbrev T.loop (P : VS -> Aa -> Prop) (x : XT) (c : Cx) (A : Around) (Q : AFl -> VS -> Aa -> Prop) : AFl -> VS -> Aa -> Prop := fun f vs σ => match f with | .next => P vs σ | .cont => P vs σ | .brk => x c A vs σ Q | .ret d => Q (.ret d) vs σ
noncomputable def FOR (bd : D -> (VS -> Prop) -> VS -> Prop) (b x : XT) (c : Cx) (A : Around) (vs : VS) (Q : AFl -> VS -> Aa -> Prop) (d : D) (σ : Aa) : Prop := ∃ ds Hold, AH c A d σ ds Hold /\
 ∃ Inv : Nat -> VS -> Aa -> Prop, Inv 0 vs σ /\ (∀ i vs' σ', Inv i vs' σ' -> Hold σ') /\
  (∀ i d vs' σ', Inv i vs' σ' -> ds[i]? = some d -> bd d (fun vs2 => b c A vs2 σ' (T.loop (Inv (i + 1)) x c A Q)) vs') /\
  ∀ vs' σ', Inv ds.length vs' σ' -> x c A vs' σ' Q
noncomputable def ZIP (i j : Nat) (b x : XT) (c : Cx) (A : Around) (vs : VS) (Q : AFl -> VS -> Aa -> Prop) (d1 d2 : D) (σ : Aa) : Prop := ∃ xs ys, d1 = .tup xs /\ d2 = .tup ys /\ ∀ z, σ z = none ->
 ∃ Inv : Nat -> VS -> Aa -> Prop, Inv 0 vs σ /\
  (∀ i' p q vs' σ', Inv i' vs' σ' -> xs[i']? = some p -> ys[i']? = some q -> b (c.plus z) A (put (put vs' i p) j q) σ' (T.loop (Inv (i' + 1)) (fun _ _ _ _ _ => False) c A Q)) /\
  ∀ vs' σ', Inv (min xs.length ys.length) vs' σ' -> x c A vs' σ' Q
noncomputable def PP (t : BT) (b x : XT) (c : Cx) (A : Around) (vs : VS) (σ : Aa) (Q : AFl -> VS -> Aa -> Prop) : Prop := ∃ (Inv : Nat -> VS -> Aa -> Prop) (n : Nat), Inv n vs σ /\ ∀ n vs' σ', Inv n vs' σ' -> t c A vs' σ' fun k σ1 => match k with
 | true => b c A vs' σ1 (T.loop (fun vs2 σ2 => ∃ k, k < n /\ Inv k vs2 σ2) x c A Q)
 | false => x c A vs' σ1 Q
namespace T
noncomputable abbrev v (i : Nat) : VT := fun _ _ vs σ Q => match at_ vs i with | some d => Q d σ | none => False
noncomputable abbrev int (i : Int) : VT := fun _ _ _ σ Q => Q (.int i) σ
noncomputable abbrev str (x : Str) : VT := fun _ _ _ σ Q => Q (.str x) σ
noncomputable abbrev bool (b : Bool) : VT := fun _ _ _ σ Q => Q (.bool b) σ
noncomputable abbrev none : VT := fun _ _ _ σ Q => Q .none σ
noncomputable abbrev bad : VT := fun _ _ _ _ _ => False
noncomputable abbrev nil : LT := fun _ _ _ σ Q => Q [] σ
noncomputable abbrev cons (a : VT) (l : LT) : LT := fun c A vs σ Q => a c A vs σ fun d σ1 => l c A vs σ1 fun ds σ2 => Q (d :: ds) σ2
noncomputable abbrev bin (op : Operator) (a b : VT) : VT := fun c A vs σ Q => a c A vs σ fun x σ1 => b c A vs σ1 fun y σ2 => BOP c A op x y σ2 Q
noncomputable abbrev cmp (op : CmpOp) (a b : VT) : VT := fun c A vs σ Q => a c A vs σ fun x σ1 => b c A vs σ1 fun y σ2 => CMP c A op x y σ2 fun t σ3 => Q (.bool t) σ3
noncomputable abbrev neg (a : VT) : VT := fun c A vs σ Q => a c A vs σ fun d σ' => match d with | .int i => Q (.int (-i)) σ' | _ => False
noncomputable abbrev tcmp (op : CmpOp) (a b : VT) : BT := fun c A vs σ Q => a c A vs σ fun x σ1 => b c A vs σ1 fun y σ2 => CMP c A op x y σ2 Q
noncomputable abbrev chain (op1 op2 : CmpOp) (a b e : VT) : BT := fun c A vs σ Q => a c A vs σ fun x σ1 => b c A vs σ1 fun y σ2 => CMP c A op1 x y σ2 fun t σ3 => match t with | true => e c A vs σ3 fun z σ4 => CMP c A op2 y z σ4 Q | false => Q false σ3
noncomputable abbrev not (t : BT) : BT := fun c A vs σ Q => t c A vs σ fun b σ' => Q (!b) σ'
noncomputable abbrev andT (x y : BT) : BT := fun c A vs σ Q => x c A vs σ fun b σ' => match b with | true => y c A vs σ' Q | false => Q false σ'
noncomputable abbrev orT (x y : BT) : BT := fun c A vs σ Q => x c A vs σ fun b σ' => match b with | true => Q true σ' | false => y c A vs σ' Q
noncomputable abbrev val (e : VT) : BT := fun c A vs σ Q => e c A vs σ fun d σ' => match d with | .bool b => Q b σ' | _ => False
noncomputable abbrev and (x y : VT) : VT := fun c A vs σ Q => x c A vs σ fun d σ' => match d with | .bool true => y c A vs σ' Q | .bool false => Q (.bool false) σ' | _ => False
noncomputable abbrev or (x y : VT) : VT := fun c A vs σ Q => x c A vs σ fun d σ' => match d with | .bool true => Q (.bool true) σ' | .bool false => y c A vs σ' Q | _ => False
noncomputable abbrev ife (t : BT) (a b : VT) : VT := fun c A vs σ Q => t c A vs σ fun x σ' => match x with | true => a c A vs σ' Q | false => b c A vs σ' Q
noncomputable abbrev call (f : Value) (es : LT) : VT := fun c A vs σ Q => es c A vs σ fun ds σ1 => Ac c A f ds σ1 Q
noncomputable abbrev meth (o : VT) (name : Str) (es : LT) : VT := fun c A vs σ Q => o c A vs σ fun d σ1 => GM c A name d σ1 fun f fd => es c A vs σ1 fun ds σ2 => Ac c A f (fd ++ ds) σ2 Q
noncomputable abbrev attr (o : VT) (x : Str) : VT := fun c A vs σ Q => o c A vs σ fun d σ1 => Bp c σ1 d x Q
noncomputable abbrev sub (o i : VT) : VT := fun c A vs σ Q => o c A vs σ fun od σ1 => i c A vs σ1 fun id σ2 => IT c A od id σ2 Q
noncomputable abbrev tail (o : VT) : VT := fun c A vs σ Q => o c A vs σ fun d σ1 => match d with | .tup (_ :: ds) => ds.length < 1000000 /\ Q (.tup ds) σ1 | _ => False
noncomputable abbrev listTo (o : VT) (b : Nat) : VT := fun c A vs σ Q => o c A vs σ fun d σ1 => ∃ l ds, d = .ref l /\ LAT c σ1 l ds /\ ds.length <= 1000000 /\ ∀ l' σ2, New σ1 σ2 l' (.list (ds.take b)) -> Q (.ref l') σ2
noncomputable abbrev strTo (o : VT) (b : Int) : VT := fun c A vs σ Q => o c A vs σ fun d σ1 => match d with | .str x => x.length < 1000000 /\ Q (.str (Hm x Dw (some b))) σ1 | _ => False
noncomputable abbrev tup (l : LT) : VT := fun c A vs σ Q => l c A vs σ fun ds σ' => Q (.tup ds) σ'
noncomputable abbrev list (l : LT) : VT := fun c A vs σ Q => l c A vs σ fun ds σ' => ∀ a σ'', New σ' σ'' a (.list ds) -> Q (.ref a) σ''
noncomputable abbrev dict0 : VT := fun _ _ _ σ Q => ∃ o, (o = .dictS [] ∨ o = .dictI [] ∨ o = .dictT []) /\ ∀ a σ', New σ σ' a o -> Q (.ref a) σ'
noncomputable abbrev dict2 (k1 k2 : Str) (a b : VT) : VT := fun c A vs σ Q => a c A vs σ fun x σ1 => b c A vs σ1 fun y σ2 => ∀ r σ', New σ2 σ' r (.dictS [(k1, x), (k2, y)]) -> Q (.ref r) σ'
noncomputable abbrev yes : BT := fun _ _ _ σ Q => Q true σ
noncomputable abbrev bind1 (d : D) (k : VS -> Prop) (vs : VS) : Prop := k (vs ++ [some d])
noncomputable abbrev bind2 (d : D) (k : VS -> Prop) (vs : VS) : Prop := match d with | .tup [x, y] => k (vs ++ [some x, some y]) | _ => False
noncomputable abbrev comp (bd : D -> (VS -> Prop) -> VS -> Prop) (a : VT) (t : BT) (e : VT) : VT := fun c A vs σ Q => a c A vs σ (JY bd t e c A vs Q)
noncomputable abbrev comp2 (a b e : VT) : VT := fun c A vs σ Q => a c A vs σ (Mb b e c A vs Q)
noncomputable abbrev fin : XT := fun _ _ vs σ Q => Q .next vs σ
noncomputable abbrev stop : XT := fun _ _ _ _ _ => False
noncomputable abbrev asg (i : Nat) (e : VT) (x : XT) : XT := fun c A vs σ Q => e c A vs σ fun d σ1 => x c A (put vs i d) σ1 Q
noncomputable abbrev asg2 (i j : Nat) (e : VT) (x : XT) : XT := fun c A vs σ Q => e c A vs σ fun d σ1 => match d with | .tup [a, b] => x c A (put (put vs i a) j b) σ1 Q | _ => False
noncomputable abbrev asgL (i j : Nat) (e : VT) (x : XT) : XT := fun c A vs σ Q => e c A vs σ fun d σ1 => ∃ l a b, d = .ref l /\ σ1 l = some (.list [a, b]) /\ x c A (put (put vs i a) j b) σ1 Q
noncomputable abbrev setA (o : VT) (n : Str) (e : VT) (x : XT) : XT := fun c A vs σ Q => e c A vs σ fun d σ1 => o c A vs σ1 fun t σ2 => Cq c σ2 t n d fun σ3 => x c A vs σ3 Q
noncomputable abbrev setI (o i e : VT) (x : XT) : XT := fun c A vs σ Q => e c A vs σ fun d σ1 => o c A vs σ1 fun t σ2 => i c A vs σ2 fun k σ3 => SI c A t k d σ3 fun σ4 => x c A vs σ4 Q
noncomputable abbrev expr (e : VT) (x : XT) : XT := fun c A vs σ Q => e c A vs σ fun d σ1 => match flat d with | true => x c A vs σ1 Q | false => False
noncomputable abbrev ret (e : VT) : XT := fun c A vs σ Q => e c A vs σ fun d σ1 => Q (.ret d) vs σ1
noncomputable abbrev then_ (x : XT) (c : Cx) (A : Around) (Q : AFl -> VS -> Aa -> Prop) : AFl -> VS -> Aa -> Prop := fun f vs σ => match f with | .next => x c A vs σ Q | .brk => Q .brk vs σ | .cont => Q .cont vs σ | .ret d => Q (.ret d) vs σ
noncomputable abbrev iff (t : BT) (a b x : XT) : XT := fun c A vs σ Q => t c A vs σ fun k σ1 => match k with | true => a c A vs σ1 (then_ x c A Q) | false => b c A vs σ1 (then_ x c A Q)
noncomputable abbrev while_ (t : BT) (b x : XT) : XT := fun c A vs σ Q => PP t b x c A vs σ Q
noncomputable abbrev set1 (i : Nat) (d : D) (k : VS -> Prop) (vs : VS) : Prop := k (put vs i d)
noncomputable abbrev set2 (i j : Nat) (d : D) (k : VS -> Prop) (vs : VS) : Prop := match d with | .tup [x, y] => k (put (put vs i x) j y) | _ => False
noncomputable abbrev for_ (bd : D -> (VS -> Prop) -> VS -> Prop) (a : VT) (b x : XT) : XT := fun c A vs σ Q => a c A vs σ (FOR bd b x c A vs Q)
noncomputable abbrev zip (i j : Nat) (e1 e2 : VT) (b x : XT) : XT := fun c A vs σ Q => e1 c A vs σ fun d1 σ1 => e2 c A vs σ1 fun d2 σ2 => ZIP i j b x c A vs Q d1 d2 σ2
end T
structure Aq (A : Around) (env : Env) (ns : List Str) (e : Expr) (t : VT) : Prop where
 go : ∀ c m vs σ Q, Ok c -> Bk ns vs m -> t c A vs σ Q -> EV c A env m e σ Q
structure BX (A : Around) (env : Env) (ns : List Str) (e : Expr) (t : BT) : Prop where
 go : ∀ c m vs σ Q, Ok c -> Bk ns vs m -> t c A vs σ Q -> ET c A env m e σ Q
structure EK (A : Around) (env : Env) (ns : List Str) (es : List Expr) (t : LT) : Prop where
 go : ∀ c m vs σ Q, Ok c -> Bk ns vs m -> t c A vs σ Q -> EL c A env m es σ fun ds σ' => ds.length = es.length /\ Q ds σ'
structure Hx (A : Around) (env : Env) (ns : List Str) (es : List Expr) (t : BT) : Prop where
 go : ∀ c m vs σ Q, Ok c -> Bk ns vs m -> t c A vs σ Q -> ETs c A env m es σ Q
noncomputable def XQ (ns : List Str) (Q : AFl -> VS -> Aa -> Prop) : AFl -> Au -> Aa -> Prop := fun f m σ => ∃ vs, Bk ns vs m /\ Q f vs σ
structure AG (A : Around) (env : Env) (ns : List Str) (sts : List Stmt) (t : XT) : Prop where
 go : ∀ c m vs σ Q, Ok c -> Bk ns vs m -> t c A vs σ Q -> EXs c A env m sts σ (XQ ns Q)
structure Hy (A : Around) (env : Env) (ns : List Str) (tg : Expr) (bd : D -> (VS -> Prop) -> VS -> Prop) : Prop where
 go : ∀ c m vs σ d (k : VS -> Prop) (Q : Au -> Aa -> Prop), Bk ns vs m -> bd d k vs -> (∀ vs' m', Bk ns vs' m' -> k vs' -> Q m' σ) -> EA c A env m tg d σ Q
structure Hz (A : Around) (env : Env) (ns : List Str) (tg : Expr) (bd : D -> (VS -> Prop) -> VS -> Prop) (ns' : List Str) : Prop where
 go : ∀ c m vs σ d (k : VS -> Prop) (Q : Au -> Aa -> Prop), Bk ns vs m -> bd d k vs -> (∀ vs' m', Bk ns' vs' m' -> Bk ns vs m' -> k vs' -> Q m' σ) -> EA c A env m tg d σ Q
section
variable {A : Around} {env : Env} {ns : List Str}
theorem Aq.name (i : Nat) (hi : ns[i]? = some x := by kernel_rfl) (hk : (KL env x && x != "" && x != "__debug__" && x != "__classdict__") = true := by kernel_rfl) : Aq A env ns (.Name x p) (T.v i) := by iterate 1
 exact ⟨fun c m vs σ Q O r h => by
  simp only [Cv, bne_iff_ne, ne_eq] at hk
  unfold T.v at h
  split at h
  ·exact EV.name hk.1.1.1 (r.rel i x _ hi hk.1.1.2 ‹_›) h (by simpa using hk.1.2) (by simpa using hk.2)
  ·exact h.elim⟩
theorem Aq.int : Aq A env ns (.Constant (.int i) k p) (T.int i) := ⟨fun c m vs σ Q O r h => EV.cInt h⟩
theorem Aq.str : Aq A env ns (.Constant (.str i) k p) (T.str i) := ⟨fun c m vs σ Q O r h => EV.KN h⟩
theorem Aq.bool : Aq A env ns (.Constant (.bool i) k p) (T.bool i) := ⟨fun c m vs σ Q O r h => EV.cBool h⟩
theorem Aq.none : Aq A env ns (.Constant .none k p) T.none := ⟨fun c m vs σ Q O r h => EV.cNone h⟩
theorem EK.nil  : EK A env ns [] T.nil := ⟨fun c m vs σ Q O r h => EL.nil ⟨rfl, h⟩⟩
theorem EK.cons (h1 : Aq A env ns e a) (h2 : EK A env ns es l) (hs : isStarred e = false := by kernel_rfl) : EK A env ns (e :: es) (T.cons a l) := ⟨fun c m vs σ Q O r h =>
 EL.cons ((h1.go c m vs σ _ O r h).mono fun d σ1 q => (h2.go c m vs σ1 _ O r q).mono fun ds σ2 z => ⟨congrArg (· + 1) z.1, z.2⟩) hs⟩
theorem Aq.bin (h1 : Aq A env ns l a) (h2 : Aq A env ns e b) : Aq A env ns (.BinOp l op e p) (T.bin op a b) := by iterate 1
 exact ⟨fun c m vs σ Q O r h =>
  EV.binop ((h1.go c m vs σ _ O r h).mono fun d σ1 q => h2.go c m vs σ1 _ O r q)⟩
theorem Aq.cmp (h1 : Aq A env ns l a) (h2 : Aq A env ns e b) (hm : behindInMarks op e = false := by kernel_rfl) : Aq A env ns (.Compare l [op] [e] p) (T.cmp op a b) := by iterate 1
 exact ⟨fun c m vs σ Q O r h =>
  EV.cmp ((h1.go c m vs σ _ O r h).mono fun d σ1 q => h2.go c m vs σ1 _ O r q) hm⟩
theorem Aq.neg (h1 : Aq A env ns e a) : Aq A env ns (.UnaryOp .USub e p) (T.neg a) := by iterate 1
 exact ⟨fun c m vs σ Q O r h =>
  EV.neg ((h1.go c m vs σ _ O r h).mono fun d σ1 q => by cases d <;> first | exact q.elim | exact ⟨_, rfl, q⟩)⟩
theorem BX.cmp (h1 : Aq A env ns l a) (h2 : Aq A env ns e b) (hm : behindInMarks op e = false := by kernel_rfl) : BX A env ns (.Compare l [op] [e] p) (T.tcmp op a b) := by iterate 1
 exact ⟨fun c m vs σ Q O r h =>
  ET.cmp ((h1.go c m vs σ _ O r h).mono fun d σ1 q => h2.go c m vs σ1 _ O r q) hm⟩
theorem BX.chain (h1 : Aq A env ns l a) (h2 : Aq A env ns k b) (h3 : Aq A env ns e d) (hm : behindInMarks op2 e = false := by kernel_rfl) : BX A env ns (.Compare l [op1, op2] [k, e] p) (T.chain op1 op2 a b d) := by iterate 1
 exact ⟨fun c m vs σ Q O r h =>
  ET.chain ((h1.go c m vs σ _ O r h).mono fun x σ1 q => (h2.go c m vs σ1 _ O r q).mono fun y σ2 q s va vb S ra rb => Ai (q s va vb S ra rb) (fun v s' ⟨t, σ', e, z, po⟩ => ⟨t, σ', e, by
   cases t
   ·exact z
   ·exact h3.go c m vs σ' _ O r z, po⟩) fun _ _ e => e) hm⟩
theorem BX.not (h1 : BX A env ns e t) : BX A env ns (.UnaryOp .Not e p) (T.not t) := by iterate 1
 exact ⟨fun c m vs σ Q O r h => ET.not (h1.go c m vs σ _ O r h)⟩
theorem BX.and (h1 : BX A env ns x a) (h2 : BX A env ns y b) : BX A env ns (.BoolOp .And [x, y] p) (T.andT a b) := by iterate 1
 exact ⟨fun c m vs σ Q O r h =>
  ET.and ((h1.go c m vs σ _ O r h).mono fun t σ1 q => by
   cases t
   ·exact q
   ·exact h2.go c m vs σ1 _ O r q)⟩
theorem BX.or (h1 : BX A env ns x a) (h2 : BX A env ns y b) : BX A env ns (.BoolOp .Or [x, y] p) (T.orT a b) := by iterate 1
 exact ⟨fun c m vs σ Q O r h =>
  ET.or ((h1.go c m vs σ _ O r h).mono fun t σ1 q => by
   cases t
   ·exact h2.go c m vs σ1 _ O r q
   ·exact q)⟩
theorem BX.val (h1 : Aq A env ns e a) (he : isTrue e env (eval e env) = (do let v <- eval e env; PySem.standAt e.pos; PySem.holding [v] (truthy v)) := by kernel_rfl) : BX A env ns e (T.val a) := by iterate 1
 exact ⟨fun c m vs σ Q O r h =>
  ET.val ((h1.go c m vs σ _ O r h).mono fun d σ1 q => by cases d <;> first | exact q.elim | exact ⟨_, rfl, q⟩) he⟩
theorem Aq.and (h1 : Aq A env ns x a) (h2 : Aq A env ns y b) : Aq A env ns (.BoolOp .And [x, y] p) (T.and a b) := by iterate 1
 exact ⟨fun c m vs σ Q O r h =>
  EV.and ((h1.go c m vs σ _ O r h).mono fun d σ1 q => by
   cases d <;> first | exact q.elim | skip
   rename_i k
   refine ⟨k, rfl, ?_⟩
   cases k
   ·exact q
   ·exact h2.go c m vs σ1 _ O r q)⟩
theorem Aq.ife (h1 : BX A env ns t x) (h2 : Aq A env ns b a) (h3 : Aq A env ns o e) : Aq A env ns (.IfExp t b o p) (T.ife x a e) := by iterate 1
 exact ⟨fun c m vs σ Q O r h =>
  EV.ife ((h1.go c m vs σ _ O r h).mono fun k σ1 q => by
   cases k
   ·exact h3.go c m vs σ1 _ O r q
   ·exact h2.go c m vs σ1 _ O r q)⟩
theorem Aq.call {x : Str} {np p : Pos} {es : List Expr} {f : Value} {l : LT} (hg : ∀ {c : Cx}, Ok c -> Bj c x f /\ Aw c f) (h1 : EK A env ns es l) (hl : env.kindOf x = some .globalImplicit := by kernel_rfl) (hs : es.all (fun e => !isStarred e) = true := by kernel_rfl) (hd : (x == ("__debug__" : Str)) = false := by decide) : Aq A env ns (.Call (.Name x np) es [] p) (T.call f l) := by iterate 1
 exact ⟨fun c m vs σ Q O r h =>
  EV.callG O.X (hg O).1 hl (hg O).2 ((h1.go c m vs σ _ O r h).mono fun ds σ1 q => q.2) hs hd⟩
theorem GM.mono {K K' : Value -> List D -> Prop} (h : GM c A name d σ K) (k : ∀ f fd, K f fd -> K' f fd) : GM c A name d σ K' := by iterate 1
 exact fun s v pl S r =>
  Ai (h s v pl S r) (fun fx s' ⟨e, fd, k1, k2, k3⟩ => ⟨e, fd, k1, k2, k _ _ k3⟩) fun _ _ e => e
theorem Aq.meth {name : Str} (h1 : Aq A env ns o a) (h2 : EK A env ns es l) (hline : (ap.endLine == p.line) = true := by kernel_rfl) (hs : (es.all (fun e => !isStarred e) && decide (es.length < 30)) = true := by kernel_rfl) (hb : attributeBase o name env (eval o env) = eval o env := by kernel_rfl) : Aq A env ns (.Call (.Attribute o name ap) es [] p) (T.meth a name l) := by iterate 1
 exact ⟨fun c m vs σ Q O r h =>
  EV.RD ((h1.go c m vs σ _ O r h).mono fun d σ1 q => GM.mono q fun f fd z => (h2.go c m vs σ1 _ O r z).mono fun ds σ2 y => y.2) hline hs hb⟩
theorem Aq.attr (h₁ : Aq A env ns o a) (hb : attributeBase o x env (eval o env) = eval o env := by kernel_rfl) : Aq A env ns (.Attribute o x p) (T.attr a x) := by iterate 1
 exact ⟨fun c m vs σ Q O r h =>
  EV.attr O.X ((h₁.go c m vs σ _ O r h).mono fun d σ1 ⟨a, cl, dd, es, r, h1, h2, h3, h4, h5, q⟩ => ⟨a, cl, dd, es, r, h1, h2, h3, h4, h5.g, h5.d, h5.f, q⟩) hb⟩
theorem Aq.sub (h1 : Aq A env ns o a) (h2 : Aq A env ns i b) (hs : ∀ x y, subscripted i false x y = operate [x, y] (getItem x y) := by intro _ _; kernel_rfl) : Aq A env ns (.Subscript o i p) (T.sub a b) := by iterate 1
 exact ⟨fun c m vs σ Q O r h =>
  EV.sub ((h1.go c m vs σ _ O r h).mono fun d σ1 q => h2.go c m vs σ1 _ O r q) hs⟩
theorem Aq.tail (h1 : Aq A env ns o a) : Aq A env ns (.Subscript o (.Slice (some (.Constant (.int 1) k p)) Dw Dw p') q') (T.tail a) := by iterate 1
 exact ⟨fun c m vs σ Q O r h =>
  EV.RN (a := 1) (Az 1) ((h1.go c m vs σ _ O r h).mono fun d σ1 q => by
   match d, q with
   | .tup (x :: ds), q => exact ⟨_, rfl, Fn (BC _), q.1, q.2⟩)⟩
theorem LAT.is (S : Sim c σ s) (h : LAT c σ l ds) : ∃ vs : List Value, Ak c.bad s.heap vs ds /\ s.heap.IsList l vs.toArray := by iterate 1
 rcases h with h | ⟨vs, h, r⟩
 ·obtain ⟨vs, n, ho, r, hl⟩ := BF S h
  exact ⟨vs, r, hl⟩
 ·obtain ⟨o, ho, q⟩ := h
  exact ⟨vs, r _ _, o, S.keep _ o ho, q⟩
theorem EV.U9 {b : Nat} {k : Nat} (h : EV c A env m value σ fun o σ1 => ∃ l ds, o = .ref l /\ LAT c σ1 l ds /\ ds.length <= 1000000 /\ ∀ l', σ1 l' = none -> Q (.ref l') (σ1.set l' (.list (ds.take b)))) :
   EV c A env m (.Subscript value (.Slice none (some (.Constant (.int b) k p)) none p') pos) σ Q := by iterate 1
 exact fun s X => by
  refine Subscript_ (Ai (h s X) (fun vo s1 ⟨o, σ1, ⟨l, ds, e, h1, h2, q⟩, P, r⟩ => NA ?_) fun _ _ e => e)
  subst e
  cases r
  obtain ⟨vs, r, hl⟩ := LAT.is P.1 h1
  have hlen := r.length
  have P1 : Ah c σ1 s1 σ1 { s1 with heap := s1.heap.push { cls := .type "slice", data := .fields #[.none, .int b s1.toks, .none] }, toks := s1.toks + 1 } := Ah.push P.1 _ _
  have hl' := hl.push { cls := .type "slice", data := .fields #[.none, .int b s1.toks, .none] }
  refine tail_any (s := { s1 with heap := s1.heap.push { cls := .type "slice", data := .fields #[.none, .int b s1.toks, .none] }, toks := s1.toks + 1 }) (Heap.IsList.typeIs (s := { s1 with heap := s1.heap.push { cls := .type "slice", data := .fields #[.none, .int b s1.toks, .none] }, toks := s1.toks + 1 }) hl') Nz.lookup
   (wpAny_getItem_list_slice hl' (RO ..) .none (.int _ _) .none (by simp) ?_ (by rw [BA]; simp; omega)) (ops := [_, _]) rfl
  rw [RP]
  have P2 := Ah.EC P1.1 (Ct (vs.take b) 0) (s1.toks + 1) (o := .list (ds.take b)) ⟨_, 0, AR _ rfl, ((r.take b).mono fun _ _ _ e => AA _ (AA _ e))⟩
  exact ⟨_, _, q _ P1.1.fresh, (P.trans P1).trans P2, .ref _⟩
theorem Aq.listTo {b k : Nat} (h₁ : Aq A env ns o a) : Aq A env ns (.Subscript o (.Slice Dw (some (.Constant (.int b) k p)) Dw p') q') (T.listTo a b) := by iterate 1
 exact ⟨fun c m vs σ Q O r h =>
  EV.U9 ((h₁.go c m vs σ _ O r h).mono fun d σ1 ⟨l, ds, h1, h2, h3, q⟩ => ⟨l, ds, h1, h2, h3, fun l' n => q l' _ (New.set _ n)⟩)⟩
theorem Aq.strTo (h1 : Aq A env ns o a) : Aq A env ns (.Subscript o (.Slice Dw (some (.Constant (.int b) k p)) Dw p') q') (T.strTo a b) := by iterate 1
 exact ⟨fun c m vs σ Q O r h =>
  EV.strTo ((h1.go c m vs σ _ O r h).mono fun d σ1 q => by cases d <;> first | exact q.elim | exact ⟨_, rfl, q.1, q.2⟩)⟩
theorem Aq.tup (h1 : EK A env ns es l) (hn : Nat.ble es.length 1000000 = true := by kernel_rfl) : Aq A env ns (.Tuple es k p) (T.tup l) := by iterate 1
 exact ⟨fun c m vs σ Q O r h =>
  EV.tuple ((h1.go c m vs σ _ O r h).mono fun ds σ1 q => ⟨q.1 ▸ DR hn, q.2⟩)⟩
theorem Aq.list (h1 : EK A env ns es l) (hn : Nat.ble es.length 1000000 = true := by kernel_rfl) : Aq A env ns (.List es p) (T.list l) := by iterate 1
 exact ⟨fun c m vs σ Q O r h =>
  EV.list ((h1.go c m vs σ _ O r h).mono fun ds σ1 q => ⟨q.1 ▸ DR hn, fun a n => q.2 a _ (New.set _ n)⟩)⟩
theorem Aq.dict0 : Aq A env ns (.Dict [] [] p) T.dict0 := by iterate 1
 exact ⟨fun c m vs σ Q O r ⟨o, ho, q⟩ => EV.dict0 o ho fun l n => q l _ (New.set _ n)⟩
theorem Aq.dict2 (h1 : Aq A env ns v1 a) (h2 : Aq A env ns v2 b) (hne : (k1 != k2) = true := by kernel_rfl) :
  Aq A env ns (.Dict [some (.Constant (.str k1) i1 p1), some (.Constant (.str k2) i2 p2)] [v1, v2] p) (T.dict2 k1 k2 a b) := ⟨fun c m vs σ Q O r h =>
 EV.dict2 (by simpa using hne) ((h1.go c m vs σ _ O r h).mono fun x σ1 q => (h2.go c m vs σ1 _ O r q).mono fun y σ2 z l n => z l _ (New.set _ n))⟩
theorem Hx.yes  : Hx A env ns [] T.yes := ⟨fun c m vs σ Q O r h => h⟩
theorem Hx.one (h1 : BX A env ns e t) : Hx A env ns [e] t := by iterate 1
 exact ⟨fun c m vs σ Q O r h => h1.go c m vs σ Q O r h⟩
end
theorem PQ (h : (scope.names.lookup x != some .local) = true) : ∀ {m : Au}, m.lookup x = some d -> (DL scope m).lookup x = some d
 | [], hm => by cases hm
 | (y, e) :: m, hm => by iterate 1
  have ih := PQ (d := d) h (m := m)
  unfold DL at ih ⊢
  rw [AY] at hm
  rw [GA]
  cases hb : x == y with
  | true =>
   rw [hb] at hm
   rw [if_pos (show (scope.names.lookup y != some .local) = true by rw [<- DX hb]; exact h), AY, hb]
   exact hm
  | false =>
   rw [hb] at hm
   split
   ·rw [AY, hb]; exact ih hm
   ·exact ih hm
noncomputable def blank (scope : Scope) (ns : List Str) : List Str := ns.map fun x => if scope.names.lookup x == some .local then "" else x
theorem Bk.blank (scope : Scope) (r : Bk ns vs m) : Bk (blank scope ns) vs (DL scope m) := by iterate 1
 exact ⟨r.len.trans (Am _).symm, fun i x d hi hx hd => by
  unfold Mine.blank at hi
  rw [Bs, Dl] at hi
  obtain ⟨y, hy, rfl⟩ := hi
  cases q : scope.names.lookup y == some .local with
  | true => rw [if_pos q] at hx; exact absurd rfl hx
  | false =>
   rw [q] at hx
   show List.lookup y _ = _
   exact PQ (by rw [bne, q]; rfl) (r.rel i y d hy hx hd)⟩
theorem Bk.skip (d : D) (h : ns.all (· != x) = true) (r : Bk ns vs m) : Bk ns vs ((x, d) :: m) := by iterate 1
 exact ⟨r.len, fun i y e hi hy he => by
  rw [DJ (by simpa using D0.mp h y (AX hi))]
  exact r.rel i y e hi hy he⟩
theorem PR : ∀ {vs : VS} {i : Nat}, at_ (vs ++ [d]) i = if i < vs.length then at_ vs i else if i = vs.length then d else none
 | [], 0 => rfl
 | [], i + 1 => rfl
 | x :: r, 0 => rfl
 | x :: r, i + 1 => by iterate 1
  show at_ (r ++ [d]) i = _
  rw [PR (vs := r)]
  simp only [CE, Nat.add_lt_add_iff_right, Nat.add_right_cancel_iff]
theorem Bk.snoc (d : D) (h : ns.all (· != x) = true) (r : Bk ns vs m) : Bk (ns ++ [x]) (vs ++ [some d]) ((x, d) :: m) := by iterate 1
 exact ⟨by rw [AD, AD, r.len]; rfl, fun i y e hi hy he => by
  rw [PR] at he
  by_cases q : i < vs.length
  ·rw [if_pos q] at he
   rw [CQ (r.len ▸ q)] at hi
   exact (r.skip d h).rel i y e hi hy he
  ·rw [if_neg q] at he
   by_cases z : i = vs.length
   ·rw [if_pos z] at he; cases he
    rw [z, r.len, C8 (Az _), Fj] at hi
    cases hi
    rw [AY, beq_self_eq_true]
   ·rw [if_neg z] at he; cases he⟩
section
variable {A : Around} {env : Env} {ns : List Str}
theorem Hz.one (hk : Bi env x = true := by kernel_rfl) (h : ns.all (· != x) = true := by kernel_rfl) : Hz A env ns (.Name x p) T.bind1 (ns ++ [x]) := ⟨fun c m vs σ d k Q r b q => EA.name hk (q _ _ (r.snoc d h) (r.skip d h) b)⟩
theorem Hz.two (hh : A.handled = none) (hx : Bi env x = true := by kernel_rfl) (hy : Bi env y = true := by kernel_rfl) (h : ns.all (· != x) = true := by kernel_rfl) (h' : (ns ++ [x]).all (· != y) = true := by kernel_rfl) : Hz A env ns (.Tuple [.Name x px, .Name y py] k p) T.bind2 (ns ++ [x] ++ [y]) := by iterate 1
 exact ⟨fun c m vs σ d k Q r b q => by
  have hn : ns.all (· != y) = true := by rw [List.all_append, Cv] at h'; exact h'.1
  match d, b with
  | .tup [a, e], b => exact EA.IC hh hx hy (q (vs ++ [some a] ++ [some e]) _ ((r.snoc a h).snoc e h') ((r.skip a h).skip e hn) (by rw [Dg]; exact b))⟩
theorem Hy.one (i : Nat) (hs : Cj ns i x = true := by kernel_rfl) (hk : Bi env x = true := by kernel_rfl) : Hy A env ns (.Name x p) (T.set1 i) := ⟨fun c m vs σ d k Q r b q => EA.name hk (q _ _ (r.put d hs) b)⟩
theorem Hy.two (i j : Nat) (hh : A.handled = none) (hs : Cj ns i x = true := by kernel_rfl) (hs' : Cj ns j y = true := by kernel_rfl) (hx : Bi env x = true := by kernel_rfl) (hy : Bi env y = true := by kernel_rfl) : Hy A env ns (.Tuple [.Name x px, .Name y py] k p) (T.set2 i j) := by iterate 1
 exact ⟨fun c m vs σ d k Q r b q => by
  match d, b with
  | .tup [a, e], b => exact EA.IC hh hx hy (q _ _ ((r.put a hs).put e hs') b)⟩
theorem EIT.mono (h : EIT c A tg env m e σ Q) (k : ∀ ds H σ', Q ds H σ' -> Q' ds H σ') : EIT c A tg env m e σ Q' := by iterate 1
 exact fun s X =>
  Ai (h s X) (fun v s1 h1 => Ai h1 (fun it s' ⟨I, fp, St, Mid, ds, H, σ', q, z⟩ => ⟨I, fp, St, Mid, ds, H, σ', k _ _ _ q, z⟩) fun _ _ e => e) fun _ _ e => e
theorem EL.monoT {Q Q' : Bool -> Aa -> Prop} (h : ETs c A env m ts σ Q) (k : ∀ b σ', Q b σ' -> Q' b σ') : ETs c A env m ts σ Q' := by iterate 1
 match ts, h with
 | [], h => exact k _ _ h
 | [t], h => exact ET.mono h k
 | _ :: _ :: _, h => exact h
noncomputable def Comp1 (c : Cx) (A : Around) (env : Env) (m : Au) (σ : Aa) (elt tg iter : Expr) (ifs : List Expr) (scope : Scope) (Q : Addr -> Aa -> Prop) : Prop :=
 EIT c A tg env m iter σ fun ds Hold σ1 => ∃ Inv : Nat -> List D -> Au -> Aa -> Prop, Inv 0 [] (DL scope m) σ1 /\ (∀ i acc m' σ', Inv i acc m' σ' -> Hold σ') /\
  (∀ L i d acc m' σ', Inv i acc m' σ' -> ds[i]? = some d -> EA c A (A0 scope env L) m' tg d σ' fun m2 σ2 => ETs c A (A0 scope env L) m2 ifs σ2 fun ok σ3 =>
   if ok = true then EV c A (A0 scope env L) m2 elt σ3 fun d' σ4 => acc.length <= 1000000 /\ Inv (i + 1) (acc ++ [d']) m2 σ4 else Inv (i + 1) acc m2 σ3) /\
  (∀ acc m' σ' a, Inv ds.length acc m' σ' -> σ' a = none -> Q a (σ'.set a (.list acc)))
structure JZ (A : Around) (env : Env) (ns : List Str) (elt tg iter : Expr) (ifs : List Expr) (scope : Scope) (bd : D -> (VS -> Prop) -> VS -> Prop) (it : VT) (t : BT) (e : VT) (ns' : List Str) : Prop where
 hi : Aq A env ns iter it
 hb : ∀ L, Hz A (A0 scope env L) (blank scope ns) tg bd ns'
 ht : ∀ L, Hx A (A0 scope env L) ns' ifs t
 he : ∀ L, Aq A (A0 scope env L) ns' elt e
theorem JZ.go {elt tg iter : Expr} {ifs : List Expr} {scope : Scope} {bd : D -> (VS -> Prop) -> VS -> Prop} {it : VT} {t : BT} {e : VT} {ns' : List Str} (S : JZ A env ns elt tg iter ifs scope bd it t e ns') {c : Cx} {m : Au} {vs : VS} {σ : Aa} {Q : D -> Aa -> Prop} (O : Ok c) (r : Bk ns vs m) (h : T.comp bd it t e c A vs σ Q) : Comp1 c A env m σ elt tg iter ifs scope fun a σ' => Q (.ref a) σ' := by iterate 1
 exact
  EIT.of <| (S.hi.go c m vs σ _ O r h).mono fun _ σ1 ⟨ds, H, hI, Inv, h0, hold, step, fin⟩ =>
   ⟨ds, H, hI tg, fun i acc m' σ' => Bk (blank scope ns) vs m' /\ Inv i acc σ', ⟨r.blank scope, h0⟩, fun i acc m' σ' x => hold i acc σ' x.2, fun L i d acc m' σ' x hd =>
    (S.hb L).go c m' vs σ' d _ _ x.1 (step i d acc σ' x.2 hd) fun vs' m2 r' r0 k => EL.monoT ((S.ht L).go c m2 vs' σ' _ O r' k) fun ok σ3 q => by
     cases ok
     ·exact ⟨r0, q⟩
     ·exact ((S.he L).go c m2 vs' σ3 _ O r' q).mono fun d' σ4 z => ⟨z.1, r0, z.2⟩,
   fun acc m' σ' a x n => fin acc σ' x.2 a _ (New.set _ n)⟩
theorem Aq.comp {elt tg iter : Expr} {ifs : List Expr} {scope : Scope} {p : Pos} {bd : D -> (VS -> Prop) -> VS -> Prop} {it : VT} {t : BT} {e : VT} {ns' : List Str} (S : JZ A env ns elt tg iter ifs scope bd it t e ns') (hok : Ei env scope = true := by kernel_rfl) (hs : ∀ x, foldedSetIterable iter env x = pure x := by intro _; kernel_rfl) : Aq A env ns (.ListComp elt [⟨tg, iter, ifs, 0⟩] scope p) (T.comp bd it t e) := ⟨fun c m vs σ Q O r h =>
 EV.comp1 hok (S.go O r h) hs⟩
structure J0 (A : Around) (env : Env) (ns : List Str) (elt : Expr) (x y : Str) (px py : Pos) (iter iter' : Expr) (scope : Scope) (i1 i2 : VT) (e : VT) : Prop where
 hi : Aq A env ns iter i1
 hx : ∀ L, Bi (A0 scope env L) x = true
 hy : ∀ L, Bi (A0 scope env L) y = true
 nx : (blank scope ns).all (· != x) = true
 ny : (blank scope ns ++ [x]).all (· != y) = true
 hi' : ∀ L, Aq A (A0 scope env L) (blank scope ns ++ [x]) iter' i2
 he : ∀ L, Aq A (A0 scope env L) (blank scope ns ++ [x] ++ [y]) elt e
theorem J0.go {elt : Expr} {x y : Str} {px py : Pos} {iter iter' : Expr} {scope : Scope} {i1 i2 : VT} {e : VT} (S : J0 A env ns elt x y px py iter iter' scope i1 i2 e) {c : Cx} {m : Au} {vs : VS} {σ : Aa} {Q : D -> Aa -> Prop} (O : Ok c) (r : Bk ns vs m) (h : T.comp2 i1 i2 e c A vs σ Q) :
  Ld c A env m σ elt (.Name x px) iter (.Name y py) iter' [] [] scope fun a σ' => Q (.ref a) σ' := by iterate 1
 have ny := S.ny
 rw [List.all_append, Cv] at ny
 exact EIT.of <| (S.hi.go c m vs σ _ O r h).mono fun _ σ1 ⟨ds, H, hI, Inv, h0, hold, step, fin⟩ =>
  ⟨ds, H, hI (.Name x px), fun i acc m' σ' => Bk (blank scope ns) vs m' /\ Inv i acc σ', ⟨r.blank scope, h0⟩, fun i acc m' σ' x => hold i acc σ' x.2, fun L i d acc m' σ' z hd =>
   EA.name (S.hx L) <| EIT.of <| ((S.hi' L).go c _ _ σ' _ O (z.1.snoc d S.nx) (step i d acc σ' z.2 hd)).mono fun _ σ2 ⟨ds', H', hI', Inv', h0', hold', step', fin'⟩ =>
    ⟨ds', H', hI' (.Name y py), fun j acc m' σ' => (Bk (blank scope ns ++ [x]) (vs ++ [some d]) m' /\ Bk (blank scope ns) vs m') /\ Inv' j acc σ', ⟨⟨z.1.snoc d S.nx, z.1.skip d S.nx⟩, h0'⟩, fun j acc m' σ' x => hold' j acc σ' x.2, fun j d' acc m' σ' x hd' =>
     EA.name (S.hy L) (((S.he L).go c _ (vs ++ [some d] ++ [some d']) σ' (fun u σ4 => acc.length <= 1000000 /\ Inv' (j + 1) (acc ++ [u]) σ4) O (x.1.1.snoc d' S.ny) (by rw [Dg]; exact step' j d' acc σ' x.2 hd')).mono fun u σ4 q => ⟨q.1, ⟨x.1.1.skip d' S.ny, x.1.2.skip d' ny.1⟩, q.2⟩),
    fun acc m' σ' x => ⟨x.1.2, fin' acc σ' x.2⟩⟩,
  fun acc m' σ' a x n => fin acc σ' x.2 a _ (New.set _ n)⟩
theorem Aq.comp2 (S : J0 A env ns elt x y px py iter iter' scope i1 i2 e) (hok : Ei env scope = true := by kernel_rfl) (hs : ∀ x, foldedSetIterable iter env x = pure x := by intro _; kernel_rfl) (hs' : ∀ L x, foldedSetIterable iter' (A0 scope env L) x = pure x := by intro _ _; kernel_rfl) :
 Aq A env ns (.ListComp elt [⟨.Name x px, iter, [], 0⟩, ⟨.Name y py, iter', [], 0⟩] scope p) (T.comp2 i1 i2 e) := ⟨fun c m vs σ Q O r h => EV.comp2 hok (S.go O r h) hs hs'⟩
section
variable {rest : List Stmt} {tr : XT}
theorem AG.nil  : AG A env ns [] T.fin := ⟨fun c m vs σ Q O r h => EXs.nil ⟨vs, r, h⟩⟩
theorem AG.asg (i : Nat) (he : Aq A env ns e te) (hr : AG A env ns rest tr) (hs : Cj ns i x = true := by kernel_rfl) (hk : Bi env x = true := by kernel_rfl) (hw : swapsWith e (some (.Name x p')) p.line env = pure false := by kernel_rfl) : AG A env ns (.Assign [.Name x p'] e p :: rest) (T.asg i te tr) := by iterate 1
 exact ⟨fun c m vs σ Q O r h =>
  EXs.cons (EX.assign hk ((he.go c m vs σ _ O r h).mono fun d σ1 q => hr.go c _ _ σ1 Q O (r.put d hs) q) hw)⟩
theorem AG.asgC {x : Str} {elt tg iter : Expr} {ifs : List Expr} {scope : Scope} {p1 p' p : Pos} {bd : D -> (VS -> Prop) -> VS -> Prop} {it : VT} {t : BT} {e : VT} {ns' : List Str} (i : Nat) (S : JZ A env ns elt tg iter ifs scope bd it t e ns') (hr : AG A env ns rest tr) (hs : Cj ns i x = true := by kernel_rfl) (hk : Bi env x = true := by kernel_rfl) (hok : Ei env scope = true := by kernel_rfl) (hw : swapsWith (.ListComp elt [⟨tg, iter, ifs, 0⟩] scope p1) (some (.Name x p')) p.line env = pure true := by kernel_rfl) (hf : ∀ x, foldedSetIterable iter env x = pure x := by intro _; kernel_rfl) : AG A env ns (.Assign [.Name x p'] (.ListComp elt [⟨tg, iter, ifs, 0⟩] scope p1) p :: rest) (T.asg i (T.comp bd it t e) tr) := by iterate 1
 exact ⟨fun c m vs σ Q O r h =>
  EXs.cons (EX.comp1 hok hk ((S.go O r h).mono fun ds H σ1 ⟨Inv, h0, hold, step, fin⟩ => ⟨Inv, h0, hold, step, fun acc m' σ' a x n => hr.go c _ _ _ Q O (r.put (.ref a) hs) (fin acc m' σ' a x n)⟩) hw hf)⟩
theorem AG.asgC2 (i : Nat) (S : J0 A env ns elt x y px py iter iter' scope i1 i2 e) (hr : AG A env ns rest tr) (hs : Cj ns i z = true := by kernel_rfl) (hk : Bi env z = true := by kernel_rfl) (hok : Ei env scope = true := by kernel_rfl) (hw : swapsWith (.ListComp elt [⟨.Name x px, iter, [], 0⟩, ⟨.Name y py, iter', [], 0⟩] scope p1) (some (.Name z p')) p.line env = pure true := by kernel_rfl) (hf : ∀ x, foldedSetIterable iter env x = pure x := by intro _; kernel_rfl) (hf' : ∀ L x, foldedSetIterable iter' (A0 scope env L) x = pure x := by intro _ _; kernel_rfl) :
   AG A env ns (.Assign [.Name z p'] (.ListComp elt [⟨.Name x px, iter, [], 0⟩, ⟨.Name y py, iter', [], 0⟩] scope p1) p :: rest) (T.asg i (T.comp2 i1 i2 e) tr) := by iterate 1
 exact ⟨fun c m vs σ Q O r h =>
  EXs.cons (EX.comp2 hok hk ((S.go O r h).mono fun ds H σ1 ⟨Inv, h0, hold, step, fin⟩ => ⟨Inv, h0, hold, step, fun acc m' σ' a x n => hr.go c _ _ _ Q O (r.put (.ref a) hs) (fin acc m' σ' a x n)⟩) hw hf hf')⟩
theorem AG.asg2 (i j : Nat) (hh : A.handled = none) (he : Aq A env ns e te) (hr : AG A env ns rest tr) (hi : Cj ns i x = true := by kernel_rfl) (hj : Cj ns j y = true := by kernel_rfl) (hx : Bi env x = true := by kernel_rfl) (hy : Bi env y = true := by kernel_rfl) (hs : swapsWithSole [.Tuple [.Name x px, .Name y py] k tp] e p.line env = pure false := by kernel_rfl) (hw : swappedStores [.Tuple [.Name x px, .Name y py] k tp] e env = pure none := by kernel_rfl) :
   AG A env ns (.Assign [.Tuple [.Name x px, .Name y py] k tp] e p :: rest) (T.asg2 i j te tr) := by iterate 1
 exact ⟨fun c m vs σ Q O r h =>
  EXs.cons (EX.R6 hh hx hy ((he.go c m vs σ _ O r h).mono fun d σ1 q => by
   match d, q with
   | .tup [a, b], q => exact ⟨a, b, rfl, hr.go c _ _ σ1 Q O ((r.put a hi).put b hj) q⟩) hs hw)⟩
theorem AG.asg2s (i j : Nat) (hh : A.handled = none) (he : Aq A env ns e te) (hr : AG A env ns rest tr) (hi : Cj ns i x = true := by kernel_rfl) (hj : Cj ns j y = true := by kernel_rfl) (hij : i ≠ j := by decide) (hx : Bi env x = true := by kernel_rfl) (hy : Bi env y = true := by kernel_rfl) (hw : swappedStores [.Tuple [.Name x px, .Name y py] k tp] e env = pure (some [x, y]) := by kernel_rfl) (hs : swapsWithSole [.Tuple [.Name x px, .Name y py] k tp] e p.line env = pure false := by kernel_rfl) :
  AG A env ns (.Assign [.Tuple [.Name x px, .Name y py] k tp] e p :: rest) (T.asg2 i j te tr) := ⟨fun c m vs σ Q O r h =>
 EXs.cons (EX.R7 hh hx hy ((he.go c m vs σ _ O r h).mono fun d σ1 q => by
  match d, q with
  | .tup [a, b], q =>
   refine ⟨a, b, rfl, hr.go c _ _ σ1 Q O ⟨((r.put a hi).put b hj).len, fun l z u hl hz hu => ?_⟩ q⟩
   have := ((r.put a hi).put b hj).rel l z u hl hz hu
   by_cases e1 : z = x
   ·have e2 : x ≠ y := fun e => hij (by
     have h1 := PO hi
     rw [e] at h1
     refine Va fun ne => ?_
     exact PN hj h1 ne rfl)
    rw [e1, DJ e2, AY, beq_self_eq_true] at this
    rw [e1, AY, beq_self_eq_true]; exact this
   ·rw [DJ e1]
    by_cases e2 : z = y
    ·rw [e2, AY, beq_self_eq_true] at this ⊢; exact this
    ·rw [DJ e2, DJ e1] at this
     rw [DJ e2]; exact this) hs hw)⟩
theorem AG.asgL (i j : Nat) (hh : A.handled = none) (he : Aq A env ns e te) (hr : AG A env ns rest tr) (hi : Cj ns i x = true := by kernel_rfl) (hj : Cj ns j y = true := by kernel_rfl) (hx : Bi env x = true := by kernel_rfl) (hy : Bi env y = true := by kernel_rfl) (hs : swapsWithSole [.Tuple [.Name x px, .Name y py] k tp] e p.line env = pure false := by kernel_rfl) (hw : swappedStores [.Tuple [.Name x px, .Name y py] k tp] e env = pure none := by kernel_rfl) :
   AG A env ns (.Assign [.Tuple [.Name x px, .Name y py] k tp] e p :: rest) (T.asgL i j te tr) := by iterate 1
 exact ⟨fun c m vs σ Q O r h =>
  EXs.cons (EX.R8 hh hx hy ((he.go c m vs σ _ O r h).mono fun d σ1 ⟨l, a, b, h1, h2, q⟩ => ⟨l, a, b, h1, h2, hr.go c _ _ σ1 Q O ((r.put a hi).put b hj) q⟩) hs hw)⟩
theorem AG.setA (ho : Aq A env ns o to) (he : Aq A env ns e te) (hr : AG A env ns rest tr) (hw : swapsWith e (some (.Attribute o n p')) p.line env = pure false := by kernel_rfl) :
   AG A env ns (.Assign [.Attribute o n p'] e p :: rest) (T.setA to n te tr) := by iterate 1
 exact ⟨fun c m vs σ Q O r h =>
  EXs.cons (EX.RG O.X ((he.go c m vs σ _ O r h).mono fun d σ1 q => (ho.go c m vs σ1 _ O r q).mono fun t σ2 ⟨a, cl, dd, es, h1, h2, h3, h4, h5, q⟩ => ⟨a, cl, dd, es, h1, h2, h3, h4.s, h4.o, h4.t, h4.d, h5, hr.go c m vs _ Q O r (q _ (Upd.set ..))⟩) hw)⟩
theorem AG.setI (ho : Aq A env ns o to) (hi : Aq A env ns i ti) (he : Aq A env ns e te) (hr : AG A env ns rest tr) (hw : swapsWith e (some (.Subscript o i p')) p.line env = pure false := by kernel_rfl) :
   AG A env ns (.Assign [.Subscript o i p'] e p :: rest) (T.setI to ti te tr) := by iterate 1
 exact ⟨fun c m vs σ Q O r h =>
  EXs.cons (EX.setItem ((he.go c m vs σ _ O r h).mono fun d σ1 q => (ho.go c m vs σ1 _ O r q).mono fun t σ2 q => (hi.go c m vs σ2 _ O r q).mono fun k σ3 q s vo vi v S r1 r2 r3 =>
   Ai (q s vo vi v S r1 r2 r3) (fun _ s' ⟨σ', z, po⟩ => ⟨σ', hr.go c m vs σ' Q O r z, po⟩) fun _ _ e => e) hw)⟩
theorem AG.expr (he : Aq A env ns e te) (hr : AG A env ns rest tr) (hw : swapsWith e Dw p.line env = pure false := by kernel_rfl) : AG A env ns (.Expr e p :: rest) (T.expr te tr) := by iterate 1
 exact ⟨fun c m vs σ Q O r h =>
  EXs.cons (EX.expr ((he.go c m vs σ _ O r h).mono fun d σ1 q => by
   cases d <;> first | exact q.elim | exact ⟨fun _ => D.noConfusion, fun _ => D.noConfusion, hr.go c m vs σ1 Q O r q⟩) hw)⟩
theorem AG.ret (he : Aq A env ns e te) : AG A env ns (.Return (some e) p :: rest) (T.ret te) := ⟨fun c m vs σ Q O r h =>
 EXs.cons (EX.ret ((he.go c m vs σ _ O r h).mono fun d σ1 q => ⟨vs, r, q⟩))⟩
theorem AG.stop  : AG A env ns rest T.stop := ⟨fun c m vs σ Q O r h => h.elim⟩
theorem PS (hr : AG A env ns rest tr) (O : Ok c) : ∀ (f : AFl) (m : Au) (σ : Aa), XQ ns (T.then_ tr c A Q) f m σ -> match f with | .next => EXs c A env m rest σ (XQ ns Q) | f => XQ ns Q f m σ := by iterate 1
 exact fun f m σ h => by
  obtain ⟨vs, r, q⟩ := h
  cases f
  ·exact hr.go c m vs σ Q O r q
  ·exact ⟨vs, r, q⟩
  ·exact ⟨vs, r, q⟩
  ·exact ⟨vs, r, q⟩
theorem AG.iff (ht : BX A env ns t tt) (ha : AG A env ns a ta) (hb : AG A env ns b tb) (hr : AG A env ns rest tr) : AG A env ns (.If t a b p :: rest) (T.iff tt ta tb tr) := by iterate 1
 exact ⟨fun c m vs σ Q O r h =>
  EXs.cons (EX.iff ((ht.go c m vs σ _ O r h).mono fun k σ1 q => by
   cases k
   ·exact (hb.go c m vs σ1 _ O r q).mono (PS hr O)
   ·exact (ha.go c m vs σ1 _ O r q).mono (PS hr O)))⟩
theorem AG.while (ht : BX A env ns t tt) (hb : AG A env ns b tb) (hr : AG A env ns rest tr) : AG A env ns (.While t b [] p :: rest) (T.while_ tt tb tr) := by iterate 1
 exact ⟨fun c m vs σ Q O r ⟨Inv, n, h0, step⟩ =>
  EXs.cons (EX.while (fun n m' σ' => ∃ vs', Bk ns vs' m' /\ Inv n vs' σ') n ⟨vs, r, h0⟩ fun n m' σ' ⟨vs', r', x⟩ => (ht.go c m' vs' σ' _ O r' (step n vs' σ' x)).mono fun k σ1 q => by
   cases k
   ·exact hr.go c m' vs' σ1 Q O r' q
   ·refine (hb.go c m' vs' σ1 _ O r' q).mono fun f m2 σ2 ⟨vs2, r2, z⟩ => ?_
    cases f
    ·exact let ⟨k, h1, h2⟩ := z; ⟨k, h1, vs2, r2, h2⟩
    ·exact hr.go c m2 vs2 σ2 Q O r2 z
    ·exact let ⟨k, h1, h2⟩ := z; ⟨k, h1, vs2, r2, h2⟩
    ·exact ⟨vs2, r2, z⟩)⟩
theorem AG.for (hi : Aq A env ns e it) (hg : Hy A env ns tg bd) (hb : AG A env ns b tb) (hr : AG A env ns rest tr) (hf : ∀ x, foldedSetIterable e env x = pure x := by intro _; kernel_rfl) : AG A env ns (.For tg e b [] p :: rest) (T.for_ bd it tb tr) := by iterate 1
 exact ⟨fun c m vs σ Q O r h =>
  EXs.cons (EX.for (EIT.of <| (hi.go c m vs σ _ O r h).mono fun _ σ1 ⟨ds, H, hI, Inv, h0, hold, step, fin⟩ => ⟨ds, H, hI tg, fun i m' σ' => ∃ vs', Bk ns vs' m' /\ Inv i vs' σ', ⟨vs, r, h0⟩, fun i m' σ' ⟨vs', r', x⟩ => hold i vs' σ' x, fun i d m' σ' ⟨vs', r', x⟩ hd =>
    hg.go c m' vs' σ' d _ _ r' (step i d vs' σ' x hd) fun vs2 m2 r2 k => (hb.go c m2 vs2 σ' _ O r2 k).mono fun f m3 σ3 ⟨vs3, r3, z⟩ => by
     cases f
     ·exact ⟨vs3, r3, z⟩
     ·exact hr.go c m3 vs3 σ3 Q O r3 z
     ·exact ⟨vs3, r3, z⟩
     ·exact ⟨vs3, r3, z⟩,
   fun m' σ' ⟨vs', r', x⟩ => hr.go c m' vs' σ' Q O r' (fin vs' σ' x)⟩) hf)⟩
theorem AG.zip {x y : Str} {px py tp np cp p : Pos} {tk : Nat} {e₁ e₂ : Expr} {b : List Stmt} {t1 t2 : VT} {tb : XT} (i j : Nat) (hh : A.handled = none) (hg : ∀ {c : Cx}, Ok c -> Bj c "zip" (.type "zip") /\ Aw c (.type "zip")) (h1 : Aq A env ns e₁ t1) (h2 : Aq A env ns e₂ t2) (hb : AG A env ns b tb) (hr : AG A env ns rest tr) (hl : env.kindOf "zip" = some .globalImplicit := by kernel_rfl) (hi : Cj ns i x = true := by kernel_rfl) (hj : Cj ns j y = true := by kernel_rfl) (hx : Bi env x = true := by kernel_rfl) (hy : Bi env y = true := by kernel_rfl) (hs : [e₁, e₂].all (fun e => !isStarred e) = true := by kernel_rfl) (hf : ∀ x, foldedSetIterable (.Call (.Name "zip" np) [e₁, e₂] [] cp) env x = pure x := by intro _; kernel_rfl) :
   AG A env ns (.For (.Tuple [.Name x px, .Name y py] tk tp) (.Call (.Name "zip" np) [e₁, e₂] [] cp) b [] p :: rest) (T.zip i j t1 t2 tb tr) := by iterate 1
 exact ⟨fun c m vs σ Q O r h => by
  obtain ⟨s1, s2⟩ : isStarred e₁ = false /\ isStarred e₂ = false := by
   simp only [Im, List.all_nil, Bool.and_true, Cv, Bool.not_eq_true'] at hs; exact hs
  refine EXs.cons (EX.SQ O.X hh (hg O).1 hl hs ?_ hf)
  refine EL.cons ((h1.go c m vs σ _ O r h).mono fun d1 σ1 q => EL.cons ((h2.go c m vs σ1 _ O r q).mono fun d2 σ2 ⟨xs, ys, e1, e2, q⟩ => EL.nil ⟨xs, ys, by rw [e1, e2], fun z hz => ?_⟩) s2) s1
  obtain ⟨Inv, h0, step, fin⟩ := q z hz
  exact ⟨fun i m' σ' => ∃ vs', Bk ns vs' m' /\ Inv i vs' σ', ⟨vs, r, h0⟩, fun i' u w m' σ' ⟨vs', r', k⟩ hu hw =>
    EA.IC hh hx hy ((hb.go (c.plus z) _ _ σ' _ (O.plus z) ((r'.put u hi).put w hj) (step i' u w vs' σ' k hu hw)).mono fun f m3 σ3 ⟨vs3, r3, z⟩ => by
     cases f
     ·exact ⟨vs3, r3, z⟩
     ·exact z.elim
     ·exact ⟨vs3, r3, z⟩
     ·exact ⟨vs3, r3, z⟩),
   fun m' σ' ⟨vs', r', k⟩ => hr.go c m' vs' σ' Q O r' (fin vs' σ' k)⟩⟩
end
end
section
set_option maxHeartbeats 4000000
noncomputable abbrev Sd (n : Addr) (f : FuncData) (b : List Stmt) (ns : List Str) := {t : XT // ∀ A : Around, A.handled = none -> ∀ L : Addr, AG A (callEnvC f L n) ns b t}
noncomputable abbrev z67 : Sd 67 f67 b67 ["text"] := ⟨_, by iterate 1
 exact fun A hh L =>
  .ret (.and (.cmp (.name 0) .str) (.cmp (.comp ⟨.name 0, fun L => .one, fun L => .one (.or (.val (.meth (.name 1) .nil)) (.cmp (.name 1) .str)), fun L => .name 1⟩) (.list .nil)))⟩
noncomputable abbrev z74 : Sd 74 f74 b74 ["t"] := ⟨_, by iterate 1
 exact fun A hh L =>
  .ret (.and (.cmp (.call BN (.cons (.name 0) .nil)) .int) (.cmp (.strTo (.sub (.name 0) .int)) .str))⟩
noncomputable abbrev z88 : Sd 88 f88 b88 ["self"] := ⟨_, by iterate 1
 exact fun A hh L =>
  .setA (.name 0) (.list .nil)
  (.setA (.name 0) .dict0
  (.setA (.name 0) (.list .nil)
  (.setA (.name 0) (.list .nil) .nil)))⟩
noncomputable abbrev z100 : Sd 100 Jn b100 ["self", "op", "kids", "node", "kid"] := ⟨_, by iterate 1
 exact fun A hh L =>
  .asg 3 (.bin (.tup (.cons (.name 1) .nil)) (.call Fl (.cons (.name 2) .nil)))
  (.iff (.cmp (.name 3) (.attr (.name 0))) (.ret (.sub (.attr (.name 0)) (.name 3))) (.nil)
  (.expr (.meth (.name 0) (.cons (.name 1) .nil))
  (.for (.tail (.name 3)) (.one 4) (.iff (.not (.chain .int (.name 4) (.call BN (.cons (.attr (.name 0)) .nil)))) (.stop) (.nil) .nil)
  (.setI (.attr (.name 0)) (.name 3) (.call BN (.cons (.attr (.name 0)) .nil))
  (.expr (.meth (.attr (.name 0)) (.cons (.name 3) .nil))
  (.expr (.meth (.attr (.name 0)) (.cons (.bin .int (.call UX (.cons (.comp ⟨.tail (.name 3), fun L => .one, fun L => .yes, fun L => .sub (.attr (.name 0)) (.name 5)⟩) .nil))) .nil))
  (.expr (.meth (.attr (.name 0)) (.cons (.bin .int (.call UY (.cons (.bin (.comp ⟨.tail (.name 3), fun L => .one, fun L => .yes, fun L => .sub (.attr (.name 0)) (.name 5)⟩) (.list (.cons .int .nil))) .nil))) .nil))
  (.ret (.bin (.call BN (.cons (.attr (.name 0)) .nil)) .int)))))))))⟩
noncomputable abbrev z107 : Sd 107 Jo b107 ["self", "op"] := ⟨_, by iterate 1
 exact fun A hh L =>
  .iff (.or (.not (.val (.call UO (.cons (.name 1) .nil)))) (.cmp (.sub (.name 1) .int) .str)) (.stop) (.nil) .nil⟩
noncomputable abbrev z135 : Sd 135 Jp b135 ["self", "n"] := ⟨_, by iterate 1
 exact fun A hh L =>
  .ret (.sub (.sub (.attr (.name 0)) (.name 1)) .int)⟩
noncomputable abbrev z142 : Sd 142 Jq b142 ["self", "n"] := ⟨_, by iterate 1
 exact fun A hh L =>
  .ret (.tail (.sub (.attr (.name 0)) (.name 1)))⟩
noncomputable abbrev z196 : Sd 196 Jr b196 ["self", "heap"] := ⟨_, by iterate 1
 exact fun A hh L =>
  .setA (.name 0) (.name 1) .nil⟩
noncomputable abbrev z201 : Sd 201 Js b201 ["self", "table", "c", "pattern", "op", "late", "found", "node", "tables", "kid", "part"] := ⟨_, by iterate 1
 exact fun A hh L =>
  .asg 4 (.sub (.name 3) .int)
  (.iff (.val (.call UP (.cons (.name 3) .nil))) (.asg 5 (.call PJ (.cons (.name 1) .nil))
  (.setI (.name 5) (.name 4) (.name 2)
  (.ret (.ife (.cmp (.meth (.name 1) (.cons (.name 4) (.cons (.name 2) .nil))) (.name 2)) (.list (.cons (.name 5) .nil)) (.list .nil))))) (.nil)
  (.asg 6 (.list .nil)
  (.for (.meth (.attr (.name 0)) (.cons (.name 2) .nil)) (.one 7) (.iff (.and (.cmp (.sub (.name 7) .int) (.name 4)) (.cmp (.call BN (.cons (.name 7) .nil)) (.call BN (.cons (.name 3) .nil)))) (.asg 8 (.list (.cons (.name 1) .nil))
  (.zip 9 10 hh U0 (.tail (.name 7)) (.tail (.name 3)) (.asgC2 8 ⟨.name 8, fun L => (by kernel_rfl), fun L => (by kernel_rfl), (by kernel_rfl), (by kernel_rfl), fun L => .meth (.name 0) (.cons (.name 11) (.cons (.name 9) (.cons (.name 10) .nil))), fun L => .name 12⟩ .nil)
  (.expr (.meth (.name 6) (.cons (.name 8) .nil)) .nil))) (.nil) .nil)
  (.ret (.name 6)))))⟩
noncomputable abbrev z208 : Sd 208 Jt b208 ["self", "c", "pattern", "substs", "table"] := ⟨_, by iterate 1
 exact fun A hh L =>
  .asg 3 .dict0
  (.for (.meth (.name 0) (.cons .dict0 (.cons (.meth (.attr (.name 0)) (.cons (.name 1) .nil)) (.cons (.name 2) .nil)))) (.one 4) (.setI (.name 3) (.call Fl (.cons (.call Et (.cons (.meth (.name 4) .nil) .nil)) .nil)) .bool .nil)
  (.ret (.call Et (.cons (.name 3) .nil))))⟩
noncomputable abbrev z213 : Sd 213 Ju b213 ["self", "pattern"] := ⟨_, by iterate 1
 exact fun A hh L =>
  .ret (.comp2 ⟨.meth (.attr (.name 0)) .nil, fun L => (by kernel_rfl), fun L => (by kernel_rfl), (by kernel_rfl), (by kernel_rfl), fun L => .meth (.name 0) (.cons (.name 2) (.cons (.name 1) .nil)), fun L => .tup (.cons (.name 2) (.cons (.name 3) .nil))⟩)⟩
noncomputable abbrev z234 : Sd 234 Jv b234 ["self"] := ⟨_, by iterate 1
 exact fun A hh L =>
  .setA (.name 0) (.list .nil)
  (.setA (.name 0) (.list .nil)
  (.setA (.name 0) (.list .nil) .nil))⟩
noncomputable abbrev z241 : Sd 241 Jw b241 ["self"] := ⟨_, by iterate 1
 exact fun A hh L =>
  .expr (.meth (.attr (.name 0)) (.cons (.call BN (.cons (.attr (.name 0)) .nil)) .nil))
  (.expr (.meth (.attr (.name 0)) (.cons (.list (.cons (.call BN (.cons (.attr (.name 0)) .nil)) .nil)) .nil))
  (.ret (.bin (.call BN (.cons (.attr (.name 0)) .nil)) .int)))⟩
noncomputable abbrev z248 : Sd 248 Jx b248 ["self"] := ⟨_, by iterate 1
 exact fun A hh L =>
  .ret (.call BN (.cons (.attr (.name 0)) .nil))⟩
noncomputable abbrev z255 : Sd 255 Jy b255 ["self", "a"] := ⟨_, by iterate 1
 exact fun A hh L =>
  .while (.cmp (.sub (.attr (.name 0)) (.name 1)) (.name 1)) (.asg 1 (.sub (.attr (.name 0)) (.name 1)) .nil)
  (.ret (.name 1))⟩
noncomputable abbrev Md : Sd 262 Jz b262 ["self", "a", "b", "kept", "gone"] := ⟨_, by iterate 1
 exact fun A hh L =>
  .asgL 3 4 hh (.call Et (.cons (.list (.cons (.meth (.name 0) (.cons (.name 1) .nil)) (.cons (.meth (.name 0) (.cons (.name 2) .nil)) .nil))) .nil))
  (.iff (.cmp (.name 3) (.name 4)) (.ret .none) (.nil)
  (.setI (.attr (.name 0)) (.name 4) (.name 3)
  (.expr (.meth (.sub (.attr (.name 0)) (.name 3)) (.cons (.sub (.attr (.name 0)) (.name 4)) .nil))
  (.expr (.meth (.attr (.name 0)) (.cons (.tup (.cons (.name 3) (.cons (.name 4) .nil))) .nil))
  (.ret (.tup (.cons (.name 3) (.cons (.name 4) .nil))))))))⟩
noncomputable abbrev z269 : Sd 269 JA b269 ["self", "a"] := ⟨_, by iterate 1
 exact fun A hh L =>
  .ret (.call Et (.cons (.sub (.attr (.name 0)) (.meth (.name 0) (.cons (.name 1) .nil))) .nil))⟩
noncomputable abbrev z274 : Sd 274 JB b274 ["self"] := ⟨_, by iterate 1
 exact fun A hh L =>
  .ret (.comp ⟨.call Eu (.cons (.call BN (.cons (.attr (.name 0)) .nil)) .nil), fun L => .one, fun L => .one (.cmp (.sub (.attr (.name 0)) (.name 1)) (.name 1)), fun L => .name 1⟩)⟩
noncomputable abbrev z316 : Sd 316 JC b316 ["self"] := ⟨_, by iterate 1
 exact fun A hh L =>
  .setA (.name 0) (.call UQ .nil)
  (.setA (.name 0) (.call UT .nil)
  (.setA (.name 0) (.list .nil)
  (.setA (.name 0) (.list .nil)
  (.setA (.name 0) .dict0
  (.setA (.name 0) .dict0
  (.setA (.name 0) (.list .nil) .nil))))))⟩
noncomputable abbrev z328 : Sd 328 JD b328 ["self", "n"] := ⟨_, by iterate 1
 exact fun A hh L =>
  .ret (.bin (.tup (.cons (.meth (.attr (.name 0)) (.cons (.name 1) .nil)) .nil)) (.call Fl (.cons (.comp ⟨.meth (.attr (.name 0)) (.cons (.name 1) .nil), fun L => .one, fun L => .yes, fun L => .meth (.name 0) (.cons (.name 2) .nil)⟩) .nil)))⟩
noncomputable abbrev z333 : Sd 333 JE b333 ["self", "op", "numbers", "n", "c"] := ⟨_, by iterate 1
 exact fun A hh L =>
  .asg 3 (.meth (.attr (.name 0)) (.cons (.name 1) (.cons (.name 2) .nil)))
  (.iff (.cmp (.name 3) (.meth (.attr (.name 0)) .nil)) (.ret (.name 3)) (.nil)
  (.expr (.meth (.attr (.name 0)) .nil)
  (.setI (.attr (.name 0)) (.name 3) (.list .nil)
  (.for (.call Et (.cons (.call L7 (.cons (.comp ⟨.name 2, fun L => .one, fun L => .yes, fun L => .meth (.name 0) (.cons (.name 5) .nil)⟩) .nil)) .nil)) (.one 4) (.expr (.meth (.sub (.attr (.name 0)) (.name 4)) (.cons (.name 3) .nil)) .nil)
  (.expr (.meth (.name 0) (.cons (.name 3) .nil))
  (.ret (.name 3)))))))⟩
noncomputable abbrev z347 : Sd 347 JF b347 ["self", "n", "other"] := ⟨_, by iterate 1
 exact fun A hh L =>
  .asg 2 (.meth (.attr (.name 0)) (.cons (.meth (.name 0) (.cons (.name 1) .nil)) (.cons (.name 1) .nil)))
  (.iff (.cmp (.meth (.name 0) (.cons (.name 2) .nil)) (.meth (.name 0) (.cons (.name 1) .nil))) (.expr (.meth (.name 0) (.cons (.name 2) (.cons (.name 1) (.cons (.tup (.cons .str .nil)) .nil)))) .nil) (.nil) .nil)⟩
noncomputable abbrev z354 : Sd 354 JG b354 ["self", "n"] := ⟨_, by iterate 1
 exact fun A hh L =>
  .ret (.meth (.attr (.name 0)) (.cons (.name 1) .nil))⟩
noncomputable abbrev Me : Sd 368 JH b368 ["self", "a", "b", "reason"] := ⟨_, by iterate 1
 exact fun A hh L =>
  .ret (.meth (.name 0) (.cons (.name 1) (.cons (.name 2) (.cons (.name 3) .nil))))⟩
noncomputable abbrev z375 : Sd 375 JI b375 ["self", "a", "b", "reason", "merged", "kept", "gone"] := ⟨_, by iterate 1
 exact fun A hh L =>
  .expr (.meth (.attr (.name 0)) (.cons (.tup (.cons (.name 1) (.cons (.name 2) (.cons (.name 3) .nil)))) .nil))
  (.asg 4 (.meth (.attr (.name 0)) (.cons (.name 1) (.cons (.name 2) .nil)))
  (.iff (.cmp (.name 4) .none) (.ret .bool) (.nil)
  (.asg2 5 6 hh (.name 4)
  (.expr (.meth (.attr (.name 0)) (.cons (.bin (.call BN (.cons (.attr (.name 0)) .nil)) .int) .nil))
  (.expr (.meth (.attr (.name 0)) (.cons (.sub (.attr (.name 0)) (.name 6)) .nil))
  (.setI (.attr (.name 0)) (.name 5) (.bin (.sub (.attr (.name 0)) (.name 5)) (.meth (.attr (.name 0)) (.cons (.name 6) .nil)))
  (.ret .bool)))))))⟩
noncomputable abbrev z382 : Sd 382 JJ b382 ["self"] := ⟨_, by iterate 1
 exact fun A hh L =>
  .while (.cmp (.call BN (.cons (.attr (.name 0)) .nil)) .int) (.expr (.meth (.name 0) (.cons (.meth (.attr (.name 0)) .nil) .nil)) .nil) .nil⟩
noncomputable abbrev z396 : Sd 396 JK b396 ["self"] := ⟨_, by iterate 1
 exact fun A hh L =>
  .ret (.meth (.attr (.name 0)) .nil)⟩
noncomputable abbrev z403 : Sd 403 JL b403 ["self", "c"] := ⟨_, by iterate 1
 exact fun A hh L =>
  .ret (.meth (.attr (.name 0)) (.cons (.name 1) .nil))⟩
noncomputable abbrev Mg : Sd 408 JM b408 ["self", "c"] := ⟨_, by iterate 1
 exact fun A hh L =>
  .ret (.call Et (.cons (.call L7 (.cons (.comp ⟨.meth (.name 0) (.cons (.name 1) .nil), fun L => .one, fun L => .yes, fun L => .meth (.name 0) (.cons (.name 2) .nil)⟩) .nil)) .nil))⟩
noncomputable abbrev z441 : Sd 441 JN b441 [] := ⟨_, by iterate 1
 exact fun A hh L =>
  .ret (.list (.cons (.tup (.cons .str (.cons .int .nil))) (.cons (.tup (.cons .str (.cons .int .nil))) (.cons (.tup (.cons .str (.cons .int .nil))) .nil))))⟩
noncomputable abbrev z448 : Sd 448 JO b448 ["feed", "wide", "cells", "spot"] := ⟨_, by iterate 1
 exact fun A hh L =>
  .asg2s 2 3 hh (.tup (.cons (.sub (.name 0) .str) (.cons (.sub (.name 0) .str) .nil)))
  (.setI (.name 0) .str (.bin (.name 3) .int)
  (.iff (.cmp (.name 3) (.call BN (.cons (.name 2) .nil))) (.ret (.bin (.call U5 (.cons (.sub (.name 2) (.name 3)) .nil)) (.name 1))) (.nil)
  (.ret (.bin (.bin (.bin (.bin (.bin (.bin .int (.name 3)) (.name 3)) (.bin .int (.name 3))) (.bin .int (.call BN (.cons (.name 2) .nil)))) .int) (.name 1)))))⟩
noncomputable abbrev z453 : Sd 453 JP b453 ["feed", "heap", "nodes", "many", "lap", "op", "kids", "node"] := ⟨_, by iterate 1
 exact fun A hh L =>
  .for (.call Eu (.cons (.name 3) .nil)) (.one 4) (.asg2 5 6 hh (.sub (.call L4 .nil) (.call DD (.cons (.name 0) (.cons .int .nil))))
  (.asg 7 (.bin (.tup (.cons (.name 5) .nil)) (.call Fl (.cons (.comp ⟨.call Eu (.cons (.name 6) .nil), fun L => .one, fun L => .yes, fun L => .call DD (.cons (.name 0) (.cons (.call BN (.cons (.name 2) .nil)) .nil))⟩) .nil)))
  (.iff (.cmp (.meth (.name 1) (.cons (.name 5) (.cons (.tail (.name 7)) .nil))) (.call BN (.cons (.name 2) .nil))) (.expr (.meth (.name 2) (.cons (.name 7) .nil)) .nil) (.nil) .nil))) .nil⟩
noncomputable abbrev z458 : Sd 458 JQ b458 ["home", "node"] := ⟨_, by iterate 1
 exact fun A hh L =>
  .ret (.bin (.tup (.cons (.sub (.name 1) .int) .nil)) (.call Fl (.cons (.comp ⟨.tail (.name 1), fun L => .one, fun L => .yes, fun L => .sub (.name 0) (.name 2)⟩) .nil)))⟩
noncomputable abbrev z463 : Sd 463 JR b463 ["home", "a", "b", "least"] := ⟨_, by iterate 1
 exact fun A hh L =>
  .asg 3 (.call UZ (.cons (.sub (.name 0) (.name 1)) (.cons (.sub (.name 0) (.name 2)) .nil)))
  (.ret (.comp ⟨.name 0, fun L => .one, fun L => .yes, fun L => .ife (.cmp (.name 4) (.tup (.cons (.sub (.name 0) (.name 1)) (.cons (.sub (.name 0) (.name 2)) .nil)))) (.name 3) (.name 4)⟩))⟩
noncomputable abbrev z470 : Sd 470 JS b470 ["nodes", "pairs", "home", "a", "b", "is_turned"] := ⟨_, by iterate 1
 exact fun A hh L =>
  .asg 2 (.call L8 (.cons (.call Eu (.cons (.call BN (.cons (.name 0) .nil)) .nil)) .nil))
  (.for (.name 1) (.two 3 4 hh) (.asg 2 (.call PF (.cons (.name 2) (.cons (.name 3) (.cons (.name 4) .nil)))) .nil)
  (.asg 5 .bool
  (.while (.val (.name 5)) (.asg 5 .bool
  (.for (.call Eu (.cons (.call BN (.cons (.name 0) .nil)) .nil)) (.one 3) (.for (.call Eu (.cons (.name 3) .nil)) (.one 4) (.iff (.and (.cmp (.sub (.name 2) (.name 3)) (.sub (.name 2) (.name 4))) (.cmp (.call L5 (.cons (.name 2) (.cons (.sub (.name 0) (.name 3)) .nil))) (.call L5 (.cons (.name 2) (.cons (.sub (.name 0) (.name 4)) .nil))))) (.asg2s 2 5 hh (.tup (.cons (.call PF (.cons (.name 2) (.cons (.name 3) (.cons (.name 4) .nil)))) (.cons .bool .nil))) .nil) (.nil) .nil) .nil) .nil))
  (.ret (.name 2)))))⟩
noncomputable abbrev t475b : XT := T.iff (T.tcmp .Gt (T.v 2) (T.int 2)) (T.ret (T.sub (T.list (T.cons (T.tup (T.cons (T.str "?x") T.nil)) (T.cons (T.tup (T.cons (T.str "?x") T.nil)) (T.cons (T.tup (T.cons (T.str "?y") T.nil)) (T.cons (T.tup (T.cons (T.str "a") T.nil)) T.nil))))) (T.ife (T.tcmp .Eq (T.v 2) (T.int 4)) (T.call (.ref 448) (T.cons (T.v 0) (T.cons (T.int 4) T.nil))) (T.bin .Sub (T.v 2) (T.int 3))))) T.fin (T.asg2 3 4 (T.sub (T.call (.ref 441) T.nil) (T.v 2)) (T.ret (T.bin .Add (T.tup (T.cons (T.v 3) T.nil)) (T.call (.type "tuple") (T.cons (T.comp T.bind1 (T.call (.type "range") (T.cons (T.v 4) T.nil)) T.yes (T.call (.ref 475) (T.cons (T.v 0) (T.cons (T.bin .Sub (T.v 1) (T.int 1)) T.nil)))) T.nil)))))
noncomputable abbrev z475 : Sd 475 JT b475 ["feed", "deep", "way", "op", "kids"] := ⟨_, by iterate 1
 exact fun A hh L =>
  .asg 2 (.ife (.cmp (.name 1) .int) (.call DD (.cons (.name 0) (.cons .int .nil))) (.bin .int (.call DD (.cons (.name 0) (.cons .int .nil)))))
  (.iff (.cmp (.name 2) .int) (.ret (.sub (.list (.cons (.tup (.cons .str .nil)) (.cons (.tup (.cons .str .nil)) (.cons (.tup (.cons .str .nil)) (.cons (.tup (.cons .str .nil)) .nil))))) (.ife (.cmp (.name 2) .int) (.call DD (.cons (.name 0) (.cons .int .nil))) (.bin (.name 2) .int)))) (.nil)
  (.asg2 3 4 hh (.sub (.call L4 .nil) (.name 2))
  (.ret (.bin (.tup (.cons (.name 3) .nil)) (.call Fl (.cons (.comp ⟨.call Eu (.cons (.name 4) .nil), fun L => .one, fun L => .yes, fun L => .call L6 (.cons (.name 0) (.cons (.bin (.name 1) .int) .nil))⟩) .nil))))))⟩
noncomputable abbrev z480 : Sd 480 JU b480 ["pattern", "table", "known", "kids"] := ⟨_, by iterate 1
 exact fun A hh L =>
  .iff (.cmp (.sub (.name 0) .int) (.name 1)) (.ret (.sub (.name 1) (.sub (.name 0) .int))) (.nil)
  (.asgC 3 ⟨.tail (.name 0), fun L => .one, fun L => .yes, fun L => .call PG (.cons (.name 4) (.cons (.name 1) (.cons (.name 2) .nil)))⟩
  (.ret (.ife (.cmp (.neg .int) (.name 3)) (.neg .int) (.meth (.name 2) (.cons (.bin (.tup (.cons (.sub (.name 0) .int) .nil)) (.call Fl (.cons (.name 3) .nil))) (.cons (.neg .int) .nil))))))⟩
noncomputable abbrev z485 : Sd 485 JV b485 ["pattern", "found", "kid"] := ⟨_, by iterate 1
 exact fun A hh L =>
  .iff (.cmp (.sub (.sub (.name 0) .int) .int) .str) (.ret (.list (.cons (.sub (.name 0) .int) .nil))) (.nil)
  (.asg 1 (.list .nil)
  (.for (.tail (.name 0)) (.one 2) (.asg 1 (.bin (.name 1) (.comp ⟨.call PH (.cons (.name 2) .nil), fun L => .one, fun L => .one (.cmp (.name 3) (.name 1)), fun L => .name 3⟩)) .nil)
  (.ret (.call Et (.cons (.name 1) .nil)))))⟩
noncomputable abbrev z490 : Sd 490 JW b490 ["pattern", "home", "known", "homes", "tables", "name", "found"] := ⟨_, by iterate 1
 exact fun A hh L =>
  .asg2 3 4 hh (.tup (.cons (.call Et (.cons (.call L7 (.cons (.name 1) .nil)) .nil)) (.cons (.list (.cons .dict0 .nil)) .nil)))
  (.for (.call PH (.cons (.name 0) .nil)) (.one 5) (.asgC2 4 ⟨.name 4, fun L => (by kernel_rfl), fun L => (by kernel_rfl), (by kernel_rfl), (by kernel_rfl), fun L => .name 3, fun L => .call PJ (.cons (.bin (.call L8 (.cons (.meth (.name 7) .nil) .nil)) (.list (.cons (.tup (.cons (.name 5) (.cons (.name 8) .nil))) .nil))) .nil)⟩ .nil)
  (.asgC 6 ⟨.name 4, fun L => .one, fun L => .yes, fun L => .tup (.cons (.call PG (.cons (.name 0) (.cons (.name 7) (.cons (.name 2) .nil)))) (.cons (.call Fl (.cons (.call Et (.cons (.meth (.name 7) .nil) .nil)) .nil)) .nil))⟩
  (.ret (.call Et (.cons (.comp ⟨.name 6, fun L => .one, fun L => .one (.cmp (.sub (.name 7) .int) .int), fun L => .name 7⟩) .nil)))))⟩
noncomputable abbrev PT : XT := T.for_ (T.set1 14) (T.list (T.cons (T.v 9) (T.cons (T.tup (T.cons (T.v 10) (T.cons (T.call (.ref 475) (T.cons (T.v 1) (T.cons (T.int 1) T.nil))) (T.cons (T.tup (T.cons (T.str "?x") T.nil)) T.nil)))) (T.cons (T.tup (T.cons (T.str "f") (T.cons (T.call (.ref 475) (T.cons (T.v 1) (T.cons (T.int 2) T.nil))) T.nil))) T.nil)))) (T.asg 15 (T.call (.ref 490) (T.cons (T.v 14) (T.cons (T.v 6) (T.cons (T.v 7) T.nil)))) (T.iff (T.tcmp .NotEq (T.meth (T.v 12) "found" (T.cons (T.v 14) T.nil)) (T.v 15)) (T.ret (T.bool false)) T.fin (T.iff (T.tcmp .NotEq (T.meth (T.v 12) "found_in" (T.cons (T.v 13) (T.cons (T.v 14) T.nil))) (T.comp T.bind2 (T.v 15) (T.tcmp .Eq (T.v 16) (T.sub (T.v 6) (T.v 13))) (T.v 17))) (T.ret (T.bool false)) T.fin T.fin))) (T.ret (T.bool true))
noncomputable abbrev PU : XT := T.asg2 6 7 (T.tup (T.cons (T.call (.ref 470) (T.cons (T.v 3) (T.cons (T.v 4) T.nil))) (T.cons T.dict0 T.nil))) (T.for_ (T.set1 8) (T.call (.type "range") (T.cons (T.call (.builtin "len") (T.cons (T.v 3) T.nil)) T.nil)) (T.setI (T.v 7) (T.call (.ref 458) (T.cons (T.v 6) (T.cons (T.sub (T.v 3) (T.v 8)) T.nil))) (T.sub (T.v 6) (T.v 8)) T.fin) (T.asg 9 (T.tup (T.cons (T.str "?x") T.nil)) (T.for_ (T.set1 5) (T.call (.type "range") (T.cons (T.bin .Add (T.int 2) (T.call (.ref 448) (T.cons (T.v 1) (T.cons (T.int 2) T.nil)))) T.nil)) (T.asg 9 (T.tup (T.cons (T.str "f") (T.cons (T.v 9) T.nil))) T.fin) (T.asg2 10 11 (T.sub (T.call (.ref 441) T.nil) (T.bin .Add (T.int 1) (T.call (.ref 448) (T.cons (T.v 1) (T.cons (T.int 2) T.nil))))) (T.asg2 12 13 (T.tup (T.cons (T.call (.ref 216) (T.cons (T.v 2) T.nil)) (T.cons (T.call (.ref 448) (T.cons (T.v 1) (T.cons (T.call (.builtin "len") (T.cons (T.v 3) T.nil)) T.nil))) T.nil))) PT)))))
noncomputable abbrev t495b : XT := T.asg 4 (T.list T.nil) (T.for_ (T.set1 5) (T.call (.type "range") (T.cons (T.call (.ref 448) (T.cons (T.v 1) (T.cons (T.int 4) T.nil))) T.nil)) (T.expr (T.meth (T.v 4) "append" (T.cons (T.tup (T.cons (T.call (.ref 448) (T.cons (T.v 1) (T.cons (T.call (.builtin "len") (T.cons (T.v 3) T.nil)) T.nil))) (T.cons (T.call (.ref 448) (T.cons (T.v 1) (T.cons (T.call (.builtin "len") (T.cons (T.v 3) T.nil)) T.nil))) T.nil))) T.nil)) (T.expr (T.meth (T.v 2) "merge" (T.cons (T.sub (T.sub (T.v 4) (T.neg (T.int 1))) (T.int 0)) (T.cons (T.sub (T.sub (T.v 4) (T.neg (T.int 1))) (T.int 1)) (T.cons (T.tup (T.cons (T.str "told") (T.cons (T.str "m") T.nil))) T.nil)))) T.fin)) (T.expr (T.call (.ref 453) (T.cons (T.v 1) (T.cons (T.v 2) (T.cons (T.v 3) (T.cons (T.call (.ref 448) (T.cons (T.v 1) (T.cons (T.int 3) T.nil))) T.nil))))) (T.expr (T.meth (T.v 2) "settle" T.nil) PU)))
noncomputable abbrev z495 : Sd 495 JX b495 ["script", "feed", "heap", "nodes", "pairs", "lap", "home", "known", "a", "tower", "op", "kids", "walker", "spot", "pattern", "due"] := ⟨_, by iterate 1
 exact fun A hh L =>
  .asg2s 1 2 hh (.tup (.cons (.dict2 (.call L8 (.cons (.listTo (.name 0)) .nil)) .int) (.cons (.call UU .nil) .nil)))
  (.asg 3 (.list (.cons (.tup (.cons .str .nil)) (.cons (.tup (.cons .str .nil)) .nil)))
  (.expr (.meth (.name 2) (.cons .str (.cons (.tup .nil) .nil)))
  (.expr (.meth (.name 2) (.cons .str (.cons (.tup .nil) .nil)))
  (.expr (.call PE (.cons (.name 1) (.cons (.name 2) (.cons (.name 3) (.cons (.bin .int (.call DD (.cons (.name 1) (.cons .int .nil)))) .nil)))))
  (.asg 4 (.list .nil)
  (.for (.call Eu (.cons (.call DD (.cons (.name 1) (.cons .int .nil))) .nil)) (.one 5) (.expr (.meth (.name 4) (.cons (.tup (.cons (.call DD (.cons (.name 1) (.cons (.call BN (.cons (.name 3) .nil)) .nil))) (.cons (.call DD (.cons (.name 1) (.cons (.call BN (.cons (.name 3) .nil)) .nil))) .nil))) .nil))
  (.expr (.meth (.name 2) (.cons (.sub (.sub (.name 4) (.neg .int)) .int) (.cons (.sub (.sub (.name 4) (.neg .int)) .int) (.cons (.tup (.cons .str (.cons .str .nil))) .nil)))) .nil))
  (.expr (.call PE (.cons (.name 1) (.cons (.name 2) (.cons (.name 3) (.cons (.call DD (.cons (.name 1) (.cons .int .nil))) .nil)))))
  (.expr (.meth (.name 2) .nil)
  (.asg2 6 7 hh (.tup (.cons (.call UV (.cons (.name 3) (.cons (.name 4) .nil))) (.cons .dict0 .nil)))
  (.for (.call Eu (.cons (.call BN (.cons (.name 3) .nil)) .nil)) (.one 8) (.setI (.name 7) (.call L5 (.cons (.name 6) (.cons (.sub (.name 3) (.name 8)) .nil))) (.sub (.name 6) (.name 8)) .nil)
  (.asg 9 (.tup (.cons .str .nil))
  (.for (.call Eu (.cons (.bin .int (.call DD (.cons (.name 1) (.cons .int .nil)))) .nil)) (.one 5) (.asg 9 (.tup (.cons .str (.cons (.name 9) .nil))) .nil)
  (.asg2 10 11 hh (.sub (.call L4 .nil) (.bin .int (.call DD (.cons (.name 1) (.cons .int .nil)))))
  (.asg2 12 13 hh (.tup (.cons (.call US (.cons (.name 2) .nil)) (.cons (.call DD (.cons (.name 1) (.cons (.call BN (.cons (.name 3) .nil)) .nil))) .nil)))
  (.for (.list (.cons (.name 9) (.cons (.tup (.cons (.name 10) (.cons (.call L6 (.cons (.name 1) (.cons .int .nil))) (.cons (.tup (.cons .str .nil)) .nil)))) (.cons (.tup (.cons .str (.cons (.call L6 (.cons (.name 1) (.cons .int .nil))) .nil))) .nil)))) (.one 14) (.asg 15 (.call UW (.cons (.name 14) (.cons (.name 6) (.cons (.name 7) .nil))))
  (.iff (.cmp (.meth (.name 12) (.cons (.name 14) .nil)) (.name 15)) (.ret .bool) (.nil)
  (.iff (.cmp (.meth (.name 12) (.cons (.name 13) (.cons (.name 14) .nil))) (.comp ⟨.name 15, fun L => .two hh, fun L => .one (.cmp (.name 16) (.sub (.name 6) (.name 13))), fun L => .name 17⟩)) (.ret .bool) (.nil) .nil)))
  (.ret .bool))))))))))))))))⟩
end
section
open Classical
noncomputable def Fr (σ σ' : Aa) (fp : List Addr) : Prop := ∀ a o, a ∉ fp -> σ a = some o -> σ' a = some o
theorem Fr.refl (σ : Aa) (fp : List Addr) : Fr σ σ fp := fun _ _ _ e => e
theorem Fr.trans {σ σ1 σ2 : Aa} {fp : List Addr} (x : Fr σ σ1 fp) (y : Fr σ1 σ2 fp) : Fr σ σ2 fp := fun a o h e => y a o h (x a o h e)
theorem Fr.wide (x : Fr σ σ1 fp) (h : ∀ a ∈ fp, a ∈ fp') : Fr σ σ1 fp' := by iterate 1
 exact fun a o ha e => x a o (fun q => ha (h a q)) e
theorem Fr.new (fp : List Addr) (h : σ a = none) : Fr σ (σ.set a o) fp := by iterate 1
 exact fun b ob _ e => by
  have : b ≠ a := fun q => by rw [q, h] at e; cases e
  rw [Aa.B5 _ _ this]; exact e
theorem Fr.at (x : Fr σ σ' fp) (h : a ∉ fp) (e : σ a = some o) : σ' a = some o := x a o h e
theorem Fr.at0 (x : Fr σ σ' []) (e : σ a = some o) : σ' a = some o := x a o (by simp) e
theorem DS {σ : Aa} {a b : Addr} {x y : MO} (ha : σ a = some x) (hb : σ b = some y) (h : x ≠ y) : a ≠ b := by iterate 1
 exact fun q => by rw [q, hb] at ha; exact h (Cn ha).symm
noncomputable def An (l : List Nat) : List D := l.map fun (i : Nat) => D.int i
@[simp] theorem A6 (l : List Nat) : (An l).length = l.length := by simp [An]
theorem Fo (l k : List Nat) : An (l ++ k) = An l ++ An k := by simp [An]
noncomputable abbrev slots : Nat -> List D -> VS
 | 0, _ => []
 | n + 1, [] => none :: slots n []
 | n + 1, d :: ds => some d :: slots n ds
noncomputable abbrev RQ (Q : D -> Aa -> Prop) : AFl -> VS -> Aa -> Prop := fun f _ σ => match f with | .ret d => Q d σ | .next => Q .none σ | .brk => False | .cont => False
theorem Mh : ∀ (n : Nat) (ds : List D), (slots n ds).length = n
 | 0, _ => rfl
 | n + 1, [] => congrArg (· + 1) (Mh n [])
 | n + 1, _ :: ds => congrArg (· + 1) (Mh n ds)
theorem Mi : ∀ {n i : Nat} {ds : List D} {d : D}, at_ (slots n ds) i = some d -> ds[i]? = some d
 | 0, _, _, _, h => by cases h
 | n + 1, 0, [], _, h => by cases h
 | n + 1, i + 1, [], d, h => by have := Mi (n := n) (ds := []) h; cases this
 | n + 1, 0, _ :: _, _, h => h
 | n + 1, i + 1, _ :: ds, d, h => Mi (n := n) (ds := ds) h
theorem PV : ∀ {names : List Str} {ds : List D} {i : Nat} {x : Str} {d : D}, names.Nodup -> names[i]? = some x -> ds[i]? = some d -> (names.zip ds).lookup x = some d
 | [], _, _, _, _, _, h, _ => by cases h
 | _ :: _, [], _, _, _, _, _, h => by cases h
 | n :: _, e :: _, 0, _, _, _, h, h' => by iterate 1
  cases h; cases h'
  rw [Ik, AY, beq_self_eq_true]
 | n :: ns, e :: ds, i + 1, x, d, hn, h, h' => by iterate 1
  rw [BE] at hn
  have : x ≠ n := fun q => hn.1 (q ▸ AX h)
  rw [Ik, DJ this]
  exact PV hn.2 h h'
theorem Bk.args (hk : ns.length = k) (hn : names.Nodup) (hl : ds.length = names.length) (ht : ns.take names.length = names) : Bk ns (slots k ds) (names.zip ds) := by iterate 1
 exact
  ⟨(Mh k ds).trans hk.symm, fun i x d hi _ hd => by
   have h1 := Mi hd
   have : i < names.length := hl ▸ (AT.mp h1).1
   exact PV hn (by rw [<- ht, SR this]; exact hi) h1⟩
section
variable {c : Cx} {A : Around} {σ : Aa}
theorem AB.tr {f : Addr} {fd : FuncData} {ns names : List Str} {body : List Stmt} {args : List D} {Q : D -> Aa -> Prop} {n k : Nat} {t : XT} (s : ∀ A : Around, A.handled = none -> ∀ L, AG A (callEnvC fd L f) ns body t) (O : Ok c)
   (hf : AK c.K f = some fd) (P : AQ c.K fd body names) (hk : ns.length = k) (hl : args.length = names.length) (ht : ns.take names.length = names) (R : Af A (n + 1)) (h : ∀ A', Af A' n -> t c A' (slots k args) σ (RQ Q)) : AB c A (.ref f) args σ Q := by iterate 1
 exact
  AB.def O.X hf P hl R fun L hL => ((s _ (R.deeper _).handled L).go c _ _ σ _ O (Bk.args hk P.nodup hl ht) (h _ (R.deeper _))).mono fun fl m' σ' ⟨vs, r, q⟩ => by
   cases fl <;> exact q
theorem Upd.keep (u : Upd σ σ' a o) (hb : b ≠ a) (h : σ b = some x) : σ' b = some x := (u.ne b hb).trans h
theorem Upd.fr (u : Upd σ σ' a o) : Fr σ σ' [a] := by iterate 1
 exact fun b x hb h => u.keep (fun q => hb (q ▸ Bv)) h
theorem New.other {σ' : Aa} {a b : Addr} {o x : MO} (u : New σ σ' a o) (h : σ b = some x) : b ≠ a := fun q => by rw [q, u.no] at h; cases h
theorem New.keep (u : New σ σ' a o) (h : σ b = some x) : σ' b = some x := (u.ne b (u.other h)).trans h
theorem New.fr (u : New σ σ' a o) : Fr σ σ' [] := fun b x _ h => u.keep h
theorem Upd.none {σ' : Aa} {a b : Addr} {o x : MO} (u : Upd σ σ' a o) (h : σ a = some x) (hb : σ' b = none) : σ b = none := by iterate 1
 by_cases q : b = a
 ·rw [q, u.at_] at hb; cases hb
 ·rwa [u.ne b q] at hb
theorem New.none {σ' : Aa} {a b : Addr} {o : MO} (u : New σ σ' a o) (hb : σ' b = none) : σ b = none := by iterate 1
 by_cases q : b = a
 ·rw [q, u.at_] at hb; cases hb
 ·rwa [u.ne b q] at hb
theorem Fr.none {σ' : Aa} {fp : List Addr} (F : Fr σ σ' fp) {b : Addr} (hb : σ' b = Dw) (h : b ∉ fp) : σ b = Dw := by iterate 1
 cases e : σ b with
 | none => rfl
 | some o => rw [F b o h e] at hb; cases hb
theorem Ac.cls {C fI : Addr} {args : List D} {Q : D -> Aa -> Prop} {n : Nat} (O : Ok c) (K : Hw c.K C fI) (R : Af A (n + 1))
   (h : ∀ A' x dd σ0, Af A' n -> σ0 x = some (.inst C dd) -> σ0 dd = some (.ns []) -> Fr σ σ0 [] -> σ x = none -> σ dd = none -> (∀ b, σ0 b = none -> σ b = none) -> AB c A' (.ref fI) (.ref x :: args) σ0 fun d σ' => d = .none /\ Q (.ref x) σ') : Ac c A (.ref C) args σ Q := by iterate 1
 exact
  (AB.cls O.X K.m K.i K.t R fun A' x dd R' hx hd hxd => h A' x dd _ R' (Aa.DZ ..) ((Aa.B5 _ _ (Ne.symm hxd)).trans (Aa.DZ ..)) ((Fr.new [] hd).trans (Fr.new [] ((Aa.B5 _ _ hxd).trans hx))) hx hd fun b hb => by
   have h1 : b ≠ x := fun q => by rw [q, Aa.DZ] at hb; cases hb
   rw [Aa.B5 _ _ h1] at hb
   have h2 : b ≠ dd := fun q => by rw [q, Aa.DZ] at hb; cases hb
   rwa [Aa.B5 _ _ h2] at hb).call
theorem Bp.mk {a cl dd : Addr} {es : List (Str × D)} {x : Str} {r : D} {Q : D -> Aa -> Prop} (h1 : σ a = some (.inst cl dd)) (h2 : σ dd = some (.ns es)) (h3 : es.lookup x = some r) (h4 : CF c.K cl x) (q : Q r σ) : Bp c σ (.ref a) x Q := by iterate 1
 exact ⟨a, cl, dd, es, r, rfl, h1, h2, h3, h4, q⟩
theorem Cq.mk {a cl dd : Addr} {es : List (Str × D)} {x : Str} {d : D} {Q : Aa -> Prop} (h1 : σ a = some (.inst cl dd)) (h2 : σ dd = some (.ns es)) (h4 : CG c.K cl x) (hz : Nat.ble es.length 899 = true) (q : ∀ σ', Upd σ σ' dd (.ns (Dv x d es)) -> Q σ') : Cq c σ (.ref a) x d Q := by iterate 1
 exact
  ⟨a, cl, dd, es, rfl, h1, h2, h4, O5 (DR hz), q⟩
namespace GM
variable {K : Value -> List D -> Prop}
theorem own {a cl dd f : Addr} {es : List (Str × D)} {x : Str} (O : Ok c) (h1 : σ a = some (.inst cl dd)) (h2 : σ dd = some (.ns es)) (h3 : es.lookup x = none) (h4 : BJ c.K cl x f) (k : K (.ref f) [.ref a]) : GM c A x (.ref a) σ K := by iterate 1
 exact GM.inst O.X h1 h2 h3 h4.g h4.h h4.t h4.k k
theorem list {name : Str} {id : String} {l : Addr} {ds : List D} (h : σ l = some (.list ds)) (slot : Slot "list" name id) (hty : typeOf (.builtin id) = pure (.type "method_descriptor")) (k : K (.builtin id) [.ref l]) : GM c A name (.ref l) σ K := by iterate 1
 exact
  GM.builtin F.plainAttrs_list slot hty (KS h) k
theorem append {l : Addr} {ds : List D} (h : σ l = some (.list ds)) (k : K (.builtin "list.append") [.ref l]) : GM c A "append" (.ref l) σ K := by iterate 1
 exact list h F.slot_list_append F.type_list_append k
theorem extend {l : Addr} {ds : List D} (h : σ l = some (.list ds)) (k : K (.builtin "list.extend") [.ref l]) : GM c A "extend" (.ref l) σ K := by iterate 1
 exact list h F.slot_list_extend F.type_list_extend k
theorem pop {l : Addr} {ds : List D} (h : σ l = some (.list ds)) (k : K (.builtin "list.pop") [.ref l]) : GM c A "pop" (.ref l) σ K := by iterate 1
 exact list h F.slot_list_pop F.type_list_pop k
theorem getS {l : Addr} {es : List (Str × D)} (h : σ l = some (.dictS es)) (k : K (.builtin "dict.get") [.ref l]) : GM c A "get" (.ref l) σ K := by iterate 1
 exact GM.builtin F.plainAttrs_dict F.slot_dict_get F.type_dict_get (KU h) k
theorem getT {l : Addr} {es : List (List D × D)} (h : σ l = some (.dictT es)) (k : K (.builtin "dict.get") [.ref l]) : GM c A "get" (.ref l) σ K := by iterate 1
 exact GM.builtin F.plainAttrs_dict F.slot_dict_get F.type_dict_get (KV h) k
theorem items {l : Addr} {es : List (Str × D)} (h : σ l = some (.dictS es)) (k : K (.builtin "dict.items") [.ref l]) : GM c A "items" (.ref l) σ K := by iterate 1
 exact GM.builtin F.plainAttrs_dict F.slot_dict_items F.type_dict_items (KU h) k
theorem setdefault {l : Addr} {es : List (List D × D)} (h : σ l = some (.dictT es)) (k : K (.builtin "dict.setdefault") [.ref l]) : GM c A "setdefault" (.ref l) σ K := by iterate 1
 exact GM.builtin F.plainAttrs_dict F.slot_dict_setdefault F.type_dict_setdefault (KV h) k
theorem popI {l : Addr} {es : List (Int × D)} (h : σ l = some (.dictI es)) (k : K (.builtin "dict.pop") [.ref l]) : GM c A "pop" (.ref l) σ K := by iterate 1
 exact GM.builtin F.plainAttrs_dict F.slot_dict_pop F.type_dict_pop (RE h) k
theorem isspace {x : Str} (k : K (.builtin "str.isspace") [.str x]) : GM c A "isspace" (.str x) σ K := by iterate 1
 exact GM.builtin F.plainAttrs_str PySem.F.slot_str_isspace PySem.F.type_str_isspace (fun s v S r => by
  cases r with
  | str _ t => exact ⟨by first | exact rfl | trivial, fun a e => by cases e⟩) k
end GM
namespace C
variable {Q : D -> Aa -> Prop}
theorem append {l : Addr} {xs : List D} {d : D} (h : σ l = some (.list xs)) (hz : xs.length <= 1000000) (q : ∀ σ', Upd σ σ' l (.list (xs ++ [d])) -> Q .none σ') : Ac c A (.builtin "list.append") [.ref l, d] σ Q := Ac.append h hz (q _ (.set ..))
theorem extend {l k : Addr} {xs ys : List D} (h : σ l = some (.list xs)) (h' : σ k = some (.list ys)) (hz : xs.length + ys.length <= 1000000) (q : ∀ σ', Upd σ σ' l (.list (xs ++ ys)) -> Q .none σ') : Ac c A (.builtin "list.extend") [.ref l, .ref k] σ Q := Ac.extend h h' hz (q _ (.set ..))
theorem pop {l : Addr} {xs : List D} {d : D} (h : σ l = some (.list (xs ++ [d]))) (hz : xs.length <= 1000000) (q : ∀ σ', Upd σ σ' l (.list xs) -> Q d σ') : Ac c A (.builtin "list.pop") [.ref l] σ Q := Ac.pop h hz (q _ (.set ..))
theorem popI {a : Addr} {es : List (Int × D)} {k : Int} {d : D} (h : σ a = some (.dictI es)) (hz : es.length <= 1000000) (hd : AN es k = some d) (q : ∀ σ', Upd σ σ' a (.dictI (GB es k)) -> Q d σ') : Ac c A (.builtin "dict.pop") [.ref a, .int k] σ Q := Ac.popD dkI h hz hd (q _ (.set ..))
theorem setI {a : Addr} {es : List (Int × D)} {k : Int} {d : D} {Q : Aa -> Prop} (h : σ a = some (.dictI es)) (hz : es.length <= 1000000) (q : ∀ σ', Upd σ σ' a (.dictI (Bb es k d)) -> Q σ') : SI c A (.ref a) (.int k) d σ Q := SI.dict dkI h hz (q _ (.set ..))
theorem setS {a : Addr} {es : List (Str × D)} {k : Str} {d : D} {Q : Aa -> Prop} (h : σ a = some (.dictS es)) (hz : es.length <= 1000000) (q : ∀ σ', Upd σ σ' a (.dictS (Bb es k d)) -> Q σ') : SI c A (.ref a) (.str k) d σ Q := SI.dict dkS h hz (q _ (.set ..))
theorem setT {a : Addr} {es : List (List D × D)} {k : List D} {d : D} {Q : Aa -> Prop} (hu : A.units + 20 < cLine) (h : σ a = some (.dictT es)) (hk : Al 4 (.tup k) = true) (hz : es.length <= 1000000) (q : ∀ σ', Upd σ σ' a (.dictT (Bb es k d)) -> Q σ') : SI c A (.ref a) (.tup k) d σ Q := SI.dictT hu h hk hz (q _ (.set ..))
theorem setL {l : Addr} {ds : List D} {i : Int} {d : D} {Q : Aa -> Prop} (h : σ l = some (.list ds)) (h0 : 0 <= i) (hi : i < ds.length) (hz : ds.length <= 1000000) (q : ∀ σ', Upd σ σ' l (.list (ds.set i.toNat d)) -> Q σ') : SI c A (.ref l) (.int i) d σ Q := SI.list h h0 hi hz (q _ (.set ..))
theorem addL {a b : Addr} {xs ys : List D} (ha : σ a = some (.list xs)) (hb : σ b = some (.list ys)) (hz : xs.length + ys.length <= 1000000) (q : ∀ l σ', New σ σ' l (.list (xs ++ ys)) -> Q (.ref l) σ') : BOP c A .Add (.ref a) (.ref b) σ Q := by iterate 1
 exact BOP.addL ha hb hz fun l n => q l _ (.set _ n)
theorem setdefault {a : Addr} {es : List (List D × D)} {k : List D} {d : D} (hu : A.units + 20 < cLine) (h : σ a = some (.dictT es)) (hk : Al 4 (.tup k) = true) (hz : es.length <= 1000000)
   (q1 : ∀ e, AN es k = some e -> Q e σ) (q2 : AN es k = none -> ∀ σ', Upd σ σ' a (.dictT (Bb es k d)) -> Q d σ') : Ac c A (.builtin "dict.setdefault") [.ref a, .tup k, d] σ Q := by iterate 1
 exact Ac.R9 hu h hk hz (by
  cases e : AN es k with
  | none => exact q2 e _ (.set ..)
  | some x => exact q1 x e)
theorem range {n : Nat} (q : ∀ r t u v σ', New σ σ' r (.raw (FK n t u v)) -> Q (.ref r) σ') : Ac c A (.type "range") [.int n] σ Q := by iterate 1
 exact Ac.range fun r t u v n => q r t u v _ (.set _ n)
theorem listL {l : Addr} {ds : List D} (h : σ l = some (.list ds)) (hz : ds.length <= 1000000) (q : ∀ l' σ', New σ σ' l' (.list ds) -> Q (.ref l') σ') : Ac c A (.type "list") [.ref l] σ Q := by iterate 1
 exact Ac.listL h hz fun l n => q l _ (.set _ n)
theorem listRange {r : Addr} {n : Nat} {t u v : Tok} (hh : A.handled = none) (h : σ r = some (.raw (FK n t u v))) (hz : n <= 1000000) (q : ∀ l' σ', New σ σ' l' (.list (Ce n)) -> Q (.ref l') σ') : Ac c A (.type "list") [.ref r] σ Q := by iterate 1
 exact Ac.listRange hh h hz fun l n => q l _ (.set _ n)
theorem dictS {a : Addr} {es : List (Str × D)} (h : σ a = some (.dictS es)) (hz : es.length <= 1000000) (q : ∀ l' σ', New σ σ' l' (.dictS es) -> Q (.ref l') σ') : Ac c A (.type "dict") [.ref a] σ Q := by iterate 1
 exact Ac.Su dkS h hz fun l n => q l _ (.set _ n)
theorem dictPairs {l : Addr} {ps : List (Str × D)} (hh : A.handled = none) (h : σ l = some (.list (BW ps))) (hz : ps.length <= 1000) (q : ∀ l' σ', New σ σ' l' (.dictS (EH [] ps)) -> Q (.ref l') σ') : Ac c A (.type "dict") [.ref l] σ Q := by iterate 1
 exact Ac.dictPairs hh h hz fun l n => q l _ (.set _ n)
theorem items {a : Addr} {es : List (Str × D)} (h : σ a = some (.dictS es)) (q : ∀ l' σ', New σ σ' l' (.raw (EG a)) -> Q (.ref l') σ') : Ac c A (.builtin "dict.items") [.ref a] σ Q := by iterate 1
 exact Ac.items h fun l n => q l _ (.set _ n)
theorem listItems {a l : Addr} {es : List (Str × D)} (hh : A.handled = none) (h : σ a = some (.dictS es)) (hl : σ l = some (.raw (EG a))) (hz : es.length <= 1000000) (q : ∀ l' σ', New σ σ' l' (.list (BW es)) -> Q (.ref l') σ') : Ac c A (.type "list") [.ref l] σ Q := by iterate 1
 exact Ac.listItems hh h hl hz fun l n => q l _ (.set _ n)
end C
end
theorem AH.list (hh : A.handled = none) (h : σ l = some (.list ds)) : AH c A (.ref l) σ ds (fun σ => σ l = some (.list ds)) := fun _ => ITR.list hh h
theorem AH.tup (hh : A.handled = none) : AH c A (.tup ds) σ ds (fun _ => True) := fun _ => ITR.tup hh
theorem AH.str (hh : A.handled = none) : AH c A (.str x) σ (FJ x) (fun _ => True) := fun _ => ITR.str hh
theorem AH.range {c : Cx} {A : Around} {σ : Aa} (hh : A.handled = none) {r : Addr} {n : Nat} {t u v : Tok} (hn : n < 1000000) (h : σ r = some (.raw (FK n t u v))) : AH c A (.ref r) σ (Ce n) (fun _ => True) := fun _ => ITR.range hh hn h
end
section
variable {c : Cx} {A : Around} {σ : Aa} {Q : D -> Aa -> Prop} {n : Nat}
theorem d67 (O : Ok c) (R : Af A (n + 1)) (h : ∀ A, Af A n -> z67.1 c A (slots 1 [x0]) σ (RQ Q)) : Ac c A (.ref 67) [x0] σ Q := (AB.tr z67.2 O (fO67 O) (pO67 O) rfl rfl (by kernel_rfl) R h).call
theorem d74 (O : Ok c) (R : Af A (n + 1)) (h : ∀ A, Af A n -> z74.1 c A (slots 1 [x0]) σ (RQ Q)) : Ac c A (.ref 74) [x0] σ Q := (AB.tr z74.2 O (fO74 O) (pO74 O) rfl rfl (by kernel_rfl) R h).call
theorem c88 (O : Ok c) (R : Af A (n + 1)) (h : ∀ A, Af A n -> z88.1 c A (slots 1 [x0]) σ (RQ Q)) : AB c A (.ref 88) [x0] σ Q := by iterate 1
 exact AB.tr z88.2 O (fO88 O) (pO88 O) rfl rfl (by kernel_rfl) R h
theorem d100 (O : Ok c) (R : Af A (n + 1)) (h : ∀ A, Af A n -> z100.1 c A (slots 5 [x0, x1, x2]) σ (RQ Q)) : Ac c A (.ref 100) [x0, x1, x2] σ Q := by iterate 1
 exact (AB.tr z100.2 O (fO100 O) (pO100 O) rfl rfl (by kernel_rfl) R h).call
theorem d107 (O : Ok c) (R : Af A (n + 1)) (h : ∀ A, Af A n -> z107.1 c A (slots 2 [x0, x1]) σ (RQ Q)) : Ac c A (.ref 107) [x0, x1] σ Q := by iterate 1
 exact (AB.tr z107.2 O (fO107 O) (pO107 O) rfl rfl (by kernel_rfl) R h).call
theorem d135 (O : Ok c) (R : Af A (n + 1)) (h : ∀ A, Af A n -> z135.1 c A (slots 2 [x0, x1]) σ (RQ Q)) : Ac c A (.ref 135) [x0, x1] σ Q := by iterate 1
 exact (AB.tr z135.2 O (fO135 O) (pO135 O) rfl rfl (by kernel_rfl) R h).call
theorem d142 (O : Ok c) (R : Af A (n + 1)) (h : ∀ A, Af A n -> z142.1 c A (slots 2 [x0, x1]) σ (RQ Q)) : Ac c A (.ref 142) [x0, x1] σ Q := by iterate 1
 exact (AB.tr z142.2 O (fO142 O) (pO142 O) rfl rfl (by kernel_rfl) R h).call
theorem c196 (O : Ok c) (R : Af A (n + 1)) (h : ∀ A, Af A n -> z196.1 c A (slots 2 [x0, x1]) σ (RQ Q)) : AB c A (.ref 196) [x0, x1] σ Q := by iterate 1
 exact AB.tr z196.2 O (fO196 O) (pO196 O) rfl rfl (by kernel_rfl) R h
theorem d201 (O : Ok c) (R : Af A (n + 1)) (h : ∀ A, Af A n -> z201.1 c A (slots 11 [x0, x1, x2, x3]) σ (RQ Q)) : Ac c A (.ref 201) [x0, x1, x2, x3] σ Q := by iterate 1
 exact (AB.tr z201.2 O (fO201 O) (pO201 O) rfl rfl (by kernel_rfl) R h).call
theorem d208 (O : Ok c) (R : Af A (n + 1)) (h : ∀ A, Af A n -> z208.1 c A (slots 5 [x0, x1, x2]) σ (RQ Q)) : Ac c A (.ref 208) [x0, x1, x2] σ Q := by iterate 1
 exact (AB.tr z208.2 O (fO208 O) (pO208 O) rfl rfl (by kernel_rfl) R h).call
theorem d213 (O : Ok c) (R : Af A (n + 1)) (h : ∀ A, Af A n -> z213.1 c A (slots 2 [x0, x1]) σ (RQ Q)) : Ac c A (.ref 213) [x0, x1] σ Q := by iterate 1
 exact (AB.tr z213.2 O (fO213 O) (pO213 O) rfl rfl (by kernel_rfl) R h).call
theorem c234 (O : Ok c) (R : Af A (n + 1)) (h : ∀ A, Af A n -> z234.1 c A (slots 1 [x0]) σ (RQ Q)) : AB c A (.ref 234) [x0] σ Q := by iterate 1
 exact AB.tr z234.2 O (fO234 O) (pO234 O) rfl rfl (by kernel_rfl) R h
theorem d241 (O : Ok c) (R : Af A (n + 1)) (h : ∀ A, Af A n -> z241.1 c A (slots 1 [x0]) σ (RQ Q)) : Ac c A (.ref 241) [x0] σ Q := (AB.tr z241.2 O (fO241 O) (pO241 O) rfl rfl (by kernel_rfl) R h).call
theorem d248 (O : Ok c) (R : Af A (n + 1)) (h : ∀ A, Af A n -> z248.1 c A (slots 1 [x0]) σ (RQ Q)) : Ac c A (.ref 248) [x0] σ Q := (AB.tr z248.2 O (fO248 O) (pO248 O) rfl rfl (by kernel_rfl) R h).call
theorem d255 (O : Ok c) (R : Af A (n + 1)) (h : ∀ A, Af A n -> z255.1 c A (slots 2 [x0, x1]) σ (RQ Q)) : Ac c A (.ref 255) [x0, x1] σ Q := by iterate 1
 exact (AB.tr z255.2 O (fO255 O) (pO255 O) rfl rfl (by kernel_rfl) R h).call
theorem d262 (O : Ok c) (R : Af A (n + 1)) (h : ∀ A, Af A n -> Md.1 c A (slots 5 [x0, x1, x2]) σ (RQ Q)) : Ac c A (.ref 262) [x0, x1, x2] σ Q := by iterate 1
 exact (AB.tr Md.2 O (fO262 O) (pO262 O) rfl rfl (by kernel_rfl) R h).call
theorem d269 (O : Ok c) (R : Af A (n + 1)) (h : ∀ A, Af A n -> z269.1 c A (slots 2 [x0, x1]) σ (RQ Q)) : Ac c A (.ref 269) [x0, x1] σ Q := by iterate 1
 exact (AB.tr z269.2 O (fO269 O) (pO269 O) rfl rfl (by kernel_rfl) R h).call
theorem d274 (O : Ok c) (R : Af A (n + 1)) (h : ∀ A, Af A n -> z274.1 c A (slots 1 [x0]) σ (RQ Q)) : Ac c A (.ref 274) [x0] σ Q := (AB.tr z274.2 O (fO274 O) (pO274 O) rfl rfl (by kernel_rfl) R h).call
theorem c316 (O : Ok c) (R : Af A (n + 1)) (h : ∀ A, Af A n -> z316.1 c A (slots 1 [x0]) σ (RQ Q)) : AB c A (.ref 316) [x0] σ Q := by iterate 1
 exact AB.tr z316.2 O (fO316 O) (pO316 O) rfl rfl (by kernel_rfl) R h
theorem d328 (O : Ok c) (R : Af A (n + 1)) (h : ∀ A, Af A n -> z328.1 c A (slots 2 [x0, x1]) σ (RQ Q)) : Ac c A (.ref 328) [x0, x1] σ Q := by iterate 1
 exact (AB.tr z328.2 O (fO328 O) (pO328 O) rfl rfl (by kernel_rfl) R h).call
theorem d333 (O : Ok c) (R : Af A (n + 1)) (h : ∀ A, Af A n -> z333.1 c A (slots 5 [x0, x1, x2]) σ (RQ Q)) : Ac c A (.ref 333) [x0, x1, x2] σ Q := by iterate 1
 exact (AB.tr z333.2 O (fO333 O) (pO333 O) rfl rfl (by kernel_rfl) R h).call
theorem d347 (O : Ok c) (R : Af A (n + 1)) (h : ∀ A, Af A n -> z347.1 c A (slots 3 [x0, x1]) σ (RQ Q)) : Ac c A (.ref 347) [x0, x1] σ Q := by iterate 1
 exact (AB.tr z347.2 O (fO347 O) (pO347 O) rfl rfl (by kernel_rfl) R h).call
theorem d354 (O : Ok c) (R : Af A (n + 1)) (h : ∀ A, Af A n -> z354.1 c A (slots 2 [x0, x1]) σ (RQ Q)) : Ac c A (.ref 354) [x0, x1] σ Q := by iterate 1
 exact (AB.tr z354.2 O (fO354 O) (pO354 O) rfl rfl (by kernel_rfl) R h).call
theorem d368 (O : Ok c) (R : Af A (n + 1)) (h : ∀ A, Af A n -> Me.1 c A (slots 4 [x0, x1, x2, x3]) σ (RQ Q)) : Ac c A (.ref 368) [x0, x1, x2, x3] σ Q := by iterate 1
 exact (AB.tr Me.2 O (fO368 O) (pO368 O) rfl rfl (by kernel_rfl) R h).call
theorem d375 (O : Ok c) (R : Af A (n + 1)) (h : ∀ A, Af A n -> z375.1 c A (slots 7 [x0, x1, x2, x3]) σ (RQ Q)) : Ac c A (.ref 375) [x0, x1, x2, x3] σ Q := by iterate 1
 exact (AB.tr z375.2 O (fO375 O) (pO375 O) rfl rfl (by kernel_rfl) R h).call
theorem d382 (O : Ok c) (R : Af A (n + 1)) (h : ∀ A, Af A n -> z382.1 c A (slots 1 [x0]) σ (RQ Q)) : Ac c A (.ref 382) [x0] σ Q := (AB.tr z382.2 O (fO382 O) (pO382 O) rfl rfl (by kernel_rfl) R h).call
theorem d396 (O : Ok c) (R : Af A (n + 1)) (h : ∀ A, Af A n -> z396.1 c A (slots 1 [x0]) σ (RQ Q)) : Ac c A (.ref 396) [x0] σ Q := (AB.tr z396.2 O (fO396 O) (pO396 O) rfl rfl (by kernel_rfl) R h).call
theorem d403 (O : Ok c) (R : Af A (n + 1)) (h : ∀ A, Af A n -> z403.1 c A (slots 2 [x0, x1]) σ (RQ Q)) : Ac c A (.ref 403) [x0, x1] σ Q := by iterate 1
 exact (AB.tr z403.2 O (fO403 O) (pO403 O) rfl rfl (by kernel_rfl) R h).call
theorem d408 (O : Ok c) (R : Af A (n + 1)) (h : ∀ A, Af A n -> Mg.1 c A (slots 2 [x0, x1]) σ (RQ Q)) : Ac c A (.ref 408) [x0, x1] σ Q := by iterate 1
 exact (AB.tr Mg.2 O (fO408 O) (pO408 O) rfl rfl (by kernel_rfl) R h).call
theorem d441 (O : Ok c) (R : Af A (n + 1)) (h : ∀ A, Af A n -> z441.1 c A (slots 0 []) σ (RQ Q)) : Ac c A (.ref 441) [] σ Q := by iterate 1
 exact (AB.tr z441.2 O (fO441 O) (pO441 O) rfl rfl (by kernel_rfl) R h).call
theorem d448 (O : Ok c) (R : Af A (n + 1)) (h : ∀ A, Af A n -> z448.1 c A (slots 4 [x0, x1]) σ (RQ Q)) : Ac c A (.ref 448) [x0, x1] σ Q := by iterate 1
 exact (AB.tr z448.2 O (fO448 O) (pO448 O) rfl rfl (by kernel_rfl) R h).call
theorem d453 (O : Ok c) (R : Af A (n + 1)) (h : ∀ A, Af A n -> z453.1 c A (slots 8 [x0, x1, x2, x3]) σ (RQ Q)) : Ac c A (.ref 453) [x0, x1, x2, x3] σ Q := by iterate 1
 exact (AB.tr z453.2 O (fO453 O) (pO453 O) rfl rfl (by kernel_rfl) R h).call
theorem d458 (O : Ok c) (R : Af A (n + 1)) (h : ∀ A, Af A n -> z458.1 c A (slots 2 [x0, x1]) σ (RQ Q)) : Ac c A (.ref 458) [x0, x1] σ Q := by iterate 1
 exact (AB.tr z458.2 O (fO458 O) (pO458 O) rfl rfl (by kernel_rfl) R h).call
theorem d463 (O : Ok c) (R : Af A (n + 1)) (h : ∀ A, Af A n -> z463.1 c A (slots 4 [x0, x1, x2]) σ (RQ Q)) : Ac c A (.ref 463) [x0, x1, x2] σ Q := by iterate 1
 exact (AB.tr z463.2 O (fO463 O) (pO463 O) rfl rfl (by kernel_rfl) R h).call
theorem d470 (O : Ok c) (R : Af A (n + 1)) (h : ∀ A, Af A n -> z470.1 c A (slots 6 [x0, x1]) σ (RQ Q)) : Ac c A (.ref 470) [x0, x1] σ Q := by iterate 1
 exact (AB.tr z470.2 O (fO470 O) (pO470 O) rfl rfl (by kernel_rfl) R h).call
theorem d475 (O : Ok c) (R : Af A (n + 1)) (h : ∀ A, Af A n -> z475.1 c A (slots 5 [x0, x1]) σ (RQ Q)) : Ac c A (.ref 475) [x0, x1] σ Q := by iterate 1
 exact (AB.tr z475.2 O (fO475 O) (pO475 O) rfl rfl (by kernel_rfl) R h).call
theorem d480 (O : Ok c) (R : Af A (n + 1)) (h : ∀ A, Af A n -> z480.1 c A (slots 4 [x0, x1, x2]) σ (RQ Q)) : Ac c A (.ref 480) [x0, x1, x2] σ Q := by iterate 1
 exact (AB.tr z480.2 O (fO480 O) (pO480 O) rfl rfl (by kernel_rfl) R h).call
theorem d485 (O : Ok c) (R : Af A (n + 1)) (h : ∀ A, Af A n -> z485.1 c A (slots 3 [x0]) σ (RQ Q)) : Ac c A (.ref 485) [x0] σ Q := (AB.tr z485.2 O (fO485 O) (pO485 O) rfl rfl (by kernel_rfl) R h).call
theorem d490 (O : Ok c) (R : Af A (n + 1)) (h : ∀ A, Af A n -> z490.1 c A (slots 7 [x0, x1, x2]) σ (RQ Q)) : Ac c A (.ref 490) [x0, x1, x2] σ Q := by iterate 1
 exact (AB.tr z490.2 O (fO490 O) (pO490 O) rfl rfl (by kernel_rfl) R h).call
theorem d495 (O : Ok c) (R : Af A (n + 1)) (h : ∀ A, Af A n -> z495.1 c A (slots 16 [x0]) σ (RQ Q)) : Ac c A (.ref 495) [x0] σ Q := (AB.tr z495.2 O (fO495 O) (pO495 O) rfl rfl (by kernel_rfl) R h).call
end
section
variable {c : Cx} {A : Around} {vs : VS} {σ : Aa} {QX : AFl -> VS -> Aa -> Prop} {Q : D -> Aa -> Prop} {d : D} {ds : List D} {Hold : Aa -> Prop}
theorem Mj {t : BT} {b r : XT} {α : Type} (f : α -> VS) (m : α -> Nat) (P : α -> Aa -> Prop) (x0 : α) (hv : vs = f x0) (h0 : P x0 σ)
  (step : ∀ x σ', P x σ' -> t c A (f x) σ' fun k σ1 => match k with
   | true => b c A (f x) σ1 (T.loop (fun vs2 σ2 => ∃ y, m y < m x /\ vs2 = f y /\ P y σ2) r c A QX)
   | false => r c A (f x) σ1 QX) : PP t b r c A vs σ QX := by iterate 1
 subst hv
 refine ⟨fun n vs' σ' => ∃ x, n = m x /\ vs' = f x /\ P x σ', m x0, ⟨x0, rfl, rfl, h0⟩, ?_⟩
 rintro _ _ σ' ⟨x, rfl, rfl, h⟩
 have e : (fun (vs2 : VS) (σ2 : Aa) => ∃ k, k < m x /\ ∃ y, k = m y /\ vs2 = f y /\ P y σ2) = fun vs2 σ2 => ∃ y, m y < m x /\ vs2 = f y /\ P y σ2 := by
  funext vs2 σ2
  exact propext ⟨fun ⟨k, h1, y, h2, h3⟩ => ⟨y, h2 ▸ h1, h3⟩, fun ⟨y, h1, h2⟩ => ⟨m y, h1, y, rfl, h2⟩⟩
 rw [e]
 exact step x σ' h
theorem Dq {α : Type} (I : AH c A d σ ds Hold) (f : α -> VS) (P : Nat -> α -> Aa -> Prop) (x0 : α) (hv : vs = f x0) (h0 : P 0 x0 σ)
  (hold : ∀ i x σ', P i x σ' -> Hold σ')
  (step : ∀ i e x σ', P i x σ' -> ds[i]? = some e -> bd e (fun vs2 => b c A vs2 σ' (T.loop (fun vs3 σ3 => ∃ y, vs3 = f y /\ P (i + 1) y σ3) r c A QX)) (f x))
  (fin : ∀ x σ', P ds.length x σ' -> r c A (f x) σ' QX) :
  FOR bd b r c A vs QX d σ := by iterate 1
 subst hv
 refine ⟨ds, Hold, I, fun i vs' σ' => ∃ x, vs' = f x /\ P i x σ', ⟨x0, rfl, h0⟩, fun i _ σ' ⟨x, _, h⟩ => hold i x σ' h, ?_, ?_⟩
 ·rintro i e _ σ' ⟨x, rfl, h⟩ he
  exact step i e x σ' h he
 ·rintro _ σ' ⟨x, rfl, h⟩
  exact fin x σ' h
theorem FZ (I : AH c A d σ ds Hold) (P : Nat -> List D -> Aa -> Prop) (h0 : P 0 [] σ) (hold : ∀ i acc σ', P i acc σ' -> Hold σ')
 (step : ∀ i x acc σ', P i acc σ' -> ds[i]? = some x -> bd x (fun vs' => t c A vs' σ' fun ok σ2 => match ok with | true => e c A vs' σ2 fun d' σ3 => acc.length <= 1000000 /\ P (i + 1) (acc ++ [d']) σ3 | false => P (i + 1) acc σ2) vs)
 (fin : ∀ acc σ', P ds.length acc σ' -> ∀ a σ'', New σ' σ'' a (.list acc) -> Q (.ref a) σ'') :
 JY bd t e c A vs Q d σ := ⟨ds, Hold, I, P, h0, hold, step, fin⟩
theorem Vb {α β : Type} {l : List α} {g : α -> β} {x : α} (h : l[i]? = some x) : (l.take i).map g ++ [g x] = (l.take (i + 1)).map g := by iterate 1
 rw [Co, h, Bo]; rfl
noncomputable def Ea {α : Type} (l : List α) (g : α -> D) (J : Aa -> Prop) (i : Nat) : D -> Aa -> Prop := fun d' σ' => ((l.take i).map g).length <= 1000000 /\ (l.take i).map g ++ [d'] = (l.take (i + 1)).map g /\ J σ'
theorem Ea.mk {α : Type} {l : List α} {g : α -> D} {J : Aa -> Prop} {x : α} {σ' : Aa} (hz : l.length <= 1000000) (hx : l[i]? = some x) (h : J σ') : Ea l g J i (g x) σ' := by iterate 1
 exact
  ⟨by rw [Am, C7]; exact Ap (Fp _ _) hz, Vb hx, h⟩
theorem Fq {α : Type} {bd : D -> (VS -> Prop) -> VS -> Prop} {e : VT} {k : α -> D} (l : List α) (g : α -> D) (J : Aa -> Prop) (I : AH c A d σ (l.map k) Hold) (hJ : J σ) (hold : ∀ σ', J σ' -> Hold σ')
  (step : ∀ i x σ', J σ' -> l[i]? = some x -> bd (k x) (fun vs' => e c A vs' σ' (Ea l g J i)) vs)
  (fin : ∀ σ', J σ' -> ∀ a σ'', New σ' σ'' a (.list (l.map g)) -> Q (.ref a) σ'') :
  JY bd T.yes e c A vs Q d σ := by iterate 1
 refine ⟨l.map k, Hold, I, fun i acc σ' => acc = (l.take i).map g /\ J σ', ⟨rfl, hJ⟩, fun i acc σ' h => hold σ' h.2, ?_, ?_⟩
 ·rintro i x acc σ' ⟨rfl, h⟩ hx
  rw [Bs, Dl] at hx
  obtain ⟨y, hy, rfl⟩ := hx
  exact step i y σ' h hy
 ·rintro acc σ' ⟨rfl, h⟩
  rw [Am, Ci]
  exact fin σ' h
theorem Vc {α : Type} (f : α -> VS) (P : Nat -> α -> Aa -> Prop) (x0 : α) (hv : vs = f x0) (h0 : P 0 x0 σ)
  (step : ∀ z, σ z = none -> ∀ i' p q x σ', P i' x σ' -> xs[i']? = some p -> ys[i']? = some q -> b (c.plus z) A (put (put (f x) i p) j q) σ' (T.loop (fun vs3 σ3 => ∃ y, vs3 = f y /\ P (i' + 1) y σ3) (fun _ _ _ _ _ => False) c A QX))
  (fin : ∀ x σ', P (min xs.length ys.length) x σ' -> r c A (f x) σ' QX) : ZIP i j b r c A vs QX (.tup xs) (.tup ys) σ := by iterate 1
 subst hv
 refine ⟨xs, ys, rfl, rfl, fun z hz => ⟨fun i vs' σ' => ∃ x, vs' = f x /\ P i x σ', ⟨x0, rfl, h0⟩, ?_, ?_⟩⟩
 ·rintro i' p q _ σ' ⟨x, rfl, h⟩ hp hq
  exact step z hz i' p q x σ' h hp hq
 ·rintro _ σ' ⟨x, rfl, h⟩
  exact fin x σ' h
theorem Ml (I : AH c A d σ ds Hold) (P : Nat -> List D -> Aa -> Prop) (h0 : P 0 [] σ) (hold : ∀ i acc σ', P i acc σ' -> Hold σ')
 (step : ∀ i x acc σ', P i acc σ' -> ds[i]? = some x -> b c A (vs ++ [some x]) σ' (L9 e c A vs x acc (P (i + 1))))
 (fin : ∀ acc σ', P ds.length acc σ' -> ∀ a σ'', New σ' σ'' a (.list acc) -> Q (.ref a) σ'') : Mb b e c A vs Q d σ := ⟨ds, Hold, I, P, h0, hold, step, fin⟩
theorem Mm (I : AH c A d σ ds Hold) (P : Nat -> List D -> Aa -> Prop) (h0 : P 0 acc σ) (hold : ∀ i acc σ', P i acc σ' -> Hold σ')
 (step : ∀ j y acc σ', P j acc σ' -> ds[j]? = some y -> e c A (vs ++ [some x, some y]) σ' fun u σ3 => acc.length <= 1000000 /\ P (j + 1) (acc ++ [u]) σ3)
 (fin : ∀ acc σ', P ds.length acc σ' -> P' acc σ') : L9 e c A vs x acc P' d σ := ⟨ds, Hold, I, P, h0, hold, step, fin⟩
variable {QB : Bool -> Aa -> Prop} {a b : Nat}
theorem CMP.eqN (h1 : a = b -> QB true σ) (h2 : a ≠ b -> QB false σ) : CMP c A .Eq (.int a) (.int b) σ QB := by iterate 1
 exact CMP.eqI (by
  by_cases e : a = b
  ·rw [decide_eq_true (congrArg _ e)]; exact h1 e
  ·rw [decide_eq_false (mt DT.mp e)]; exact h2 e)
theorem CMP.neN (h1 : a = b -> QB false σ) (h2 : a ≠ b -> QB true σ) : CMP c A .NotEq (.int a) (.int b) σ QB := by iterate 1
 exact CMP.neI (by
  by_cases e : a = b
  ·rw [decide_eq_true (congrArg _ e)]; exact h1 e
  ·rw [decide_eq_false (mt DT.mp e)]; exact h2 e)
theorem CMP.ltN (h1 : a < b -> QB true σ) (h2 : b <= a -> QB false σ) : CMP c A .Lt (.int a) (.int b) σ QB := by iterate 1
 exact CMP.ltI (by
  by_cases e : a < b
  ·rw [decide_eq_true (Fs.mpr e)]; exact h1 e
  ·rw [decide_eq_false fun z => e (Fs.mp z)]; exact h2 (Mn e))
theorem CMP.gtN (h1 : b < a -> QB true σ) (h2 : a <= b -> QB false σ) : CMP c A .Gt (.int a) (.int b) σ QB := by iterate 1
 exact CMP.gtI (by
  by_cases e : b < a
  ·rw [decide_eq_true (Fs.mpr e)]; exact h1 e
  ·rw [decide_eq_false fun z => e (Fs.mp z)]; exact h2 (Mn e))
theorem CMP.le0 (q : QB true σ) : CMP c A .LtE (.int 0) (.int a) σ QB := by iterate 1
 exact CMP.leI (by rw [decide_eq_true (J1 a)]; exact q)
theorem BOP.HA (q : Q (.int (a + b : Nat)) σ) : BOP c A .Add (.int a) (.int b) σ Q := BOP.Hl q
theorem BOP.J2 (q : Q (.int a) σ) : BOP c A .Sub (.int (a + 1 : Nat)) (.int 1) σ Q := by iterate 1
 exact BOP.subI (by rw [Int.natCast_add]; show Q (.int ((a : Int) + 1 - 1)) σ; rw [Int.add_sub_cancel]; exact q)
theorem PW {n k : Nat} (h : a < n) (hn : n <= 1000000) : (a : Int) < 2 ^ 63 := by omega
theorem IT.at (h : σ l = some (.list xs)) (hz : xs.length <= 1000000) (hd : xs[a]? = some d) (q : Q d σ) : IT c A (.ref l) (.int a) σ Q := by iterate 1
 exact
  IT.list h (J1 a) (PW (k := 0) (AT.mp hd).1 hz) hd q
theorem IT.CV (hz : xs.length <= 1000000) (hd : xs[a]? = some d) (q : Q d σ) : IT c A (.tup xs) (.int a) σ Q := by iterate 1
 exact
  IT.tup (J1 a) (PW (k := 0) (AT.mp hd).1 hz) hd q
end
noncomputable def AJ (l : List Nat) : List Nat := l.mergeSort (fun a b => decide (a <= b))
theorem DU (l : List Nat) : (AJ l).Perm l := List.mergeSort_perm ..
theorem PX (l : List Nat) : (AJ l).Pairwise (· <= ·) := by iterate 1
 have := List.pairwise_mergeSort (le := fun a b : Nat => decide (a <= b)) (by intro a b c; simp; omega) (by intro a b; simp; omega) l
 exact this.imp fun h => by simpa using h
theorem Vd : ltD (.int i) (.int j) = decide (i < j) := by iterate 1
 first | exact GI .. | simp [GI]
theorem Ve (hp : ds.Perm (An l)) : B9 ds = An (AJ l) := by iterate 1
 refine IS (n := 1) (fun d hd => ?_) (hp.trans ((DU l).symm.map _)) ?_
 ·have := hp.mem_iff.mp hd
  obtain ⟨i, _, rfl⟩ := Av.mp this
  rfl
 ·unfold An
  rw [E7]
  refine (PX l).imp fun {a b} h => ?_
  rw [Vd]
  simp; omega
section
variable {c : Cx} {A : Around} {σ : Aa}
theorem Ac.PY (hcol : COL c A.in1 d σ (fun ds => ds.Perm (An l))) (hl : l.length < 64) (hu : A.units + 20 < cLine)
  (q : ∀ a σ', New σ σ' a (.list (An (AJ l))) -> Q (.ref a) σ') : Ac c A (.builtin "sorted") [d] σ Q := by
 refine Ac.GK (k := 0) hcol (fun ds hp => ?_) (by omega)
 have hint : ∀ d ∈ ds, ∃ i, d = .int i := fun d hd => by
  obtain ⟨i, _, rfl⟩ := Av.mp (hp.mem_iff.mp hd)
  exact ⟨_, rfl⟩
 refine ⟨by rw [hp.length_eq]; simpa using hl, fun _ => ⟨_, .kInts hint⟩, fun d hd => ?_, fun d hd e he => ?_, fun a ha => ?_⟩
 ·obtain ⟨i, rfl⟩ := hint d hd; rfl
 ·obtain ⟨i, rfl⟩ := hint d hd
  obtain ⟨j, rfl⟩ := hint e he
  rfl
 ·rw [Ve hp]; exact q a _ (.set _ ha)
theorem Ac.PZ (h : σ a = some (.list (An l))) (hl : l.length < 64) (hu : A.units + 20 < cLine)
   (q : ∀ x σ', New σ σ' x (.list (An (AJ l))) -> Q (.ref x) σ') : Ac c A (.builtin "sorted") [.ref a] σ Q := by iterate 1
 exact
  Ac.PY (fun s v S r => Ai (COL.list h (by simp; omega) s v S r) (fun _ _ ⟨ds, e, k⟩ => ⟨ds, by rw [e], k⟩) fun _ _ e => e) hl hu q
theorem Ac.P0 (hh : A.handled = none) (h : σ a = some (.set ds)) (hp : ds.Perm (An l)) (hl : l.length < 64) (hu : A.units + 20 < cLine)
   (q : ∀ x σ', New σ σ' x (.list (An (AJ l))) -> Q (.ref x) σ') : Ac c A (.builtin "sorted") [.ref a] σ Q := by iterate 1
 exact
  Ac.PY (fun s v S r => Ai (COL.set (A := A.in1) hh h (by rw [hp.length_eq]; simp; omega) s v S r) (fun _ _ ⟨ds, e, k⟩ => ⟨ds, e.trans hp, k⟩) fun _ _ e => e) hl hu q
end
theorem Vf (a b : Nat) : AJ [a, b] = [min a b, max a b] := by iterate 1
 have hp := DU [a, b]
 have hs := PX [a, b]
 have hl := hp.length_eq
 match h : AJ [a, b], hl with
 | [x, y], _ =>
  rw [h] at hp hs
  have hxy : x <= y := by simpa using hs
  have h1 : x = a ∨ x = b := by simpa using hp.mem_iff.mp (Bv (a := x))
  have h3 : x + y = a + b := by have := hp.sum_nat; simpa using this
  rcases h1 with rfl | rfl
  ·have : y = b := by omega
   subst this
   rw [Ft hxy, HB hxy]
  ·have : y = a := by omega
   subst this
   rw [F0 hxy, HC hxy]
theorem HD {α : Type} {l : List α} (h : l.Nodup) {i j : Nat} {x : α} (hi : l[i]? = some x) (hj : l[j]? = some x) : i = j := by iterate 1
 obtain ⟨h1, e1⟩ := AT.mp hi
 obtain ⟨h2, e2⟩ := AT.mp hj
 have hp := Ou.mp h
 rcases Mo i j with q | q | q
 ·exact absurd (e1.trans e2.symm) (hp i j h1 h2 q)
 ·exact q
 ·exact absurd (e2.trans e1.symm) (hp j i h2 h1 q)
theorem CW (R : Af A n) : A.units + 20 < cLine := by iterate 1
 exact Bd (GT (FW _ _) (by decide)) R.units
structure UR where
 u : Addr
 ud : Addr
 al : Addr
 ll : Addr
 ml : Addr
 la : List Addr
noncomputable def UR.fp (r : UR) : List Addr := [r.u, r.ud, r.al, r.ll, r.ml] ++ r.la
noncomputable def UR.more (r : UR) (x : Addr) : UR := { r with la := r.la ++ [x] }
structure UI (σ : Aa) (r : UR) : Prop where
 inst : σ r.u = some (.inst 298 r.ud)
 ns : σ r.ud = some (.ns [("above", .ref r.al), ("lots", .ref r.ll), ("merged", .ref r.ml)])
structure UAt (σ : Aa) (r : UR) (f : UF) : Prop where
 i : UI σ r
 above : σ r.al = some (.list (An f.par))
 lotl : σ r.ll = some (.list (r.la.map D.ref))
 merged : ∃ ms, σ r.ml = some (.list ms) /\ ms.length + f.nroots <= f.par.length
 lot : ∀ (i : Nat) (a : Addr) (l : List Nat), r.la[i]? = some a -> f.lots[i]? = some l -> σ a = some (.list (An l))
 len : r.la.length = f.par.length
 nd : r.fp.Nodup
 wf : f.WF
 sz : f.par.length <= 1000
theorem EM (h : i < l.length) : (An l)[i]? = some (.int (l.getD i i : Nat)) := by iterate 1
 rw [Bt]
 unfold An
 rw [Bs, Bw h]; rfl
theorem Eb (h : n <= 1000) : n <= 1000000 := by omega
section
variable {c : Cx} {A : Around} {σ σ' : Aa} {r : UR} {f : UF} {Q : D -> Aa -> Prop} {K : Value -> List D -> Prop}
theorem UI.fr (I : UI σ r) (F : Fr σ σ' fp) (h1 : r.u ∉ fp) (h2 : r.ud ∉ fp) : UI σ' r := ⟨F.at h1 I.inst, F.at h2 I.ns⟩
theorem UI.upd (I : UI σ r) (u : Upd σ σ' a o) (h1 : r.u ≠ a) (h2 : r.ud ≠ a) : UI σ' r := ⟨u.keep h1 I.inst, u.keep h2 I.ns⟩
theorem UI.new (I : UI σ r) (u : New σ σ' a o) : UI σ' r := ⟨u.keep I.inst, u.keep I.ns⟩
theorem UI.a_above (I : UI σ r) (O : Ok c) (q : Q (.ref r.al) σ) : Bp c σ (.ref r.u) "above" Q := by iterate 1
 exact Bp.mk I.inst I.ns rfl (TK O) q
theorem UI.a_lots (I : UI σ r) (O : Ok c) (q : Q (.ref r.ll) σ) : Bp c σ (.ref r.u) "lots" Q := by iterate 1
 exact Bp.mk I.inst I.ns rfl (TN O) q
theorem UI.a_merged (I : UI σ r) (O : Ok c) (q : Q (.ref r.ml) σ) : Bp c σ (.ref r.u) "merged" Q := by iterate 1
 exact Bp.mk I.inst I.ns rfl (TP O) q
theorem UI.m_find (I : UI σ r) (O : Ok c) (k : K (.ref 255) [.ref r.u]) : GM c A "find" (.ref r.u) σ K := by iterate 1
 exact GM.own O I.inst I.ns rfl (TU O) k
theorem UI.m_make (I : UI σ r) (O : Ok c) (k : K (.ref 241) [.ref r.u]) : GM c A "make" (.ref r.u) σ K := by iterate 1
 exact GM.own O I.inst I.ns rfl (TR O) k
theorem UI.m_size (I : UI σ r) (O : Ok c) (k : K (.ref 248) [.ref r.u]) : GM c A "size" (.ref r.u) σ K := by iterate 1
 exact GM.own O I.inst I.ns rfl (TS O) k
theorem UI.m_merge (I : UI σ r) (O : Ok c) (k : K (.ref 262) [.ref r.u]) : GM c A "merge" (.ref r.u) σ K := by iterate 1
 exact GM.own O I.inst I.ns rfl (TV O) k
theorem UI.m_members (I : UI σ r) (O : Ok c) (k : K (.ref 269) [.ref r.u]) : GM c A "members" (.ref r.u) σ K := by iterate 1
 exact GM.own O I.inst I.ns rfl (TX O) k
theorem UI.m_classes (I : UI σ r) (O : Ok c) (k : K (.ref 274) [.ref r.u]) : GM c A "classes" (.ref r.u) σ K := by iterate 1
 exact GM.own O I.inst I.ns rfl (TY O) k
theorem UAt.fr (U : UAt σ r f) (F : Fr σ σ' fp) (h : ∀ a ∈ r.fp, a ∉ fp) : UAt σ' r f := by iterate 1
 exact {
  i := U.i.fr F (h _ (.head _)) (h _ (.tail _ (.head _)))
  above := F.at (h _ (.tail _ (.tail _ (.head _)))) U.above
  lotl := F.at (h _ (.tail _ (.tail _ (.tail _ (.head _))))) U.lotl
  merged := U.merged.imp fun ms x => ⟨F.at (h _ (.tail _ (.tail _ (.tail _ (.tail _ (.head _)))))) x.1, x.2⟩
  lot := fun i a l ha hl => F.at (h _ (BK _ (AX ha))) (U.lot i a l ha hl)
  len := U.len
  nd := U.nd
  sz := U.sz
  wf := U.wf }
theorem UAt.keep (U : UAt σ r f) (F : Fr σ σ' []) : UAt σ' r f := U.fr F fun _ _ => Ar
theorem UAt.al_len (U : UAt σ r f) : (An f.par).length <= 1000000 := by iterate 1
 exact Eb (by rw [A6]; exact U.sz)
theorem J3 (O : Ok c) (R : Af A 1) (U : UAt σ r f) (ha : a < f.par.length) (q : Q (.int (Ae f.par a : Nat)) σ) : Ac c A (.ref 255) [.ref r.u, .int a] σ Q := by iterate 1
 exact
  d255 O R fun A R => Mj (fun x : Nat => [some (.ref r.u), some (.int x)]) id (fun x σ' => UAt σ' r f /\ Q (.int (Ae f.par a : Nat)) σ' /\ x < f.par.length /\ Ae f.par x = Ae f.par a) a rfl ⟨U, q, ha, rfl⟩ fun x σ' h =>
   have U := h.1
   have hi := EM h.2.2.1
   have hst := (Fi U.wf.le x).symm.trans h.2.2.2
   U.i.a_above O (IT.at U.above U.al_len hi (CMP.neN
    (fun e => by
     have q := h.2.1
     rw [if_pos e] at hst
     rw [<- hst] at q
     exact q)
    fun e => U.i.a_above O (IT.at U.above U.al_len hi ⟨_, Nat.lt_of_le_of_ne (Fh U.wf.le x) e, rfl, U, h.2.1, Bd (Fh U.wf.le x) h.2.2.1, by rw [if_neg e] at hst; exact hst⟩)))
theorem C248 (O : Ok c) (R : Af A 1) (U : UAt σ r f) (q : Q (.int (f.par.length : Nat)) σ) : Ac c A (.ref 248) [.ref r.u] σ Q := by iterate 1
 exact
  d248 O R fun A R => U.i.a_above O (Ac.Cf U.above U.al_len (by rw [A6]; exact q))
structure UNe (r : UR) : Prop where
 u_al : r.u ≠ r.al
 u_ll : r.u ≠ r.ll
 u_ml : r.u ≠ r.ml
 u_la : r.u ∉ r.la
 d_al : r.ud ≠ r.al
 d_ll : r.ud ≠ r.ll
 d_ml : r.ud ≠ r.ml
 d_la : r.ud ∉ r.la
 al_ll : r.al ≠ r.ll
 al_ml : r.al ≠ r.ml
 al_la : r.al ∉ r.la
 ll_ml : r.ll ≠ r.ml
 ll_la : r.ll ∉ r.la
 ml_la : r.ml ∉ r.la
 la : r.la.Nodup
theorem UAt.ne (U : UAt σ r f) : UNe r := by iterate 1
 have nd := U.nd
 simp only [UR.fp, BE, Ay, not_or, GU, GV] at nd
 exact ⟨nd.1.2.1, nd.1.2.2.1, nd.1.2.2.2.1, nd.1.2.2.2.2, nd.2.1.1, nd.2.1.2.1, nd.2.1.2.2.1, nd.2.1.2.2.2, nd.2.2.1.1, nd.2.2.1.2.1, nd.2.2.1.2.2, nd.2.2.2.1.1, nd.2.2.2.1.2, nd.2.2.2.2.1, nd.2.2.2.2.2⟩
theorem UAt.la_some (U : UAt σ r f) (h : x ∈ r.la) : ∃ o, σ x = some o := by iterate 1
 obtain ⟨i, hi⟩ := EZ.mp h
 have := (AT.mp hi).1
 have h2 := U.wf.len
 have h3 := U.len
 exact ⟨_, U.lot i x _ hi (Bw (by omega))⟩
theorem UAt.fp_some (U : UAt σ r f) (h : x ∈ r.fp) : ∃ o, σ x = some o := by iterate 1
 obtain ⟨ms, hm, _⟩ := U.merged
 simp only [UR.fp, GU, GV, Ay] at h
 rcases h with rfl | rfl | rfl | rfl | rfl | h
 ·exact ⟨_, U.i.inst⟩
 ·exact ⟨_, U.i.ns⟩
 ·exact ⟨_, U.above⟩
 ·exact ⟨_, U.lotl⟩
 ·exact ⟨_, hm⟩
 ·exact U.la_some h
theorem UAt.made (U : UAt σ r f) (hsz : f.par.length < 1000) (hx : σ x = none) (F : Fr σ σ' [r.al, r.ll]) (h1 : σ' r.al = some (.list (An f.make.par))) (h2 : σ' r.ll = some (.list ((r.la ++ [x]).map D.ref))) (h3 : σ' x = some (.list (An [f.par.length]))) :
  UAt σ' (r.more x) f.make := by iterate 1
 have N := U.ne
 have flen := U.wf.len
 have nin : ∀ {b : Addr}, b ≠ r.al -> b ≠ r.ll -> b ∉ [r.al, r.ll] := fun h1 h2 h => by
  rcases Ay.mp h with e | e
  ·exact h1 e
  ·exact h2 (Ag.mp e)
 refine ⟨⟨F.at (nin N.u_al N.u_ll) U.i.inst, F.at (nin N.d_al N.d_ll) U.i.ns⟩, h1, h2, ?_, ?_, ?_, ?_, U.wf.make, ?_⟩
 ·obtain ⟨ms, hm, hl⟩ := U.merged
  refine ⟨ms, F.at (nin (Ne.symm N.al_ml) (Ne.symm N.ll_ml)) hm, ?_⟩
  rw [UF.L3]
  show _ <= (f.par ++ [f.par.length]).length
  rw [AD]
  exact Fn hl
 ·intro i a l ha hl
  have h4 : (f.lots ++ [[f.par.length]])[i]? = some l := hl
  have ha : (r.la ++ [x])[i]? = some a := ha
  by_cases hi : i < r.la.length
  ·rw [CQ hi] at ha
   rw [CQ (flen ▸ U.len ▸ hi)] at h4
   have hm := AX ha
   exact F.at (nin (fun q => N.al_la (q ▸ hm)) fun q => N.ll_la (q ▸ hm)) (U.lot i a l ha h4)
  ·have h0 : i = r.la.length := by
    have := (AT.mp ha).1
    rw [AD, Dp] at this
    omega
   subst h0
   rw [C8 (Az _), Fj] at ha
   rw [C8 (Gx (flen.trans U.len.symm)), U.len, flen, Fj] at h4
   cases ha
   cases h4
   exact h3
 ·show (r.la ++ [x]).length = (f.par ++ [f.par.length]).length
  rw [AD, AD, U.len]; rfl
 ·show (([r.u, r.ud, r.al, r.ll, r.ml] : List Addr) ++ (r.la ++ [x])).Nodup
  rw [<- Dg, Bf]
  refine ⟨U.nd, El ..,  fun a ha b hb e => ?_⟩
  cases Ag.mp hb
  obtain ⟨o, ho⟩ := U.fp_some ha
  rw [e, hx] at ho; cases ho
 ·show (f.par ++ [f.par.length]).length <= 1000
  rw [AD]; exact hsz
theorem C241 (O : Ok c) (R : Af A 1) (U : UAt σ r f) (hsz : f.par.length < 1000) (q : ∀ x σ', σ x = none -> UAt σ' (r.more x) f.make -> Fr σ σ' r.fp -> Q (.int (f.par.length : Nat)) σ') : Ac c A (.ref 241) [.ref r.u] σ Q := by iterate 1
 exact
  have N := U.ne
  have ll : (r.la.map D.ref).length <= 1000000 := Eb (by rw [Am, U.len]; exact U.sz)
  by
  refine d241 O R fun A R => ?_
  apply U.i.a_above O
  apply GM.append U.above
  apply U.i.a_above O
  apply Ac.Cf U.above U.al_len
  refine C.append U.above U.al_len fun σ1 u1 => ?_
  have I1 := U.i.upd u1 N.u_al N.d_al
  have l1 := u1.keep (Ne.symm N.al_ll) U.lotl
  apply I1.a_lots O
  apply GM.append l1
  apply I1.a_lots O
  apply Ac.Cf l1 ll
  intro x σ2 n2
  refine C.append (n2.keep l1) ll fun σ3 u3 => ?_
  have I3 := (I1.new n2).upd u3 N.u_ll N.d_ll
  have a3 := u3.keep N.al_ll (n2.keep u1.at_)
  have e : An f.par ++ [.int (An f.par).length] = An f.make.par := by rw [A6]; exact (Fo f.par [f.par.length]).symm
  rw [e] at a3
  apply I3.a_above O
  refine (Ac.Cf a3 (by rw [A6]; show (f.par ++ [f.par.length]).length <= _; rw [AD]; exact Eb hsz) ?_)
  rw [A6]
  show BOP _ _ _ (.int ((f.par ++ [f.par.length]).length : Nat)) _ _ _
  rw [AD]
  have hx := u1.none U.above n2.no
  refine BOP.J2 (q x σ3 hx (U.made hsz hx (((u1.fr.wide ?_).trans (n2.fr.wide ?_)).trans (u3.fr.wide ?_)) a3 ?_ ?_) (((u1.fr.wide ?_).trans (n2.fr.wide ?_)).trans (u3.fr.wide ?_)))
  ·exact fun a h => Ag.mp h ▸ .head _
  ·exact fun a h => by cases h
  ·exact fun a h => Ag.mp h ▸ .tail _ (.head _)
  ·rw [u3.at_, Bo]; rfl
  ·rw [u3.keep (Ne.symm (n2.other l1)) n2.at_, Am, U.len]; rfl
  ·exact fun a h => Ag.mp h ▸ .tail _ (.tail _ (.head _))
  ·exact fun a h => by cases h
  ·exact fun a h => Ag.mp h ▸ .tail _ (.tail _ (.tail _ (.head _)))
theorem UAt.joined {k g : Nat} {ak : Addr} {ms : List D} (U : UAt σ r f) (hkg : k < g) (hgl : g < f.par.length) (hk : f.par.getD k k = k) (hg : f.par.getD g g = g) (hak : r.la[k]? = some ak) (hm : σ r.ml = some (.list ms)) {d : D}
  (F : Fr σ σ' [r.al, ak, r.ml]) (h1 : σ' r.al = some (.list (An (f.par.set g k)))) (h2 : σ' ak = some (.list (An (f.lots.getD k [] ++ f.lots.getD g [])))) (h3 : σ' r.ml = some (.list (ms ++ [d]))) : UAt σ' r (f.join k g) := by iterate 1
 have N := U.ne
 have nin : ∀ {b : Addr}, b ≠ r.al -> b ≠ ak -> b ≠ r.ml -> b ∉ [r.al, ak, r.ml] := fun h1 h2 h3 h => by
  rcases Ay.mp h with e | h
  ·exact h1 e
  ·rcases Ay.mp h with e | h
   ·exact h2 e
   ·exact h3 (Ag.mp h)
 have mk := AX hak
 have flen := U.wf.len
 refine ⟨⟨F.at (nin N.u_al (fun q => N.u_la (q ▸ mk)) N.u_ml) U.i.inst, F.at (nin N.d_al (fun q => N.d_la (q ▸ mk)) N.d_ml) U.i.ns⟩, h1, F.at (nin (Ne.symm N.al_ll) (fun q => N.ll_la (q ▸ mk)) N.ll_ml) U.lotl, ⟨_, h3, ?_⟩, fun i x l hx hl => ?_, ?_, U.nd, U.wf.join hkg hgl hk hg, ?_⟩
 ·obtain ⟨ms', hm', hl⟩ := U.merged
  rw [hm] at hm'
  cases hm'
  have := UF.Jl (f := f) hkg hgl hg
  show _ <= (f.par.set g k).length
  rw [AD, Dp, Fk]; omega
 ·have mx := AX hx
  have h4 : (f.lots.set k (f.lots.getD k [] ++ f.lots.getD g []))[i]? = some l := hl
  by_cases q : i = k
  ·subst q
   rw [hak] at hx; cases hx
   rw [List.getElem?_set_self (by omega)] at h4
   cases h4
   exact h2
  ·rw [U7 (Ne.symm q)] at h4
   exact F.at (nin (fun e => N.al_la (e ▸ mx)) (fun e => q (HD N.la hx (e ▸ hak))) fun e => N.ml_la (e ▸ mx)) (U.lot i x l hx h4)
 ·exact U.len.trans Fk.symm
 ·show (f.par.set g k).length <= 1000
  rw [Fk]; exact U.sz
theorem UAt.slot {i : Nat} (U : UAt σ r f) (h : i < f.par.length) : ∃ a, r.la[i]? = some a /\ σ a = some (.list (An (f.lots.getD i []))) /\ (r.la.map D.ref)[i]? = some (.ref a) := by iterate 1
 have h1 : i < r.la.length := U.len ▸ h
 have h2 : i < f.lots.length := U.wf.len ▸ h
 refine ⟨r.la[i], Bw h1, U.lot i _ _ (Bw h1) ?_, ?_⟩
 ·rw [Bw h2, Bt, Bw h2]; rfl
 ·rw [Bs, Bw h1]; rfl
theorem UAt.la_ne (U : UAt σ r f) (h : a ∈ r.la) : r.u ≠ a /\ r.ud ≠ a /\ r.al ≠ a /\ r.ll ≠ a /\ r.ml ≠ a := by iterate 1
 exact
  ⟨fun q => U.ne.u_la (q ▸ h), fun q => U.ne.d_la (q ▸ h), fun q => U.ne.al_la (q ▸ h), fun q => U.ne.ll_la (q ▸ h), fun q => U.ne.ml_la (q ▸ h)⟩
theorem UAt.lots_le (U : UAt σ r f) (i : Nat) : (An (f.lots.getD i [])).length <= 1000 := by iterate 1 rw [A6]; exact Ap (U.wf.all i) U.sz
theorem UAt.ll_len (U : UAt σ r f) : (r.la.map D.ref).length <= 1000000 := by iterate 1
 exact Eb (by rw [Am, U.len]; exact U.sz)
theorem C262 (O : Ok c) (R : Af A 2) (U : UAt σ r f) (ha : a < f.par.length) (hb : b < f.par.length)
  (q1 : Ae f.par a = Ae f.par b -> ∀ σ', Fr σ σ' [] -> Q .none σ')
  (q2 : Ae f.par a ≠ Ae f.par b -> ∀ σ', UAt σ' r (f.join (min (Ae f.par a) (Ae f.par b)) (max (Ae f.par a) (Ae f.par b))) -> Fr σ σ' r.fp -> Q (.tup [.int (min (Ae f.par a) (Ae f.par b) : Nat), .int (max (Ae f.par a) (Ae f.par b) : Nat)]) σ') :
  Ac c A (.ref 262) [.ref r.u, .int a, .int b] σ Q := by iterate 1
 refine d262 O R fun A R => ?_
 dsimp only [Md]
 apply U.i.m_find O
 apply J3 O R U ha
 apply U.i.m_find O
 apply J3 O R U hb
 intro l σ1 n1
 refine Ac.PZ (l := [Ae f.par a, Ae f.par b]) n1.at_ (DR rfl) (CW R) fun x σ2 n2 => ?_
 have U2 := U.keep (n1.fr.trans n2.fr)
 have F2 := n1.fr.trans n2.fr
 rw [Vf] at n2
 have N := U.ne
 have ra := Dn U.wf.le ha
 have rb := Dn U.wf.le hb
 refine ⟨x, _, _, rfl, n2.at_, ?_⟩
 generalize hk : min (Ae f.par a) (Ae f.par b) = k at *
 generalize hg : max (Ae f.par a) (Ae f.par b) = g at *
 refine CMP.eqN (fun e => q1 (by omega) _ F2) fun e => ?_
 have hkg : k < g := by omega
 have hgl : g < f.par.length := by omega
 have fk : f.par.getD k k = k := by
  rcases EI (Ae f.par a) (Ae f.par b) with q | q
  ·rw [Ft q] at hk; rw [<- hk]; exact Dm U.wf.le a
  ·rw [F0 q] at hk; rw [<- hk]; exact Dm U.wf.le b
 have fg : f.par.getD g g = g := by
  rcases EI (Ae f.par a) (Ae f.par b) with q | q
  ·rw [HB q] at hg; rw [<- hg]; exact Dm U.wf.le b
  ·rw [HC q] at hg; rw [<- hg]; exact Dm U.wf.le a
 obtain ⟨ak, hak, lk, rk⟩ := U2.slot (DB hkg hgl)
 obtain ⟨ag, hag, lg, rg⟩ := U2.slot hgl
 have nk := U.la_ne (AX hak)
 have ng := U.la_ne (AX hag)
 obtain ⟨ms, hms, hml⟩ := U2.merged
 apply U2.i.a_above O
 refine C.setL U2.above (J1 g) (by rw [A6]; exact Fs.mpr hgl) U.al_len fun σ3 u3 => ?_
 have hset : (An f.par).set ((g : Nat) : Int).toNat (.int (k : Nat)) = An (f.par.set g k) := by unfold An; rw [List.map_set]; rfl
 rw [hset] at u3
 have I3 := U2.i.upd u3 N.u_al N.d_al
 have l3 := u3.keep (Ne.symm N.al_ll) U2.lotl
 have k3 := u3.keep (Ne.symm nk.2.2.1) lk
 have g3 := u3.keep (Ne.symm ng.2.2.1) lg
 apply I3.a_lots O
 apply IT.at l3 U.ll_len rk
 apply GM.extend k3
 apply I3.a_lots O
 apply IT.at l3 U.ll_len rg
 have s1 := U.lots_le k
 have s2 := U.lots_le g
 refine C.extend k3 g3 (by omega) fun σ4 u4 => ?_
 rw [<- Fo] at u4
 have I4 := I3.upd u4 nk.1 nk.2.1
 have m4 := u4.keep nk.2.2.2.2 (u3.keep (Ne.symm N.al_ml) hms)
 apply I4.a_merged O
 apply GM.append m4
 refine C.append m4 (by have := U.sz; omega) fun σ5 u5 => ?_
 have a5 := u5.keep N.al_ml (u4.keep nk.2.2.1 u3.at_)
 have k5 := u5.keep (Ne.symm nk.2.2.2.2) u4.at_
 refine q2 (by omega) _ (U2.joined hkg hgl fk fg hak hms (((u3.fr.wide ?_).trans (u4.fr.wide ?_)).trans (u5.fr.wide ?_)) a5 k5 u5.at_) ((F2.wide ?_).trans (((u3.fr.wide ?_).trans (u4.fr.wide ?_)).trans (u5.fr.wide ?_)))
 ·exact fun a h => Ag.mp h ▸ .head _
 ·exact fun a h => Ag.mp h ▸ .tail _ (.head _)
 ·exact fun a h => Ag.mp h ▸ .tail _ (.tail _ (.head _))
 ·exact fun a h => by cases h
 ·exact fun a h => Ag.mp h ▸ .tail _ (.tail _ (.head _))
 ·exact fun a h => Ag.mp h ▸ BK _ (AX hak)
 ·exact fun a h => Ag.mp h ▸ .tail _ (.tail _ (.tail _ (.tail _ (.head _))))
end
noncomputable def UF.roots (f : UF) : List Nat := (Bn f.par.length).filter fun i => f.par.getD i i == i
theorem P5 : (UF.mk [] []).WF := ⟨rfl, fun i x h => (by simp at h), fun i => Az 0, fun k hk => absurd hk (En k)⟩
structure EN (σ : Aa) (x cl dd l : Addr) (o : MO) (es : List (Str × D)) (σ' : Aa) : Prop where
 i : σ' x = some (.inst cl dd)
 d : σ' dd = some (.ns es)
 a : σ' l = some o
 F : Fr σ σ' [dd]
 n : ∀ b, σ' b = none -> σ b = none /\ b ≠ l
 k : ∀ {b : Addr} {ob : MO}, b ≠ dd -> σ b = some ob -> σ' b = some ob
theorem EN.mk' {σ σ1 σ' : Aa} {x cl dd l : Addr} {o : MO} {es es' : List (Str × D)} (hx : σ x = some (.inst cl dd)) (hd : σ dd = some (.ns es)) (n : New σ σ1 l o) (u : Upd σ1 σ' dd (.ns es')) : EN σ x cl dd l o es' σ' := by iterate 1
 exact {
  i := u.keep (DS hx hd MO.noConfusion) (n.keep hx)
  d := u.at_
  a := u.keep (Ne.symm (n.other hd)) n.at_
  F := (n.fr.wide fun _ h => by cases h).trans u.fr
  n := fun b hb => by
   have h1 := u.none (n.keep hd) hb
   exact ⟨n.none h1, fun q => by rw [q, n.at_] at h1; cases h1⟩
  k := fun h e => u.keep h (n.keep e) }
section
variable {c : Cx} {A : Around} {σ σ' : Aa} {r : UR} {f : UF} {Q : D -> Aa -> Prop} {K : Value -> List D -> Prop}
theorem C269 (O : Ok c) (R : Af A 2) (U : UAt σ r f) (ha : a < f.par.length) (h64 : f.par.length < 64)
  (q : ∀ x σ', New σ σ' x (.list (An (AJ (f.lots.getD (Ae f.par a) [])))) -> Q (.ref x) σ') : Ac c A (.ref 269) [.ref r.u, .int a] σ Q := by iterate 1
 refine d269 O R fun A R => ?_
 obtain ⟨ak, _, lk, rk⟩ := U.slot (Dn U.wf.le ha)
 apply U.i.a_lots O
 apply U.i.m_find O
 apply J3 O R U ha
 apply IT.at U.lotl U.ll_len rk
 exact Ac.PZ lk (Bd (U.wf.all _) h64) (CW R) q
theorem C274 (O : Ok c) (R : Af A 1) (U : UAt σ r f) (q : ∀ x σ', σ' x = some (.list (An f.roots)) -> Fr σ σ' [] -> Q (.ref x) σ') : Ac c A (.ref 274) [.ref r.u] σ Q := by iterate 1
 refine d274 O R fun A R => ?_
 apply U.i.a_above O
 apply Ac.Cf U.above U.al_len
 rw [A6]
 refine C.range fun rg t u v σ1 n1 => ?_
 have hz : f.par.length < 1000000 := Bd U.sz (by decide)
 refine FZ (AH.range R.handled hz n1.at_) (fun i acc σ' => acc = An ((Bn i).filter fun i => f.par.getD i i == i) /\ Fr σ σ' []) ⟨rfl, n1.fr⟩ (fun _ _ _ _ => trivial) (fun i d acc σ' h hd => ?_) fun acc σ' h a σ'' n => ?_
 ·have hi : i < f.par.length := by have := (AT.mp hd).1; simpa [Ce] using this
  have : d = .int i := by
   unfold Ce at hd
   rw [Bs, Ie hi] at hd
   exact (Cn hd).symm
  subst this
  have U' := U.keep h.2
  have hf : (Bn (i + 1)).filter (fun i => f.par.getD i i == i) = (Bn i).filter (fun i => f.par.getD i i == i) ++ if f.par.getD i i = i then [i] else [] := by
   rw [LU, Mp, GA, List.filter_nil]
   simp only [beq_iff_eq]
  apply U'.i.a_above O
  apply IT.at U'.above U'.al_len (EM hi)
  refine CMP.eqN (fun e => ⟨?_, ?_, h.2⟩) fun e => ⟨?_, h.2⟩
  ·rw [h.1, A6]
   exact Ap (Ga ..) (by rw [D7]; exact Bz (DB hi hz))
  ·rw [hf, if_pos e, Fo, h.1]; rfl
  ·rw [hf, if_neg e, BQ, h.1]
 ·refine q a σ'' ?_ (h.2.trans n.fr)
  rw [n.at_, h.1]
  unfold Ce UF.roots
  rw [Am, D7]
theorem C234 {x dd : Addr} (O : Ok c) (R : Af A 1) (hx : σ x = some (.inst 298 dd)) (hd : σ dd = some (.ns []))
  (q : ∀ al ll ml σ', UAt σ' ⟨x, dd, al, ll, ml, []⟩ ⟨[], []⟩ -> Fr σ σ' [dd] -> σ al = none -> σ ll = none -> σ ml = none -> Q .none σ') : AB c A (.ref 234) [.ref x] σ Q := by iterate 1
 refine c234 O R fun A R => ?_
 intro al σ1 n1
 refine Cq.mk (n1.keep hx) (n1.keep hd) (TM O) rfl fun σ2 u2 => ?_
 have I1 := EN.mk' hx hd n1 u2
 intro ll σ3 n3
 refine Cq.mk (n3.keep I1.i) (n3.keep I1.d) (TO O) rfl fun σ4 u4 => ?_
 have I2 := EN.mk' I1.i I1.d n3 u4
 intro ml σ5 n5
 refine Cq.mk (n5.keep I2.i) (n5.keep I2.d) (TQ O) rfl fun σ6 u6 => ?_
 have I3 := EN.mk' I2.i I2.d n5 u6
 have z3 := I1.n _ n3.no
 have z5 := I2.n _ n5.no
 have z5' := I1.n _ z5.1
 have al_d := Ne.symm (n1.other hd)
 have ll_d := Ne.symm (n3.other I1.d)
 refine q al ll ml σ6 ⟨⟨I3.i, I3.d⟩, I3.k al_d (I2.k al_d I1.a), I3.k ll_d I2.a, ⟨[], I3.a, Az 0⟩, fun i a l h => (by simp at h), rfl, ?_, P5, BC _⟩ (I1.F.trans (I2.F.trans I3.F)) n1.no z3.1 z5'.1
 have nx := DS hx hd MO.noConfusion
 show [x, dd, al, ll, ml].Nodup
 simp only [BE, Ay, Ar, or_false, not_or, Cw, and_true, not_false_eq_true]
 exact ⟨⟨nx, n1.other hx, n3.other I1.i, n5.other I2.i⟩, ⟨n1.other hd, n3.other I1.d, n5.other I2.d⟩, ⟨Ne.symm z3.2, Ne.symm z5'.2⟩, Ne.symm z5.2⟩
theorem C298 (O : Ok c) (R : Af A 2) (q : ∀ (r : UR) σ', UAt σ' r ⟨[], []⟩ -> r.la = [] -> Fr σ σ' [] -> (∀ a ∈ r.fp, σ a = none) -> Q (.ref r.u) σ') : Ac c A (.ref 298) [] σ Q := by iterate 1
 exact
  Ac.cls (n := 1) O (TJ O) R fun A' x dd σ0 R' hx hd F hx0 hd0 hn => C234 O R' hx hd fun al ll ml σ' U F' n1 n2 n3 => ⟨rfl, q ⟨x, dd, al, ll, ml, []⟩ σ' U rfl (fun b o _ hb => F' b o (fun h => by
    rw [Ag.mp h, hd0] at hb; cases hb) (F b o Ar hb)) fun a ha => by
   simp only [UR.fp, BQ, Ay, Ar, or_false] at ha
   rcases ha with rfl | rfl | rfl | rfl | rfl
   ·exact hx0
   ·exact hd0
   ·exact hn _ n1
   ·exact hn _ n2
   ·exact hn _ n3⟩
end
section
open Classical
structure CX (op : Str) : Prop where
 ne : op ≠ ("" : Str)
 sp : ∀ k ∈ op.cps.toList, Txt.isspace ⟨#[k]⟩ = false
 br : ∀ k ∈ op.cps.toList, (Sg ("()[]{},:" : Str) ⟨#[k]⟩ 0 ("()[]{},:" : Str).length 1).isEmpty = true
 q : Txt.item op 0 ≠ ("?" : Str)
 l : 0 < op.length /\ op.length < 1000
 ok : E1 op = true
 st : ∀ t, Hm op none (some 1) = t -> t ≠ ("?" : Str)
theorem J4 : CX "a" := by iterate 1
 exact ⟨by decide +kernel, by decide +kernel, by decide +kernel, by decide +kernel, by decide +kernel, by decide +kernel, by rintro _ rfl; decide +kernel⟩
theorem op_b : CX "b" := by iterate 1
 exact ⟨by decide +kernel, by decide +kernel, by decide +kernel, by decide +kernel, by decide +kernel, by decide +kernel, by rintro _ rfl; decide +kernel⟩
theorem Fu : CX "f" := by iterate 1
 exact ⟨by decide +kernel, by decide +kernel, by decide +kernel, by decide +kernel, by decide +kernel, by decide +kernel, by rintro _ rfl; decide +kernel⟩
theorem op_g : CX "g" := by iterate 1
 exact ⟨by decide +kernel, by decide +kernel, by decide +kernel, by decide +kernel, by decide +kernel, by decide +kernel, by rintro _ rfl; decide +kernel⟩
noncomputable abbrev Ao := Str × List Nat
noncomputable def AU (x : Ao) : List D := .str x.1 :: An x.2
noncomputable def AE (x : Ao) : D := .tup (AU x)
structure BR where
 b : Addr
 bd : Addr
 nl : Addr
 nd : Addr
 wl : Addr
 dl : Addr
noncomputable def BR.fp (r : BR) : List Addr := [r.b, r.bd, r.nl, r.nd, r.wl, r.dl]
noncomputable def Ev (ns : List Ao) : List (List D × D) := ns.zipIdx.map fun p => (AU p.1, D.int (p.2 : Nat))
structure BI (σ : Aa) (r : BR) : Prop where
 inst : σ r.b = some (.inst 178 r.bd)
 ns : σ r.bd = some (.ns [("nodes", .ref r.nl), ("numbers", .ref r.nd), ("weights", .ref r.wl), ("depths", .ref r.dl)])
structure BAt (σ : Aa) (r : BR) (ns : List Ao) : Prop where
 i : BI σ r
 nodes : σ r.nl = some (.list (ns.map AE))
 nums : σ r.nd = some (.dictT (Ev ns))
 wsp : ∃ ws : List Int, σ r.wl = some (.list (ws.map .int)) /\ ws.length = ns.length
 dsp : ∃ ws : List Int, σ r.dl = some (.list (ws.map .int)) /\ ws.length = ns.length
 nd : r.fp.Nodup
 wf : ∀ (i : Nat) (x : Ao), ns[i]? = some x -> CX x.1 /\ (∀ k ∈ x.2, k < i) /\ x.2.length <= 10
 nod : ns.Nodup
 sz : ns.length <= 1000
theorem P6 : ∀ {a b : List Nat}, An a = An b -> a = b
 | [], [], _ => rfl
 | x :: a, y :: b, h => by iterate 1
  simp only [An, AM, Ot, D.int.injEq] at h
  have := P6 (a := a) (b := b) h.2
  have h1 : x = y := by omega
  rw [h1, this]
 | [], _ :: _, h => by simp [An] at h
 | _ :: _, [], h => by simp [An] at h
theorem GX (h : AU x = AU y) : x = y := by iterate 1
 obtain ⟨a, b⟩ := x; obtain ⟨a', b'⟩ := y
 simp only [AU, Ot, D.str.injEq] at h
 rw [h.1, P6 h.2]
theorem Vg {α : Type} {es : List (List D × D)} {k : List D} (h : ∀ e ∈ es, e.1 ≠ k) : AN es k = none := by iterate 1
 unfold AN
 rw [I6.mpr fun e he => by simpa using h e he]; rfl
theorem P7 : ∀ {ns : List Ao} {i : Nat} {x : Ao}, ns.Nodup -> ns[i]? = some x -> AN ((ns.zipIdx k).map fun p => (AU p.1, D.int (p.2 : Nat))) (AU x) = some (.int (k + i : Nat))
 | [], i, x, _, h => by simp at h
 | y :: ns, 0, x, hn, h => by
  simp at h; subst h
  simp [AN, LJ]
 | y :: ns, i + 1, x, hn, h => by iterate 1
  rw [BE] at hn
  have hx : x ∈ ns := AX (by simpa using h)
  have hne : AU y ≠ AU x := fun e => hn.1 (GX e ▸ hx)
  have ih := P7 (k := k + 1) (i := i) hn.2 (by simpa using h)
  unfold AN at ih ⊢
  rw [LJ, AM, Mq (by simpa using hne), ih]
  congr 2
  omega
theorem Vh (hn : ns.Nodup) (h : ns[i]? = some x) : AN (Ev ns) (AU x) = some (.int (i : Nat)) := by iterate 1
 have := P7 (k := 0) hn h
 simpa [Ev] using this
theorem P8 (h : x ∉ ns) : AN (Ev ns) (AU x) = none := by iterate 1
 refine Vg (α := Unit) fun e he q => ?_
 unfold Ev at he
 obtain ⟨p, hp, rfl⟩ := Av.mp he
 have := GX q
 exact h (this ▸ (List.mem_zipIdx' (x := p.1) (i := p.2) hp).2 ▸ GJ _)
theorem Vi (h : x ∉ ns) : Bb (Ev ns) (AU x) (.int (ns.length : Nat)) = Ev (ns ++ [x]) := by iterate 1
 unfold Bb
 rw [if_neg]
 ·simp [Ev, List.zipIdx_append]
 ·rw [Er]
  rintro ⟨e, he, q⟩
  have hv := P8 h
  unfold AN at hv
  rw [Mr, I6] at hv
  exact hv e he q
theorem GY (h : E1 x.1 = true) : Al 4 (AE x) = true := by iterate 1
 show (AU x).all (Al 3) = true
 unfold AU
 rw [Im, Cv]
 refine ⟨h, ?_⟩
 rw [D0]
 intro d hd
 obtain ⟨i, _, rfl⟩ := Av.mp hd
 rfl
section
variable {c : Cx} {A : Around} {σ σ' : Aa} {r : BR} {ns : List Ao} {Q : D -> Aa -> Prop} {K : Value -> List D -> Prop}
theorem CMP.neS1 {Q : Bool -> Aa -> Prop} (h : i ≠ j) (q : Q true σ) : CMP c A .NotEq (.str i) (.str j) σ Q := by iterate 1
 exact CMP.neS (by rw [decide_eq_false h]; exact q)
theorem CMP.Ms {Q : Bool -> Aa -> Prop} (h : i ≠ j) (q : Q false σ) : CMP c A .Eq (.str i) (.str j) σ Q := by iterate 1
 exact CMP.eqS (by rw [decide_eq_false h]; exact q)
theorem CMP.eqS1 {Q : Bool -> Aa -> Prop} (q : Q true σ) : CMP c A .Eq (.str i) (.str i) σ Q := by iterate 1
 exact CMP.eqS (by rw [decide_eq_true rfl]; exact q)
theorem Mt (h : n < 1000) : n < 1000000 := DB h (by decide)
theorem C67 (O : Ok c) (R : Af A 1) (H : CX op) (q : ∀ σ', Fr σ σ' [] -> Q (.bool true) σ') : Ac c A (.ref 67) [.str op] σ Q := by iterate 1
 refine d67 O R fun A R => ?_
 refine CMP.neS1 H.ne ?_
 refine FZ (AH.str R.handled) (fun i acc σ' => acc = [] /\ Fr σ σ' []) ⟨rfl, Fr.refl _ _⟩ (fun _ _ _ _ => trivial) (fun i d acc σ' h hd => ?_) fun acc σ' h a σ1 n1 => ?_
 ·obtain ⟨k, hk, rfl⟩ := Av.mp (AX hd)
  apply GM.isspace
  apply Ac.isspace
  rw [H.sp k hk]
  apply CMP.inStr
  rw [H.br k hk]
  exact h
 ·intro l σ2 n2
  rw [h.1] at n1
  exact CMP.eqL (x := []) (y := []) (n2.keep n1.at_) n2.at_ rfl rfl (CW R) (by rw [decide_eq_true rfl]; exact q _ (h.2.trans (n1.fr.trans n2.fr)))
theorem C107 (O : Ok c) (R : Af A 2) (H : CX op) (q : ∀ σ', Fr σ σ' [] -> Q .none σ') : Ac c A (.ref 107) [.ref b, .str op] σ Q := by iterate 1
 refine d107 O R fun A R => ?_
 refine C67 O R H fun σ' F => ?_
 refine IT.str (Int.le_refl 0) (Fs.mpr H.l.1) (Mt H.l.2) ?_
 exact CMP.Ms H.q (q σ' F)
theorem BI.fr (I : BI σ r) (F : Fr σ σ' fp) (h1 : r.b ∉ fp) (h2 : r.bd ∉ fp) : BI σ' r := ⟨F.at h1 I.inst, F.at h2 I.ns⟩
theorem BI.upd (I : BI σ r) (u : Upd σ σ' a o) (h1 : r.b ≠ a) (h2 : r.bd ≠ a) : BI σ' r := ⟨u.keep h1 I.inst, u.keep h2 I.ns⟩
theorem BI.a_nodes (I : BI σ r) (O : Ok c) (q : Q (.ref r.nl) σ) : Bp c σ (.ref r.b) "nodes" Q := by iterate 1
 exact Bp.mk I.inst I.ns rfl (T0 O) q
theorem BI.a_numbers (I : BI σ r) (O : Ok c) (q : Q (.ref r.nd) σ) : Bp c σ (.ref r.b) "numbers" Q := by iterate 1
 exact Bp.mk I.inst I.ns rfl (T5 O) q
theorem BI.a_weights (I : BI σ r) (O : Ok c) (q : Q (.ref r.wl) σ) : Bp c σ (.ref r.b) "weights" Q := by iterate 1
 exact Bp.mk I.inst I.ns rfl (T7 O) q
theorem BI.a_depths (I : BI σ r) (O : Ok c) (q : Q (.ref r.dl) σ) : Bp c σ (.ref r.b) "depths" Q := by iterate 1
 exact Bp.mk I.inst I.ns rfl (T9 O) q
theorem BI.m_take (I : BI σ r) (O : Ok c) (k : K (.ref 100) [.ref r.b]) : GM c A "take" (.ref r.b) σ K := by iterate 1
 exact GM.own O I.inst I.ns rfl (Ud O) k
theorem BI.m_require (I : BI σ r) (O : Ok c) (k : K (.ref 107) [.ref r.b]) : GM c A "require" (.ref r.b) σ K := by iterate 1
 exact GM.own O I.inst I.ns rfl (Ue O) k
theorem BI.m_op (I : BI σ r) (O : Ok c) (k : K (.ref 135) [.ref r.b]) : GM c A "op" (.ref r.b) σ K := by iterate 1
 exact GM.own O I.inst I.ns rfl (Uf O) k
theorem BI.m_kids (I : BI σ r) (O : Ok c) (k : K (.ref 142) [.ref r.b]) : GM c A "kids" (.ref r.b) σ K := by iterate 1
 exact GM.own O I.inst I.ns rfl (Ug O) k
theorem BAt.fr (U : BAt σ r ns) (F : Fr σ σ' fp) (h : ∀ a ∈ r.fp, a ∉ fp) : BAt σ' r ns := by iterate 1
 exact {
  i := U.i.fr F (h _ (.head _)) (h _ (.tail _ (.head _)))
  nodes := F.at (h _ (.tail _ (.tail _ (.head _)))) U.nodes
  nums := F.at (h _ (.tail _ (.tail _ (.tail _ (.head _))))) U.nums
  wsp := U.wsp.imp fun ms x => ⟨F.at (h _ (.tail _ (.tail _ (.tail _ (.tail _ (.head _)))))) x.1, x.2⟩
  dsp := U.dsp.imp fun ms x => ⟨F.at (h _ (.tail _ (.tail _ (.tail _ (.tail _ (.tail _ (.head _))))))) x.1, x.2⟩
  nd := U.nd
  wf := U.wf
  nod := U.nod
  sz := U.sz }
theorem BAt.keep (U : BAt σ r ns) (F : Fr σ σ' []) : BAt σ' r ns := U.fr F fun _ _ => Ar
theorem BAt.nl_len (U : BAt σ r ns) : (ns.map AE).length <= 1000000 := by iterate 1
 exact Eb (by rw [Am]; exact U.sz)
theorem HE {n : Nat} (h : ns[n]? = some x) : (ns.map AE)[n]? = some (AE x) := by rw [Bs, h]; rfl
theorem J5 (x : Ao) : (AU x).length = x.2.length + 1 := by iterate 1 unfold AU; rw [CE, A6]
theorem BH (h : n <= 10) : n < 1000000 := Bd h (by decide)
theorem C135 {n : Nat} (O : Ok c) (R : Af A 1) (U : BAt σ r ns) (h : ns[n]? = some x) (q : Q (.str x.1) σ) : Ac c A (.ref 135) [.ref r.b, .int n] σ Q := by iterate 1
 refine d135 O R fun A R => ?_
 apply U.i.a_nodes O
 apply IT.at U.nodes U.nl_len (HE h)
 exact IT.CV (a := 0) (by rw [J5]; exact BH (U.wf n x h).2.2) rfl q
theorem C142 {n : Nat} (O : Ok c) (R : Af A 1) (U : BAt σ r ns) (h : ns[n]? = some x) (q : Q (.tup (An x.2)) σ) : Ac c A (.ref 142) [.ref r.b, .int n] σ Q := by iterate 1
 refine d142 O R fun A R => ?_
 apply U.i.a_nodes O
 apply IT.at U.nodes U.nl_len (HE h)
 exact ⟨by rw [A6]; exact BH (U.wf n x h).2.2, q⟩
theorem Vj (O : Ok c) (R : Af A 2) (U : BAt σ r ns) (h : ns[i]? = some (op, ks)) (q : Q (.int (i : Nat)) σ) : Ac c A (.ref 100) [.ref r.b, .str op, .tup (An ks)] σ Q := by iterate 1
 refine d100 O R fun A R => ?_
 have W := U.wf i _ h
 have hh := GY (x := (op, ks)) W.1.ok
 have hv := Vh U.nod h
 apply Ac.Oz
 refine BOP.FN (by rw [Dp, A6, GZ]; exact BH W.2.2) ?_
 apply U.i.a_numbers O
 refine CMP.inT (k := AU (op, ks)) (CW R) U.nums hh ?_
 rw [hv]
 apply U.i.a_numbers O
 exact IT.dictT (k := AU (op, ks)) (CW R) U.nums hh hv q
theorem BAt.pushed {op : Str} {ks : List Nat} {ws ds : List Int} {w d : Int} (U : BAt σ r ns) (h : (op, ks) ∉ ns) (W : CX op) (hk : ∀ k ∈ ks, k < ns.length) (hl : ks.length <= 10) (hz : ns.length < 1000) (I : BI σ' r)
  (h1 : σ' r.nl = some (.list ((ns ++ [(op, ks)]).map AE))) (h2 : σ' r.nd = some (.dictT (Ev (ns ++ [(op, ks)])))) (h3 : σ' r.wl = some (.list ((ws ++ [w]).map .int))) (h4 : σ' r.dl = some (.list ((ds ++ [d]).map .int))) (lw : ws.length = ns.length) (ld : ds.length = ns.length) : BAt σ' r (ns ++ [(op, ks)]) := by iterate 1
 refine ⟨I, h1, h2, ⟨_, h3, ?_⟩, ⟨_, h4, ?_⟩, U.nd, fun i x hx => ?_, ?_, ?_⟩
 ·rw [AD, AD, lw]; rfl
 ·rw [AD, AD, ld]; rfl
 ·by_cases hi : i < ns.length
  ·rw [CQ hi] at hx; exact U.wf i x hx
  ·rw [C8 (Mn hi), List.getElem?_singleton] at hx
   split at hx
   ·cases hx
    exact ⟨W, fun k h => Ht (hk k h) (Mn hi), hl⟩
   ·cases hx
 ·rw [Bf]
  exact ⟨U.nod, El .., fun a ha b hb e => by cases Ag.mp hb; exact h (e ▸ ha)⟩
 ·rw [AD]; exact hz
structure BNe (r : BR) : Prop where
 b : r.b ≠ r.nl /\ r.b ≠ r.nd /\ r.b ≠ r.wl /\ r.b ≠ r.dl
 d : r.bd ≠ r.nl /\ r.bd ≠ r.nd /\ r.bd ≠ r.wl /\ r.bd ≠ r.dl
 n : r.nl ≠ r.nd /\ r.nl ≠ r.wl /\ r.nl ≠ r.dl
 m : r.nd ≠ r.wl /\ r.nd ≠ r.dl
 w : r.wl ≠ r.dl
theorem BAt.ne (U : BAt σ r ns) : BNe r := by iterate 1
 have nd := U.nd
 simp only [BR.fp, BE, Ay, not_or, Ar, not_false_eq_true, and_true, Cw] at nd
 exact ⟨nd.1.2, nd.2.1, nd.2.2.1, nd.2.2.2.1, nd.2.2.2.2⟩
theorem Vk {i : Nat} (h : (An ks)[i]? = some d) : ∃ k, k ∈ ks /\ d = .int (k : Nat) := by iterate 1
 obtain ⟨k, h1, h2⟩ := Av.mp (AX h)
 exact ⟨k, h1, h2.symm⟩
theorem P9 {ws : List Int} (h : k < ws.length) : (ws.map D.int)[k]? = some (.int (ws.getD k 0)) := by iterate 1
 rw [Bs, Bw h, Bt, Bw h]; rfl
theorem Mu (ws : List Int) (w : Int) : ws.map D.int ++ [.int w] = (ws ++ [w]).map .int := by rw [Bo]; rfl
theorem Qa {ws : List Int} (h : ws.length = n) (hn : n <= 1000) : (ws.map D.int).length <= 1000000 := by iterate 1 rw [Am, h]; exact Eb hn
theorem Qb {e : VT} {l : Addr} {ws : List Int} {ks : List Nat} {vs : VS} {Q : D -> Aa -> Prop} (hh : A.handled = none) (hw : σ l = some (.list (ws.map .int))) (hl : ks.length <= 10) (hk : ∀ k ∈ ks, k < ws.length)
   (he : ∀ k σ' (P : D -> Aa -> Prop), k < ws.length -> Fr σ σ' [] -> P (.int (ws.getD k 0)) σ' -> e c A (vs ++ [some (.int (k : Nat))]) σ' P)
   (q : ∀ a σ' ys, ys.length = ks.length -> Fr σ σ' [] -> σ' a = some (.list (HF D.int ys)) -> Q (.ref a) σ') :
   JY T.bind1 T.yes e c A vs Q (.tup (An ks)) σ := by iterate 1
 exact
  Fq (bd := T.bind1) (k := fun k : Nat => D.int (k : Nat)) ks (fun k => .int (ws.getD k 0)) (fun σ' => Fr σ σ' []) (AH.tup hh) (Fr.refl _ _) (fun _ _ => trivial) (fun i k σ' F hi => he k σ' _ (hk k (AX hi)) F (Ea.mk (Bz (BH hl)) hi F))
   fun σ' F a σ'' n => q a σ'' (ks.map fun k => ws.getD k 0) (Am _) (F.trans n.fr) (by rw [n.at_, A2]; rfl)
theorem Vl (O : Ok c) (R : Af A 3) (U : BAt σ r ns) (h : (op, ks) ∉ ns) (W : CX op) (hk : ∀ k ∈ ks, k < ns.length) (hl : ks.length <= 10) (hz : ns.length < 1000)
  (q : ∀ σ', BAt σ' r (ns ++ [(op, ks)]) -> Fr σ σ' r.fp -> Q (.int (ns.length : Nat)) σ') : Ac c A (.ref 100) [.ref r.b, .str op, .tup (An ks)] σ Q := by iterate 1
 refine d100 O R fun A R => ?_
 have hh := GY (x := (op, ks)) W.ok
 have N := U.ne
 have kl : (An ks).length < 1000000 := by rw [A6]; exact BH hl
 apply Ac.Oz
 refine BOP.FN (by rw [Dp, GZ]; exact kl) ?_
 apply U.i.a_numbers O
 refine CMP.inT (k := AU (op, ks)) (CW R) U.nums hh ?_
 rw [P8 h]
 apply U.i.m_require O
 refine C107 O R W fun σ1 F1 => ?_
 have U1 := U.keep F1
 refine ⟨kl, Dq (AH.tup R.handled) (fun x : Option D => [some (.ref r.b), some (.str op), some (.tup (An ks)), some (AE (op, ks)), x]) (fun _ _ σ' => σ' = σ1) Dw rfl rfl (fun _ _ _ _ => trivial) (fun i d x σ' e hd => ?_) fun x σ' e => ?_⟩
 ·subst e
  obtain ⟨k, hm, rfl⟩ := Vk hd
  refine CMP.le0 ?_
  apply U1.i.a_nodes O
  apply Ac.Cf U1.nodes U.nl_len
  rw [Am]
  exact CMP.ltN (fun _ => ⟨_, rfl, rfl⟩) fun z => absurd (hk k hm) (Nat.not_lt_of_le z)
 ·subst e
  obtain ⟨ws, hws, lws⟩ := U1.wsp
  obtain ⟨ds, hds, lds⟩ := U1.dsp
  have wz := Qa lws U.sz
  have dz := Qa lds U.sz
  apply U1.i.a_nodes O
  apply Ac.Cf U1.nodes U.nl_len
  rw [Am]
  apply U1.i.a_numbers O
  refine C.setT (k := AU (op, ks)) (CW R) U1.nums hh (by unfold Ev; rw [Am, List.length_zipIdx]; exact Eb U.sz) fun σ2 u2 => ?_
  rw [Vi h] at u2
  have I2 := U1.i.upd u2 N.b.2.1 N.d.2.1
  have n2 := u2.keep N.n.1 U1.nodes
  apply I2.a_nodes O
  apply GM.append n2
  refine C.append n2 U.nl_len fun σ3 u3 => ?_
  have hp : ns.map AE ++ [AE (op, ks)] = (ns ++ [(op, ks)]).map AE := by rw [Bo]; rfl
  rw [hp] at u3
  have I3 := I2.upd u3 N.b.1 N.d.1
  have w3 := u3.keep (Ne.symm N.n.2.1) (u2.keep (Ne.symm N.m.1) hws)
  have d3 := u3.keep (Ne.symm N.n.2.2) (u2.keep (Ne.symm N.m.2) hds)
  apply I3.a_weights O
  apply GM.append w3
  refine ⟨kl, Qb R.handled w3 hl (fun k m => by rw [lws]; exact hk k m) (fun k σ' P hkw F p => ?_) fun a σ4 ys _ F4 a4 => ?_⟩
  ·apply (I3.fr F Ar Ar).a_weights O
   exact IT.at (F.at0 w3) wz (P9 hkw) p
  apply Ac.sum R.handled a4
  intro sm
  apply BOP.Hl
  have w4 := F4.at0 w3
  refine C.append w4 wz fun σ5 u5 => ?_
  rw [Mu] at u5
  have I5 := (I3.fr F4 Ar Ar).upd u5 N.b.2.2.1 N.d.2.2.1
  have d5 := u5.keep (Ne.symm N.w) (F4.at0 d3)
  apply I5.a_depths O
  apply GM.append d5
  refine ⟨kl, Qb R.handled d5 hl (fun k m => by rw [lds]; exact hk k m) (fun k σ' P hkw F p => ?_) fun x σ6 ys ly F6 a6 => ?_⟩
  ·apply (I5.fr F Ar Ar).a_depths O
   exact IT.at (F.at0 d5) dz (P9 hkw) p
  intro z σ7 n7
  refine C.addL (n7.keep a6) n7.at_ (by rw [Am, ly]; exact EO (BH hl)) fun y σ8 n8 => ?_
  have a8 : σ8 y = some (.list ((ys ++ [0]).map .int)) := by rw [n8.at_]; exact congrArg _ (congrArg _ (Mu ys 0))
  apply Ac.max R.handled a8 (by simp)
  intro mx
  apply BOP.Hl
  have F8 := F6.trans (n7.fr.trans n8.fr)
  have d8 := F8.at0 d5
  refine C.append d8 dz fun σ9 u9 => ?_
  rw [Mu] at u9
  have I9 := (I5.fr F8 Ar Ar).upd u9 N.b.2.2.2 N.d.2.2.2
  have nl9 := u9.keep N.n.2.2 (F8.at0 (u5.keep N.n.2.1 (F4.at0 u3.at_)))
  apply I9.a_nodes O
  apply Ac.Cf nl9 (by rw [Am, AD]; exact Eb hz)
  rw [Am, AD]
  refine BOP.J2 (q _ (U1.pushed h W hk hl hz I9 nl9 (u9.keep N.m.2 (F8.at0 (u5.keep N.m.1 (F4.at0 (u3.keep (Ne.symm N.n.1) u2.at_))))) (u9.keep N.w (F8.at0 u5.at_)) u9.at_ lws lds) ?_)
  have e0 : ∀ {a : Addr}, a ∈ ([] : List Addr) -> a ∈ r.fp := fun h => by cases h
  refine (F1.wide fun _ => e0).trans ((u2.fr.wide ?_).trans ((u3.fr.wide ?_).trans ((F4.wide fun _ => e0).trans ((u5.fr.wide ?_).trans ((F8.wide fun _ => e0).trans (u9.fr.wide ?_))))))
  ·exact fun a h => Ag.mp h ▸ .tail _ (.tail _ (.tail _ (.head _)))
  ·exact fun a h => Ag.mp h ▸ .tail _ (.tail _ (.head _))
  ·exact fun a h => Ag.mp h ▸ .tail _ (.tail _ (.tail _ (.tail _ (.head _))))
  ·exact fun a h => Ag.mp h ▸ .tail _ (.tail _ (.tail _ (.tail _ (.tail _ (.head _)))))
end
end
structure G where
 uf : UF
 ns : List Ao
 known : List (Ao × Nat)
 above : List (Nat × List Nat)
 wait : List Nat
 cap : Nat
noncomputable def G.wUf (g : G) (f : UF) (cap : Nat) : G := { g with uf := f, cap := cap }
noncomputable def G.wNs (g : G) (ns : List Ao) : G := { g with ns := ns }
noncomputable def G.wKnown (g : G) (k : List (Ao × Nat)) : G := { g with known := k }
noncomputable def G.wAbove (g : G) (ab : List (Nat × List Nat)) : G := { g with above := ab }
noncomputable def G.wWait (g : G) (w : List Nat) : G := { g with wait := w }
noncomputable def G.wCap (g : G) (n : Nat) : G := { g with cap := n }
structure HR where
 h : Addr
 hd : Addr
 el : Addr
 fl : Addr
 kd : Addr
 ad : Addr
 wt : Addr
 ab : List (Nat × Addr × List Nat)
 B : BR
 U : UR
noncomputable def HR.wU (r : HR) (U : UR) : HR := { r with U := U }
noncomputable def HR.wAb (r : HR) (ab : List (Nat × Addr × List Nat)) : HR := { r with ab := ab }
noncomputable def HR.fix (r : HR) : List Addr := [r.h, r.hd, r.el, r.fl, r.kd, r.ad, r.wt]
noncomputable def HR.own (r : HR) : List Addr := r.fix ++ r.ab.map (·.2.1)
noncomputable def HR.fp (r : HR) : List Addr := r.own ++ (r.B.fp ++ r.U.fp)
structure HI (σ : Aa) (r : HR) : Prop where
 inst : σ r.h = some (.inst 430 r.hd)
 ns : σ r.hd = some (.ns [("bank", .ref r.B.b), ("unions", .ref r.U.u), ("edges", .ref r.el), ("forest", .ref r.fl), ("known", .ref r.kd), ("above", .ref r.ad), ("waiting", .ref r.wt)])
noncomputable def Ca (k : List (Ao × Nat)) : List (List D × D) := k.map fun p => (AU p.1, D.int (p.2 : Nat))
noncomputable def Cr (ab : List (Nat × Addr × List Nat)) : List (Int × D) := ab.map fun p => ((p.1 : Int), D.ref p.2.1)
structure HAt (σ : Aa) (r : HR) (g : G) : Prop where
 bank : BAt σ r.B g.ns
 unions : UAt σ r.U g.uf
 i : HI σ r
 edges : ∃ es, σ r.el = some (.list es) /\ es.length + g.uf.nroots <= g.cap
 forest : ∃ es, σ r.fl = some (.list es) /\ es.length + g.uf.nroots <= g.cap
 known : σ r.kd = some (.dictT (Ca g.known))
 above : σ r.ad = some (.dictI (Cr r.ab))
 abs : g.above = r.ab.map fun p => (p.1, p.2.2)
 lists : ∀ p ∈ r.ab, σ p.2.1 = some (.list (An p.2.2))
 wait : σ r.wt = some (.list (An g.wait))
 nd : r.fp.Nodup
 cap : g.cap <= 100000
structure Bl (σ : Aa) (r : HR) (σ' : Aa) (r' : HR) : Prop where
 h : r'.h = r.h
 F : Fr σ σ' r.fp
 fp : ∀ a ∈ r'.fp, a ∈ r.fp ∨ σ a = none
theorem Bl.refl (σ : Aa) (r : HR) : Bl σ r σ r := ⟨rfl, Fr.refl _ _, fun _ h => .inl h⟩
theorem Bl.trans {σ σ1 σ2 : Aa} {r r1 r2 : HR} (x : Bl σ r σ1 r1) (y : Bl σ1 r1 σ2 r2) : Bl σ r σ2 r2 := by iterate 1
 exact {
  h := y.h.trans x.h
  F := fun a o ha e => by
   have e1 := x.F a o ha e
   refine y.F a o (fun h => ?_) e1
   rcases x.fp a h with h | h
   ·exact ha h
   ·rw [e] at h; cases h
  fp := fun a h => by
   rcases y.fp a h with h | h
   ·exact x.fp a h
   ·cases e : σ a with
    | none => exact .inr rfl
    | some o =>
     refine .inl (Va fun q => ?_)
     rw [x.F a o q e] at h; cases h }
theorem Bl.of0 (r : HR) (F : Fr σ σ1 []) : Bl σ r σ1 r := ⟨rfl, F.wide (fun _ h => (Ar h).elim), fun _ h => .inl h⟩
theorem Bl.of (r : HR) (F : Fr σ σ1 r.fp) : Bl σ r σ1 r := ⟨rfl, F, fun _ h => .inl h⟩
theorem Bl.keep {σ σ' : Aa} {r r' : HR} (x : Bl σ r σ' r') {a : Addr} {o : MO} (h : a ∉ r.fp) (e : σ a = some o) : σ' a = some o := x.F a o h e
theorem Bl.off {σ σ' : Aa} {r r' : HR} (x : Bl σ r σ' r') {a : Addr} {o : MO} (h : a ∉ r.fp) (e : σ a = some o) : a ∉ r'.fp := by iterate 1
 exact fun q => by
  rcases x.fp a q with q | q
  ·exact h q
  ·rw [e] at q; cases q
theorem Vm {l : List Addr} (h : l.Nodup) (i j : Nat) {a b : Addr} (hi : l[i]? = some a) (hj : l[j]? = some b) (hij : Nat.beq i j = false) : a ≠ b := by iterate 1
 exact fun q => by
  have := HD h hi (q ▸ hj)
  rw [this, Nat.beq_refl] at hij; cases hij
section
variable {c : Cx} {A : Around} {σ σ' : Aa} {r : HR} {g : G} {Q : D -> Aa -> Prop} {K : Value -> List D -> Prop}
theorem HI.a_bank (I : HI σ r) (O : Ok c) (q : Q (.ref r.B.b) σ) : Bp c σ (.ref r.h) "bank" Q := by iterate 1
 exact Bp.mk I.inst I.ns rfl (Ui O) q
theorem HI.a_unions (I : HI σ r) (O : Ok c) (q : Q (.ref r.U.u) σ) : Bp c σ (.ref r.h) "unions" Q := by iterate 1
 exact Bp.mk I.inst I.ns rfl (Uk O) q
theorem HI.a_edges (I : HI σ r) (O : Ok c) (q : Q (.ref r.el) σ) : Bp c σ (.ref r.h) "edges" Q := by iterate 1
 exact Bp.mk I.inst I.ns rfl (Um O) q
theorem HI.a_forest (I : HI σ r) (O : Ok c) (q : Q (.ref r.fl) σ) : Bp c σ (.ref r.h) "forest" Q := by iterate 1
 exact Bp.mk I.inst I.ns rfl (Uo O) q
theorem HI.a_known (I : HI σ r) (O : Ok c) (q : Q (.ref r.kd) σ) : Bp c σ (.ref r.h) "known" Q := by iterate 1
 exact Bp.mk I.inst I.ns rfl (Uq O) q
theorem HI.a_above (I : HI σ r) (O : Ok c) (q : Q (.ref r.ad) σ) : Bp c σ (.ref r.h) "above" Q := by iterate 1
 exact Bp.mk I.inst I.ns rfl (Us O) q
theorem HI.a_waiting (I : HI σ r) (O : Ok c) (q : Q (.ref r.wt) σ) : Bp c σ (.ref r.h) "waiting" Q := by iterate 1
 exact Bp.mk I.inst I.ns rfl (Uu O) q
theorem HI.m_node (I : HI σ r) (O : Ok c) (k : K (.ref 328) [.ref r.h]) : GM c A "node" (.ref r.h) σ K := by iterate 1
 exact GM.own O I.inst I.ns rfl (Uw O) k
theorem HI.m_add (I : HI σ r) (O : Ok c) (k : K (.ref 333) [.ref r.h]) : GM c A "add" (.ref r.h) σ K := by iterate 1
 exact GM.own O I.inst I.ns rfl (Ux O) k
theorem HI.m_look (I : HI σ r) (O : Ok c) (k : K (.ref 347) [.ref r.h]) : GM c A "look_at" (.ref r.h) σ K := by iterate 1
 exact GM.own O I.inst I.ns rfl (Uy O) k
theorem HI.m_find (I : HI σ r) (O : Ok c) (k : K (.ref 354) [.ref r.h]) : GM c A "find" (.ref r.h) σ K := by iterate 1
 exact GM.own O I.inst I.ns rfl (Uz O) k
theorem HI.m_merge (I : HI σ r) (O : Ok c) (k : K (.ref 368) [.ref r.h]) : GM c A "merge" (.ref r.h) σ K := by iterate 1
 exact GM.own O I.inst I.ns rfl (UA O) k
theorem HI.m_join (I : HI σ r) (O : Ok c) (k : K (.ref 375) [.ref r.h]) : GM c A "join" (.ref r.h) σ K := by iterate 1
 exact GM.own O I.inst I.ns rfl (UB O) k
theorem HI.m_settle (I : HI σ r) (O : Ok c) (k : K (.ref 382) [.ref r.h]) : GM c A "settle" (.ref r.h) σ K := by iterate 1
 exact GM.own O I.inst I.ns rfl (UC O) k
theorem HI.m_classes (I : HI σ r) (O : Ok c) (k : K (.ref 396) [.ref r.h]) : GM c A "classes" (.ref r.h) σ K := by iterate 1
 exact GM.own O I.inst I.ns rfl (UD O) k
theorem HI.m_members (I : HI σ r) (O : Ok c) (k : K (.ref 403) [.ref r.h]) : GM c A "members" (.ref r.h) σ K := by iterate 1
 exact GM.own O I.inst I.ns rfl (UE O) k
theorem HI.m_nodes_of (I : HI σ r) (O : Ok c) (k : K (.ref 408) [.ref r.h]) : GM c A "nodes_of" (.ref r.h) σ K := by iterate 1
 exact GM.own O I.inst I.ns rfl (UG O) k
theorem EP (h : a ∈ r.fix) : a ∈ r.fp := BY _ (BY _ h)
theorem HG {p : Nat × Addr × List Nat} (h : p ∈ r.ab) : p.2.1 ∈ r.fp := BY _ (BK _ (AS (f := fun p : Nat × Addr × List Nat => p.2.1) h))
theorem Mv (h : a ∈ r.B.fp) : a ∈ r.fp := BK _ (BY _ h)
theorem J6 (h : a ∈ r.U.fp) : a ∈ r.fp := BK _ (BK _ h)
theorem HAt.fr (H : HAt σ r g) (F : Fr σ σ' fp) (h : ∀ a ∈ r.fp, a ∉ fp) : HAt σ' r g := by iterate 1
 exact {
  bank := H.bank.fr F fun a ha => h a (Mv ha)
  unions := H.unions.fr F fun a ha => h a (J6 ha)
  i := ⟨F.at (h _ (.head _)) H.i.inst, F.at (h _ (.tail _ (.head _))) H.i.ns⟩
  edges := H.edges.imp fun es x => ⟨F.at (h _ (.tail _ (.tail _ (.head _)))) x.1, x.2⟩
  forest := H.forest.imp fun es x => ⟨F.at (h _ (.tail _ (.tail _ (.tail _ (.head _))))) x.1, x.2⟩
  known := F.at (h _ (.tail _ (.tail _ (.tail _ (.tail _ (.head _)))))) H.known
  above := F.at (h _ (.tail _ (.tail _ (.tail _ (.tail _ (.tail _ (.head _))))))) H.above
  abs := H.abs
  lists := fun p hp => F.at (h _ (HG hp)) (H.lists p hp)
  wait := F.at (h _ (.tail _ (.tail _ (.tail _ (.tail _ (.tail _ (.tail _ (.head _)))))))) H.wait
  nd := H.nd
  cap := H.cap }
theorem HAt.keep (H : HAt σ r g) (F : Fr σ σ' []) : HAt σ' r g := H.fr F fun _ _ => Ar
theorem HAt.own_nd (H : HAt σ r g) : r.own.Nodup := (Bf.mp H.nd).1
theorem HAt.ne (H : HAt σ r g) (i j : Nat) {a b : Addr} (hi : r.fix[i]? = some a) (hj : r.fix[j]? = some b) (hij : Nat.beq i j = false) : a ≠ b := by iterate 1
 exact Vm (Bf.mp H.own_nd).1 i j hi hj hij
theorem HAt.ne_ab (H : HAt σ r g) {p : Nat × Addr × List Nat} (hp : p ∈ r.ab) (ha : a ∈ r.fix) : p.2.1 ≠ a := by iterate 1
 exact fun q =>
  (Bf.mp H.own_nd).2.2 a ha _ (AS (f := fun p : Nat × Addr × List Nat => p.2.1) hp) q.symm
theorem HAt.ab_inj (H : HAt σ r g) {p p' : Nat × Addr × List Nat} (hp : p ∈ r.ab) (hp' : p' ∈ r.ab) (e : p.2.1 = p'.2.1) : p = p' := by iterate 1
 obtain ⟨i, hi⟩ := EZ.mp hp
 obtain ⟨j, hj⟩ := EZ.mp hp'
 have h1 : (r.ab.map (·.2.1))[i]? = some p.2.1 := by rw [Bs, hi]; rfl
 have h2 : (r.ab.map (·.2.1))[j]? = some p.2.1 := by rw [Bs, hj, e]; rfl
 have := HD (Bf.mp H.own_nd).2.1 h1 h2
 subst this
 rw [hi] at hj
 exact Cn hj
theorem HAt.offB (H : HAt σ r g) (hx : x ∈ r.own) : ∀ a ∈ r.B.fp, a ∉ [x] := by iterate 1
 exact fun a ha h =>
  (Bf.mp H.nd).2.2 x hx a (BY _ ha) (Ag.mp h).symm
theorem HAt.offU (H : HAt σ r g) (hx : x ∈ r.own) : ∀ a ∈ r.U.fp, a ∉ [x] := by iterate 1
 exact fun a ha h =>
  (Bf.mp H.nd).2.2 x hx a (BK _ ha) (Ag.mp h).symm
theorem HAt.own_U (H : HAt σ r g) (hx : x ∈ r.own) : x ∉ r.U.fp := by iterate 1
 exact fun h => (Bf.mp H.nd).2.2 x hx x (BK _ h) rfl
theorem HAt.own_B (H : HAt σ r g) (hx : x ∈ r.own) : x ∉ r.B.fp := by iterate 1
 exact fun h => (Bf.mp H.nd).2.2 x hx x (BY _ h) rfl
theorem HAt.B_U (H : HAt σ r g) (hx : x ∈ r.B.fp) : x ∉ r.U.fp := by iterate 1
 exact fun h => (Bf.mp (Bf.mp H.nd).2.1).2.2 x hx x h rfl
theorem BG (h : a ∈ r.fix) : a ∈ r.own := BY _ h
theorem HAt.u_edges (H : HAt σ r g) (u : Upd σ σ' r.el (.list es)) (hz : es.length + g.uf.nroots <= g.cap) : HAt σ' r g := by iterate 1
 exact {
  bank := H.bank.fr u.fr (H.offB (BG (.tail _ (.tail _ (.head _)))))
  unions := H.unions.fr u.fr (H.offU (BG (.tail _ (.tail _ (.head _)))))
  i := ⟨u.keep (H.ne 0 2 rfl rfl rfl) H.i.inst, u.keep (H.ne 1 2 rfl rfl rfl) H.i.ns⟩
  edges := ⟨es, u.at_, hz⟩
  forest := H.forest.imp fun es x => ⟨u.keep (H.ne 3 2 rfl rfl rfl) x.1, x.2⟩
  known := u.keep (H.ne 4 2 rfl rfl rfl) H.known
  above := u.keep (H.ne 5 2 rfl rfl rfl) H.above
  abs := H.abs
  lists := fun p hp => u.keep (H.ne_ab hp (.tail _ (.tail _ (.head _)))) (H.lists p hp)
  wait := u.keep (H.ne 6 2 rfl rfl rfl) H.wait
  nd := H.nd
  cap := H.cap }
theorem HAt.u_forest (H : HAt σ r g) (u : Upd σ σ' r.fl (.list es)) (hz : es.length + g.uf.nroots <= g.cap) : HAt σ' r g := by iterate 1
 exact {
  bank := H.bank.fr u.fr (H.offB (BG (.tail _ (.tail _ (.tail _ (.head _))))))
  unions := H.unions.fr u.fr (H.offU (BG (.tail _ (.tail _ (.tail _ (.head _))))))
  i := ⟨u.keep (H.ne 0 3 rfl rfl rfl) H.i.inst, u.keep (H.ne 1 3 rfl rfl rfl) H.i.ns⟩
  edges := H.edges.imp fun es x => ⟨u.keep (H.ne 2 3 rfl rfl rfl) x.1, x.2⟩
  forest := ⟨es, u.at_, hz⟩
  known := u.keep (H.ne 4 3 rfl rfl rfl) H.known
  above := u.keep (H.ne 5 3 rfl rfl rfl) H.above
  abs := H.abs
  lists := fun p hp => u.keep (H.ne_ab hp (.tail _ (.tail _ (.tail _ (.head _))))) (H.lists p hp)
  wait := u.keep (H.ne 6 3 rfl rfl rfl) H.wait
  nd := H.nd
  cap := H.cap }
theorem HAt.u_known (H : HAt σ r g) (u : Upd σ σ' r.kd (.dictT (Ca k))) : HAt σ' r (g.wKnown k) := by iterate 1
 exact {
  bank := H.bank.fr u.fr (H.offB (BG (.tail _ (.tail _ (.tail _ (.tail _ (.head _)))))))
  unions := H.unions.fr u.fr (H.offU (BG (.tail _ (.tail _ (.tail _ (.tail _ (.head _)))))))
  i := ⟨u.keep (H.ne 0 4 rfl rfl rfl) H.i.inst, u.keep (H.ne 1 4 rfl rfl rfl) H.i.ns⟩
  edges := H.edges.imp fun es x => ⟨u.keep (H.ne 2 4 rfl rfl rfl) x.1, x.2⟩
  forest := H.forest.imp fun es x => ⟨u.keep (H.ne 3 4 rfl rfl rfl) x.1, x.2⟩
  known := u.at_
  above := u.keep (H.ne 5 4 rfl rfl rfl) H.above
  abs := H.abs
  lists := fun p hp => u.keep (H.ne_ab hp (.tail _ (.tail _ (.tail _ (.tail _ (.head _)))))) (H.lists p hp)
  wait := u.keep (H.ne 6 4 rfl rfl rfl) H.wait
  nd := H.nd
  cap := H.cap }
theorem HAt.u_wait (H : HAt σ r g) (u : Upd σ σ' r.wt (.list (An w))) : HAt σ' r (g.wWait w) := by iterate 1
 exact {
  bank := H.bank.fr u.fr (H.offB (BG (.tail _ (.tail _ (.tail _ (.tail _ (.tail _ (.tail _ (.head _)))))))))
  unions := H.unions.fr u.fr (H.offU (BG (.tail _ (.tail _ (.tail _ (.tail _ (.tail _ (.tail _ (.head _)))))))))
  i := ⟨u.keep (H.ne 0 6 rfl rfl rfl) H.i.inst, u.keep (H.ne 1 6 rfl rfl rfl) H.i.ns⟩
  edges := H.edges.imp fun es x => ⟨u.keep (H.ne 2 6 rfl rfl rfl) x.1, x.2⟩
  forest := H.forest.imp fun es x => ⟨u.keep (H.ne 3 6 rfl rfl rfl) x.1, x.2⟩
  known := u.keep (H.ne 4 6 rfl rfl rfl) H.known
  above := u.keep (H.ne 5 6 rfl rfl rfl) H.above
  abs := H.abs
  lists := fun p hp => u.keep (H.ne_ab hp (.tail _ (.tail _ (.tail _ (.tail _ (.tail _ (.tail _ (.head _)))))))) (H.lists p hp)
  wait := u.at_
  nd := H.nd
  cap := H.cap }
theorem HAt.u_uf (H : HAt σ r g) (F : Fr σ σ' r.U.fp) (hU : UAt σ' U f) (hu : U.u = r.U.u) (hfp : ∀ a ∈ U.fp, a ∈ r.U.fp ∨ σ a = none) {cap : Nat} (hn : f.nroots + g.cap <= g.uf.nroots + cap) (hc : cap <= 100000) (B : ∀ a ∈ r.own ++ r.B.fp, ∃ o, σ a = some o) :
   HAt σ' (r.wU U) (g.wUf f cap) := by iterate 1
 exact {
  bank := H.bank.fr F fun a h => H.B_U h
  unions := hU
  i := ⟨F.at (H.own_U (BG (.head _))) H.i.inst, hu ▸ F.at (H.own_U (BG (.tail _ (.head _)))) H.i.ns⟩
  edges := H.edges.imp fun es x => ⟨F.at (H.own_U (BG (.tail _ (.tail _ (.head _))))) x.1, by have := x.2; show es.length + f.nroots <= cap; omega⟩
  forest := H.forest.imp fun es x => ⟨F.at (H.own_U (BG (.tail _ (.tail _ (.tail _ (.head _)))))) x.1, by have := x.2; show es.length + f.nroots <= cap; omega⟩
  known := F.at (H.own_U (BG (.tail _ (.tail _ (.tail _ (.tail _ (.head _))))))) H.known
  above := F.at (H.own_U (BG (.tail _ (.tail _ (.tail _ (.tail _ (.tail _ (.head _)))))))) H.above
  abs := H.abs
  lists := fun p hp => F.at (H.own_U (BK _ (AS (f := fun p : Nat × Addr × List Nat => p.2.1) hp))) (H.lists p hp)
  wait := F.at (H.own_U (BG (.tail _ (.tail _ (.tail _ (.tail _ (.tail _ (.tail _ (.head _))))))))) H.wait
  nd := by
   have nd := Bf.mp H.nd
   have nd2 := Bf.mp nd.2.1
   have off : ∀ a, a ∈ r.own ++ r.B.fp -> a ∉ U.fp := fun a ha h => by
    rcases hfp a h with h | h
    ·rcases AC.mp ha with ha | ha
     ·exact H.own_U ha h
     ·exact H.B_U ha h
    ·obtain ⟨o, e⟩ := B a ha
     rw [e] at h; cases h
   show (r.own ++ (r.B.fp ++ U.fp)).Nodup
   refine Bf.mpr ⟨nd.1, Bf.mpr ⟨nd2.1, hU.nd, fun a ha b hb e => off a (BK _ ha) (e ▸ hb)⟩, fun a ha b hb e => ?_⟩
   rcases AC.mp hb with hb | hb
   ·exact H.own_B ha (e ▸ hb)
   ·exact off a (BY _ ha) (e ▸ hb)
  cap := hc }
theorem HAt.u_bank (H : HAt σ r g) (F : Fr σ σ' r.B.fp) (hB : BAt σ' r.B ns) : HAt σ' r (g.wNs ns) := by iterate 1
 exact {
  bank := hB
  unions := H.unions.fr F fun a h q => H.B_U q h
  i := ⟨F.at (H.own_B (BG (.head _))) H.i.inst, F.at (H.own_B (BG (.tail _ (.head _)))) H.i.ns⟩
  edges := H.edges.imp fun es x => ⟨F.at (H.own_B (BG (.tail _ (.tail _ (.head _))))) x.1, x.2⟩
  forest := H.forest.imp fun es x => ⟨F.at (H.own_B (BG (.tail _ (.tail _ (.tail _ (.head _)))))) x.1, x.2⟩
  known := F.at (H.own_B (BG (.tail _ (.tail _ (.tail _ (.tail _ (.head _))))))) H.known
  above := F.at (H.own_B (BG (.tail _ (.tail _ (.tail _ (.tail _ (.tail _ (.head _)))))))) H.above
  abs := H.abs
  lists := fun p hp => F.at (H.own_B (BK _ (AS (f := fun p : Nat × Addr × List Nat => p.2.1) hp))) (H.lists p hp)
  wait := F.at (H.own_B (BG (.tail _ (.tail _ (.tail _ (.tail _ (.tail _ (.tail _ (.head _))))))))) H.wait
  nd := H.nd
  cap := H.cap }
theorem HAt.u_above (H : HAt σ r g) (F : Fr σ σ' fp) (hfp : ∀ a ∈ fp, a = r.ad ∨ a ∈ r.ab.map (·.2.1)) (h1 : σ' r.ad = some (.dictI (Cr ab))) (h2 : ∀ p ∈ ab, σ' p.2.1 = some (.list (An p.2.2)))
   (h3 : ∀ p ∈ ab, p.2.1 ∈ r.ab.map (·.2.1) ∨ σ p.2.1 = none) (h4 : (ab.map (·.2.1)).Nodup) (B : ∀ a ∈ r.fix ++ (r.B.fp ++ r.U.fp), ∃ o, σ a = some o) : HAt σ' (r.wAb ab) (g.wAbove (ab.map fun p => (p.1, p.2.2))) := by iterate 1
 exact
  have off : ∀ a, a ∈ r.fix -> a ≠ r.ad -> a ∉ fp := fun a ha hn h => by
   rcases hfp a h with h | h
   ·exact hn h
   ·obtain ⟨p, hp, e⟩ := Av.mp h
    exact H.ne_ab hp ha e
  have offT : ∀ a, a ∈ r.B.fp ++ r.U.fp -> a ∉ fp := fun a ha h => by
   have : a ∈ r.own := by
    rcases hfp a h with h | h
    ·exact BG (h ▸ .tail _ (.tail _ (.tail _ (.tail _ (.tail _ (.head _))))))
    ·exact BK _ h
   exact (Bf.mp H.nd).2.2 a this a ha rfl
  {bank := H.bank.fr F fun a h => offT a (BY _ h)
   unions := H.unions.fr F fun a h => offT a (BK _ h)
   i := ⟨F.at (off _ (.head _) (H.ne 0 5 rfl rfl rfl)) H.i.inst, F.at (off _ (.tail _ (.head _)) (H.ne 1 5 rfl rfl rfl)) H.i.ns⟩
   edges := H.edges.imp fun es x => ⟨F.at (off _ (.tail _ (.tail _ (.head _))) (H.ne 2 5 rfl rfl rfl)) x.1, x.2⟩
   forest := H.forest.imp fun es x => ⟨F.at (off _ (.tail _ (.tail _ (.tail _ (.head _)))) (H.ne 3 5 rfl rfl rfl)) x.1, x.2⟩
   known := F.at (off _ (.tail _ (.tail _ (.tail _ (.tail _ (.head _))))) (H.ne 4 5 rfl rfl rfl)) H.known
   above := h1
   abs := rfl
   lists := h2
   wait := F.at (off _ (.tail _ (.tail _ (.tail _ (.tail _ (.tail _ (.tail _ (.head _))))))) (H.ne 6 5 rfl rfl rfl)) H.wait
   nd := by
    have nd := Bf.mp H.nd
    have nd1 := Bf.mp nd.1
    have new : ∀ a, a ∈ ab.map (·.2.1) -> a ∈ r.fix ++ (r.B.fp ++ r.U.fp) -> False := fun a ha hb => by
     obtain ⟨p, hp, rfl⟩ := Av.mp ha
     rcases h3 p hp with h | h
     ·rcases AC.mp hb with hb | hb
      ·exact nd1.2.2 _ hb _ h rfl
      ·exact nd.2.2 _ (BK _ h) _ hb rfl
     ·obtain ⟨o, e⟩ := B _ hb
      rw [e] at h; cases h
    show ((r.fix ++ ab.map (·.2.1)) ++ (r.B.fp ++ r.U.fp)).Nodup
    refine Bf.mpr ⟨Bf.mpr ⟨nd1.1, h4, fun a ha b hb e => new b hb (e ▸ BY _ ha)⟩, nd.2.1, fun a ha b hb e => ?_⟩
    rcases AC.mp ha with ha | ha
    ·exact nd.2.2 a (BG ha) b hb e
    ·exact new a ha (e ▸ BK _ hb)
   cap := H.cap }
theorem BAt.fp_some {r : BR} {ns : List Ao} (U : BAt σ r ns) : ∀ a ∈ r.fp, ∃ o, σ a = some o := by iterate 1
 exact fun a h => by
  obtain ⟨ws, hw, _⟩ := U.wsp
  obtain ⟨ds, hd, _⟩ := U.dsp
  simp only [BR.fp, Ay, Ar, or_false] at h
  rcases h with rfl | rfl | rfl | rfl | rfl | rfl
  ·exact ⟨_, U.i.inst⟩
  ·exact ⟨_, U.i.ns⟩
  ·exact ⟨_, U.nodes⟩
  ·exact ⟨_, U.nums⟩
  ·exact ⟨_, hw⟩
  ·exact ⟨_, hd⟩
theorem HAt.fix_some (H : HAt σ r g) : ∀ a ∈ r.fix, ∃ o, σ a = some o := by iterate 1
 exact fun a h => by
  obtain ⟨es, he, _⟩ := H.edges
  obtain ⟨fs, hf, _⟩ := H.forest
  simp only [HR.fix, Ay, Ar, or_false] at h
  rcases h with rfl | rfl | rfl | rfl | rfl | rfl | rfl
  ·exact ⟨_, H.i.inst⟩
  ·exact ⟨_, H.i.ns⟩
  ·exact ⟨_, he⟩
  ·exact ⟨_, hf⟩
  ·exact ⟨_, H.known⟩
  ·exact ⟨_, H.above⟩
  ·exact ⟨_, H.wait⟩
theorem HAt.own_some (H : HAt σ r g) : ∀ a ∈ r.own, ∃ o, σ a = some o := by iterate 1
 exact fun a h => by
  rcases AC.mp h with h | h
  ·exact H.fix_some a h
  ·obtain ⟨p, hp, rfl⟩ := Av.mp h
   exact ⟨_, H.lists p hp⟩
theorem HAt.BU_some (H : HAt σ r g) : ∀ a ∈ r.B.fp ++ r.U.fp, ∃ o, σ a = some o := by iterate 1
 exact fun a h => by
  rcases AC.mp h with h | h
  ·exact H.bank.fp_some a h
  ·exact H.unions.fp_some h
theorem HAt.fp_some (H : HAt σ r g) : ∀ a ∈ r.fp, ∃ o, σ a = some o := by iterate 1
 exact fun a h => by
  rcases AC.mp h with h | h
  ·exact H.own_some a h
  ·exact H.BU_some a h
theorem Gc (O : Ok c) (R : Af A 2) (H : HAt σ r g) (hn : n < g.uf.par.length) (q : Q (.int (Ae g.uf.par n : Nat)) σ) : Ac c A (.ref 354) [.ref r.h, .int n] σ Q := by iterate 1
 refine d354 O R fun A R => ?_
 apply H.i.a_unions O
 apply H.unions.i.m_find O
 exact J3 O R H.unions hn q
theorem C396 (O : Ok c) (R : Af A 2) (H : HAt σ r g) (q : ∀ x σ', σ' x = some (.list (An g.uf.roots)) -> Fr σ σ' [] -> Q (.ref x) σ') : Ac c A (.ref 396) [.ref r.h] σ Q := by iterate 1
 refine d396 O R fun A R => ?_
 apply H.i.a_unions O
 apply H.unions.i.m_classes O
 exact C274 O R H.unions q
theorem C403 (O : Ok c) (R : Af A 3) (H : HAt σ r g) (hn : n < g.uf.par.length) (h64 : g.uf.par.length < 64) (q : ∀ x σ', New σ σ' x (.list (An (AJ (g.uf.lots.getD (Ae g.uf.par n) [])))) -> Q (.ref x) σ') : Ac c A (.ref 403) [.ref r.h, .int n] σ Q := by iterate 1
 refine d403 O R fun A R => ?_
 apply H.i.a_unions O
 apply H.unions.i.m_members O
 exact C269 O R H.unions hn h64 q
end
noncomputable def Bg (ab : List (Nat × List Nat)) (k : Nat) : List Nat := (ab.lookup k).getD []
noncomputable def Gd (ab : List (Nat × List Nat)) (k l : Nat) : List (Nat × List Nat) := (ab.filter fun p => p.1 != l).map fun p => if p.1 = k then (k, p.2 ++ Bg ab l) else p
noncomputable def G.joined (g : G) (k l : Nat) : G := ((g.wUf (g.uf.join k l) g.cap).wWait (g.wait ++ Bg g.above l)).wAbove (Gd g.above k l)
noncomputable def BB (par : List Nat) (x : Ao) : Ao := (x.1, x.2.map (Ae par))
noncomputable def Ck (known : List (Ao × Nat)) (x : Ao) : Option Nat := known.lookup x
noncomputable def G.join (g : G) (a b : Nat) : G := if Ae g.uf.par a = Ae g.uf.par b then g else g.joined (min (Ae g.uf.par a) (Ae g.uf.par b)) (max (Ae g.uf.par a) (Ae g.uf.par b))
noncomputable def G.lookAt (g : G) (n : Nat) (x : Ao) : G := match Ck g.known (BB g.uf.par x) with
 | none => g.wKnown (g.known ++ [(BB g.uf.par x, n)])
 | some m => g.join m n
structure GW (g : G) : Prop where
 len : g.uf.par.length = g.ns.length
 lt : g.ns.length < 64
 wf : g.uf.WF
 has : ∀ k, k < g.ns.length -> g.uf.par.getD k k = k -> ∃ l, (k, l) ∈ g.above
 nk : (g.above.map (·.1)).Nodup
 kb : ∀ p ∈ g.above, p.1 < g.ns.length
 ab : ∀ p ∈ g.above, ∀ m ∈ p.2, m < g.ns.length
 wt : ∀ m ∈ g.wait, m < g.ns.length
 kn : ∀ p ∈ g.known, p.2 < g.ns.length
 tot : (g.above.map (·.2.length)).sum <= 10 * g.ns.length
 mu : g.known.length + (g.uf.nroots * (10 * g.ns.length + 1) + g.wait.length) <= 2000 * g.ns.length
theorem Ge {α : Type} {ab : List (Nat × α)} {l : α} (nk : (ab.map (·.1)).Nodup) (h : (k, l) ∈ ab) : ab.lookup k = some l := by iterate 1
 induction ab with
 | nil => cases h
 | cons p ab ih =>
  rw [AM, BE] at nk
  rw [AY]
  rcases Ay.mp h with rfl | h
  ·rw [beq_self_eq_true]
  ·have : k ≠ p.1 := fun q => nk.1 (q ▸ AS (f := (·.1)) h)
   rw [beq_eq_false_iff_ne.mpr this]
   exact ih nk.2 h
theorem Vn (nk : (ab.map (·.1)).Nodup) (h : (k, l) ∈ ab) : Bg ab k = l := by iterate 1 unfold Bg; rw [Ge nk h]; rfl
theorem Vo {ab : List (Nat × List Nat)} {p : Nat × List Nat} (h : p ∈ ab) : p.2.length <= (ab.map (·.2.length)).sum := by iterate 1
 induction ab with
 | nil => cases h
 | cons q ab ih =>
  rw [AM, Fv]
  rcases Ay.mp h with rfl | h
  ·exact FW _ _
  ·exact Ap (ih h) (Qc _ _)
theorem Vp (ab : List (Nat × List Nat)) (k : Nat) : Bg ab k = [] ∨ (k, Bg ab k) ∈ ab := by iterate 1
 unfold Bg
 induction ab with
 | nil => exact .inl rfl
 | cons p ab ih =>
  obtain ⟨a, l⟩ := p
  rw [AY]
  cases e : k == a with
  | true => rw [DX e]; exact .inr (.head _)
  | false => exact ih.imp id fun h => .tail _ h
theorem Vq : (Gd ab k l).map (·.1) = (ab.map (·.1)).filter (· != l) := by iterate 1
 unfold Gd
 rw [A2, J7]
 refine Cg fun p _ => ?_
 show (if p.1 = k then (k, p.2 ++ Bg ab l) else p).1 = p.1
 split
 ·exact Eq.symm ‹_›
 ·rfl
theorem Qd {p : Nat × List Nat} (h : p ∈ Gd ab k l) : p.1 ≠ l /\ ∃ p' ∈ ab, p.1 = p'.1 /\ (p = p' ∨ (p.1 = k /\ p.2 = p'.2 ++ Bg ab l)) := by iterate 1
 obtain ⟨p', h1, rfl⟩ := Av.mp h
 obtain ⟨h2, h3⟩ := Ch.mp h1
 have h3 : p'.1 ≠ l := by simpa using h3
 by_cases e : p'.1 = k
 ·rw [if_pos e]; exact ⟨e ▸ h3, p', h2, e.symm, .inr ⟨rfl, rfl⟩⟩
 ·rw [if_neg e]; exact ⟨h3, p', h2, rfl, .inl rfl⟩
theorem Qe (nk : (ab.map (·.1)).Nodup) : ((ab.filter fun p => p.1 != l).map (·.2.length)).sum + (Bg ab l).length = (ab.map (·.2.length)).sum := by iterate 1
 induction ab with
 | nil => rfl
 | cons p ab ih =>
  obtain ⟨a, x⟩ := p
  rw [AM, BE] at nk
  have ih := ih nk.2
  have e0 : Bg ((a, x) :: ab) l = if l = a then x else Bg ab l := by
   unfold Bg
   rw [AY]
   by_cases e : l = a
   ·rw [e, beq_self_eq_true, if_pos rfl]; rfl
   ·rw [beq_eq_false_iff_ne.mpr e, if_neg e]
  rw [e0, AM, Fv]
  by_cases e : l = a
  ·subst e
   rw [List.filter_cons_of_neg (by simp), if_pos rfl, List.filter_eq_self.mpr (fun p hp => by
    have : p.1 ≠ l := fun q => nk.1 (q ▸ AS (f := (·.1)) hp)
    simpa using this), GZ]
  ·rw [List.filter_cons_of_pos (by simpa using fun q => e q.symm), if_neg e, AM, Fv, <- ih, II]
theorem Qf {ab : List (Nat × List Nat)} {y : List Nat} (nk : (ab.map (·.1)).Nodup) : ((ab.map fun p => if p.1 = k then (k, p.2 ++ y) else p).map (·.2.length)).sum <= (ab.map (·.2.length)).sum + y.length := by iterate 1
 induction ab with
 | nil => exact BC _
 | cons p ab ih =>
  rw [AM, BE] at nk
  rw [AM, AM, AM, Fv, Fv]
  by_cases e : p.1 = k
  ·have : (ab.map fun p => if p.1 = k then (k, p.2 ++ y) else p) = ab := by
    refine (Cg fun q hq => ?_).trans (G1 _)
    exact if_neg fun z => nk.1 (by rw [e, <- z]; exact AS (f := (·.1)) hq)
   rw [if_pos e, this]
   show (p.2 ++ y).length + _ <= _
   rw [AD]; omega
  ·rw [if_neg e]
   have := ih nk.2
   omega
section
variable {g : G}
theorem GW.joined (W : GW g) (hkl : k < l) (hl : l < g.ns.length) (rk : g.uf.par.getD k k = k) (rl : g.uf.par.getD l l = l) : GW (g.joined k l) := by iterate 1
 have hl' : l < g.uf.par.length := W.len ▸ hl
 have hfil : ((g.above.filter fun p => p.1 != l).map (·.1)).Nodup := by
  have : (g.above.filter fun p => p.1 != l).Sublist g.above := Qg
  exact (this.map _).nodup W.nk
 have hab : ∀ m ∈ Bg g.above l, m < g.ns.length := fun m hm => by
  rcases Vp g.above l with e | e
  ·rw [e] at hm; cases hm
  ·exact W.ab _ e m hm
 have s1 := Qe (l := l) W.nk
 have s2 := Qf (k := k) (y := Bg g.above l) hfil
 have hle : (Bg g.above l).length <= 10 * g.ns.length := Ap (Qc _ _) (s1 ▸ W.tot)
 have hn := UF.Jl (f := g.uf) hkl hl' rl
 have hlen : (g.uf.join k l).par.length = g.ns.length := (Fk ..).trans W.len
 refine ⟨hlen, W.lt, W.wf.join hkl hl' rk rl, fun a ha hr => ?_, ?_, fun p hp => ?_, fun p hp m hm => ?_, fun m hm => ?_, W.kn, ?_, ?_⟩
 ·have hr' : (g.uf.par.set l k).getD a a = a := hr
  rw [Hv hl'] at hr'
  by_cases e : a = l
  ·rw [if_pos e] at hr'; omega
  ·rw [if_neg e] at hr'
   obtain ⟨x, hx⟩ := W.has a ha hr'
   have hm : (a, x) ∈ g.above.filter fun p => p.1 != l := Ch.mpr ⟨hx, by simpa using e⟩
   by_cases z : a = k
   ·exact ⟨x ++ Bg g.above l, Av.mpr ⟨(a, x), hm, by show (if a = k then _ else _) = _; rw [if_pos z, z]⟩⟩
   ·exact ⟨x, Av.mpr ⟨(a, x), hm, if_neg z⟩⟩
 ·show ((Gd g.above k l).map (·.1)).Nodup
  rw [Vq]
  exact List.Pairwise.filter _ W.nk
 ·obtain ⟨_, p', hp', e, _⟩ := Qd hp
  rw [e]; exact W.kb p' hp'
 ·obtain ⟨_, p', hp', _, e | ⟨_, e⟩⟩ := Qd hp
  ·exact W.ab p' hp' m (e ▸ hm)
  ·rw [e] at hm
   rcases AC.mp hm with hm | hm
   ·exact W.ab p' hp' m hm
   ·exact hab m hm
 ·rcases AC.mp hm with hm | hm
  ·exact W.wt m hm
  ·exact hab m hm
 ·exact Ap s2 (s1 ▸ W.tot)
 ·have hmu := W.mu
  show g.known.length + ((g.uf.join k l).nroots * (10 * g.ns.length + 1) + (g.wait ++ Bg g.above l).length) <= 2000 * g.ns.length
  rw [<- hn, Nat.add_mul] at hmu
  rw [AD]
  omega
noncomputable def G.mu (g : G) : Nat := g.uf.nroots * (10 * g.ns.length + 1) + g.wait.length
theorem GW.mu_joined (W : GW g) (hkl : k < l) (hl : l < g.ns.length) (rl : g.uf.par.getD l l = l) : (g.joined k l).mu < g.mu := by iterate 1
 have hn := UF.Jl (f := g.uf) hkl (W.len ▸ hl) rl
 have s1 := Qe (l := l) W.nk
 have hle : (Bg g.above l).length <= 10 * g.ns.length := Ap (Qc _ _) (s1 ▸ W.tot)
 show (g.uf.join k l).nroots * (10 * g.ns.length + 1) + (g.wait ++ Bg g.above l).length < g.uf.nroots * (10 * g.ns.length + 1) + g.wait.length
 rw [<- hn, Nat.add_mul, AD]
 omega
theorem J8 (le : Cp par) (a b : Nat) : par.getD (min (Ae par a) (Ae par b)) (min (Ae par a) (Ae par b)) = min (Ae par a) (Ae par b) := by iterate 1
 rcases EI (Ae par a) (Ae par b) with q | q
 ·rw [Ft q]; exact Dm le a
 ·rw [F0 q]; exact Dm le b
theorem HH (le : Cp par) (a b : Nat) : par.getD (max (Ae par a) (Ae par b)) (max (Ae par a) (Ae par b)) = max (Ae par a) (Ae par b) := by iterate 1
 rcases EI (Ae par a) (Ae par b) with q | q
 ·rw [HB q]; exact Dm le b
 ·rw [HC q]; exact Dm le a
theorem HJ {a b : Nat} (h : a ≠ b) : min a b < max a b := by omega
theorem HK {a b n : Nat} (h : a < n) (h' : b < n) : max a b < n := by omega
theorem GW.join (W : GW g) (ha : a < g.ns.length) (hb : b < g.ns.length) : GW (g.join a b) := by iterate 1
 unfold G.join
 split
 ·exact W
 ·exact W.joined (HJ ‹_›) (HK (W.len ▸ Dn W.wf.le (W.len ▸ ha)) (W.len ▸ Dn W.wf.le (W.len ▸ hb))) (J8 W.wf.le a b) (HH W.wf.le a b)
theorem GW.mu_join (W : GW g) (ha : a < g.ns.length) (hb : b < g.ns.length) : (g.join a b).mu <= g.mu := by iterate 1
 unfold G.join
 split
 ·exact Az _
 ·exact Bz (W.mu_joined (HJ ‹_›) (HK (W.len ▸ Dn W.wf.le (W.len ▸ ha)) (W.len ▸ Dn W.wf.le (W.len ▸ hb))) (HH W.wf.le a b))
theorem Qh (a b : Nat) : (g.join a b).ns = g.ns := by unfold G.join; split <;> rfl
theorem Gf (h : Ck known x = some m) : (x, m) ∈ known := by iterate 1
 unfold Ck at h
 induction known with
 | nil => cases h
 | cons p known ih =>
  obtain ⟨y, k⟩ := p
  rw [AY] at h
  cases e : x == y with
  | true => rw [e] at h; cases h; rw [DX e]; exact .head _
  | false => rw [e] at h; exact .tail _ (ih h)
theorem GW.look (W : GW g) (hn : n < g.ns.length) (hs : g.known.length + 1 + g.mu <= 2000 * g.ns.length) : GW (g.lookAt n x) := by iterate 1
 unfold G.lookAt
 split
 ·refine ⟨W.len, W.lt, W.wf, W.has, W.nk, W.kb, W.ab, W.wt, fun p hp => ?_, W.tot, ?_⟩
  ·rcases AC.mp hp with hp | hp
   ·exact W.kn p hp
   ·cases Ag.mp hp; exact hn
  ·show (g.known ++ [(BB g.uf.par x, n)]).length + g.mu <= _
   rw [AD]; exact hs
 ·exact W.join (W.kn _ (Gf ‹_›)) hn
theorem GW.mu_look (W : GW g) (hn : n < g.ns.length) : (g.lookAt n x).mu <= g.mu := by iterate 1
 unfold G.lookAt
 split
 ·exact Az _
 ·exact W.mu_join (W.kn _ (Gf ‹_›)) hn
theorem Mw (n : Nat) (x : Ao) : (g.lookAt n x).ns = g.ns := by iterate 1
 unfold G.lookAt
 split
 ·rfl
 ·exact Qh ..
theorem GW.pop (W : GW g) (hw : g.wait = w ++ [n]) : GW (g.wWait w) /\ n < g.ns.length /\ g.known.length + 1 + (g.wWait w).mu <= 2000 * g.ns.length /\ (g.wWait w).mu < g.mu := by iterate 1
 have hmu := W.mu
 have hl : g.wait.length = w.length + 1 := by rw [hw, AD]; rfl
 have e1 : g.mu = g.uf.nroots * (10 * g.ns.length + 1) + g.wait.length := rfl
 have e2 : (g.wWait w).mu = g.uf.nroots * (10 * g.ns.length + 1) + w.length := rfl
 exact ⟨⟨W.len, W.lt, W.wf, W.has, W.nk, W.kb, W.ab, fun m hm => W.wt m (hw ▸ BY _ hm), W.kn, W.tot, by show g.known.length + (g.uf.nroots * (10 * g.ns.length + 1) + w.length) <= 2000 * g.ns.length; omega⟩,
  W.wt n (hw ▸ BK _ (.head _)), by omega, by omega⟩
theorem GW.wait_len (W : GW g) : g.wait.length <= 128000 := by have := W.mu; have := W.lt; omega
theorem GW.known_len (W : GW g) : g.known.length <= 128000 := by have := W.mu; have := W.lt; omega
theorem GW.ab_len (W : GW g) {p : Nat × List Nat} (h : p ∈ g.above) : p.2.length <= 640 := by iterate 1 have := W.tot; have := W.lt; have := Vo h; omega
inductive DE : G -> G -> Prop
 | done {g : G} : g.wait = [] -> DE g g
 | step {g g' : G} {w : List Nat} {n : Nat} {x : Ao} : g.wait = w ++ [n] -> g.ns[n]? = some x -> DE ((g.wWait w).lookAt n x) g' -> DE g g'
end
noncomputable def G2 (ab : List (Nat × Addr × List Nat)) (k l : Nat) (x : Addr) (gl : List Nat) : List (Nat × Addr × List Nat) := (ab.filter fun p => p.1 != l).map fun p => if p.1 = k then (k, x, p.2.2 ++ gl) else p
noncomputable abbrev Db (p : Nat × Addr × List Nat) : Nat × List Nat := (p.1, p.2.2)
theorem Vr (h : Bg (ab.map Db) l = gl) : (G2 ab k l x gl).map Db = Gd (ab.map Db) k l := by iterate 1
 subst h
 unfold G2 Gd
 rw [J7, A2, A2]
 refine Cg fun p hp => ?_
 show Db (if p.1 = k then _ else p) = if p.1 = k then _ else Db p
 split <;> rfl
theorem J9 {p : Nat × Addr × List Nat} (nk : (ab.map (·.1)).Nodup) (h : p ∈ ab) : AN (Cr ab) (p.1 : Int) = some (.ref p.2.1) := by iterate 1
 unfold AN Cr
 induction ab with
 | nil => cases h
 | cons q ab ih =>
  rw [AM, BE] at nk
  rw [AM]
  rcases Ay.mp h with rfl | h
  ·rw [Qi (p := fun kv : Int × D => decide (kv.1 = (p.1 : Int))) (decide_eq_true rfl)]; rfl
  ·have : q.1 ≠ p.1 := fun z => nk.1 (z ▸ AS (f := (·.1)) h)
   rw [Mq (p := fun kv : Int × D => decide (kv.1 = (p.1 : Int))) (by rw [decide_eq_false (mt DT.mp this)]; exact Cu)]
   exact ih nk.2 h
theorem Vs (ab : List (Nat × Addr × List Nat)) (l : Nat) : GB (Cr ab) (l : Int) = Cr (ab.filter fun p => p.1 != l) := by iterate 1
 unfold GB Cr
 rw [J7]
 refine congrArg _ (List.filter_congr fun p _ => ?_)
 show decide ((p.1 : Int) ≠ (l : Int)) = (p.1 != l)
 rw [Oh, decide_eq_true_iff, bne_iff_ne, ne_eq, ne_eq, DT]
theorem Vt {k : Nat} (h : k ∈ ab.map (·.1)) : Bb (Cr ab) (k : Int) (.ref x) = Cr (ab.map fun p => if p.1 = k then (k, x, p.2.2 ++ gl) else p) := by iterate 1
 unfold Bb Cr
 rw [if_pos]
 ·rw [A2, A2]
  refine Cg fun p _ => ?_
  show (if (p.1 : Int) = (k : Int) then ((p.1 : Int), D.ref x) else _) = (((if p.1 = k then (k, x, p.2.2 ++ gl) else p).1 : Int), D.ref (if p.1 = k then (k, x, p.2.2 ++ gl) else p).2.1)
  by_cases e : p.1 = k
  ·rw [if_pos e, if_pos (congrArg _ e), e]
  ·rw [if_neg e, if_neg (mt DT.mp e)]
 ·obtain ⟨p, hp, rfl⟩ := Av.mp h
  exact Er.mpr ⟨_, AS hp, decide_eq_true rfl⟩
theorem Vu {ab : List (Nat × Addr × List Nat)} {x : Addr} {gl : List Nat} (nd : (ab.map (·.2.1)).Nodup) (kk : (ab.map (·.1)).Nodup) (hx : ∀ p ∈ ab, p.2.1 ≠ x) :
  ((ab.map fun p => if p.1 = k then (k, x, p.2.2 ++ gl) else p).map (·.2.1)).Nodup := by iterate 1
 induction ab with
 | nil => exact Cw
 | cons p ab ih =>
  rw [AM, BE] at nd kk
  rw [AM, AM, BE]
  refine ⟨fun h => ?_, ih nd.2 kk.2 fun p hp => hx p (.tail _ hp)⟩
  obtain ⟨q, hq, e⟩ := Av.mp h
  obtain ⟨q', hq', rfl⟩ := Av.mp hq
  by_cases e1 : q'.1 = k
  ·by_cases e2 : p.1 = k
   ·exact kk.1 (e2 ▸ e1 ▸ AS (f := (·.1)) hq')
   ·rw [if_pos e1, if_neg e2] at e; exact hx p (.head _) e.symm
  ·rw [if_neg e1] at e
   by_cases e2 : p.1 = k
   ·rw [if_pos e2] at e; exact hx q' (.tail _ hq') e
   ·rw [if_neg e2] at e; exact nd.1 (e ▸ AS (f := (·.2.1)) hq')
section
variable {c : Cx} {A : Around} {σ σ' : Aa} {r : HR} {g : G} {Q : D -> Aa -> Prop} {K : Value -> List D -> Prop}
theorem C.itI (h : σ a = some (.dictI es)) (hd : AN es k = some d) (q : Q d σ) : IT c A (.ref a) (.int k) σ Q := IT.dict dkI h hd q
theorem HAt.more (H : HAt σ r g) (h1 : g.cap <= k) (h2 : k <= 100000) : HAt σ r (g.wCap k) := by iterate 1
 exact
  {H with edges := H.edges.imp fun _ x => ⟨x.1, Ap x.2 h1⟩, forest := H.forest.imp fun _ x => ⟨x.1, Ap x.2 h1⟩, cap := h2 }
theorem HAt.tri (H : HAt σ r g) (h : (k, l) ∈ g.above) : ∃ a, (k, a, l) ∈ r.ab := by iterate 1
 rw [H.abs] at h
 obtain ⟨p, hp, e⟩ := Av.mp h
 cases e
 exact ⟨p.2.1, hp⟩
theorem HAt.keys (H : HAt σ r g) (W : GW g) : (r.ab.map (·.1)).Nodup := by iterate 1
 have := W.nk
 rw [H.abs, A2] at this
 exact this
theorem Mx (ab : List (Nat × Addr × List Nat)) : (Cr ab).length = ab.length := Am _
theorem HAt.ab_len (H : HAt σ r g) (W : GW g) : r.ab.length <= 64 := by iterate 1
 have := Pz (H.keys W) (n := g.ns.length) fun m hm => by
  obtain ⟨p, hp, rfl⟩ := Av.mp hm
  exact W.kb (Db p) (by rw [H.abs]; exact AS hp)
 rw [Am] at this
 exact Ap this (Bz W.lt)
theorem C375 (O : Ok c) (R : Af A 3) (H : HAt σ r g) (W : GW g) (ha : a < g.ns.length) (hb : b < g.ns.length) (hc : g.cap < 100000)
  (q1 : Ae g.uf.par a = Ae g.uf.par b -> ∀ σ', HAt σ' r (g.wCap (g.cap + 1)) -> Bl σ r σ' r -> Q (.bool false) σ')
  (q2 : Ae g.uf.par a ≠ Ae g.uf.par b -> ∀ r' σ', HAt σ' r' (g.joined (min (Ae g.uf.par a) (Ae g.uf.par b)) (max (Ae g.uf.par a) (Ae g.uf.par b))) -> Bl σ r σ' r' -> Q (.bool true) σ') :
  Ac c A (.ref 375) [.ref r.h, .int a, .int b, rs] σ Q := by iterate 1
 refine d375 O R fun A R => ?_
 obtain ⟨es, he, hez⟩ := H.edges
 obtain ⟨fs, hf, hfz⟩ := H.forest
 apply H.i.a_edges O
 apply GM.append he
 refine C.append he (by omega) fun σ1 u1 => ?_
 have H1 : HAt σ1 r (g.wCap (g.cap + 1)) := (H.more (Ej _) hc).u_edges u1 (by rw [AD]; show es.length + 1 + g.uf.nroots <= g.cap + 1; omega)
 have f1 := u1.keep (H.ne 3 2 rfl rfl rfl) hf
 have N1 : Bl σ r σ1 r := .of r (u1.fr.wide fun x h => Ag.mp h ▸ EP (.tail _ (.tail _ (.head _))))
 apply H1.i.a_unions O
 apply H1.unions.i.m_merge O
 have len := W.len
 have U1 : UAt σ1 r.U g.uf := H1.unions
 refine C262 O R U1 (len ▸ ha) (len ▸ hb) (fun e σ2 F2 => ?_) fun e σ2 U2 F2 => ?_
 ·exact CMP.isNone (.inl rfl) (q1 e _ (H1.keep F2) (N1.trans (.of0 r F2)))
 refine CMP.isNone (.inr ⟨_, rfl⟩) ?_
 have hkl := HJ e
 have hl : max (Ae g.uf.par a) (Ae g.uf.par b) < g.ns.length := len ▸ HK (Dn W.wf.le (len ▸ ha)) (Dn W.wf.le (len ▸ hb))
 have rk := J8 W.wf.le a b
 have rl := HH W.wf.le a b
 have q2 := q2 e
 generalize min (Ae g.uf.par a) (Ae g.uf.par b) = k at *
 generalize max (Ae g.uf.par a) (Ae g.uf.par b) = l at *
 have hn := UF.Jl (f := g.uf) hkl (len ▸ hl) rl
 have H2 : HAt σ2 r (g.wUf (g.uf.join k l) g.cap) := H1.u_uf F2 U2 rfl (fun _ h => .inl h) (by show (g.uf.join k l).nroots + (g.cap + 1) <= g.uf.nroots + g.cap; omega) H.cap fun x hx => by
  rcases AC.mp hx with hx | hx
  ·exact H1.own_some x hx
  ·exact H1.BU_some x (BY _ hx)
 have N2 := N1.trans (.of r (F2.wide fun _ => J6))
 have f2 := F2.at (H1.own_U (BG (.tail _ (.tail _ (.tail _ (.head _)))))) f1
 have e2 := F2.at (H1.own_U (BG (.tail _ (.tail _ (.head _))))) u1.at_
 apply H2.i.a_forest O
 apply GM.append f2
 apply H2.i.a_edges O
 apply Ac.Cf e2 (by rw [AD]; show es.length + 1 <= _; omega)
 rw [AD]
 apply BOP.J2
 refine C.append f2 (by omega) fun σ3 u3 => ?_
 have H3 := H2.u_forest u3 (by rw [AD]; show fs.length + 1 + (g.uf.join k l).nroots <= g.cap; omega)
 have N3 := N2.trans (.of r (u3.fr.wide fun x h => Ag.mp h ▸ EP (.tail _ (.tail _ (.tail _ (.head _))))))
 obtain ⟨ll, hll⟩ := W.has l hl rl
 obtain ⟨lk, hlk⟩ := W.has k (DB hkl hl) rk
 have eal := Vn W.nk hll
 obtain ⟨al, tl⟩ := H.tri hll
 obtain ⟨ak, tk⟩ := H.tri hlk
 have ks := H.keys W
 have z1 : ll.length <= 640 := W.ab_len hll
 have z2 : lk.length <= 640 := W.ab_len hlk
 have z3 := W.wait_len
 have z4 := H.ab_len W
 apply H3.i.a_waiting O
 apply GM.extend H3.wait
 apply H3.i.a_above O
 apply C.itI H3.above (J9 ks tl)
 refine C.extend H3.wait (H3.lists _ tl) (by rw [A6, A6]; show g.wait.length + ll.length <= _; omega) fun σ4 u4 => ?_
 rw [<- Fo] at u4
 have H4 := H3.u_wait u4
 have N4 := N3.trans (.of r (u4.fr.wide fun x h => Ag.mp h ▸ EP (.tail _ (.tail _ (.tail _ (.tail _ (.tail _ (.tail _ (.head _)))))))))
 apply H4.i.a_above O
 apply C.itI H4.above (J9 ks tk)
 apply H4.i.a_above O
 apply GM.popI H4.above
 refine C.popI H4.above (by rw [Mx]; omega) (J9 ks tl) fun σ5 u5 => ?_
 rw [Vs] at u5
 have k5 := u5.keep (H.ne_ab tk (.tail _ (.tail _ (.tail _ (.tail _ (.tail _ (.head _))))))) (H4.lists _ tk)
 have l5 := u5.keep (H.ne_ab tl (.tail _ (.tail _ (.tail _ (.tail _ (.tail _ (.head _))))))) (H4.lists _ tl)
 refine C.addL k5 l5 (by rw [A6, A6]; show lk.length + ll.length <= _; omega) fun x σ6 n6 => ?_
 rw [<- Fo] at n6
 have i6 : HI σ6 r := ⟨n6.keep (u5.keep (H.ne 0 5 rfl rfl rfl) H4.i.inst), n6.keep (u5.keep (H.ne 1 5 rfl rfl rfl) H4.i.ns)⟩
 apply i6.a_above O
 refine C.setI (n6.keep u5.at_) (by rw [Mx]; exact Ap (Ga ..) (by omega)) fun σ7 u7 => ?_
 have hkf : (k, ak, lk) ∈ r.ab.filter fun p => p.1 != l := Ch.mpr ⟨tk, by simpa using A8 hkl⟩
 rw [Vt (gl := ll) (AS (f := (·.1)) hkf)] at u7
 have hx : σ4 x = none := u5.none H4.above n6.no
 have hxa : x ≠ r.ad := Ne.symm (n6.other u5.at_)
 have F7 : Fr σ4 σ7 [r.ad] := (u5.fr.trans (n6.fr.wide fun _ h => (Ar h).elim)).trans u7.fr
 have mem : ∀ p ∈ G2 r.ab k l x ll, (p = (k, x, lk ++ ll)) ∨ (p ∈ r.ab /\ p.1 ≠ k) := fun p hp => by
  obtain ⟨p', hp', rfl⟩ := Av.mp hp
  have hp' := (Ch.mp hp').1
  by_cases e : p'.1 = k
  ·have e1 : p' = (k, ak, lk) := by
    have h1 := Ge ks (l := p'.2) (show (p'.1, p'.2) ∈ r.ab from hp')
    have h2 := Ge ks tk
    rw [e, h2] at h1
    exact Prod.ext e (Cn h1).symm
   rw [if_pos e, e1]; exact .inl rfl
  ·rw [if_neg e]; exact .inr ⟨hp', e⟩
 have H7 := H4.u_above (ab := G2 r.ab k l x ll) F7 (fun a h => .inl (Ag.mp h)) u7.at_ (fun p hp => by
   rcases mem p hp with rfl | ⟨hp, _⟩
   ·exact u7.keep hxa n6.at_
   ·exact F7.at (fun h => H.ne_ab hp (.tail _ (.tail _ (.tail _ (.tail _ (.tail _ (.head _)))))) (Ag.mp h)) (H4.lists p hp)) (fun p hp => by
   rcases mem p hp with rfl | ⟨hp, _⟩
   ·exact .inr hx
   ·exact .inl (AS (f := fun p : Nat × Addr × List Nat => p.2.1) hp)) (by
   have nd := ((Qg (p := fun p : Nat × Addr × List Nat => p.1 != l) (l := r.ab)).map (·.2.1)).nodup (Bf.mp H.own_nd).2.1
   have kk := ((Qg (p := fun p : Nat × Addr × List Nat => p.1 != l) (l := r.ab)).map (·.1)).nodup ks
   exact Vu nd kk fun p hp e => by
    have := H4.lists p (Ch.mp hp).1
    rw [e, hx] at this; cases this) (fun a h => by
   rcases AC.mp h with h | h
   ·exact H4.fix_some a h
   ·exact H4.BU_some a h)
 have eG : (((g.wUf (g.uf.join k l) g.cap).wWait (g.wait ++ ll)).wAbove ((G2 r.ab k l x ll).map Db)) = g.joined k l := by
  have h0 : r.ab.map Db = g.above := H.abs.symm
  rw [Vr (gl := ll) (by rw [h0]; exact eal), h0, <- eal]; rfl
 refine q2 (r.wAb (G2 r.ab k l x ll)) _ (eG ▸ H7) (N4.trans ⟨rfl, F7.wide fun a h => Ag.mp h ▸ EP (.tail _ (.tail _ (.tail _ (.tail _ (.tail _ (.head _)))))), fun a ha => ?_⟩)
 rcases AC.mp ha with ha | ha
 ·rcases AC.mp ha with ha | ha
  ·exact .inl (EP ha)
  ·obtain ⟨p, hp, rfl⟩ := Av.mp ha
   rcases mem p hp with rfl | ⟨hp, _⟩
   ·exact .inr hx
   ·exact .inl (HG hp)
 ·exact .inl (BK _ ha)
end
section
open Classical
theorem Ka (known : List (Ao × Nat)) (y : Ao) : AN (Ca known) (AU y) = (Ck known y).map fun (m : Nat) => D.int m := by iterate 1
 unfold AN Ca Ck
 induction known with
 | nil => rfl
 | cons p known ih =>
  obtain ⟨z, m⟩ := p
  rw [AM, AY]
  by_cases e : y = z
  ·rw [e, beq_self_eq_true, Qi (p := fun kv : List D × D => decide (kv.1 = AU z)) (decide_eq_true rfl)]; rfl
  ·rw [beq_eq_false_iff_ne.mpr e, Mq (p := fun kv : List D × D => decide (kv.1 = AU y)) (by rw [decide_eq_false fun q => e (GX q).symm]; exact Cu)]
   exact ih
theorem Qj (h : Ck known y = none) : Bb (Ca known) (AU y) (.int (n : Nat)) = Ca (known ++ [(y, n)]) := by iterate 1
 unfold Bb
 rw [if_neg]
 ·unfold Ca; rw [Bo]; rfl
 ·intro q
  obtain ⟨e, he, hq⟩ := Er.mp q
  have hv := Ka known y
  rw [h] at hv
  unfold AN at hv
  exact I6.mp (Mr.mp hv) e he hq
theorem Vv {g : G} {x : Ao} (h : Ck g.known (BB g.uf.par x) = none) : g.lookAt n x = g.wKnown (g.known ++ [(BB g.uf.par x, n)]) := by unfold G.lookAt; rw [h]
theorem Vw {g : G} {x : Ao} (h : Ck g.known (BB g.uf.par x) = some m) : g.lookAt n x = g.join m n := by unfold G.lookAt; rw [h]
theorem Qk {g : G} (h : Ae g.uf.par a = Ae g.uf.par b) : g.join a b = g := if_pos h
theorem Ql {g : G} (h : Ae g.uf.par a ≠ Ae g.uf.par b) : g.join a b = g.joined (min (Ae g.uf.par a) (Ae g.uf.par b)) (max (Ae g.uf.par a) (Ae g.uf.par b)) := if_neg h
theorem Vx {g : G} (a b : Nat) : (g.join a b).cap = g.cap := by unfold G.join; split <;> rfl
theorem Qm {g : G} (n : Nat) (x : Ao) : (g.lookAt n x).cap = g.cap := by iterate 1
 unfold G.lookAt
 split
 ·rfl
 ·exact Vx ..
section
variable {c : Cx} {A : Around} {σ σ' : Aa} {r : HR} {g : G} {Q : D -> Aa -> Prop} {K : Value -> List D -> Prop}
theorem HAt.kids (H : HAt σ r g) (W : GW g) {n : Nat} (h : g.ns[n]? = some x) : ∀ k ∈ x.2, k < g.uf.par.length := by iterate 1
 exact fun k hk =>
  W.len ▸ DB ((H.bank.wf n x h).2.1 k hk) (AT.mp h).1
theorem C328 {n : Nat} (O : Ok c) (R : Af A 3) (H : HAt σ r g) (h : g.ns[n]? = some x) (hk : ∀ k ∈ x.2, k < g.uf.par.length) (q : ∀ σ', Fr σ σ' [] -> Q (AE (BB g.uf.par x)) σ') : Ac c A (.ref 328) [.ref r.h, .int n] σ Q := by iterate 1
 refine d328 O R fun A R => ?_
 have hl := (H.bank.wf n x h).2.2
 have hz : x.2.length <= 1000000 := Bz (BH hl)
 apply H.i.a_bank O
 apply H.bank.i.m_op O
 apply C135 O (R.le (Ej 1)) H.bank h
 apply H.i.a_bank O
 apply H.bank.i.m_kids O
 apply C142 O (R.le (Ej 1)) H.bank h
 refine Fq (k := fun k : Nat => D.int (k : Nat)) x.2 (fun k => .int (Ae g.uf.par k : Nat)) (fun σ' => Fr σ σ' []) (AH.tup R.handled) (Fr.refl _ _) (fun _ _ => trivial) (fun i k σ' F hi => ?_) fun σ' F a σ'' n1 => ?_
 ·have H' := H.keep F
  apply H'.i.m_find O
  exact Gc O R H' (hk k (AX hi)) (Ea.mk hz hi F)
 ·refine Ac.FR n1.at_ (by rw [Am]; exact hz) (BOP.FN (by rw [Am, Dp, GZ]; exact EO (BH hl)) ?_)
  have e : AE (BB g.uf.par x) = .tup ([.str x.1] ++ x.2.map fun k => .int (Ae g.uf.par k : Nat)) := by
   unfold AE AU BB An
   rw [A2]; rfl
  exact e ▸ q _ (F.trans n1.fr)
theorem C347 (O : Ok c) (R : Af A 4) (H : HAt σ r g) (W : GW g) (h : g.ns[n]? = some x) (hc : g.cap < 100000) (q : ∀ r' σ', HAt σ' r' (g.lookAt n x) -> Bl σ r σ' r' -> Q .none σ') : Ac c A (.ref 347) [.ref r.h, .int n] σ Q := by iterate 1
 refine d347 O R fun A R => ?_
 have hn := (AT.mp h).1
 have len := W.len
 have hk := H.kids W h
 have hh : Al 4 (AE (BB g.uf.par x)) = true := GY (H.bank.wf n x h).1.ok
 apply H.i.a_known O
 apply GM.setdefault H.known
 apply H.i.m_node O
 refine C328 O R H h hk fun σ1 F1 => ?_
 have H1 := H.keep F1
 have hz := W.known_len
 refine C.setdefault (k := AU (BB g.uf.par x)) (CW R) H1.known hh (by unfold Ca; rw [Am]; omega) (fun e he => ?_) fun hv σ2 u2 => ?_
 ·rw [Ka] at he
  obtain ⟨m, hm, rfl⟩ := Dl.mp he
  have hm' : m < g.ns.length := W.kn _ (Gf hm)
  rw [Vw hm] at q
  apply H1.i.m_find O
  apply Gc O (R.le (Ej 2)) H1 (len ▸ hm')
  apply H1.i.m_find O
  apply Gc O (R.le (Ej 2)) H1 (len ▸ hn)
  refine CMP.neN (fun e => ?_) fun e => ?_
  ·rw [Qk e] at q
   exact q r σ1 H1 (.of0 r F1)
  ·rw [Ql e] at q
   apply H1.i.m_join O
   exact C375 O R H1 W hm' hn hc (fun z => absurd z e) fun _ r' σ' H' N => q r' σ' H' ((Bl.of0 r F1).trans N)
 ·rw [Ka, Mr] at hv
  rw [Qj hv] at u2
  rw [Vv hv] at q
  have H2 := H1.u_known u2
  apply H2.i.m_find O
  apply Gc O (R.le (Ej 2)) H2 (len ▸ hn)
  apply H2.i.m_find O
  apply Gc O (R.le (Ej 2)) H2 (len ▸ hn)
  exact CMP.neN (fun _ => q r σ2 H2 ((Bl.of0 r F1).trans (.of r (u2.fr.wide fun a h => Ag.mp h ▸ EP (.tail _ (.tail _ (.tail _ (.tail _ (.head _)))))))) ) fun z => absurd rfl z
theorem Vy {l : List Nat} (h : 0 < l.length) : ∃ w n, l = w ++ [n] := ⟨l.dropLast, l.getLast (List.ne_nil_of_length_pos h), (List.dropLast_concat_getLast _).symm⟩
theorem C382 (O : Ok c) (R : Af A 5) (H : HAt σ r g) (W : GW g) (hc : g.cap < 100000) (q : ∀ r' σ' g', DE g g' -> HAt σ' r' g' -> GW g' -> Bl σ r σ' r' -> Q .none σ') : Ac c A (.ref 382) [.ref r.h] σ Q := by iterate 1
 refine d382 O R fun A R => ?_
 refine Mj (fun _ : G × HR => [some (.ref r.h)]) (fun x => x.1.mu) (fun x σ' => HAt σ' x.2 x.1 /\ GW x.1 /\ Bl σ r σ' x.2 /\ x.1.cap < 100000 /\ ∀ g', DE x.1 g' -> DE g g') (g, r) rfl ⟨H, W, .refl .., hc, fun _ h => h⟩ fun x σ' h => ?_
 obtain ⟨g1, r1⟩ := x
 have H := h.1
 have W := h.2.1
 have N := h.2.2.1
 have hz : (An g1.wait).length <= 1000000 := by rw [A6]; exact Ap W.wait_len (by decide)
 rw [<- N.h]
 apply H.i.a_waiting O
 apply Ac.Cf H.wait hz
 rw [A6]
 refine CMP.gtN (b := 0) (fun hp => ?_) fun e => ?_
 ·obtain ⟨w, n, hw⟩ := Vy hp
  obtain ⟨W1, hn, hs, hmu⟩ := W.pop hw
  have hx : g1.ns[n]? = some g1.ns[n] := Bw hn
  apply H.i.m_look O
  apply H.i.a_waiting O
  have hwt := H.wait
  rw [hw, Fo] at hwt
  apply GM.pop hwt
  refine C.pop hwt (by rw [hw, Fo, AD] at hz; exact Ap (FW _ _) hz) fun σ2 u2 => ?_
  have H2 := H.u_wait u2
  refine C347 (g := g1.wWait w) O R H2 W1 hx h.2.2.2.1 fun r' σ3 H3 N3 => ?_
  exact ⟨((g1.wWait w).lookAt n g1.ns[n], r'), Bd (W1.mu_look hn) hmu, rfl, H3, W1.look hn hs, N.trans ((Bl.of r1 (u2.fr.wide fun a h => Ag.mp h ▸ EP (.tail _ (.tail _ (.tail _ (.tail _ (.tail _ (.tail _ (.head _))))))))).trans N3), by rw [Qm]; exact h.2.2.2.1, fun g' S => h.2.2.2.2 g' (.step hw hx S)⟩
 ·exact q r1 σ' g1 (h.2.2.2.2 g1 (.done (Ss (Nat.le_zero.mp e)))) H W N
theorem C368 (O : Ok c) (R : Af A 4) (H : HAt σ r g) (W : GW g) (ha : a < g.ns.length) (hb : b < g.ns.length) (hc : g.cap < 100000)
  (q : ∀ r' σ' x, HAt σ' r' ((g.join a b).wCap (g.cap + 1)) -> Bl σ r σ' r' -> Q (.bool x) σ') : Ac c A (.ref 368) [.ref r.h, .int a, .int b, rs] σ Q := by iterate 1
 refine d368 O R fun A R => ?_
 dsimp only [Me]
 apply H.i.m_join O
 refine C375 O R H W ha hb hc (fun e σ' H' N => ?_) fun e r' σ' H' N => ?_
 ·rw [Qk e] at q; exact q r σ' false H' N
 ·rw [Ql e] at q; exact q r' σ' true (H'.more (Ej _) hc) N
end
end
noncomputable def AO {α : Type} [DecidableEq α] : List α -> List α
 | [] => []
 | a :: l => if a ∈ AO l then AO l else a :: AO l
section
variable {α : Type} [DecidableEq α]
theorem Fw : ∀ {l : List α}, a ∈ AO l ↔ a ∈ l
 | [] => Iff.rfl
 | b :: l => by iterate 1
  unfold AO
  have ih := Fw (a := a) (l := l)
  split
  ·rename_i h
   rw [ih, Ay]
   exact ⟨.inr, fun x => x.elim (fun e => by rw [e]; exact Fw.mp h) id⟩
  ·rw [Ay, Ay, ih]
theorem Fy : ∀ l : List α, (AO l).Nodup
 | [] => Cw
 | b :: l => by iterate 1
  unfold AO
  split
  ·exact Fy l
  ·exact BE.mpr ⟨‹_›, Fy l⟩
theorem G3 : ∀ l : List α, (AO l).length <= l.length
 | [] => Az 0
 | b :: l => by iterate 1
  unfold AO
  split
  ·exact HL (G3 l)
  ·exact Fn (G3 l)
end
noncomputable def DF (par ks : List Nat) : List Nat := AJ (AO (ks.map (Ae par)))
theorem Qn : a ∈ DF par ks ↔ ∃ k ∈ ks, Ae par k = a := by iterate 1
 unfold DF
 rw [(DU _).mem_iff, Fw, Av]
theorem Qo (par ks : List Nat) : (DF par ks).length <= ks.length := by iterate 1
 unfold DF
 rw [(DU _).length_eq]
 exact Ap (G3 _) (Gx (Am _))
noncomputable def BZ (n : Nat) (ab : List (Nat × List Nat)) (a : Nat) : List (Nat × List Nat) := ab.map fun p => if p.1 = a then (a, p.2 ++ [n]) else p
theorem Qp (n : Nat) (ab : List (Nat × List Nat)) (a : Nat) : (BZ n ab a).map (·.1) = ab.map (·.1) := by iterate 1
 unfold BZ
 rw [A2]
 refine Cg fun p _ => ?_
 show (if p.1 = a then (a, p.2 ++ [n]) else p).1 = p.1
 split
 ·exact Eq.symm ‹_›
 ·rfl
theorem Kb (n : Nat) : ∀ (l : List Nat) (ab : List (Nat × List Nat)), (l.foldl (BZ n) ab).map (·.1) = ab.map (·.1)
 | [], _ => rfl
 | a :: l, ab => (Kb n l _).trans (Qp n ab a)
theorem Qq (n : Nat) : ∀ (l : List Nat) (ab : List (Nat × List Nat)), (ab.map (·.1)).Nodup -> ((l.foldl (BZ n) ab).map (·.2.length)).sum <= (ab.map (·.2.length)).sum + l.length
 | [], _, _ => Az _
 | a :: l, ab, h => by iterate 1
  have h1 := Qq n l (BZ n ab a) (by rw [Qp]; exact h)
  have h2 : ((BZ n ab a).map (·.2.length)).sum <= _ + [n].length := Qf h
  rw [List.foldl_cons, CE]
  exact Ap h1 (by rw [Dp] at h2; omega)
theorem Qr (n : Nat) : ∀ (l : List Nat) (ab : List (Nat × List Nat)) {p : Nat × List Nat} {m : Nat}, p ∈ l.foldl (BZ n) ab -> m ∈ p.2 -> m = n ∨ ∃ p' ∈ ab, p'.1 = p.1 /\ m ∈ p'.2
 | [], _, p, m, h, hm => .inr ⟨p, h, rfl, hm⟩
 | a :: l, ab, p, m, h, hm => by iterate 1
  rcases Qr n l _ h hm with e | ⟨p', h1, h2, h3⟩
  ·exact .inl e
  ·obtain ⟨p'', h4, rfl⟩ := Av.mp h1
   by_cases e : p''.1 = a
   ·rw [if_pos e] at h2 h3
    rcases AC.mp h3 with h3 | h3
    ·exact .inr ⟨p'', h4, e.trans h2, h3⟩
    ·exact .inl (Ag.mp h3)
   ·rw [if_neg e] at h2 h3
    exact .inr ⟨p'', h4, h2, h3⟩
theorem Qs (n : Nat) : ∀ (l : List Nat) (ab : List (Nat × List Nat)) (b : Nat), (∀ p ∈ ab, p.2.length <= b) -> ∀ p ∈ l.foldl (BZ n) ab, p.2.length <= b + l.length
 | [], _, _, h, p, hp => h p hp
 | a :: l, ab, b, h, p, hp => by iterate 1
  have := Qs n l (BZ n ab a) (b + 1) (fun p hp => by
   obtain ⟨p', h1, rfl⟩ := Av.mp hp
   have := h p' h1
   split
   ·rw [AD]; exact Fn this
   ·exact HL this) p hp
  rw [CE]; omega
theorem Qt {ab : List (Nat × List Nat)} (h : k ∈ ab.map (·.1)) : ∃ l, (k, l) ∈ ab := by iterate 1
 obtain ⟨p, hp, rfl⟩ := Av.mp h
 exact ⟨p.2, hp⟩
noncomputable def G.grown (g : G) (x : Ao) : G := ((g.wNs (g.ns ++ [x])).wUf g.uf.make (g.cap + 1)).wAbove ((DF g.uf.make.par x.2).foldl (BZ g.ns.length) (g.above ++ [(g.ns.length, [])]))
theorem GW.keys1 (W : GW g) : ((g.above ++ [(g.ns.length, ([] : List Nat))]).map (fun p : Nat × List Nat => p.1)).Nodup := by iterate 1
 rw [Bo]
 refine Bf.mpr ⟨W.nk, El .., fun a ha b hb e => ?_⟩
 obtain ⟨p, hp, rfl⟩ := Av.mp ha
 have h1 : b = g.ns.length := Ag.mp hb
 exact A8 (W.kb p hp) (e.trans h1)
theorem GW.grown (W : GW g) (hl : x.2.length <= 10) (h63 : g.ns.length < 63) : GW (g.grown x) /\ (g.grown x).known.length + 1 + (g.grown x).mu <= 2000 * (g.grown x).ns.length := by iterate 1
 have hN : (g.grown x).ns.length = g.ns.length + 1 := AD
 have hsum := Qq g.ns.length (DF g.uf.make.par x.2) (g.above ++ [(g.ns.length, [])]) W.keys1
 have hrs := Qo g.uf.make.par x.2
 have hs0 : ((g.above ++ [(g.ns.length, ([] : List Nat))]).map (·.2.length)).sum = (g.above.map (·.2.length)).sum := by
  rw [Bo, List.sum_append]; exact Nat.add_zero _
 rw [hs0] at hsum
 have htot := W.tot
 have hkeys : (g.grown x).above.map (·.1) = g.above.map (·.1) ++ [g.ns.length] := (Kb ..).trans (Bo ..)
 have hmu := W.mu
 have hnr := UF.TG g.uf
 rw [W.len] at hnr
 have e1 : (g.grown x).mu = (g.uf.nroots + 1) * (10 * (g.ns.length + 1) + 1) + g.wait.length := by
  show g.uf.make.nroots * (10 * (g.ns ++ [x]).length + 1) + g.wait.length = _
  rw [UF.L3, AD]; rfl
 have e2 : (g.uf.nroots + 1) * (10 * (g.ns.length + 1) + 1) = g.uf.nroots * (10 * g.ns.length + 1) + 10 * g.uf.nroots + (10 * g.ns.length + 11) := by
  rw [Nat.add_mul, My, Nat.mul_add 10, OX, Nat.mul_add]; omega
 have hlen : g.uf.make.par.length = g.ns.length + 1 := (AD).trans (congrArg (· + 1) W.len)
 refine ⟨⟨hlen.trans hN.symm, by rw [hN]; omega, W.wf.make, fun k hk hr => ?_, ?_, fun p hp => ?_, fun p hp m hm => ?_, fun m hm => ?_, fun p hp => ?_, ?_, ?_⟩, ?_⟩
 ·refine Qt ?_
  rw [hkeys]
  rw [hN] at hk
  by_cases e : k = g.ns.length
  ·exact BK _ (e ▸ .head _)
  ·have hk' : k < g.ns.length := by omega
   obtain ⟨l, h⟩ := W.has k hk' (by
    have hr' : (g.uf.par ++ [g.uf.par.length]).getD k k = k := hr
    rw [Bt, CQ (W.len ▸ hk')] at hr'
    rw [Bt]; exact hr')
   exact BY _ (AS (f := (·.1)) h)
 ·rw [hkeys]
  have := W.keys1
  rw [Bo] at this; exact this
 ·have : p.1 ∈ (g.grown x).above.map (·.1) := AS hp
  rw [hkeys] at this
  rw [hN]
  rcases AC.mp this with h | h
  ·obtain ⟨q, hq, e⟩ := Av.mp h
   exact Dx (e ▸ W.kb q hq)
  ·rw [Ag.mp h]; exact E8 _
 ·rw [hN]
  rcases Qr _ _ _ hp hm with e | ⟨p', h1, _, h3⟩
  ·rw [e]; exact E8 _
  ·rcases AC.mp h1 with h1 | h1
   ·exact Dx (W.ab p' h1 m h3)
   ·rw [Ag.mp h1] at h3; cases h3
 ·rw [hN]; exact Dx (W.wt m hm)
 ·rw [hN]; exact Dx (W.kn p hp)
 ·rw [hN]; exact Ap hsum (by omega)
 ·show g.known.length + (g.grown x).mu <= _
  rw [e1, e2, hN]; omega
 ·show g.known.length + 1 + (g.grown x).mu <= _
  rw [e1, e2, hN]; omega
theorem Vz {n : Nat} (h : ∀ p ∈ ab, p.1 ≠ n) : Bb (Cr ab) (n : Int) (.ref x) = Cr (ab ++ [(n, x, [])]) := by iterate 1
 unfold Bb
 rw [if_neg]
 ·unfold Cr; rw [Bo]; rfl
 ·intro q
  obtain ⟨e, he, hq⟩ := Er.mp q
  obtain ⟨p, hp, rfl⟩ := Av.mp he
  exact h p hp (DT.mp (of_decide_eq_true hq))
noncomputable def DG (n : Nat) (ab : List (Nat × Addr × List Nat)) (a : Nat) : List (Nat × Addr × List Nat) := ab.map fun p => if p.1 = a then (a, p.2.1, p.2.2 ++ [n]) else p
theorem VA (n : Nat) (ab : List (Nat × Addr × List Nat)) (a : Nat) : (DG n ab a).map Db = BZ n (ab.map Db) a := by iterate 1
 unfold DG BZ
 rw [A2, A2]
 refine Cg fun p _ => ?_
 show Db (if p.1 = a then _ else p) = if p.1 = a then _ else Db p
 split <;> rfl
theorem VB (n : Nat) (ab : List (Nat × Addr × List Nat)) (a : Nat) : Cr (DG n ab a) = Cr ab := by iterate 1
 unfold DG Cr
 rw [A2]
 refine Cg fun p _ => ?_
 show (((if p.1 = a then (a, p.2.1, p.2.2 ++ [n]) else p).1 : Int), D.ref (if p.1 = a then (a, p.2.1, p.2.2 ++ [n]) else p).2.1) = _
 by_cases e : p.1 = a
 ·rw [if_pos e, e]
 ·rw [if_neg e]
theorem Mz (n : Nat) (ab : List (Nat × Addr × List Nat)) (a : Nat) : (DG n ab a).map (·.2.1) = ab.map (·.2.1) := by iterate 1
 unfold DG
 rw [A2]
 refine Cg fun p _ => ?_
 show (if p.1 = a then (a, p.2.1, p.2.2 ++ [n]) else p).2.1 = p.2.1
 split <;> rfl
section
variable {c : Cx} {A : Around} {σ σ' : Aa} {r : HR} {g : G} {Q : D -> Aa -> Prop} {K : Value -> List D -> Prop}
theorem C.setInts (hh : A.handled = none) (h : σ l = some (.list (An ns))) (hn : ns.length <= 15) (q : ∀ x σ' ds, New σ σ' x (.set ds) -> ds.Perm (An (AO ns)) -> Q (.ref x) σ') : Ac c A (.type "set") [.ref l] σ Q := by iterate 1
 exact
  Ac.setInts hh h (by rw [A6]; exact hn) (fun d hd => by
   obtain ⟨i, _, rfl⟩ := Av.mp hd
   exact ⟨_, rfl⟩) fun x ds n nd mem _ => q x _ ds (.set _ n) (by
   refine (MA nd ?_).mpr fun d => ?_
   ·exact List.Pairwise.map _ (fun a b hab e => hab (DT.mp (D.int.inj e))) (Fy ns)
   ·rw [mem]
    unfold An
    rw [Av, Av]
    exact ⟨fun ⟨a, h1, h2⟩ => ⟨a, Fw.mpr h1, h2⟩, fun ⟨a, h1, h2⟩ => ⟨a, Fw.mp h1, h2⟩⟩)
theorem HAt.u_ab {n a : Nat} {p : Addr} {l : List Nat} (H : HAt σ r g) (ks : (r.ab.map (·.1)).Nodup) (hp : (a, p, l) ∈ r.ab) (u : Upd σ σ' p (.list (An (l ++ [n])))) : HAt σ' (r.wAb (DG n r.ab a)) (g.wAbove (BZ n g.above a)) := by iterate 1
 have H2 := H.u_above (ab := DG n r.ab a) u.fr (fun x h => .inr (Ag.mp h ▸ AS (f := fun p : Nat × Addr × List Nat => p.2.1) hp)) (by rw [VB]; exact u.keep (fun e => H.ne_ab hp (.tail _ (.tail _ (.tail _ (.tail _ (.tail _ (.head _)))))) e.symm) H.above) (fun q hq => by
  obtain ⟨q', h1, rfl⟩ := Av.mp hq
  by_cases e : q'.1 = a
  ·have h2 := Ge ks (l := q'.2) (show (q'.1, q'.2) ∈ r.ab from h1)
   rw [e, Ge ks hp] at h2
   rw [if_pos e, <- Cn h2]; exact u.at_
  ·rw [if_neg e]
   exact u.keep (fun z => e (congrArg Prod.fst (H.ab_inj h1 hp z))) (H.lists q' h1)) (fun q hq => .inl (Mz n r.ab a ▸ AS (f := fun p : Nat × Addr × List Nat => p.2.1) hq)) (by rw [Mz]; exact (Bf.mp H.own_nd).2.1) fun x h => by
  rcases AC.mp h with h | h
  ·exact H.fix_some x h
  ·exact H.BU_some x h
 have e : (DG n r.ab a).map Db = BZ n g.above a := by rw [VA]; exact congrArg (fun z => BZ n z a) H.abs.symm
 exact e ▸ H2
theorem Bl.ab {n a : Nat} {p : Addr} {l : List Nat} {o : MO} (hp : (a, p, l) ∈ r.ab) (u : Upd σ σ' p o) : Bl σ r σ' (r.wAb (DG n r.ab a)) := by iterate 1
 exact ⟨rfl, u.fr.wide fun x h => Ag.mp h ▸ HG hp, fun x hx => .inl (by
  have e : (r.wAb (DG n r.ab a)).fp = r.fp := by
   show (r.fix ++ (DG n r.ab a).map (·.2.1)) ++ (r.B.fp ++ r.U.fp) = _
   rw [Mz]; rfl
  exact e ▸ hx)⟩
theorem VC (O : Ok c) (R : Af A 5) (H : HAt σ r g) (W : GW g) (h : g.ns[i]? = some (op, ks)) (q : Q (.int (i : Nat)) σ) : Ac c A (.ref 333) [.ref r.h, .str op, .tup (An ks)] σ Q := by iterate 1
 refine d333 O R fun A R => ?_
 have hi := (AT.mp h).1
 apply H.i.a_bank O
 apply H.bank.i.m_take O
 apply Vj O (R.le (by decide)) H.bank h
 apply H.i.a_unions O
 apply H.unions.i.m_size O
 apply C248 O (R.le (by decide)) H.unions
 exact CMP.ltN (fun _ => q) fun z => absurd (W.len ▸ hi) (Nat.not_lt_of_le z)
theorem MB (O : Ok c) (R : Af A 5) (H : HAt σ r g) (W : GW g) (hc : g.cap + 1 < 100000) (h : (op, ks) ∉ g.ns) (hop : CX op) (hk : ∀ k ∈ ks, k < g.ns.length) (hl : ks.length <= 10) (h63 : g.ns.length < 63)
  (q : ∀ r' σ', HAt σ' r' ((g.grown (op, ks)).lookAt g.ns.length (op, ks)) -> Bl σ r σ' r' -> Q (.int (g.ns.length : Nat)) σ') : Ac c A (.ref 333) [.ref r.h, .str op, .tup (An ks)] σ Q := by iterate 1
 refine d333 O R fun A R => ?_
 have len := W.len
 have hz : g.ns.length < 1000 := DB h63 (by decide)
 apply H.i.a_bank O
 apply H.bank.i.m_take O
 refine Vl O (R.le (by decide)) H.bank h hop hk hl hz fun σ1 B1 F1 => ?_
 have H1 := H.u_bank F1 B1
 have N1 := Bl.of r (F1.wide fun _ => Mv)
 apply H1.i.a_unions O
 apply H1.unions.i.m_size O
 apply C248 O (R.le (by decide)) H1.unions
 refine CMP.ltN (fun z => absurd (len ▸ z) (Ef _)) fun _ => ?_
 apply H1.i.a_unions O
 apply H1.unions.i.m_make O
 refine C241 O (R.le (by decide)) H1.unions (show g.uf.par.length < 1000 from len ▸ hz) fun xu σ2 hxu U2 F2 => ?_
 have fpU : ∀ a ∈ UR.fp (r.U.more xu), a ∈ r.U.fp ∨ σ1 a = none := fun a h => by
  have h' : a ∈ [r.U.u, r.U.ud, r.U.al, r.U.ll, r.U.ml] ++ (r.U.la ++ [xu]) := h
  rw [<- Dg] at h'
  rcases AC.mp h' with h | h
  ·exact .inl h
  ·exact .inr (Ag.mp h ▸ hxu)
 have H2 : HAt σ2 (r.wU (r.U.more xu)) ((g.wNs (g.ns ++ [(op, ks)])).wUf g.uf.make (g.cap + 1)) := H1.u_uf F2 U2 rfl fpU (cap := g.cap + 1) (by
  show g.uf.make.nroots + g.cap <= g.uf.nroots + (g.cap + 1)
  rw [UF.L3]; omega) (Bz hc) fun x hx => by
  rcases AC.mp hx with hx | hx
  ·exact H1.own_some x hx
  ·exact H1.BU_some x (BY _ hx)
 have N2 : Bl σ r σ2 (r.wU (r.U.more xu)) := N1.trans ⟨rfl, F2.wide fun _ => J6, fun a ha => by
  rcases AC.mp ha with ha | ha
  ·exact .inl (BY _ ha)
  ·rcases AC.mp ha with ha | ha
   ·exact .inl (Mv ha)
   ·exact (fpU a ha).imp J6 id⟩
 intro xl σ3 n3
 have H3 := H2.keep n3.fr
 apply H3.i.a_above O
 have hab : r.ab.length <= 64 := H.ab_len W
 refine C.setI H3.above (by rw [Mx]; exact Ap hab (by decide)) fun σ4 u4 => ?_
 have u4 : Upd σ3 σ4 r.ad (.dictI (Bb (Cr r.ab) (g.ns.length : Int) (.ref xl))) := u4
 rw [Vz (ab := r.ab) (n := g.ns.length) fun p hp => A8 (W.kb (Db p) (by rw [H.abs]; exact AS hp))] at u4
 have hxa : xl ≠ r.ad := fun e => n3.other H2.above e.symm
 have H4 : HAt σ4 ((r.wU (r.U.more xu)).wAb (r.ab ++ [(g.ns.length, xl, [])])) (((g.wNs (g.ns ++ [(op, ks)])).wUf g.uf.make (g.cap + 1)).wAbove (g.above ++ [(g.ns.length, [])])) := by
  have := H2.u_above (ab := r.ab ++ [(g.ns.length, xl, [])]) ((n3.fr.wide fun _ h => (Ar h).elim).trans u4.fr) (fun a h => .inl (Ag.mp h)) u4.at_ (fun p hp => by
   rcases AC.mp hp with hp | hp
   ·exact u4.keep (H2.ne_ab hp (.tail _ (.tail _ (.tail _ (.tail _ (.tail _ (.head _))))))) (n3.keep (H2.lists p hp))
   ·rw [Ag.mp hp]; exact u4.keep hxa n3.at_) (fun p hp => by
   rcases AC.mp hp with hp | hp
   ·exact .inl (AS (f := fun p : Nat × Addr × List Nat => p.2.1) hp)
   ·rw [Ag.mp hp]; exact .inr n3.no) (by
   rw [Bo]
   refine Bf.mpr ⟨(Bf.mp H.own_nd).2.1, El .., fun a ha b hb e => ?_⟩
   obtain ⟨p, hp, rfl⟩ := Av.mp ha
   have h1 := H2.lists p hp
   have h2 : b = xl := Ag.mp hb
   have e' : p.2.1 = b := e
   rw [e', h2, n3.no] at h1; cases h1) fun x h => by
   rcases AC.mp h with h | h
   ·exact H2.fix_some x h
   ·exact H2.BU_some x h
  rw [Bo, show r.ab.map (fun p => (p.1, p.2.2)) = g.above from H.abs.symm] at this
  exact this
 have N4 : Bl σ r σ4 ((r.wU (r.U.more xu)).wAb (r.ab ++ [(g.ns.length, xl, [])])) := N2.trans ⟨rfl, (n3.fr.wide fun _ h => (Ar h).elim).trans (u4.fr.wide fun a h => Ag.mp h ▸ EP (.tail _ (.tail _ (.tail _ (.tail _ (.tail _ (.head _))))))), fun a ha => by
  rcases AC.mp ha with ha | ha
  ·rcases AC.mp ha with ha | ha
   ·exact .inl (EP ha)
   ·obtain ⟨p, hp, rfl⟩ := Av.mp ha
    rcases AC.mp hp with hp | hp
    ·exact .inl (HG hp)
    ·rw [Ag.mp hp]; exact .inr n3.no
  ·exact .inl (BK _ ha)⟩
 generalize (r.wU (r.U.more xu)).wAb (r.ab ++ [(g.ns.length, xl, [])]) = r4 at *
 have hz10 : ks.length <= 1000000 := Bz (BH hl)
 rw [<- N4.h]
 refine Fq (k := fun k : Nat => D.int (k : Nat)) ks (fun k => .int (Ae g.uf.make.par k : Nat)) (fun σ' => Fr σ4 σ' []) (AH.tup R.handled) (Fr.refl _ _) (fun _ _ => trivial) (fun i k σ' F hi => ?_) fun σ' F a σ5 n5 => ?_
 ·have H' := H4.keep F
  apply H'.i.m_find O
  refine Gc O (R.le (by decide)) H' ?_ (Ea.mk hz10 hi F)
  show k < (g.uf.par ++ [g.uf.par.length]).length
  rw [AD, len]; exact Dx (hk k (AX hi))
 have e5 : ks.map (fun k => D.int (Ae g.uf.make.par k : Nat)) = An (ks.map (Ae g.uf.make.par)) := by unfold An; rw [A2]; rfl
 rw [e5] at n5
 refine C.setInts R.handled n5.at_ (by rw [Am]; exact Ap hl (by decide)) fun s σ6 ds n6 hp => ?_
 refine Ac.P0 R.handled n6.at_ hp (Bd (G3 _) (by rw [Am]; exact Bd hl (by decide))) (CW R) fun sl σ7 n7 => ?_
 have F7 : Fr σ4 σ7 [] := F.trans (n5.fr.trans (n6.fr.trans n7.fr))
 have hsl : σ7 sl = some (.list (An (DF g.uf.make.par ks))) := n7.at_
 have hs4 : sl ∉ r4.fp := fun h => by
  obtain ⟨o, e⟩ := H4.fp_some sl h
  have := n6.keep (n5.keep (F.at0 e))
  rw [n7.no] at this; cases this
 have N7 := N4.trans (.of0 r4 F7)
 refine Dq (AH.list R.handled hsl) (fun x : HR × Option D => [some (.ref r4.h), some (.str op), some (.tup (An ks)), some (.int (g.ns.length : Nat)), x.2])
  (fun i x σ' => HAt σ' x.1 (((g.wNs (g.ns ++ [(op, ks)])).wUf g.uf.make (g.cap + 1)).wAbove (((DF g.uf.make.par ks).take i).foldl (BZ g.ns.length) (g.above ++ [(g.ns.length, [])]))) /\ Bl σ r σ' x.1 /\ σ' sl = some (.list (An (DF g.uf.make.par ks))) /\ sl ∉ x.1.fp)
  (r4, none) rfl ⟨H4.keep F7, N7, hsl, hs4⟩ (fun i x σ' h => h.2.2.1) (fun i d x σ' h hd => ?_) fun x σ' h => ?_
 ·obtain ⟨a, ha, rfl⟩ : ∃ a, (DF g.uf.make.par ks)[i]? = some a /\ d = .int (a : Nat) := by
   unfold An at hd
   rw [Bs, Dl] at hd
   obtain ⟨a, h1, h2⟩ := hd
   exact ⟨a, h1, h2.symm⟩
  have H := h.1
  have kk : (x.1.ab.map (·.1)).Nodup := by
   have := Kb g.ns.length ((DF g.uf.make.par ks).take i) (g.above ++ [(g.ns.length, [])])
   have h2 := W.keys1
   rw [<- this] at h2
   have h3 : (((DF g.uf.make.par ks).take i).foldl (BZ g.ns.length) (g.above ++ [(g.ns.length, [])])) = x.1.ab.map Db := H.abs
   rw [h3, A2] at h2
   exact h2
  have hax : ∃ l, (a, l) ∈ (((DF g.uf.make.par ks).take i).foldl (BZ g.ns.length) (g.above ++ [(g.ns.length, [])])) := by
   refine Qt ?_
   rw [Kb, Bo]
   obtain ⟨k, hkm, e⟩ := Qn.mp (AX ha)
   have e' : Ae g.uf.par k = a := by rw [<- e]; exact (Jk W.wf.le k).symm
   have hkl := hk k hkm
   obtain ⟨l, hm⟩ := W.has a (e' ▸ len ▸ Dn W.wf.le (len ▸ hkl)) (e' ▸ Dm W.wf.le k)
   exact BY _ (AS (f := (·.1)) hm)
  obtain ⟨l, hl'⟩ := hax
  obtain ⟨p, tp⟩ := H.tri hl'
  have hll := Qs g.ns.length _ _ 640 (fun p hp => by
   rcases AC.mp hp with hp | hp
   ·exact W.ab_len hp
   ·rw [Ag.mp hp]; exact BC _) _ hl'
  have hlz : (An l).length <= 1000000 := by
   rw [A6]
   refine Ap hll ?_
   rw [C7]
   exact Ap (G4 (Ap (Fp _ _) (Ap (Qo _ _) hl)) _) (by decide)
  have e4 : r4.h = x.1.h := N4.h.trans h.2.1.h.symm
  rw [e4]
  apply H.i.a_above O
  apply C.itI H.above (J9 kk tp)
  apply GM.append (H.lists _ tp)
  refine C.append (H.lists _ tp) hlz fun σ8 u8 => ?_
  have u8' : Upd σ' σ8 p (.list (An (l ++ [g.ns.length]))) := by rw [Fo]; exact u8
  have N8 := Bl.ab (n := g.ns.length) tp u8'
  refine ⟨(x.1.wAb (DG g.ns.length x.1.ab a), some (.int (a : Nat))), rfl, ?_, h.2.1.trans N8, u8.keep (fun e => h.2.2.2 (e ▸ HG tp)) h.2.2.1, N8.off h.2.2.2 h.2.2.1⟩
  rw [Co, ha, MC, List.foldl_append]
  exact H.u_ab kk tp u8'
 ·have H := h.1
  rw [A6, Ci] at H
  obtain ⟨W8, hs8⟩ := W.grown (x := (op, ks)) hl h63
  have e4 : r4.h = x.1.h := N4.h.trans h.2.1.h.symm
  rw [e4]
  apply H.i.m_look O
  refine C347 (g := g.grown (op, ks)) (x := (op, ks)) O R H W8 ?_ hc fun r' σ9 H9 N9 => ?_
  ·show (g.ns ++ [(op, ks)])[g.ns.length]? = _
   rw [C8 (Az _), Fj]; rfl
  ·exact q r' σ9 H9 (h.2.1.trans N9)
end
theorem Gh (R : Af A n) : A.units + 60 < cLine := by iterate 1
 exact Bd (GT (FW _ _) (by decide)) R.units
theorem Qu : ∀ (a b : List Nat), Dh (An a) (An b) = true
 | [], [] => rfl
 | [], _ :: _ => rfl
 | _ :: _, [] => rfl
 | _ :: a, _ :: b => Qu a b
theorem VD (x y : Ao) : like (AE x) (AE y) = true := Qu x.2 y.2
section
variable {c : Cx} {A : Around} {σ σ' : Aa} {r : HR} {g : G} {Q : D -> Aa -> Prop} {K : Value -> List D -> Prop}
theorem C.setTups (hh : A.handled = none) (hu : A.units + 60 < cLine) (h : σ l = some (.list ds)) (hn : ds.length <= 15) (hi : ∀ d ∈ ds, (∃ xs, d = .tup xs) /\ Al 4 d = true) (q : ∀ x σ' ds', New σ σ' x (.set ds') -> Got ds' ds -> Q (.ref x) σ') : Ac c A (.type "set") [.ref l] σ Q :=
 Ac.setTups hh hu h hn hi fun x ds' n g => q x _ ds' (.set _ n) g
theorem C.VE (hh : A.handled = none) (hu : A.units + 60 < cLine) (h : σ a = some (.set ds)) (hn : ds.length < 64) (hd : ∀ d ∈ ds, ∃ x : Ao, d = AE x /\ Al 4 d = true) (q : ∀ x σ' ds', New σ σ' x (.list ds') -> List.Perm ds' ds -> Q (.ref x) σ') : Ac c A (.builtin "sorted") [.ref a] σ Q := by iterate 1
 exact
  Ac.GK (k := 3) (COL.set (A := A.in1) hh h (Ap (Bz hn) (by decide))) (fun ds1 p => by
   have hd' : ∀ d ∈ ds1, ∃ x : Ao, d = AE x /\ Al 4 d = true := fun d m => hd d (p.mem_iff.mp m)
   refine ⟨p.length_eq ▸ hn, fun _ => ⟨_, .tupS fun d m => ?_⟩, fun d m => ?_, fun d m e m' => ?_, fun l hl => q l _ _ (.set _ hl) ((Di ds1).trans p)⟩
   ·obtain ⟨x, rfl, _⟩ := hd' d m; exact ⟨_, _, rfl⟩
   ·obtain ⟨x, _, h⟩ := hd' d m; exact h
   ·obtain ⟨x, rfl, _⟩ := hd' d m
    obtain ⟨y, rfl, _⟩ := hd' e m'
    exact VD x y) (Bd (G4 (by decide : 3 + 20 <= 60) _ |> fun h => by rw [<- II] at h; exact h) hu)
noncomputable def Cm (g : G) (n : Nat) : List Ao := (AJ (g.uf.lots.getD (Ae g.uf.par n) [])).map fun m => BB g.uf.par (g.ns.getD m default)
structure Kc (g : G) (n : Nat) (L : List Ao) : Prop where
 sub : ∃ l, List.Perm L l /\ List.Sublist l (Cm g n)
 mem : ∀ y, y ∈ L ↔ y ∈ Cm g n
theorem Gi (W : GW g) (hn : n < g.ns.length) : m ∈ AJ (g.uf.lots.getD (Ae g.uf.par n) []) ↔ m < g.ns.length /\ Ae g.uf.par m = Ae g.uf.par n := by iterate 1
 rw [(DU _).mem_iff, (W.wf.mem _ (Dn W.wf.le (W.len ▸ hn)) (Dm W.wf.le n)).2 m, W.len]
theorem VF (h : ∀ d ∈ ds, ∃ x : Ao, d = AE x) : ∃ L : List Ao, ds = L.map AE := by iterate 1
 induction ds with
 | nil => exact ⟨[], rfl⟩
 | cons d ds ih =>
  obtain ⟨x, e⟩ := h d (.head _)
  obtain ⟨L, e'⟩ := ih fun d m => h d (.tail _ m)
  exact ⟨x :: L, by rw [e, e']; rfl⟩
theorem VG (h : AE x = AE y) : x = y := GX (D.tup.inj h)
theorem Qv {x : Ao} {L : List Ao} : AE x ∈ L.map AE ↔ x ∈ L := by iterate 1
 rw [Av]
 exact ⟨fun ⟨y, h, e⟩ => VG e ▸ h, fun h => ⟨x, h, rfl⟩⟩
theorem G5 {ns : List Ao} (h : m < ns.length) : ns[m]? = some (ns.getD m default) := by iterate 1
 rw [Bt, Bw h]; rfl
noncomputable def unD : D -> Ao
 | .tup (.str s :: ds) => (s, ds.map fun d => match d with | .int i => i.toNat | _ => 0)
 | _ => default
theorem VH (x : Ao) : unD (AE x) = x := by iterate 1
 obtain ⟨s, ks⟩ := x
 show (s, (An ks).map _) = (s, ks)
 unfold An
 rw [A2]
 exact congrArg _ (G1 ks)
theorem VI (h : List.Perm (L.map AE) (M.map AE)) : List.Perm L M := by iterate 1
 have := h.map unD
 rw [A2, A2] at this
 have e : ∀ X : List Ao, X.map (unD ∘ AE) = X := fun X => (Cg fun x _ => VH x).trans (G1 X)
 rwa [e, e] at this
theorem C408 (O : Ok c) (R : Af A 5) (H : HAt σ r g) (W : GW g) (hn : n < g.ns.length) (h15 : g.ns.length <= 15) (q : ∀ x σ' L, Kc g n L -> σ' x = some (.list (L.map AE)) -> Fr σ σ' [] -> Q (.ref x) σ') : Ac c A (.ref 408) [.ref r.h, .int n] σ Q := by iterate 1
 refine d408 O R fun A R => ?_
 dsimp only [Mg]
 have len := W.len
 apply H.i.m_members O
 refine C403 O (R.le (by decide)) H (len ▸ hn) (len ▸ W.lt) fun x σ1 n1 => ?_
 have hml : (AJ (g.uf.lots.getD (Ae g.uf.par n) [])).length <= 15 := by
  rw [(DU _).length_eq]
  exact Ap (W.wf.all _) (len ▸ h15)
 refine Fq (k := fun k : Nat => D.int (k : Nat)) (AJ (g.uf.lots.getD (Ae g.uf.par n) [])) (fun m => AE (BB g.uf.par (g.ns.getD m default))) (fun σ' => Fr σ1 σ' []) (AH.list R.handled n1.at_) (Fr.refl _ _) (fun σ' F => F.at0 n1.at_) (fun i m σ' F hi => ?_) fun σ' F a σ2 n2 => ?_
 ·have H' := H.keep (n1.fr.trans F)
  have hm := (Gi W hn).mp (AX hi)
  have hx := G5 hm.1
  apply H'.i.m_node O
  exact C328 O (R.le (by decide)) H' hx (H'.kids W hx) fun σ'' F' => Ea.mk (Ap hml (by decide)) hi (F.trans F')
 have e2 : (AJ (g.uf.lots.getD (Ae g.uf.par n) [])).map (fun m => AE (BB g.uf.par (g.ns.getD m default))) = (Cm g n).map AE := by unfold Cm; rw [A2]; rfl
 rw [e2] at n2
 have hok : ∀ d ∈ (Cm g n).map AE, ∃ x : Ao, d = AE x /\ Al 4 d = true := fun d hd => by
  rw [<- e2] at hd
  obtain ⟨m, hm, rfl⟩ := Av.mp hd
  exact ⟨_, rfl, GY (H.bank.wf m _ (G5 ((Gi W hn).mp hm).1)).1.ok⟩
 have l2 : ((Cm g n).map AE).length <= 15 := by rw [<- e2, Am]; exact hml
 refine C.setTups R.handled (Gh R) n2.at_ l2 (fun d hd => ?_) fun s σ3 ds n3 hG => ?_
 ·obtain ⟨x, rfl, h⟩ := hok d hd; exact ⟨⟨_, rfl⟩, h⟩
 refine C.VE R.handled (Gh R) n3.at_ (Bd hG.len (Bd l2 (by decide))) (fun d hd => hok d ((hG.mem d).mp hd)) fun y σ4 ds' n4 p => ?_
 obtain ⟨L, rfl⟩ := VF fun d hd => let ⟨x, e, _⟩ := hok d ((hG.mem d).mp (p.mem_iff.mp hd)); ⟨x, e⟩
 obtain ⟨l, p1, s1⟩ := hG.sub
 obtain ⟨l', s2, rfl⟩ := List.sublist_map_iff.mp s1
 refine q y σ4 L ⟨⟨l', VI (p.trans p1), s2⟩, fun y => ?_⟩ n4.at_ (n1.fr.trans (F.trans (n2.fr.trans (n3.fr.trans n4.fr))))
 rw [<- Qv, p.mem_iff, hG.mem, Qv]
theorem C88 {x dd : Addr} (O : Ok c) (R : Af A 1) (hx : σ x = some (.inst 178 dd)) (hd : σ dd = some (.ns []))
  (q : ∀ nl nd wl dl σ', BAt σ' ⟨x, dd, nl, nd, wl, dl⟩ [] -> Fr σ σ' [dd] -> σ nl = none -> σ nd = none -> σ wl = none -> σ dl = none -> Q .none σ') : AB c A (.ref 88) [.ref x] σ Q := by iterate 1
 refine c88 O R fun A R => ?_
 intro nl σ1 n1
 refine Cq.mk (n1.keep hx) (n1.keep hd) (T4 O) rfl fun σ2 u2 => ?_
 have I1 := EN.mk' hx hd n1 u2
 refine ⟨.dictT [], .inr (.inr rfl), fun nd σ3 n3 => ?_⟩
 refine Cq.mk (n3.keep I1.i) (n3.keep I1.d) (T6 O) rfl fun σ4 u4 => ?_
 have I2 := EN.mk' I1.i I1.d n3 u4
 intro wl σ5 n5
 refine Cq.mk (n5.keep I2.i) (n5.keep I2.d) (T8 O) rfl fun σ6 u6 => ?_
 have I3 := EN.mk' I2.i I2.d n5 u6
 intro dl σ7 n7
 refine Cq.mk (n7.keep I3.i) (n7.keep I3.d) (Ub O) rfl fun σ8 u8 => ?_
 have I4 := EN.mk' I3.i I3.d n7 u8
 have z3 := I1.n _ n3.no
 have z5 := I2.n _ n5.no
 have z5' := I1.n _ z5.1
 have z7 := I3.n _ n7.no
 have z7' := I2.n _ z7.1
 have z7'' := I1.n _ z7'.1
 have nl_d := Ne.symm (n1.other hd)
 have nd_d := Ne.symm (n3.other I1.d)
 have wl_d := Ne.symm (n5.other I2.d)
 have nx := DS hx hd MO.noConfusion
 refine q nl nd wl dl σ8 ⟨⟨I4.i, I4.d⟩, I4.k nl_d (I3.k nl_d (I2.k nl_d I1.a)), I4.k nd_d (I3.k nd_d I2.a), ⟨[], I4.k wl_d I3.a, rfl⟩, ⟨[], I4.a, rfl⟩, ?_, fun i x h => (by simp at h), Cw, BC _⟩ ((I1.F.trans I2.F).trans (I3.F.trans I4.F)) n1.no z3.1 z5'.1 z7''.1
 show [x, dd, nl, nd, wl, dl].Nodup
 simp only [BE, Ay, Ar, or_false, not_or, Cw, and_true, not_false_eq_true]
 exact ⟨⟨nx, n1.other hx, n3.other I1.i, n5.other I2.i, n7.other I3.i⟩, ⟨n1.other hd, n3.other I1.d, n5.other I2.d, n7.other I3.d⟩, ⟨Ne.symm z3.2, Ne.symm z5'.2, Ne.symm z7''.2⟩, ⟨Ne.symm z5.2, Ne.symm z7'.2⟩, Ne.symm z7.2⟩
theorem C178 (O : Ok c) (R : Af A 2) (q : ∀ (r : BR) σ', BAt σ' r [] -> Fr σ σ' [] -> (∀ a ∈ r.fp, σ a = none) -> Q (.ref r.b) σ') : Ac c A (.ref 178) [] σ Q := by iterate 1
 exact
  Ac.cls (n := 1) O (TZ O) R fun A' x dd σ0 R' hx hd F hx0 hd0 hn => C88 O R' hx hd fun nl nd wl dl σ' U F' n1 n2 n3 n4 => ⟨rfl, q ⟨x, dd, nl, nd, wl, dl⟩ σ' U (fun b o _ hb => F' b o (fun h => by
    rw [Ag.mp h, hd0] at hb; cases hb) (F b o Ar hb)) fun a ha => by
   simp only [BR.fp, Ay, Ar, or_false] at ha
   rcases ha with rfl | rfl | rfl | rfl | rfl | rfl
   ·exact hx0
   ·exact hd0
   ·exact hn _ n1
   ·exact hn _ n2
   ·exact hn _ n3
   ·exact hn _ n4⟩
end
noncomputable def G0 : G := ⟨⟨[], []⟩, [], [], [], [], 0⟩
theorem MD : GW G0 := by iterate 1
 exact ⟨rfl, by decide, P5, fun k h => absurd h (En k), Cw, fun p h => (Ar h).elim, fun p h => (Ar h).elim, fun p h => (Ar h).elim, fun p h => (Ar h).elim, Az 0, Az 0⟩
section
variable {c : Cx} {A : Around} {σ σ' : Aa} {Q : D -> Aa -> Prop} {K : Value -> List D -> Prop}
structure Mk (σ : Aa) (x dd : Addr) (es : List (Str × D)) (σ' : Aa) : Prop where
 i : σ' x = some (.inst 430 dd)
 d : σ' dd = some (.ns es)
 F : Fr σ σ' [dd]
theorem Mk.new {x dd l : Addr} {o : MO} {es es' : List (Str × D)} {σ1 σ2 σ3 : Aa} (hx : x ≠ dd) (M : Mk σ x dd es σ1) (n : New σ1 σ2 l o) (u : Upd σ2 σ3 dd (.ns es')) : Mk σ x dd es' σ3 /\ σ3 l = some o /\ l ≠ dd /\ Fr σ1 σ3 [dd] := by iterate 1
 exact
  have hl := Ne.symm (n.other M.d)
  have F := (n.fr.wide fun _ h => (Ar h).elim).trans u.fr
  ⟨⟨u.keep hx (n.keep M.i), u.at_, M.F.trans F⟩, u.keep hl n.at_, hl, F⟩
theorem Mk.call {x dd : Addr} {es es' : List (Str × D)} {σ1 σ2 σ3 : Aa} (hx : x ≠ dd) (M : Mk σ x dd es σ1) (F : Fr σ1 σ2 []) (u : Upd σ2 σ3 dd (.ns es')) : Mk σ x dd es' σ3 /\ Fr σ1 σ3 [dd] := by iterate 1
 exact
  have F' := (F.wide fun _ h => (Ar h).elim).trans u.fr
  ⟨⟨u.keep hx (F.at0 M.i), u.at_, M.F.trans F'⟩, F'⟩
theorem Mk.old {x dd l : Addr} {es : List (Str × D)} {σ1 : Aa} (M : Mk σ x dd es σ1) (h : σ1 l = none) : σ l = none := by iterate 1
 exact M.F.none h fun q => by
  rw [Ag.mp q, M.d] at h; cases h
theorem C316 {x dd : Addr} (O : Ok c) (R : Af A 3) (hx : σ x = some (.inst 430 dd)) (hd : σ dd = some (.ns []))
  (q : ∀ r σ', HAt σ' r G0 -> r.h = x -> Fr σ σ' [dd] -> (∀ a ∈ r.fp, a = x ∨ a = dd ∨ σ a = none) -> Q .none σ') : AB c A (.ref 316) [.ref x] σ Q := by iterate 1
 refine c316 O R fun A R => ?_
 have nx := DS hx hd MO.noConfusion
 have M0 : Mk σ x dd [] σ := ⟨hx, hd, Fr.refl _ _⟩
 refine C178 O R fun B σ1 B1 F1 nB => ?_
 refine Cq.mk (F1.at0 hx) (F1.at0 hd) (Uj O) rfl fun σ2 u2 => ?_
 obtain ⟨M2, F2⟩ := M0.call nx F1 u2
 have dB : ∀ a ∈ B.fp, a ∉ [dd] := fun a ha h => by
  have := nB a ha
  rw [Ag.mp h, hd] at this; cases this
 have B2 := B1.fr u2.fr dB
 refine C298 O R fun U σ3 U3 _ F3 nU => ?_
 refine Cq.mk (F3.at0 M2.i) (F3.at0 M2.d) (Ul O) rfl fun σ4 u4 => ?_
 obtain ⟨M4, F4⟩ := M2.call nx F3 u4
 have dU : ∀ a ∈ U.fp, a ∉ [dd] := fun a ha h => by
  have := nU a ha
  rw [Ag.mp h, M2.d] at this; cases this
 have U4 := U3.fr u4.fr dU
 have B4 := B2.fr F4 dB
 intro el σ5 n5
 refine Cq.mk (n5.keep M4.i) (n5.keep M4.d) (Un O) rfl fun σ6 u6 => ?_
 obtain ⟨M6, el6, el_d, F6⟩ := M4.new nx n5 u6
 intro fl σ7 n7
 refine Cq.mk (n7.keep M6.i) (n7.keep M6.d) (Up O) rfl fun σ8 u8 => ?_
 obtain ⟨M8, fl8, fl_d, F8⟩ := M6.new nx n7 u8
 refine ⟨.dictT [], .inr (.inr rfl), fun kd σ9 n9 => ?_⟩
 refine Cq.mk (n9.keep M8.i) (n9.keep M8.d) (Ur O) rfl fun σa ua => ?_
 obtain ⟨Ma, kda, kd_d, Fa⟩ := M8.new nx n9 ua
 refine ⟨.dictI [], .inr (.inl rfl), fun ad σb nb => ?_⟩
 refine Cq.mk (nb.keep Ma.i) (nb.keep Ma.d) (Ut O) rfl fun σc uc => ?_
 obtain ⟨Mc, adc, ad_d, Fc⟩ := Ma.new nx nb uc
 intro wt σe ne
 refine Cq.mk (ne.keep Mc.i) (ne.keep Mc.d) (Uv O) rfl fun σf uf => ?_
 obtain ⟨Mf, wtf, wt_d, Ff⟩ := Mc.new nx ne uf
 have off : ∀ {a : Addr}, a ≠ dd -> a ∉ [dd] := fun h q => h (Ag.mp q)
 have el8 := F8.at (off el_d) el6
 have ela := Fa.at (off el_d) el8
 have elc := Fc.at (off el_d) ela
 have fla := Fa.at (off fl_d) fl8
 have flc := Fc.at (off fl_d) fla
 have kdc := Fc.at (off kd_d) kda
 have B6 := B4.fr F6 dB
 have B8 := B6.fr F8 dB
 have Ba := B8.fr Fa dB
 have Bc := Ba.fr Fc dB
 have U6 := U4.fr F6 dU
 have U8 := U6.fr F8 dU
 have Ua := U8.fr Fa dU
 have Uc := Ua.fr Fc dU
 have no : ∀ {τ : Aa} {a : Addr} {P : List Addr}, τ a = none -> (∀ b ∈ P, ∃ o, τ b = some o) -> a ∉ P := fun h k q => by
  obtain ⟨o, e⟩ := k _ q
  rw [h] at e; cases e
 have kn : ∀ {τ : Aa} {a : Addr} {o : MO} {P : List Addr}, τ a = some o -> (∀ b ∈ P, τ b = none) -> a ∉ P := fun h k q => by
  rw [k _ q] at h; cases h
 refine q ⟨x, dd, el, fl, kd, ad, wt, [], B, U⟩ σf ⟨Bc.fr Ff dB, Uc.fr Ff dU, ⟨Mf.i, Mf.d⟩, ⟨[], Ff.at (off el_d) elc, Az 0⟩, ⟨[], Ff.at (off fl_d) flc, Az 0⟩, Ff.at (off kd_d) kdc, Ff.at (off ad_d) adc, rfl, fun p h => (Ar h).elim, wtf, ?_, BC _⟩ rfl Mf.F fun a ha => ?_
 ·have nd1 : [x, dd, el, fl, kd, ad, wt].Nodup := by
   simp only [BE, Ay, Ar, or_false, not_or, Cw, and_true, not_false_eq_true]
   exact ⟨⟨nx, n5.other M4.i, n7.other M6.i, n9.other M8.i, nb.other Ma.i, ne.other Mc.i⟩, ⟨el_d.symm, fl_d.symm, kd_d.symm, ad_d.symm, wt_d.symm⟩, ⟨n7.other el6, n9.other el8, nb.other ela, ne.other elc⟩, ⟨n9.other fl8, nb.other fla, ne.other flc⟩, ⟨nb.other kda, ne.other kdc⟩, ne.other adc⟩
  have hB : ∀ a ∈ [x, dd, el, fl, kd, ad, wt], a ∉ B.fp := fun a ha => by
   simp only [Ay, Ar, or_false] at ha
   rcases ha with rfl | rfl | rfl | rfl | rfl | rfl | rfl
   ·exact kn hx nB
   ·exact kn hd nB
   ·exact no n5.no B4.fp_some
   ·exact no n7.no B6.fp_some
   ·exact no n9.no B8.fp_some
   ·exact no nb.no Ba.fp_some
   ·exact no ne.no Bc.fp_some
  have hU : ∀ a ∈ [x, dd, el, fl, kd, ad, wt], a ∉ U.fp := fun a ha => by
   simp only [Ay, Ar, or_false] at ha
   rcases ha with rfl | rfl | rfl | rfl | rfl | rfl | rfl
   ·exact kn M2.i nU
   ·exact kn M2.d nU
   ·exact no n5.no fun b => U4.fp_some
   ·exact no n7.no fun b => U6.fp_some
   ·exact no n9.no fun b => U8.fp_some
   ·exact no nb.no fun b => Ua.fp_some
   ·exact no ne.no fun b => Uc.fp_some
  show (([x, dd, el, fl, kd, ad, wt] ++ []) ++ (B.fp ++ U.fp)).Nodup
  rw [BQ]
  refine Bf.mpr ⟨nd1, Bf.mpr ⟨B4.nd, U4.nd, fun a ha b hb e => ?_⟩, fun a ha b hb e => ?_⟩
  ·subst e
   obtain ⟨o, e⟩ := B2.fp_some a ha
   rw [nU a hb] at e; cases e
  ·subst e
   rcases AC.mp hb with h | h
   ·exact hB a ha h
   ·exact hU a ha h
 ·have ha : a ∈ ([x, dd, el, fl, kd, ad, wt] ++ []) ++ (B.fp ++ U.fp) := ha
  rw [BQ] at ha
  rcases AC.mp ha with ha | ha
  ·simp only [Ay, Ar, or_false] at ha
   rcases ha with h | h | rfl | rfl | rfl | rfl | rfl
   ·exact .inl h
   ·exact .inr (.inl h)
   ·exact .inr (.inr (M4.old n5.no))
   ·exact .inr (.inr (M6.old n7.no))
   ·exact .inr (.inr (M8.old n9.no))
   ·exact .inr (.inr (Ma.old nb.no))
   ·exact .inr (.inr (Mc.old ne.no))
  ·rcases AC.mp ha with ha | ha
   ·exact .inr (.inr (nB a ha))
   ·exact .inr (.inr (M2.old (nU a ha)))
theorem C430 (O : Ok c) (R : Af A 4) (q : ∀ r σ', HAt σ' r G0 -> Fr σ σ' [] -> (∀ a ∈ r.fp, σ a = none) -> Q (.ref r.h) σ') : Ac c A (.ref 430) [] σ Q := by iterate 1
 exact
  Ac.cls (n := 3) O (Uh O) R fun A' x dd σ0 R' hx hd F hx0 hd0 hn => C316 O R' hx hd fun r σ' H e F' n => ⟨rfl, e ▸ q r σ' H (fun b o _ hb => F' b o (fun h => by
    rw [Ag.mp h, hd0] at hb; cases hb) (F b o Ar hb)) fun a ha => by
   rcases n a ha with rfl | rfl | h
   ·exact hx0
   ·exact hd0
   ·exact hn _ h⟩
end
inductive Pat where
 | node (op : Str) (kids : List Pat)
mutual
noncomputable def Bm : Pat -> D
 | .node op ks => .tup (.str op :: Dr ks)
noncomputable def Dr : List Pat -> List D
 | [] => []
 | p :: ps => Bm p :: Dr ps
end
theorem G6 : ∀ ps : List Pat, Dr ps = ps.map Bm
 | [] => rfl
 | p :: ps => congrArg (Bm p :: ·) (G6 ps)
theorem Ec (ps : List Pat) : (Dr ps).length = ps.length := by rw [G6, Am]
theorem Qw {i : Nat} (h : (Dr ps)[i]? = some d) : ∃ p, ps[i]? = some p /\ d = Bm p := by iterate 1
 rw [G6, Bs, Dl] at h
 obtain ⟨p, h1, h2⟩ := h
 exact ⟨p, h1, h2.symm⟩
noncomputable abbrev AP (x : Str) : Prop := x = ("?x" : Str) ∨ x = ("?y" : Str)
inductive Bq : Nat -> Pat -> Prop
 | var {n : Nat} {x : Str} : AP x -> Bq n (.node x [])
 | op {n : Nat} {op : Str} {ks : List Pat} : CX op -> ¬ AP op -> ks.length <= 10 -> (∀ k ∈ ks, Bq n k) -> Bq (n + 1) (.node op ks)
noncomputable abbrev Tab := List (Str × Nat)
noncomputable def A7 (t : Tab) : List (Str × D) := t.map fun p => (p.1, D.int (p.2 : Nat))
structure A1 (t : Tab) : Prop where
 nd : (t.map (·.1)).Nodup
 vs : ∀ p ∈ t, AP p.1
theorem HM {α : Type} [DecidableEq α] : ∀ {l k : List α}, l.Nodup -> (∀ x ∈ l, x ∈ k) -> l.length <= k.length
 | [], _, _, _ => BC _
 | a :: l, k, h, hs => by iterate 1
  rw [BE] at h
  have ha := hs a (.head _)
  have := HM (l := l) (k := k.erase a) h.2 fun x hx => (S6 fun e => h.1 (by rw [<- e]; exact hx)).mpr (hs x (.tail _ hx))
  rw [O7 ha] at this
  have h1 := S7 ha
  rw [CE]; omega
theorem A1.len (h : A1 t) : t.length <= 2 := by iterate 1
 have := HM (k := [("?x" : Str), ("?y" : Str)]) h.nd fun x hx => by
  obtain ⟨p, hp, rfl⟩ := Av.mp hx
  rcases h.vs p hp with e | e
  ·rw [e]; exact .head _
  ·rw [e]; exact .tail _ (.head _)
 rwa [Am] at this
noncomputable def Ed (t : Tab) (x : Str) (a : Nat) : List Tab := match t.lookup x with
 | none => [t ++ [(x, a)]]
 | some b => if b = a then [t] else []
mutual
noncomputable def ext (g : G) : Pat -> Tab -> Nat -> List Tab
 | .node op ks, t, a => if AP op then Ed t op a else (Cm g a).flatMap fun y => if y.1 = op /\ y.2.length = ks.length then BO g ks [t] y.2 else []
noncomputable def BO (g : G) : List Pat -> List Tab -> List Nat -> List Tab
 | [], ts, _ => ts
 | _ :: _, ts, [] => ts
 | p :: ps, ts, a :: as => BO g ps (ts.flatMap fun t => ext g p t a) as
end
mutual
noncomputable def bnd : Pat -> Nat
 | .node _ ks => if ks.length = 0 then 1 else 8 * Cb ks
noncomputable def Cb : List Pat -> Nat
 | [] => 1
 | p :: ps => bnd p * Cb ps
end
theorem Qx (g : G) (p : Pat) (a : Nat) : ∀ (ps : List Pat) (ts : List Tab) (as : List Nat), ps.length = as.length -> BO g (ps ++ [p]) ts (as ++ [a]) = (BO g ps ts as).flatMap fun t => ext g p t a
 | [], ts, [], _ => by simp only [GV, BO]
 | q :: ps, ts, b :: as, h => by iterate 1
  simp only [GU, BO]
  exact Qx g p a ps _ as (ME h)
 | [], _, _ :: _, h => by cases h
 | _ :: _, _, [], h => by cases h
theorem MG (p : Pat) : ∀ ps : List Pat, Cb (ps ++ [p]) = Cb ps * bnd p
 | [] => by simp only [GV, Cb, MH, My]
 | q :: ps => by simp only [GU, Cb, MG p ps, Nat.mul_assoc]
mutual
theorem Qy : ∀ p : Pat, 1 <= bnd p
 | .node _ ks => by iterate 1
  unfold bnd
  split
  ·exact Az 1
  ·exact Kd (by decide) (Ke ks)
theorem Ke : ∀ ps : List Pat, 1 <= Cb ps
 | [] => Az 1
 | p :: ps => Kd (Qy p) (Ke ps)
end
theorem Qz : ∀ (ps : List Pat) (i : Nat), Cb (ps.take i) <= Cb ps
 | [], i => by rw [List.take_nil]; exact Az _
 | p :: ps, 0 => Ke _
 | p :: ps, i + 1 => QA _ (Qz ps i)
theorem QC : ∀ {ps : List Pat} {p : Pat}, p ∈ ps -> bnd p <= Cb ps
 | q :: ps, p, h => by iterate 1
  unfold Cb
  rcases Ay.mp h with rfl | h
  ·exact Nat.le_mul_of_pos_right _ (Ke ps)
  ·exact Ap (QC h) (QD _ (Qy q))
theorem VJ (h : A1 t) (hx : AP x) : ∀ t' ∈ Ed t x a, A1 t' := by iterate 1
 exact fun t' ht => by
  unfold Ed at ht
  split at ht
  ·rename_i e
   rw [Ag.mp ht]
   refine ⟨?_, fun p hp => ?_⟩
   ·rw [Bo]
    refine Bf.mpr ⟨h.nd, El .., fun y hy z hz q => ?_⟩
    rw [Ag.mp hz] at q
    obtain ⟨p, hp, rfl⟩ := Av.mp hy
    obtain ⟨v, hv⟩ := K9 (x := p.1) (b := p.2) (l := t) hp
    have q : p.1 = x := q
    rw [q, e] at hv; cases hv
   ·rcases AC.mp hp with hp | hp
    ·exact h.vs p hp
    ·rw [Ag.mp hp]; exact hx
  ·split at ht
   ·rw [Ag.mp ht]; exact h
   ·cases ht
mutual
theorem Fz (g : G) : ∀ (p : Pat) (t : Tab) (a : Nat), A1 t -> ∀ t' ∈ ext g p t a, A1 t'
 | .node op ks, t, a, h, t', ht => by iterate 1
  unfold ext at ht
  split at ht
  ·exact VJ h ‹_› t' ht
  ·obtain ⟨y, _, hy⟩ := Dc.mp ht
   split at hy
   ·exact Kg g ks [t] y.2 (fun t' ht => Ag.mp ht ▸ h) t' hy
   ·cases hy
theorem Kg (g : G) : ∀ (ps : List Pat) (ts : List Tab) (as : List Nat), (∀ t ∈ ts, A1 t) -> ∀ t' ∈ BO g ps ts as, A1 t'
 | [], ts, as, h, t', ht => by simp only [BO] at ht; exact h t' ht
 | _ :: _, ts, [], h, t', ht => by simp only [BO] at ht; exact h t' ht
 | p :: ps, ts, a :: as, h, t', ht => by iterate 1
  simp only [BO] at ht
  refine Kg g ps _ as (fun t'' h'' => ?_) t' ht
  obtain ⟨t0, h0, h1⟩ := Dc.mp h''
  exact Fz g p t0 a (h t0 h0) t'' h1
end
structure WI (σ : Aa) (w wd h : Addr) : Prop where
 inst : σ w = some (.inst 216 wd)
 ns : σ wd = some (.ns [("heap", .ref h)])
theorem VK : Hm ("?x" : Str) none (some 1) = "?" := by decide +kernel
theorem VL : Hm ("?y" : Str) none (some 1) = "?" := by decide +kernel
theorem QE (h : AP x) : x.length < 1000000 := by iterate 1 rcases h with rfl | rfl <;> decide +kernel
theorem VM (h : AP x) : Hm x none (some 1) = "?" := by
 rcases h with rfl | rfl
 ·exact VK
 ·exact VL
section
variable {c : Cx} {A : Around} {σ σ' : Aa} {w wd h : Addr} {Q : D -> Aa -> Prop} {K : Value -> List D -> Prop}
theorem WI.keep (I : WI σ w wd h) (F : Fr σ σ' []) : WI σ' w wd h := ⟨F.at0 I.inst, F.at0 I.ns⟩
theorem WI.a_heap (I : WI σ w wd h) (O : Ok c) (q : Q (.ref h) σ) : Bp c σ (.ref w) "heap" Q := by iterate 1
 exact Bp.mk I.inst I.ns rfl (UJ O) q
theorem WI.m_extended (I : WI σ w wd h) (O : Ok c) (k : K (.ref 201) [.ref w]) : GM c A "extended" (.ref w) σ K := by iterate 1
 exact GM.own O I.inst I.ns rfl (UL O) k
theorem WI.m_found_in (I : WI σ w wd h) (O : Ok c) (k : K (.ref 208) [.ref w]) : GM c A "found_in" (.ref w) σ K := by iterate 1
 exact GM.own O I.inst I.ns rfl (UM O) k
theorem WI.m_found (I : WI σ w wd h) (O : Ok c) (k : K (.ref 213) [.ref w]) : GM c A "found" (.ref w) σ K := by iterate 1
 exact GM.own O I.inst I.ns rfl (UN O) k
theorem C74v (O : Ok c) (R : Af A 1) (hx : AP x) (q : Q (.bool true) σ) : Ac c A (.ref 74) [.tup [.str x]] σ Q := by iterate 1
 refine d74 O R fun A R => ?_
 apply Ac.IB (DR rfl)
 refine CMP.eqN (b := 1) (fun _ => ?_) fun e => absurd rfl e
 refine IT.CV (a := 0) (DR rfl) rfl ⟨QE hx, ?_⟩
 rw [VM hx]
 exact CMP.eqS1 q
theorem C74o (O : Ok c) (R : Af A 1) (W : CX op) (hl : ds.length <= 10) (q : Q (.bool false) σ) : Ac c A (.ref 74) [.tup (.str op :: ds)] σ Q := by iterate 1
 refine d74 O R fun A R => ?_
 have hz : (D.str op :: ds).length <= 1000000 := EO (BH hl)
 apply Ac.IB hz
 refine CMP.eqN (b := 1) (fun _ => ?_) fun e => q
 refine IT.CV (a := 0) hz rfl ⟨Mt W.l.2, ?_⟩
 exact CMP.Ms (W.st _ rfl) q
theorem C196 {x dd : Addr} {v : D} (O : Ok c) (R : Af A 1) (hx : σ x = some (.inst 216 dd)) (hd : σ dd = some (.ns [])) (q : ∀ σ', σ' x = some (.inst 216 dd) -> σ' dd = some (.ns [("heap", v)]) -> Fr σ σ' [dd] -> Q .none σ') : AB c A (.ref 196) [.ref x, v] σ Q := by
 refine c196 O R fun A R => ?_
 exact Cq.mk hx hd (UK O) rfl fun σ1 u1 => q σ1 (u1.keep (DS hx hd MO.noConfusion) hx) u1.at_ u1.fr
theorem C216 (O : Ok c) (R : Af A 2) (q : ∀ w wd σ', WI σ' w wd h -> Fr σ σ' [] -> σ w = none -> σ wd = none -> Q (.ref w) σ') : Ac c A (.ref 216) [.ref h] σ Q := by iterate 1
 exact
  Ac.cls (n := 1) O (UH O) R fun A' x dd σ0 R' hx hd F hx0 hd0 hn => C196 O R' hx hd fun σ' h1 h2 F' => ⟨rfl, q x dd σ' ⟨h1, h2⟩ (fun b o _ hb => F' b o (fun h => by
   rw [Ag.mp h, hd0] at hb; cases hb) (F b o Ar hb)) hx0 hd0⟩
structure TL (σ : Aa) (ps : List (Addr × Tab)) (L : List Tab) (b : Nat) : Prop where
 at_ : ∀ p ∈ ps, σ p.1 = some (.dictS (A7 p.2))
 mem : ∀ T, (∃ a, (a, T) ∈ ps) ↔ T ∈ L
 len : ps.length <= b
noncomputable abbrev CY (ps : List (Addr × Tab)) : List D := ps.map fun p => .ref p.1
theorem TL.keep (t : TL σ ps L b) (F : Fr σ σ' []) : TL σ' ps L b := by iterate 1
 exact ⟨fun p hp => F.at0 (t.at_ p hp), t.mem, t.len⟩
theorem Kh (t : Tab) (x : Str) : AN (A7 t) x = (t.lookup x).map fun (m : Nat) => D.int m := by iterate 1
 unfold AN A7
 induction t with
 | nil => rfl
 | cons p t ih =>
  obtain ⟨y, m⟩ := p
  rw [AM, AY]
  by_cases e : x = y
  ·rw [e, beq_self_eq_true, Qi (p := fun kv : Str × D => decide (kv.1 = y)) (decide_eq_true rfl)]; rfl
  ·rw [beq_eq_false_iff_ne.mpr e, Mq (p := fun kv : Str × D => decide (kv.1 = x)) (by rw [decide_eq_false fun q => e q.symm]; exact Cu)]
   exact ih
theorem VN (h : t.lookup x = none) : Bb (A7 t) x (.int (a : Nat)) = A7 (t ++ [(x, a)]) := by iterate 1
 unfold Bb
 rw [if_neg]
 ·unfold A7; rw [Bo]; rfl
 ·intro q
  obtain ⟨e, he, hq⟩ := Er.mp q
  have hv := Kh t x
  rw [h] at hv
  unfold AN at hv
  exact I6.mp (Mr.mp hv) e he hq
theorem VO (hn : (t.map (·.1)).Nodup) (h : t.lookup x = some a) : Bb (A7 t) x (.int (a : Nat)) = A7 t := by iterate 1
 have hm := D3 h
 unfold Bb
 rw [if_pos]
 ·unfold A7
  rw [A2]
  refine Cg fun p hp => ?_
  show (if p.1 = x then (p.1, D.int (a : Nat)) else (p.1, D.int (p.2 : Nat))) = (p.1, D.int (p.2 : Nat))
  split
  ·rename_i e
   have := E5 hn (x := p.1) (b := p.2) hp
   rw [e, h] at this
   rw [Cn this]
  ·rfl
 ·exact Er.mpr ⟨_, AS hm, decide_eq_true rfl⟩
theorem C.getS (h : σ a = some (.dictS es)) (q : Q ((AN es k).getD d) σ) : Ac c A (.builtin "dict.get") [.ref a, .str k, d] σ Q := Ac.getD dkS h q
theorem Ki (h : A1 t) : (A7 t).length <= 2 := by iterate 1 unfold A7; rw [Am]; exact h.len
end
noncomputable def mt (op : Str) (k : Nat) (y : Ao) : Bool := decide (y.1 = op /\ y.2.length = k)
theorem QF {α : Type} {l : List α} (nd : l.Nodup) (h : ∀ x ∈ l, ∀ y ∈ l, x = y) : l.length <= 1 := by iterate 1
 match l, nd, h with
 | [], _, _ => exact BC _
 | [_], _, _ => exact Az _
 | a :: b :: l, nd, h =>
  rw [BE] at nd
  exact absurd (h a (.head _) b (.tail _ (.head _)) ▸ Bv) nd.1
theorem Kc.matches (N : Kc g n L) (W : GW g) (nd : g.ns.Nodup) (hn : n < g.ns.length) (h8 : g.ns.length <= 8) : (L.filter (mt op k)).length <= if k = 0 then 1 else 8 := by iterate 1
 obtain ⟨l, p, s⟩ := N.sub
 have h1 : (L.filter (mt op k)).length <= ((Cm g n).filter (mt op k)).length := by
  rw [(p.filter _).length_eq]; exact (s.filter _).length_le
 refine Ap h1 ?_
 split
 ·rename_i e
  unfold Cm
  rw [J7, Am]
  have ndl : (AJ (g.uf.lots.getD (Ae g.uf.par n) [])).Nodup := (DU _).nodup_iff.mpr (W.wf.mem _ (Dn W.wf.le (W.len ▸ hn)) (Dm W.wf.le n)).1
  refine QF (ndl.filter _) fun a ha b hb => ?_
  have key : ∀ {a : Nat}, a ∈ (AJ (g.uf.lots.getD (Ae g.uf.par n) [])).filter (mt op k ∘ fun m => BB g.uf.par (g.ns.getD m default)) -> g.ns[a]? = some (op, []) := fun {a} ha => by
   obtain ⟨h1, h2⟩ := Ch.mp ha
   have h3 := G5 ((Gi W hn).mp h1).1
   have h4 := of_decide_eq_true h2
   rw [e] at h4
   have h5 : (g.ns.getD a default).1 = op := h4.1
   have h6 : ((g.ns.getD a default).2.map (Ae g.uf.par)).length = 0 := h4.2
   rw [Am, LZ] at h6
   rw [h3]
   exact congrArg some (Prod.ext h5 h6)
  exact HD nd (key ha) (key hb)
 ·refine Ap (Ga ..) ?_
  unfold Cm
  rw [Am, (DU _).length_eq]
  exact Ap (W.wf.all _) (W.len ▸ h8)
theorem VP {α : Type} {l : List α} {f : α -> Bool} {y : α} (h : l[i]? = some y) : ((l.take (i + 1)).filter f).length = ((l.take i).filter f).length + if f y = true then 1 else 0 := by iterate 1
 rw [Co, h, Mp, AD]
 show _ + ([y].filter f).length = _
 rw [GA]
 split <;> rfl
noncomputable def Ew (g : G) (op : Str) (ks : List Pat) (t : Tab) (y : Ao) : List Tab := if y.1 = op /\ y.2.length = ks.length then BO g ks [t] y.2 else []
theorem Gj (h : ¬ AP op) : ext g (.node op ks) t a = (Cm g a).flatMap (Ew g op ks t) := by
 unfold ext; rw [if_neg h]; rfl
theorem Kj (h : AP x) : ext g (.node x ks) t a = Ed t x a := by
 unfold ext; rw [if_pos h]
theorem VQ (h : ¬ AP op) (N : Kc g a L) : T ∈ L.flatMap (Ew g op ks t) ↔ T ∈ ext g (.node op ks) t a := by iterate 1
 rw [Gj h, Dc, Dc]
 exact ⟨fun ⟨y, h1, h2⟩ => ⟨y, (N.mem y).mp h1, h2⟩, fun ⟨y, h1, h2⟩ => ⟨y, (N.mem y).mpr h1, h2⟩⟩
theorem QG (W : GW g) (hk : ∀ (i : Nat) (x : Ao), g.ns[i]? = some x -> ∀ k ∈ x.2, k < i) (hn : n < g.ns.length) (h : y ∈ Cm g n) : ∀ k ∈ y.2, k < g.ns.length /\ Ae g.uf.par k = k := by iterate 1
 exact fun k hm => by
  obtain ⟨m, h1, rfl⟩ := Av.mp h
  obtain ⟨k', h2, rfl⟩ := Av.mp hm
  have h3 := ((Gi W hn).mp h1).1
  have h4 := DB (hk m _ (G5 h3) k' h2) h3
  exact ⟨W.len ▸ Dn W.wf.le (W.len ▸ h4), Jj W.wf.le k'⟩
theorem Kk {i : Nat} (h : (CY ps)[i]? = some d) : ∃ p, ps[i]? = some p /\ d = .ref p.1 := by iterate 1
 rw [Bs, Dl] at h
 obtain ⟨p, h1, h2⟩ := h
 exact ⟨p, h1, h2.symm⟩
theorem MI (ps qs : List (Addr × Tab)) : CY ps ++ CY qs = CY (ps ++ qs) := (Bo ..).symm
theorem VR {L : List Ao} {i : Nat} {d : D} (h : (L.map AE)[i]? = some d) : ∃ y, L[i]? = some y /\ d = AE y := by iterate 1
 rw [Bs, Dl] at h
 obtain ⟨p, h1, h2⟩ := h
 exact ⟨p, h1, h2.symm⟩
section
variable {c : Cx} {A : Around} {σ σ' : Aa} {w wd : Addr} {r : HR} {g : G} {Q : D -> Aa -> Prop}
theorem TL.nil : TL σ [] [] b := by iterate 1
 exact ⟨fun _ h => (Ar h).elim, fun T => ⟨fun ⟨_, h⟩ => (Ar h).elim, fun h => (Ar h).elim⟩, BC _⟩
theorem TL.one (h : σ a = some (.dictS (A7 T))) : TL σ [(a, T)] [T] 1 := by iterate 1
 exact ⟨fun p hp => Ag.mp hp ▸ h, fun T' => ⟨fun ⟨_, h⟩ => (show T' = T from congrArg Prod.snd (Ag.mp h)) ▸ Ag.mpr rfl, fun h => ⟨a, by rw [Ag.mp h]; exact Ag.mpr rfl⟩⟩, Az 1⟩
theorem TL.append (x : TL σ ps L a) (y : TL σ qs M b) : TL σ (ps ++ qs) (L ++ M) (a + b) := by iterate 1
 exact {
  at_ := fun p hp => (AC.mp hp).elim (x.at_ p) (y.at_ p)
  mem := fun T => by
   rw [AC, <- x.mem, <- y.mem]
   exact ⟨fun ⟨a, h⟩ => (AC.mp h).imp (fun h => ⟨a, h⟩) fun h => ⟨a, h⟩, fun h => h.elim (fun ⟨a, h⟩ => ⟨a, BY _ h⟩) fun ⟨a, h⟩ => ⟨a, BK _ h⟩⟩
  len := by rw [AD]; exact GT x.len y.len }
theorem TL.more (x : TL σ ps L a) (hm : ∀ T, T ∈ L ↔ T ∈ M) (h : a <= b) : TL σ ps M b := by iterate 1
 exact ⟨x.at_, fun T => (x.mem T).trans (hm T), Ap x.len h⟩
theorem VU {p : Pat} {k : Nat} {qs : List (Addr × Tab)} {tl : Addr} {vs : VS} {b : VT} {e : VT} (hh : A.handled = none) (ht : σ tl = some (.list (CY qs))) {M : List Tab} {m : Nat} (hq : TL σ qs M m) (hm : m * bnd p <= 1000000)
  (hb : ∀ x σ' (P : D -> Aa -> Prop), x ∈ qs -> Fr σ σ' [] -> (∀ l σ'' ps, σ'' l = some (.list (CY ps)) -> TL σ'' ps (ext g p x.2 k) (bnd p) -> Fr σ' σ'' [] -> P (.ref l) σ'') -> b c A (vs ++ [some (.ref x.1)]) σ' P)
  (he : ∀ x y σ' (P : D -> Aa -> Prop), P y σ' -> e c A (vs ++ [some x, some y]) σ' P)
  (q : ∀ l σ' ps, σ' l = some (.list (CY ps)) -> TL σ' ps (M.flatMap fun t => ext g p t k) (m * bnd p) -> Fr σ σ' [] -> Q (.ref l) σ') : Mb b e c A vs Q (.ref tl) σ := by iterate 1
 refine Ml (AH.list hh ht) (fun i acc σ' => Fr σ σ' [] /\ ∃ ws, acc = CY ws /\ TL σ' ws ((qs.take i).flatMap fun x => ext g p x.2 k) (i * bnd p)) ⟨Fr.refl _ _, [], rfl, TL.nil⟩ (fun i acc σ' h => h.1.at0 ht) (fun i d acc σ' h hd => ?_) fun acc σ' h l σ'' n => ?_
 ·obtain ⟨x, hx, rfl⟩ := Kk hd
  have hi : i < qs.length := (AT.mp hx).1
  refine hb x σ' _ (AX hx) h.1 fun l σ2 ps hl hp F2 => ?_
  obtain ⟨ws, rfl, hw⟩ := h.2
  have hle : (i + 1) * bnd p <= 1000000 := Ap (G7 _ (Ap hi hq.len)) hm
  refine Mm (AH.list hh hl) (fun j acc σ3 => σ3 = σ2 /\ acc = CY (ws ++ ps.take j)) ⟨rfl, by rw [MJ, BQ]⟩ (fun j acc σ3 h => h.1 ▸ hl) (fun j y acc σ3 h3 hy => ?_) fun acc σ3 h3 => ?_
  ·obtain ⟨z, hz, rfl⟩ := Kk hy
   refine he _ _ _ _ ⟨?_, h3.1, ?_⟩
   ·rw [h3.2, Am, AD, C7]
    refine Ap (GT hw.len (Ap (Fp _ _) hp.len)) ?_
    rw [<- Gk]; exact hle
   ·rw [h3.2, Co, hz, <- Dg]
    exact MI (ws ++ ps.take j) [z]
  ·obtain ⟨rfl, rfl⟩ := h3
   rw [Am, Ci]
   refine ⟨h.1.trans F2, ws ++ ps, rfl, ?_⟩
   rw [Co, hx, Km, Gk]
   exact (hw.keep F2).append (hp.more (fun T => by simp) (Az _))
 ·obtain ⟨F, ws, rfl, hw⟩ := h
  rw [Am, Ci] at hw
  refine q l σ'' ws n.at_ ((hw.keep n.fr).more (fun T => ?_) (G7 _ hq.len)) (F.trans n.fr)
  rw [Dc, Dc]
  exact ⟨fun ⟨x, h1, h2⟩ => ⟨x.2, (hq.mem x.2).mp ⟨x.1, h1⟩, h2⟩, fun ⟨t, h1, h2⟩ => let ⟨a, h3⟩ := (hq.mem t).mpr h1; ⟨(a, t), h3, h2⟩⟩
theorem QH (O : Ok c) (R : Af A 2) (hx : AP x) (hT : A1 T) (ht : σ t = some (.dictS (A7 T)))
  (q : ∀ l σ' ps, σ' l = some (.list (CY ps)) -> TL σ' ps (ext g (.node x []) T a) (bnd (.node x [])) -> Fr σ σ' [] -> Q (.ref l) σ') : Ac c A (.ref 201) [.ref w, .ref t, .int (a : Nat), .tup [.str x]] σ Q := by iterate 1
 rw [Kj hx] at q
 have tz : (A7 T).length <= 1000000 := Ap (Ki hT) (by decide)
 refine d201 O R fun A R => ?_
 refine IT.CV (a := 0) (DR rfl) rfl ?_
 apply C74v O R hx
 refine C.dictS ht tz fun l1 σ1 n1 => ?_
 refine C.setS n1.at_ tz fun σ2 u2 => ?_
 have ne := n1.other ht
 have t2 := u2.keep ne (n1.keep ht)
 have F2 : Fr σ σ2 [] := fun b o _ e => u2.keep (n1.other e) (n1.keep e)
 apply GM.getS t2
 apply C.getS t2
 rw [Kh]
 cases e : T.lookup x with
 | none =>
  rw [VN e] at u2
  refine CMP.eqN (b := a) (fun _ => ?_) fun z => absurd rfl z
  intro l3 σ3 n3
  refine q l3 σ3 [(l1, T ++ [(x, a)])] n3.at_ ?_ (F2.trans n3.fr)
  unfold Ed
  rw [e]
  exact TL.one (n3.keep u2.at_)
 | some b =>
  refine CMP.eqN (fun z => ?_) fun z => ?_
  ·subst z
   rw [VO hT.nd e] at u2
   intro l3 σ3 n3
   refine q l3 σ3 [(l1, T)] n3.at_ ?_ (F2.trans n3.fr)
   unfold Ed
   rw [e]
   simp only [if_true]
   exact TL.one (n3.keep u2.at_)
  ·intro l3 σ3 n3
   refine q l3 σ3 [] n3.at_ ?_ (F2.trans n3.fr)
   unfold Ed
   rw [e]
   simp only [if_neg z]
   exact TL.nil
theorem MK (op : Str) (ks : List Pat) : Bm (.node op ks) = .tup (.str op :: Dr ks) := rfl
theorem QI (op : Str) (ks : List Pat) : (if ks.length = 0 then 1 else 8) * Cb ks = bnd (.node op ks) := by iterate 1
 unfold bnd
 split
 ·rename_i h
  rw [LZ.mp h]; rfl
 ·rfl
theorem C201 : ∀ (n : Nat) {c : Cx} {A : Around} {σ : Aa} {w wd : Addr} {r : HR} {g : G} {Q : D -> Aa -> Prop} {p : Pat} {T : Tab} {t : Addr} {a : Nat}, Ok c -> Af A (n + 7) -> WI σ w wd r.h -> HAt σ r g -> GW g -> g.ns.length <= 8 -> a < g.ns.length -> Bq n p -> bnd p <= 100000 -> A1 T -> σ t = some (.dictS (A7 T)) ->
  (∀ l σ' ps, σ' l = some (.list (CY ps)) -> TL σ' ps (ext g p T a) (bnd p) -> Fr σ σ' [] -> Q (.ref l) σ') -> Ac c A (.ref 201) [.ref w, .ref t, .int a, Bm p] σ Q := by iterate 1
 intro n
 induction n with
 | zero =>
  intro c A σ w wd r g Q p T t a O R I H W h8 ha hp hb hT ht q
  cases hp with
  | var hx => exact QH O (R.le (by decide)) hx hT ht q
 | succ n ih =>
  intro c A σ w wd r g Q p T t a O R I H W h8 ha hp hb hT ht q
  cases hp with
  | var hx => exact QH O (R.le (by omega)) hx hT ht q
  | @op _ op ks hop hv hl hk =>
   rw [MK]
   refine d201 O R fun A R => ?_
   have hdl : (Dr ks).length <= 10 := (Ec ks).symm ▸ hl
   have hdz : (D.str op :: Dr ks).length <= 1000000 := EO (BH hdl)
   refine IT.CV (a := 0) hdz rfl ?_
   apply C74o O (R.le (by omega)) hop hdl
   intro fl σ1 n1
   have H1 := H.keep n1.fr
   have I1 := I.keep n1.fr
   apply I1.a_heap O
   apply H1.i.m_nodes_of O
   refine C408 O (R.le (by omega)) H1 W ha (Ap h8 (by decide)) fun nl σ2 L NL hnl F2 => ?_
   have F02 := n1.fr.trans F2
   have fl2 : σ2 fl = some (.list []) := F2.at0 n1.at_
   have hbs : Cb ks <= 100000 := by
    refine Ap ?_ hb
    rw [<- QI op ks]
    exact QD _ (by split <;> decide)
   have hmt : ∀ i, ((L.take i).filter (mt op ks.length)).length * Cb ks <= bnd (.node op ks) := fun i => by
    rw [<- QI op ks]
    refine G7 _ (Ap ?_ (NL.matches (op := op) W H.bank.nod ha h8))
    exact ((List.take_sublist i L).filter _).length_le
   refine Dq (AH.list R.handled hnl) (fun x : Option D × Option D × Option D × Option D => [some (.ref w), some (.ref t), some (.int (a : Nat)), some (.tup (.str op :: Dr ks)), some (.str op), none, some (.ref fl), x.1, x.2.1, x.2.2.1, x.2.2.2])
    (fun i _ σ' => (Fr σ σ' [] /\ σ' nl = some (.list (L.map AE))) /\ ∃ ps, σ' fl = some (.list (CY ps)) /\ TL σ' ps ((L.take i).flatMap (Ew g op ks T)) (((L.take i).filter (mt op ks.length)).length * Cb ks))
    (none, none, none, none) rfl ⟨⟨F02, hnl⟩, [], fl2, TL.nil⟩ (fun i x σ' h => h.1.2) (fun i d x σ' h hd => ?_) fun x σ' h => ?_
   ·obtain ⟨y, hy, rfl⟩ := VR hd
    obtain ⟨⟨F, hn⟩, ps, hf, hps⟩ := h
    have hym := (NL.mem y).mp (AX hy)
    have hyl : y.2.length <= 10 := by
     obtain ⟨m, h1, rfl⟩ := Av.mp hym
     show ((g.ns.getD m default).2.map (Ae g.uf.par)).length <= 10
     rw [Am]
     exact (H.bank.wf m _ (G5 ((Gi W ha).mp h1).1)).2.2
    have hyz : (AU y).length <= 1000000 := by rw [J5]; exact EO (BH hyl)
    have skip : ¬ (y.1 = op /\ y.2.length = ks.length) -> TL σ' ps ((L.take (i + 1)).flatMap (Ew g op ks T)) (((L.take (i + 1)).filter (mt op ks.length)).length * Cb ks) := fun hno => by
     rw [Co, hy, Km]
     refine hps.more (fun T' => ?_) (G7 _ (by rw [Mp, AD]; exact FW _ _))
     have e : [y].flatMap (Ew g op ks T) = [] := by rw [G8, Kn]; unfold Ew; rw [if_neg hno]; rfl
     rw [MC, e, BQ]
    refine IT.CV (a := 0) hyz rfl (CMP.eqS ?_)
    by_cases e1 : y.1 = op
    ·rw [decide_eq_true e1]
     apply Ac.IB hyz
     apply Ac.IB hdz
     rw [J5, CE, Ec]
     refine CMP.eqN (fun e2 => ?_) fun e2 => ?_
     ·have hmatch : y.1 = op /\ y.2.length = ks.length := ⟨e1, ME e2⟩
      intro tl σ3 n3
      refine ⟨by rw [A6]; exact BH hyl, BH hdl, ?_⟩
      have F3 := F.trans n3.fr
      have hmem := QG W (fun i x h => (H.bank.wf i x h).2.1) ha hym
      refine Vc (fun x : Addr × Option D × Option D => [some (.ref w), some (.ref t), some (.int (a : Nat)), some (.tup (.str op :: Dr ks)), some (.str op), none, some (.ref fl), some (AE y), some (.ref x.1), x.2.1, x.2.2])
       (fun j x σ' => Fr σ3 σ' [] /\ ∃ qs, σ' x.1 = some (.list (CY qs)) /\ TL σ' qs (BO g (ks.take j) [T] (y.2.take j)) (Cb (ks.take j)))
       (tl, x.2.2.1, x.2.2.2) rfl ⟨Fr.refl _ _, [(t, T)], n3.at_, by rw [MJ, MJ]; simp only [BO, Cb]; exact TL.one (F3.at0 ht)⟩ (fun z hz j u v x2 σ4 h4 hu hv' => ?_) fun x2 σ4 h4 => ?_
      ·obtain ⟨F4, qs, hq1, hq2⟩ := h4
       obtain ⟨k, hk1, rfl⟩ : ∃ k, y.2[j]? = some k /\ u = .int (k : Nat) := by
        unfold An at hu
        rw [Bs, Dl] at hu
        obtain ⟨k, h1, h2⟩ := hu
        exact ⟨k, h1, h2.symm⟩
       obtain ⟨p', hp1, rfl⟩ := Qw hv'
       have hpm := AX hp1
       have hkm := hmem k (AX hk1)
       have e : ks.take (j + 1) = ks.take j ++ [p'] := by rw [Co, hp1]; rfl
       have e' : y.2.take (j + 1) = y.2.take j ++ [k] := by rw [Co, hk1]; rfl
       have hbj : Cb (ks.take j) * bnd p' <= 100000 := by rw [<- MG, <- e]; exact Ap (Qz ks _) hbs
       refine VU (g := g) (p := p') (k := k) R.handled hq1 hq2 (Ap hbj (by decide)) (fun x3 σ5 P hx3 F5 hP => ?_) (fun x3 y3 σ5 P h => h) fun l σ5 qs' hl hqs' F5 => ?_
       ·have F05 := F3.trans (F4.trans F5)
        apply (I.keep F05).m_extended (O.plus z)
        have hT3 : A1 x3.2 := by
         refine Kg g _ [T] _ (fun t' h => Ag.mp h ▸ hT) x3.2 ((hq2.mem x3.2).mp ⟨x3.1, hx3⟩)
        exact ih (O.plus z) R (I.keep F05) (H.keep F05) W h8 hkm.1 (hk p' hpm) (Ap (QC hpm) hbs) hT3 (F5.at0 (hq2.at_ x3 hx3)) hP
       ·refine ⟨(l, some (.int (k : Nat)), some (Bm p')), rfl, F4.trans F5, qs', hl, ?_⟩
        rw [e, e', Qx g p' k _ _ _ (by rw [C7, C7, hmatch.2]), MG]
        exact hqs'
      ·obtain ⟨F4, qs, hq1, hq2⟩ := h4
       rw [A6, Ec, <- hmatch.2, Nat.min_self, Ci, hmatch.2, Ci] at hq2
       have hf4 := F4.at0 (n3.keep hf)
       have hn4 := F4.at0 (n3.keep hn)
       have hlz := Ap (hmt (i + 1)) hb
       have hflen : ((L.take (i + 1)).filter (mt op ks.length)).length = ((L.take i).filter (mt op ks.length)).length + 1 := by
        rw [VP hy, if_pos (show mt op ks.length y = true from decide_eq_true hmatch)]
       rw [hflen, Gk] at hlz
       apply GM.extend hf4
       refine C.extend hf4 hq1 (by rw [Am, Am]; exact Ap (GT hps.len hq2.len) (Ap hlz (by decide))) fun σ5 u5 => ?_
       have flf : ∀ {b : Addr} {o : MO}, σ b = some o -> b ≠ fl := fun h => n1.other h
       have hlist : ∀ {ps' : List (Addr × Tab)} {M : List Tab} {b : Nat}, TL σ4 ps' M b -> TL σ5 ps' M b := fun z => ⟨fun p hp => u5.keep (fun e => by
        have h1 := z.at_ p hp
        rw [e, hf4] at h1; cases h1) (z.at_ p hp), z.mem, z.len⟩
       refine ⟨(some (AE y), some (.ref x2.1), x2.2.1, x2.2.2), rfl, ⟨fun b o hb' e => u5.keep (flf e) ((F3.trans F4).at0 e), u5.keep (fun e => ?_) hn4⟩, ps ++ qs, by rw [u5.at_, MI], ?_⟩
       ·rw [e, hf4] at hn4
        cases L with
        | nil => cases hy
        | cons l0 L =>
         have h1 := MO.list.inj (Cn hn4)
         cases ps with
         | nil => cases h1
         | cons p0 ps => cases (Gl h1).1
       ·rw [hflen, Gk, Co, hy, Km, MC, G8, Kn, BQ]
        have e : Ew g op ks T y = BO g ks [T] y.2 := if_pos hmatch
        rw [e]
        exact ((hlist (hps.keep (n3.fr.trans F4))).append (hlist hq2))
     ·exact ⟨(some (AE y), x.2.1, x.2.2.1, x.2.2.2), rfl, ⟨F, hn⟩, ps, hf, skip fun z => e2 (congrArg (· + 1) z.2)⟩
    ·rw [decide_eq_false e1]
     exact ⟨(some (AE y), x.2.1, x.2.2.1, x.2.2.2), rfl, ⟨F, hn⟩, ps, hf, skip fun z => e1 z.1⟩
   ·obtain ⟨⟨F, hn⟩, ps, hf, hps⟩ := h
    rw [Am, Ci] at hps
    refine q fl σ' ps hf (hps.more (fun T' => VQ hv NL) ?_) F
    have := hmt L.length
    rwa [Ci] at this
end
section
open Classical
mutual
noncomputable def nm : Pat -> List Str
 | .node op ks => if AP op then [op] else nms ks
noncomputable def nms : List Pat -> List Str
 | [] => []
 | p :: ps => nm p ++ nms ps
end
noncomputable abbrev keysT (t : Tab) : List Str := t.map (·.1)
theorem VV (h : T ∈ Ed t x a) (y : Str) : y ∈ keysT T ↔ y ∈ keysT t ∨ y = x := by iterate 1
 unfold Ed at h
 split at h
 ·rw [Ag.mp h]
  show y ∈ (t ++ [(x, a)]).map (·.1) ↔ _
  rw [Bo, AC]
  exact or_congr_right Ag
 ·rename_i b e
  split at h
  ·rw [Ag.mp h]
   exact ⟨.inl, fun q => q.elim id fun q => q ▸ AS (f := (·.1)) (D3 e)⟩
  ·cases h
mutual
theorem G9 (g : G) : ∀ (p : Pat) (t : Tab) (a : Nat) (T : Tab), T ∈ ext g p t a -> ∀ y, y ∈ keysT T ↔ y ∈ keysT t ∨ y ∈ nm p
 | .node op ks, t, a, T, h, y => by iterate 1
  by_cases hv : AP op
  ·rw [Kj hv] at h
   unfold nm
   rw [if_pos hv, Ag]
   exact VV h y
  ·rw [Gj hv] at h
   unfold nm
   rw [if_neg hv]
   obtain ⟨z, _, hz⟩ := Dc.mp h
   unfold Ew at hz
   split at hz
   ·rename_i e
    obtain ⟨t', ht', hT⟩ := QJ g ks [t] z.2 e.2.symm T hz
    rw [Ag.mp ht'] at hT
    exact hT y
   ·cases hz
theorem QJ (g : G) : ∀ (ps : List Pat) (ts : List Tab) (as : List Nat), ps.length = as.length -> ∀ (T : Tab), T ∈ BO g ps ts as -> ∃ t ∈ ts, ∀ y, y ∈ keysT T ↔ y ∈ keysT t ∨ y ∈ nms ps
 | [], ts, [], _, T, h => by iterate 1
  simp only [BO] at h
  exact ⟨T, h, fun y => ⟨.inl, fun q => q.elim id fun q => by cases q⟩⟩
 | p :: ps, ts, a :: as, hl, T, h => by iterate 1
  simp only [BO] at h
  obtain ⟨t', ht', hT⟩ := QJ g ps _ as (ME hl) T h
  obtain ⟨t, ht, h1⟩ := Dc.mp ht'
  refine ⟨t, ht, fun y => ?_⟩
  rw [hT, G9 g p t a t' h1]
  simp only [nms, AC, or_assoc]
 | [], _, _ :: _, h, _, _ => by cases h
 | _ :: _, _, [], h, _, _ => by cases h
end
noncomputable def A3 (T : Tab) : List D := B9 (BW (A7 T))
theorem ML (h : AP x) : E1 x = true := by iterate 1 rcases h with rfl | rfl <;> decide +kernel
theorem Ha (h : A1 T) (hd : d ∈ BW (A7 T)) : ∃ x a, d = .tup [.str x, .int a] /\ Al 3 d = true := by iterate 1
 obtain ⟨e, he, rfl⟩ := Av.mp hd
 obtain ⟨p, hp, rfl⟩ := Av.mp he
 refine ⟨p.1, p.2, rfl, ?_⟩
 show (Al 2 (.str p.1) && (Al 2 (.int (p.2 : Nat)) && true)) = true
 rw [show Al 2 (.str p.1) = E1 p.1 from rfl, ML (h.vs p hp)]; rfl
theorem Gm (h : A1 T) (hd : d ∈ A3 T) : ∃ x a, d = .tup [.str x, .int a] /\ Al 3 d = true := Ha h ((Di _).mem_iff.mp hd)
theorem Hb (h : A1 T) : Al 4 (.tup (A3 T)) = true := by iterate 1
 exact D0.mpr fun d hd => let ⟨_, _, _, k⟩ := Gm h hd; k
theorem MM : (A3 T).length = T.length := by iterate 1
 unfold A3 BW A7
 rw [(Di _).length_eq, Am, Am]
theorem MN : ∀ {a b : List D}, (∀ d ∈ a, ∃ x i, d = .tup [.str x, .int i]) -> (∀ d ∈ b, ∃ x i, d = .tup [.str x, .int i]) -> Dh a b = true
 | [], [], _, _ => rfl
 | [], _ :: _, _, _ => rfl
 | _ :: _, [], _, _ => rfl
 | x :: a, y :: b, ha, hb => by iterate 1
  obtain ⟨_, _, e1⟩ := ha x (.head _)
  obtain ⟨_, _, e2⟩ := hb y (.head _)
  unfold Dh
  rw [e1, e2, MN (fun d h => ha d (.tail _ h)) (fun d h => hb d (.tail _ h))]; rfl
noncomputable def CH (g : G) (p : Pat) (a : Nat) : List (List D) := AO ((ext g p [] a).map A3)
noncomputable def BU (g : G) (p : Pat) (a : Nat) : List D := B9 ((CH g p a).map .tup)
theorem MP : k ∈ CH g p a ↔ ∃ T ∈ ext g p [] a, A3 T = k := by iterate 1
 unfold CH
 rw [Fw, Av]
theorem Gn : A1 [] := ⟨Cw, fun _ h => (Ar h).elim⟩
theorem MQ (h : d ∈ (CH g p a).map D.tup) : Al 4 d = true := by iterate 1
 obtain ⟨k, hk, rfl⟩ := Av.mp h
 obtain ⟨T, hT, rfl⟩ := MP.mp hk
 exact Hb (Fz g p [] a Gn T hT)
theorem MR {es : List (List D × D)} {k : List D} {d : D} : (Bb es k d).map (·.1) = if k ∈ es.map (·.1) then es.map (·.1) else es.map (·.1) ++ [k] := by iterate 1
 unfold Bb
 by_cases h : k ∈ es.map (·.1)
 ·rw [if_pos h, if_pos]
  ·rw [A2]
   refine Cg fun e _ => ?_
   show (if e.1 = k then (e.1, d) else e).1 = e.1
   split <;> rfl
  ·obtain ⟨e, he, h1⟩ := Av.mp h
   exact Er.mpr ⟨e, he, decide_eq_true h1⟩
 ·rw [if_neg h, if_neg]
  ·exact Bo
  ·intro q
   obtain ⟨e, he, h1⟩ := Er.mp q
   exact h (of_decide_eq_true h1 ▸ AS (f := (·.1)) he)
section
variable {c : Cx} {A : Around} {σ σ' : Aa} {w wd : Addr} {r : HR} {g : G} {Q : D -> Aa -> Prop}
theorem C.QK (hh : A.handled = none) (hu : A.units + 60 < cLine) (h : σ a = some (.dictS (A7 T))) (hl : σ l = some (.raw (EG a))) (hT : A1 T) (q : ∀ x σ', New σ σ' x (.list (A3 T)) -> Q (.ref x) σ') : Ac c A (.builtin "sorted") [.ref l] σ Q := by iterate 1
 exact
  Ac.GK (k := 2) (COL.items (A := A.in1) hh h hl (Ap (Ki hT) (by decide))) (fun ds e => by
   subst e
   refine ⟨?_, fun _ => ⟨_, .tupS fun d m => ?_⟩, fun d m => ?_, fun d m e m' => ?_, fun x n => q x _ (.set _ n)⟩
   ·unfold BW; rw [Am]; exact Bd (Ki hT) (by decide)
   ·obtain ⟨x, b, rfl, _⟩ := Ha hT m; exact ⟨_, _, rfl⟩
   ·obtain ⟨x, b, _, k⟩ := Ha hT m; exact k
   ·obtain ⟨x, b, rfl, _⟩ := Ha hT m
    obtain ⟨y, b', rfl, _⟩ := Ha hT m'
    rfl) (Bd (G4 (by decide : 22 <= 60) _) hu)
theorem VW (nd : ks.Nodup) (h : ∀ k, k ∈ ks ↔ ∃ T ∈ ext g p [] a, A3 T = k) : List.Perm ks (CH g p a) := by iterate 1
 exact
  (MA nd (Fy _)).mpr fun k => (h k).trans MP.symm
theorem C208 {n a : Nat} {p : Pat} (O : Ok c) (R : Af A (n + 8)) (I : WI σ w wd r.h) (H : HAt σ r g) (W : GW g) (h8 : g.ns.length <= 8) (ha : a < g.ns.length) (hp : Bq n p) (hb : bnd p <= 100000) (h64 : (CH g p (Ae g.uf.par a)).length < 64)
  (q : ∀ l σ', σ' l = some (.list (BU g p (Ae g.uf.par a))) -> Fr σ σ' [] -> Q (.ref l) σ') : Ac c A (.ref 208) [.ref w, .int a, Bm p] σ Q := by iterate 1
 refine d208 O R fun A R => ?_
 have len := W.len
 refine ⟨.dictT [], .inr (.inr rfl), fun sd σ1 n1 => ?_⟩
 apply (I.keep n1.fr).m_extended O
 refine ⟨.dictS [], .inl rfl, fun t0 σ2 n2 => ?_⟩
 have F02 := n1.fr.trans n2.fr
 have H2 := H.keep F02
 apply (I.keep F02).a_heap O
 apply H2.i.m_find O
 apply Gc O (R.le (by omega)) H2 (len ▸ ha)
 have hra : Ae g.uf.par a < g.ns.length := len ▸ Dn W.wf.le (len ▸ ha)
 refine C201 n O R (I.keep F02) H2 W h8 hra hp hb Gn n2.at_ fun l σ3 ps hl hps F3 => ?_
 have F03 := F02.trans F3
 have sd3 : σ3 sd = some (.dictT []) := F3.at0 (n2.keep n1.at_)
 have hpz := hps.len
 refine Dq (AH.list R.handled hl) (fun x : Option D => [some (.ref w), some (.int (a : Nat)), some (Bm p), some (.ref sd), x])
  (fun i _ σ' => (Fr σ σ' [] /\ (∀ b o, b ≠ sd -> σ3 b = some o -> σ' b = some o)) /\ ∃ es, σ' sd = some (.dictT es) /\ (es.map (·.1)).Nodup /\ (∀ k, k ∈ es.map (·.1) ↔ ∃ x ∈ ps.take i, A3 x.2 = k) /\ es.length <= i)
  none rfl ⟨⟨F03, fun _ _ _ e => e⟩, [], sd3, Cw, fun k => ⟨fun h => (Ar h).elim, fun ⟨_, h, _⟩ => (Ar h).elim⟩, Az 0⟩ (fun i _ σ' h => h.1.2 l _ (DS hl sd3 MO.noConfusion) hl) (fun i d x σ' h hd => ?_) fun x σ' h => ?_
 ·obtain ⟨z, hz, rfl⟩ := Kk hd
  obtain ⟨⟨F, F'⟩, es, hes, nd, hm, hlen⟩ := h
  have hz3 := hps.at_ z (AX hz)
  have hz' := F' z.1 _ (DS hz3 sd3 MO.noConfusion) hz3
  have hT := Fz g p [] _ Gn z.2 ((hps.mem z.2).mp ⟨z.1, AX hz⟩)
  have hi : i < ps.length := (AT.mp hz).1
  apply GM.items hz'
  refine C.items hz' fun iv σ4 n4 => ?_
  refine C.QK R.handled (Gh R) (n4.keep hz') n4.at_ hT fun sl σ5 n5 => ?_
  apply Ac.FR n5.at_ (by rw [MM]; exact Ap hT.len (by decide))
  refine C.setT (CW R) (n5.keep (n4.keep hes)) (Hb hT) (by omega) fun σ6 u6 => ?_
  refine ⟨_, rfl, ⟨fun b o hb e => u6.keep (n1.other e) (n5.keep (n4.keep (F.at0 e))), fun b o hb e => u6.keep hb (n5.keep (n4.keep (F' b o hb e)))⟩, _, u6.at_, ?_, fun k => ?_, ?_⟩
  ·rw [MR]
   split
   ·exact nd
   ·exact Bf.mpr ⟨nd, El .., fun a ha b hb e => ‹¬_› (Ag.mp hb ▸ e ▸ ha)⟩
  ·have e1 : ps.take (i + 1) = ps.take i ++ [z] := by rw [Co, hz]; rfl
   have e2 : (∃ x ∈ ps.take (i + 1), A3 x.2 = k) ↔ k ∈ es.map (·.1) ∨ A3 z.2 = k := by
    rw [e1, hm]
    exact ⟨fun ⟨x, h1, h2⟩ => (AC.mp h1).elim (fun h => .inl ⟨x, h, h2⟩) fun h => .inr (Ag.mp h ▸ h2), fun h => h.elim (fun ⟨x, h1, h2⟩ => ⟨x, BY _ h1, h2⟩) fun h => ⟨z, BK _ (.head _), h⟩⟩
   rw [e2, MR]
   split
   ·exact ⟨.inl, fun h => h.elim id fun h => h ▸ ‹_›⟩
   ·rw [AC, Ag]
    exact or_congr_right eq_comm
  ·have := congrArg HN (MR (es := es) (k := A3 z.2) (d := .bool true))
   rw [Am] at this
   rw [this]
   split
   ·rw [Am]; exact HL hlen
   ·rw [AD, Am]; exact Fn hlen
 ·obtain ⟨⟨F, F'⟩, es, hes, nd, hm, hlen⟩ := h
  rw [Am] at hlen
  rw [Am, Ci] at hm
  have hm' : ∀ k, k ∈ es.map (·.1) ↔ ∃ T ∈ ext g p [] (Ae g.uf.par a), A3 T = k := fun k => (hm k).trans
   ⟨fun ⟨x, h1, h2⟩ => ⟨x.2, (hps.mem x.2).mp ⟨x.1, h1⟩, h2⟩, fun ⟨T, h1, h2⟩ => let ⟨b, h3⟩ := (hps.mem T).mpr h1; ⟨(b, T), h3, h2⟩⟩
  have hperm := VW nd hm'
  have hTok : ∀ k ∈ es.map (·.1), ∃ T, T ∈ ext g p [] (Ae g.uf.par a) /\ A1 T /\ A3 T = k := fun k hk => let ⟨T, h1, h2⟩ := (hm' k).mp hk; ⟨T, h1, Fz g p [] _ Gn T h1, h2⟩
  have hel : es.length = (es.map (·.1)).length := (Am _).symm
  have hform : ∀ d ∈ es.map (fun e => D.tup e.1), ∃ k ∈ es.map (·.1), d = .tup k := fun d hd => by
   obtain ⟨e, he, rfl⟩ := Av.mp hd
   exact ⟨e.1, AS (f := (·.1)) he, rfl⟩
  refine Ac.GK (k := 3) (COL.keysT (A := A.in1) R.handled hes (by omega)) (fun ds e => ?_) (Bd (G4 (by decide : 23 <= 60) _) (Gh R))
  subst e
  refine ⟨?_, fun h2 => ⟨_, .tupT fun d m => ?_⟩, fun d m => ?_, fun d m e m' => ?_, fun y ny => q y _ ?_ (F.trans (New.set _ ny).fr)⟩
  ·rw [Am, hel, hperm.length_eq]; exact h64
  ·obtain ⟨k, hk, rfl⟩ := hform d m
   obtain ⟨T, h1, hT, rfl⟩ := hTok k hk
   cases T with
   | nil =>
    have hnil : nm p = [] := List.eq_nil_iff_forall_not_mem.mpr fun x hx => Ar ((G9 g p [] _ [] h1 x).mpr (.inr hx))
    have hall : ∀ k ∈ es.map (·.1), k = A3 [] := fun k hk => by
     obtain ⟨T', h3, _, rfl⟩ := hTok k hk
     have : T' = [] := by
      cases T' with
      | nil => rfl
      | cons z T' =>
       have := (G9 g p [] _ _ h3 z.1).mp (.head _)
       rw [hnil] at this
       exact (this.elim (fun h => Ar h) fun h => Ar h).elim
     rw [this]
    have := QF nd fun x hx y hy => (hall x hx).trans (hall y hy).symm
    rw [Am] at h2 this
    omega
   | cons z T =>
    have hl2 : (A3 (z :: T)).length = T.length + 1 := MM
    cases hit : A3 (z :: T) with
    | nil => rw [hit] at hl2; cases hl2
    | cons d0 l0 =>
     obtain ⟨x, b, e, _⟩ := Gm hT (hit ▸ Bv : d0 ∈ A3 (z :: T))
     exact ⟨_, _, by rw [e]⟩
  ·obtain ⟨k, hk, rfl⟩ := hform d m
   obtain ⟨T, h1, hT, rfl⟩ := hTok k hk
   exact Hb hT
  ·obtain ⟨k, hk, rfl⟩ := hform d m
   obtain ⟨k', hk', rfl⟩ := hform e m'
   obtain ⟨T, h1, hT, rfl⟩ := hTok k hk
   obtain ⟨T', h1', hT', rfl⟩ := hTok k' hk'
   exact MN (fun d h => let ⟨x, b, e, _⟩ := Gm hT h; ⟨x, b, e⟩) fun d h => let ⟨x, b, e, _⟩ := Gm hT' h; ⟨x, b, e⟩
  ·rw [Aa.DZ]
   refine congrArg _ (congrArg _ ?_)
   have e1 : es.map (fun e => D.tup e.1) = (es.map (·.1)).map .tup := by rw [A2]; rfl
   rw [e1]
   refine IS (n := 4) (fun d hd => ?_) ((hperm.map _).trans (Di _).symm) (IR _)
   exact MQ ((hperm.map _).mem_iff.mp hd)
theorem QL : (BU g p a).length = (CH g p a).length := by iterate 1
 unfold BU
 rw [(Di _).length_eq, Am]
noncomputable def EQ (g : G) (p : Pat) : List D := g.uf.roots.flatMap fun a => (BU g p (Ae g.uf.par a)).map fun k => .tup [.int (a : Nat), k]
theorem C213 {n : Nat} {p : Pat} (O : Ok c) (R : Af A (n + 9)) (I : WI σ w wd r.h) (H : HAt σ r g) (W : GW g) (h8 : g.ns.length <= 8) (hp : Bq n p) (hb : bnd p <= 100000) (h64 : ∀ a, (CH g p a).length < 64)
  (q : ∀ l σ', σ' l = some (.list (EQ g p)) -> Fr σ σ' [] -> Q (.ref l) σ') : Ac c A (.ref 213) [.ref w, Bm p] σ Q := by iterate 1
 refine d213 O R fun A R => ?_
 apply I.a_heap O
 apply H.i.m_classes O
 refine C396 O (R.le (by omega)) H fun cl σ1 hcl F1 => ?_
 have hrl : g.uf.roots.length <= 8 := by
  unfold UF.roots
  exact Ap (Ga ..) (by rw [D7, W.len]; exact h8)
 have hacc : ∀ (i : Nat), ((g.uf.roots.take i).flatMap fun a => (BU g p (Ae g.uf.par a)).map fun k => D.tup [.int (a : Nat), k]).length <= i * 64 := fun i => by
  have : ∀ l : List Nat, (l.flatMap fun a => (BU g p (Ae g.uf.par a)).map fun k => D.tup [.int (a : Nat), k]).length <= l.length * 64 := fun l => by
   induction l with
   | nil => exact Az 0
   | cons a l ih =>
    rw [G8, AD, Am, QL, CE, Gk]
    have := h64 (Ae g.uf.par a)
    omega
  exact Ap (this _) (G7 _ (by rw [C7]; exact GG _ _))
 refine Ml (AH.list R.handled hcl) (fun i acc σ' => Fr σ σ' [] /\ Fr σ1 σ' [] /\ acc = (g.uf.roots.take i).flatMap fun a => (BU g p (Ae g.uf.par a)).map fun k => .tup [.int (a : Nat), k]) ⟨F1, Fr.refl _ _, rfl⟩ (fun i acc σ' h => h.2.1.at0 hcl) (fun i d acc σ' h hd => ?_) fun acc σ' h a σ'' n => ?_
 ·obtain ⟨a, ha, rfl⟩ : ∃ a, g.uf.roots[i]? = some a /\ d = .int (a : Nat) := by
   unfold An at hd
   rw [Bs, Dl] at hd
   obtain ⟨a, h1, h2⟩ := hd
   exact ⟨a, h1, h2.symm⟩
  have hal : a < g.ns.length := by
   have := (Ch.mp (AX ha)).1
   rw [Ep, W.len] at this; exact this
  have hi : i < 8 := Ht (AT.mp ha).1 hrl
  obtain ⟨F, F', rfl⟩ := h
  apply (I.keep F).m_found_in O
  refine C208 (n := n) O R (I.keep F) (H.keep F) W h8 hal hp hb (h64 _) fun l σ2 hl F2 => ?_
  refine Mm (AH.list R.handled hl) (fun j acc σ3 => σ3 = σ2 /\ acc = ((g.uf.roots.take i).flatMap fun a => (BU g p (Ae g.uf.par a)).map fun k => D.tup [.int (a : Nat), k]) ++ ((BU g p (Ae g.uf.par a)).take j).map fun k => .tup [.int (a : Nat), k]) ⟨rfl, by rw [MJ, List.map_nil, BQ]⟩ (fun j acc σ3 h => h.1 ▸ hl) (fun j y acc σ3 h3 hy => ?_) fun acc σ3 h3 => ?_
  ·refine ⟨?_, h3.1, ?_⟩
   ·rw [h3.2, AD, Am, C7]
    have h1 := hacc i
    have h2 := h64 (Ae g.uf.par a)
    rw [QL]; omega
   ·rw [h3.2, Co, hy, Bo, <- Dg]; rfl
  ·obtain ⟨rfl, rfl⟩ := h3
   refine ⟨F.trans F2, F'.trans F2, ?_⟩
   rw [Ci, Co, ha, Km, MC, G8, Kn, BQ]
 ·obtain ⟨F, _, rfl⟩ := h
  rw [A6, Ci] at n
  exact q a σ'' n.at_ (F.trans n.fr)
end
end
structure CZ (σ : Aa) (f cl : Addr) (cs : List Int) (k : Nat) : Prop where
 at_ : σ f = some (.dictS [("cells", .ref cl), ("spot", .int (k : Nat))])
 cells : σ cl = some (.list (cs.map .int))
 len : cs.length <= 64
 k : k <= 100000
noncomputable def HO : List D := [.tup [.str "f", .int 1], .tup [.str "f", .int 2], .tup [.str "g", .int 2]]
section
variable {c : Cx} {A : Around} {σ σ' : Aa} {f cl : Addr} {cs : List Int} {k : Nat} {Q : D -> Aa -> Prop}
theorem CZ.keep (F : CZ σ f cl cs k) (h : Fr σ σ' []) : CZ σ' f cl cs k := by iterate 1
 exact ⟨h.at0 F.at_, h.at0 F.cells, F.len, F.k⟩
theorem C.itS (h : σ a = some (.dictS es)) (hd : AN es x = some d) (q : Q d σ) : IT c A (.ref a) (.str x) σ Q := IT.dict dkS h hd q
theorem VX (a b : D) : AN [(("cells" : Str), a), ("spot", b)] "cells" = some a := rfl
theorem VY (a b : D) : AN [(("cells" : Str), a), ("spot", b)] "spot" = some b := rfl
theorem VZ (a b d : D) : Bb [(("cells" : Str), a), (("spot" : Str), b)] ("spot" : Str) d = [(("cells" : Str), a), (("spot" : Str), d)] := rfl
theorem MS (O : Ok c) (R : Af A 1) (q : ∀ l σ', New σ σ' l (.list HO) -> Q (.ref l) σ') : Ac c A (.ref 441) [] σ Q := d441 O R fun A R l σ' n => q l σ' n
theorem V0 (hw : 0 < w) : ∃ v : Nat, v < w /\ i % (w : Int) = (v : Nat) := by
 have h0 : (0 : Int) < w := by omega
 have h1 := Int.emod_nonneg i (Int.ne_of_gt h0)
 have h2 := Int.emod_lt_of_pos i h0
 exact ⟨(i % (w : Int)).toNat, by omega, by omega⟩
theorem Ko {a : Int} {b : Nat} (h : b <= 100000) : IntMulOk a (b : Int) := by iterate 1
 exact IntMulOk.of_right (intBits_le_64 (by omega) (by omega))
theorem HP {w : Nat} (O : Ok c) (R : Af A 1) (F : CZ σ f cl cs k) (hw : 0 < w) (hk : k < 100000) (q : ∀ v σ', v < w -> CZ σ' f cl cs (k + 1) -> Fr σ σ' [f] -> Q (.int (v : Nat)) σ') : Ac c A (.ref 448) [.ref f, .int (w : Nat)] σ Q := by iterate 1
 refine d448 O R fun A R => ?_
 have nf : cl ≠ f := DS F.cells F.at_ MO.noConfusion
 refine C.itS F.at_ (VX _ _) (C.itS F.at_ (VY _ _) ?_)
 refine BOP.HA (b := 1) ?_
 refine C.setS F.at_ (by decide : 2 <= 1000000) fun σ1 u1 => ?_
 rw [VZ] at u1
 have c1 := u1.keep nf F.cells
 have F1 : CZ σ1 f cl cs (k + 1) := ⟨u1.at_, c1, F.len, hk⟩
 have cz : (cs.map D.int).length <= 1000000 := by rw [Am]; exact Ap F.len (by decide)
 apply Ac.Cf c1 cz
 rw [Am]
 have fin : ∀ i : Int, Q (.int (i % (w : Int))) σ1 := fun i => by
  obtain ⟨v, h1, h2⟩ := V0 (i := i) hw
  rw [h2]; exact q v σ1 h1 F1 u1.fr
 refine CMP.ltN (fun h => ?_) fun h => ?_
 ·refine IT.at c1 cz (by rw [Bs, Bw h]; rfl) ?_
  apply Ac.int
  exact BOP.KW (by omega) (fin _)
 ·refine BOP.Ir (Ko F.k) (BOP.Ir (Ko F.k) (BOP.Ir (Ko F.k) (BOP.Hl ?_)))
  apply Ac.Cf c1 cz
  rw [Am]
  exact BOP.Ir (Ko (Ap F.len (by decide))) (BOP.Hl (BOP.KW (by decide) (BOP.KW (by omega) (fin _))))
noncomputable def B0 (hm : List Nat) (x : Ao) : Ao := (x.1, x.2.map fun k => hm.getD k k)
theorem MT (O : Ok c) (R : Af A 1) (hh : σ hl = some (.list (An hm))) (hz : hm.length <= 1000) (hk : ∀ k ∈ x.2, k < hm.length) (hx : x.2.length <= 10) (q : ∀ σ', Fr σ σ' [] -> Q (AE (B0 hm x)) σ') : Ac c A (.ref 458) [.ref hl, AE x] σ Q := by iterate 1
 refine d458 O R fun A R => ?_
 have kz : (AU x).length <= 1000000 := by rw [J5]; exact EO (BH hx)
 have xz : x.2.length <= 1000000 := Bz (BH hx)
 refine IT.CV (a := 0) kz rfl ?_
 refine ⟨by rw [A6]; exact BH hx, ?_⟩
 refine Fq (k := fun k : Nat => D.int (k : Nat)) x.2 (fun k => .int (hm.getD k k : Nat)) (fun σ' => Fr σ σ' []) (AH.tup R.handled) (Fr.refl _ _) (fun _ _ => trivial) (fun i k σ' F hi => ?_) fun σ' F a σ'' n => ?_
 ·exact IT.at (F.at0 hh) (by rw [A6]; exact Eb hz) (EM (hk k (AX hi))) (Ea.mk xz hi F)
 ·refine Ac.FR n.at_ (by rw [Am]; exact xz) (BOP.FN (by rw [Am, Dp, GZ]; exact EO (BH hx)) ?_)
  have e : AE (B0 hm x) = .tup ([.str x.1] ++ x.2.map fun k => .int (hm.getD k k : Nat)) := by
   unfold AE AU B0 An
   rw [A2]; rfl
  exact e ▸ q _ (F.trans n.fr)
noncomputable def C0 (hm : List Nat) (a b : Nat) : List Nat := hm.map fun o => if o = hm.getD a a ∨ o = hm.getD b b then min (hm.getD a a) (hm.getD b b) else o
theorem C463 (O : Ok c) (R : Af A 1) (hh : σ hl = some (.list (An hm))) (hz : hm.length <= 1000) (ha : a < hm.length) (hb : b < hm.length) (q : ∀ l σ', σ' l = some (.list (An (C0 hm a b))) -> Fr σ σ' [] -> Q (.ref l) σ') : Ac c A (.ref 463) [.ref hl, .int a, .int b] σ Q := by iterate 1
 refine d463 O R fun A R => ?_
 have lz : (An hm).length <= 1000000 := by rw [A6]; exact Eb hz
 have ia := EM ha
 have ib := EM hb
 apply IT.at hh lz ia
 apply IT.at hh lz ib
 refine Ac.min2 R.handled ?_
 have em : min ((hm.getD a a : Nat) : Int) (hm.getD b b : Nat) = ((min (hm.getD a a) (hm.getD b b) : Nat) : Int) := by omega
 rw [em]
 refine Fq (k := fun k : Nat => D.int (k : Nat)) hm (fun o => .int ((if o = hm.getD a a ∨ o = hm.getD b b then min (hm.getD a a) (hm.getD b b) else o : Nat) : Nat)) (fun σ' => Fr σ σ' []) (AH.list R.handled hh) (Fr.refl _ _) (fun _ F => F.at0 hh) (fun i o σ' F hi => ?_) fun σ' F l σ'' n => ?_
 ·have fin := Ea.mk (g := fun o => D.int ((if o = hm.getD a a ∨ o = hm.getD b b then min (hm.getD a a) (hm.getD b b) else o : Nat) : Nat)) (J := fun σ' => Fr σ σ' []) (Eb hz) hi F
  apply IT.at (F.at0 hh) lz ia
  apply IT.at (F.at0 hh) lz ib
  refine CMP.Sb (ns := [(hm.getD a a : Int), (hm.getD b b : Int)]) ?_
  by_cases e : o = hm.getD a a ∨ o = hm.getD b b
  ·rw [decide_eq_true (by rcases e with e | e <;> rw [e] <;> simp)]
   rw [if_pos e] at fin
   exact fin
  ·rw [decide_eq_false fun h => e ((Ay.mp h).imp DT.mp fun h => DT.mp (Ag.mp h))]
   rw [if_neg e] at fin
   exact fin
 ·refine q l σ'' ?_ (F.trans n.fr)
  rw [n.at_]
  unfold C0 An
  rw [A2]; rfl
theorem C.MU (h : σ l = some (.list HO)) (hd : HO[w]? = some d) (q : Q d σ) : IT c A (.ref l) (.int (w : Nat)) σ Q := IT.at h (by decide) hd q
end
theorem FA (h : CX op) : ¬ AP op := fun v => by
 refine h.q ?_
 rcases v with rfl | rfl <;> decide +kernel
noncomputable def bN : Nat -> Nat
 | 0 => 1
 | n + 1 => 8 * (bN n * bN n)
theorem Gp : ∀ n, 1 <= bN n
 | 0 => Az 1
 | n + 1 => Kd (by decide) (Kd (Gp n) (Gp n))
noncomputable def MV : List D := [.tup [.str "?x"], .tup [.str "?x"], .tup [.str "?y"], .tup [.str "a"]]
theorem QM (h : v < 4) : ∃ p, MV[v]? = some (Bm p) /\ Bq (n + 1) p /\ bnd p = 1 := by iterate 1
 have hx : Bq (n + 1) (.node "?x" []) := .var (.inl rfl)
 have hy : Bq (n + 1) (.node "?y" []) := .var (.inr rfl)
 have ha : Bq (n + 1) (.node "a" []) := .op J4 (FA J4) (BC _) fun _ h => (Ar h).elim
 match v, h with
 | 0, _ => exact ⟨_, rfl, hx, rfl⟩
 | 1, _ => exact ⟨_, rfl, hx, rfl⟩
 | 2, _ => exact ⟨_, rfl, hy, rfl⟩
 | 3, _ => exact ⟨_, rfl, ha, rfl⟩
theorem MW (h : w <= 2) : ∃ op kd, HO[w]? = some (.tup [.str op, .int (kd : Nat)]) /\ CX op /\ 1 <= kd /\ kd <= 2 := by iterate 1
 match w, h with
 | 0, _ => exact ⟨_, 1, rfl, Fu, by decide, by decide⟩
 | 1, _ => exact ⟨_, 2, rfl, Fu, by decide, by decide⟩
 | 2, _ => exact ⟨_, 2, rfl, op_g, by decide, by decide⟩
theorem V1 (hb : 1 <= b) (h : ∀ p ∈ ps, bnd p <= b) (hl : ps.length <= 2) : Cb ps <= b * b := by iterate 1
 match ps, hl with
 | [], _ => exact Kd hb hb
 | [p], _ =>
  show bnd p * 1 <= _
  rw [MH]
  exact Ap (h p (.head _)) (QD _ hb)
 | [p, q], _ =>
  show bnd p * (bnd q * 1) <= _
  rw [MH]
  exact MX (h p (.head _)) (h q (.tail _ (.head _)))
theorem QN (h : ∀ p ∈ ps, bnd p <= bN n) (hl : ps.length <= 2) : bnd (.node op ps) <= bN (n + 1) := by iterate 1
 unfold bnd
 split
 ·exact Gp _
 ·exact QA _ (V1 (Gp n) h hl)
theorem FC (h : (Ce n)[i]? = some d) : i < n /\ d = .int (i : Nat) := by iterate 1
 have hi : i < n := by
  have := (AT.mp h).1
  unfold Ce at this
  rwa [Am, D7] at this
 unfold Ce at h
 rw [Bs, Ie hi] at h
 exact ⟨hi, (Cn h).symm⟩
theorem ER (n : Nat) : (Ce n).length = n := by iterate 1 unfold Ce; rw [Am, D7]
theorem Fr.more (F : Fr σ σ' []) : Fr σ σ' [f] := F.wide fun _ h => (Ar h).elim
theorem QO {n way : Nat} {c : Cx} {A : Around} {σ : Aa} {f cl : Addr} {cs : List Int} {k : Nat} {Q : D -> Aa -> Prop} (O : Ok c) (R : Af A (n + 1))
  (ih : ∀ m, n = m + 1 -> ∀ {σ : Aa} {k : Nat} {Q : D -> Aa -> Prop}, CZ σ f cl cs k -> k + 3 ^ (m + 1) <= 100000 -> (∀ p σ' k', Bq (m + 1) p -> bnd p <= bN m -> k' <= k + 3 ^ (m + 1) -> CZ σ' f cl cs k' -> Fr σ σ' [f] -> Q (Bm p) σ') -> Ac c A (.ref 475) [.ref f, .int (m : Nat)] σ Q)
  (F : CZ σ f cl cs k) (hk : k + 2 * 3 ^ n <= 100000) (h0 : 0 < n ∨ 3 <= way) (h7 : way < 7)
  (q : ∀ p σ' k', Bq (n + 1) p -> bnd p <= bN n -> k' <= k + 2 * 3 ^ n -> CZ σ' f cl cs k' -> Fr σ σ' [f] -> Q (Bm p) σ') : t475b c A [some (.ref f), some (.int (n : Nat)), some (.int (way : Nat)), none, none] σ (RQ Q) := by iterate 1
 have hp3 : 1 <= 3 ^ n := Nat.one_le_iff_ne_zero.mpr (Nat.pos_iff_ne_zero.mp (Nat.pow_pos (by decide)))
 refine CMP.gtN (b := 2) (fun h => ?_) fun h => ?_
 ·intro l σ1 n1
  have F1 := F.keep n1.fr
  refine CMP.eqN (b := 4) (fun e => ?_) fun e => ?_
  ·refine HP (w := 4) O (R.le (by omega)) F1 (by decide) (by omega) fun v σ2 hv F2 fr2 => ?_
   obtain ⟨p, h1, h2, h3⟩ := QM (n := n) hv
   have nl : l ≠ f := fun z => by rw [z] at n1; have := n1.no; rw [F.at_] at this; cases this
   refine IT.at (xs := MV) (fr2 l _ (fun z => nl (Ag.mp z)) n1.at_) (by decide) h1 ?_
   exact q p σ2 (k + 1) h2 (h3 ▸ Gp n) (by omega) F2 (n1.fr.more.trans fr2)
  ·have hv : way - 3 < 4 := by omega
   obtain ⟨p, h1, h2, h3⟩ := QM (n := n) hv
   refine BOP.subI ?_
   have e3 : (way : Int) - 3 = ((way - 3 : Nat) : Int) := by omega
   rw [e3]
   refine IT.at (xs := MV) n1.at_ (by decide) h1 ?_
   exact q p σ1 k h2 (h3 ▸ Gp n) (by omega) F1 n1.fr.more
 ·obtain ⟨op, kd, h1, hop, hk1, hk2⟩ := MW h
  obtain ⟨m, rfl⟩ : ∃ m, n = m + 1 := ⟨n - 1, by omega⟩
  refine MS O (R.le (by omega)) fun l σ1 n1 => ?_
  refine C.MU n1.at_ h1 ?_
  refine C.range fun rg t u v σ2 n2 => ?_
  have F2 := (F.keep n1.fr).keep n2.fr
  have f2 := (n1.fr.trans n2.fr).more (f := f)
  have hpow : 3 ^ (m + 1) = 3 * 3 ^ m := by rw [LQ, Nat.mul_comm]
  refine FZ (AH.range R.handled (Bd hk2 (by decide)) n2.at_) (fun i acc σ' => ∃ ps k', acc = Dr ps /\ ps.length = i /\ (∀ p ∈ ps, Bq (m + 1) p /\ bnd p <= bN m) /\ k' <= k + i * 3 ^ (m + 1) /\ CZ σ' f cl cs k' /\ Fr σ σ' [f])
   ⟨[], k, rfl, rfl, fun _ h => (Ar h).elim, FW _ _, F2, f2⟩ (fun _ _ _ _ => trivial) (fun i d acc σ' h hd => ?_) fun acc σ' h a σ3 n3 => ?_
  ·obtain ⟨hi, rfl⟩ := FC hd
   obtain ⟨ps, k', rfl, hl, hps, hk', F', fr'⟩ := h
   refine BOP.J2 (a := m) ?_
   refine ih m rfl F' ?_ fun p σ'' k'' hp hb hk'' F'' fr'' => ⟨?_, ps ++ [p], k'', ?_, ?_, fun p' hp' => ?_, ?_, F'', fr'.trans fr''⟩
   ·have : (i + 1) * 3 ^ (m + 1) <= 2 * 3 ^ (m + 1) := G7 _ (by omega)
    rw [Gk] at this
    omega
   ·rw [Ec, hl]; omega
   ·rw [G6, G6, Bo]; rfl
   ·rw [AD, hl]; rfl
   ·rcases AC.mp hp' with h | h
    ·exact hps p' h
    ·rw [Ag.mp h]; exact ⟨hp, hb⟩
   ·rw [Gk]; omega
  ·obtain ⟨ps, k', rfl, hl, hps, hk', F', fr'⟩ := h
   rw [ER] at hl hk'
   refine Ac.FR n3.at_ (by rw [Ec, hl]; omega) (BOP.FN (by rw [Dp, Ec, hl]; omega) ?_)
   refine q (.node op ps) σ3 k' (.op hop (FA hop) (by rw [hl]; omega) fun p h => (hps p h).1) (QN (fun p h => (hps p h).2) (hl ▸ hk2)) ?_ (F'.keep n3.fr) (fr'.trans n3.fr.more)
   exact Ap hk' (G4 (G7 _ hk2) _)
theorem C475 : ∀ (n : Nat) {c : Cx} {A : Around} {σ : Aa} {f cl : Addr} {cs : List Int} {k : Nat} {Q : D -> Aa -> Prop}, Ok c -> Af A (n + 2) -> CZ σ f cl cs k -> k + 3 ^ (n + 1) <= 100000 ->
  (∀ p σ' k', Bq (n + 1) p -> bnd p <= bN n -> k' <= k + 3 ^ (n + 1) -> CZ σ' f cl cs k' -> Fr σ σ' [f] -> Q (Bm p) σ') -> Ac c A (.ref 475) [.ref f, .int (n : Nat)] σ Q := by iterate 1
 intro n
 induction n with
 | zero =>
  intro c A σ f cl cs k Q O R F hk q
  refine d475 O R fun A R => ?_
  refine CMP.gtN (b := 0) (fun h => absurd h (Ef 0)) fun _ => ?_
  refine HP (w := 4) O (R.le (by decide)) F (by decide) (by omega) fun v σ1 hv F1 fr1 => ?_
  refine BOP.HA (a := 3) ?_
  exact QO (n := 0) (way := 3 + v) O R (fun m e => by cases e) F1 (by omega) (.inr (FW _ _)) (by omega) fun p σ' k' hp hb hk' F' fr' => q p σ' k' hp hb (by omega) F' (fr1.trans fr')
 | succ n ih =>
  intro c A σ f cl cs k Q O R F hk q
  refine d475 O R fun A R => ?_
  have hpow : 3 ^ (n + 1 + 1) = 3 ^ (n + 1) * 3 := LQ ..
  have hp3 : 1 <= 3 ^ (n + 1) := Nat.pow_pos (by decide)
  refine CMP.gtN (b := 0) (fun _ => ?_) fun h => absurd h (by omega)
  refine HP (w := 5) O (R.le (by omega)) F (by decide) (by omega) fun v σ1 hv F1 fr1 => ?_
  refine QO (n := n + 1) (way := v) O R (fun m e => ?_) F1 (by omega) (.inl (Nat.succ_pos n)) (by omega) fun p σ' k' hp hb hk' F' fr' => q p σ' k' hp hb (by omega) F' (fr1.trans fr')
  cases e
  exact fun F hk q => ih O R F hk q
section
open Classical
mutual
noncomputable def AL (kn : List (Ao × Nat)) (T : Tab) : Pat -> Option Nat
 | .node op ks => match T.lookup op with
  | some a => some a
  | none => match BL kn T ks with
   | none => none
   | some as => Ck kn (op, as)
noncomputable def BL (kn : List (Ao × Nat)) (T : Tab) : List Pat -> Option (List Nat)
 | [] => some []
 | p :: ps => match AL kn T p, BL kn T ps with
  | some a, some as => some (a :: as)
  | _, _ => none
end
noncomputable def wI : Option Nat -> Int
 | none => -1
 | some a => (a : Nat)
theorem MY : ∀ {ps : List Pat} {as : List Nat}, BL kn T ps = some as -> ps.map (fun p => wI (AL kn T p)) = as.map fun a : Nat => (a : Int)
 | [], as, h => by simp only [BL] at h; cases h; rfl
 | p :: ps, as, h => by iterate 1
  simp only [BL] at h
  cases h1 : AL kn T p with
  | none => rw [h1] at h; cases h
  | some a =>
   cases h2 : BL kn T ps with
   | none => rw [h1, h2] at h; cases h
   | some bs =>
    rw [h1, h2] at h
    cases h
    rw [AM, AM, h1, MY h2]; rfl
theorem QP : ∀ {ps : List Pat}, BL kn T ps = none -> (-1 : Int) ∈ ps.map fun p => wI (AL kn T p)
 | [], h => by simp only [BL] at h; cases h
 | p :: ps, h => by iterate 1
  simp only [BL] at h
  cases h1 : AL kn T p with
  | none => rw [AM, h1]; exact .head _
  | some a =>
   cases h2 : BL kn T ps with
   | none => exact .tail _ (QP h2)
   | some bs => rw [h1, h2] at h; cases h
theorem QQ (h : BL kn T ps = some as) : as.length = ps.length := by iterate 1
 have := congrArg HN (MY h)
 rw [Am, Am] at this
 exact this.symm
theorem V2 (h : Bq n (.node op ks)) : E1 op = true /\ ks.length <= 10 := by iterate 1
 cases h with
 | var h => exact ⟨ML h, BC _⟩
 | op h _ h2 _ => exact ⟨h.ok, h2⟩
section
variable {c : Cx} {A : Around} {σ σ' : Aa} {Q : D -> Aa -> Prop}
theorem C.inS {Q : Bool -> Aa -> Prop} (h : σ a = some (.dictS es)) (q : Q (AN es x).isSome σ) : CMP c A .In (.str x) (.ref a) σ Q := CMP.inD dkS h q
theorem C.getT {a : Addr} {es : List (List D × D)} {k : List D} {d : D} (hu : A.units + 20 < cLine) (h : σ a = some (.dictT es)) (hk : Al 4 (.tup k) = true) (q : Q ((AN es k).getD d) σ) : Ac c A (.builtin "dict.get") [.ref a, .tup k, d] σ Q := Ac.getT hu h hk q
theorem QR (O : Ok c) (R : Af A (n + 2)) (hp : Bq n (.node op ks)) (ht : σ t = some (.dictS (A7 T))) (hk : σ kd = some (.dictT (Ca kn)))
  (ih : ∀ p ∈ ks, ∀ (σ : Aa) (A : Around) (Q : D -> Aa -> Prop), Af A (n + 1) -> σ t = some (.dictS (A7 T)) -> σ kd = some (.dictT (Ca kn)) -> (∀ σ', Fr σ σ' [] -> Q (.int (wI (AL kn T p))) σ') -> Ac c A (.ref 480) [Bm p, .ref t, .ref kd] σ Q)
  (q : ∀ σ', Fr σ σ' [] -> Q (.int (wI (AL kn T (.node op ks)))) σ') : Ac c A (.ref 480) [Bm (.node op ks), .ref t, .ref kd] σ Q := by iterate 1
 rw [MK]
 obtain ⟨hs, hl⟩ := V2 hp
 refine d480 O R fun A R => ?_
 have hz : (D.str op :: Dr ks).length <= 1000000 := by rw [CE, Ec]; exact EO (BH hl)
 refine IT.CV (a := 0) hz rfl (C.inS ht ?_)
 rw [Kh]
 cases e : T.lookup op with
 | some a =>
  refine IT.CV (a := 0) hz rfl (C.itS ht (by rw [Kh, e]; rfl) ?_)
  have e2 : AL kn T (.node op ks) = some a := by simp only [AL, e]
  rw [e2] at q
  exact q σ (Fr.refl _ _)
 | none =>
  refine ⟨by rw [Ec]; exact BH hl, ?_⟩
  have kz : ks.length <= 1000000 := Bz (BH hl)
  rw [G6] at hz ⊢
  refine Fq (k := Bm) ks (fun p => .int (wI (AL kn T p))) (fun σ' => Fr σ σ' []) (AH.tup R.handled) (Fr.refl _ _) (fun _ _ => trivial) (fun i p σ' F hi => ?_) fun σ1 F1 kl σ2 n2 => ?_
  ·exact ih p (AX hi) σ' A _ R (F.at0 ht) (F.at0 hk) fun σ'' F' => Ea.mk kz hi (F.trans F')
  have F2 := F1.trans n2.fr
  have ei : ks.map (fun p => D.int (wI (AL kn T p))) = (ks.map fun p => wI (AL kn T p)).map .int := by rw [A2]; rfl
  have n2' := n2.at_
  rw [ei] at n2'
  refine CMP.Se n2' ?_
  cases h : BL kn T ks with
  | none =>
   rw [decide_eq_true (QP h)]
   have e2 : AL kn T (.node op ks) = none := by simp only [AL, e, h]
   rw [e2] at q
   exact q σ2 F2
  | some as =>
   have e2 : AL kn T (.node op ks) = Ck kn (op, as) := by simp only [AL, e, h]
   rw [MY h] at n2' ⊢
   rw [decide_eq_false fun m => by
    obtain ⟨a, _, ha⟩ := Av.mp m
    omega]
   apply GM.getT (F2.at0 hk)
   refine IT.CV (a := 0) hz rfl ?_
   have ea : (as.map fun a : Nat => (a : Int)).map D.int = An as := by rw [A2]; rfl
   rw [ea] at n2'
   have al : as.length <= 10 := QQ h ▸ hl
   refine Ac.FR n2' (by rw [A6]; exact Bz (BH al)) (BOP.FN (by rw [Dp, A6, GZ]; exact EO (BH al)) ?_)
   refine C.getT (k := AU (op, as)) (CW R) (F2.at0 hk) (GY (x := (op, as)) hs) ?_
   rw [Ka, <- e2]
   have q := q σ2 F2
   cases h3 : AL kn T (.node op ks) with
   | none => rw [h3] at q; exact q
   | some a => rw [h3] at q; exact q
end
theorem C480 : ∀ (n : Nat) {c : Cx} {A : Around} {σ : Aa} {p : Pat} {T : Tab} {kn : List (Ao × Nat)} {t kd : Addr} {Q : D -> Aa -> Prop}, Ok c -> Af A (n + 2) -> Bq n p -> σ t = some (.dictS (A7 T)) -> σ kd = some (.dictT (Ca kn)) ->
  (∀ σ', Fr σ σ' [] -> Q (.int (wI (AL kn T p))) σ') -> Ac c A (.ref 480) [Bm p, .ref t, .ref kd] σ Q := by iterate 1
 intro n
 induction n with
 | zero =>
  intro c A σ p T kn t kd Q O R hp ht hk q
  obtain ⟨op, ks⟩ := p
  exact QR O R hp ht hk (fun p hm => by cases hp; exact (Ar hm).elim) q
 | succ n ih =>
  intro c A σ p T kn t kd Q O R hp ht hk q
  obtain ⟨op, ks⟩ := p
  refine QR O R hp ht hk (fun p hm σ A Q R ht hk q => ?_) q
  cases hp with
  | var _ => exact (Ar hm).elim
  | op _ _ _ h => exact ih O (R.le (Az _)) (h p hm) ht hk q
end
mutual
theorem ES : ∀ (p : Pat) (x : Str), x ∈ nm p -> AP x
 | .node op ks, x, h => by iterate 1
  unfold nm at h
  split at h
  ·rename_i hv; rw [Ag.mp h]; exact hv
  ·exact HQ ks x h
theorem HQ : ∀ (ps : List Pat) (x : Str), x ∈ nms ps -> AP x
 | [], x, h => (Ar h).elim
 | p :: ps, x, h => by iterate 1
  simp only [nms] at h
  rcases AC.mp h with h | h
  ·exact ES p x h
  ·exact HQ ps x h
end
theorem QS (p : Pat) : ∀ ps : List Pat, nms (ps ++ [p]) = nms ps ++ nm p
 | [] => by simp only [GV, nms, BQ]
 | q :: ps => by simp only [GU, nms, QS p ps, Dg]
theorem Hc {l : List Str} (nd : l.Nodup) (h : ∀ x ∈ l, AP x) : l.length <= 2 := by iterate 1
 exact HM (k := [("?x" : Str), ("?y" : Str)]) nd fun x hx => by
  rcases h x hx with e | e
  ·rw [e]; exact .head _
  ·rw [e]; exact .tail _ (.head _)
theorem V3 (h : AP x) : Txt.item x 0 = ("?" : Str) := by iterate 1 rcases h with rfl | rfl <;> decide +kernel
theorem V4 (h : AP x) : 0 < x.length := by iterate 1 rcases h with rfl | rfl <;> decide +kernel
noncomputable def unS : D -> Str
 | .str s => s
 | _ => ""
theorem V5 {l : List D} {fs : List Str} (h : List.Perm l (fs.map .str)) : ∃ l' : List Str, l = l'.map .str /\ List.Perm l' fs := by iterate 1
 refine ⟨l.map unS, ?_, ?_⟩
 ·rw [A2]
  refine ((Cg fun d hd => ?_).trans (G1 l)).symm
  obtain ⟨x, _, rfl⟩ := Av.mp (h.mem_iff.mp hd)
  rfl
 ·have := h.map unS
  rw [A2] at this
  exact this.trans (.of_eq (G1 fs))
theorem MZ {α β : Type} {l : List α} {f : α -> Bool} {g : α -> β} {y : α} (h : l[i]? = some y) : ((l.take (i + 1)).filter f).map g = ((l.take i).filter f).map g ++ if f y = true then [g y] else [] := by iterate 1
 rw [Co, h, Mp, Bo]
 show _ ++ ([y].filter f).map g = _
 rw [GA]
 split <;> rfl
section
variable {c : Cx} {A : Around} {σ σ' : Aa} {Q : D -> Aa -> Prop}
theorem C.V6 (hu : A.units + 60 < cLine) (h : σ a = some (.list (fs.map .str))) (hn : fs.length <= 2) (hv : ∀ x ∈ fs, AP x) (q : ∀ l σ' ns, New σ σ' l (.list (HF D.str ns)) -> List.Perm ns fs -> Q (.ref l) σ') : Ac c A (.builtin "sorted") [.ref a] σ Q := by iterate 1
 exact
  Ac.GK (k := 0) (COL.list h (by rw [Am]; exact Ap hn (by decide))) (fun ds e => by
   subst e
   refine ⟨by rw [Am]; exact Bd hn (by decide), fun _ => ⟨_, .kStrs fun d m => ?_⟩, fun d m => ?_, fun d m e m' => ?_, fun x n => ?_⟩
   ·obtain ⟨x, _, rfl⟩ := Av.mp m; exact ⟨x, rfl⟩
   ·obtain ⟨x, hx, rfl⟩ := Av.mp m; exact ML (hv x hx)
   ·obtain ⟨x, hx, rfl⟩ := Av.mp m
    obtain ⟨y, hy, rfl⟩ := Av.mp m'
    rfl
   ·obtain ⟨ns, e, p⟩ := V5 (Di (fs.map .str))
    exact q x _ ns (e ▸ New.set _ n) p) (Bd (G4 (by decide : 20 <= 60) _) hu)
theorem QT (O : Ok c) (R : Af A (n + 2)) (hp : Bq n (.node op ks))
  (ih : ∀ p ∈ ks, ∀ (σ : Aa) (A : Around) (Q : D -> Aa -> Prop), Af A (n + 1) -> (∀ l σ' ns, ns.Nodup -> (∀ x, x ∈ ns ↔ x ∈ nm p) -> σ' l = some (.list (HF D.str ns)) -> Fr σ σ' [] -> Q (.ref l) σ') -> Ac c A (.ref 485) [Bm p] σ Q)
  (q : ∀ l σ' ns, ns.Nodup -> (∀ x, x ∈ ns ↔ x ∈ nm (.node op ks)) -> σ' l = some (.list (HF D.str ns)) -> Fr σ σ' [] -> Q (.ref l) σ') : Ac c A (.ref 485) [Bm (.node op ks)] σ Q := by iterate 1
 rw [MK]
 refine d485 O R fun A R => ?_
 cases hp with
 | var hv =>
  refine IT.CV (a := 0) (DR rfl) rfl ?_
  refine IT.str (Int.le_refl 0) (Fs.mpr (V4 hv)) (QE hv) ?_
  rw [V3 hv]
  refine CMP.eqS1 ?_
  refine IT.CV (a := 0) (DR rfl) rfl ?_
  intro l σ1 n1
  refine q l σ1 [op] (El ..) (fun x => ?_) n1.at_ n1.fr
  unfold nm
  rw [if_pos hv]
 | @op n _ _ hop hnv hl hks =>
  have hz : (D.str op :: Dr ks).length <= 1000000 := by rw [CE, Ec]; exact EO (BH hl)
  refine IT.CV (a := 0) hz rfl ?_
  refine IT.str (Int.le_refl 0) (Fs.mpr hop.l.1) (Mt hop.l.2) ?_
  refine CMP.Ms hop.q ?_
  intro fl σ1 n1
  refine ⟨by rw [Ec]; exact BH hl, Dq (AH.tup R.handled) (fun x : Addr × Option D => [some (.tup (.str op :: Dr ks)), some (.ref x.1), x.2]) (fun i x σ' => Fr σ σ' [] /\ ∃ fs, σ' x.1 = some (.list (HF D.str fs)) /\ fs.Nodup /\ ∀ y, y ∈ fs ↔ y ∈ nms (ks.take i))
   (fl, Dw) rfl ⟨n1.fr, [], n1.at_, Cw, fun y => Iff.rfl⟩ (fun _ _ _ _ => trivial) (fun i d x σ' h hd => ?_) fun x σ' h => ?_⟩
  ·obtain ⟨p, hp1, rfl⟩ := Qw hd
   obtain ⟨F, fs, hf, nd, hm⟩ := h
   have hfv : ∀ y ∈ fs, AP y := fun y hy => HQ _ y ((hm y).mp hy)
   have hf2 := Hc nd hfv
   refine ih p (AX hp1) σ' A _ R fun l σ2 ns nd2 hm2 hl2 F2 => ?_
   have hn2 := Hc nd2 fun y hy => ES p y ((hm2 y).mp hy)
   refine FZ (AH.list R.handled hl2) (fun j acc σ3 => Fr σ2 σ3 [] /\ acc = ((ns.take j).filter fun y => !decide (y ∈ fs)).map .str) ⟨Fr.refl _ _, rfl⟩ (fun j acc σ3 h => h.1.at0 hl2) (fun j d acc σ3 h hd => ?_) fun acc σ3 h cl σ4 n4 => ?_
   ·rw [Bs, Dl] at hd
    obtain ⟨y, hy, rfl⟩ := hd
    obtain ⟨F3, rfl⟩ := h
    refine CMP.Sf ((F2.trans F3).at0 hf) ?_
    have e := MZ (f := fun y => !decide (y ∈ fs)) (g := D.str) hy
    by_cases hyf : y ∈ fs
    ·rw [decide_eq_true hyf]
     refine ⟨F3, ?_⟩
     rw [e, if_neg (by rw [decide_eq_true hyf]; exact Cu), BQ]
    ·rw [decide_eq_false hyf]
     refine ⟨?_, F3, ?_⟩
     ·rw [Am]
      exact Ap (Ga ..) (Ap (by rw [C7]; exact Fp _ _) (Ap hn2 (by decide)))
     ·rw [e, if_pos (by rw [decide_eq_false hyf]; rfl)]
   ·obtain ⟨F3, rfl⟩ := h
    rw [Am, Ci] at n4
    have F4 := F2.trans (F3.trans n4.fr)
    refine C.addL (F4.at0 hf) n4.at_ (by
     rw [Am, Am]
     exact Ap (GT hf2 (Ap (Ga ..) hn2)) (by decide)) fun gl σ5 n5 => ?_
    rw [<- Bo] at n5
    refine ⟨(gl, some (Bm p)), rfl, F.trans (F4.trans n5.fr), _, n5.at_, ?_, fun y => ?_⟩
    ·refine Bf.mpr ⟨nd, nd2.filter _, fun a ha b hb e => ?_⟩
     have := (Ch.mp hb).2
     rw [decide_eq_true (e ▸ ha)] at this; cases this
    ·have e : ks.take (i + 1) = ks.take i ++ [p] := by rw [Co, hp1]; rfl
     rw [e, QS, AC, AC, Ch, <- hm, <- hm2]
     refine ⟨fun h => h.imp id And.left, fun h => ?_⟩
     by_cases hy : y ∈ fs
     ·exact .inl hy
     ·exact h.imp id fun h => ⟨h, by rw [decide_eq_false hy]; rfl⟩
  ·obtain ⟨F, fs, hf, nd, hm⟩ := h
   rw [Ec, Ci] at hm
   refine C.V6 (Gh R) hf (Hc nd fun y hy => HQ _ y ((hm y).mp hy)) (fun y hy => HQ _ y ((hm y).mp hy)) fun l σ2 ns n2 p => ?_
   refine q l σ2 ns (p.nodup_iff.mpr nd) (fun x => ?_) n2.at_ (F.trans n2.fr)
   unfold nm
   rw [if_neg hnv, p.mem_iff, hm]
end
theorem C485 : ∀ (n : Nat) {c : Cx} {A : Around} {σ : Aa} {p : Pat} {Q : D -> Aa -> Prop}, Ok c -> Af A (n + 2) -> Bq n p ->
  (∀ l σ' ns, ns.Nodup -> (∀ x, x ∈ ns ↔ x ∈ nm p) -> σ' l = some (.list (HF D.str ns)) -> Fr σ σ' [] -> Q (.ref l) σ') -> Ac c A (.ref 485) [Bm p] σ Q := by iterate 1
 intro n
 induction n with
 | zero =>
  intro c A σ p Q O R hp q
  obtain ⟨op, ks⟩ := p
  exact QT O R hp (fun p hm => by cases hp; exact (Ar hm).elim) q
 | succ n ih =>
  intro c A σ p Q O R hp q
  obtain ⟨op, ks⟩ := p
  refine QT O R hp (fun p hm σ A Q R q => ?_) q
  cases hp with
  | var _ => exact (Ar hm).elim
  | op _ _ _ h => exact ih O (R.le (Az _)) (h p hm) q
noncomputable def CI (hs : List Nat) (ts : List Tab) (x : Str) : List Tab := ts.flatMap fun t => hs.map fun a => t ++ [(x, a)]
noncomputable def Ds (hs : List Nat) (ns : List Str) : List Tab := ns.foldl (CI hs) [[]]
theorem QU (hs : List Nat) : ∀ (ns : List Str) (ts : List Tab) (ks : List Str), (∀ t ∈ ts, t.map (·.1) = ks) -> ∀ t ∈ ns.foldl (CI hs) ts, t.map (·.1) = ks ++ ns
 | [], ts, ks, h, t, ht => by rw [BQ]; exact h t ht
 | x :: ns, ts, ks, h, t, ht => by iterate 1
  rw [QU hs ns (CI hs ts x) (ks ++ [x]) (fun t ht => ?_) t ht, Dg]; rfl
  obtain ⟨t', h1, h2⟩ := Dc.mp ht
  obtain ⟨a, _, rfl⟩ := Av.mp h2
  rw [Bo, h t' h1]; rfl
theorem Hd (h : t ∈ Ds hs ns) : t.map (·.1) = ns := by iterate 1
 exact QU hs ns [[]] [] (fun t h => by rw [Ag.mp h]; rfl) t h
theorem Gq (hs : List Nat) (ts : List Tab) (x : Str) : (CI hs ts x).length = ts.length * hs.length := by iterate 1
 unfold CI
 induction ts with
 | nil => rw [Kn, List.length_nil, Nat.zero_mul]
 | cons t ts ih => rw [G8, AD, Am, ih, CE, Gk, GZ]
theorem QV (h8 : hs.length <= 8) : ∀ {ns : List Str}, ns.length <= 2 -> (Ds hs ns).length <= 64
 | [], _ => DR rfl
 | [x], _ => by iterate 1
  show (CI hs [[]] x).length <= 64
  rw [Gq]; show 1 * hs.length <= 64; omega
 | [x, y], _ => by iterate 1
  show (CI hs (CI hs [[]] x) y).length <= 64
  rw [Gq, Gq]
  show 1 * hs.length * hs.length <= 64
  rw [My]
  exact Ap (MX h8 h8) (by decide)
theorem Ex (nd : ns.Nodup) (hv : ∀ x ∈ ns, AP x) (h : t ∈ Ds hs ns) : A1 t := by
 have e := Hd h
 exact ⟨e ▸ nd, fun p hp => hv p.1 (e ▸ AS (f := (·.1)) hp)⟩
theorem QW : ∀ (ps : List (Str × D)) (es : List (Str × D)), (ps.map (·.1)).Nodup -> (∀ p ∈ ps, ∀ e ∈ es, e.1 ≠ p.1) -> EH es ps = es ++ ps
 | [], es, _, _ => (BQ es).symm
 | (k, d) :: ps, es, nd, h => by iterate 1
  rw [AM, BE] at nd
  have e1 : Bb es k d = es ++ [(k, d)] := by
   unfold Bb
   rw [if_neg]
   intro q
   obtain ⟨e, he, hq⟩ := Er.mp q
   exact h (k, d) (.head _) e he (of_decide_eq_true hq)
  show EH (Bb es k d) ps = _
  rw [e1, QW ps _ nd.2 fun p hp e he => ?_, Dg]; rfl
  rcases AC.mp he with he | he
  ·exact h p (.tail _ hp) e he
  ·rw [Ag.mp he]
   exact fun q => nd.1 (q ▸ AS (f := (·.1)) hp)
theorem V7 (nd : (t.map (·.1)).Nodup) : EH [] (A7 t) = A7 t := by iterate 1
 exact
  QW (A7 t) [] (by unfold A7; rw [A2]; exact nd) fun _ _ e h => (Ar h).elim
noncomputable def EU (kn : List (Ao × Nat)) (p : Pat) (T : Tab) : D := .tup [.int (wI (AL kn T p)), .tup (A3 T)]
noncomputable def CJ (kn : List (Ao × Nat)) (hs : List Nat) (ns : List Str) (p : Pat) : List D := ((Ds hs ns).filter fun T => (AL kn T p).isSome).map (EU kn p)
theorem wI_ge (o : Option Nat) : decide (wI o ≥ 0) = o.isSome := by
 cases o with
 | none => rfl
 | some a => exact decide_eq_true (J1 a)
section
variable {c : Cx} {A : Around} {σ σ' : Aa} {Q : D -> Aa -> Prop}
theorem V8 {ps : List (Addr × Tab)} {hs : List Nat} {x : Addr × Tab} (h : ps[i]? = some x) : ((ps.take (i + 1)).map (·.2)) = (ps.take i).map (·.2) ++ [x.2] := by iterate 1
 rw [Co, h, Bo]; rfl
theorem C490 (O : Ok c) (R : Af A (n + 3)) (hp : Bq n p) (hh : σ hl = some (.list (An hm))) (hz : hm.length <= 8) (hk : σ kd = some (.dictT (Ca kn)))
  (h64 : ∀ ns : List Str, ns.Nodup -> (∀ x, x ∈ ns ↔ x ∈ nm p) -> (CJ kn (AJ (AO hm)) ns p).length < 64)
  (q : ∀ l σ' ns, ns.Nodup -> (∀ x, x ∈ ns ↔ x ∈ nm p) -> σ' l = some (.list (B9 (CJ kn (AJ (AO hm)) ns p))) -> Fr σ σ' [] -> Q (.ref l) σ') : Ac c A (.ref 490) [Bm p, .ref hl, .ref kd] σ Q := by iterate 1
 refine d490 O R fun A R => ?_
 refine C.setInts R.handled hh (Ap hz (by decide)) fun s σ1 ds n1 hperm => ?_
 have hdl : (AO hm).length <= 8 := Ap (G3 _) hz
 refine Ac.P0 R.handled n1.at_ hperm (Bd hdl (by decide)) (CW R) fun sl σ2 n2 => ?_
 have hsl : (AJ (AO hm)).length <= 8 := by rw [(DU _).length_eq]; exact hdl
 refine ⟨.dictS [], .inl rfl, fun t0 σ3 n3 => ?_⟩
 intro tl σ4 n4
 have F4 : Fr σ σ4 [] := n1.fr.trans (n2.fr.trans (n3.fr.trans n4.fr))
 refine C485 n O (R.le (Az _)) hp fun nl σ5 ns nd hmem hnl F5 => ?_
 have hv : ∀ x ∈ ns, AP x := fun x hx => ES p x ((hmem x).mp hx)
 have hn2 := Hc nd hv
 have hsl5 : σ5 sl = some (.list (An (AJ (AO hm)))) := F5.at0 (n4.keep (n3.keep n2.at_))
 have tl5 : σ5 tl = some (.list [.ref t0]) := F5.at0 n4.at_
 have t05 : σ5 t0 = some (.dictS (A7 [])) := F5.at0 (n4.keep n3.at_)
 refine Dq (AH.list R.handled hnl) (fun x : Addr × Option D => [some (Bm p), some (.ref hl), some (.ref kd), some (.ref sl), some (.ref x.1), x.2, none])
  (fun i x σ' => Fr σ5 σ' [] /\ ∃ ps, σ' x.1 = some (.list (CY ps)) /\ ps.map (·.2) = Ds (AJ (AO hm)) (ns.take i) /\ ∀ z ∈ ps, σ' z.1 = some (.dictS (A7 z.2)))
  (tl, none) rfl ⟨Fr.refl _ _, [(t0, [])], tl5, rfl, fun z h => by rw [Ag.mp h]; exact t05⟩ (fun i x σ' h => h.1.at0 hnl) (fun i d x σ' h hd => ?_) fun x σ' h => ?_
 ·rw [Bs, Dl] at hd
  obtain ⟨y, hy, rfl⟩ := hd
  obtain ⟨F, ps, hps, hall, hat⟩ := h
  have hpl : ps.length <= 64 := by
   have := congrArg HN hall
   rw [Am] at this
   rw [this]
   exact QV hsl (by rw [C7]; exact Ap (Fp _ _) hn2)
  have etake : ns.take (i + 1) = ns.take i ++ [y] := by rw [Co, hy]; rfl
  have hlim : ∀ j, j <= ps.length -> j * (AJ (AO hm)).length + 8 <= 1000000 := fun j hj => Ap (Nat.add_le_add_right (MX (Ap hj hpl) hsl) 8) (by decide)
  refine Ml (AH.list R.handled hps) (fun j acc σ6 => Fr σ' σ6 [] /\ ∃ ws : List (Addr × Tab), acc = CY ws /\ ws.map (·.2) = CI (AJ (AO hm)) ((ps.take j).map (·.2)) y /\ ∀ z ∈ ws, σ6 z.1 = some (.dictS (A7 z.2)))
   ⟨Fr.refl _ _, [], rfl, rfl, fun z h => (Ar h).elim⟩ (fun j acc σ6 h => h.1.at0 hps) (fun j d acc σ6 h hd => ?_) fun acc σ6 h gl σ7 n7 => ?_
  ·obtain ⟨z, hz', rfl⟩ := Kk hd
   have hj : j < ps.length := (AT.mp hz').1
   obtain ⟨F6, ws, rfl, hws, hwat⟩ := h
   have hzm := AX hz'
   have hzT : z.2 ∈ Ds (AJ (AO hm)) (ns.take i) := hall ▸ AS (f := fun z : Addr × Tab => z.2) hzm
   have hTok := Ex (nd.sublist (List.take_sublist i ns)) (fun x hx => hv x (V9 hx)) hzT
   have hyT : y ∉ z.2.map (·.1) := by
    rw [Hd hzT]
    intro q
    have := nd
    rw [<- R1 (i + 1) ns, etake] at this
    have := (Bf.mp this).1
    exact (Bf.mp this).2.2 y q y (.head _) rfl
   have hsl6 := F6.at0 (F.at0 hsl5)
   have hwl : ws.length = j * (AJ (AO hm)).length := by
    have := congrArg HN hws
    rw [Am, Gq, Am, C7, Ft (Bz hj)] at this
    exact this
   refine Mm (AH.list R.handled hsl6) (fun k acc σ8 => Fr σ6 σ8 [] /\ ∃ vs : List (Addr × Tab), acc = CY (ws ++ vs) /\ vs.map (·.2) = ((AJ (AO hm)).take k).map (fun a => z.2 ++ [(y, a)]) /\ ∀ u ∈ vs, σ8 u.1 = some (.dictS (A7 u.2)))
    ⟨Fr.refl _ _, [], by rw [BQ], rfl, fun z h => (Ar h).elim⟩ (fun k acc σ8 h => h.1.at0 hsl6) (fun k e acc σ8 h he => ?_) fun acc σ8 h => ?_
   ·obtain ⟨a, ha, rfl⟩ : ∃ a, (AJ (AO hm))[k]? = some a /\ e = .int (a : Nat) := by
     unfold An at he
     rw [Bs, Dl] at he
     obtain ⟨a, h1, h2⟩ := he
     exact ⟨a, h1, h2.symm⟩
    obtain ⟨F8, vs, rfl, hvs, hvat⟩ := h
    have hz8 := F8.at0 (F6.at0 (hat z hzm))
    have tz : (A7 z.2).length <= 2 := Ki hTok
    have tz' : (A7 z.2).length <= 1000000 := Ap tz (by decide)
    apply GM.items hz8
    refine C.items hz8 fun iv σa na => ?_
    refine C.listItems R.handled (na.keep hz8) na.at_ tz' fun li σb nb => ?_
    intro l1 σc nc
    refine C.addL (nc.keep nb.at_) nc.at_ (by unfold BW; rw [Am]; exact Ap (Nat.add_le_add_right tz _) (DR rfl)) fun l2 σd nd' => ?_
    have ep : BW (A7 z.2) ++ [.tup [.str y, .int (a : Nat)]] = BW (A7 (z.2 ++ [(y, a)])) := by unfold BW A7; rw [Bo, Bo]; rfl
    rw [ep] at nd'
    have nk : ((z.2 ++ [(y, a)]).map (·.1)).Nodup := by
     rw [Bo]
     exact Bf.mpr ⟨hTok.nd, El .., fun u hu w hw e => hyT (by have e' : w = y := Ag.mp hw; rw [<- e', <- e]; exact hu)⟩
    refine C.dictPairs R.handled nd'.at_ (by unfold A7; rw [Am, AD]; have := hTok.len; show z.2.length + 1 <= 1000; omega) fun dl σe ne => ?_
    rw [V7 nk] at ne
    have Fe : Fr σ8 σe [] := na.fr.trans (nb.fr.trans (nc.fr.trans (nd'.fr.trans ne.fr)))
    refine ⟨?_, F8.trans Fe, vs ++ [(dl, z.2 ++ [(y, a)])], by rw [<- Dg]; exact MI (ws ++ vs) [(dl, z.2 ++ [(y, a)])], ?_, fun u hu => ?_⟩
    ·rw [Am, AD, hwl]
     have h1 := congrArg HN hvs
     rw [Am, Am, C7] at h1
     have h2 := hlim j (Bz hj)
     have h3 : min k (AJ (AO hm)).length <= 8 := Ap (Fp _ _) hsl
     omega
    ·rw [Bo, hvs, Co, ha, Bo]; rfl
    ·rcases AC.mp hu with hu | hu
     ·exact Fe.at0 (hvat u hu)
     ·rw [Ag.mp hu]; exact ne.at_
   ·obtain ⟨F8, vs, rfl, hvs, hvat⟩ := h
    rw [A6, Ci] at hvs
    refine ⟨F6.trans F8, ws ++ vs, rfl, ?_, fun u hu => ?_⟩
    ·rw [Bo, hws, hvs, V8 (hs := hm) hz']
     unfold CI
     rw [Km, G8, Kn, BQ]
    ·rcases AC.mp hu with hu | hu
     ·exact F8.at0 (hwat u hu)
     ·exact hvat u hu
  ·obtain ⟨F6, ws, rfl, hws, hwat⟩ := h
   rw [Am, Ci] at hws
   refine ⟨(gl, some (.str y)), rfl, F.trans (F6.trans n7.fr), ws, n7.at_, ?_, fun u hu => n7.keep (hwat u hu)⟩
   rw [etake, hws, hall]
   show _ = (ns.take i ++ [y]).foldl _ _
   rw [List.foldl_append]; rfl
 ·obtain ⟨F, ps, hps, hall, hat⟩ := h
  rw [Am, Ci] at hall
  have hpl : ps.length <= 64 := by
   have := congrArg HN hall
   rw [Am] at this
   rw [this]
   exact QV hsl hn2
  have hpz : ps.length <= 1000000 := Ap hpl (by decide)
  have F5' := F4.trans F5
  refine Fq (k := fun z : Addr × Tab => D.ref z.1) ps (fun z => EU kn p z.2) (fun σ6 => Fr σ' σ6 []) (AH.list R.handled hps) (Fr.refl _ _) (fun _ F => F.at0 hps) (fun i z σ6 F6 hi => ?_) fun σ6 F6 fl σ7 n7 => ?_
  ·have hzm := AX hi
   have hz6 := F6.at0 (hat z hzm)
   have hTok := Ex nd hv (hall ▸ AS (f := fun z : Addr × Tab => z.2) hzm)
   refine C480 n O R hp hz6 (F6.at0 (F.at0 (F5'.at0 hk))) fun σ8 F8 => ?_
   apply GM.items (F8.at0 hz6)
   refine C.items (F8.at0 hz6) fun iv σ9 n9 => ?_
   refine C.QK R.handled (Gh R) (n9.keep (F8.at0 hz6)) n9.at_ hTok fun li σa na => ?_
   apply Ac.FR na.at_ (by rw [MM]; exact Ap hTok.len (by decide))
   exact Ea.mk (x := z) hpz hi (F6.trans (F8.trans (n9.fr.trans na.fr)))
  ·have F7 : Fr σ σ7 [] := F5'.trans (F.trans (F6.trans n7.fr))
   have n7' : σ7 fl = some (.list (ps.map fun z => EU kn p z.2)) := n7.at_
   refine FZ (AH.list R.handled n7') (fun i acc σ8 => Fr σ7 σ8 [] /\ acc = ((ps.take i).filter fun z => (AL kn z.2 p).isSome).map fun z => EU kn p z.2) ⟨Fr.refl _ _, rfl⟩ (fun i acc σ8 h => h.1.at0 n7') (fun i d acc σ8 h hd => ?_) fun acc σ8 h gl σ9 n9 => ?_
   ·rw [Bs, Dl] at hd
    obtain ⟨z, hz', rfl⟩ := hd
    obtain ⟨F8, rfl⟩ := h
    refine IT.CV (a := 0) (DR rfl) rfl (CMP.geI ?_)
    rw [wI_ge]
    have e := MZ (f := fun z : Addr × Tab => (AL kn z.2 p).isSome) (g := fun z => EU kn p z.2) hz'
    cases hw : (AL kn z.2 p).isSome with
    | true =>
     refine ⟨?_, F8, ?_⟩
     ·rw [Am]
      exact Ap (Ga ..) (Ap (by rw [C7]; exact Fp _ _) hpz)
     ·rw [e, if_pos hw]
    | false =>
     refine ⟨F8, ?_⟩
     rw [e, if_neg (by rw [hw]; exact Cu), BQ]
   ·obtain ⟨F8, rfl⟩ := h
    rw [Am, Ci] at n9
    have e9 : (ps.filter fun z => (AL kn z.2 p).isSome).map (fun z => EU kn p z.2) = CJ kn (AJ (AO hm)) ns p := by
     unfold CJ
     rw [<- hall, J7, A2]; rfl
    rw [e9] at n9
    have hform : ∀ d ∈ CJ kn (AJ (AO hm)) ns p, ∃ a T, A1 T /\ d = .tup [.int a, .tup (A3 T)] := fun d hd => by
     obtain ⟨T, hT, rfl⟩ := Av.mp hd
     exact ⟨_, T, Ex nd hv (Ch.mp hT).1, rfl⟩
    refine Ac.GK (k := 4) (COL.list n9.at_ (Ap (Bz (h64 ns nd hmem)) (by decide))) (fun ds e => ?_) (Bd (G4 (by decide : 24 <= 60) _) (Gh R))
    subst e
    refine ⟨h64 ns nd hmem, fun _ => ⟨_, .tupI fun d m => ?_⟩, fun d m => ?_, fun d m e m' => ?_, fun l hl => q l _ ns nd hmem (Aa.DZ ..) (F7.trans (F8.trans (n9.fr.trans (New.set _ hl).fr)))⟩
    ·obtain ⟨a, T, _, rfl⟩ := hform d m; exact ⟨_, _, rfl⟩
    ·obtain ⟨a, T, hT, rfl⟩ := hform d m
     show (Al 4 (.int a) && (Al 4 (.tup (A3 T)) && true)) = true
     rw [Hb hT]; rfl
    ·obtain ⟨a, T, hT, rfl⟩ := hform d m
     obtain ⟨b, T', hT', rfl⟩ := hform e m'
     show (like (.int a) (.int b) && (Dh (A3 T) (A3 T') && true)) = true
     rw [MN (fun d h => let ⟨x, b, e, _⟩ := Gm hT h; ⟨x, b, e⟩) fun d h => let ⟨x, b, e, _⟩ := Gm hT' h; ⟨x, b, e⟩]; rfl
end
noncomputable def FD (p : Nat × Nat) : D := .tup [.int (p.1 : Nat), .int (p.2 : Nat)]
inductive CK (ns : List Ao) (ps : List (Nat × Nat)) : List Nat -> Prop
 | zero : CK ns ps (Bn ns.length)
 | told {hm : List Nat} {a b : Nat} : CK ns ps hm -> (a, b) ∈ ps -> a < ns.length -> b < ns.length -> CK ns ps (C0 hm a b)
 | like {hm : List Nat} {a b : Nat} {x y : Ao} : CK ns ps hm -> ns[a]? = some x -> ns[b]? = some y -> B0 hm x = B0 hm y -> CK ns ps (C0 hm a b)
noncomputable def EW (hm : List Nat) (ps : List (Nat × Nat)) : Prop := ∀ p ∈ ps, hm.getD p.1 p.1 = hm.getD p.2 p.2
noncomputable def Cl (ns : List Ao) (hm : List Nat) (a b : Nat) : Prop := ∀ x y, ns[a]? = some x -> ns[b]? = some y -> B0 hm x = B0 hm y -> hm.getD a a = hm.getD b b
noncomputable def FE (ns : List Ao) (hm : List Nat) (n : Nat) : Prop := ∀ a, a < n -> ∀ b, b < a -> Cl ns hm a b
theorem M1 (hm : List Nat) (a b : Nat) : (C0 hm a b).length = hm.length := Am ..
theorem He (h : i < hm.length) : (C0 hm a b).getD i i = if hm.getD i i = hm.getD a a ∨ hm.getD i i = hm.getD b b then min (hm.getD a a) (hm.getD b b) else hm.getD i i := by iterate 1
 unfold C0
 rw [Bt, Bs, Bw h]
 have : hm.getD i i = hm[i] := by rw [Bt, Bw h]; rfl
 rw [this]; rfl
theorem QY (hi : i < hm.length) (hj : j < hm.length) (h : hm.getD i i = hm.getD j j) : (C0 hm a b).getD i i = (C0 hm a b).getD j j := by
 rw [He hi, He hj, h]
theorem Wa (ha : a < hm.length) (hb : b < hm.length) : (C0 hm a b).getD a a = (C0 hm a b).getD b b := by iterate 1
 rw [He ha, He hb, if_pos (.inl rfl), if_pos (.inr rfl)]
theorem CK.len (h : CK ns ps hm) : hm.length = ns.length := by iterate 1
 induction h with
 | zero => exact D7
 | told _ _ _ _ ih => rw [M1, ih]
 | like _ _ _ _ ih => rw [M1, ih]
theorem EW.keep (h : EW hm ps) (hl : hm.length = n) (hps : ∀ p ∈ ps, p.1 < n /\ p.2 < n) : EW (C0 hm a b) ps := by iterate 1
 exact fun p hp => QY (hl ▸ (hps p hp).1) (hl ▸ (hps p hp).2) (h p hp)
theorem QZ {f : Nat -> Nat} (h : ∀ o, f o <= o) : ∀ l : List Nat, (l.map f).sum <= l.sum
 | [] => Az _
 | a :: l => by iterate 1 rw [AM, Fv, Fv]; exact GT (h a) (QZ h l)
theorem M3 {f : Nat -> Nat} (h : ∀ o, f o <= o) (hy : f y < y) : ∀ l : List Nat, y ∈ l -> (l.map f).sum < l.sum
 | a :: l, hm => by iterate 1
  rw [AM, Fv, Fv]
  rcases Ay.mp hm with e | hm
  ·exact e ▸ Nat.add_lt_add_of_lt_of_le hy (QZ h l)
  ·exact Nat.add_lt_add_of_le_of_lt (h a) (M3 h hy l hm)
theorem M5 {hm : List Nat} (h : i < hm.length) : hm.getD i i ∈ hm := by iterate 1
 rw [Bt, Bw h]
 exact GJ h
theorem Wb (ha : a < hm.length) (hb : b < hm.length) (hne : hm.getD a a ≠ hm.getD b b) : (C0 hm a b).sum < hm.sum := by iterate 1
 have hle : ∀ o, (if o = hm.getD a a ∨ o = hm.getD b b then min (hm.getD a a) (hm.getD b b) else o) <= o := fun o => by
  split
  ·rename_i h
   rcases h with h | h
   ·rw [h]; exact GG _ _
   ·rw [h]; exact Fp _ _
  ·exact Az _
 rcases Nat.lt_or_gt_of_ne hne with h | h
 ·refine M3 hle (y := hm.getD b b) ?_ hm (M5 hb)
  rw [if_pos (.inr rfl), Ft (Bz h)]; exact h
 ·refine M3 hle (y := hm.getD a a) ?_ hm (M5 ha)
  rw [if_pos (.inl rfl), F0 (Bz h)]; exact h
theorem Q0 (h : E1 x.1 = true) : Al 5 (.tup (AU x)) = true := by iterate 1
 show (AU x).all (Al 4) = true
 unfold AU
 rw [Im, Cv]
 refine ⟨h, ?_⟩
 rw [D0]
 intro d hd
 obtain ⟨i, _, rfl⟩ := Av.mp hd
 rfl
theorem Wc (n : Nat) : Ce n = An (Bn n) := rfl
structure HSt where
 l : Addr
 hm : List Nat
 fl : Bool
 a : Option D
 b : Option D
noncomputable def HSt.vs (nl pl : Addr) (x : HSt) : VS := [some (.ref nl), some (.ref pl), some (.ref x.l), x.a, x.b, some (.bool x.fl)]
noncomputable def HSt.m (x : HSt) : Nat := x.hm.sum + if x.fl = true then 1 else 0
structure Kp (ns : List Ao) (ps : List (Nat × Nat)) (hm0 : List Nat) (C : Prop) (σ0 σ : Aa) (x : HSt) : Prop where
 F : Fr σ0 σ []
 at_ : σ x.l = some (.list (An x.hm))
 H : CK ns ps x.hm
 T : EW x.hm ps
 f0 : x.fl = false -> x.hm = hm0 /\ C
 f1 : x.fl = true -> x.hm.sum < hm0.sum
structure HS (ns : List Ao) (ps : List (Nat × Nat)) : Prop where
 len : ns.length <= 8
 ok : ∀ x ∈ ns, E1 x.1 = true
 kids : ∀ x ∈ ns, x.2.length <= 10
 lt : ∀ x ∈ ns, ∀ k ∈ x.2, k < ns.length
 ps : ∀ p ∈ ps, p.1 < ns.length /\ p.2 < ns.length
theorem HS.sm {ps : List (Nat × Nat)} (N : HS ns ps) : ns.length <= 1000000 := Ap N.len (by decide)
section
variable {c : Cx} {A : Around} {σ σ' : Aa} {Q : D -> Aa -> Prop}
theorem Q1 {p : Prop} [h : Decidable p] {P : Bool -> Prop} (h1 : p -> P true) (h2 : ¬ p -> P false) : P (decide p) := by
 cases h with
 | isTrue x => exact h1 x
 | isFalse x => exact h2 x
theorem CMP.eqT2 {Q : Bool -> Aa -> Prop} (ha : Al 5 (.tup a) = true) (hb : Al 5 (.tup b) = true) (hu : A.units + 20 < cLine) (h1 : a = b -> Q true σ) (h2 : a ≠ b -> Q false σ) : CMP c A .Eq (.tup a) (.tup b) σ Q := by
 classical
 exact CMP.eqT ha hb hu (Q1 (P := fun b => Q b σ) h1 h2)
theorem C470c {nl pl : Addr} {ns : List Ao} {ps : List (Nat × Nat)} {x : HSt} {hm0 : List Nat} {i j : Nat} {C : Prop} {σ0 : Aa} {QX : AFl -> VS -> Aa -> Prop} (O : Ok c) (R : Af A 1) (N : HS ns ps)
  (hn : σ0 nl = some (.list (ns.map AE))) (hi : i < ns.length) (hj : j < i) (t : Kp ns ps hm0 C σ0 σ x) (ha : x.a = some (.int (i : Nat))) (hb : x.b = some (.int (j : Nat)))
  (q : ∀ y σ', y.a = some (.int (i : Nat)) -> Kp ns ps hm0 (C /\ Cl ns hm0 i j) σ0 σ' y -> QX .next (y.vs nl pl) σ') :
  (T.iff (T.andT (T.tcmp .NotEq (T.sub (T.v 2) (T.v 3)) (T.sub (T.v 2) (T.v 4))) (T.tcmp .Eq (T.call (.ref 458) (T.cons (T.v 2) (T.cons (T.sub (T.v 0) (T.v 3)) T.nil))) (T.call (.ref 458) (T.cons (T.v 2) (T.cons (T.sub (T.v 0) (T.v 4)) T.nil))))) (T.asg2 2 5 (T.tup (T.cons (T.call (.ref 463) (T.cons (T.v 2) (T.cons (T.v 3) (T.cons (T.v 4) T.nil)))) (T.cons (T.bool true) T.nil))) T.fin) T.fin T.fin) c A (x.vs nl pl) σ QX := by iterate 1
 obtain ⟨l, hm, fl, a, b⟩ := x
 cases ha; cases hb
 have hl := t.H.len
 have hz : (An hm).length <= 1000000 := by rw [A6, hl]; exact N.sm
 have hz' : hm.length <= 1000 := by rw [hl]; exact Ap N.len (by decide)
 have hj' := DB hj hi
 have nz : (ns.map AE).length <= 1000000 := by rw [Am]; exact N.sm
 obtain ⟨u, hu⟩ : ∃ u, ns[i]? = some u := ⟨_, Bw hi⟩
 obtain ⟨v, hv⟩ : ∃ v, ns[j]? = some v := ⟨_, Bw hj'⟩
 have same (h : Cl ns hm0 i j) : ∀ σ', Fr σ σ' [] -> QX .next (HSt.vs nl pl ⟨l, hm, fl, some (.int (i : Nat)), some (.int (j : Nat))⟩) σ' := fun σ' F => q ⟨l, hm, fl, _, _⟩ σ' rfl ⟨t.F.trans F, F.at0 t.at_, t.H, t.T, fun e => ⟨(t.f0 e).1, (t.f0 e).2, h⟩, t.f1⟩
 have same' (h : fl = false -> Cl ns hm i j) : ∀ σ', Fr σ σ' [] -> QX .next (HSt.vs nl pl ⟨l, hm, fl, some (.int (i : Nat)), some (.int (j : Nat))⟩) σ' := fun σ' F => q ⟨l, hm, fl, _, _⟩ σ' rfl ⟨t.F.trans F, F.at0 t.at_, t.H, t.T, fun e => ⟨(t.f0 e).1, (t.f0 e).2, (t.f0 e).1 ▸ h e⟩, t.f1⟩
 apply IT.at t.at_ hz (EM (hl ▸ hi))
 apply IT.at t.at_ hz (EM (hl ▸ hj'))
 refine CMP.neN (fun e => ?_) fun ne => ?_
 ·exact same' (fun _ x y _ _ _ => e) σ (Fr.refl _ _)
 ·apply IT.at (t.F.at0 hn) nz (HE hu)
  have um := AX hu
  have vm := AX hv
  refine MT O R t.at_ hz' (fun k hk => hl ▸ N.lt u um k hk) (N.kids u um) fun σ1 F1 => ?_
  apply IT.at (F1.at0 (t.F.at0 hn)) nz (HE hv)
  refine MT O R (F1.at0 t.at_) hz' (fun k hk => hl ▸ N.lt v vm k hk) (N.kids v vm) fun σ2 F2 => ?_
  refine CMP.eqT2 (Q0 (x := B0 hm u) (N.ok u um)) (Q0 (x := B0 hm v) (N.ok v vm)) (CW R) (fun e => ?_) fun e => ?_
  ·refine C463 O R (F2.at0 (F1.at0 t.at_)) hz' (hl ▸ hi) (hl ▸ hj') fun l' σ3 h3 F3 => ?_
   refine q ⟨l', C0 hm i j, true, _, _⟩ σ3 rfl ⟨t.F.trans (F1.trans (F2.trans F3)), h3, .like t.H hu hv (GX e), t.T.keep hl N.ps, fun e => Bool.noConfusion e, fun _ => ?_⟩
   have h4 := Wb (hl ▸ hi) (hl ▸ hj') ne
   cases fl with
   | false => exact (t.f0 rfl).1 ▸ h4
   | true => exact DB h4 (t.f1 rfl)
  ·refine same' (fun _ x y hx hy h => ?_) σ2 (F1.trans F2)
   rw [hu] at hx; rw [hv] at hy; cases hx; cases hy
   exact absurd (congrArg AU h) e
theorem C470 (O : Ok c) (R : Af A 2) (N : HS ns ps) (hn : σ nl = some (.list (ns.map AE))) (hp : σ pl = some (.list (ps.map FD)))
  (q : ∀ l σ' hm, CK ns ps hm -> EW hm ps -> FE ns hm ns.length -> σ' l = some (.list (An hm)) -> Fr σ σ' [] -> Q (.ref l) σ') : Ac c A (.ref 470) [.ref nl, .ref pl] σ Q := by iterate 1
 refine d470 O R fun A R => ?_
 have nz : (ns.map AE).length <= 1000000 := by rw [Am]; exact N.sm
 have nz' : ns.length < 1000000 := Bd N.len (by decide)
 apply Ac.Cf hn nz
 rw [Am]
 refine C.range fun rg t u v σ1 n1 => ?_
 refine C.listRange R.handled n1.at_ N.sm fun hl0 σ2 n2 => ?_
 rw [Wc] at n2
 refine Dq (AH.list R.handled (n2.keep (n1.keep hp))) (fun x : Addr × Option D × Option D => [some (.ref nl), some (.ref pl), some (.ref x.1), x.2.1, x.2.2, none])
  (fun i x σ' => Fr σ σ' [] /\ ∃ hm, σ' x.1 = some (.list (An hm)) /\ CK ns ps hm /\ EW hm (ps.take i)) (hl0, none, none) rfl
  ⟨n1.fr.trans n2.fr, _, n2.at_, .zero, fun p h => (Ar h).elim⟩ (fun i x σ' h => h.1.at0 hp) (fun i d x σ' h hd => ?_) fun x σ' h => ?_
 ·rw [Bs, Dl] at hd
  obtain ⟨⟨a, b⟩, hy, rfl⟩ := hd
  obtain ⟨F, hm, hh, H, T⟩ := h
  have hm1 := AX hy
  have hl := H.len
  have hz' : hm.length <= 1000 := by rw [hl]; exact Ap N.len (by decide)
  have ha := (N.ps _ hm1).1
  have hb := (N.ps _ hm1).2
  refine C463 O R hh hz' (hl ▸ ha) (hl ▸ hb) fun l' σ3 h3 F3 => ?_
  refine ⟨(l', some (.int (a : Nat)), some (.int (b : Nat))), rfl, F.trans F3, _, h3, .told H hm1 ha hb, fun p hp => ?_⟩
  rw [Co, hy] at hp
  rcases AC.mp hp with hp | hp
  ·have := N.ps p (V9 hp)
   exact QY (hl ▸ this.1) (hl ▸ this.2) (T p hp)
  ·rw [Ag.mp hp]
   exact Wa (hl ▸ ha) (hl ▸ hb)
 ·obtain ⟨F, hm, hh, H, T⟩ := h
  rw [Am, Ci] at T
  refine Mj (HSt.vs nl pl) HSt.m (fun x σ' => Fr σ σ' [] /\ σ' x.l = some (.list (An x.hm)) /\ CK ns ps x.hm /\ EW x.hm ps /\ (x.fl = false -> FE ns x.hm ns.length)) ⟨x.1, hm, true, x.2.1, x.2.2⟩ rfl ⟨F, hh, H, T, fun e => by cases e⟩ fun x σ' h => ?_
  obtain ⟨l, hm, fl, a, b⟩ := x
  obtain ⟨F, hh, H, T, hc⟩ := h
  cases fl with
  | false => exact q l σ' hm H T (hc rfl) hh F
  | true =>
   apply Ac.Cf (F.at0 hn) nz
   rw [Am]
   refine C.range fun rg t u v σ3 n3 => ?_
   refine Dq (AH.range R.handled nz' n3.at_) (HSt.vs nl pl) (fun i y σ' => Kp ns ps hm (FE ns hm i) σ σ' y) ⟨l, hm, false, a, b⟩ rfl
    ⟨F.trans n3.fr, n3.keep hh, H, T, fun _ => ⟨rfl, fun a h => absurd h (En a)⟩, fun e => by cases e⟩ (fun _ _ _ _ => trivial) (fun i d y σ4 t hd => ?_) fun y σ4 t => ?_
   ·obtain ⟨hi, rfl⟩ := FC hd
    refine C.range fun rg t' u v σ5 n5 => ?_
    refine Dq (AH.range R.handled (DB hi nz') n5.at_) (HSt.vs nl pl) (fun j y σ' => y.a = some (.int (i : Nat)) /\ Kp ns ps hm (FE ns hm i /\ ∀ b, b < j -> Cl ns hm i b) σ σ' y) { y with a := some (.int (i : Nat)) } rfl
     ⟨rfl, t.F.trans n5.fr, n5.keep t.at_, t.H, t.T, fun e => ⟨(t.f0 e).1, (t.f0 e).2, fun b h => absurd h (En b)⟩, t.f1⟩ (fun _ _ _ _ => trivial) (fun j d z σ6 h hd => ?_) fun z σ6 h => ?_
    ·obtain ⟨hj, rfl⟩ := FC hd
     obtain ⟨h1, t⟩ := h
     obtain ⟨zl, zh, zf, za, zb⟩ := z
     cases h1
     refine C470c (x := ⟨zl, zh, zf, some (.int (i : Nat)), some (.int (j : Nat))⟩) (C := FE ns hm i /\ ∀ b, b < j -> Cl ns hm i b) O R N hn hi hj ⟨t.F, t.at_, t.H, t.T, t.f0, t.f1⟩ rfl rfl fun w σ7 e t7 => ?_
     refine ⟨w, rfl, e, t7.F, t7.at_, t7.H, t7.T, fun e => ?_, t7.f1⟩
     obtain ⟨h1, ⟨h2, h3⟩, h4⟩ := t7.f0 e
     refine ⟨h1, h2, fun b hb => ?_⟩
     rcases M7.mp hb with hb | rfl
     ·exact h3 b hb
     ·exact h4
    ·obtain ⟨h1, t⟩ := h
     rw [ER] at t
     refine ⟨z, rfl, t.F, t.at_, t.H, t.T, fun e => ?_, t.f1⟩
     obtain ⟨h1, h2, h3⟩ := t.f0 e
     refine ⟨h1, fun a ha => ?_⟩
     rcases M7.mp ha with ha | rfl
     ·exact h2 a ha
     ·exact h3
   ·rw [ER] at t
    refine ⟨y, ?_, rfl, t.F, t.at_, t.H, t.T, fun e => ?_⟩
    ·show _ < hm.sum + 1
     unfold HSt.m
     cases e : y.fl with
     | false => rw [(t.f0 e).1]; exact E8 _
     | true => exact Nat.succ_lt_succ (t.f1 e)
    ·obtain ⟨h1, h2⟩ := t.f0 e
     rw [h1]; exact h2
end
inductive BP : G -> List (Nat × Nat) -> Prop
 | zero : BP G0 []
 | add {g : G} {ps : List (Nat × Nat)} {x : Ao} : BP g ps -> x ∉ g.ns -> (∀ k ∈ x.2, k < g.ns.length) -> x.2.length <= 2 -> CX x.1 -> g.ns.length < 8 -> BP ((g.grown x).lookAt g.ns.length x) ps
 | told {g : G} {ps : List (Nat × Nat)} {a b : Nat} : BP g ps -> a < g.ns.length -> b < g.ns.length -> BP ((g.join a b).wCap (g.cap + 1)) (ps ++ [(a, b)])
theorem We (g : G) (x : Ao) : (g.grown x).ns = g.ns ++ [x] := rfl
structure RI (g : G) (ps : List (Nat × Nat)) : Prop where
 W : GW g
 cap : g.cap <= g.ns.length + ps.length
 len : g.ns.length <= 8
 ps : ∀ p ∈ ps, p.1 < g.ns.length /\ p.2 < g.ns.length
 ns : ∀ x ∈ g.ns, E1 x.1 = true /\ x.2.length <= 2 /\ ∀ k ∈ x.2, k < g.ns.length
theorem GW.wCap (W : GW g) : GW (g.wCap n) := by iterate 1
 exact ⟨W.len, W.lt, W.wf, W.has, W.nk, W.kb, W.ab, W.wt, W.kn, W.tot, W.mu⟩
theorem HT (g : G) (x : Ao) : ((g.grown x).lookAt g.ns.length x).ns = g.ns ++ [x] := Mw ..
theorem Kq (g : G) (a b n : Nat) : ((g.join a b).wCap n).ns = g.ns := Qh ..
theorem BP.ri (h : BP g ps) : RI g ps := by iterate 1
 induction h with
 | zero => exact ⟨MD, Az 0, BC _, fun _ h => (Ar h).elim, fun _ h => (Ar h).elim⟩
 | @add g ps x _ hx hk hl ho h8 ih =>
  have W := ih.W.grown (x := x) (Ap hl (by decide)) (Ht h8 (by decide))
  have en := HT g x
  have el : ((g.grown x).lookAt g.ns.length x).ns.length = g.ns.length + 1 := by rw [en, AD]; rfl
  refine ⟨W.1.look (by rw [We, AD]; exact E8 _) W.2, ?_, ?_, fun p hp => ?_, fun y hy => ?_⟩
  ·rw [Qm, el]
   have := ih.cap
   show g.cap + 1 <= _
   omega
  ·rw [el]; exact h8
  ·rw [el]; have := ih.ps p hp; omega
  ·rw [en] at hy
   rw [el]
   rcases AC.mp hy with hy | hy
   ·exact ⟨(ih.ns y hy).1, (ih.ns y hy).2.1, fun k hk => Dx ((ih.ns y hy).2.2 k hk)⟩
   ·rw [Ag.mp hy]
    exact ⟨ho.ok, hl, fun k h => Dx (hk k h)⟩
 | @told g ps a b _ ha hb ih =>
  have en := Kq g a b (g.cap + 1)
  refine ⟨(ih.W.join ha hb).wCap, ?_, en ▸ ih.len, fun p hp => ?_, en ▸ ih.ns⟩
  ·rw [en, AD]
   exact Fn ih.cap
  ·rw [en]
   rcases AC.mp hp with hp | hp
   ·exact ih.ps p hp
   ·rw [Ag.mp hp]; exact ⟨ha, hb⟩
structure Wd (f cl nl : Addr) (cs : List Int) (σ : Aa) (r : HR) (g : G) (k : Nat) : Prop where
 H : HAt σ r g
 F : CZ σ f cl cs k
 an : σ nl = some (.list (g.ns.map AE))
 f_off : f ∉ r.fp
 c_off : cl ∉ r.fp
 n_off : nl ∉ r.fp
 nc : nl ≠ cl
structure Go (f nl : Addr) (σ : Aa) (r : HR) (σ' : Aa) (r' : HR) : Prop where
 h : r'.h = r.h
 keep : ∀ a o, a ∉ r.fp -> a ≠ f -> a ≠ nl -> σ a = some o -> σ' a = some o /\ a ∉ r'.fp
theorem Go.trans {f nl : Addr} {σ σ1 σ2 : Aa} {r r1 r2 : HR} (x : Go f nl σ r σ1 r1) (y : Go f nl σ1 r1 σ2 r2) : Go f nl σ r σ2 r2 := by iterate 1
 exact ⟨y.h.trans x.h, fun a o h1 h2 h3 e => y.keep a o (x.keep a o h1 h2 h3 e).2 h2 h3 (x.keep a o h1 h2 h3 e).1⟩
theorem Go.of (x : Bl σ r σ1 r1) : Go f nl σ r σ1 r1 := ⟨x.h, fun a o h _ _ e => ⟨x.keep h e, x.off h e⟩⟩
theorem Go.fr (F : Fr σ σ1 fp) (h : ∀ a ∈ fp, a = f ∨ a = nl) : Go f nl σ r σ1 r := ⟨rfl, fun a o h1 h2 h3 e => ⟨F a o (fun q => (h a q).elim h2 h3) e, h1⟩⟩
theorem Go.feed (F : Fr σ σ1 [f]) : Go f nl σ r σ1 r := by iterate 1
 exact Go.fr F fun a h => .inl (Ag.mp h)
theorem Go.fr0 (F : Fr σ σ1 []) : Go f nl σ r σ1 r := Go.fr F fun a h => (Ar h).elim
section
variable {c : Cx} {A : Around} {σ σ' : Aa} {f cl nl : Addr} {cs : List Int} {r r' : HR} {g g' : G} {k k' : Nat} {Q : D -> Aa -> Prop}
theorem Wd.ncf (w : Wd f cl nl cs σ r g k) : nl ≠ f := DS w.an w.F.at_ MO.noConfusion
theorem Wd.keep (w : Wd f cl nl cs σ r g k) (F : Fr σ σ' []) : Wd f cl nl cs σ' r g k := by iterate 1
 exact ⟨w.H.keep F, w.F.keep F, F.at0 w.an, w.f_off, w.c_off, w.n_off, w.nc⟩
theorem Wd.feed (w : Wd f cl nl cs σ r g k) (F' : CZ σ' f cl cs k') (F : Fr σ σ' [f]) : Wd f cl nl cs σ' r g k' := by iterate 1
 exact
  ⟨w.H.fr F fun a h q => w.f_off (Ag.mp q ▸ h), F', F.at (fun q => w.ncf (Ag.mp q)) w.an, w.f_off, w.c_off, w.n_off, w.nc⟩
theorem Wd.heap (w : Wd f cl nl cs σ r g k) (H : HAt σ' r' g') (N : Bl σ r σ' r') (e : g'.ns = g.ns) : Wd f cl nl cs σ' r' g' k := by iterate 1
 exact
  ⟨H, ⟨N.keep w.f_off w.F.at_, N.keep w.c_off w.F.cells, w.F.len, w.F.k⟩, e ▸ N.keep w.n_off w.an, N.off w.f_off w.F.at_, N.off w.c_off w.F.cells, N.off w.n_off w.an, w.nc⟩
theorem Wd.push {σ1 : Aa} (w : Wd f cl nl cs σ r g k) (H : HAt σ1 r' g') (N : Bl σ r σ1 r') (u : Upd σ1 σ' nl (.list (g'.ns.map AE))) : Wd f cl nl cs σ' r' g' k := by iterate 1
 have h1 := N.keep w.f_off w.F.at_
 have h2 := N.keep w.c_off w.F.cells
 have h3 := N.off w.n_off w.an
 exact ⟨H.fr u.fr fun a h q => h3 (Ag.mp q ▸ h), ⟨u.keep w.ncf.symm h1, u.keep w.nc.symm h2, w.F.len, w.F.k⟩, u.at_, N.off w.f_off w.F.at_, N.off w.c_off w.F.cells, h3, w.nc⟩
theorem Wd.draw {n : Nat} (w : Wd f cl nl cs σ r g k) (O : Ok c) (R : Af A 1) (hn : 0 < n) (hk : k < 100000) (q : ∀ v σ', v < n -> Wd f cl nl cs σ' r g (k + 1) -> Go f nl σ r σ' r -> Q (.int (v : Nat)) σ') : Ac c A (.ref 448) [.ref f, .int (n : Nat)] σ Q :=
 HP O R w.F hn hk fun v σ1 hv F1 fr1 => q v σ1 hv (w.feed F1 fr1) (.feed fr1)
theorem Wd.len (w : Wd f cl nl cs σ r g k) (h8 : g.ns.length <= 8) : (g.ns.map AE).length <= 1000000 := by iterate 1 rw [Am]; exact Ap h8 (by decide)
theorem Wd.pick (w : Wd f cl nl cs σ r g k) (O : Ok c) (R : Af A 1) (h0 : 0 < g.ns.length) (h8 : g.ns.length <= 8) (hk : k < 100000) (q : ∀ v σ', v < g.ns.length -> Wd f cl nl cs σ' r g (k + 1) -> Go f nl σ r σ' r -> Q (.int (v : Nat)) σ') :
  Ac c A (.builtin "len") [.ref nl] σ fun d σ1 => Ac c A (.ref 448) [.ref f, d] σ1 Q := by iterate 1
 apply Ac.Cf w.an (w.len h8)
 rw [Am]
 exact w.draw O R h0 hk q
theorem C453 {ps : List (Nat × Nat)} {m : Nat} (O : Ok c) (R : Af A 6) (w : Wd f cl nl cs σ r g k) (re : BP g ps) (h0 : 0 < g.ns.length) (hps : ps.length <= 8) (hm : g.ns.length + m <= 8) (hk : k + 3 * m <= 1000)
  (q : ∀ σ' r' g' k', Wd f cl nl cs σ' r' g' k' -> BP g' ps -> Go f nl σ r σ' r' -> (∃ l, g'.ns = g.ns ++ l /\ l.length <= m) -> k' <= k + 3 * m -> Q .none σ') : Ac c A (.ref 453) [.ref f, .ref r.h, .ref nl, .int (m : Nat)] σ Q := by iterate 1
 refine d453 O R fun A R => ?_
 refine C.range fun rg t u v σ1 n1 => ?_
 refine Dq (α := (HR × G × Nat) × Option D × Option D × Option D × Option D) (AH.range R.handled (by omega) n1.at_) (fun x => [some (.ref f), some (.ref r.h), some (.ref nl), some (.int (m : Nat)), x.2.1, x.2.2.1, x.2.2.2.1, x.2.2.2.2])
  (fun i x σ' => Wd f cl nl cs σ' x.1.1 x.1.2.1 x.1.2.2 /\ BP x.1.2.1 ps /\ Go f nl σ r σ' x.1.1 /\ (∃ l, x.1.2.1.ns = g.ns ++ l /\ l.length <= i) /\ x.1.2.2 <= k + 3 * i) ((r, g, k), none, none, none, none) rfl
  ⟨w.keep n1.fr, re, .fr0 n1.fr, ⟨[], (BQ _).symm, Az _⟩, Az _⟩ (fun _ _ _ _ => trivial) (fun i d x σ2 h hd => ?_) fun x σ2 h => ?_
 ·obtain ⟨hi, rfl⟩ := FC hd
  obtain ⟨⟨r2, g2, k2⟩, x1, x2, x3, x4⟩ := x
  have w2 : Wd f cl nl cs σ2 r2 g2 k2 := h.1
  have re2 : BP g2 ps := h.2.1
  have go2 : Go f nl σ r σ2 r2 := h.2.2.1
  obtain ⟨l, el, hl⟩ : ∃ l, g2.ns = g.ns ++ l /\ l.length <= i := h.2.2.2.1
  have hk2 : k2 <= k + 3 * i := h.2.2.2.2
  clear h
  have h2 : g2.ns.length = g.ns.length + l.length := by rw [el, AD]
  have h28 : g2.ns.length < 8 := by omega
  have h20 : 0 < g2.ns.length := by omega
  refine MS O (R.le (by decide)) fun fl σ3 n3 => ?_
  refine (w2.keep n3.fr).draw O (R.le (by decide)) (by decide : 0 < 3) (by omega) fun v σ4 hv w4 go4 => ?_
  obtain ⟨op, kd, h1, hop, hk1, hkd2⟩ := MW (w := v) (LR hv)
  have hf4 : σ4 fl = some (.list HO) := (go4.keep fl _ (fun q => by
   obtain ⟨o, ho⟩ := w2.H.fp_some _ q
   rw [n3.no] at ho; cases ho) (fun q => by have := n3.no; rw [q, w2.F.at_] at this; cases this) (fun q => by have := n3.no; rw [q, w2.an] at this; cases this) n3.at_).1
  refine C.MU hf4 h1 ?_
  refine C.range fun rg t u v σ5 n5 => ?_
  refine FZ (AH.range R.handled (Bd hkd2 (by decide)) n5.at_) (fun i acc σ' => ∃ ks, acc = An ks /\ ks.length = i /\ (∀ a ∈ ks, a < g2.ns.length) /\ Wd f cl nl cs σ' r2 g2 (k2 + 1 + i) /\ Go f nl σ2 r2 σ' r2)
   ⟨[], rfl, rfl, fun _ h => (Ar h).elim, w4.keep n5.fr, (Go.fr0 n3.fr).trans (go4.trans (Go.fr0 n5.fr))⟩ (fun _ _ _ _ => trivial) (fun j d acc σ' h hd => ?_) fun acc σ' h a σ6 n6 => ?_
  ·obtain ⟨hj, rfl⟩ := FC hd
   obtain ⟨ks, rfl, hl, hks, w', go'⟩ := h
   refine w'.pick O (R.le (by decide)) h20 (Bz h28) (by omega) fun v σ'' hv w'' go'' => ⟨?_, ks ++ [v], ?_, ?_, fun a ha => ?_, w'', go'.trans go''⟩
   ·rw [A6, hl]; omega
   ·unfold An; rw [Bo]; rfl
   ·rw [AD, hl]; rfl
   ·rcases AC.mp ha with ha | ha
    ·exact hks a ha
    ·rw [Ag.mp ha]; exact hv
  ·obtain ⟨ks, rfl, hlk, hks, w5, go5⟩ := h
   rw [ER] at hlk w5
   have w6 := w5.keep n6.fr
   have go6 := go2.trans (go5.trans (Go.fr0 (r := r2) n6.fr))
   refine Ac.FR n6.at_ (by rw [A6, hlk]; omega) (BOP.FN (by rw [Dp, A6, hlk]; omega) ?_)
   have ri := re2.ri
   have hcap := ri.cap
   have eh : r2.h = r.h := go2.h
   rw [<- eh]
   apply w6.H.i.m_add O
   refine ⟨by show (An ks).length < 1000000; rw [A6, hlk]; omega, ?_⟩
   by_cases hx : ((op, ks) : Ao) ∈ g2.ns
   ·obtain ⟨j, hj⟩ := EZ.mp hx
    have hjl := (AT.mp hj).1
    refine VC O (R.le (by decide)) w6.H ri.W hj ?_
    apply Ac.Cf w6.an (w6.len (Bz h28))
    rw [Am]
    refine CMP.eqN (fun e => absurd e (A8 hjl)) fun _ => ?_
    refine ⟨((r2, g2, k2 + 1 + kd), some (.int (i : Nat)), some (.str op), some (.int (kd : Nat)), some (.tup (.str op :: An ks))), ?_, w6, re2, go6, ⟨l, el, HL hl⟩, ?_⟩
    ·rw [eh]; rfl
    ·show k2 + 1 + kd <= k + 3 * (i + 1)
     omega
   ·refine MB O (R.le (by decide)) w6.H ri.W (by omega) hx hop hks (by rw [hlk]; omega) (by omega) fun r7 σ7 H7 N7 => ?_
    have en := HT g2 (op, ks)
    have nl7 := N7.keep w6.n_off w6.an
    apply Ac.Cf nl7 (w6.len (Bz h28))
    rw [Am]
    refine CMP.eqN (fun _ => ?_) fun e => absurd rfl e
    apply GM.append nl7
    refine C.append nl7 (by rw [Am]; omega) fun σ8 u8 => ?_
    have e8 : g2.ns.map AE ++ [.tup (.str op :: An ks)] = ((g2.grown (op, ks)).lookAt g2.ns.length (op, ks)).ns.map AE := by rw [en, Bo]; rfl
    have u8' : Upd σ7 σ8 nl (.list (((g2.grown (op, ks)).lookAt g2.ns.length (op, ks)).ns.map AE)) := e8 ▸ u8
    refine ⟨((r7, (g2.grown (op, ks)).lookAt g2.ns.length (op, ks), k2 + 1 + kd), some (.int (i : Nat)), some (.str op), some (.int (kd : Nat)), some (.tup (.str op :: An ks))), ?_, w6.push H7 N7 u8', .add re2 hx hks (by show ks.length <= 2; omega) hop h28, go6.trans ((Go.of N7).trans (Go.fr u8.fr fun a h => .inr (Ag.mp h))), ⟨l ++ [(op, ks)], ?_, ?_⟩, ?_⟩
    ·rw [eh]; rfl
    ·show ((g2.grown (op, ks)).lookAt g2.ns.length (op, ks)).ns = _
     rw [en, el, Dg]
    ·rw [AD]; exact Fn hl
    ·show k2 + 1 + kd <= k + 3 * (i + 1)
     omega
 ·obtain ⟨⟨r2, g2, k2⟩, x1, x2, x3, x4⟩ := x
  rw [ER] at h
  exact q σ2 r2 g2 k2 h.1 h.2.1 h.2.2.1 h.2.2.2.1 h.2.2.2.2
end
structure HU (ns : List Ao) (hm : List Nat) (kn : List (Ao × Nat)) (n : Nat) : Prop where
 nd : (kn.map (·.1)).Nodup
 mem : ∀ y m, (y, m) ∈ kn -> ∃ a x, a < n /\ ns[a]? = some x /\ y = B0 hm x /\ m = hm.getD a a
 has : ∀ a x, a < n -> ns[a]? = some x -> ∃ m, (B0 hm x, m) ∈ kn
structure Fin0 (g : G) (ps : List (Nat × Nat)) (g' : G) : Prop where
 re : BP g ps
 two : ∃ l, g.ns = (("a" : Str), []) :: (("b" : Str), []) :: l
 se : DE g g'
structure HV (g : G) (ps : List (Nat × Nat)) (g' : G) (hm : List Nat) (kn : List (Ao × Nat)) : Prop extends Fin0 g ps g' where
 H : CK g.ns ps hm
 T : EW hm ps
 C : FE g.ns hm g.ns.length
 K : HU g.ns hm kn g.ns.length
noncomputable def dF : D -> Int
 | .tup [.int i, _] => i
 | _ => -1
noncomputable def dS : D -> D
 | .tup [_, x] => x
 | d => d
structure Wg (g' : G) (hm : List Nat) (p : Pat) (due : List D) : Prop where
 all : EQ g' p = due
 one : ∀ s, s < g'.ns.length -> BU g' p (Ae g'.uf.par s) = (due.filter fun d => decide (dF d = (hm.getD s s : Nat))).map dS
noncomputable def HW : Prop := ∀ g ps g' hm kn, HV g ps g' hm kn -> ∀ n op ks, Bq n (.node op ks) -> ¬ AP op ->
 (∀ a, (CH g' (.node op ks) a).length < 64) /\ ∀ ns : List Str, ns.Nodup -> (∀ x, x ∈ ns ↔ x ∈ nm (.node op ks)) -> (CJ kn (AJ (AO hm)) ns (.node op ks)).length < 64 /\ Wg g' hm (.node op ks) (B9 (CJ kn (AJ (AO hm)) ns (.node op ks)))
theorem HX (h : DE g g') : g'.ns = g.ns := by iterate 1
 induction h with
 | done => rfl
 | step _ _ _ ih => rw [ih, Mw]; rfl
structure HY (p : Pat) : Prop where
 ok : ∃ n, n <= 4 /\ Bq n p
 op : ∃ op ks, p = .node op ks /\ ¬ AP op
 b : bnd p <= 100000
theorem Q3 (h : bnd p <= b) (hb : 1 <= b) : bnd (.node op [p]) <= 8 * b := by iterate 1
 unfold bnd
 split
 ·omega
 ·refine QA 8 ?_
  show bnd p * 1 <= b
  rw [MH]; exact h
theorem Wh (nd : ns.Nodup) (hv : ∀ x ∈ ns, AP x) (h : d ∈ B9 (CJ kn hs ns p)) : ∃ a T, A1 T /\ d = .tup [.int a, .tup (A3 T)] := by iterate 1
 obtain ⟨T, hT, rfl⟩ := Av.mp ((Di _).mem_iff.mp h)
 exact ⟨_, T, Ex nd hv (Ch.mp hT).1, rfl⟩
theorem Wi (h : ∀ d ∈ ds, ∃ a T, A1 T /\ d = .tup [.int a, .tup (A3 T)]) : Al 6 (.tup ds) = true := by iterate 1
 exact D0.mpr fun d hd => by
  obtain ⟨a, T, hT, rfl⟩ := h d hd
  show (Al 4 (.int a) && (Al 4 (.tup (A3 T)) && true)) = true
  rw [Hb hT]; rfl
theorem Wj {ds : List D} {f : D -> Bool} (h : ∀ d ∈ ds, ∃ a T, A1 T /\ d = .tup [.int a, .tup (A3 T)]) : Al 6 (.tup ((ds.filter f).map dS)) = true := by iterate 1
 exact D0.mpr fun e he => by
  obtain ⟨d, hd, rfl⟩ := Av.mp he
  obtain ⟨a, T, hT, rfl⟩ := h d (Ch.mp hd).1
  show (A3 T).all (Al 4) = true
  refine D0.mpr fun e he => ?_
  obtain ⟨x, b, rfl, k⟩ := Gm hT he
  exact k
section
variable {c : Cx} {A : Around} {σ σ' : Aa} {f cl nl : Addr} {cs : List Int} {r : HR} {g g0 : G} {k : Nat} {ps : List (Nat × Nat)} {hm : List Nat} {kn : List (Ao × Nat)} {QX : AFl -> VS -> Aa -> Prop}
theorem CMP.neL2 {a b : Addr} {x y : List D} {Q : Bool -> Aa -> Prop} (ha : σ a = some (.list x)) (hb : σ b = some (.list y)) (e : x = y) (hy : Al 6 (.tup y) = true) (hu : A.units + 20 < cLine) (h : Q false σ) : CMP c A .NotEq (.ref a) (.ref b) σ Q := by
 subst e
 classical
 exact CMP.neL ha hb hy hy hu (Q1 (P := fun b => Q (!b) σ) (fun _ => h) fun n => absurd rfl n)
theorem C495d {wk wd hl kd : Addr} {x0 x4 x5 x8 x11 x14 x15 : Option D} {tp : Pat} {op : Str} {sp : Nat} (O : Ok c) (R : Af A 14) (law : HW) (fi : HV g0 ps g hm kn) (w : Wd f cl nl cs σ r g k) (W : GW g) (h8 : g.ns.length <= 8) (I : WI σ wk wd r.h)
  (hh : σ hl = some (.list (An hm))) (hk : σ kd = some (.dictT (Ca kn))) (hp : HY tp) (hop : CX op) (hsp : sp < g.ns.length) (hkk : k <= 10000) (q : ∀ vs σ', QX (.ret (.bool true)) vs σ') :
  PT c A [x0, some (.ref f), some (.ref r.h), some (.ref nl), x4, x5, some (.ref hl), some (.ref kd), x8, some (Bm tp), some (.str op), x11, some (.ref wk), some (.int (sp : Nat)), x14, x15] σ QX := by iterate 1
 have en := HX fi.se
 have hlen : hm.length = g.ns.length := by rw [fi.H.len, en]
 have nfk : ∀ {a : Addr} {o : MO}, σ a = some o -> (∀ es, o ≠ .dictS es) -> a ∉ [f] := fun ha ho q => DS ha w.F.at_ (ho _) (Ag.mp q)
 refine C475 1 O (R.le (by decide)) w.F (by omega) fun p1 σ1 k1 hp1 hb1 hk1 F1 fr1 => ?_
 refine C475 2 O (R.le (by decide)) F1 (by omega) fun p2 σ2 k2 hp2 hb2 hk2 F2 fr2 => ?_
 intro pl σ3 n3
 have fr : Fr σ σ3 [f] := fr1.trans (fr2.trans n3.fr.more)
 have H3 : HAt σ3 r g := w.H.fr fr fun a h q => w.f_off (Ag.mp q ▸ h)
 have I3 : WI σ3 wk wd r.h := ⟨fr.at (nfk I.inst fun _ => MO.noConfusion) I.inst, fr.at (nfk I.ns fun _ => MO.noConfusion) I.ns⟩
 have hh3 := fr.at (nfk hh fun _ => MO.noConfusion) hh
 have hk3 := fr.at (nfk hk fun _ => MO.noConfusion) hk
 have hq1 : HY (.node op [p1, .node "?x" []]) := ⟨⟨3, by decide, .op hop (FA hop) (by decide : 2 <= 10) fun p h => by
   rcases Ay.mp h with h | h
   ·exact h ▸ hp1
   ·rw [Ag.mp h]; exact .var (.inl rfl)⟩, ⟨_, _, rfl, FA hop⟩, by
  refine Ap (QN (n := 1) (fun p h => ?_) (by decide : 2 <= 2)) (by decide)
  rcases Ay.mp h with h | h
  ·exact h ▸ hb1
  ·rw [Ag.mp h]; decide⟩
 have hq2 : HY (.node "f" [p2]) := ⟨⟨4, by decide, .op Fu (FA Fu) (by decide : 1 <= 10) fun p h => by
   rw [Ag.mp h]; exact hp2⟩, ⟨_, _, rfl, FA Fu⟩, by
  exact Ap (Q3 hb2 (Gp 2)) (by decide)⟩
 have hps : ∀ d ∈ [Bm tp, Bm (.node op [p1, .node "?x" []]), Bm (.node "f" [p2])], ∃ p, d = Bm p /\ HY p := fun d hd => by
  rcases Ay.mp hd with rfl | hd
  ·exact ⟨_, rfl, hp⟩
  rcases Ay.mp hd with rfl | hd
  ·exact ⟨_, rfl, hq1⟩
  ·exact ⟨_, Ag.mp hd, hq2⟩
 have n3' : σ3 pl = some (.list [Bm tp, Bm (.node op [p1, .node "?x" []]), Bm (.node "f" [p2])]) := n3.at_
 refine Dq (AH.list R.handled n3') (fun x : Option D × Option D => [x0, some (.ref f), some (.ref r.h), some (.ref nl), x4, x5, some (.ref hl), some (.ref kd), x8, some (Bm tp), some (.str op), x11, some (.ref wk), some (.int (sp : Nat)), x.1, x.2])
  (fun i x σ' => Fr σ3 σ' []) (x14, x15) rfl (Fr.refl _ _) (fun i x σ' F => F.at0 n3') (fun i d x σ4 F4 hd => ?_) fun x σ4 F4 => ?_
 ·obtain ⟨p, rfl, hpR⟩ := hps d (AX hd)
  obtain ⟨⟨n, hn4, hpo⟩, ⟨op', ks, rfl, hnv⟩, hb⟩ := hpR
  obtain ⟨hs64, hlaw⟩ := law _ _ _ _ _ fi n op' ks hpo hnv
  refine C490 (n := n) O (R.le (by omega)) hpo (F4.at0 hh3) (hlen ▸ h8) (F4.at0 hk3) (fun ns nd hns => (hlaw ns nd hns).1) fun dl σ5 ns nd hns hdl F5 => ?_
  obtain ⟨_, ans⟩ := hlaw ns nd hns
  have hv : ∀ x ∈ ns, AP x := fun x hx => ES _ x ((hns x).mp hx)
  have hform := fun d => Wh (kn := kn) (hs := AJ (AO hm)) (p := .node op' ks) nd hv (d := d)
  have F45 := F4.trans F5
  apply (I3.keep F45).m_found O
  refine C213 (n := n) O (R.le (by omega)) (I3.keep F45) (H3.keep F45) W h8 hpo hb hs64 fun fl σ6 hf F6 => ?_
  refine CMP.neL2 hf (F6.at0 hdl) ans.all (Wi hform) (CW R) ?_
  have F46 := F45.trans F6
  apply (I3.keep F46).m_found_in O
  refine C208 (n := n) O (R.le (by omega)) (I3.keep F46) (H3.keep F46) W h8 hsp hpo hb (hs64 _) fun fl' σ7 hf' F7 => ?_
  have F47 := F46.trans F7
  have hd7 := F7.at0 (F6.at0 hdl)
  refine FZ (AH.list R.handled hd7) (fun i acc σ' => Fr σ7 σ' [] /\ acc = (((B9 (CJ kn (AJ (AO hm)) ns (.node op' ks))).take i).filter fun d => decide (dF d = (hm.getD sp sp : Nat))).map dS) ⟨Fr.refl _ _, rfl⟩ (fun _ _ _ h => h.1.at0 hd7) (fun i d acc σ' h hi => ?_) fun acc σ' h al σ'' n'' => ?_
  ·obtain ⟨F8, rfl⟩ := h
   obtain ⟨a, T, hT, rfl⟩ := hform d (AX hi)
   have e := MZ (f := fun d => decide (dF d = (hm.getD sp sp : Nat))) (g := dS) hi
   have hlt : ((((B9 (CJ kn (AJ (AO hm)) ns (.node op' ks))).take i).filter fun d => decide (dF d = (hm.getD sp sp : Nat))).map dS).length <= 1000000 := by
    rw [Am]
    refine Ap (Ga ..) (Ap (by rw [C7]; exact Fp _ _) ?_)
    rw [(Di _).length_eq]
    exact Ap (Bz (hlaw ns nd hns).1) (by decide)
   refine IT.at (F8.at0 (F47.at0 hh3)) (by rw [A6, hlen]; exact Ap h8 (by decide)) (EM (hlen ▸ hsp)) ?_
   refine CMP.eqI ?_
   by_cases ea : a = (hm.getD sp sp : Nat)
   ·rw [decide_eq_true ea]
    refine ⟨hlt, F8, ?_⟩
    rw [e, if_pos (decide_eq_true (show dF (.tup [.int a, .tup (A3 T)]) = _ from ea))]; rfl
   ·rw [decide_eq_false ea]
    refine ⟨F8, ?_⟩
    rw [e, if_neg (fun h : decide (dF (.tup [.int a, .tup (A3 T)]) = _) = true => ea (of_decide_eq_true h)), BQ]
  ·obtain ⟨F8, rfl⟩ := h
   rw [Ci] at n''
   have F9 := F8.trans n''.fr
   refine CMP.neL2 (F9.at0 hf') n''.at_ (ans.one sp hsp) (Wj hform) (CW R) ?_
   exact ⟨(some (Bm (.node op' ks)), some (.ref dl)), rfl, F47.trans F9⟩
 ·exact q _ _
end
section
open Classical
theorem Wl (h : ∀ m, (y, m) ∉ kn) : Ck kn y = none := by
 cases e : Ck kn y with
 | none => rfl
 | some m => exact absurd (Gf e) (h m)
theorem Wm (nd : (kn.map (·.1)).Nodup) (h : (y, v) ∈ kn) : Bb (Ca kn) (AU y) (.int (v : Nat)) = Ca kn := by iterate 1
 unfold Bb
 rw [if_pos]
 ·unfold Ca
  rw [A2]
  refine Cg fun p hp => ?_
  show (if AU p.1 = AU y then (AU p.1, D.int (v : Nat)) else (AU p.1, D.int (p.2 : Nat))) = _
  split
  ·rename_i e
   have e' := GX e
   obtain ⟨i, hi⟩ := EZ.mp hp
   obtain ⟨j, hj⟩ := EZ.mp h
   have := HD nd (i := i) (j := j) (x := y) (by rw [Bs, hi]; exact congrArg some e') (by rw [Bs, hj]; rfl)
   rw [this, hj] at hi
   rw [<- Cn hi]
  ·rfl
 ·exact Er.mpr ⟨_, AS (f := fun p : Ao × Nat => (AU p.1, D.int (p.2 : Nat))) h, decide_eq_true rfl⟩
theorem HU.step (K : HU ns hm kn i) (C : FE ns hm ns.length) (hx : ns[i]? = some x) :
  ∃ kn', Bb (Ca kn) (AU (B0 hm x)) (.int (hm.getD i i : Nat)) = Ca kn' /\ HU ns hm kn' (i + 1) /\ kn'.length <= kn.length + 1 := by iterate 1
 have hil : i < ns.length := (AT.mp hx).1
 by_cases h : ∃ m, (B0 hm x, m) ∈ kn
 ·obtain ⟨m, hm'⟩ := h
  obtain ⟨a, y, ha, hy, e1, e2⟩ := K.mem _ _ hm'
  have := C i hil a ha x y hx hy e1
  rw [<- e2] at this
  refine ⟨kn, Wm K.nd (this ▸ hm'), ⟨K.nd, fun y m h => ?_, fun a z ha hz => ?_⟩, Ej _⟩
  ·obtain ⟨a, x, h1, h2⟩ := K.mem y m h
   exact ⟨a, x, Dx h1, h2⟩
  ·rcases M7.mp ha with ha | rfl
   ·exact K.has a z ha hz
   ·rw [hx] at hz; cases hz; exact ⟨m, hm'⟩
 ·have hno : ∀ m, (B0 hm x, m) ∉ kn := fun m q => h ⟨m, q⟩
  refine ⟨kn ++ [(B0 hm x, hm.getD i i)], Qj (Wl hno), ⟨?_, fun y m h => ?_, fun a z ha hz => ?_⟩, by rw [AD]; exact Az _⟩
  ·rw [Bo]
   refine Bf.mpr ⟨K.nd, El .., fun u hu w hw e => ?_⟩
   obtain ⟨p, hp, rfl⟩ := Av.mp hu
   have : p.1 = B0 hm x := e.trans (Ag.mp hw)
   exact hno p.2 (this ▸ hp)
  ·rcases AC.mp h with h | h
   ·obtain ⟨a, x, h1, h2⟩ := K.mem y m h
    exact ⟨a, x, Dx h1, h2⟩
   ·cases Ag.mp h
    exact ⟨i, x, E8 i, hx, rfl, rfl⟩
  ·rcases M7.mp ha with ha | rfl
   ·obtain ⟨m, h⟩ := K.has a z ha hz
    exact ⟨m, BY _ h⟩
   ·rw [hx] at hz; cases hz; exact ⟨_, BK _ (.head _)⟩
theorem Fr.upd_new {σ1 σ' σ'' : Aa} {a : Addr} {o : MO} (F : Fr σ1 σ' []) (h : σ1 a = Dw) (u : Upd σ' σ'' a o) : Fr σ1 σ'' [] := by iterate 1
 exact fun b x hb e => u.keep (fun q => by rw [q, h] at e; cases e) (F b x hb e)
structure Tow (i : Nat) (p : Pat) : Prop where
 ok : Bq i p
 b : bnd p <= 8 ^ i
 op : 0 < i -> ∃ k, p = .node "f" [k]
theorem Tow.zero : Tow 0 (.node "?x" []) := by iterate 1
 exact ⟨.var (.inl rfl), by decide, fun h => absurd h (Ef 0)⟩
theorem Tow.step (t : Tow i p) : Tow (i + 1) (.node "f" [p]) := by iterate 1
 exact ⟨.op Fu (FA Fu) (by decide : 1 <= 10) fun k h => by rw [Ag.mp h]; exact t.ok, by
  refine Ap (Q3 t.b (Nat.pow_pos (by decide))) ?_
  rw [LQ, Nat.mul_comm]; exact Az _, fun _ => ⟨p, rfl⟩⟩
theorem Tow.patR (t : Tow i p) (h0 : 0 < i) (h3 : i <= 3) : HY p := by iterate 1
 obtain ⟨k, e⟩ := t.op h0
 exact ⟨⟨i, HL h3, t.ok⟩, ⟨_, _, e, FA Fu⟩, Ap t.b (Ap (Nat.pow_le_pow_right (by decide) h3) (by decide))⟩
section
variable {c : Cx} {A : Around} {σ σ' : Aa} {f cl nl : Addr} {cs : List Int} {r : HR} {g g0 : G} {k : Nat} {ps : List (Nat × Nat)} {hm : List Nat} {kn : List (Ao × Nat)} {QX : AFl -> VS -> Aa -> Prop} {Q : D -> Aa -> Prop}
theorem Wd.drawF {n : Nat} (w : Wd f cl nl cs σ r g k) (O : Ok c) (R : Af A 1) (hn : 0 < n) (hk : k < 100000) (q : ∀ v σ', v < n -> Wd f cl nl cs σ' r g (k + 1) -> Fr σ σ' [f] -> Q (.int (v : Nat)) σ') : Ac c A (.ref 448) [.ref f, .int (n : Nat)] σ Q :=
 HP O R w.F hn hk fun v σ1 hv F1 fr1 => q v σ1 hv (w.feed F1 fr1) fr1
theorem C495c {pl : Addr} {x0 x5 x6 x7 x8 x9 x10 x11 x12 x13 x14 x15 : Option D} (O : Ok c) (R : Af A 14) (law : HW) (fi : Fin0 g0 ps g) (w : Wd f cl nl cs σ r g k) (W : GW g) (ri : RI g0 ps)
  (hp : σ pl = some (.list (ps.map FD))) (hkk : k <= 1000) (q : ∀ vs σ', QX (.ret (.bool true)) vs σ') :
  PU c A [x0, some (.ref f), some (.ref r.h), some (.ref nl), some (.ref pl), x5, x6, x7, x8, x9, x10, x11, x12, x13, x14, x15] σ QX := by iterate 1
 have en := HX fi.se
 have h8 : g.ns.length <= 8 := en ▸ ri.len
 have h0 : 0 < g.ns.length := by
  obtain ⟨l, e⟩ := fi.two
  rw [en, e]; exact Nat.succ_pos _
 have N : HS g.ns ps := ⟨h8, fun x hx => (ri.ns x (en ▸ hx)).1, fun x hx => Ap (ri.ns x (en ▸ hx)).2.1 (by decide), fun x hx => en ▸ (ri.ns x (en ▸ hx)).2.2, fun p hp => en ▸ ri.ps p hp⟩
 have nz := w.len h8
 refine C470 O (R.le (by decide)) N w.an hp fun hl σ1 hm H T Cd hh F1 => ?_
 have hlen := H.len
 have hz : (An hm).length <= 1000000 := by rw [A6, hlen]; exact N.sm
 refine ⟨.dictT [], .inr (.inr rfl), fun kd σ2 n2 => ?_⟩
 have w2 := (w.keep F1).keep n2.fr
 apply Ac.Cf w2.an nz
 rw [Am]
 refine C.range fun rg t u v σ3 n3 => ?_
 refine Dq (α := Option D × List (Ao × Nat)) (AH.range R.handled (Bd h8 (by decide)) n3.at_) (fun x => [x0, some (.ref f), some (.ref r.h), some (.ref nl), some (.ref pl), x5, some (.ref hl), some (.ref kd), x.1, x9, x10, x11, x12, x13, x14, x15])
  (fun i x σ' => Fr σ1 σ' [] /\ σ' kd = some (.dictT (Ca x.2)) /\ HU g.ns hm x.2 i /\ x.2.length <= i) (x8, []) rfl
  ⟨n2.fr.trans n3.fr, n3.keep n2.at_, ⟨Cw, fun y m h => (Ar h).elim, fun a x h => absurd h (En a)⟩, Az 0⟩ (fun _ _ _ _ => trivial) (fun i d x σ4 h hd => ?_) fun x σ4 h => ?_
 ·obtain ⟨hi, rfl⟩ := FC hd
  obtain ⟨F4, hk4, K, hkl⟩ := h
  obtain ⟨y, hy⟩ : ∃ y, g.ns[i]? = some y := ⟨_, Bw hi⟩
  have ym := AX hy
  have hh4 := F4.at0 hh
  obtain ⟨kn', e1, K', hl'⟩ := K.step Cd hy
  apply IT.at hh4 hz (EM (hlen ▸ hi))
  apply IT.at (F4.at0 ((w.keep F1).an)) nz (HE hy)
  refine MT O (R.le (by decide)) hh4 (by rw [hlen]; exact Ap h8 (by decide)) (fun k hk => hlen ▸ N.lt y ym k hk) (N.kids y ym) fun σ5 F5 => ?_
  refine C.setT (CW R) (F5.at0 hk4) (GY (x := B0 hm y) (N.ok y ym)) (by unfold Ca; rw [Am]; exact Ap hkl (Ap (Bz hi) N.sm)) fun σ6 u6 => ?_
  rw [e1] at u6
  exact ⟨(some (.int (i : Nat)), kn'), rfl, (F4.trans F5).upd_new n2.no u6, u6.at_, K', Ap hl' (Fn hkl)⟩
 ·obtain ⟨xa, kn⟩ := x
  obtain ⟨F4, hk4, K, _⟩ := h
  rw [ER] at K
  have w4 := (w.keep F1).keep F4
  have hh4 := F4.at0 hh
  have fi' : HV g0 ps g hm kn := ⟨fi, en ▸ H, T, en ▸ Cd, en ▸ K⟩
  have nfk : ∀ {a : Addr} {o : MO}, σ4 a = some o -> (∀ es, o ≠ .dictS es) -> a ∉ [f] := fun ha ho q => DS ha w4.F.at_ (ho _) (Ag.mp q)
  refine w4.drawF O (R.le (by decide)) (n := 2) (by decide) (by omega) fun v σ5 hv w5 F5 => ?_
  refine BOP.HA (a := 2) ?_
  refine C.range fun rg t u v' σ6 n6 => ?_
  refine Dq (α := Option D × Pat) (AH.range R.handled (by omega) n6.at_) (fun x => [x0, some (.ref f), some (.ref r.h), some (.ref nl), some (.ref pl), x.1, some (.ref hl), some (.ref kd), xa, some (Bm x.2), x10, x11, x12, x13, x14, x15])
   (fun i x σ' => σ' = σ6 /\ Tow i x.2) (x5, .node "?x" []) rfl ⟨rfl, .zero⟩ (fun _ _ _ _ => trivial) (fun i d x σ' h hd => ?_) fun x σ' h => ?_
  ·obtain ⟨hi, rfl⟩ := FC hd
   exact ⟨(some (.int (i : Nat)), .node "f" [x.2]), rfl, h.1, h.2.step⟩
  ·obtain ⟨rfl, tw⟩ := h
   rw [ER] at tw
   have tR := tw.patR (by omega) (by omega)
   refine MS O (R.le (by decide)) fun fl σ7 n7 => ?_
   have w7 := (w5.keep n6.fr).keep n7.fr
   refine w7.drawF O (R.le (by decide)) (n := 2) (by decide) (by omega) fun v2 σ8 hv2 w8 F8 => ?_
   refine BOP.HA (a := 1) ?_
   obtain ⟨op, kd', h1, hop, _, _⟩ := MW (w := 1 + v2) (by omega)
   have nfl : fl ∉ [f] := fun q => by
    have := n7.no
    rw [Ag.mp q, (w5.keep n6.fr).F.at_] at this; cases this
   refine C.MU (F8.at nfl n7.at_) h1 ?_
   refine C216 O (R.le (by decide)) fun wk wd σ9 I9 F9 hw0 hwd0 => ?_
   have w9 := w8.keep F9
   apply Ac.Cf w9.an nz
   rw [Am]
   refine w9.drawF O (R.le (by decide)) h0 (by omega) fun sp σ10 hsp w10 F10 => ?_
   have F410 : Fr σ4 σ10 [f] := F5.trans (n6.fr.more.trans (n7.fr.more.trans (F8.trans (F9.more.trans F10))))
   have nf9 : ∀ {a : Addr} {o : MO}, σ9 a = some o -> (∀ es, o ≠ .dictS es) -> a ∉ [f] := fun ha ho q => DS ha w9.F.at_ (ho _) (Ag.mp q)
   exact C495d O R law fi' w10 W h8 ⟨F10.at (nf9 I9.inst fun _ => MO.noConfusion) I9.inst, F10.at (nf9 I9.ns fun _ => MO.noConfusion) I9.ns⟩ (F410.at (nfk hh4 fun _ => MO.noConfusion) hh4) (F410.at (nfk hk4 fun _ => MO.noConfusion) hk4) tR hop hsp (by omega) q
end
end
section
variable {c : Cx} {A : Around} {σ σ' : Aa} {f cl nl : Addr} {cs : List Int} {r r' : HR} {g g0 : G} {k k' : Nat} {ps : List (Nat × Nat)} {QX : AFl -> VS -> Aa -> Prop} {Q : D -> Aa -> Prop}
theorem C.last (h : σ l = some (.list (xs ++ [d]))) (hz : xs.length <= 1000) (q : Q d σ) : IT c A (.ref l) (.int (-1)) σ Q := by iterate 1
 exact
  IT.RK h (by decide) (by rw [AD]; show -((xs.length + 1 : Nat) : Int) <= -1; omega) (by decide) (by
   rw [AD]
   have : ((-1 : Int) + ((xs.length + 1 : Nat) : Int)).toNat = xs.length := by omega
   show (xs ++ [d])[((-1 : Int) + ((xs.length + 1 : Nat) : Int)).toNat]? = some d
   rw [this, C8 (Az _), Fj]; rfl) q
structure Out (f cl nl pl : Addr) (r : HR) : Prop where
 f : pl ≠ f
 c : pl ≠ cl
 n : pl ≠ nl
 r : pl ∉ r.fp
theorem Wd.out {pl : Addr} (w : Wd f cl nl cs σ r g k) (h : σ pl = none) : Out f cl nl pl r := by iterate 1
 refine ⟨fun q => ?_, fun q => ?_, fun q => ?_, fun q => ?_⟩
 ·have := w.F.at_
  rw [<- q, h] at this; cases this
 ·have := w.F.cells
  rw [<- q, h] at this; cases this
 ·have := w.an
  rw [<- q, h] at this; cases this
 ·obtain ⟨o, e⟩ := w.H.fp_some _ q
  rw [h] at e; cases e
theorem Out.go (x : Out f cl nl pl r) (G : Go f nl σ r σ' r') (h : σ pl = some o) : σ' pl = some o /\ Out f cl nl pl r' := by iterate 1
 exact ⟨(G.keep pl o x.r x.f x.n h).1, x.f, x.c, x.n, (G.keep pl o x.r x.f x.n h).2⟩
theorem Wd.upd {pl : Addr} {o : MO} (w : Wd f cl nl cs σ r g k) (x : Out f cl nl pl r) (u : Upd σ σ' pl o) : Wd f cl nl cs σ' r g k := by iterate 1
 exact
  ⟨w.H.fr u.fr fun a h q => x.r (Ag.mp q ▸ h), ⟨u.keep x.f.symm w.F.at_, u.keep x.c.symm w.F.cells, w.F.len, w.F.k⟩, u.keep x.n.symm w.an, w.f_off, w.c_off, w.n_off, w.nc⟩
theorem C495b {x0 x4 x5 x6 x7 x8 x9 x10 x11 x12 x13 x14 x15 : Option D} (O : Ok c) (R : Af A 14) (law : HW) (w : Wd f cl nl cs σ r g k) (re : BP g []) (two : ∃ l, g.ns = (("a" : Str), []) :: (("b" : Str), []) :: l /\ l.length <= 4) (hkk : k <= 500) (q : ∀ vs σ', QX (.ret (.bool true)) vs σ') :
  t495b c A [x0, some (.ref f), some (.ref r.h), some (.ref nl), x4, x5, x6, x7, x8, x9, x10, x11, x12, x13, x14, x15] σ QX := by iterate 1
 obtain ⟨l2, e2, hl2⟩ := two
 have h8 : g.ns.length <= 6 := by rw [e2]; show l2.length + 1 + 1 <= 6; omega
 have h0 : 0 < g.ns.length := by rw [e2]; exact Nat.succ_pos _
 intro pl σ1 n1
 have x1 := w.out n1.no
 refine (w.keep n1.fr).draw O (R.le (by decide)) (n := 4) (by decide) (by omega) fun m σ2 hm w2 go2 => ?_
 have p2 := x1.go go2 n1.at_
 refine C.range fun rg t u v σ3 n3 => ?_
 refine Dq (α := (HR × G × List (Nat × Nat) × Nat) × Option D) (AH.range R.handled (by omega) n3.at_) (fun x => [x0, some (.ref f), some (.ref r.h), some (.ref nl), some (.ref pl), x.2, x6, x7, x8, x9, x10, x11, x12, x13, x14, x15])
  (fun i x σ' => Wd f cl nl cs σ' x.1.1 x.1.2.1 x.1.2.2.2 /\ BP x.1.2.1 x.1.2.2.1 /\ x.1.1.h = r.h /\ σ' pl = some (.list (x.1.2.2.1.map FD)) /\ Out f cl nl pl x.1.1 /\ x.1.2.1.ns = g.ns /\ x.1.2.2.1.length = i /\ x.1.2.2.2 <= k + 1 + 2 * i) ((r, g, [], k + 1), x5) rfl
  ⟨w2.keep n3.fr, re, rfl, n3.keep p2.1, p2.2, rfl, rfl, Az _⟩ (fun _ _ _ _ => trivial) (fun i d x σ4 h hd => ?_) fun x σ4 h => ?_
 ·obtain ⟨hi, rfl⟩ := FC hd
  obtain ⟨⟨r4, g4, ps, k4⟩, x4⟩ := x
  have w4 : Wd f cl nl cs σ4 r4 g4 k4 := h.1
  have re4 : BP g4 ps := h.2.1
  have eh : r4.h = r.h := h.2.2.1
  have hp4 : σ4 pl = some (.list (ps.map FD)) := h.2.2.2.1
  have o4 : Out f cl nl pl r4 := h.2.2.2.2.1
  have en : g4.ns = g.ns := h.2.2.2.2.2.1
  have hpl : ps.length = i := h.2.2.2.2.2.2.1
  have hk4 : k4 <= k + 1 + 2 * i := h.2.2.2.2.2.2.2
  clear h
  have ri := re4.ri
  have hcap := ri.cap
  have h48 : g4.ns.length <= 8 := ri.len
  have h40 : 0 < g4.ns.length := en ▸ h0
  have pz : (ps.map FD).length <= 1000 := by rw [Am]; omega
  apply GM.append hp4
  refine w4.pick O (R.le (by decide)) h40 h48 (by omega) fun a σ5 ha w5 go5 => ?_
  refine w5.pick O (R.le (by decide)) h40 h48 (by omega) fun b σ6 hb w6 go6 => ?_
  have p6 := o4.go (go5.trans go6) hp4
  refine C.append p6.1 (Ap pz (by decide)) fun σ7 u7 => ?_
  have w7 := w6.upd p6.2 u7
  rw [<- eh]
  apply w7.H.i.m_merge O
  refine C.last u7.at_ pz ?_
  refine IT.CV (a := 0) (by decide : 2 <= 1000000) rfl ?_
  refine C.last u7.at_ pz ?_
  refine IT.CV (a := 1) (by decide : 2 <= 1000000) rfl ?_
  refine C368 O (R.le (by decide)) w7.H ri.W ha hb (by omega) fun r8 σ8 x H8 N8 => ?_
  have w8 := w7.heap H8 N8 (Kq ..)
  have e8 : ps.map FD ++ [.tup [.int (a : Nat), .int (b : Nat)]] = (ps ++ [(a, b)]).map FD := by rw [Bo]; rfl
  have u7' := u7.at_
  rw [e8] at u7'
  refine ⟨((r8, (g4.join a b).wCap (g4.cap + 1), ps ++ [(a, b)], k4 + 1 + 1), some (.int (i : Nat))), ?_, w8, .told re4 ha hb, N8.h, N8.keep p6.2.r u7', ⟨p6.2.f, p6.2.c, p6.2.n, N8.off p6.2.r u7'⟩, (Kq ..).trans en, ?_, ?_⟩
  ·rfl
  ·rw [AD]; show ps.length + 1 = i + 1; rw [hpl]
  ·show k4 + 1 + 1 <= k + 1 + 2 * (i + 1)
   omega
 ·obtain ⟨⟨r4, g4, ps, k4⟩, x4⟩ := x
  have w4 : Wd f cl nl cs σ4 r4 g4 k4 := h.1
  have re4 : BP g4 ps := h.2.1
  have eh : r4.h = r.h := h.2.2.1
  have hp4 : σ4 pl = some (.list (ps.map FD)) := h.2.2.2.1
  have o4 : Out f cl nl pl r4 := h.2.2.2.2.1
  have en : g4.ns = g.ns := h.2.2.2.2.2.1
  have hpl : ps.length = m := by have := h.2.2.2.2.2.2.1; rw [ER] at this; exact this
  have hk4 : k4 <= k + 1 + 2 * m := by have := h.2.2.2.2.2.2.2; rw [ER] at this; exact this
  clear h
  refine w4.draw O (R.le (by decide)) (n := 3) (by decide) (by omega) fun m2 σ5 hm2 w5 go5 => ?_
  rw [<- eh]
  refine C453 O (R.le (by decide)) w5 re4 (en ▸ h0) (by omega) (by rw [en]; omega) (by omega) fun σ6 r6 g6 k6 w6 re6 go6 hl6 hk6 => ?_
  have p6 := o4.go (go5.trans go6) hp4
  have ri := re6.ri
  have hcap := ri.cap
  have hlen := ri.len
  rw [<- go6.h]
  apply w6.H.i.m_settle O
  refine C382 O (R.le (by decide)) w6.H ri.W (by omega) fun r7 σ7 g7 se H7 W7 N7 => ?_
  rw [<- N7.h]
  obtain ⟨l6, e6, _⟩ := hl6
  exact C495c O R law ⟨re6, ⟨l2 ++ l6, by rw [e6, en, e2]; rfl⟩, se⟩ (w6.heap H7 N7 (HX se)) W7 ri (N7.keep p6.2.r p6.1) (by omega) q
theorem Q4 : (("b" : Str), ([] : List Nat)) ∉ [(("a" : Str), ([] : List Nat))] := by iterate 1
 exact fun h => by
  have := congrArg Prod.fst (Ag.mp h)
  exact absurd this (by decide +kernel)
theorem C495 (O : Ok c) (R : Af A 15) (law : HW) (hs : LAT c σ sl (cs.map .int)) (hz : cs.length <= 64) (q : ∀ σ', Q (.bool true) σ') : Ac c A (.ref 495) [.ref sl] σ Q := by iterate 1
 refine d495 O R fun A R => ?_
 have cz : (cs.map D.int).length <= 1000000 := by rw [Am]; exact Ap hz (by decide)
 refine ⟨sl, _, rfl, hs, cz, fun sl' σ1 n1 => ?_⟩
 rw [<- List.map_take] at n1
 have tz : (cs.take 40).length <= 64 := by rw [C7]; exact Ap (GG _ _) (by decide)
 refine C.listL n1.at_ (by rw [Am]; exact Ap tz (by decide)) fun cl σ2 n2 => ?_
 intro f σ3 n3
 refine C430 O (R.le (by decide)) fun r σ4 H4 F4 hno => ?_
 intro nl σ5 n5
 have H5 := H4.keep n5.fr
 have fF : Fr σ3 σ5 [] := F4.trans n5.fr
 have hf3 : f ∉ r.fp := fun q => by have := hno f q; rw [n3.at_] at this; cases this
 have hc3 : cl ∉ r.fp := fun q => by have := hno cl q; rw [n3.keep n2.at_] at this; cases this
 have hn3 : nl ∉ r.fp := fun q => by
  obtain ⟨o, e⟩ := H4.fp_some _ q
  rw [n5.no] at e; cases e
 have hnc : nl ≠ cl := fun q => by
  have := F4.at0 (n3.keep n2.at_)
  rw [<- q, n5.no] at this; cases this
 have F5 : CZ σ5 f cl (cs.take 40) 0 := ⟨fF.at0 n3.at_, fF.at0 (n3.keep n2.at_), tz, BC _⟩
 apply H5.i.m_add O
 refine MB (ks := []) O (R.le (by decide)) H5 MD (by decide) Ar J4 (fun _ h => (Ar h).elim) (by decide) (by decide) fun r6 σ6 H6 N6 => ?_
 have re6 : BP ((G0.grown ("a", [])).lookAt G0.ns.length ("a", [])) [] := .add .zero Ar (fun _ h => (Ar h).elim) (by decide) J4 (by decide)
 have e6 := HT G0 ("a", [])
 have e6' : ((G0.grown ("a", [])).lookAt G0.ns.length ("a", [])).ns = [(("a" : Str), [])] := e6
 have h6 : ((G0.grown ("a", [])).lookAt G0.ns.length ("a", [])).ns.length = 1 := by rw [e6']; rfl
 have c6 := re6.ri.cap
 rw [<- N6.h]
 apply H6.i.m_add O
 refine MB (ks := []) O (R.le (by decide)) H6 re6.ri.W (by rw [h6] at c6; exact Bd (Fn c6) (by decide)) (by rw [e6']; exact Q4) op_b (fun _ h => (Ar h).elim) (by decide) (by rw [h6]; decide) fun r7 σ7 H7 N7 => ?_
 have re7 := BP.add (x := (("b" : Str), [])) re6 (by rw [e6']; exact Q4) (fun _ h => (Ar h).elim) (BC 2) op_b (by rw [h6]; decide)
 have e7 := (HT ((G0.grown ("a", [])).lookAt G0.ns.length ("a", [])) (("b" : Str), [])).trans (congrArg (· ++ [(("b" : Str), [])]) e6')
 have off6f := N6.off hf3 F5.at_
 have off6c := N6.off hc3 F5.cells
 have n5' : σ5 nl = some (.list ([(("a" : Str), ([] : List Nat)), (("b" : Str), [])].map AE)) := n5.at_
 have off6n := N6.off hn3 n5'
 have k6f := N6.keep hf3 F5.at_
 have k6c := N6.keep hc3 F5.cells
 have k6n := N6.keep hn3 n5'
 have w7 : Wd f cl nl (cs.take 40) σ7 r7 _ 0 := ⟨H7, ⟨N7.keep off6f k6f, N7.keep off6c k6c, tz, BC _⟩, by rw [e7]; exact N7.keep off6n k6n, N7.off off6f k6f, N7.off off6c k6c, N7.off off6n k6n, hnc⟩
 rw [<- N7.h]
 refine w7.draw O (R.le (by decide)) (n := 2) (by decide) (by decide) fun m σ8 hm w8 go8 => ?_
 refine BOP.HA (a := 3) ?_
 have h7 : ∀ {l : List Ao}, l = [(("a" : Str), [])] ++ [(("b" : Str), [])] -> l.length = 2 := fun e => by rw [e]; rfl
 have h7' := h7 e7
 refine C453 O (R.le (by decide)) w8 re7 (by rw [h7']; decide) (by decide) (by rw [h7']; omega) (by omega) fun σ9 r9 g9 k9 w9 re9 go9 hl9 hk9 => ?_
 rw [<- go9.h]
 obtain ⟨l9, e9, hl9⟩ := hl9
 refine C495b O R law w9 re9 ⟨l9, ?_, by omega⟩ (by omega) fun vs σ' => q σ'
 rw [e9, e7]; rfl
end
noncomputable def G.rt (g : G) (a : Nat) : Nat := Ae g.uf.par a
theorem FG (W : GW g) (a : Nat) : g.rt a <= a := L1 W.wf.le a
theorem Ks {α : Type} (h : c ≠ l) : ∀ ab : List (Nat × α), (ab.filter fun p => p.1 != l).lookup c = ab.lookup c
 | [] => rfl
 | (a, v) :: ab => by iterate 1
  rw [GA]
  split
  ·rw [AY, AY, Ks h ab]
  ·rename_i e
   have : a = l := by simpa using e
   rw [AY, this, beq_eq_false_iff_ne.mpr h]
   exact Ks h ab
theorem Kt : ∀ ab : List (Nat × List Nat), (ab.map fun p => if p.1 = k then (k, p.2 ++ y) else p).lookup c = (ab.lookup c).map fun v => if c = k then v ++ y else v
 | [] => rfl
 | (a, v) :: ab => by iterate 1
  have e0 : (if (a, v).1 = k then (k, (a, v).2 ++ y) else (a, v)) = (a, if a = k then v ++ y else v) := by
   show (if a = k then (k, v ++ y) else (a, v)) = _
   split
   ·rename_i e; rw [e]
   ·rfl
  rw [AM, e0, AY, AY]
  by_cases e : c = a
  ·subst e
   rw [beq_self_eq_true]; rfl
  ·rw [beq_eq_false_iff_ne.mpr e]
   exact Kt ab
theorem Q5 (h : m ∈ Bg ab c) : ∃ v, ab.lookup c = some v /\ m ∈ v := by iterate 1
 unfold Bg at h
 cases e : ab.lookup c with
 | none => rw [e] at h; exact (Ar h).elim
 | some v => rw [e] at h; exact ⟨v, rfl, h⟩
theorem Q6 (h : m ∈ Bg ab c) : m ∈ Bg (ab.map fun p => if p.1 = k then (k, p.2 ++ y) else p) c := by iterate 1
 obtain ⟨v, e, hv⟩ := Q5 h
 unfold Bg
 rw [Kt, e]
 show m ∈ if c = k then v ++ y else v
 split
 ·exact BY _ hv
 ·exact hv
theorem Q7 {k m : Nat} {y v : List Nat} {ab : List (Nat × List Nat)} (h : ab.lookup k = some v) (hm : m ∈ y) : m ∈ Bg (ab.map fun p => if p.1 = k then (k, p.2 ++ y) else p) k := by iterate 1
 unfold Bg
 rw [Kt, h]
 show m ∈ if k = k then v ++ y else v
 rw [if_pos rfl]
 exact BK _ hm
theorem Wn (hc : c ≠ l) (h : m ∈ Bg ab c) : m ∈ Bg (ab.filter fun p => p.1 != l) c := by iterate 1
 unfold Bg
 rw [Ks hc]; exact h
theorem M9 (n : Nat) : ∀ (l : List Nat) (ab : List (Nat × List Nat)), m ∈ Bg ab c -> m ∈ Bg (l.foldl (BZ n) ab) c
 | [], _, h => h
 | a :: l, ab, h => M9 n l _ (Q6 h)
theorem Q8 (n : Nat) : ∀ (l : List Nat) (ab : List (Nat × List Nat)), c ∈ l -> (∃ v, ab.lookup c = some v) -> n ∈ Bg (l.foldl (BZ n) ab) c
 | a :: l, ab, h, ⟨v, e⟩ => by iterate 1
  rcases Ay.mp h with q | h
  ·subst q; exact M9 n l _ (Q7 e (.head _))
  ·exact Q8 n l _ h ⟨_, by unfold BZ; rw [Kt, e]; rfl⟩
theorem HZ {α β : Type} [BEq α] {l : List (α × β)} {p : α × β} {c : α} {v : β} (h : l.lookup c = some v) : (l ++ [p]).lookup c = some v := by iterate 1
 induction l with
 | nil => cases h
 | cons q l ih =>
  obtain ⟨a, w⟩ := q
  rw [GU, AY]
  rw [AY] at h
  split
  ·rename_i e; rw [e] at h; exact h
  ·rename_i e; rw [e] at h; exact ih h
theorem Na {α β : Type} [BEq α] [LawfulBEq α] {l : List (α × β)} {c : α} {v : β} (h : l.lookup c = none) : (l ++ [(c, v)]).lookup c = some v := by iterate 1
 induction l with
 | nil => rw [GV, AY, beq_self_eq_true]
 | cons q l ih =>
  obtain ⟨a, w⟩ := q
  rw [GU, AY]
  rw [AY] at h
  split
  ·rename_i e; rw [e] at h; cases h
  ·rename_i e; rw [e] at h; exact ih h
noncomputable def OKn (g : G) (n : Nat) (x : Ao) : Prop := n ∈ g.wait ∨ ∃ m, Ck g.known (BB g.uf.par x) = some m /\ g.rt m = g.rt n
structure KI (g : G) (ex : Nat -> Prop) (ps : List (Nat × Nat)) : Prop where
 ab : ∀ (n : Nat) (x : Ao), g.ns[n]? = some x -> ∀ k ∈ x.2, n ∈ Bg g.above (g.rt k)
 ok : ∀ (n : Nat) (x : Ao), g.ns[n]? = some x -> ¬ ex n -> OKn g n x
 kids : ∀ (n : Nat) (x : Ao), g.ns[n]? = some x -> ∀ k ∈ x.2, k < n
 told : ∀ p ∈ ps, g.rt p.1 = g.rt p.2
noncomputable abbrev FH : Nat -> Prop := fun _ => False
section
variable {g : G} {ex : Nat -> Prop} {ps : List (Nat × Nat)}
theorem Ku (W : GW g) (hkl : k < l) (hl : l < g.ns.length) (rk : g.uf.par.getD k k = k) (rl : g.uf.par.getD l l = l) (n : Nat) : (g.joined k l).rt n = if g.rt n = l then k else g.rt n := by iterate 1
 exact L2 W.wf.le hkl (W.len ▸ hl) rk rl n
theorem KI.joined (K : KI g ex ps) (W : GW g) (hkl : k < l) (hl : l < g.ns.length) (rk : g.uf.par.getD k k = k) (rl : g.uf.par.getD l l = l)
  (he : ∀ (n : Nat) (x : Ao), g.ns[n]? = some x -> ex n -> ∃ m, Ck g.known (BB g.uf.par x) = some m /\ ((g.rt m = k /\ g.rt n = l) ∨ (g.rt m = l /\ g.rt n = k))) : KI (g.joined k l) FH ps := by iterate 1
 have rt' := Ku W hkl hl rk rl
 have same : ∀ {a b : Nat}, g.rt a = g.rt b -> (g.joined k l).rt a = (g.joined k l).rt b := fun h => by rw [rt', rt', h]
 refine ⟨fun n x hx c hc => ?_, fun n x hx _ => ?_, K.kids, fun p hp => same (K.told p hp)⟩
 ·have h1 := K.ab n x hx c hc
  rw [rt']
  obtain ⟨v, hv⟩ := W.has k (DB hkl hl) rk
  have hv' := Ge W.nk hv
  split
  ·rename_i e
   rw [e] at h1
   exact Q7 ((Ks (A8 hkl) _).trans hv') h1
  ·rename_i e
   exact Q6 (Wn e h1)
 ·by_cases hk : ∃ c ∈ x.2, g.rt c = l
  ·obtain ⟨c, hc, e⟩ := hk
   have h1 := K.ab n x hx c hc
   rw [e] at h1
   exact .inl (BK _ h1)
  ·have ec : BB (g.joined k l).uf.par x = BB g.uf.par x := by
    refine Prod.ext rfl (Cg fun c hc => ?_)
    have := rt' c
    rw [if_neg fun q => hk ⟨c, hc, q⟩] at this
    exact this
   unfold OKn
   rw [ec]
   by_cases hex : ex n
   ·obtain ⟨m, h1, h2⟩ := he n x hx hex
    refine .inr ⟨m, h1, ?_⟩
    have kl := A8 hkl
    rw [rt', rt']
    rcases h2 with ⟨e1, e2⟩ | ⟨e1, e2⟩
    ·rw [e1, e2, if_neg kl, if_pos rfl]
    ·rw [e1, e2, if_neg kl, if_pos rfl]
   ·rcases K.ok n x hx hex with h | ⟨m, h1, h2⟩
    ·exact .inl (BY _ h)
    ·exact .inr ⟨m, h1, same h2⟩
theorem mm1 (x y : Nat) : (x = min x y /\ y = max x y) ∨ (x = max x y /\ y = min x y) := by iterate 1
 rcases EI x y with q | q
 ·exact .inl ⟨(Ft q).symm, (HB q).symm⟩
 ·exact .inr ⟨(HC q).symm, (F0 q).symm⟩
theorem mm2 (x y : Nat) : (if x = max x y then min x y else x) = (if y = max x y then min x y else y) := by iterate 1
 rcases EI x y with q | q
 ·rw [Ft q, HB q, ite_self, if_pos rfl]
 ·rw [F0 q, HC q, ite_self, if_pos rfl]
theorem KI.join (K : KI g ex ps) (W : GW g) (ha : a < g.ns.length) (hb : b < g.ns.length)
  (he : ∀ (n : Nat) (x : Ao), g.ns[n]? = some x -> ex n -> Ck g.known (BB g.uf.par x) = some a /\ n = b) : KI (g.join a b) FH ps /\ (g.join a b).rt a = (g.join a b).rt b := by
 unfold G.join
 split
 ·rename_i e
  refine ⟨⟨K.ab, fun n x hx _ => ?_, K.kids, K.told⟩, e⟩
  by_cases h : ex n
  ·obtain ⟨h1, h2⟩ := he n x hx h
   exact .inr ⟨a, h1, h2 ▸ e⟩
  ·exact K.ok n x hx h
 ·rename_i e
  have hlt := HJ e
  have hl := HK (Bd (FG W a) ha) (Bd (FG W b) hb)
  have rk := J8 W.wf.le a b
  have rl := HH W.wf.le a b
  refine ⟨K.joined W hlt hl rk rl fun n x hx h => ?_, ?_⟩
  ·obtain ⟨h1, rfl⟩ := he n x hx h
   refine ⟨a, h1, ?_⟩
   show (Ae g.uf.par a = min (Ae g.uf.par a) (Ae g.uf.par n) /\ Ae g.uf.par n = max (Ae g.uf.par a) (Ae g.uf.par n)) ∨ (Ae g.uf.par a = max (Ae g.uf.par a) (Ae g.uf.par n) /\ Ae g.uf.par n = min (Ae g.uf.par a) (Ae g.uf.par n))
   exact mm1 _ _
  ·rw [Ku W hlt hl rk rl, Ku W hlt hl rk rl]
   show (if Ae g.uf.par a = max (Ae g.uf.par a) (Ae g.uf.par b) then min (Ae g.uf.par a) (Ae g.uf.par b) else Ae g.uf.par a) = if Ae g.uf.par b = max (Ae g.uf.par a) (Ae g.uf.par b) then min (Ae g.uf.par a) (Ae g.uf.par b) else Ae g.uf.par b
   exact mm2 _ _
theorem KI.look (K : KI g (· = n) ps) (W : GW g) (hx : g.ns[n]? = some x) : KI (g.lookAt n x) FH ps := by iterate 1
 have hn := (AT.mp hx).1
 unfold G.lookAt
 split
 ·rename_i e
  refine ⟨K.ab, fun n' y hy _ => ?_, K.kids, K.told⟩
  by_cases h : n' = n
  ·subst h
   have hy : g.ns[n']? = some y := hy
   rw [hx] at hy; cases hy
   exact .inr ⟨n', Na e, rfl⟩
  ·rcases K.ok n' y hy h with h | ⟨m, h1, h2⟩
   ·exact .inl h
   ·exact .inr ⟨m, HZ h1, h2⟩
 ·rename_i m e
  refine (K.join W (W.kn _ (Gf e)) hn fun n' y hy h => ?_).1
  subst h
  rw [hx] at hy; cases hy
  exact ⟨e, rfl⟩
theorem Q9 (W : GW g) (x : Ao) (a : Nat) : (g.grown x).rt a = g.rt a := Jk W.wf.le a
theorem Nb {ns : List Ao} {x y : Ao} (h : (ns ++ [x])[n]? = some y) : (ns[n]? = some y /\ n < ns.length) ∨ (n = ns.length /\ y = x) := by iterate 1
 rcases Mo n ns.length with h1 | h1 | h1
 ·rw [CQ h1] at h; exact .inl ⟨h, h1⟩
 ·subst h1
  rw [C8 (Az _), Fj] at h
  exact .inr ⟨rfl, (Cn h).symm⟩
 ·rw [D8 (by rw [AD]; exact h1)] at h; cases h
theorem KI.grown (K : KI g FH ps) (W : GW g) (hk : ∀ k ∈ x.2, k < g.ns.length) : KI (g.grown x) (· = g.ns.length) ps := by iterate 1
 have rt' := Q9 W x
 have ec : ∀ y, BB (g.grown x).uf.par y = BB g.uf.par y := fun y => Prod.ext rfl (Cg fun c _ => rt' c)
 refine ⟨fun n y hy c hc => ?_, fun n y hy h => ?_, fun n y hy => ?_, fun p hp => by rw [rt', rt']; exact K.told p hp⟩
 ·rw [rt']
  rcases Nb hy with ⟨h, _⟩ | ⟨rfl, rfl⟩
  ·refine M9 _ _ _ ?_
   obtain ⟨v, e, hv⟩ := Q5 (K.ab n y h c hc)
   unfold Bg
   rw [HZ e]; exact hv
  ·have hr : g.rt c < g.ns.length := Bd (FG W c) (hk c hc)
   obtain ⟨v, hv⟩ := W.has (g.rt c) hr (Dm W.wf.le c)
   exact Q8 _ _ _ (Qn.mpr ⟨c, hc, rt' c⟩) ⟨v, HZ (Ge W.nk hv)⟩
 ·rcases Nb hy with ⟨h', _⟩ | ⟨rfl, _⟩
  ·unfold OKn
   rw [ec, rt']
   rcases K.ok n y h' id with h | ⟨m, h1, h2⟩
   ·exact .inl h
   ·exact .inr ⟨m, h1, by rw [rt']; exact h2⟩
  ·exact absurd rfl h
 ·rcases Nb hy with ⟨h', _⟩ | ⟨rfl, rfl⟩
  ·exact K.kids n y h'
  ·exact hk
theorem BP.ki (h : BP g ps) : KI g FH ps := by iterate 1
 induction h with
 | zero =>
  have no : ∀ (n : Nat) (x : Ao), G0.ns[n]? = some x -> False := fun n x h => Ar (AX h)
  exact ⟨fun n x h => (no n x h).elim, fun n x h => (no n x h).elim, fun n x h => (no n x h).elim, fun _ h => (Ar h).elim⟩
 | @add g ps x re _ hk hl ho h8 ih =>
  have W := re.ri.W
  have W' := W.grown (x := x) (Ap hl (by decide)) (Ht h8 (by decide))
  refine (ih.grown W hk).look W'.1 ?_
  show (g.ns ++ [x])[g.ns.length]? = some x
  rw [C8 (Az _), Fj]; rfl
 | @told g ps a b re ha hb ih =>
  obtain ⟨K, e⟩ := ih.join re.ri.W ha hb (fun _ _ _ h => h.elim)
  refine ⟨K.ab, K.ok, K.kids, fun p hp => ?_⟩
  rcases AC.mp hp with hp | hp
  ·exact K.told p hp
  ·rw [Ag.mp hp]; exact e
theorem DE.ki (h : DE g g') (W : GW g) (K : KI g FH ps) : KI g' FH ps /\ g'.wait = [] /\ GW g' := by iterate 1
 induction h with
 | done e => exact ⟨K, e, W⟩
 | @step g g' w n x hw hx _ ih =>
  obtain ⟨W1, hn, hs, _⟩ := W.pop hw
  refine ih (W1.look hn hs) (KI.look (g := g.wWait w) ⟨K.ab, fun n' y hy h => ?_, K.kids, K.told⟩ W1 hx)
  rcases K.ok n' y hy id with q | q
  ·rw [hw] at q
   rcases AC.mp q with q | q
   ·exact .inl q
   ·exact absurd (Ag.mp q) h
  ·exact .inr q
theorem KI.cong (K : KI g FH ps) (hw : g.wait = []) {a b : Nat} {x y : Ao} (hx : g.ns[a]? = some x) (hy : g.ns[b]? = some y) (e : BB g.uf.par x = BB g.uf.par y) : g.rt a = g.rt b := by iterate 1
 rcases K.ok a x hx id with h | ⟨m, h1, h2⟩
 ·rw [hw] at h; exact (Ar h).elim
 rcases K.ok b y hy id with h | ⟨m', h3, h4⟩
 ·rw [hw] at h; exact (Ar h).elim
 rw [e, h3] at h1
 rw [<- h2, <- h4, Cn h1]
noncomputable def Ey (c : Nat -> Nat) (x : Ao) : Ao := (x.1, x.2.map c)
structure Ee (c : Nat -> Nat) (ns : List Ao) (ps : List (Nat × Nat)) : Prop where
 told : ∀ p ∈ ps, c p.1 = c p.2
 cong : ∀ (a b : Nat) (x y : Ao), ns[a]? = some x -> ns[b]? = some y -> Ey c x = Ey c y -> c a = c b
structure DH (g : G) (c : Nat -> Nat) : Prop where
 rt : ∀ a, c (g.rt a) = c a
 kn : ∀ y m, (y, m) ∈ g.known -> ∃ x, g.ns[m]? = some x /\ Ey c y = Ey c x
theorem DH.join {c : Nat -> Nat} (S : DH g c) (W : GW g) (ha : a < g.ns.length) (hb : b < g.ns.length) (h : c a = c b) : DH (g.join a b) c := by iterate 1
 unfold G.join
 split
 ·exact S
 ·rename_i e
  have rt' := Ku W (HJ e) (HK (Bd (FG W a) ha) (Bd (FG W b) hb)) (J8 W.wf.le a b) (HH W.wf.le a b)
  refine ⟨fun n => ?_, S.kn⟩
  rw [rt']
  have hmin : c (min (Ae g.uf.par a) (Ae g.uf.par b)) = c a := by
   rcases EI (Ae g.uf.par a) (Ae g.uf.par b) with q | q
   ·rw [Ft q]; exact S.rt a
   ·rw [F0 q, h]; exact S.rt b
  have hmax : c (max (Ae g.uf.par a) (Ae g.uf.par b)) = c a := by
   rcases EI (Ae g.uf.par a) (Ae g.uf.par b) with q | q
   ·rw [HB q, h]; exact S.rt b
   ·rw [HC q]; exact S.rt a
  split
  ·rename_i e'
   rw [hmin, <- hmax, <- e']; exact S.rt n
  ·exact S.rt n
theorem DH.row {c : Nat -> Nat} (S : DH g c) (x : Ao) : Ey c (BB g.uf.par x) = Ey c x := by iterate 1
 unfold Ey BB
 rw [A2]
 exact Prod.ext rfl (Cg fun a _ => S.rt a)
theorem DH.look {c : Nat -> Nat} (S : DH g c) (W : GW g) (C : Ee c g.ns ps) (hx : g.ns[n]? = some x) : DH (g.lookAt n x) c := by iterate 1
 unfold G.lookAt
 split
 ·refine ⟨S.rt, fun y m h => ?_⟩
  rcases AC.mp h with h | h
  ·exact S.kn y m h
  ·cases Ag.mp h
   exact ⟨x, hx, S.row x⟩
 ·rename_i m e
  have hm := Gf e
  obtain ⟨x', h1, h2⟩ := S.kn _ _ hm
  exact S.join W (W.kn _ hm) (AT.mp hx).1 (C.cong m n x' x h1 hx (h2.symm.trans (S.row x)))
theorem Ee.sub {c : Nat -> Nat} {ns ns' : List Ao} {ps' : List (Nat × Nat)} (C : Ee c (ns ++ ns') (ps ++ ps')) : Ee c ns ps := by iterate 1
 exact ⟨fun p hp => C.told p (BY _ hp), fun a b x y hx hy => C.cong a b x y
  (by rw [CQ (AT.mp hx).1]; exact hx) (by rw [CQ (AT.mp hy).1]; exact hy)⟩
theorem BP.si {c : Nat -> Nat} (h : BP g ps) : Ee c g.ns ps -> DH g c := by iterate 1
 induction h with
 | zero => exact fun _ => ⟨fun a => congrArg c (EJ (par := []) MD.wf.le rfl), fun _ _ h => (Ar h).elim⟩
 | @add g ps x re _ hk hl ho h8 ih =>
  intro C
  rw [HT] at C
  have W := re.ri.W
  have W' := W.grown (x := x) (Ap hl (by decide)) (Ht h8 (by decide))
  have S := ih (Ee.sub (ns := g.ns) (ns' := [x]) (ps := ps) (ps' := []) (by rw [BQ]; exact C))
  have S' : DH (g.grown x) c := ⟨fun a => by rw [Q9 W]; exact S.rt a, fun y m h => by
   obtain ⟨z, h1, h2⟩ := S.kn y m h
   exact ⟨z, (CQ (AT.mp h1).1).trans h1, h2⟩⟩
  refine S'.look W'.1 C ?_
  show (g.ns ++ [x])[g.ns.length]? = some x
  rw [C8 (Az _), Fj]; rfl
 | @told g ps a b re ha hb ih =>
  intro C
  rw [Kq] at C
  have S := (ih (Ee.sub (ns := g.ns) (ns' := []) (ps := ps) (ps' := [(a, b)]) (by rw [BQ]; exact C))).join re.ri.W ha hb (C.told (a, b) (BK _ (.head _)))
  exact ⟨S.rt, S.kn⟩
theorem DE.si {c : Nat -> Nat} (h : DE g g') (W : GW g) (C : Ee c g.ns ps) (S : DH g c) : DH g' c := by iterate 1
 induction h with
 | done e => exact S
 | @step g g' w n x hw hx _ ih =>
  obtain ⟨W1, hn, hs, _⟩ := W.pop hw
  exact ih (W1.look hn hs) (by rw [Mw]; exact C) (DH.look (g := g.wWait w) ⟨S.rt, S.kn⟩ W1 C hx)
end
theorem Ra (n a : Nat) : (Bn n).getD a a = a := by iterate 1
 rw [Bt]
 by_cases h : a < n
 ·rw [Ie h]; rfl
 ·rw [D8 (by rw [D7]; omega)]; rfl
theorem Rb {l : List Nat} (h : l.length <= a) : l.getD a a = a := by iterate 1 rw [Bt, D8 h]; rfl
theorem Rc (h : ∀ i, hm.getD i i <= i) (i : Nat) : (C0 hm a b).getD i i <= i := by iterate 1
 by_cases hi : i < hm.length
 ·rw [He hi]
  have := h i
  split
  ·rename_i e
   rcases e with e | e <;> omega
  ·exact this
 ·rw [Rb (by rw [M1]; omega)]; exact Az _
theorem CK.le (h : CK ns ps hm) : ∀ i, hm.getD i i <= i := by iterate 1
 induction h with
 | zero => exact fun i => Gx (Ra _ _)
 | told _ _ _ _ ih => exact Rc ih
 | like _ _ _ _ ih => exact Rc ih
theorem Rd {c : Nat -> Nat} (h : ∀ i, i < hm.length -> c (hm.getD i i) = c i) (ha : a < hm.length) (hb : b < hm.length) (e : c a = c b) : ∀ i, i < hm.length -> c ((C0 hm a b).getD i i) = c i := by iterate 1
 exact fun i hi => by
  rw [He hi]
  have h1 := h a ha
  have h2 := h b hb
  have h3 := h i hi
  split
  ·rename_i q
   have h4 : c i = c a := by
    rcases q with q | q
    ·rw [q, h1] at h3; exact h3.symm
    ·rw [q, h2] at h3; rw [e]; exact h3.symm
   rcases EI (hm.getD a a) (hm.getD b b) with z | z
   ·rw [Ft z, h1, h4]
   ·rw [F0 z, h2, h4, e]
  ·exact h3
theorem CK.rt {c : Nat -> Nat} (h : CK ns ps hm) (C : Ee c ns ps) (hk : ∀ x ∈ ns, ∀ k ∈ x.2, k < ns.length) : ∀ i, i < ns.length -> c (hm.getD i i) = c i := by iterate 1
 induction h with
 | zero => exact fun i _ => by rw [Ra]
 | told h hp ha hb ih => exact fun i hi => Rd (fun i hi => ih i (h.len ▸ hi)) (h.len ▸ ha) (h.len ▸ hb) (C.told _ hp) i (h.len ▸ hi)
 | @like hm a b x y h hx hy e ih =>
  have ha := (AT.mp hx).1
  have hb := (AT.mp hy).1
  have hr : ∀ {z : Ao}, z ∈ ns -> Ey c (B0 hm z) = Ey c z := fun {z} hz => by
   unfold Ey B0
   rw [A2]
   exact Prod.ext rfl (Cg fun k hkz => ih k (hk z hz k hkz))
  have ec : c a = c b := C.cong a b x y hx hy (by rw [<- hr (AX hx), <- hr (AX hy), e])
  exact fun i hi => Rd (fun i hi => ih i (h.len ▸ hi)) (h.len ▸ ha) (h.len ▸ hb) ec i (h.len ▸ hi)
theorem Wo (re : BP g ps) (se : DE g g') (H : CK g.ns ps hm) (T : EW hm ps) (C : FE g.ns hm g.ns.length) (ha : a < g.ns.length) : g'.rt a = hm.getD a a := by iterate 1
 have ri := re.ri
 obtain ⟨K, hw, W⟩ := se.ki ri.W re.ki
 have en := HX se
 have C1 : Ee g'.rt g.ns ps := ⟨K.told, fun a b x y hx hy e => K.cong hw (en ▸ hx) (en ▸ hy) e⟩
 have C2 : Ee (fun a => hm.getD a a) g.ns ps := ⟨T, fun a b x y hx hy e => by
  have ha := (AT.mp hx).1
  have hb := (AT.mp hy).1
  rcases Mo a b with h | h | h
  ·exact (C b hb a h y x hy hx e.symm).symm
  ·rw [h]
  ·exact C a ha b h x y hx hy e⟩
 have S := se.si ri.W C2 (re.si C2)
 have h1 := H.rt C1 (fun x hx => (ri.ns x hx).2.2) a ha
 have h2 : hm.getD (g'.rt a) (g'.rt a) = hm.getD a a := S.rt a
 have h3 := H.le (g'.rt a)
 have h4 := FG W (hm.getD a a)
 omega
section
open PySem PyProof.Rows
noncomputable def Kl (g : G) (a : Nat) : Prop := a < g.ns.length /\ g.rt a = a
structure MF (g : G) (kn : List (Ao × Nat)) : Prop where
 mem : ∀ a y, Kl g a -> (y ∈ Cm g a ↔ Ck kn y = some a)
 kids : ∀ a y, Kl g a -> y ∈ Cm g a -> ∀ k ∈ y.2, Kl g k
theorem EY : ∀ {T : Tab}, x ∈ keysT T -> ∃ b, T.lookup x = some b
 | (y, w) :: T, h => by iterate 1
  rw [AY]
  by_cases e : x = y
  ·subst e; rw [beq_self_eq_true]; exact ⟨w, rfl⟩
  ·rw [beq_eq_false_iff_ne.mpr e]
   exact EY ((Ay.mp h).resolve_left e)
theorem Nc (h : T.lookup x = some b) : x ∈ keysT T := AS (f := (·.1)) (D3 h)
theorem Wp (hT : A1 T) (h : ¬ AP op) : T.lookup op = none := by
 cases e : T.lookup op with
 | none => rfl
 | some b => exact absurd (hT.vs _ (D3 e)) h
theorem Hf {kn : List (Ao × Nat)} {T : Tab} {op : Str} {ks : List Pat} (hT : A1 T) (h : ¬ AP op) : AL kn T (.node op ks) = match BL kn T ks with
  | none => none
  | some as => Ck kn (op, as) := by iterate 1
 unfold AL
 rw [Wp hT h] <;> rfl
theorem Hg (h : T.lookup x = some b) : AL kn T (.node x ks) = some b := by
 unfold AL
 rw [h]
theorem Rf : ∀ ps : List Pat, (∀ p ∈ ps, AL kn T p = AL kn T' p) -> BL kn T ps = BL kn T' ps
 | [], _ => by simp only [BL]
 | p :: ps, h => by iterate 1 simp only [BL]; rw [h p (.head _), Rf ps fun q hq => h q (.tail _ hq)]
theorem Hh : ∀ {ps : List Pat}, x ∈ nms ps ↔ ∃ p ∈ ps, x ∈ nm p
 | [] => by iterate 1
  simp only [nms]
  exact ⟨fun h => (Ar h).elim, fun ⟨_, h, _⟩ => (Ar h).elim⟩
 | p :: ps => by iterate 1
  simp only [nms, AC, Hh (ps := ps)]
  exact ⟨fun h => h.elim (fun h => ⟨p, .head _, h⟩) fun ⟨q, h1, h2⟩ => ⟨q, .tail _ h1, h2⟩, fun ⟨q, h1, h2⟩ => by
   rcases Ay.mp h1 with rfl | h1
   ·exact .inl h2
   ·exact .inr ⟨q, h1, h2⟩⟩
theorem Kv (h : ¬ AP op) : nm (.node op ks) = nms ks := by unfold nm; rw [if_neg h]
theorem Nd (h : AP x) : nm (.node x ks) = [x] := by unfold nm; rw [if_pos h]
theorem Rg (hT : A1 T) (hT' : A1 T') (hp : Bq n p) : (∀ x ∈ nm p, x ∈ keysT T /\ T.lookup x = T'.lookup x) -> AL kn T p = AL kn T' p := by iterate 1
 induction hp with
 | var hv =>
  intro h
  rw [Nd hv] at h
  obtain ⟨h1, h2⟩ := h _ (.head _)
  obtain ⟨b, e⟩ := EY h1
  rw [Hg e, Hg (h2 ▸ e)]
 | op ho hnv hl hks ih =>
  intro h
  rw [Kv hnv] at h
  rw [Hf hT hnv, Hf hT' hnv, Rf _ fun p hp => ih p hp fun x hx => h x (Hh.mpr ⟨p, hp, hx⟩)]
section
variable {g : G} {kn : List (Ao × Nat)}
structure XS (g : G) (T t : Tab) : Prop where
 ext : ∀ x b, t.lookup x = some b -> T.lookup x = some b
 cls : ∀ x b, T.lookup x = some b -> t.lookup x = some b ∨ Kl g b
theorem XS.trans {T t s : Tab} (a : XS g T t) (b : XS g t s) : XS g T s := by iterate 1
 exact ⟨fun x c h => a.ext x c (b.ext x c h), fun x c h => (a.cls x c h).elim (b.cls x c) .inr⟩
theorem Rh {t : Tab} {x y : Str} (h : (t ++ [(x, a)]).lookup y = some b) : t.lookup y = some b ∨ (y = x /\ b = a) := by iterate 1
 cases e : t.lookup y with
 | some c => rw [HZ e] at h; exact .inl h
 | none =>
  by_cases q : y = x
  ·subst q
   rw [Na e] at h
   exact .inr ⟨rfl, (Cn h).symm⟩
  ·exfalso
   rcases AC.mp (D3 h) with h | h
   ·obtain ⟨c, hc⟩ := EY (AS (f := (·.1)) h)
    rw [e] at hc; cases hc
   ·exact q (congrArg Prod.fst (Ag.mp h))
theorem Ri : ∀ (ps : List Pat), (∀ p ∈ ps, Bq n p) -> (∀ p ∈ ps, ∀ t a T, A1 t -> Kl g a -> T ∈ ext g p t a -> XS g T t /\ AL kn T p = some a) ->
  ∀ (ts : List Tab) (as : List Nat), ps.length = as.length -> (∀ t ∈ ts, A1 t) -> (∀ a ∈ as, Kl g a) -> ∀ T ∈ BO g ps ts as, ∃ t ∈ ts, XS g T t /\ BL kn T ps = some as
 | [], _, _, ts, [], _, _, _, T, h => by iterate 1
  simp only [BO] at h
  exact ⟨T, h, ⟨fun _ _ h => h, fun _ _ h => .inl h⟩, by simp only [BL]⟩
 | p :: ps, hp, ih, ts, a :: as, hl, ht, ha, T, h => by iterate 1
  simp only [BO] at h
  have ht1 : ∀ t1 ∈ ts.flatMap fun t => ext g p t a, A1 t1 := fun t1 h1 => by
   obtain ⟨t, q1, q2⟩ := Dc.mp h1
   exact Fz g p t a (ht t q1) t1 q2
  obtain ⟨t1, h1, x1, w1⟩ := Ri ps (fun p h => hp p (.tail _ h)) (fun p h => ih p (.tail _ h)) _ as (ME hl) ht1 (fun a h => ha a (.tail _ h)) T h
  obtain ⟨t, h2, h3⟩ := Dc.mp h1
  obtain ⟨x2, w2⟩ := ih p (.head _) t a t1 (ht t h2) (ha a (.head _)) h3
  refine ⟨t, h2, x1.trans x2, ?_⟩
  have hT : A1 T := Kg g ps _ as ht1 T h
  have e : AL kn t1 p = AL kn T p := Rg (ht1 t1 h1) hT (hp p (.head _)) fun x hx => by
   have hk := (G9 g p t a t1 h3 x).mpr (.inr hx)
   obtain ⟨b, e⟩ := EY hk
   exact ⟨hk, by rw [e, x1.ext x b e]⟩
  simp only [BL]
  rw [<- e, w2, w1]
 | [], _, _, _, _ :: _, h, _, _, _, _ => by cases h
 | _ :: _, _, _, _, [], h, _, _, _, _ => by cases h
theorem Wq (M : MF g kn) (hp : Bq n p) : ∀ t a T, A1 t -> Kl g a -> T ∈ ext g p t a -> XS g T t /\ AL kn T p = some a := by iterate 1
 induction hp with
 | @var n x hv =>
  intro t a T ht ha h
  rw [Kj hv] at h
  unfold Ed at h
  split at h
  ·rename_i e
   rw [Ag.mp h]
   exact ⟨⟨fun y b h => HZ h, fun y b h => by
    rcases Rh h with h | ⟨_, rfl⟩
    ·exact .inl h
    ·exact .inr ha⟩, Hg (Na e)⟩
  ·rename_i b e
   split at h
   ·rename_i q
    rw [Ag.mp h]
    exact ⟨⟨fun _ _ h => h, fun _ _ h => .inl h⟩, Hg (q ▸ e)⟩
   ·cases h
 | @op n op ks ho hnv hl hks ih =>
  intro t a T ht ha h
  have hT := Fz g _ t a ht T h
  rw [Gj hnv] at h
  obtain ⟨y, h1, h2⟩ := Dc.mp h
  unfold Ew at h2
  split at h2
  ·rename_i e
   obtain ⟨t', h3, x, w⟩ := Ri ks hks (fun p hp => ih p hp) [t] y.2 e.2.symm (fun t' h => Ag.mp h ▸ ht) (M.kids a y ha h1) T h2
   rw [Ag.mp h3] at x
   refine ⟨x, ?_⟩
   rw [Hf hT hnv, w]
   show Ck kn (op, y.2) = some a
   rw [<- e.1]
   exact (M.mem a y ha).mp h1
  ·cases h2
theorem Rj {U : Tab} : ∀ (ps : List Pat), (∀ p ∈ ps, ∀ t a, (∀ x b, t.lookup x = some b -> U.lookup x = some b) -> Kl g a -> AL kn U p = some a -> ∃ T ∈ ext g p t a, ∀ x b, T.lookup x = some b -> U.lookup x = some b) ->
  ∀ (ts : List Tab) (as : List Nat) (t : Tab), t ∈ ts -> (∀ x b, t.lookup x = some b -> U.lookup x = some b) -> (∀ a ∈ as, Kl g a) -> BL kn U ps = some as -> ∃ T ∈ BO g ps ts as, ∀ x b, T.lookup x = some b -> U.lookup x = some b
 | [], _, ts, as, t, ht, h, _, w => ⟨t, by simp only [BO]; exact ht, h⟩
 | p :: ps, ih, ts, as, t, ht, h, ha, w => by iterate 1
  simp only [BL] at w
  split at w
  ·rename_i a as' e1 e2
   cases w
   obtain ⟨T1, h1, x1⟩ := ih p (.head _) t a h (ha a (.head _)) e1
   obtain ⟨T, h2, x2⟩ := Rj ps (fun p h => ih p (.tail _ h)) (ts.flatMap fun t => ext g p t a) as' T1 (Dc.mpr ⟨t, ht, h1⟩) x1 (fun a h => ha a (.tail _ h)) e2
   exact ⟨T, by simp only [BO]; exact h2, x2⟩
  ·cases w
theorem Wr (M : MF g kn) (hU : A1 U) (hp : Bq n p) : (∀ x ∈ nm p, x ∈ keysT U) -> ∀ t a, (∀ x b, t.lookup x = some b -> U.lookup x = some b) -> Kl g a -> AL kn U p = some a -> ∃ T ∈ ext g p t a, ∀ x b, T.lookup x = some b -> U.lookup x = some b := by iterate 1
 induction hp with
 | @var n x hv =>
  intro hd t a ht ha w
  rw [Nd hv] at hd
  obtain ⟨b, e⟩ := EY (hd x (.head _))
  rw [Hg e] at w
  cases w
  rw [Kj hv]
  unfold Ed
  split
  ·refine ⟨_, .head _, fun y c h => ?_⟩
   rcases Rh h with h | ⟨rfl, rfl⟩
   ·exact ht y c h
   ·exact e
  ·rename_i c e2
   rw [if_pos (Cn ((ht x c e2).symm.trans e))]
   exact ⟨t, .head _, ht⟩
 | @op n op ks ho hnv hl hks ih =>
  intro hd t a ht ha w
  rw [Kv hnv] at hd
  rw [Hf hU hnv] at w
  split at w
  ·cases w
  ·rename_i as e
   have h1 := (M.mem a (op, as) ha).mpr w
   obtain ⟨T, h2, h3⟩ := Rj ks (fun p hp => ih p hp fun x hx => hd x (Hh.mpr ⟨p, hp, hx⟩)) [t] as t (.head _) ht (M.kids a _ ha h1) e
   refine ⟨T, ?_, h3⟩
   rw [Gj hnv]
   refine Dc.mpr ⟨_, h1, ?_⟩
   unfold Ew
   rw [if_pos ⟨rfl, QQ e⟩]
   exact h2
end
end
section
open PySem PyProof.Rows
open Classical
structure EF (g : G) (hm : List Nat) (kn : List (Ao × Nat)) : Prop where
 W : GW g
 rt : ∀ a, a < g.ns.length -> g.rt a = hm.getD a a
 kids : ∀ (n : Nat) (x : Ao), g.ns[n]? = some x -> ∀ k ∈ x.2, k < n
 len : hm.length = g.ns.length
 n8 : g.ns.length <= 8
 kf : ∀ y m, Ck kn y = some m ↔ ∃ a x, g.ns[a]? = some x /\ y = B0 hm x /\ m = hm.getD a a
theorem Nf {α β : Type} [BEq α] [LawfulBEq α] {k : α} {v : β} : ∀ {l : List (α × β)}, (l.map (·.1)).Nodup -> (k, v) ∈ l -> l.lookup k = some v
 | (a, w) :: l, nd, h => by iterate 1
  rw [AM, BE] at nd
  rw [AY]
  rcases Ay.mp h with h | h
  ·cases h; rw [beq_self_eq_true]
  ·have : (k == a) = false := beq_eq_false_iff_ne.mpr fun q => nd.1 (q ▸ AS (f := (·.1)) h)
   rw [this]
   exact Nf nd.2 h
theorem HV.ef (f : HV g ps g' hm kn) : EF g' hm kn := by iterate 1
 have ri := f.re.ri
 obtain ⟨K, hw, W⟩ := f.se.ki ri.W f.re.ki
 have en := HX f.se
 refine ⟨W, fun a ha => Wo f.re f.se f.H f.T f.C (en ▸ ha), K.kids, by rw [f.H.len, en], en ▸ ri.len, fun y m => ⟨fun h => ?_, fun ⟨a, x, hx, e1, e2⟩ => ?_⟩⟩
 ·obtain ⟨a, x, _, hx, h1, h2⟩ := f.K.mem y m (Gf h)
  exact ⟨a, x, en ▸ hx, h1, h2⟩
 ·rw [en] at hx
  have ha := (AT.mp hx).1
  obtain ⟨m', h⟩ := f.K.has a x ha hx
  obtain ⟨b, z, hb, hz, h1, h2⟩ := f.K.mem _ _ h
  have : hm.getD b b = hm.getD a a := by
   rcases Mo a b with q | q | q
   ·exact f.C b hb a q z x hz hx h1.symm
   ·rw [q]
   ·exact (f.C a ha b q x z hx hz h1).symm
  rw [e1, e2, <- this, <- h2]
  exact Nf f.K.nd h
section
variable {g : G} {hm : List Nat} {kn : List (Ao × Nat)}
theorem EF.row (E : EF g hm kn) {n : Nat} (h : g.ns[n]? = some x) : BB g.uf.par x = B0 hm x := by iterate 1
 exact
  Prod.ext rfl (Cg fun k hk => E.rt k (DB (E.kids n x h k hk) (AT.mp h).1))
theorem EF.cls (E : EF g hm kn) (h : a < g.ns.length) : Kl g (hm.getD a a) := by iterate 1
 rw [<- E.rt a h]
 exact ⟨Bd (FG E.W a) h, Jj E.W.wf.le a⟩
theorem EF.mf (E : EF g hm kn) : MF g kn := by iterate 1
 refine ⟨fun a y ha => ?_, fun a y ha h => QG E.W E.kids ha.1 h⟩
 rw [E.kf]
 constructor
 ·intro h
  obtain ⟨m, h1, rfl⟩ := Av.mp h
  obtain ⟨h2, h3⟩ := (Gi E.W ha.1).mp h1
  have hx := G5 h2
  exact ⟨m, _, hx, E.row hx, by rw [<- E.rt m h2]; exact ha.2.symm.trans h3.symm⟩
 ·rintro ⟨m, x, hx, rfl, e⟩
  have hm := (AT.mp hx).1
  rw [<- E.row hx]
  refine Av.mpr ⟨m, (Gi E.W ha.1).mpr ⟨hm, ?_⟩, ?_⟩
  ·have h1 := E.rt m hm
   rw [<- e] at h1
   exact h1.trans ha.2.symm
  ·rw [Bt, hx]; rfl
theorem EF.home (E : EF g hm kn) : v ∈ AJ (AO hm) ↔ Kl g v := by iterate 1
 rw [(DU _).mem_iff, Fw]
 constructor
 ·intro h
  obtain ⟨a, ha⟩ := EZ.mp h
  have hl := (AT.mp ha).1
  have := E.cls (E.len ▸ hl)
  rw [Bt, ha] at this
  exact this
 ·intro h
  have h1 := E.rt v h.1
  rw [h.2] at h1
  have := M5 (hm := hm) (i := v) (by rw [E.len]; exact h.1)
  rw [<- h1] at this
  exact this
theorem Rk : (AJ (AO hm)).Nodup := by iterate 1
 exact (DU _).nodup_iff.mpr (Fy _)
end
theorem Rm : ∀ (T : Tab) (ts : List Tab) (t : Tab), t ∈ ts -> (∀ p ∈ T, p.2 ∈ hs) -> t ++ T ∈ (T.map (·.1)).foldl (CI hs) ts
 | [], ts, t, h, _ => by rw [BQ]; exact h
 | (x, b) :: T, ts, t, h, hv => by iterate 1
  have := Rm T (CI hs ts x) (t ++ [(x, b)]) (Dc.mpr ⟨t, h, Av.mpr ⟨b, hv _ (.head _), rfl⟩⟩) fun p hp => hv p (.tail _ hp)
  rw [Dg] at this
  exact this
theorem Rn (e : T.map (·.1) = ns) (h : ∀ p ∈ T, p.2 ∈ hs) : T ∈ Ds hs ns := e ▸ Rm T [[]] [] (.head _) h
theorem Ro (hn : hs.Nodup) : ∀ (ns : List Str) (ts : List Tab), ts.Nodup -> (ns.foldl (CI hs) ts).Nodup
 | [], _, h => h
 | x :: ns, ts, h => by iterate 1
  exact Ro hn ns _ (by
   unfold CI
   refine Ws.mpr ⟨fun t _ => E7.mpr (hn.imp fun {a b} hab q => hab ?_), h.imp fun {t t'} hne => fun u hu w hw q => hne ?_⟩
   ·have := Sm q
    exact congrArg Prod.snd (Gl this).1
   ·obtain ⟨a, _, rfl⟩ := Av.mp hu
    obtain ⟨b, _, rfl⟩ := Av.mp hw
    exact (List.append_inj' q rfl).1)
theorem Rp (hn : hs.Nodup) (ns : List Str) : (Ds hs ns).Nodup := Ro hn ns [[]] (El ..)
theorem Rq (h7 : hs.length <= 7) : ∀ {ns : List Str}, ns.length <= 2 -> (Ds hs ns).length <= 49
 | [], _ => DR rfl
 | [x], _ => by iterate 1
  show (CI hs [[]] x).length <= 49
  rw [Gq]; show 1 * hs.length <= 49; omega
 | [x, y], _ => by iterate 1
  show (CI hs (CI hs [[]] x) y).length <= 49
  rw [Gq, Gq]
  show 1 * hs.length * hs.length <= 49
  rw [My]
  exact Ap (MX h7 h7) (by decide)
theorem Gr (h : A1 T) : (x, b) ∈ T ↔ T.lookup x = some b := ⟨fun m => Nf h.nd m, D3⟩
noncomputable def H0 (p : Str × Nat) : D := .tup [.str p.1, .int (p.2 : Nat)]
theorem Ng (T : Tab) : BW (A7 T) = T.map H0 := by iterate 1 unfold BW A7; rw [A2]; rfl
theorem Wt (h : H0 p = H0 q) : p = q := by iterate 1
 unfold H0 at h
 injection h with h
 injection h with h1 h2
 injection h2 with h2
 injection h1 with h1
 injection h2 with h2
 exact Prod.ext h1 (DT.mp h2)
theorem Rr : H0 p ∈ A3 T ↔ p ∈ T := by iterate 1
 unfold A3
 rw [(Di _).mem_iff, Ng]
 exact ⟨fun h => by
  obtain ⟨q, hq, e⟩ := Av.mp h
  exact Wt e ▸ hq, fun h => AS h⟩
theorem Rs (h : A1 T) : T.Nodup := by iterate 1
 exact List.Pairwise.of_map (·.1) (fun _ _ hne e => hne (e ▸ rfl)) h.nd
theorem Rt (hT : A1 T) (hU : A1 U) (h : ∀ p, p ∈ T ↔ p ∈ U) : A3 T = A3 U := by iterate 1
 have p : T.Perm U := (MA (Rs hT) (Rs hU)).mpr h
 unfold A3
 refine IS (n := 3) (fun d hd => ?_) (List.Perm.trans ?_ (Di _).symm) (IR _)
 ·obtain ⟨_, _, _, k⟩ := Ha hT hd; exact k
 ·rw [Ng, Ng]; exact p.map _
theorem Ru : ∀ {T T' : Tab}, (T.map (·.1)).Nodup -> T.map (·.1) = T'.map (·.1) -> (∀ p ∈ T, p ∈ T') -> T = T'
 | [], [], _, _, _ => rfl
 | (x, b) :: T, (y, c) :: T', nd, e, h => by iterate 1
  rw [AM, AM] at e
  obtain ⟨e1, e2⟩ := Gl e
  have e1 : x = y := e1
  subst e1
  rw [AM, BE] at nd
  have h1 : (x, b) = (x, c) := by
   rcases Ay.mp (h _ (.head _)) with q | q
   ·exact q
   ·exact absurd (e2 ▸ AS (f := (·.1)) q) nd.1
  rw [h1, Ru nd.2 e2 fun p hp => ?_]
  rcases Ay.mp (h p (.tail _ hp)) with q | q
  ·exact absurd (by rw [q] at hp; exact AS (f := (·.1)) hp) nd.1
  ·exact q
section
variable {g : G} {hm : List Nat} {kn : List (Ao × Nat)} {L : List Str} {n : Nat} {p : Pat}
theorem EF.subst (E : EF g hm kn) (hp : Bq n p) (nd : L.Nodup) (hL : ∀ x, x ∈ L ↔ x ∈ nm p) (ha : Kl g a) : k ∈ CH g p a ↔ ∃ U ∈ Ds (AJ (AO hm)) L, AL kn U p = some a /\ A3 U = k := by iterate 1
 have hv : ∀ x ∈ L, AP x := fun x hx => ES p x ((hL x).mp hx)
 rw [MP]
 constructor
 ·rintro ⟨T, hT, rfl⟩
  have tok := Fz g p [] a Gn T hT
  obtain ⟨xs, w⟩ := Wq E.mf hp [] a T Gn ha hT
  have hk : ∀ x, x ∈ keysT T ↔ x ∈ L := fun x => by
   rw [G9 g p [] a T hT, hL]
   exact ⟨fun h => h.resolve_left Ar, .inr⟩
  have hU : ∀ q : Str × Nat, q ∈ (L.map fun x => (x, (T.lookup x).getD 0)) ↔ q ∈ T := fun q => by
   obtain ⟨x, b⟩ := q
   rw [Av, Gr tok]
   constructor
   ·rintro ⟨y, hy, e⟩
    cases e
    obtain ⟨c, e⟩ := EY ((hk x).mpr hy)
    rw [e]; rfl
   ·intro h
    exact ⟨x, (hk x).mp (Nc h), by rw [h]; rfl⟩
  have hU0 : (L.map fun x => (x, (T.lookup x).getD 0)).map (·.1) = L := by
   rw [A2]; exact G1 L
  have hUm : (L.map fun x => (x, (T.lookup x).getD 0)) ∈ Ds (AJ (AO hm)) L := Rn hU0 fun q hq => by
   have := (Gr tok).mp ((hU q).mp hq)
   exact E.home.mpr ((xs.cls _ _ this).resolve_left fun h => by cases h)
  have uok := Ex nd hv hUm
  refine ⟨_, hUm, ?_, Rt uok tok hU⟩
  rw [<- w]
  refine Rg uok tok hp fun x hx => ?_
  obtain ⟨b, e⟩ := EY ((hk x).mpr ((hL x).mpr hx))
  have := (Gr uok).mp ((hU (x, b)).mpr ((Gr tok).mpr e))
  exact ⟨Nc this, by rw [this, e]⟩
 ·rintro ⟨U, hU, w, rfl⟩
  have uok := Ex nd hv hU
  have ku := Hd hU
  obtain ⟨T, hT, hsub⟩ := Wr E.mf uok hp (fun x hx => by show x ∈ U.map (·.1); rw [ku]; exact (hL x).mpr hx) [] a (fun _ _ h => by cases h) ha w
  have tok := Fz g p [] a Gn T hT
  refine ⟨T, hT, Rt tok uok fun q => ?_⟩
  obtain ⟨x, b⟩ := q
  rw [Gr tok, Gr uok]
  refine ⟨hsub x b, fun h => ?_⟩
  have hx : x ∈ keysT T := by
   rw [G9 g p [] a T hT]
   refine .inr ((hL x).mp ?_)
   rw [<- ku]; exact Nc h
  obtain ⟨c, e⟩ := EY hx
  have := hsub x c e
  rw [h] at this
  rw [e, this]
noncomputable def Kid (g : G) (hm : List Nat) (v : Nat) : Prop := ∃ (n : Nat) (x : Ao), g.ns[n]? = some x /\ ∃ k ∈ x.2, v = hm.getD k k
theorem Rv : ∀ {ps : List Pat} {as : List Nat}, BL kn T ps = some as -> ∀ p ∈ ps, ∃ b ∈ as, AL kn T p = some b
 | p :: ps, as, h, q, hq => by iterate 1
  simp only [BL] at h
  split at h
  ·rename_i e1 e2
   cases h
   rcases Ay.mp hq with rfl | hq
   ·exact ⟨_, .head _, e1⟩
   ·obtain ⟨b, h1, h2⟩ := Rv e2 q hq
    exact ⟨b, .tail _ h1, h2⟩
  ·cases h
theorem Rw (E : EF g hm kn) (hT : A1 T) (hnv : ¬ AP op) (ih : ∀ p ∈ ks, ∀ m, AL kn T p = some m -> ∀ x ∈ nm p, ∃ v, T.lookup x = some v /\ (v = m ∨ Kid g hm v)) (w : AL kn T (.node op ks) = some m) : ∀ x ∈ nms ks, ∃ v, T.lookup x = some v /\ Kid g hm v := by iterate 1
 exact fun x hx => by
  rw [Hf hT hnv] at w
  split at w
  ·cases w
  ·rename_i as e
   obtain ⟨a, z, hz, h1, _⟩ := (E.kf _ _).mp w
   have h1 : as = z.2.map fun k => hm.getD k k := congrArg Prod.snd h1
   obtain ⟨q, hq, hxq⟩ := Hh.mp hx
   obtain ⟨b, hb, wb⟩ := Rv e q hq
   obtain ⟨v, hv, h2⟩ := ih q hq b wb x hxq
   refine ⟨v, hv, h2.elim (fun q => ?_) id⟩
   rw [h1] at hb
   obtain ⟨k, hk, rfl⟩ := Av.mp hb
   exact ⟨a, z, hz, k, hk, q⟩
theorem Wu (E : EF g hm kn) (hT : A1 T) (hp : Bq n p) : (∀ x ∈ nm p, x ∈ keysT T) -> ∀ m, AL kn T p = some m -> ∀ x ∈ nm p, ∃ v, T.lookup x = some v /\ (v = m ∨ Kid g hm v) := by iterate 1
 induction hp with
 | var hv =>
  intro hd m w x hx
  obtain ⟨v, e⟩ := EY (hd x hx)
  rw [Nd hv] at hx
  rw [Ag.mp hx] at e ⊢
  rw [Hg e] at w
  exact ⟨v, e, .inl (Cn w)⟩
 | op ho hnv hl hks ih =>
  intro hd m w x hx
  rw [Kv hnv] at hd hx
  obtain ⟨v, h1, h2⟩ := Rw E hT hnv (fun p hp => ih p hp fun x hx => hd x (Hh.mpr ⟨p, hp, hx⟩)) w x hx
  exact ⟨v, h1, .inr h2⟩
noncomputable def Kw (g : G) (hm : List Nat) : List Nat := (Bn (g.ns.length - 1)).map fun k => hm.getD k k
theorem EF.few (E : EF g hm kn) (hp : Bq n (.node op ks)) (hnv : ¬ AP op) (nd : L.Nodup) (hL : ∀ x, x ∈ L ↔ x ∈ nm (.node op ks)) (h : T ∈ Ds (AJ (AO hm)) L) (w : (AL kn T (.node op ks)).isSome = true) : T ∈ Ds (Kw g hm) L := by iterate 1
 have hv : ∀ x ∈ L, AP x := fun x hx => ES _ x ((hL x).mp hx)
 have tok := Ex nd hv h
 have kt := Hd h
 obtain ⟨m, w⟩ := Hk.mp w
 refine Rn kt fun q hq => ?_
 obtain ⟨x, b⟩ := q
 have hx : x ∈ L := by rw [<- kt]; exact AS (f := (·.1)) hq
 have hd : ∀ x ∈ nm (.node op ks), x ∈ keysT T := fun x hx => by show x ∈ T.map (·.1); rw [kt]; exact (hL x).mpr hx
 have hx' := (hL x).mp hx
 rw [Kv hnv] at hx' hd
 cases hp with
 | var hv => exact absurd hv hnv
 | op ho hnv hl hks =>
  obtain ⟨v, h1, a, z, hz, k, hk, e⟩ := Rw E tok hnv (fun p hp => Wu E tok (hks p hp) fun x hx => hd x (Hh.mpr ⟨p, hp, hx⟩)) w x hx'
  have := (Gr tok).mp hq
  rw [h1] at this
  cases this
  have h2 := E.kids a z hz k hk
  have h3 := (AT.mp hz).1
  exact Av.mpr ⟨k, Ep.mpr (by omega), e.symm⟩
theorem EF.kid7 (E : EF g hm kn) : (Kw g hm).length <= 7 := by iterate 1
 unfold Kw
 rw [Am, D7]
 have := E.n8
 omega
theorem EF.due64 (E : EF g hm kn) (hp : Bq n (.node op ks)) (hnv : ¬ AP op) (nd : L.Nodup) (hL : ∀ x, x ∈ L ↔ x ∈ nm (.node op ks)) : (CJ kn (AJ (AO hm)) L (.node op ks)).length < 64 := by iterate 1
 have hv : ∀ x ∈ L, AP x := fun x hx => ES _ x ((hL x).mp hx)
 unfold CJ
 rw [Am]
 refine Bd (HM ((Rp Rk L).filter _) fun T hT => ?_) (Bd (Rq (ns := L) E.kid7 (Hc nd hv)) (by decide))
 obtain ⟨h1, h2⟩ := Ch.mp hT
 exact E.few hp hnv nd hL h1 h2
theorem EF.subst64 (E : EF g hm kn) (hp : Bq n (.node op ks)) (hnv : ¬ AP op) (a : Nat) : (CH g (.node op ks) a).length < 64 := by iterate 1
 have hL : ∀ x, x ∈ AO (nm (.node op ks)) ↔ x ∈ nm (.node op ks) := fun x => Fw
 have nd := Fy (nm (.node op ks))
 have hv : ∀ x ∈ AO (nm (.node op ks)), AP x := fun x hx => ES _ x ((hL x).mp hx)
 have main : ∀ a, Kl g a -> (CH g (.node op ks) a).length < 64 := fun a ha => by
  refine Bd (HM (k := (Ds (Kw g hm) (AO (nm (.node op ks)))).map A3) (Fy _) fun k hk => ?_) ?_
  ·obtain ⟨U, hU, w, rfl⟩ := (E.subst hp nd hL ha).mp hk
   exact AS (E.few hp hnv nd hL hU (by rw [w]; rfl))
  ·rw [Am]
   exact Bd (Rq E.kid7 (Hc nd hv)) (by decide)
 by_cases h : a < g.ns.length
 ·have e : CH g (.node op ks) a = CH g (.node op ks) (g.rt a) := by
   unfold CH
   rw [Gj hnv, Gj hnv]
   have : Cm g (g.rt a) = Cm g a := by
    unfold Cm
    rw [show Ae g.uf.par (g.rt a) = Ae g.uf.par a from Jj E.W.wf.le a]
   rw [this]
  rw [e]
  exact main _ ⟨Bd (FG E.W a) h, Jj E.W.wf.le a⟩
 ·have e1 : g.uf.par.getD a a = a := Rb (by rw [E.W.len]; omega)
  have e2 : Cm g a = [] := by
   unfold Cm
   rw [EJ E.W.wf.le e1, Bt, D8 (by rw [E.W.wf.len, E.W.len]; omega)]
   show (AJ []).map _ = []
   rw [List.perm_nil.mp (DU [])]; rfl
  unfold CH
  rw [Gj hnv, e2]
  exact Bd (G3 _) (by show 0 < 64; decide)
end
end
section
open PySem PyProof.Rows
open Classical
theorem Rx {β : Type} (f : Nat -> List β) : ∀ {l : List Nat}, l.Nodup -> r ∈ l -> l.flatMap (fun a => if a = r then f a else []) = f r
 | a :: l, nd, h => by iterate 1
  rw [BE] at nd
  rw [G8]
  by_cases e : a = r
  ·subst e
   rw [if_pos rfl, List.flatMap_eq_nil_iff.mpr fun b hb => if_neg fun (q : b = a) => nd.1 (q ▸ hb), BQ]
  ·rw [if_neg e, GV]
   exact Rx f nd.2 ((Ay.mp h).resolve_left fun q => e q.symm)
theorem Wv {a b : Nat} (h : a < b) : ltD (.tup [.int b, k']) (.tup [.int a, k]) = false := by iterate 1
 have hne : D.int (b : Nat) ≠ .int (a : Nat) := fun q => by
  injection q with q
  exact A8 h (DT.mp q).symm
 rw [IN, IP (n := 0) (k := 0) rfl rfl hne, GI]
 exact decide_eq_false fun q => Nat.lt_asymm h (Fs.mp q)
theorem Ww (hk : Al 4 k = true) (hk' : Al 4 k' = true) (hne : k' ≠ k) (h : ltD k' k = false) : ltD (.tup [.int a, k']) (.tup [.int a, k]) = false := by iterate 1
 rw [IN, Lv, IP hk' hk hne]; exact h
section
variable {g : G} {hm : List Nat} {kn : List (Ao × Nat)} {L : List Str} {n : Nat} {p : Pat}
theorem Kx (W : GW g) : a ∈ g.uf.roots ↔ Kl g a := by iterate 1
 unfold UF.roots
 rw [Ch, Ep, W.len]
 refine and_congr_right fun _ => ?_
 rw [beq_iff_eq]
 exact ⟨fun h => EJ W.wf.le h, fun h => by
  have := Dm W.wf.le a
  rw [show Ae g.uf.par a = a from h] at this; exact this⟩
theorem Ry : g.uf.roots.Pairwise (· < ·) := SY.filter _
theorem Ky : d ∈ BU g p a ↔ ∃ k ∈ CH g p a, d = .tup k := by iterate 1
 unfold BU
 rw [(Di _).mem_iff, Av]
 exact ⟨fun ⟨k, h, e⟩ => ⟨k, h, e.symm⟩, fun ⟨k, h, e⟩ => ⟨k, h, e.symm⟩⟩
theorem Wx : (BU g p a).Pairwise fun x y => ltD y x = false /\ x ≠ y := by iterate 1
 unfold BU
 refine (IR _).and ?_
 refine (Di _).nodup_iff.mpr (E7.mpr ((Fy _).imp fun {x y} hne q => hne ?_))
 injection q
theorem Wy : ((BU g p a).map fun k => D.tup [.int (a : Nat), k]).Pairwise fun x y => ltD y x = false /\ x ≠ y := by iterate 1
 refine E7.mpr (Wx.imp_of_mem fun {k k'} hk hk' h => ⟨?_, fun q => h.2 ?_⟩)
 ·obtain ⟨s, hs, rfl⟩ := Ky.mp hk
  obtain ⟨s', hs', rfl⟩ := Ky.mp hk'
  exact Ww (MQ (AS hs)) (MQ (AS hs')) (fun q => h.2 q.symm) h.1
 ·injection q with q
  exact (Gl (Gl q).2).1
theorem EF.all_eq (E : EF g hm kn) : EQ g p = g.uf.roots.flatMap fun a => (BU g p a).map fun k => D.tup [.int (a : Nat), k] := by iterate 1
 unfold EQ
 rw [List.flatMap_def, List.flatMap_def]
 refine congrArg List.flatten (Cg fun a ha => ?_)
 rw [show Ae g.uf.par a = a from ((Kx E.W).mp ha).2]
theorem EF.all_sorted (E : EF g hm kn) : (EQ g p).Pairwise fun x y => ltD y x = false /\ x ≠ y := by iterate 1
 rw [E.all_eq]
 refine Ws.mpr ⟨fun a _ => Wy, Ry.imp fun {a b} h x hx y hy => ?_⟩
 obtain ⟨k, _, rfl⟩ := Av.mp hx
 obtain ⟨k', _, rfl⟩ := Av.mp hy
 refine ⟨Wv h, fun q => ?_⟩
 injection q with q
 have := (Gl q).1
 injection this with q
 exact A8 h (DT.mp q)
theorem EF.worth_cls (E : EF g hm kn) (hT : A1 T) (hnv : ¬ AP op) (w : AL kn T (.node op ks) = some a) : Kl g a := by iterate 1
 rw [Hf hT hnv] at w
 split at w
 ·cases w
 ·obtain ⟨m, x, hx, _, e⟩ := (E.kf _ _).mp w
  exact e ▸ E.cls (AT.mp hx).1
theorem EF.due_eq (E : EF g hm kn) (hp : Bq n (.node op ks)) (hnv : ¬ AP op) (nd : L.Nodup) (hL : ∀ x, x ∈ L ↔ x ∈ nm (.node op ks)) :
  B9 (CJ kn (AJ (AO hm)) L (.node op ks)) = EQ g (.node op ks) := by iterate 1
 have hv : ∀ x ∈ L, AP x := fun x hx => ES _ x ((hL x).mp hx)
 have hn1 : (CJ kn (AJ (AO hm)) L (.node op ks)).Nodup := by
  unfold CJ
  refine E7.mpr (((Rp Rk L).filter _).imp_of_mem fun {T U} hT hU hne q => hne ?_)
  have hT := (Ch.mp hT).1
  have hU := (Ch.mp hU).1
  have tok := Ex nd hv hT
  unfold EU at q
  injection q with q
  have q := (Gl (Gl q).2).1
  injection q with q
  refine Ru tok.nd (by rw [Hd hT, Hd hU]) fun r hr => ?_
  rw [<- Rr, <- q, Rr]; exact hr
 have hn2 : (EQ g (.node op ks)).Nodup := E.all_sorted.imp fun h => h.2
 have hmem : ∀ d, d ∈ CJ kn (AJ (AO hm)) L (.node op ks) ↔ d ∈ EQ g (.node op ks) := fun d => by
  rw [E.all_eq, Dc]
  unfold CJ
  rw [Av]
  constructor
  ·rintro ⟨T, hT, rfl⟩
   obtain ⟨h1, h2⟩ := Ch.mp hT
   obtain ⟨a, w⟩ := Hk.mp h2
   have ha := E.worth_cls (Ex nd hv h1) hnv w
   refine ⟨a, (Kx E.W).mpr ha, Av.mpr ⟨.tup (A3 T), Ky.mpr ⟨_, (E.subst hp nd hL ha).mpr ⟨T, h1, w, rfl⟩, rfl⟩, ?_⟩⟩
   unfold EU
   rw [w]; rfl
  ·rintro ⟨a, ha, hd⟩
   have ha := (Kx E.W).mp ha
   obtain ⟨k, hk, rfl⟩ := Av.mp hd
   obtain ⟨s, hs, rfl⟩ := Ky.mp hk
   obtain ⟨U, hU, w, rfl⟩ := (E.subst hp nd hL ha).mp hs
   refine ⟨U, Ch.mpr ⟨hU, by rw [w]; rfl⟩, ?_⟩
   unfold EU
   rw [w]; rfl
 refine IS (n := 5) (fun d hd => ?_) ((MA hn1 hn2).mpr hmem) (E.all_sorted.imp fun h => h.1)
 obtain ⟨T, hT, rfl⟩ := Av.mp hd
 have tok := Ex nd hv (Ch.mp hT).1
 show (Al 4 (.int (wI (AL kn T (.node op ks)))) && (Al 4 (.tup (A3 T)) && true)) = true
 rw [Hb tok]; rfl
theorem EF.one_eq (E : EF g hm kn) (hs : s < g.ns.length) : BU g p (Ae g.uf.par s) = ((EQ g p).filter fun d => decide (dF d = (hm.getD s s : Nat))).map dS := by iterate 1
 have hr : hm.getD s s = g.rt s := (E.rt s hs).symm
 have hk : Kl g (g.rt s) := hr ▸ E.cls hs
 rw [hr, E.all_eq, List.filter_flatMap, List.map_flatMap]
 have e : ∀ a, (((BU g p a).map fun k => D.tup [.int (a : Nat), k]).filter fun d => decide (dF d = ((g.rt s : Nat) : Int))).map dS = if a = g.rt s then BU g p a else [] := fun a => by
  split
  ·rename_i q
   rw [List.filter_eq_self.mpr fun d hd => by
    obtain ⟨k, _, rfl⟩ := Av.mp hd
    exact decide_eq_true (congrArg (fun i : Nat => (i : Int)) q), A2]
   exact G1 _
  ·rename_i q
   rw [List.filter_eq_nil_iff.mpr fun d hd h => by
    obtain ⟨k, _, rfl⟩ := Av.mp hd
    exact q (DT.mp (of_decide_eq_true h))]
   rfl
 rw [show (fun a => (((BU g p a).map fun k => D.tup [.int (a : Nat), k]).filter fun d => decide (dF d = ((g.rt s : Nat) : Int))).map dS) = fun a => if a = g.rt s then BU g p a else [] from funext e]
 exact (Rx (BU g p) (Ry.imp fun h => A8 h) ((Kx E.W).mpr hk)).symm
end
theorem Wz : HW := by iterate 1
 exact fun g ps g' hm kn f n op ks hp hnv => by
  have E := f.ef
  exact ⟨E.subst64 hp hnv, fun ns nd hns => ⟨E.due64 hp hnv nd hns, by
   rw [E.due_eq hp hnv nd hns]
   exact ⟨rfl, fun s hs => E.one_eq hs⟩⟩⟩
end
theorem WB (h : IntsAre vs ns) (B : Addr -> Prop) (hp : Heap) : Ak B hp vs (ns.map .int) := by
 induction h with
 | nil => exact .nil
 | cons n t _ ih => exact .cons (.int n t) ih
theorem law_fa (X : (hd.heap_39 p).In h) (g : h.Ns mainGlobals mg) (e : mg "law" = some (.ref fa)) : fa = 495 := by
 have h1 : nsIn (hd.heap_39 p) mainGlobals "law" = some (some (.ref 495)) := by kernel_rfl
 rw [mg_of X g h1] at e
 injection e with e
 injection e with e
 exact e.symm
theorem top_law {prog : Program} {w : World} {s1 : Shared} {mg mb : Str -> Option Value} {l : Addr} {vs : List Value} {ns : List Int} (K : (hd.heap_39 w.params).In s1.heap) (g : s1.heap.Ns mainGlobals mg) (b : s1.heap.Ns builtinsNs mb)
  (nl : s1.heap.NoLimit) (hb : ∀ x : Str, x ≠ "__name__" -> mb x = bootBuiltins x) (hg : s1.gens = #[]) (hl : s1.heap.IsList l vs.toArray) (hI : IntsAre vs ns) (hz : ns.length <= 63) :
  wpAny (model prog w) callerA (call (.ref 495) [.ref l] []) (fun v s' => v = .bool true /\ (∀ a o, s1.heap.get? a = some o -> s'.heap.get? a = some o) /\ s'.os = s1.os /\ s'.gens = #[]) (fun _ _ => False) s1 := by
 have low : ∃ o, s1.heap.get? mainGlobals = some o := g.imp fun o ⟨_, _, h, _⟩ => h
 have O : Ok ⟨prog, fun _ => False, w, hd.heap_39 w.params, s1.heap, s1.os, low⟩ := ⟨⟨K, nl, ⟨mg, g⟩, mb, b, hb⟩, w.params, rfl⟩
 have S : Sim ⟨prog, fun _ => False, w, hd.heap_39 w.params, s1.heap, s1.os, low⟩ (fun _ => none) s1 := by
  refine ⟨fun _ _ e => ?_, fun _ _ e => e, hg, rfl, fun _ h => False.elim h⟩
  cases e
 have R : Af callerA 15 := ⟨rfl, by decide, by decide⟩
 have h := C495 (sl := l) (cs := ns) (Q := fun d _ => d = .bool true) O R Wz (.inr ⟨vs, hl, WB hI⟩) (HL hz) (fun _ => rfl) s1 [.ref l] S (.cons (.ref l) .nil)
 refine Ai h (fun v s' ⟨d, σ', e, P, r⟩ => ?_) fun _ _ e => e
 subst e
 cases r
 exact ⟨rfl, P.1.2.1, P.1.2.2.2.1, P.1.2.2.1⟩
end Mine
set_option maxHeartbeats 8000000 in
theorem PySem.Challenge.cw_pq0056_02_holds : PySem.Challenge.rw_pq0056_02.Holds :=
 hd (by
  intro w s₀ s₁ mg mb G Y fa o pm cd doc dV kV ho hd hcd hD hmg hg args vals as hpre hlay hrd hwl hlo
  have KX := kIn_of Y
  refine Ground.open G ?_
  intro T B D TE TW
  have fa_eq := Mine.law_fa KX T.g hmg
  subst fa_eq
  clear hcd hd hD ho hmg
  wrow_args hpre hlay hrd hwl hlo
  refine wpAny_mono (Mine.top_law KX T.g T.b T.nolimit T.builtins hg (by assumption) (by assumption) (by omega)) (fun v s' h => ?_) fun _ _ h => h.elim
  obtain ⟨rfl, h1, h2, h3⟩ := h
  refine GoodW.toG ⟨.inl ⟨_, _, _, rfl, fun _ => rfl, readsW_of_reads (.bool true), ?_, ?_⟩, h1, h2, h3⟩
  · first
      | rfl
      | wrow_post
  · exact fun _ => ⟨List.nodup_nil, fun _ h => (List.not_mem_nil h).elim⟩)
