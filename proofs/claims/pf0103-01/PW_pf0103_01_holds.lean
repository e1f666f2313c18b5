import PyProof.Rows.All
import Wide.All
import OpenK.AllK
import Wide.FinOn
import PySem.Challenge.RW_pf0103_01

/-! A small language of my own: terms, statements, and what they compute over an abstract heap. -/
namespace Mine

inductive AV where
  | none
  | bool (b : Bool)
  | int (i : Int)
  | ref (id : Nat)
  deriving DecidableEq, Inhabited

inductive AO where
  | lst (xs : List AV)
  | tup (xs : List AV)
  | rng (a b s : Int)
  | inst (c : Nat) (fs : List (Nat × AV))
  | dic (kvs : List (Int × AV))
  deriving DecidableEq, Inhabited

noncomputable abbrev AH := List (Bool × AO)
noncomputable abbrev Rho := List (Option AV)
noncomputable abbrev Fun := List AV → AH → Option (AV × AH)

inductive BOp | add | sub | mul | fdiv | mod | shl | shr | band | bor | bxor
  deriving DecidableEq
inductive COp | eq | ne | lt | le | gt | ge
  deriving DecidableEq
inductive UOp | neg | inv | not
  deriving DecidableEq

set_option genInjectivity false
set_option genSizeOfSpec false
set_option genSizeOf false
mutual
inductive IE where
  | int (i : Int)
  | bool (b : Bool)
  | none
  | var (n : Nat)
  | gint (x : PySem.Str) (i : Int)
  | gref (x : PySem.Str) (k : Nat)
  | bin (op : BOp) (a b : IE)
  | una (op : UOp) (a : IE)
  | bop (isOr : Bool) (es : IEs)
  | cmp (op : COp) (a b : IE)
  | cmp2 (o1 o2 : COp) (a b c : IE)
  | isIn (neg : Bool) (a b : IE)
  | isNone (neg : Bool) (a : IE)
  | ite (c a b : IE)
  | call (f : Nat) (as : IEs)
  | new (c : Nat) (f : Nat) (as : IEs)
  | attr (e : IE) (k : Nat)
  | sub (e i : IE)
  | take (e : IE) (n : Nat)
  | tup (es : IEs)
  | lst (es : IEs)
  | rep (es : IEs) (n : IE)
  | dic (ks : List Int) (es : IEs)
  | range (as : IEs)
  | len (e : IE)
  | abs (e : IE)
  | list (e : IE)
  | toInt (e : IE)
  | pow12 (e : IE)
  | eqNil (neg : Bool) (e : IE)
  | append (o e : IE)
  | get (o k d : IE)
  | index (o e : IE)
  | comp (n : Nat) (src : IE) (conds : IEs) (elt : IE)
  | comp2 (n m : Nat) (src src2 elt : IE)
inductive IEs where
  | nil
  | cons (e : IE) (es : IEs)
end

mutual
inductive IS where
  | asg (n : Nat) (e : IE)
  | asgT (ns : List Nat) (e : IE)
  | setA (o : IE) (k : Nat) (e : IE)
  | setI (o i e : IE)
  | aug (op : BOp) (n : Nat) (e : IE)
  | augA (op : BOp) (o : IE) (k : Nat) (e : IE)
  | augI (op : BOp) (o i e : IE)
  | ite (c : IE) (a b : ISs)
  | while (c : IE) (b : ISs)
  | for (ns : List Nat) (tuple : Bool) (src : IE) (b : ISs)
  | ret (e : IE)
  | brk
  | expr (e : IE)
  | bad
inductive ISs where
  | nil
  | cons (s : IS) (ss : ISs)
end

set_option genInjectivity true
set_option genSizeOfSpec true
set_option genSizeOf true
inductive Fl where
  | next
  | brk
  | ret (v : AV)

/-! ## The values -/

/-- small enough, told so that the kernel never counts down from the bound -/
noncomputable def smallB : Int → Bool
  | .ofNat m => Nat.ble m 4611686018427387903
  | .negSucc m => Nat.ble m 4611686018427387902
noncomputable def inN (k : Int) (n : Nat) : Bool := match k with
  | .ofNat m => Nat.ble m n
  | .negSucc _ => false

noncomputable def binV : BOp → Int → Int → Option Int
  | .add, a, b => some (a + b)
  | .sub, a, b => some (a - b)
  | .mul, a, b => if smallB a && smallB b then some (a * b) else .none
  | .fdiv, a, b => if b ≠ 0 && smallB b then some (Int.fdiv a b) else .none
  | .mod, a, b => if b ≠ 0 then some (Int.fmod a b) else .none
  | .shl, a, b => if inN b 1000 && smallB a then some (a * 2 ^ b.toNat) else .none
  | .shr, a, b => if 0 ≤ b then some (Int.fdiv a (2 ^ b.toNat)) else .none
  | .band, a, b => some (PySem.Builtin.bitAnd a b)
  | .bor, a, b => some (PySem.Builtin.bitOr a b)
  | .bxor, a, b => some (PySem.Builtin.bitXor a b)

noncomputable def unaV : UOp → AV → Option AV
  | .neg, .int a => some (.int (-a))
  | .inv, .int a => some (.int (PySem.Builtin.bitNot a))
  | _, _ => .none

noncomputable def truth : AV → Option Bool
  | .none => some false
  | .bool b => some b
  | .int i => some (i != 0)
  | .ref _ => .none

noncomputable def cmpV : COp → AV → AV → Option Bool
  | .eq, .int a, .int b => some (a == b)
  | .ne, .int a, .int b => some (a != b)
  | .lt, .int a, .int b => some (decide (a < b))
  | .le, .int a, .int b => some (decide (a ≤ b))
  | .gt, .int a, .int b => some (decide (b < a))
  | .ge, .int a, .int b => some (decide (b ≤ a))
  | .eq, .bool a, .bool b => some (a == b)
  | .ne, .bool a, .bool b => some (a != b)
  | _, _, _ => .none

noncomputable def lim : Nat := 1000000

noncomputable def newO (m : Bool) (o : AO) (σ : AH) : AV × AH := (.ref σ.length, σ ++ [(m, o)])

noncomputable def binH (op : BOp) (a b : AV) (σ : AH) : Option (AV × AH) :=
  match a, b with
  | .int x, .int y => (binV op x y).map fun r => (.int r, σ)
  | .ref x, .ref y => match op, σ[x]?, σ[y]? with
    | .add, some (_, .lst xs), some (_, .lst ys) => if xs.length + ys.length ≤ lim then some (newO true (.lst (xs ++ ys)) σ) else .none
    | .add, some (_, .tup xs), some (_, .tup ys) => if decide (xs.length + ys.length ≤ lim) && !xs.isEmpty && !ys.isEmpty then some (newO false (.tup (xs ++ ys)) σ) else .none
    | _, _, _ => .none
  | _, _ => .none

noncomputable def intsOf : List AV → Option (List Int)
  | [] => some []
  | .int i :: r => (intsOf r).map (i :: ·)
  | _ :: _ => .none

noncomputable def seqOf (v : AV) (σ : AH) : Option (List AV) := match v with
  | .ref x => match σ[x]? with
    | some (_, .lst xs) => some xs
    | some (_, .tup xs) => some xs
    | _ => .none
  | _ => .none

noncomputable def rngList (a b s : Int) : Option (List Int) :=
  if !(smallB a && smallB b) then .none else
  if s = 1 then (if Nat.ble (b - a).toNat 1000000 then some ((List.range (b - a).toNat).map fun (i : Nat) => a + (i : Int)) else .none)
  else if s = -1 then (if Nat.ble (a - b).toNat 1000000 then some ((List.range (a - b).toNat).map fun (i : Nat) => a - (i : Int)) else .none) else .none

noncomputable def subV (v i : AV) (σ : AH) : Option AV := match v, i with
  | .ref x, .int k => match σ[x]? with
    | some (_, .lst xs) => if inN k 1000000 then xs[k.toNat]? else .none
    | some (_, .tup xs) => if inN k 1000000 then xs[k.toNat]? else .none
    | some (_, .dic kvs) => kvs.lookup k
    | _ => .none
  | _, _ => .none

noncomputable def attrV (v : AV) (k : Nat) (σ : AH) : Option AV := match v with
  | .ref x => match σ[x]? with
    | some (_, .inst _ fs) => fs.lookup k
    | _ => .none
  | _ => .none

noncomputable def putF (k : Nat) (v : AV) : List (Nat × AV) → List (Nat × AV)
  | [] => [(k, v)]
  | p :: r => if p.1 = k then (k, v) :: r else p :: putF k v r

noncomputable def setAttrH (o : AV) (k : Nat) (v : AV) (σ : AH) : Option AH := match o with
  | .ref x => match σ[x]? with
    | some (true, .inst c fs) => if fs.length ≤ 100 then some (σ.set x (true, .inst c (putF k v fs))) else .none
    | _ => .none
  | _ => .none

noncomputable def setItemH (o i v : AV) (σ : AH) : Option AH := match o, i with
  | .ref x, .int k => match σ[x]? with
    | some (true, .lst xs) => if inN k 1000000 && decide (k.toNat < xs.length) then some (σ.set x (true, .lst (xs.set k.toNat v))) else .none
    | _ => .none
  | _, _ => .none

noncomputable def appendH (o v : AV) (σ : AH) : Option AH := match o with
  | .ref x => match σ[x]? with
    | some (true, .lst xs) => if xs.length ≤ lim then some (σ.set x (true, .lst (xs ++ [v]))) else .none
    | _ => .none
  | _ => .none

noncomputable def isLst (v : AV) (σ : AH) : Bool := match v with
  | .ref x => match σ[x]? with
    | some (_, .lst _) => true
    | _ => false
  | _ => false
noncomputable def isDic (v : AV) (σ : AH) : Bool := match v with
  | .ref x => match σ[x]? with
    | some (_, .dic _) => true
    | _ => false
  | _ => false

noncomputable def freeze (σ : AH) : AH := σ.map fun p => (false, p.2)

/-! ## Terms -/

mutual
noncomputable def den (Fs : List Fun) : IE → Rho → AH → Option (AV × AH)
  | .int i, _, σ => some (.int i, σ)
  | .bool b, _, σ => some (.bool b, σ)
  | .none, _, σ => some (.none, σ)
  | .var n, ρ, σ => match ρ[n]? with
    | some (some v) => some (v, σ)
    | _ => .none
  | .gint _ i, _, σ => some (.int i, σ)
  | .gref _ k, _, σ => some (.ref k, σ)
  | .bin op a b, ρ, σ => (den Fs a ρ σ).bind fun (x, σ) => (den Fs b ρ σ).bind fun (y, σ) => binH op x y σ
  | .una .not a, ρ, σ => (den Fs a ρ σ).bind fun (x, σ) => (truth x).map fun t => (.bool (!t), σ)
  | .una op a, ρ, σ => (den Fs a ρ σ).bind fun (x, σ) => (unaV op x).map fun r => (r, σ)
  | .bop o es, ρ, σ => denB Fs o es ρ σ
  | .cmp op a b, ρ, σ => (den Fs a ρ σ).bind fun (x, σ) => (den Fs b ρ σ).bind fun (y, σ) => (cmpV op x y).map fun r => (.bool r, σ)
  | .cmp2 o1 o2 a b c, ρ, σ => (den Fs a ρ σ).bind fun (x, σ) => (den Fs b ρ σ).bind fun (y, σ) => (cmpV o1 x y).bind fun r =>
      if r then (den Fs c ρ σ).bind fun (z, σ) => (cmpV o2 y z).map fun r => (.bool r, σ) else some (.bool false, σ)
  | .isIn neg a b, ρ, σ => (den Fs a ρ σ).bind fun (x, σ) => (den Fs b ρ σ).bind fun (y, σ) => match x with
    | .int i => (seqOf y σ).bind fun xs => (intsOf xs).map fun ns => (.bool (if neg then !ns.contains i else ns.contains i), σ)
    | _ => .none
  | .isNone neg a, ρ, σ => (den Fs a ρ σ).map fun (x, σ) => (.bool (if neg then !(x == .none) else x == .none), σ)
  | .ite c a b, ρ, σ => (den Fs c ρ σ).bind fun (x, σ) => (truth x).bind fun t => if t then den Fs a ρ σ else den Fs b ρ σ
  | .call f as, ρ, σ => (denL Fs as ρ σ).bind fun (vs, σ) => match Fs[f]? with
    | some F => F vs σ
    | .none => .none
  | .new c f as, ρ, σ => (denL Fs as ρ σ).bind fun (vs, σ) => match Fs[f]? with
    | some F => (F (.ref σ.length :: vs) (σ ++ [(true, .inst c [])])).bind fun (r, σ') => match r with
      | .none => some (.ref σ.length, σ')
      | _ => .none
    | .none => .none
  | .attr e k, ρ, σ => (den Fs e ρ σ).bind fun (x, σ) => (attrV x k σ).map fun v => (v, σ)
  | .sub e i, ρ, σ => (den Fs e ρ σ).bind fun (x, σ) => (den Fs i ρ σ).bind fun (y, σ) => (subV x y σ).map fun v => (v, σ)
  | .take e n, ρ, σ => (den Fs e ρ σ).bind fun (x, σ) => match x with
    | .ref a => match σ[a]? with
      | some (_, .lst xs) => if xs.length ≤ lim then some (newO true (.lst (xs.take n)) σ) else .none
      | _ => .none
    | _ => .none
  | .tup es, ρ, σ => (denL Fs es ρ σ).bind fun (vs, σ) => if vs.length ≤ lim then some (newO false (.tup vs) σ) else .none
  | .lst es, ρ, σ => (denL Fs es ρ σ).bind fun (vs, σ) => if vs.length ≤ lim then some (newO true (.lst vs) σ) else .none
  | .rep es n, ρ, σ => (denL Fs es ρ σ).bind fun (vs, σ) => (den Fs n ρ σ).bind fun (y, σ) => match y with
    | .int n => if inN n 1000000 && decide (1 ≤ vs.length) && decide (vs.length ≤ 100) && decide (vs.length * n.toNat ≤ lim) then some (newO true (.lst (List.replicate n.toNat vs).flatten) σ) else .none
    | _ => .none
  | .dic ks es, ρ, σ => (denL Fs es ρ σ).bind fun (vs, σ) => if decide (ks.length = vs.length) && decide (ks.Nodup) && decide (ks.length ≤ 8) && decide (1 ≤ ks.length) then some (newO false (.dic (ks.zip vs)) σ) else .none
  | .range as, ρ, σ => (denL Fs as ρ σ).bind fun (vs, σ) => match vs with
    | [.int b] => if smallB b then some (newO false (.rng 0 b 1) σ) else .none
    | [.int a, .int b] => if smallB a && smallB b then some (newO false (.rng a b 1) σ) else .none
    | [.int a, .int b, .int s] => if smallB a && smallB b && decide (s = -1) then some (newO false (.rng a b s) σ) else .none
    | _ => .none
  | .len e, ρ, σ => (den Fs e ρ σ).bind fun (x, σ) => (seqOf x σ).bind fun xs => if xs.length ≤ lim then some (.int xs.length, σ) else .none
  | .abs e, ρ, σ => (den Fs e ρ σ).bind fun (x, σ) => match x with
    | .int i => some (.int (i.natAbs : Int), σ)
    | _ => .none
  | .list e, ρ, σ => (den Fs e ρ σ).bind fun (x, σ) => match x with
    | .ref a => match σ[a]? with
      | some (_, .rng x y s) => (rngList x y s).map fun ns => newO true (.lst (ns.map AV.int)) σ
      | _ => .none
    | _ => .none
  | .toInt e, ρ, σ => (den Fs e ρ σ).bind fun (x, σ) => match x with
    | .int i => some (.int i, σ)
    | _ => .none
  | .pow12 e, ρ, σ => (den Fs e ρ σ).bind fun (x, σ) => match x with
    | .int i => if i = 10 then some (.int 1000000000000, σ) else .none
    | _ => .none
  | .eqNil neg e, ρ, σ => (den Fs e ρ σ).bind fun (x, σ) => match x with
    | .ref a => match σ[a]? with
      | some (_, .lst xs) => if xs.length ≤ lim then some (.bool (if neg then !xs.isEmpty else xs.isEmpty), σ) else .none
      | _ => .none
    | _ => .none
  | .append o e, ρ, σ => (den Fs o ρ σ).bind fun (x, σ) => if !isLst x σ then .none else (den Fs e ρ σ).bind fun (v, σ) => (appendH x v σ).map fun σ => (.none, σ)
  | .get o k d, ρ, σ => (den Fs o ρ σ).bind fun (x, σ) => if !isDic x σ then .none else (den Fs k ρ σ).bind fun (y, σ) => (den Fs d ρ σ).bind fun (z, σ) => match x, y with
    | .ref a, .int i => match σ[a]? with
      | some (_, .dic kvs) => some ((kvs.lookup i).getD z, σ)
      | _ => .none
    | _, _ => .none
  | .index o e, ρ, σ => (den Fs o ρ σ).bind fun (x, σ) => if !isLst x σ then .none else (den Fs e ρ σ).bind fun (y, σ) => match x, y with
    | .ref a, .int i => match σ[a]? with
      | some (_, .lst xs) => (intsOf xs).bind fun ns => if ns.contains i && decide (ns.length ≤ lim) then some (.int (ns.idxOf i : Nat), σ) else .none
      | _ => .none
    | _, _ => .none
  | .comp n src conds elt, ρ, σ => (den Fs src ρ σ).bind fun (x, σ) => (itemsOf x σ).bind fun vs =>
      (vs.foldr (fun v acc => acc.bind fun ys => (denAll Fs conds (ρ.set n (some v)) (freeze σ)).bind fun t =>
        if t then (den Fs elt (ρ.set n (some v)) (freeze σ)).bind fun (y, _) => match y with
          | .int i => some (i :: ys)
          | _ => .none
        else some ys) (some [])).bind fun ys => if ys.length ≤ lim then some (newO true (.lst (ys.map AV.int)) σ) else .none
  | .comp2 n m src src2 elt, ρ, σ => (den Fs src ρ σ).bind fun (x, σ) => (itemsOf x σ).bind fun vs =>
      (vs.foldr (fun v acc => acc.bind fun ys => (den Fs src2 ((ρ.set n (some v)).set m .none) (freeze σ)).bind fun (x2, σ2) => (itemsOf x2 σ2).bind fun us =>
        us.foldr (fun u acc => acc.bind fun ys => (den Fs elt ((ρ.set n (some v)).set m (some u)) (freeze σ)).bind fun (y, _) => match u, y with
          | .int _, .int i => some (i :: ys)
          | _, _ => .none) (some ys)) (some [])).bind fun ys => if ys.length ≤ lim then some (newO true (.lst (ys.map AV.int)) σ) else .none
where
  itemsOf (x : AV) (σ : AH) : Option (List AV) := match x with
    | .ref a => match σ[a]? with
      | some (_, .lst xs) => if xs.length ≤ lim then some xs else .none
      | some (_, .rng x y s) => (rngList x y s).map fun ns => ns.map AV.int
      | _ => .none
    | _ => .none
noncomputable def denB (Fs : List Fun) (o : Bool) : IEs → Rho → AH → Option (AV × AH)
  | .nil, _, _ => .none
  | .cons e es, ρ, σ => (den Fs e ρ σ).bind fun (x, σ) => match es with
    | .nil => some (x, σ)
    | .cons _ _ => (truth x).bind fun t => if t == o then some (x, σ) else denB Fs o es ρ σ
noncomputable def denL (Fs : List Fun) : IEs → Rho → AH → Option (List AV × AH)
  | .nil, _, σ => some ([], σ)
  | .cons e es, ρ, σ => (den Fs e ρ σ).bind fun (x, σ) => (denL Fs es ρ σ).map fun (vs, σ) => (x :: vs, σ)
noncomputable def denAll (Fs : List Fun) : IEs → Rho → AH → Option Bool
  | .nil, _, _ => some true
  | .cons e es, ρ, σ => (den Fs e ρ σ).bind fun (x, _) => (truth x).bind fun t => if t then denAll Fs es ρ σ else some false
end
end Mine
namespace Mine
/-! ## Statements -/

noncomputable def whileF (test : Rho → AH → Option (AV × AH)) (body : Rho → AH → Option (Fl × Rho × AH)) : Nat → Rho → AH → Option (Fl × Rho × AH)
  | 0, _, _ => .none
  | n + 1, ρ, σ => (test ρ σ).bind fun (x, σ) => (truth x).bind fun t => if t then (body ρ σ).bind fun (f, ρ, σ) => match f with
      | .next => whileF test body n ρ σ
      | .brk => some (.next, ρ, σ)
      | .ret v => some (.ret v, ρ, σ)
    else some (.next, ρ, σ)

noncomputable def bindT (ns : List Nat) (tuple : Bool) (v : AV) (ρ : Rho) (σ : AH) : Option Rho := match tuple, ns with
  | false, [n] => some (ρ.set n (some v))
  | true, ns => match v with
    | .ref x => match σ[x]? with
      | some (_, .tup vs) => if vs.length = ns.length then some ((ns.zip vs).foldl (fun ρ p => ρ.set p.1 (some p.2)) ρ) else .none
      | _ => .none
    | _ => .none
  | _, _ => .none

noncomputable def forF (chk : AH → Bool) (bind : AV → Rho → AH → Option Rho) (body : Rho → AH → Option (Fl × Rho × AH)) : List AV → Rho → AH → Option (Fl × Rho × AH)
  | [], ρ, σ => if chk σ then some (.next, ρ, σ) else .none
  | v :: vs, ρ, σ => if chk σ then (bind v ρ σ).bind fun ρ => (body ρ σ).bind fun (f, ρ, σ) => match f with
      | .next => forF chk bind body vs ρ σ
      | .brk => some (.next, ρ, σ)
      | .ret v => some (.ret v, ρ, σ)
    else .none

mutual
noncomputable def exe (Fs : List Fun) : IS → Rho → AH → Option (Fl × Rho × AH)
  | .asg n e, ρ, σ => (den Fs e ρ σ).map fun (v, σ) => (.next, ρ.set n (some v), σ)
  | .asgT ns e, ρ, σ => (den Fs e ρ σ).bind fun (v, σ) => (bindT ns true v ρ σ).map fun ρ => (.next, ρ, σ)
  | .setA o k e, ρ, σ => (den Fs e ρ σ).bind fun (v, σ) => (den Fs o ρ σ).bind fun (x, σ) => (setAttrH x k v σ).map fun σ => (.next, ρ, σ)
  | .setI o i e, ρ, σ => (den Fs e ρ σ).bind fun (v, σ) => (den Fs o ρ σ).bind fun (x, σ) => (den Fs i ρ σ).bind fun (y, σ) => (setItemH x y v σ).map fun σ => (.next, ρ, σ)
  | .aug op n e, ρ, σ => match ρ[n]? with
    | some (some (.int a)) => (den Fs e ρ σ).bind fun (y, σ) => match y with
      | .int b => (binV op a b).map fun r => (.next, ρ.set n (some (.int r)), σ)
      | _ => .none
    | _ => .none
  | .augA op o k e, ρ, σ => (den Fs o ρ σ).bind fun (x, σ) => (attrV x k σ).bind fun a => (den Fs e ρ σ).bind fun (y, σ) => match a, y with
    | .int a, .int b => (binV op a b).bind fun r => (setAttrH x k (.int r) σ).map fun σ => (.next, ρ, σ)
    | _, _ => .none
  | .augI op o i e, ρ, σ => (den Fs o ρ σ).bind fun (x, σ) => (den Fs i ρ σ).bind fun (j, σ) => (subV x j σ).bind fun a => (den Fs e ρ σ).bind fun (y, σ) => match a, y with
    | .int a, .int b => (binV op a b).bind fun r => (setItemH x j (.int r) σ).map fun σ => (.next, ρ, σ)
    | _, _ => .none
  | .ite c a b, ρ, σ => (den Fs c ρ σ).bind fun (x, σ) => (truth x).bind fun t => if t then exes Fs a ρ σ else exes Fs b ρ σ
  | .while c b, ρ, σ => whileF (den Fs c) (exes Fs b) 100 ρ σ
  | .for ns tu src b, ρ, σ => (den Fs src ρ σ).bind fun (x, σ) => match x with
    | .ref a => match σ[a]? with
      | some (m, .lst xs) => if xs.length ≤ lim then forF (fun σ => σ[a]? == some (m, .lst xs)) (bindT ns tu) (exes Fs b) xs ρ σ else .none
      | some (m, .tup xs) => if xs.length ≤ lim then forF (fun σ => σ[a]? == some (m, .tup xs)) (bindT ns tu) (exes Fs b) xs ρ σ else .none
      | some (_, .rng x y s) => (rngList x y s).bind fun ks => forF (fun _ => true) (bindT ns tu) (exes Fs b) (ks.map AV.int) ρ σ
      | _ => .none
    | _ => .none
  | .ret e, ρ, σ => (den Fs e ρ σ).map fun (v, σ) => (.ret v, ρ, σ)
  | .brk, ρ, σ => some (.brk, ρ, σ)
  | .expr e, ρ, σ => (den Fs e ρ σ).bind fun (v, σ) => match v with
    | .ref _ => .none
    | _ => some (.next, ρ, σ)
  | .bad, _, _ => .none
noncomputable def exes (Fs : List Fun) : ISs → Rho → AH → Option (Fl × Rho × AH)
  | .nil, ρ, σ => some (.next, ρ, σ)
  | .cons s ss, ρ, σ => (exe Fs s ρ σ).bind fun (f, ρ, σ) => match f with
    | .next => exes Fs ss ρ σ
    | f => some (f, ρ, σ)
end

noncomputable def denFun (Fs : List Fun) (np ns : Nat) (body : ISs) : Fun := fun args σ =>
  if args.length = np then (exes Fs body (args.map some ++ List.replicate (ns - np) .none) σ).bind fun (f, _, σ) => match f with
    | .ret v => some (v, σ)
    | .next => some (.none, σ)
    | .brk => .none
  else .none
end Mine
/-! How my abstract heap stands for the machine's. -/
namespace Mine
open PySem PySem.W PySem.Calls PyProof.Rows

inductive All2 {α β : Type} (R : α → β → Prop) : List α → List β → Prop
  | nil : All2 R [] []
  | cons {a b as bs} : R a b → All2 R as bs → All2 R (a :: as) (b :: bs)

namespace All2
variable {α β : Type} {R S : α → β → Prop}
theorem length {as : List α} {bs : List β} (h : All2 R as bs) : as.length = bs.length := by
  induction h with
  | nil => rfl
  | cons _ _ ih => exact congrArg Nat.succ ih
theorem imp (f : ∀ a b, R a b → S a b) {as : List α} {bs : List β} (h : All2 R as bs) : All2 S as bs := by
  induction h with
  | nil => exact .nil
  | cons h _ ih => exact .cons (f _ _ h) ih
theorem get {as : List α} {bs : List β} (h : All2 R as bs) : ∀ {i : Nat} {a : α}, as[i]? = some a → ∃ b, bs[i]? = some b ∧ R a b := by
  induction h with
  | nil => intro i a e; cases e
  | cons h _ ih =>
    intro i a e
    cases i with
    | zero => cases Option.some.inj e; exact ⟨_, rfl, h⟩
    | succ i => exact ih e
theorem set {as : List α} {bs : List β} (h : All2 R as bs) : ∀ {i : Nat} {a : α} {b : β}, R a b → All2 R (as.set i a) (bs.set i b) := by
  induction h with
  | nil => intro i a b _; exact .nil
  | cons h t ih =>
    intro i a b h'
    cases i with
    | zero => exact .cons h' t
    | succ i => exact .cons h (ih h')
theorem append {cs : List α} {ds : List β} (h' : All2 R cs ds) {as : List α} {bs : List β} (h : All2 R as bs) : All2 R (as ++ cs) (bs ++ ds) := by
  induction h with
  | nil => exact h'
  | cons h _ ih => exact .cons h ih
theorem take {as : List α} {bs : List β} (h : All2 R as bs) : ∀ n : Nat, All2 R (as.take n) (bs.take n) := by
  induction h with
  | nil => intro n; cases n <;> exact .nil
  | cons h _ ih =>
    intro n
    cases n with
    | zero => exact .nil
    | succ n => exact .cons h (ih n)
theorem getb {as : List α} {bs : List β} (h : All2 R as bs) : ∀ {i : Nat} {b : β}, bs[i]? = some b → ∃ a, as[i]? = some a ∧ R a b := by
  induction h with
  | nil => intro i b e; cases e
  | cons h _ ih =>
    intro i b e
    cases i with
    | zero => cases Option.some.inj e; exact ⟨_, rfl, h⟩
    | succ i => exact ih e
end All2

/-- where an abstract object lies: its address, and its dict's -/
structure Pl where
  a : Addr
  d : Option Addr
noncomputable abbrev Mu := List Pl
noncomputable def Pl.foot (p : Pl) : List Addr := p.a :: p.d.toList

noncomputable def VR (μ : Mu) : AV → Value → Prop
  | .none, v => v = .none
  | .bool b, v => v = .bool b
  | .int i, v => ∃ t, v = .int i t
  | .ref id, v => ∃ p, μ[id]? = some p ∧ v = .ref p.a

theorem VR.mono {μ μ' : Mu} (h : μ <+: μ') : ∀ {a : AV} {v : Value}, VR μ a v → VR μ' a v
  | .none, _, e => e
  | .bool _, _, e => e
  | .int _, _, e => e
  | .ref id, _, ⟨p, hp, e⟩ => ⟨p, by obtain ⟨t, rfl⟩ := h; rw [List.getElem?_append_left (List.getElem?_eq_some_iff.mp hp).1]; exact hp, e⟩
theorem VR.monos {μ μ' : Mu} (h : μ <+: μ') {xs : List AV} {vs : List Value} (e : All2 (VR μ) xs vs) : All2 (VR μ') xs vs := e.imp fun _ _ => VR.mono h

structure Cx where
  prog : Program
  w : World
  K : Frag
  h₀ : Heap
  mg : Str → Option Value
  mb : Str → Option Value
  cls : List Addr
  inits : List Addr
  atr : List Str
  stat : Mu
  clsn : List Str
  gints : List (Str × Int)
  grefs : List (Str × Nat)

/-- an object's fields beside its dict's entries -/
inductive Flds (X : Cx) (μ : Mu) : List (Nat × AV) → List DictEntry → Prop
  | nil : Flds X μ [] []
  | cons {k v fs x t y es} : X.atr[k]? = some x → VR μ v y → Flds X μ fs es → Flds X μ ((k, v) :: fs) (⟨PyData.keyHash X.w.params x, .str x t, y⟩ :: es)

noncomputable abbrev Ents (μ : Mu) (kvs : List (Int × AV)) (es : List (Int × Value)) : Prop := All2 (fun p q => p.1 = q.1 ∧ VR μ p.2 q.2) kvs es

noncomputable abbrev listO (vs : List Value) (n : Nat) : Obj := { cls := .type "list", data := .seq vs.toArray n }
noncomputable abbrev tupO (vs : List Value) (n : Nat) : Obj := { cls := .type "tuple", data := .seq vs.toArray n }

noncomputable def ObjR (X : Cx) (μ : Mu) (h : Heap) : AO → Pl → Prop
  | .lst xs, p => p.d = none ∧ ∃ vs : List Value, h.PlainList p.a vs.toArray ∧ All2 (VR μ) xs vs
  | .tup xs, p => p.d = none ∧ ∃ vs : List Value, IsTup h p.a vs.toArray ∧ All2 (VR μ) xs vs
  | .rng a b s, p => p.d = none ∧ ∃ t u v, IsRange h p.a a b s t u v
  | .inst c fs, p => ∃ C dx es n, X.cls[c]? = some C ∧ p.d = some dx ∧ h.get? p.a = some (instObj C dx) ∧ h.get? dx = some (dictOf es n) ∧ Flds X μ fs es
  | .dic kvs, p => p.d = none ∧ (p.a == sysModules) = false ∧ ∃ es : List (Int × Value), h.DictOf (intKind X.prog X.w) p.a es ∧ Ents μ kvs es


theorem ObjR.mono {X : Cx} {μ μ' : Mu} {h h' : Heap} (hm : μ <+: μ') {o : AO} {p : Pl} (hk : ∀ b ∈ p.foot, ∀ o, h.get? b = some o → h'.get? b = some o) (r : ObjR X μ h o p) : ObjR X μ' h' o p := by
  have ka : ∀ o, h.get? p.a = some o → h'.get? p.a = some o := hk p.a (List.mem_cons_self ..)
  cases o with
  | lst xs => obtain ⟨d, vs, ⟨n, e⟩, r⟩ := r; exact ⟨d, vs, ⟨n, ka _ e⟩, VR.monos hm r⟩
  | tup xs => obtain ⟨d, vs, ⟨o, e, f⟩, r⟩ := r; exact ⟨d, vs, ⟨o, ka _ e, f⟩, VR.monos hm r⟩
  | rng a b s => obtain ⟨d, t, u, v, e⟩ := r; exact ⟨d, t, u, v, ka _ e⟩
  | inst c fs =>
    obtain ⟨C, dx, es, n, hc, hd, e1, e2, f⟩ := r
    refine ⟨C, dx, es, n, hc, hd, ka _ e1, hk dx (by simp [Pl.foot, hd]) _ e2, ?_⟩
    clear e2
    induction f with
    | nil => exact .nil
    | cons a b _ ih => exact .cons a (b.mono hm) ih
  | dic kvs =>
    obtain ⟨d, q, es, ⟨o, r1, r2, e1, r⟩, f⟩ := r
    exact ⟨d, q, es, ⟨o, r1, r2, ka _ e1, r⟩, f.imp fun _ _ h => ⟨h.1, h.2.mono hm⟩⟩

theorem ObjR.live {X : Cx} {μ : Mu} {h : Heap} {o : AO} {p : Pl} (r : ObjR X μ h o p) : ∀ b ∈ p.foot, ∃ o, h.get? b = some o := by
  intro b hb
  cases o with
  | lst xs => obtain ⟨d, vs, ⟨n, e⟩, r⟩ := r; simp [Pl.foot, d] at hb; subst hb; exact ⟨_, e⟩
  | tup xs => obtain ⟨d, vs, ⟨o, e, f⟩, r⟩ := r; simp [Pl.foot, d] at hb; subst hb; exact ⟨_, e⟩
  | rng a c s => obtain ⟨d, t, u, v, e⟩ := r; simp [Pl.foot, d] at hb; subst hb; exact ⟨_, e⟩
  | inst c fs =>
    obtain ⟨C, dx, es, n, hc, hd, e1, e2, f⟩ := r
    simp [Pl.foot, hd] at hb
    rcases hb with rfl | rfl
    · exact ⟨_, e1⟩
    · exact ⟨_, e2⟩
  | dic kvs => obtain ⟨d, q, es, ⟨o, r1, r2, e, r⟩, f⟩ := r; simp [Pl.foot, d] at hb; subst hb; exact ⟨_, e⟩

/-- the addresses that a step may write -/
noncomputable def Wr (μ : Mu) (σ : AH) (b : Addr) : Prop := ∃ (id : Nat) (o : AO) (p : Pl), σ[id]? = some (true, o) ∧ μ[id]? = some p ∧ b ∈ p.foot

structure FC where
  slots : List (Option (Str × Bool))
  names : List (Str × NameKind)
  fns : List (Str × Addr)

noncomputable abbrev cellO (ov : Option Value) : Obj := { cls := .type "cell", data := .cell ov }

structure EnvOK (env : Env) (fc : FC) : Prop where
  kind : env.scope.kind = .function
  glob : env.globals = mainGlobals
  blt : env.builtins = builtinsNs
  names : env.scope.names = fc.names
  code : ∀ (i : Nat) (x : Str), fc.slots[i]? = some (some (x, false)) → fc.names.lookup x = some .local
  codec : ∀ (i : Nat) (x : Str), fc.slots[i]? = some (some (x, true)) → fc.names.lookup x = some .cell
  inj : ∀ (i j : Nat) (x : Str) (b c : Bool), fc.slots[i]? = some (some (x, b)) → fc.slots[j]? = some (some (x, c)) → i = j

structure HR (X : Cx) (μ : Mu) (σ : AH) (h : Heap) : Prop where
  len : μ.length = σ.length
  stat : X.stat <+: μ
  obj : ∀ (id : Nat) (m : Bool) (o : AO), σ[id]? = some (m, o) → ∃ p, μ[id]? = some p ∧ ObjR X μ h o p
  apart : ∀ (i j : Nat) (p q : Pl) (b : Addr), μ[i]? = some p → μ[j]? = some q → b ∈ p.foot → b ∈ q.foot → i = j
  frees : ∀ b, Wr μ σ b → X.h₀.get? b = none
  base : ∀ b o, X.h₀.get? b = some o → h.get? b = some o

structure Sta (X : Cx) (env : Env) (fc : FC) (ρ : Rho) (μ : Mu) (σ : AH) (h : Heap) : Prop extends HR X μ σ h where
  ffree : ∀ (i : Nat) (p : Pl) (b : Addr), μ[i]? = some p → b ∈ p.foot → b ≠ env.locals ∧ ∀ x c, env.cells.lookup x = some c → b ≠ c
  loc : ∃ m, h.Ns env.locals m ∧ ∀ (i : Nat) (v : AV) (x : Str), ρ[i]? = some (some v) → fc.slots[i]? = some (some (x, false)) → ∃ v', m x = some v' ∧ VR μ v v'
  lfree : X.h₀.get? env.locals = none
  cel : ∀ (i : Nat) (x : Str), fc.slots[i]? = some (some (x, true)) → ∃ c ov, env.cells.lookup x = some c ∧ h.IsCell c ov ∧ ∀ v, ρ[i]? = some (some v) → ∃ v', ov = some v' ∧ VR μ v v'
  cfree : ∀ x c, env.cells.lookup x = some c → X.h₀.get? c = none ∧ c ≠ env.locals ∧ ∃ o, h.get? c = some o
  cinj : ∀ x y c, env.cells.lookup x = some c → env.cells.lookup y = some c → x = y

structure Ext (P : Addr → Prop) (μ : Mu) (σ : AH) (h : Heap) (μ' : Mu) (σ' : AH) (h' : Heap) : Prop where
  pre : μ <+: μ'
  keep : ∀ b o, ¬ Wr μ σ b → ¬ P b → h.get? b = some o → h'.get? b = some o
  wr : ∀ b, Wr μ' σ' b → Wr μ σ b ∨ h.get? b = none
  alive : ∀ b o, h.get? b = some o → ∃ o', h'.get? b = some o'
  new : ∀ (i : Nat) (p : Pl) (b : Addr), μ'[i]? = some p → b ∈ p.foot → μ[i]? = some p ∨ h.get? b = none

noncomputable abbrev NoP : Addr → Prop := fun _ => False

theorem Ext.refl (P : Addr → Prop) (μ : Mu) (σ : AH) (h : Heap) : Ext P μ σ h μ σ h := ⟨List.prefix_refl _, fun _ _ _ _ e => e, fun _ w => .inl w, fun _ o e => ⟨o, e⟩, fun _ _ _ e _ => .inl e⟩
theorem Ext.trans {P : Addr → Prop} {μ μ' μ'' : Mu} {σ σ' σ'' : AH} {h h' h'' : Heap} (x : Ext P μ σ h μ' σ' h') (y : Ext P μ' σ' h' μ'' σ'' h'') : Ext P μ σ h μ'' σ'' h'' where
  pre := x.pre.trans y.pre
  keep := fun b o hw hp e => y.keep b o (fun w => (x.wr b w).elim hw fun n => by rw [n] at e; cases e) hp (x.keep b o hw hp e)
  wr := fun b w => (y.wr b w).elim (x.wr b) fun n => by
    cases e : h.get? b with
    | none => exact .inr rfl
    | some o => obtain ⟨o', e'⟩ := x.alive b o e; rw [n] at e'; cases e'
  alive := fun b o e => let ⟨_, e'⟩ := x.alive b o e; y.alive b _ e'
  new := fun i p b hp hb => (y.new i p b hp hb).elim (fun e => x.new i p b e hb) fun n => by
    cases e : h.get? b with
    | none => exact .inr rfl
    | some o => obtain ⟨o', e'⟩ := x.alive b o e; rw [n] at e'; cases e'
theorem Ext.weak {P R : Addr → Prop} (hPR : ∀ b, P b → R b) {μ μ' : Mu} {σ σ' : AH} {h h' : Heap} (x : Ext P μ σ h μ' σ' h') : Ext R μ σ h μ' σ' h' :=
  ⟨x.pre, fun b o hw hr e => x.keep b o hw (fun p => hr (hPR b p)) e, x.wr, x.alive, x.new⟩
theorem Ext.ofNo {P : Addr → Prop} {μ μ' : Mu} {σ σ' : AH} {h h' : Heap} (x : Ext NoP μ σ h μ' σ' h') : Ext P μ σ h μ' σ' h' := x.weak fun _ f => f.elim
/-- the heap has grown, and nothing else -/
theorem Ext.grown {P : Addr → Prop} {μ : Mu} {σ : AH} {h h' : Heap} (k : ∀ b o, h.get? b = some o → h'.get? b = some o) : Ext P μ σ h μ σ h' :=
  ⟨List.prefix_refl _, fun b o _ _ e => k b o e, fun _ w => .inl w, fun b o e => ⟨o, k b o e⟩, fun _ _ _ e _ => .inl e⟩

theorem getElem?_snoc {α : Type} {l : List α} {x y : α} {i : Nat} (h : (l ++ [x])[i]? = some y) : l[i]? = some y ∨ (i = l.length ∧ y = x) := by
  rcases Nat.lt_trichotomy i l.length with q | q | q
  · rw [List.getElem?_append_left q] at h; exact .inl h
  · subst q
    rw [List.getElem?_append_right (Nat.le_refl _), Nat.sub_self] at h
    simp only [List.getElem?_cons_zero, Option.some.injEq] at h
    exact .inr ⟨rfl, h.symm⟩
  · rw [List.getElem?_eq_none (by rw [List.length_append, List.length_singleton]; omega)] at h; cases h

section
variable {X : Cx} {env : Env} {fc : FC} {ρ : Rho} {μ μ' : Mu} {σ σ' : AH} {h h' : Heap}

theorem HR.live (S : HR X μ σ h) {i : Nat} {p : Pl} (hp : μ[i]? = some p) : ∀ b ∈ p.foot, ∃ o, h.get? b = some o := by
  have hi : i < σ.length := S.len ▸ (List.getElem?_eq_some_iff.mp hp).1
  obtain ⟨q, hq, r⟩ := S.obj i σ[i].1 σ[i].2 (by rw [List.getElem?_eq_getElem hi])
  rw [hp] at hq
  cases hq
  exact r.live

theorem HR.grown (S : HR X μ σ h) (k : ∀ b o, h.get? b = some o → h'.get? b = some o) : HR X μ σ h' where
  len := S.len
  stat := S.stat
  obj := fun id m o e => let ⟨p, hp, r⟩ := S.obj id m o e; ⟨p, hp, r.mono (List.prefix_refl _) fun b _ o => k b o⟩
  apart := S.apart
  frees := S.frees
  base := fun b o e => k _ _ (S.base b o e)

/-- what no abstract object stands at may change, if the base stays -/
theorem HR.but (S : HR X μ σ h) (k : ∀ (i : Nat) (p : Pl) (b : Addr) (o : Obj), μ[i]? = some p → b ∈ p.foot → h.get? b = some o → h'.get? b = some o) (kb : ∀ b o, X.h₀.get? b = some o → h'.get? b = some o) : HR X μ σ h' where
  len := S.len
  stat := S.stat
  obj := fun id m o e => let ⟨p, hp, r⟩ := S.obj id m o e; ⟨p, hp, r.mono (List.prefix_refl _) fun b hb o => k id p b o hp hb⟩
  apart := S.apart
  frees := S.frees
  base := kb
/-- an object that was not told of, told of -/
theorem HR.told (S : HR X μ σ h) {m : Bool} {o : AO} {p : Pl} (hn : ∀ b ∈ p.foot, ∀ (i : Nat) (q : Pl), μ[i]? = some q → b ∉ q.foot) (hb : ∀ b ∈ p.foot, m = true → X.h₀.get? b = none) (hr : ObjR X (μ ++ [p]) h o p) :
    HR X (μ ++ [p]) (σ ++ [(m, o)]) h := by
  have hm : μ <+: μ ++ [p] := List.prefix_append ..
  refine ⟨by simp [S.len], S.stat.trans hm, fun id m' o' e => ?_, fun i j q r b hi hj hq1 hq2 => ?_, fun b hb' => ?_, S.base⟩
  · rcases getElem?_snoc e with e1 | ⟨e1, e2⟩
    · obtain ⟨q, hq, r⟩ := S.obj id m' o' e1
      exact ⟨q, by rw [List.getElem?_append_left (List.getElem?_eq_some_iff.mp hq).1]; exact hq, r.mono hm fun b _ o e => e⟩
    · obtain ⟨rfl, rfl⟩ := Prod.mk.inj e2
      subst e1
      exact ⟨p, by rw [← S.len]; simp, hr⟩
  · rcases getElem?_snoc hi with h1 | ⟨h1, h2⟩ <;> rcases getElem?_snoc hj with h3 | ⟨h3, h4⟩
    · exact S.apart i j q r b h1 h3 hq1 hq2
    · subst h4; exact absurd hq1 (hn b hq2 i q h1)
    · subst h2; exact absurd hq2 (hn b hq1 j r h3)
    · rw [h1, h3]
  · obtain ⟨id, o', q, e, hq, hq'⟩ := hb'
    rcases getElem?_snoc hq with h1 | ⟨h1, h2⟩
    · rcases getElem?_snoc e with e1 | ⟨e1, e2⟩
      · exact S.frees b ⟨id, o', q, e1, h1, hq'⟩
      · exact absurd (List.getElem?_eq_some_iff.mp h1).1 (by rw [S.len, e1]; exact Nat.lt_irrefl _)
    · subst h2
      rcases getElem?_snoc e with e1 | ⟨e1, e2⟩
      · exact absurd (List.getElem?_eq_some_iff.mp e1).1 (by rw [h1, S.len]; exact Nat.lt_irrefl _)
      · exact hb b hq' (congrArg Prod.fst e2).symm
/-- a new object, told of -/
theorem HR.made (S : HR X μ σ h) (k : ∀ b o, h.get? b = some o → h'.get? b = some o) {m : Bool} {o : AO} {p : Pl} (hn : ∀ b ∈ p.foot, h.get? b = none) (hr : ObjR X (μ ++ [p]) h' o p) :
    HR X (μ ++ [p]) (σ ++ [(m, o)]) h' := by
  have hm : μ <+: μ ++ [p] := List.prefix_append ..
  have old : ∀ {i : Nat} {q : Pl} {b : Addr}, μ[i]? = some q → b ∈ q.foot → b ∉ p.foot := fun hq hb hb' => by
    obtain ⟨o, e⟩ := S.live hq _ hb
    rw [hn _ hb'] at e; cases e
  refine ⟨by simp [S.len], S.stat.trans hm, fun id m' o' e => ?_, fun i j q r b hi hj hb hb' => ?_, fun b hb => ?_, fun b o e => k _ _ (S.base b o e)⟩
  · rcases getElem?_snoc e with e1 | ⟨e1, e2⟩
    · obtain ⟨q, hq, r⟩ := S.obj id m' o' e1
      exact ⟨q, by rw [List.getElem?_append_left (List.getElem?_eq_some_iff.mp hq).1]; exact hq, r.mono hm fun b _ o => k b o⟩
    · obtain ⟨rfl, rfl⟩ := Prod.mk.inj e2
      subst e1
      exact ⟨p, by rw [← S.len]; simp, hr⟩
  · rcases getElem?_snoc hi with h1 | ⟨h1, h2⟩ <;> rcases getElem?_snoc hj with h3 | ⟨h3, h4⟩
    · exact S.apart i j q r b h1 h3 hb hb'
    · subst h4; exact absurd hb' (old h1 hb)
    · subst h2; exact absurd hb (old h3 hb')
    · rw [h1, h3]
  · obtain ⟨id, o', q, e, hq, hb⟩ := hb
    rcases getElem?_snoc hq with h1 | ⟨h1, h2⟩
    · rcases getElem?_snoc e with e1 | ⟨e1, e2⟩
      · exact S.frees b ⟨id, o', q, e1, h1, hb⟩
      · exact absurd (List.getElem?_eq_some_iff.mp h1).1 (by rw [S.len, e1]; exact Nat.lt_irrefl _)
    · subst h2
      have hnb := hn b hb
      cases q : X.h₀.get? b with
      | none => rfl
      | some o => rw [S.base _ _ q] at hnb; cases hnb

theorem Ext.made {P : Addr → Prop} (S : HR X μ σ h) (k : ∀ b o, h.get? b = some o → h'.get? b = some o) {m : Bool} {o : AO} {p : Pl} (hn : ∀ b ∈ p.foot, h.get? b = none) :
    Ext P μ σ h (μ ++ [p]) (σ ++ [(m, o)]) h' where
  pre := List.prefix_append ..
  keep := fun b o _ _ e => k b o e
  wr := fun b ⟨id, o', q, e, hq, hb⟩ => by
    rcases getElem?_snoc hq with h1 | ⟨h1, h2⟩
    · rcases getElem?_snoc e with e1 | ⟨e1, e2⟩
      · exact .inl ⟨id, o', q, e1, h1, hb⟩
      · exact absurd (List.getElem?_eq_some_iff.mp h1).1 (by rw [S.len, e1]; exact Nat.lt_irrefl _)
    · subst h2; exact .inr (hn b hb)
  alive := fun b o e => ⟨o, k b o e⟩
  new := fun i q b hq hb => by
    rcases getElem?_snoc hq with h1 | ⟨h1, h2⟩
    · exact .inl h1
    · subst h2; exact .inr (hn b hb)

/-- an object that may be written, written -/
theorem HR.upd (S : HR X μ σ h) {id : Nat} {o o' : AO} {p : Pl} (hs : σ[id]? = some (true, o)) (hp : μ[id]? = some p) (k : ∀ b o, b ∉ p.foot → h.get? b = some o → h'.get? b = some o) (hr : ObjR X μ h' o' p) :
    HR X μ (σ.set id (true, o')) h' := by
  have hlt : id < σ.length := (List.getElem?_eq_some_iff.mp hs).1
  refine ⟨by rw [List.length_set]; exact S.len, S.stat, fun j m q e => ?_, S.apart, fun b hb => ?_, fun b q e => ?_⟩
  · by_cases hj : id = j
    · subst hj
      rw [List.getElem?_set_self hlt] at e
      cases e
      exact ⟨p, hp, hr⟩
    · rw [List.getElem?_set_ne hj] at e
      obtain ⟨r, h1, h2⟩ := S.obj j m q e
      exact ⟨r, h1, h2.mono (List.prefix_refl _) fun b hb o e => k b o (fun hb' => hj (S.apart id j p r b hp h1 hb' hb)) e⟩
  · obtain ⟨j, q, r, e, hr', hb⟩ := hb
    by_cases hj : id = j
    · subst hj; exact S.frees b ⟨id, o, r, hs, hr', hb⟩
    · rw [List.getElem?_set_ne hj] at e; exact S.frees b ⟨j, q, r, e, hr', hb⟩
  · refine k b q (fun hb => ?_) (S.base b q e)
    have := S.frees b ⟨id, o, p, hs, hp, hb⟩
    rw [this] at e; cases e

theorem Wr.upd {id : Nat} {o o' : AO} (hs : σ[id]? = some (true, o)) {b : Addr} (w : Wr μ (σ.set id (true, o')) b) : Wr μ σ b := by
  have hlt : id < σ.length := (List.getElem?_eq_some_iff.mp hs).1
  obtain ⟨j, q, r, e, hr', hb⟩ := w
  by_cases hj : id = j
  · subst hj; exact ⟨id, o, r, hs, hr', hb⟩
  · rw [List.getElem?_set_ne hj] at e; exact ⟨j, q, r, e, hr', hb⟩

theorem Ext.upd {P : Addr → Prop} {id : Nat} {o o' : AO} {p : Pl} (hs : σ[id]? = some (true, o)) (hp : μ[id]? = some p) (k : ∀ b o, b ∉ p.foot → h.get? b = some o → h'.get? b = some o)
    (hl : ∀ b ∈ p.foot, ∃ o, h'.get? b = some o) : Ext P μ σ h μ (σ.set id (true, o')) h' where
  pre := List.prefix_refl _
  keep := fun b q hw _ e => k b q (fun hb => hw ⟨id, o, p, hs, hp, hb⟩) e
  wr := fun b w => .inl (w.upd hs)
  alive := fun b q e => by
    by_cases hb : b ∈ p.foot
    · exact hl b hb
    · exact ⟨q, k b q hb e⟩
  new := fun _ _ _ e _ => .inl e

theorem Sta.wfree (S : Sta X env fc ρ μ σ h) (b : Addr) (w : Wr μ σ b) : b ≠ env.locals ∧ ∀ x c, env.cells.lookup x = some c → b ≠ c := by
  obtain ⟨id, o, p, _, hp, hb⟩ := w
  exact S.ffree id p b hp hb
/-- a frame that stands still while the rest went on -/
theorem Sta.after (S : Sta X env fc ρ μ σ h) (H : HR X μ' σ' h') (x : Ext NoP μ σ h μ' σ' h') : Sta X env fc ρ μ' σ' h' where
  toHR := H
  ffree := fun i p b hp hb => (x.new i p b hp hb).elim (fun e => S.ffree i p b e hb) fun n => by
    obtain ⟨m, ⟨o, _, _, ho, _⟩, _⟩ := S.loc
    refine ⟨?_, fun y c hc => ?_⟩
    · rintro rfl; rw [ho] at n; cases n
    · rintro rfl
      obtain ⟨_, _, q, e⟩ := S.cfree y b hc
      rw [e] at n; cases n
  loc := let ⟨m, n, f⟩ := S.loc
    ⟨m, n.at' fun o e => x.keep _ _ (fun w => (S.wfree _ w).1 rfl) id e, fun i v y a b => let ⟨v', h1, h2⟩ := f i v y a b; ⟨v', h1, h2.mono x.pre⟩⟩
  lfree := S.lfree
  cel := fun i y e => let ⟨c, ov, a, b, f⟩ := S.cel i y e
    ⟨c, ov, a, (let ⟨o, e1, e2⟩ := b; ⟨o, x.keep _ _ (fun w => (S.wfree _ w).2 _ _ a rfl) id e1, e2⟩), fun v hv => let ⟨v', h1, h2⟩ := f v hv; ⟨v', h1, h2.mono x.pre⟩⟩
  cfree := fun y c e => let ⟨a, b, o, f⟩ := S.cfree y c e; ⟨a, b, x.alive _ _ f⟩
  cinj := S.cinj
theorem Sta.grown (S : Sta X env fc ρ μ σ h) (k : ∀ b o, h.get? b = some o → h'.get? b = some o) : Sta X env fc ρ μ σ h' := S.after (S.toHR.grown k) (.grown k)
end
end Mine
namespace Mine
open PySem PySem.W PySem.Calls PyProof.Rows
/-! A look at a term of the program, one layer at a time; each with what it tells. -/
theorem bindK {α β : Type} {o : Option α} {f : α → Option β} {z : β} {C : Prop} (h : o.bind f = some z) (k : ∀ x, o = some x → f x = some z → C) : C := by
  cases o with
  | none => cases h
  | some x => exact k x rfl h
theorem bind2K {α γ β : Type} {o : Option (α × γ)} {f : α × γ → Option β} {z : β} {C : Prop} (h : o.bind f = some z) (k : ∀ x y, o = some (x, y) → f (x, y) = some z → C) : C :=
  bindK h fun x => k x.1 x.2
theorem bind3K {α γ δ β : Type} {o : Option (α × γ × δ)} {f : α × γ × δ → Option β} {z : β} {C : Prop} (h : o.bind f = some z) (k : ∀ x y w, o = some (x, y, w) → f (x, y, w) = some z → C) : C :=
  bindK h fun x => k x.1 x.2.1 x.2.2
theorem mapK {α β : Type} {o : Option α} {f : α → β} {z : β} {C : Prop} (h : o.map f = some z) (k : ∀ x, o = some x → f x = z → C) : C := by
  cases o with
  | none => cases h
  | some x => exact k x rfl (Option.some.inj h)
theorem ifE {α : Type} {c : Prop} [Decidable c] {a : Option α} {z : α} (h : (if c then a else none) = some z) : c ∧ a = some z := by
  by_cases q : c
  · rw [if_pos q] at h; exact ⟨q, h⟩
  · rw [if_neg q] at h; cases h
theorem ifK {α : Type} {c : Prop} [Decidable c] {a : Option α} {z : α} {C : Prop} (h : (if c then a else none) = some z) (k : c → a = some z → C) : C := k (ifE h).1 (ifE h).2
@[elab_as_elim] theorem pairK {α β : Type} {a c : α} {b d : β} {M : α → β → Prop} (h : some (a, b) = some (c, d)) (k : M a b) : M c d := by cases h; exact k
@[elab_as_elim] theorem prodK {α β : Type} {a c : α} {b d : β} {M : α → β → Prop} (h : (a, b) = (c, d)) (k : M a b) : M c d := by cases h; exact k
theorem andE {a b : Bool} (h : (a && b) = true) : a = true ∧ b = true := Bool.and_eq_true_iff.mp h
theorem andK {a b : Bool} {C : Prop} (h : (a && b) = true) (k : a = true → b = true → C) : C := k (andE h).1 (andE h).2
theorem and3K {a b c : Bool} {C : Prop} (h : (a && b && c) = true) (k : a = true → b = true → c = true → C) : C := andK h fun h1 h2 => andK h1 fun h3 h4 => k h3 h4 h2
theorem and4K {a b c d : Bool} {C : Prop} (h : (a && b && c && d) = true) (k : a = true → b = true → c = true → d = true → C) : C := andK h fun h1 h2 => and3K h1 fun h3 h4 h5 => k h3 h4 h5 h2
theorem and5K {a b c d e : Bool} {C : Prop} (h : (a && b && c && d && e) = true) (k : a = true → b = true → c = true → d = true → e = true → C) : C := andK h fun h1 h2 => and4K h1 fun h3 h4 h5 h6 => k h3 h4 h5 h6 h2
@[elab_as_elim] theorem eqK {α : Type} [BEq α] [LawfulBEq α] {a b : α} {M : α → Prop} (h : (a == b) = true) (k : M b) : M a := by cases eq_of_beq h; exact k

noncomputable def on1 {α : Type} : List α → (α → Bool) → Bool
  | [a], p => p a
  | _, _ => false
@[elab_as_elim] theorem on1K {α : Type} {l : List α} {p : α → Bool} {M : List α → Prop} (h : on1 l p = true) (k : ∀ a, p a = true → M [a]) : M l := by
  cases l with
  | nil => cases h
  | cons a l =>
    cases l with
    | nil => exact k a h
    | cons b l => cases h
noncomputable def on2 {α : Type} : List α → (α → α → Bool) → Bool
  | [a, b], p => p a b
  | _, _ => false
@[elab_as_elim] theorem on2K {α : Type} {l : List α} {p : α → α → Bool} {M : List α → Prop} (h : on2 l p = true) (k : ∀ a b, p a b = true → M [a, b]) : M l := by
  cases l with
  | nil => cases h
  | cons a l =>
    cases l with
    | nil => cases h
    | cons b l =>
      cases l with
      | nil => exact k a b h
      | cons c l => cases h
noncomputable def onO {α : Type} : Option α → (α → Bool) → Bool
  | some a, p => p a
  | _, _ => false
theorem onOE {α : Type} {o : Option α} {p : α → Bool} {C : Prop} (h : onO o p = true) (k : ∀ a, o = some a → p a = true → C) : C := by
  cases o with
  | none => cases h
  | some a => exact k a rfl h
@[elab_as_elim] theorem onOK {α : Type} {o : Option α} {p : α → Bool} {M : Option α → Prop} (h : onO o p = true) (k : ∀ a, p a = true → M (some a)) : M o := by
  cases o with
  | none => cases h
  | some a => exact k a h
@[elab_as_elim] theorem nilK {α : Type} {l : List α} {M : List α → Prop} (h : l.isEmpty = true) (k : M []) : M l := by
  cases l with
  | nil => exact k
  | cons a l => cases h
@[elab_as_elim] theorem noneK {α : Type} {o : Option α} {M : Option α → Prop} (h : o.isNone = true) (k : M none) : M o := by
  cases o with
  | none => exact k
  | some a => cases h
noncomputable def onConst : PySem.Expr → (Const → Bool) → Bool
  | .Constant c _ _, q => q c
  | _, _ => false
@[elab_as_elim] theorem onConstK {e : PySem.Expr} {q : Const → Bool} {M : PySem.Expr → Prop} (h : onConst e q = true) (kk : ∀ c k pos, q c = true → M (.Constant c k pos)) : M e := by
  cases e <;> first | exact Bool.noConfusion h | exact kk _ _ _ h
noncomputable def onName : PySem.Expr → (Str → Pos → Bool) → Bool
  | .Name w pos, q => q w pos
  | _, _ => false
@[elab_as_elim] theorem onNameK {e : PySem.Expr} {q : Str → Pos → Bool} {M : PySem.Expr → Prop} (h : onName e q = true) (kk : ∀ w pos, q w pos = true → M (.Name w pos)) : M e := by
  cases e <;> first | exact Bool.noConfusion h | exact kk _ _ h
noncomputable def onBin : PySem.Expr → (PySem.Expr → Operator → PySem.Expr → Bool) → Bool
  | .BinOp l o r _, q => q l o r
  | _, _ => false
@[elab_as_elim] theorem onBinK {e : PySem.Expr} {q : PySem.Expr → Operator → PySem.Expr → Bool} {M : PySem.Expr → Prop} (h : onBin e q = true) (kk : ∀ l o r pos, q l o r = true → M (.BinOp l o r pos)) : M e := by
  cases e <;> first | exact Bool.noConfusion h | exact kk _ _ _ _ h
noncomputable def onUn : PySem.Expr → (UnaryOp → PySem.Expr → Bool) → Bool
  | .UnaryOp o v _, q => q o v
  | _, _ => false
@[elab_as_elim] theorem onUnK {e : PySem.Expr} {q : UnaryOp → PySem.Expr → Bool} {M : PySem.Expr → Prop} (h : onUn e q = true) (kk : ∀ o v pos, q o v = true → M (.UnaryOp o v pos)) : M e := by
  cases e <;> first | exact Bool.noConfusion h | exact kk _ _ _ h
noncomputable def onBool : PySem.Expr → (PySem.BoolOp → List PySem.Expr → Bool) → Bool
  | .BoolOp o vs _, q => q o vs
  | _, _ => false
@[elab_as_elim] theorem onBoolK {e : PySem.Expr} {q : PySem.BoolOp → List PySem.Expr → Bool} {M : PySem.Expr → Prop} (h : onBool e q = true) (kk : ∀ o vs pos, q o vs = true → M (.BoolOp o vs pos)) : M e := by
  cases e <;> first | exact Bool.noConfusion h | exact kk _ _ _ h
noncomputable def onCmp : PySem.Expr → (PySem.Expr → List CmpOp → List PySem.Expr → Bool) → Bool
  | .Compare l os rs _, q => q l os rs
  | _, _ => false
@[elab_as_elim] theorem onCmpK {e : PySem.Expr} {q : PySem.Expr → List CmpOp → List PySem.Expr → Bool} {M : PySem.Expr → Prop} (h : onCmp e q = true) (kk : ∀ l os rs pos, q l os rs = true → M (.Compare l os rs pos)) : M e := by
  cases e <;> first | exact Bool.noConfusion h | exact kk _ _ _ _ h
noncomputable def onIf : PySem.Expr → (PySem.Expr → PySem.Expr → PySem.Expr → Bool) → Bool
  | .IfExp t u v _, q => q t u v
  | _, _ => false
@[elab_as_elim] theorem onIfK {e : PySem.Expr} {q : PySem.Expr → PySem.Expr → PySem.Expr → Bool} {M : PySem.Expr → Prop} (h : onIf e q = true) (kk : ∀ t u v pos, q t u v = true → M (.IfExp t u v pos)) : M e := by
  cases e <;> first | exact Bool.noConfusion h | exact kk _ _ _ _ h
noncomputable def onCall : PySem.Expr → (PySem.Expr → List PySem.Expr → List Keyword → Pos → Bool) → Bool
  | .Call f as ks pos, q => q f as ks pos
  | _, _ => false
@[elab_as_elim] theorem onCallK {e : PySem.Expr} {q : PySem.Expr → List PySem.Expr → List Keyword → Pos → Bool} {M : PySem.Expr → Prop} (h : onCall e q = true) (kk : ∀ f as ks pos, q f as ks pos = true → M (.Call f as ks pos)) : M e := by
  cases e <;> first | exact Bool.noConfusion h | exact kk _ _ _ _ h
noncomputable def onAttr : PySem.Expr → (PySem.Expr → Str → Pos → Bool) → Bool
  | .Attribute v w pos, q => q v w pos
  | _, _ => false
@[elab_as_elim] theorem onAttrK {e : PySem.Expr} {q : PySem.Expr → Str → Pos → Bool} {M : PySem.Expr → Prop} (h : onAttr e q = true) (kk : ∀ v w pos, q v w pos = true → M (.Attribute v w pos)) : M e := by
  cases e <;> first | exact Bool.noConfusion h | exact kk _ _ _ h
noncomputable def onSubs : PySem.Expr → (PySem.Expr → PySem.Expr → Bool) → Bool
  | .Subscript v sl _, q => q v sl
  | _, _ => false
@[elab_as_elim] theorem onSubsK {e : PySem.Expr} {q : PySem.Expr → PySem.Expr → Bool} {M : PySem.Expr → Prop} (h : onSubs e q = true) (kk : ∀ v sl pos, q v sl = true → M (.Subscript v sl pos)) : M e := by
  cases e <;> first | exact Bool.noConfusion h | exact kk _ _ _ h
noncomputable def onTup : PySem.Expr → (List PySem.Expr → Bool) → Bool
  | .Tuple vs _ _, q => q vs
  | _, _ => false
@[elab_as_elim] theorem onTupK {e : PySem.Expr} {q : List PySem.Expr → Bool} {M : PySem.Expr → Prop} (h : onTup e q = true) (kk : ∀ vs k pos, q vs = true → M (.Tuple vs k pos)) : M e := by
  cases e <;> first | exact Bool.noConfusion h | exact kk _ _ _ h
noncomputable def onLst : PySem.Expr → (List PySem.Expr → Bool) → Bool
  | .List vs _, q => q vs
  | _, _ => false
@[elab_as_elim] theorem onLstK {e : PySem.Expr} {q : List PySem.Expr → Bool} {M : PySem.Expr → Prop} (h : onLst e q = true) (kk : ∀ vs pos, q vs = true → M (.List vs pos)) : M e := by
  cases e <;> first | exact Bool.noConfusion h | exact kk _ _ h
noncomputable def onDict : PySem.Expr → (List (Option PySem.Expr) → List PySem.Expr → Bool) → Bool
  | .Dict ks vs _, q => q ks vs
  | _, _ => false
@[elab_as_elim] theorem onDictK {e : PySem.Expr} {q : List (Option PySem.Expr) → List PySem.Expr → Bool} {M : PySem.Expr → Prop} (h : onDict e q = true) (kk : ∀ ks vs pos, q ks vs = true → M (.Dict ks vs pos)) : M e := by
  cases e <;> first | exact Bool.noConfusion h | exact kk _ _ _ h
noncomputable def onSlice : PySem.Expr → (Option PySem.Expr → Option PySem.Expr → Option PySem.Expr → Bool) → Bool
  | .Slice lo up st _, q => q lo up st
  | _, _ => false
@[elab_as_elim] theorem onSliceK {e : PySem.Expr} {q : Option PySem.Expr → Option PySem.Expr → Option PySem.Expr → Bool} {M : PySem.Expr → Prop} (h : onSlice e q = true) (kk : ∀ lo up st pos, q lo up st = true → M (.Slice lo up st pos)) : M e := by
  cases e <;> first | exact Bool.noConfusion h | exact kk _ _ _ _ h
noncomputable def onLC : PySem.Expr → (PySem.Expr → List Comprehension → Scope → Bool) → Bool
  | .ListComp el gs sc _, q => q el gs sc
  | _, _ => false
@[elab_as_elim] theorem onLCK {e : PySem.Expr} {q : PySem.Expr → List Comprehension → Scope → Bool} {M : PySem.Expr → Prop} (h : onLC e q = true) (kk : ∀ el gs sc pos, q el gs sc = true → M (.ListComp el gs sc pos)) : M e := by
  cases e <;> first | exact Bool.noConfusion h | exact kk _ _ _ _ h
noncomputable def onCI : Const → (Int → Bool) → Bool
  | .int i, q => q i
  | _, _ => false
@[elab_as_elim] theorem onCIK {e : Const} {q : Int → Bool} {M : Const → Prop} (h : onCI e q = true) (kk : ∀ i, q i = true → M (.int i)) : M e := by
  cases e <;> first | exact Bool.noConfusion h | exact kk _ h
noncomputable def onCB : Const → (Bool → Bool) → Bool
  | .bool i, q => q i
  | _, _ => false
@[elab_as_elim] theorem onCBK {e : Const} {q : Bool → Bool} {M : Const → Prop} (h : onCB e q = true) (kk : ∀ i, q i = true → M (.bool i)) : M e := by
  cases e <;> first | exact Bool.noConfusion h | exact kk _ h
noncomputable def isCN : Const → Bool
  | .none => true
  | _ => false
@[elab_as_elim] theorem isCNK {c : Const} {M : Const → Prop} (h : isCN c = true) (k : M .none) : M c := by cases c <;> first | exact k | exact Bool.noConfusion h
noncomputable def onI (e : PySem.Expr) (q : Int → Bool) : Bool := onConst e fun c => onCI c q
@[elab_as_elim] theorem onIK {e : PySem.Expr} {q : Int → Bool} {M : PySem.Expr → Prop} (h : onI e q = true) (kk : ∀ i k pos, q i = true → M (.Constant (.int i) k pos)) : M e := by
  refine onConstK h fun c k pos h => ?_
  refine onCIK h fun i h => ?_
  exact kk i k pos h
noncomputable def onCmp1 (e : PySem.Expr) (q : PySem.Expr → CmpOp → PySem.Expr → Bool) : Bool := onCmp e fun l os rs => on1 os fun o => on1 rs fun r => q l o r
@[elab_as_elim] theorem onCmp1K {e : PySem.Expr} {q : PySem.Expr → CmpOp → PySem.Expr → Bool} {M : PySem.Expr → Prop} (h : onCmp1 e q = true) (kk : ∀ l o r pos, q l o r = true → M (.Compare l [o] [r] pos)) : M e := by
  refine onCmpK h fun l os rs pos h => ?_
  refine on1K h fun o h => ?_
  refine on1K h fun r h => ?_
  exact kk l o r pos h
noncomputable def onCallN (e : PySem.Expr) (q : Str → List PySem.Expr → Bool) : Bool := onCall e fun f as ks _ => ks.isEmpty && onName f fun w _ => q w as
@[elab_as_elim] theorem onCallNK {e : PySem.Expr} {q : Str → List PySem.Expr → Bool} {M : PySem.Expr → Prop} (h : onCallN e q = true) (kk : ∀ w np as pos, q w as = true → M (.Call (.Name w np) as [] pos)) : M e := by
  refine onCallK h fun f as ks pos h => ?_
  refine andK h fun h1 h2 => ?_
  refine nilK h1 ?_
  refine onNameK h2 fun w np h => ?_
  exact kk w np as pos h
noncomputable def onCallM (e : PySem.Expr) (q : PySem.Expr → Str → Pos → List PySem.Expr → Pos → Bool) : Bool := onCall e fun f as ks pos => ks.isEmpty && onAttr f fun v w ap => q v w ap as pos
@[elab_as_elim] theorem onCallMK {e : PySem.Expr} {q : PySem.Expr → Str → Pos → List PySem.Expr → Pos → Bool} {M : PySem.Expr → Prop} (h : onCallM e q = true) (kk : ∀ v w ap as pos, q v w ap as pos = true → M (.Call (.Attribute v w ap) as [] pos)) : M e := by
  refine onCallK h fun f as ks pos h => ?_
  refine andK h fun h1 h2 => ?_
  refine nilK h1 ?_
  refine onAttrK h2 fun v w ap h => ?_
  exact kk v w ap as pos h
noncomputable def onGen (g : Comprehension) (q : Str → PySem.Expr → List PySem.Expr → Bool) : Bool := g.is_async == 0 && onName g.target fun w _ => q w g.iter g.ifs
@[elab_as_elim] theorem onGenK {g : Comprehension} {q : Str → PySem.Expr → List PySem.Expr → Bool} {M : Comprehension → Prop} (h : onGen g q = true) (k : ∀ w px iter ifs, q w iter ifs = true → M ⟨.Name w px, iter, ifs, 0⟩) : M g := by
  obtain ⟨t, iter, ifs, n⟩ := g
  refine andK h fun h1 h2 => ?_
  replace h1 : (n == 0) = true := h1
  refine eqK h1 ?_
  replace h2 : onName t (fun w _ => q w iter ifs) = true := h2
  refine onNameK h2 fun w px h => ?_
  exact k w px iter ifs h
end Mine
namespace Mine
open PySem PySem.W PySem.Calls PyProof.Rows

noncomputable abbrev NoE : Value → Shared → Prop := fun _ _ => False

noncomputable def bop : BOp → Operator
  | .add => .Add | .sub => .Sub | .mul => .Mult | .fdiv => .FloorDiv | .mod => .Mod
  | .shl => .LShift | .shr => .RShift | .band => .BitAnd | .bor => .BitOr | .bxor => .BitXor

theorem smallB_iff {i : Int} : smallB i = true ↔ -4611686018427387904 < i ∧ i < 4611686018427387904 := by
  cases i with
  | ofNat m =>
    show Nat.ble m 4611686018427387903 = true ↔ _
    rw [Nat.ble_eq]; constructor
    · intro h; constructor <;> (simp only [Int.ofNat_eq_natCast]; omega)
    · intro h; have := h.2; simp only [Int.ofNat_eq_natCast] at this; omega
  | negSucc m =>
    show Nat.ble m 4611686018427387902 = true ↔ _
    rw [Nat.ble_eq]; constructor
    · intro h; constructor <;> omega
    · intro h; have := h.1; omega
theorem inN_iff {k : Int} {n : Nat} : inN k n = true ↔ 0 ≤ k ∧ k ≤ (n : Int) := by
  cases k with
  | ofNat m =>
    show Nat.ble m n = true ↔ _
    rw [Nat.ble_eq]; simp only [Int.ofNat_eq_natCast]; omega
  | negSucc m =>
    show false = true ↔ _
    constructor
    · intro h; cases h
    · intro h; have := h.1; omega
theorem smallB_bits {i : Int} (h : smallB i = true) : PySem.Builtin.Int.intBits i ≤ 64 := by
  have := smallB_iff.mp h
  exact PyProof.Rows.intBits_le (by omega)
theorem smallB_pylong {a b : Int} (h : smallB b = true) : PySem.Builtin.divisionGoesByPylong a b = false := by
  refine PyProof.noPylong_of_log2 ?_
  have := smallB_iff.mp h
  by_cases hb : b.natAbs = 0
  · rw [hb]; decide
  · have : b.natAbs < 2 ^ 64 := by omega
    exact Nat.lt_trans ((Nat.log2_lt hb).mpr this) (by decide)

section
variable {prog : Program} {w : World} {A : Around} {s : Shared} {E : Value → Shared → Prop} {Q : Value → Shared → Prop} {a b r : Int} {t u : Tok}
theorem binV_bin : ∀ {op : BOp}, binV op a b = some r → Q (.int r s.toks) { s with toks := s.toks + 1 } → wpAny (model prog w) A (binaryOp (bop op) (.int a t) (.int b u)) Q E s
  | .add, h, hQ => by cases h; exact wpAny_add_int hQ
  | .sub, h, hQ => by cases h; exact sub_int' hQ
  | .mul, h, hQ => by
    simp only [binV] at h
    split at h
    · rename_i c
      cases h
      exact PyProof.Rows.mul_int hQ (IntMulOk.of_left (smallB_bits (Bool.and_eq_true_iff.mp c).1))
    · cases h
  | .fdiv, h, hQ => by
    simp only [binV] at h
    split at h
    · rename_i c
      cases h
      have c := Bool.and_eq_true_iff.mp c
      exact PyProof.Rows.floordiv_int (by simpa using c.1) hQ (.inl (smallB_pylong c.2))
    · cases h
  | .mod, h, hQ => by
    simp only [binV] at h
    split at h
    · rename_i c
      cases h
      exact mod_int' (by simpa using c) hQ
    · cases h
  | .shl, h, hQ => by
    simp only [binV] at h
    split at h
    · rename_i c
      cases h
      simp only [Bool.and_eq_true, inN_iff] at c
      refine PyProof.Rows.lshift_int c.1.1 ?_ hQ
      have := smallB_bits c.2
      have := c.1.2
      omega
    · cases h
  | .shr, h, hQ => by
    simp only [binV] at h
    split at h
    · rename_i c
      cases h
      exact PyProof.Rows.rshift_int c hQ
    · cases h
  | .band, h, hQ => by cases h; exact PyProof.Rows.and_int hQ
  | .bor, h, hQ => by cases h; exact PyProof.Rows.or_int hQ
  | .bxor, h, hQ => by cases h; exact PyProof.Rows.xor_int hQ
theorem binV_aug : ∀ {op : BOp}, binV op a b = some r → Q (.int r s.toks) { s with toks := s.toks + 1 } → wpAny (model prog w) A (inplaceOp (bop op) (.int a t) (.int b u)) Q E s
  | .add, h, hQ => by cases h; exact wpAny_iadd_int hQ
  | .sub, h, hQ => by cases h; exact PyProof.Rows.isub_int hQ
  | .mul, h, hQ => by
    simp only [binV] at h
    split at h
    · rename_i c
      cases h
      exact PyProof.Rows.imul_int hQ (IntMulOk.of_left (smallB_bits (Bool.and_eq_true_iff.mp c).1))
    · cases h
  | .fdiv, h, hQ => by
    simp only [binV] at h
    split at h
    · rename_i c
      cases h
      have c := Bool.and_eq_true_iff.mp c
      exact PyProof.Rows.ifloordiv_int (by simpa using c.1) hQ (.inl (smallB_pylong c.2))
    · cases h
  | .mod, h, hQ => by
    simp only [binV] at h
    split at h
    · rename_i c
      cases h
      exact PyProof.Rows.imod_int (by simpa using c) hQ
    · cases h
  | .shl, h, hQ => by
    simp only [binV] at h
    split at h
    · rename_i c
      cases h
      simp only [Bool.and_eq_true, inN_iff] at c
      refine PyProof.Rows.ilshift_int c.1.1 ?_ hQ
      have := smallB_bits c.2
      have := c.1.2
      omega
    · cases h
  | .shr, h, hQ => by
    simp only [binV] at h
    split at h
    · rename_i c
      cases h
      exact PyProof.Rows.irshift_int c hQ
    · cases h
  | .band, h, hQ => by cases h; exact PyProof.Rows.iand_int hQ
  | .bor, h, hQ => by cases h; exact PyProof.Rows.ior_int hQ
  | .bxor, h, hQ => by cases h; exact PyProof.Rows.ixor_int hQ
end

noncomputable def cop : COp → CmpOp
  | .eq => .Eq | .ne => .NotEq | .lt => .Lt | .le => .LtE | .gt => .Gt | .ge => .GtE
section
variable {prog : Program} {w : World} {A : Around} {s : Shared} {E : Value → Shared → Prop} {Q : Value → Shared → Prop} {μ : Mu} {x y : AV} {v u : Value} {r : Bool}
theorem none_ne {α : Type} {a : α} {C : Prop} (h : none = some a) : C := nomatch h
theorem cmpV_ok {op : COp} (h : cmpV op x y = some r) (hx : VR μ x v) (hy : VR μ y u) (hQ : Q (.bool r) s) : wpAny (model prog w) A (compareOp (cop op) v u) Q E s := by
  cases x with
  | int a =>
    cases y with
    | int b =>
      obtain ⟨t, rfl⟩ := hx
      obtain ⟨t', rfl⟩ := hy
      cases op with
      | eq => cases h; exact PyProof.Rows.eq_int hQ
      | ne => cases h; exact PyProof.Rows.ne_int hQ
      | lt => cases h; exact wpAny_lt_int hQ
      | le => cases h; exact PyProof.Rows.le_int hQ
      | gt => cases h; exact PyProof.Rows.gt_int hQ
      | ge => cases h; exact PyProof.Rows.ge_int hQ
    | _ => cases op <;> exact none_ne h
  | bool a =>
    cases y with
    | bool b =>
      cases hx
      cases hy
      cases op with
      | eq => cases h; exact PyProof.Rows.eq_bool hQ
      | ne => cases h; exact PyProof.Rows.ne_bool hQ
      | _ => exact none_ne h
    | _ => cases op <;> exact none_ne h
  | _ => cases op <;> exact none_ne h
theorem truth_ok {QB : Bool → Shared → Prop} (h : truth x = some r) (hx : VR μ x v) (hQ : QB r s) : wpAny (model prog w) A (truthy v) QB E s := by
  cases x with
  | none => cases h; cases hx; exact wpAny_pure hQ
  | bool b => cases h; cases hx; exact wpAny_truthy_bool hQ
  | int i => cases h; obtain ⟨t, rfl⟩ := hx; exact truthy_int hQ
  | ref a => cases h
theorem unaV_ok {op : UOp} {z : AV} (h : unaV op x = some z) (hx : VR μ x v) (hQ : ∀ u tk, VR μ z u → Q u { s with toks := tk }) :
    wpAny (model prog w) A (unaryOp (match op with | .neg => .USub | .inv => .Invert | .not => .Not) v) Q E s := by
  unfold unaV at h
  split at h <;> cases h
  · obtain ⟨t, rfl⟩ := hx; exact PyProof.Rows.neg_int (hQ _ _ ⟨_, rfl⟩)
  · obtain ⟨t, rfl⟩ := hx; exact PyProof.Rows.invert_int (hQ _ _ ⟨_, rfl⟩)
end
end Mine
namespace Mine
open PySem PySem.W PySem.Calls PyProof.Rows

/-- what is known of a class -/
structure ClsOK (X : Cx) (c : Nat) (C : Addr) : Prop where
  ga : findIn X.K (.ref C) "__getattribute__" = some (some (.builtin "object.__getattribute__"))
  dict : hasDictIn X.K C = true
  attr : ∀ (k : Nat) (x : Str), X.atr[k]? = some x → ∃ a, findIn X.K (.ref C) x = some a ∧ noGet X.K a = true
  seta : findIn X.K (.ref C) "__setattr__" = some (some (.builtin "object.__setattr__"))
  over : plainOver X.K C = true
  take : ∀ (k : Nat) (x : Str), X.atr[k]? = some x → takerIn X.K C x = some none
  make : makesIn X.K C = true
  init : ∃ f, X.inits[c]? = some f ∧ findIn X.K (.ref C) "__init__" = some (some (.ref f)) ∧ typeIn X.K (.ref f) = some (.type "function")
  name : ∃ x, X.clsn[c]? = some x ∧ X.mg x = some (.ref C)
  keep : keepIn X.K (.ref C) = true

/-- what stands at the base of everything -/
structure XOK (X : Cx) : Prop where
  inK : X.K.In X.h₀
  g : X.h₀.Ns mainGlobals X.mg
  b : X.h₀.Ns builtinsNs X.mb
  blt : ∀ x : Str, x ≠ "__name__" → X.mb x = bootBuiltins x
  nolimit : X.h₀.NoLimit
  gint : ∀ x i, X.gints.lookup x = some i → ∃ t, X.mg x = some (.int i t)
  gref : ∀ x k, X.grefs.lookup x = some k → ∃ p, X.stat[k]? = some p ∧ X.mg x = some (.ref p.a)
  cls : ∀ (c : Nat) (C : Addr), X.cls[c]? = some C → ClsOK X c C
  atr : X.atr.Nodup

structure AOK (A : Around) (d : Nat) : Prop where
  hh : A.handled = none
  depth : A.depth + d < recursionLimit
  units : A.units + 10 * d + 100 < cLine

noncomputable def SE (X : Cx) (A : Around) (env : Env) (fc : FC) (ρ : Rho) (t : Sem Value) (σ : AH) (r : AV) (σ' : AH) : Prop :=
  ∀ (μ : Mu) (s : Shared) (Q : Value → Shared → Prop), Sta X env fc ρ μ σ s.heap →
    (∀ v h' tk μ', VR μ' r v → HR X μ' σ' h' → Ext NoP μ σ s.heap μ' σ' h' → Q v { s with heap := h', toks := tk }) →
    wpAny (model X.prog X.w) A t Q NoE s

section
variable {X : Cx} {A : Around} {env : Env} {fc : FC} {ρ : Rho} {σ σ₁ σ₂ σ₃ : AH} {x y z : AV}

theorem SE.int {i : Int} {k pos} : SE X A env fc ρ (eval (.Constant (.int i) k pos) env) σ (.int i) σ :=
  fun _ _ _ S hQ => wpAny_Constant_int (hQ _ _ _ _ ⟨_, rfl⟩ S.toHR (Ext.refl ..))
theorem SE.bool {b : Bool} {k pos} : SE X A env fc ρ (eval (.Constant (.bool b) k pos) env) σ (.bool b) σ :=
  fun _ _ _ S hQ => wpAny_Constant_bool (hQ _ _ _ _ rfl S.toHR (Ext.refl ..))
theorem SE.cNone {k pos} : SE X A env fc ρ (eval (.Constant .none k pos) env) σ .none σ :=
  fun _ _ _ S hQ => wpAny_Constant_none (hQ _ _ _ _ rfl S.toHR (Ext.refl ..))

theorem SE.var (e : EnvOK env fc) {n : Nat} {w : Str} {b : Bool} {pos} (hs : fc.slots[n]? = some (some (w, b))) (hv : ρ[n]? = some (some x)) (hd : (w == ("__debug__" : Str)) = false) :
    SE X A env fc ρ (eval (.Name w pos) env) σ x σ := by
  intro μ s Q S hQ
  cases b with
  | false =>
    obtain ⟨m, hn, f⟩ := S.loc
    obtain ⟨v', h1, h2⟩ := f n x w hv hs
    exact wpAny_Name (wpAny_loadName_local e.kind (by unfold Env.kindOf; rw [e.names]; exact e.code _ _ hs) hn h1 (hQ _ _ _ _ h2 S.toHR (Ext.refl ..))) hd
  | true =>
    obtain ⟨c, ov, h1, h2, f⟩ := S.cel n w hs
    obtain ⟨v', rfl, h3⟩ := f x hv
    exact wpAny_Name (wpAny_loadName_cell e.kind (by unfold Env.kindOf; rw [e.names]; exact e.codec _ _ hs) h1 h2 (hQ _ _ _ _ h3 S.toHR (Ext.refl ..))) hd

theorem glob_load (K : XOK X) (e : EnvOK env fc) {w : Str} {pos} {v : Value} (hg : X.mg w = some v) (hn : fc.names.lookup w = some .globalImplicit) (hd : (w == ("__debug__" : Str)) = false)
    {s : Shared} {Q : Value → Shared → Prop} {E : Value → Shared → Prop} (hb : ∀ b o, X.h₀.get? b = some o → s.heap.get? b = some o) (hQ : Q v s) : wpAny (model X.prog X.w) A (eval (.Name w pos) env) Q E s :=
  Name_function_global e.kind (by unfold Env.kindOf; rw [e.names]; exact hn) (loadGlobal_global (by rw [e.glob]; exact K.g.keeps hb) hg hQ) hd
theorem blt_load (K : XOK X) (e : EnvOK env fc) {w : Str} {pos} {v : Value} (hg : X.mg w = none) (hv : bootBuiltins w = some v) (hne : w ≠ "__name__") (hn : fc.names.lookup w = some .globalImplicit) (hd : (w == ("__debug__" : Str)) = false)
    {s : Shared} {Q : Value → Shared → Prop} {E : Value → Shared → Prop} (hb : ∀ b o, X.h₀.get? b = some o → s.heap.get? b = some o) (hQ : Q v s) : wpAny (model X.prog X.w) A (eval (.Name w pos) env) Q E s :=
  Name_function_global e.kind (by unfold Env.kindOf; rw [e.names]; exact hn)
    (loadGlobal_builtin (by rw [e.glob]; exact K.g.keeps hb) hg (by rw [e.blt]; exact K.b.keeps hb) ((K.blt w hne).trans hv) hQ) hd

theorem SE.gint (K : XOK X) (e : EnvOK env fc) {i : Int} {w : Str} {pos} (hg : X.gints.lookup w = some i) (hn : fc.names.lookup w = some .globalImplicit) (hd : (w == ("__debug__" : Str)) = false) :
    SE X A env fc ρ (eval (.Name w pos) env) σ (.int i) σ := by
  intro μ s Q S hQ
  obtain ⟨t, ht⟩ := K.gint _ _ hg
  exact glob_load K e ht hn hd S.base (hQ _ _ _ _ ⟨t, rfl⟩ S.toHR (Ext.refl ..))
theorem SE.gref (K : XOK X) (e : EnvOK env fc) {k : Nat} {w : Str} {pos} (hg : X.grefs.lookup w = some k) (hn : fc.names.lookup w = some .globalImplicit) (hd : (w == ("__debug__" : Str)) = false) :
    SE X A env fc ρ (eval (.Name w pos) env) σ (.ref k) σ := by
  intro μ s Q S hQ
  obtain ⟨p, h1, h2⟩ := K.gref _ _ hg
  refine glob_load K e h2 hn hd S.base (hQ _ _ _ _ ⟨p, ?_, rfl⟩ S.toHR (Ext.refl ..))
  obtain ⟨t, ht⟩ := S.stat
  rw [← ht, List.getElem?_append_left (List.getElem?_eq_some_iff.mp h1).1]
  exact h1

theorem cop_marks (op : COp) (r : PySem.Expr) : behindInMarks (cop op) r = false := by
  have h : (cop op == CmpOp.In || cop op == CmpOp.NotIn) = false := by cases op <;> rfl
  unfold behindInMarks
  split
  · rw [h]; simp
  · rfl
/-- one after the other -/
theorem SE.then {t : Sem Value} (ha : SE X A env fc ρ t σ x σ₁) {μ : Mu} {s : Shared} {Q : Value → Shared → Prop} (S : Sta X env fc ρ μ σ s.heap)
    (hQ : ∀ v h' tk μ', VR μ' x v → Sta X env fc ρ μ' σ₁ h' → Ext NoP μ σ s.heap μ' σ₁ h' → Q v { s with heap := h', toks := tk }) : wpAny (model X.prog X.w) A t Q NoE s :=
  ha μ s Q S fun v h' tk μ' r H e => hQ v h' tk μ' r (S.after H e) e

theorem SE.una {op : UOp} {v : PySem.Expr} {pos} (ha : SE X A env fc ρ (eval v env) σ x σ₁) (hr : unaV op x = some z) :
    SE X A env fc ρ (eval (.UnaryOp (match op with | .neg => .USub | .inv => .Invert | .not => .Not) v pos) env) σ z σ₁ := by
  intro μ s Q S hQ
  exact wpAny_UnaryOp (ha.then S fun v h₁ tk₁ μ₁ r₁ S₁ x₁ => unaV_ok hr r₁ fun u tk r => hQ _ _ _ _ r S₁.toHR x₁)
theorem SE.nota {v : PySem.Expr} {pos} {t : Bool} (ha : SE X A env fc ρ (eval v env) σ x σ₁) (hr : truth x = some t) :
    SE X A env fc ρ (eval (.UnaryOp .Not v pos) env) σ (.bool (!t)) σ₁ := by
  intro μ s Q S hQ
  exact wpAny_UnaryOp (ha.then S fun v h₁ tk₁ μ₁ r₁ S₁ x₁ => not_value (truth_ok hr r₁ (hQ _ _ _ _ rfl S₁.toHR x₁)))
theorem SE.cmp {op : COp} {l r : PySem.Expr} {pos} {b : Bool} (ha : SE X A env fc ρ (eval l env) σ x σ₁) (hb : SE X A env fc ρ (eval r env) σ₁ y σ₂) (hr : cmpV op x y = some b) :
    SE X A env fc ρ (eval (.Compare l [cop op] [r] pos) env) σ (.bool b) σ₂ := by
  intro μ s Q S hQ
  refine wpAny_Compare1 (ha.then S fun v h₁ tk₁ μ₁ r₁ S₁ x₁ => hb.then S₁ fun u h₂ tk₂ μ₂ r₂ S₂ x₂ => ?_) ?_
  · exact cmpV_ok hr (r₁.mono x₂.pre) r₂ (hQ _ _ _ _ rfl S₂.toHR (x₁.trans x₂))
  · exact cop_marks op r
theorem SE.ite {c a b : PySem.Expr} {pos} {t : Bool}
    (hc : ∀ (μ : Mu) (s : Shared) (Q : Bool → Shared → Prop), Sta X env fc ρ μ σ s.heap → (∀ h' tk μ', HR X μ' σ₁ h' → Ext NoP μ σ s.heap μ' σ₁ h' → Q t { s with heap := h', toks := tk }) → wpAny (model X.prog X.w) A (isTrue c env (eval c env)) Q NoE s)
    (hb : SE X A env fc ρ (eval (if t then a else b) env) σ₁ z σ₂) : SE X A env fc ρ (eval (.IfExp c a b pos) env) σ z σ₂ := by
  intro μ s Q S hQ
  refine wpAny_IfExp (hc μ s _ S fun h₁ tk₁ μ₁ H₁ x₁ => ?_)
  cases t with
  | true => exact hb.then (S.after H₁ x₁) fun v h₂ tk₂ μ₂ r₂ S₂ x₂ => hQ _ _ _ _ r₂ S₂.toHR (x₁.trans x₂)
  | false => exact hb.then (S.after H₁ x₁) fun v h₂ tk₂ μ₂ r₂ S₂ x₂ => hQ _ _ _ _ r₂ S₂.toHR (x₁.trans x₂)

noncomputable def STr (X : Cx) (A : Around) (env : Env) (fc : FC) (ρ : Rho) (t : Sem Bool) (σ : AH) (b : Bool) (σ' : AH) : Prop :=
  ∀ (μ : Mu) (s : Shared) (Q : Bool → Shared → Prop), Sta X env fc ρ μ σ s.heap →
    (∀ h' tk μ', HR X μ' σ' h' → Ext NoP μ σ s.heap μ' σ' h' → Q b { s with heap := h', toks := tk }) →
    wpAny (model X.prog X.w) A t Q NoE s
theorem STr.then {t : Sem Bool} {b : Bool} (ha : STr X A env fc ρ t σ b σ₁) {μ : Mu} {s : Shared} {Q : Bool → Shared → Prop} (S : Sta X env fc ρ μ σ s.heap)
    (hQ : ∀ h' tk μ', Sta X env fc ρ μ' σ₁ h' → Ext NoP μ σ s.heap μ' σ₁ h' → Q b { s with heap := h', toks := tk }) : wpAny (model X.prog X.w) A t Q NoE s :=
  ha μ s Q S fun h' tk μ' H e => hQ h' tk μ' (S.after H e) e
theorem STr.value {e : PySem.Expr} {b : Bool} (ha : SE X A env fc ρ (eval e env) σ x σ₁) (ht : truth x = some b)
    (he : isTrue e env (eval e env) = (do let v ← eval e env; standAt e.pos; holding [v] (truthy v)) := by rfl) : STr X A env fc ρ (isTrue e env (eval e env)) σ b σ₁ := by
  intro μ s Q S hQ
  exact wpAny_isTrue_value (ha.then S fun v h₁ tk₁ μ₁ r₁ S₁ x₁ => truth_ok ht r₁ (hQ _ _ _ S₁.toHR x₁)) he
theorem STr.not {e : PySem.Expr} {pos w} {b : Bool} (ha : STr X A env fc ρ (isTrue e env (eval e env)) σ b σ₁) : STr X A env fc ρ (isTrue (.UnaryOp .Not e pos) env w) σ (!b) σ₁ := by
  intro μ s Q S hQ
  exact wpAny_isTrue_Not (ha.then S fun h₁ tk₁ μ₁ S₁ x₁ => hQ _ _ _ S₁.toHR x₁)
theorem STr.cmp {op : COp} {l r : PySem.Expr} {pos w} {b : Bool} (ha : SE X A env fc ρ (eval l env) σ x σ₁) (hb : SE X A env fc ρ (eval r env) σ₁ y σ₂) (hr : cmpV op x y = some b) :
    STr X A env fc ρ (isTrue (.Compare l [cop op] [r] pos) env w) σ b σ₂ := by
  intro μ s Q S hQ
  refine wpAny_isTrue_Compare1 (ha.then S fun v h₁ tk₁ μ₁ r₁ S₁ x₁ => hb.then S₁ fun u h₂ tk₂ μ₂ r₂ S₂ x₂ => ?_) (cop_marks op r)
  exact cmpV_ok hr (r₁.mono x₂.pre) r₂ (wpAny_truthy_bool (hQ _ _ _ S₂.toHR (x₁.trans x₂)))
theorem STr.ite {c a b : PySem.Expr} {pos w} {t t' : Bool} (hc : STr X A env fc ρ (isTrue c env (eval c env)) σ t σ₁) (hb : STr X A env fc ρ (if t then isTrue a env (eval a env) else isTrue b env (eval b env)) σ₁ t' σ₂) :
    STr X A env fc ρ (isTrue (.IfExp c a b pos) env w) σ t' σ₂ := by
  intro μ s Q S hQ
  rw [arm_isTrue_IfExp]
  refine wpAny_bind (hc.then S fun h₁ tk₁ μ₁ S₁ x₁ => ?_)
  cases t with
  | true => exact hb.then S₁ fun h₂ tk₂ μ₂ S₂ x₂ => hQ _ _ _ S₂.toHR (x₁.trans x₂)
  | false => exact hb.then S₁ fun h₂ tk₂ μ₂ S₂ x₂ => hQ _ _ _ S₂.toHR (x₁.trans x₂)
theorem SE.iteT {c a b : PySem.Expr} {pos} {t : Bool} (hc : STr X A env fc ρ (isTrue c env (eval c env)) σ t σ₁)
    (hb : SE X A env fc ρ (if t then eval a env else eval b env) σ₁ z σ₂) : SE X A env fc ρ (eval (.IfExp c a b pos) env) σ z σ₂ := by
  refine SE.ite hc ?_
  cases t <;> exact hb

/-! and, or -/
noncomputable def bp (o : Bool) : BoolOp := if o then .Or else .And
theorem boolOp_cons {pos : Pos} {o : Bool} {t t' : Sem Value} {r : List (Sem Value)} {M : Model} {E : Value → Shared → Prop} {s : Shared} {Q : Value → Shared → Prop}
    (h : wpAny M A t (fun v s₁ => wpAny M A (truthy v) (fun b s₂ => if b == o then Q v s₂ else wpAny M A (boolOp pos (bp o) (t' :: r)) Q E s₂) E s₁) E s) :
    wpAny M A (boolOp pos (bp o) (t :: t' :: r)) Q E s := by
  show wpAny M A (do
    let v ← t
    standAt pos
    let b ← holding [v] (truthy v)
    match bp o, b with
    | .And, false | .Or, true => pure v
    | _, _ => boolOp pos (bp o) (t' :: r)) Q E s
  refine wpAny_bind (wpAny_mono h (fun v s₁ h₁ => wpAny_bind (wpAny_standAt (wpAny_bind (wpAny_holding (wpAny_mono h₁ (fun b s₂ h₂ => ?_) fun _ _ x => x))))) fun _ _ x => x)
  cases o <;> cases b
  · exact wpAny_pure h₂
  · exact h₂
  · exact h₂
  · exact wpAny_pure h₂
theorem SE.bop1 {pos : Pos} {o : Bool} {t : Sem Value} (ha : SE X A env fc ρ t σ x σ₁) : SE X A env fc ρ (boolOp pos (bp o) [t]) σ x σ₁ := ha
theorem SE.bopStop {pos : Pos} {o b : Bool} {t t' : Sem Value} {r : List (Sem Value)} (ha : SE X A env fc ρ t σ x σ₁) (ht : truth x = some b) (hb : (b == o) = true) : SE X A env fc ρ (boolOp pos (bp o) (t :: t' :: r)) σ x σ₁ := by
  intro μ s Q S hQ
  refine boolOp_cons (ha.then S fun v h₁ tk₁ μ₁ r₁ S₁ x₁ => truth_ok ht r₁ ?_)
  rw [hb]
  exact hQ _ _ _ _ r₁ S₁.toHR x₁
theorem SE.bopGo {pos : Pos} {o b : Bool} {t t' : Sem Value} {r : List (Sem Value)} (ha : SE X A env fc ρ t σ x σ₁) (ht : truth x = some b) (hb : (b == o) = false) (hr : SE X A env fc ρ (boolOp pos (bp o) (t' :: r)) σ₁ y σ₂) :
    SE X A env fc ρ (boolOp pos (bp o) (t :: t' :: r)) σ y σ₂ := by
  intro μ s Q S hQ
  refine boolOp_cons (ha.then S fun v h₁ tk₁ μ₁ r₁ S₁ x₁ => truth_ok ht r₁ ?_)
  rw [hb]
  exact hr.then S₁ fun v h₂ tk₂ μ₂ r₂ S₂ x₂ => hQ _ _ _ _ r₂ S₂.toHR (x₁.trans x₂)
theorem STr.all1 {o b : Bool} {e : PySem.Expr} (ha : STr X A env fc ρ (isTrue e env (eval e env)) σ b σ₁) : STr X A env fc ρ (allTrue (bp o) [e] env) σ b σ₁ := by
  intro μ s Q S hQ
  cases o
  · refine wpAny_allTrue_And_cons (ha.then S fun h₁ tk₁ μ₁ S₁ x₁ => ?_)
    cases b
    · exact hQ _ _ _ S₁.toHR x₁
    · exact wpAny_allTrue_And_nil (hQ _ _ _ S₁.toHR x₁)
  · refine wpAny_allTrue_Or_cons (ha.then S fun h₁ tk₁ μ₁ S₁ x₁ => ?_)
    cases b
    · exact wpAny_allTrue_Or_nil (hQ _ _ _ S₁.toHR x₁)
    · exact hQ _ _ _ S₁.toHR x₁
theorem STr.allStop {o b : Bool} {e : PySem.Expr} {r : List PySem.Expr} (ha : STr X A env fc ρ (isTrue e env (eval e env)) σ b σ₁) (hb : (b == o) = true) : STr X A env fc ρ (allTrue (bp o) (e :: r) env) σ b σ₁ := by
  intro μ s Q S hQ
  cases o
  · refine wpAny_allTrue_And_cons (ha.then S fun h₁ tk₁ μ₁ S₁ x₁ => ?_)
    cases b
    · exact hQ _ _ _ S₁.toHR x₁
    · cases hb
  · refine wpAny_allTrue_Or_cons (ha.then S fun h₁ tk₁ μ₁ S₁ x₁ => ?_)
    cases b
    · cases hb
    · exact hQ _ _ _ S₁.toHR x₁
theorem STr.allGo {o b c : Bool} {e : PySem.Expr} {r : List PySem.Expr} (ha : STr X A env fc ρ (isTrue e env (eval e env)) σ b σ₁) (hb : (b == o) = false) (hr : STr X A env fc ρ (allTrue (bp o) r env) σ₁ c σ₂) :
    STr X A env fc ρ (allTrue (bp o) (e :: r) env) σ c σ₂ := by
  intro μ s Q S hQ
  cases o
  · refine wpAny_allTrue_And_cons (ha.then S fun h₁ tk₁ μ₁ S₁ x₁ => ?_)
    cases b
    · cases hb
    · exact hr.then S₁ fun h₂ tk₂ μ₂ S₂ x₂ => hQ _ _ _ S₂.toHR (x₁.trans x₂)
  · refine wpAny_allTrue_Or_cons (ha.then S fun h₁ tk₁ μ₁ S₁ x₁ => ?_)
    cases b
    · exact hr.then S₁ fun h₂ tk₂ μ₂ S₂ x₂ => hQ _ _ _ S₂.toHR (x₁.trans x₂)
    · cases hb

/-! chains of two -/
theorem cop_marks2 (o1 o2 : COp) (r1 r2 : PySem.Expr) : lastMarks [cop o1, cop o2] [r1, r2] = false := cop_marks o2 r2
theorem SE.cmp2 {o1 o2 : COp} {l r1 r2 : PySem.Expr} {pos} {t b : Bool} (ha : SE X A env fc ρ (eval l env) σ x σ₁) (hb : SE X A env fc ρ (eval r1 env) σ₁ y σ₂) (h1 : cmpV o1 x y = some t)
    (hc : if t then ∃ z σ₄, SE X A env fc ρ (eval r2 env) σ₂ z σ₄ ∧ cmpV o2 y z = some b ∧ σ₄ = σ₃ else b = false ∧ σ₃ = σ₂) :
    SE X A env fc ρ (eval (.Compare l [cop o1, cop o2] [r1, r2] pos) env) σ (.bool b) σ₃ := by
  intro μ s Q S hQ
  refine Compare_chain (ha.then S fun v h₁ tk₁ μ₁ r₁ S₁ x₁ => chain_link (hb.then S₁ fun u h₂ tk₂ μ₂ r₂ S₂ x₂ => cmpV_ok h1 (r₁.mono x₂.pre) r₂ (wpAny_truthy_bool ?_))) (cop_marks2 o1 o2 r1 r2)
  cases t with
  | true =>
    obtain ⟨z, σ₄, h3, h4, rfl⟩ := hc
    refine chain_last (h3.then S₂ fun w h₃ tk₃ μ₃ r₃ S₃ x₃ => ?_)
    exact cmpV_ok h4 (r₂.mono x₃.pre) r₃ (hQ _ _ _ _ rfl S₃.toHR ((x₁.trans x₂).trans x₃))
  | false =>
    obtain ⟨rfl, rfl⟩ := hc
    exact hQ _ _ _ _ rfl S₂.toHR (x₁.trans x₂)
theorem STr.cmp2 {o1 o2 : COp} {l r1 r2 : PySem.Expr} {pos w} {t b : Bool} (ha : SE X A env fc ρ (eval l env) σ x σ₁) (hb : SE X A env fc ρ (eval r1 env) σ₁ y σ₂) (h1 : cmpV o1 x y = some t)
    (hc : if t then ∃ z σ₄, SE X A env fc ρ (eval r2 env) σ₂ z σ₄ ∧ cmpV o2 y z = some b ∧ σ₄ = σ₃ else b = false ∧ σ₃ = σ₂) :
    STr X A env fc ρ (isTrue (.Compare l [cop o1, cop o2] [r1, r2] pos) env w) σ b σ₃ := by
  intro μ s Q S hQ
  refine isTrue_chain (ha.then S fun v h₁ tk₁ μ₁ r₁ S₁ x₁ => test_link (hb.then S₁ fun u h₂ tk₂ μ₂ r₂ S₂ x₂ => cmpV_ok h1 (r₁.mono x₂.pre) r₂ (wpAny_truthy_bool ?_))) (cop_marks2 o1 o2 r1 r2)
  cases t with
  | true =>
    obtain ⟨z, σ₄, h3, h4, rfl⟩ := hc
    refine test_last (h3.then S₂ fun w h₃ tk₃ μ₃ r₃ S₃ x₃ => ?_)
    exact cmpV_ok h4 (r₂.mono x₃.pre) r₃ (wpAny_truthy_bool (hQ _ _ _ S₃.toHR ((x₁.trans x₂).trans x₃)))
  | false =>
    obtain ⟨rfl, rfl⟩ := hc
    exact hQ _ _ _ S₂.toHR (x₁.trans x₂)

theorem isNone_ok {neg : Bool} {M : Model} {E : Value → Shared → Prop} {μ : Mu} {v : Value} {s : Shared} {Q : Value → Shared → Prop} (hx : VR μ x v) (hQ : Q (.bool (if neg then !(x == .none) else x == .none)) s) :
    wpAny M A (compareOp (if neg then .IsNot else .Is) v .none) Q E s := by
  have h : (v == Value.none) = (x == AV.none) := by
    cases x with
    | none => cases hx; rfl
    | bool b => cases hx; rfl
    | int i => obtain ⟨t, rfl⟩ := hx; rfl
    | ref i => obtain ⟨p, _, rfl⟩ := hx; rfl
  cases neg
  · exact is_none (by rw [h]; exact hQ)
  · exact isNot_none (by rw [h]; exact hQ)
theorem SE.isNone {neg : Bool} {l : PySem.Expr} {k p pos} (ha : SE X A env fc ρ (eval l env) σ x σ₁) :
    SE X A env fc ρ (eval (.Compare l [if neg then .IsNot else .Is] [.Constant .none k p] pos) env) σ (.bool (if neg then !(x == .none) else x == .none)) σ₁ := by
  intro μ s Q S hQ
  refine wpAny_Compare1 (ha.then S fun v h₁ tk₁ μ₁ r₁ S₁ x₁ => wpAny_Constant_none (isNone_ok r₁ (hQ _ _ _ _ rfl S₁.toHR x₁))) ?_
  cases neg <;> rfl
theorem STr.isNone {neg : Bool} {l : PySem.Expr} {k p pos w} (ha : SE X A env fc ρ (eval l env) σ x σ₁) :
    STr X A env fc ρ (isTrue (.Compare l [if neg then .IsNot else .Is] [.Constant .none k p] pos) env w) σ (if neg then !(x == .none) else x == .none) σ₁ := by
  intro μ s Q S hQ
  refine wpAny_isTrue_Compare1 (ha.then S fun v h₁ tk₁ μ₁ r₁ S₁ x₁ => wpAny_Constant_none (isNone_ok r₁ (wpAny_truthy_bool (hQ _ _ _ S₁.toHR x₁)))) ?_
  cases neg <;> rfl

theorem intsOf_cons {x : AV} {r : List AV} {ns : List Int} {C : Prop} (h : intsOf (x :: r) = some ns) (k : ∀ i l, x = .int i → intsOf r = some l → i :: l = ns → C) : C := by
  cases x with
  | int i => exact mapK h fun l e1 e2 => k i l rfl e1 e2
  | _ => cases h
theorem intsOf_are {μ : Mu} {xs : List AV} {vs : List Value} (h : All2 (VR μ) xs vs) : ∀ {ns : List Int}, intsOf xs = some ns → IntsAre vs ns := by
  induction h with
  | nil => intro ns h; cases h; exact IntsAre.nil
  | cons h1 _ ih =>
    intro ns h
    refine intsOf_cons h fun i l e1 e2 e3 => ?_
    subst e1 e3
    obtain ⟨t, rfl⟩ := h1
    exact IntsAre.cons _ _ (ih e2)
end
end Mine
namespace Mine
open PySem PySem.W PySem.Calls PyProof.Rows

noncomputable def plainBase : PySem.Expr → Bool
  | .Call (.Name id _) [] [] _ => id != ("super" : Str)
  | _ => true
theorem attributeBase_plain {v : PySem.Expr} {attr : Str} {env : Env} {whole : Sem Value} (h : plainBase v = true) : attributeBase v attr env whole = whole := by
  cases v with
  | Call f as ks pos =>
    cases f with
    | Name id np =>
      cases as with
      | nil =>
        cases ks with
        | nil =>
          have h' : (id != ("super" : Str)) = true := h
          have c : (id != ("super" : Str) || attr == ("__class__" : Str) || env.kindOf ("super" : Str) != some .globalImplicit || env.kindOf ("__class__" : Str) != some .free) = true := by rw [h']; rfl
          exact (if_pos c).trans rfl
        | cons => rfl
      | cons => rfl
    | _ => rfl
  | _ => rfl

section
variable {X : Cx} {A : Around} {env : Env} {fc : FC} {ρ : Rho} {σ σ₁ σ₂ σ₃ : AH} {x y z : AV}

theorem VR.handed {μ : Mu} {v : Value} (h : VR μ x v) : handedIn v = true := by
  cases x with
  | none => cases h; rfl
  | bool b => cases h; rfl
  | int i => obtain ⟨t, rfl⟩ := h; rfl
  | ref i => obtain ⟨p, _, rfl⟩ := h; rfl

theorem nodup_get {α : Type} {l : List α} (h : l.Nodup) {i j : Nat} {x : α} (hi : l[i]? = some x) (hj : l[j]? = some x) : i = j := by
  obtain ⟨h1, e1⟩ := List.getElem?_eq_some_iff.mp hi
  obtain ⟨h2, e2⟩ := List.getElem?_eq_some_iff.mp hj
  have P := List.pairwise_iff_getElem.mp h
  rcases Nat.lt_trichotomy i j with q | q | q
  · exact absurd (e1.trans e2.symm) (P i j h1 h2 q)
  · exact q
  · exact absurd (e2.trans e1.symm) (P j i h2 h1 q)

theorem getL_skip {w x' : Str} {hh : Int} {t : Tok} {y y' : Value} {es : List DictEntry} (hne : (x' == w) = false) (h1 : getL w es = some (some y')) : getL w (⟨hh, .str x' t, y⟩ :: es) = some (some y') := by
  simp only [getL, List.find?_cons, Value.isStr, hne] at h1 ⊢
  rw [List.any_cons]
  simpa [DictEntry.refKey] using h1
theorem lookup_cons {α β : Type} [BEq α] [LawfulBEq α] {k k' : α} {v v' : β} {r : List (α × β)} {C : Prop} (h : ((k', v') :: r).lookup k = some v) (c1 : k = k' → v' = v → C) (c2 : k ≠ k' → r.lookup k = some v → C) : C := by
  rw [List.lookup_cons] at h
  cases e : k == k' with
  | true => rw [e] at h; exact c1 (eq_of_beq e) (Option.some.inj h)
  | false => rw [e] at h; exact c2 (beq_eq_false_iff_ne.mp e) h
theorem Flds.get {μ : Mu} (hn : X.atr.Nodup) {k : Nat} {w : Str} (hk : X.atr[k]? = some w) {v : AV} {fs : List (Nat × AV)} {es : List DictEntry} (f : Flds X μ fs es) : fs.lookup k = some v → ∃ y, getL w es = some (some y) ∧ VR μ v y := by
  induction f with
  | nil => intro h; cases h
  | cons hx hv hr ih =>
    intro h
    refine lookup_cons h (fun e1 e2 => ?_) fun e h => ?_
    · subst e1 e2
      cases hk.symm.trans hx
      exact ⟨_, by simp [getL, Value.isStr], hv⟩
    · obtain ⟨y', h1, h2⟩ := ih h
      exact ⟨y', getL_skip (beq_eq_false_iff_ne.mpr fun q => e (nodup_get hn hk (hx.trans (congrArg some q)))) h1, h2⟩

theorem inst_at {h : Heap} {C dx a : Addr} {es : List DictEntry} {n : Nat} (h1 : h.get? a = some (instObj C dx)) (h2 : h.get? dx = some (dictOf es n)) : InstAt h a (instObj C dx) C (some (dictOf es n)) :=
  ⟨h1, rfl, rfl, h2⟩

theorem attr_ok (K : XOK X) {k : Nat} {w : Str} (hk : X.atr[k]? = some w) {μ : Mu} {s : Shared} {v : Value} {b : Bool} (H : HR X μ σ s.heap) (hx : VR μ x v) (hr : attrV x k σ = some z) {Q : Value → Shared → Prop}
    (hQ : ∀ u tk, VR μ z u → Q u { s with toks := tk }) : wpAny (model X.prog X.w) A (getAttr v w b) Q NoE s := by
  unfold attrV at hr
  split at hr
  · rename_i id
    split at hr
    · rename_i m c fs hid
      obtain ⟨p, hp, C, dx, es, n, hc, hd, h1, h2, hf⟩ := H.obj _ _ _ hid
      obtain ⟨p', hp', rfl⟩ := hx
      rw [hp] at hp'
      cases hp'
      obtain ⟨y, hy, hv⟩ := hf.get K.atr hk hr
      have O := K.cls c C hc
      obtain ⟨a, ha, hg⟩ := O.attr k w hk
      exact get_value (K.inK.keeps H.base) (inst_at h1 h2) O.ga (findObj_own O.dict ha hg hy) hv.handed (hQ _ _ hv)
    · cases hr
  · cases hr

theorem SE.attr (K : XOK X) {v : PySem.Expr} {w : Str} {pos} {k : Nat} (hk : X.atr[k]? = some w) (hb : plainBase v = true) (ha : SE X A env fc ρ (eval v env) σ x σ₁) (hr : attrV x k σ₁ = some z) :
    SE X A env fc ρ (eval (.Attribute v w pos) env) σ z σ₁ := by
  intro μ s Q S hQ
  refine Attribute_any_ (ha.then S fun u h₁ tk₁ μ₁ r₁ S₁ x₁ => attr_ok K hk S₁.toHR r₁ hr fun u tk r => hQ _ _ _ _ r S₁.toHR x₁) ?_
  show (do
      let o ← attributeBase v w env (eval v env)
      standAt pos.atName
      let r ← holding [o] (getAttr o w true)
      letTemporaryGo v o r
      pure r) = _
  rw [attributeBase_plain hb]
end
end Mine
namespace Mine
open PySem PySem.W PySem.Calls PyProof.Rows

/-- a slice's form is left out -/
noncomputable def noSlice : PySem.Expr → Bool
  | .Slice .. => false
  | _ => true
theorem subscripted_plain {sl : PySem.Expr} (h : noSlice sl = true) (o i : Value) : subscripted sl false o i = operate [o, i] (getItem o i) := by
  unfold subscripted
  split
  · cases h
  · rename_i e; cases e
  · rfl

section
variable {X : Cx} {A : Around} {env : Env} {fc : FC} {ρ : Rho} {σ σ₁ σ₂ σ₃ : AH} {x y z : AV}

theorem seqIndex_in {k : Int} {n : Nat} (h0 : 0 ≤ k) (h : k.toNat < n) : seqIndex? k n = some k.toNat := by
  unfold seqIndex?
  have h1 : ¬ k < 0 := by omega
  simp only [h1, if_false]
  rw [if_pos]
  simp only [Bool.and_eq_true, decide_eq_true_eq]
  omega
theorem valueAt_skip {k k' : Int} {w : Value} {es : List (Int × Value)} (e : k ≠ k') : valueAt ((k', w) :: es) k = valueAt es k := by
  simp only [valueAt, List.find?_cons, Ne.symm e, decide_false]
theorem ents_get {μ : Mu} {k : Int} {v : AV} {kvs : List (Int × AV)} {es : List (Int × Value)} (h : Ents μ kvs es) : kvs.lookup k = some v → ∃ w, valueAt es k = some w ∧ VR μ v w := by
  induction h with
  | nil => intro h; cases h
  | @cons p q r es h t ih =>
    intro hl
    obtain ⟨h1, h2⟩ := h
    obtain ⟨k', v'⟩ := p
    obtain ⟨j, w⟩ := q
    dsimp only at h1
    subst h1
    refine lookup_cons hl (fun e1 e2 => ?_) fun e hl => ?_
    · subst e1 e2
      exact ⟨w, by simp [valueAt], h2⟩
    · rw [valueAt_skip e]
      exact ih hl
theorem ents_none {μ : Mu} {k : Int} {kvs : List (Int × AV)} {es : List (Int × Value)} (h : Ents μ kvs es) : kvs.lookup k = none → valueAt es k = none := by
  induction h with
  | nil => intro _; rfl
  | @cons p q r es h t ih =>
    intro hl
    obtain ⟨h1, h2⟩ := h
    obtain ⟨k', v'⟩ := p
    obtain ⟨j, w⟩ := q
    dsimp only at h1
    subst h1
    rw [List.lookup_cons] at hl
    cases e : k == k' with
    | true => rw [e] at hl; cases hl
    | false =>
      rw [e] at hl
      rw [valueAt_skip (beq_eq_false_iff_ne.mp e)]
      exact ih hl
theorem sub_ok {value slice : PySem.Expr} (hn : noSlice slice = true) {μ : Mu} {s : Shared} {v u : Value} (H : HR X μ σ s.heap) (hx : VR μ x v) (hy : VR μ y u) (hr : subV x y σ = some z) {Q : Value → Shared → Prop}
    (hQ : ∀ u tk, VR μ z u → Q u { s with toks := tk }) : wpAny (model X.prog X.w) A (subscriptTail value slice v u) Q NoE s := by
  unfold subV at hr
  split at hr
  · rename_i id k
    obtain ⟨p, hp, rfl⟩ := hx
    obtain ⟨t, rfl⟩ := hy
    split at hr
    · rename_i m xs hid
      split at hr
      · rename_i c
        simp only [inN_iff] at c
        obtain ⟨q, hq, _, vs, hl, hv⟩ := H.obj _ _ _ hid
        rw [hp] at hq
        cases hq
        obtain ⟨w, hw, hzw⟩ := hv.get hr
        exact tail_any hl.isList.typeIs slot_list_getitem.lookup (wpAny_getItem_list hl.isList c.1 (by omega) (by simpa using hw) (hQ _ _ hzw)) (subscripted_plain hn _ _)
      · cases hr
    · rename_i m xs hid
      split at hr
      · rename_i c
        simp only [inN_iff] at c
        obtain ⟨q, hq, _, vs, hl, hv⟩ := H.obj _ _ _ hid
        rw [hp] at hq
        cases hq
        obtain ⟨w, hw, hzw⟩ := hv.get hr
        have hlt : k.toNat < vs.length := (List.getElem?_eq_some_iff.mp hw).1
        refine tail_any hl.typeIs slot_tuple_getitem.lookup (getItem_tuple hl (by omega) (by omega) (j := k.toNat) ?_ (by simpa using hw) (hQ _ _ hzw)) (subscripted_plain hn _ _)
        exact seqIndex_in c.1 hlt
      · cases hr
    · rename_i m kvs hid
      obtain ⟨q, hq, _, hsm, es, hd, he⟩ := H.obj _ _ _ hid
      rw [hp] at hq
      cases hq
      obtain ⟨w, hw, hzw⟩ := ents_get he hr
      exact tail_any hd.typeIs slot_dict_getitem.lookup (wpAny_getItem_of (knd := intKind X.prog X.w) (k := k) (by simp [intKind, Value.isInt]) hd.mapOf hw (hQ _ _ hzw)) (subscripted_plain hn _ _)
    · cases hr
  · cases hr

theorem SE.sub {v sl : PySem.Expr} {pos} (hn : noSlice sl = true) (ha : SE X A env fc ρ (eval v env) σ x σ₁) (hb : SE X A env fc ρ (eval sl env) σ₁ y σ₂) (hr : subV x y σ₂ = some z) :
    SE X A env fc ρ (eval (.Subscript v sl pos) env) σ z σ₂ := by
  intro μ s Q S hQ
  refine Subscript_ (ha.then S fun u h₁ tk₁ μ₁ r₁ S₁ x₁ => hb.then S₁ fun w h₂ tk₂ μ₂ r₂ S₂ x₂ => ?_)
  exact sub_ok hn S₂.toHR (r₁.mono x₂.pre) r₂ hr fun u tk r => hQ _ _ _ _ r S₂.toHR (x₁.trans x₂)

/-! several terms -/
noncomputable def SL (X : Cx) (A : Around) (env : Env) (fc : FC) (ρ : Rho) (t : Sem (List Value)) (σ : AH) (r : List AV) (σ' : AH) : Prop :=
  ∀ (μ : Mu) (s : Shared) (Q : List Value → Shared → Prop), Sta X env fc ρ μ σ s.heap →
    (∀ vs h' tk μ', All2 (VR μ') r vs → HR X μ' σ' h' → Ext NoP μ σ s.heap μ' σ' h' → Q vs { s with heap := h', toks := tk }) →
    wpAny (model X.prog X.w) A t Q NoE s
theorem SL.then {t : Sem (List Value)} {r : List AV} (ha : SL X A env fc ρ t σ r σ₁) {μ : Mu} {s : Shared} {Q : List Value → Shared → Prop} (S : Sta X env fc ρ μ σ s.heap)
    (hQ : ∀ vs h' tk μ', All2 (VR μ') r vs → Sta X env fc ρ μ' σ₁ h' → Ext NoP μ σ s.heap μ' σ₁ h' → Q vs { s with heap := h', toks := tk }) : wpAny (model X.prog X.w) A t Q NoE s :=
  ha μ s Q S fun vs h' tk μ' r H e => hQ vs h' tk μ' r (S.after H e) e

noncomputable def noStar : PySem.Expr → Bool
  | .Starred .. => false
  | _ => true
theorem starEach_cons {e : PySem.Expr} (h : noStar e = true) (rest : List PySem.Expr) (env : Env) : starEach (e :: rest) env = (false, eval e env) :: starEach rest env := by
  cases e <;> first | rfl | cases h
theorem starEach_any {pos : Pos} {env : Env} : ∀ {es : List PySem.Expr}, es.all noStar = true → (backTo pos (starEach es env)).any (·.1) = false
  | [], _ => rfl
  | e :: es, h => by
    rw [List.all_cons, Bool.and_eq_true] at h
    rw [starEach_cons h.1]
    show (false || (backTo pos (starEach es env)).any (·.1)) = false
    rw [starEach_any h.2]
    rfl
theorem SL.nil {pos : Pos} : SL X A env fc ρ (spliced (backTo pos (starEach [] env))) σ [] σ :=
  fun _ _ _ S hQ => wpAny_items_nil (hQ _ _ _ _ .nil S.toHR (Ext.refl ..))
theorem SL.cons {pos : Pos} {e : PySem.Expr} {es : List PySem.Expr} {r : List AV} (hs : noStar e = true) (ha : SE X A env fc ρ (eval e env) σ x σ₁) (hb : SL X A env fc ρ (spliced (backTo pos (starEach es env))) σ₁ r σ₂) :
    SL X A env fc ρ (spliced (backTo pos (starEach (e :: es) env))) σ (x :: r) σ₂ := by
  intro μ s Q S hQ
  refine wpAny_items_cons (ha.then S fun v h₁ tk₁ μ₁ r₁ S₁ x₁ => hb.then S₁ fun vs h₂ tk₂ μ₂ r₂ S₂ x₂ => ?_) (starEach_cons hs _ _)
  exact hQ _ _ _ _ (.cons (r₁.mono x₂.pre) r₂) S₂.toHR (x₁.trans x₂)

theorem lim_line : lim + lim ≤ sizeLine := by decide +kernel

theorem fresh_none {h : Heap} {b : Addr} (hb : b ∈ (⟨h.objs.size, none⟩ : Pl).foot) : h.get? b = none := by
  simp [Pl.foot] at hb
  subst hb
  cases e : h.get? h.objs.size with
  | none => rfl
  | some o => exact absurd (Heap.lt_size e) (Nat.lt_irrefl _)
theorem push_keeps {h : Heap} (o : Obj) : ∀ b o', h.get? b = some o' → (h.push o).get? b = some o' := fun _ _ e => Heap.get?_push_of_some _ e

/-- a new list, a new tuple -/
theorem made_list {μ : Mu} {h : Heap} {xs : List AV} {vs : List Value} {m : Bool} (H : HR X μ σ h) (hv : All2 (VR μ) xs vs) (n : Nat := 0) :
    VR (μ ++ [⟨h.objs.size, none⟩]) (.ref σ.length) (.ref h.objs.size) ∧ HR X (μ ++ [⟨h.objs.size, none⟩]) (σ ++ [(m, .lst xs)]) (h.push { cls := .type "list", data := .seq vs.toArray n }) ∧
      Ext NoP μ σ h (μ ++ [⟨h.objs.size, none⟩]) (σ ++ [(m, .lst xs)]) (h.push { cls := .type "list", data := .seq vs.toArray n }) := by
  have hn : ∀ b ∈ (⟨h.objs.size, none⟩ : Pl).foot, h.get? b = none := fun b hb => fresh_none hb
  refine ⟨⟨⟨h.objs.size, none⟩, by rw [← H.len]; simp, rfl⟩, H.made (push_keeps _) hn ?_, Ext.made H (push_keeps _) hn⟩
  exact ⟨rfl, vs, ⟨n, Heap.get?_push_size _ rfl⟩, VR.monos (List.prefix_append ..) hv⟩
theorem made_tup {μ : Mu} {h : Heap} {xs : List AV} {vs : List Value} {m : Bool} (H : HR X μ σ h) (hv : All2 (VR μ) xs vs) (n : Nat := 0) :
    VR (μ ++ [⟨h.objs.size, none⟩]) (.ref σ.length) (.ref h.objs.size) ∧ HR X (μ ++ [⟨h.objs.size, none⟩]) (σ ++ [(m, .tup xs)]) (h.push { cls := .type "tuple", data := .seq vs.toArray n }) ∧
      Ext NoP μ σ h (μ ++ [⟨h.objs.size, none⟩]) (σ ++ [(m, .tup xs)]) (h.push { cls := .type "tuple", data := .seq vs.toArray n }) := by
  have hn : ∀ b ∈ (⟨h.objs.size, none⟩ : Pl).foot, h.get? b = none := fun b hb => fresh_none hb
  refine ⟨⟨⟨h.objs.size, none⟩, by rw [← H.len]; simp, rfl⟩, H.made (push_keeps _) hn ?_, Ext.made H (push_keeps _) hn⟩
  exact ⟨rfl, vs, ⟨_, Heap.get?_push_size _ rfl, rfl, n, rfl⟩, VR.monos (List.prefix_append ..) hv⟩

theorem SE.tup {es : List PySem.Expr} {k : Nat} {pos} {r : List AV} (ha : SL X A env fc ρ (spliced (backTo pos (starEach es env))) σ r σ₁) (hl : r.length ≤ lim) :
    SE X A env fc ρ (eval (.Tuple es k pos) env) σ (.ref σ₁.length) (σ₁ ++ [(false, .tup r)]) := by
  intro μ s Q S hQ
  refine wpAny_Tuple (ha.then S fun vs h₁ tk₁ μ₁ r₁ S₁ x₁ => ⟨?_, ?_⟩)
  · have := r₁.length; have := lim_line; omega
  · obtain ⟨a, b, c⟩ := made_tup (m := false) S₁.toHR r₁
    exact hQ _ _ _ _ a b (x₁.trans c)
theorem SE.lst {es : List PySem.Expr} {pos} {r : List AV} (ha : SL X A env fc ρ (spliced (backTo pos (starEach es env))) σ r σ₁) (hl : r.length ≤ lim) :
    SE X A env fc ρ (eval (.List es pos) env) σ (.ref σ₁.length) (σ₁ ++ [(true, .lst r)]) := by
  intro μ s Q S hQ
  refine wpAny_List (ha.then S fun vs h₁ tk₁ μ₁ r₁ S₁ x₁ => ⟨?_, ?_⟩)
  · have := r₁.length; have := lim_line; omega
  · obtain ⟨a, b, c⟩ := made_list (m := true) S₁.toHR r₁
    exact hQ _ _ _ _ a b (x₁.trans c)

theorem All2.flatten_replicate {α β : Type} {R : α → β → Prop} {xs : List α} {ys : List β} (h : All2 R xs ys) : ∀ n, All2 R (List.replicate n xs).flatten (List.replicate n ys).flatten
  | 0 => .nil
  | n + 1 => by
    rw [List.replicate_succ, List.replicate_succ, List.flatten_cons, List.flatten_cons]
    exact All2.append (flatten_replicate h n) h

theorem mulList_ok {prog : Program} {w : World} {E : Value → Shared → Prop} {s : Shared} {l : Addr} {vs : List Value} {k : Nat} {n : Int} {u : Tok} {Q : Value → Shared → Prop}
    (hl : s.heap.get? l = some { cls := .type "list", data := .seq vs.toArray k }) (h0 : 0 ≤ n) (h1 : n ≤ 1000000) (hne : 1 ≤ vs.length) (hsz : vs.length * n.toNat ≤ lim)
    (hQ : Q (.ref s.heap.objs.size) { s with heap := s.heap.push { cls := .type "list", data := .seq (List.replicate n.toNat vs).flatten.toArray } }) :
    wpAny (model prog w) A (binaryOp .Mult (.ref l) (.int n u)) Q E s := by
  have hlim : lim = 1000000 := rfl
  have hsz' : vs.toArray.size * n.toNat ≤ 2 ^ 24 := by rw [List.size_toArray]; omega
  have he : vs.toArray.isEmpty = false := by cases vs with | nil => simp at hne | cons _ _ => rfl
  refine wpAny_binaryOp_repeat_ref (T := "list") (U := "int") (by decide) ⟨_, hl, rfl⟩ (fun s' => typeIs_int s' n u) noFill_list_mul F.fills_int_mul F.slot_int_rmul repeat_list F.slot_int_index.lookup
    (call_meets F.slot_int_rmul (typeIs_int s n u) F.entry_int_rmul (F.args_int_rmul_2 _ _) (int___rmul___int_list n u l vs.toArray k)
      ⟨hl, rfl, ⟨_, hl, rfl⟩, call_meets F.slot_list_mul ⟨_, hl, rfl⟩ F.entry_list_mul (F.args_list_mul_2 _ _)
        (AutoListH.list___mul___list_int_3 l vs.toArray k n u (by simp [Builtin.List.listFitsIndex]; omega) (by omega) (by simp [Builtin.List.listTooLong, sizeLine]; omega)) ⟨hl, ?_⟩⟩)
  rw [he]
  simp only [Bool.false_eq_true, if_false, listMul_foldl]
  exact hQ

theorem SE.rep {es : List PySem.Expr} {nE : PySem.Expr} {pos p2} {r : List AV} {n : Int} (ha : SL X A env fc ρ (spliced (backTo p2 (starEach es env))) σ r σ₁) (hb : SE X A env fc ρ (eval nE env) σ₁ (.int n) σ₂)
    (h0 : 0 ≤ n) (h1 : n ≤ 1000000) (hne : 1 ≤ r.length) (hne' : r.length ≤ 100) (hsz : r.length * n.toNat ≤ lim) :
    SE X A env fc ρ (eval (.BinOp (.List es p2) .Mult nE pos) env) σ (.ref σ₂.length) (σ₂ ++ [(true, .lst (List.replicate n.toNat r).flatten)]) := by
  intro μ s Q S hQ
  refine wpAny_BinOp (wpAny_List (ha.then S fun vs h₁ tk₁ μ₁ r₁ S₁ x₁ => ⟨?_, ?_⟩))
  · have := r₁.length; have := lim_line; have : lim = 1000000 := rfl; omega
  · have g := push_keeps (h := h₁) { cls := .type "list", data := .seq vs.toArray }
    have S₁' := S₁.grown g
    refine hb.then (s := { s with heap := h₁.push { cls := .type "list", data := .seq vs.toArray }, toks := tk₁ }) S₁' fun u h₂ tk₂ μ₂ r₂ S₂ x₂ => ?_
    obtain ⟨t, rfl⟩ := r₂
    have hobj : h₂.get? h₁.objs.size = some { cls := .type "list", data := .seq vs.toArray } := by
      refine x₂.keep _ _ (fun w => ?_) id (Heap.get?_push_size _ rfl)
      obtain ⟨id, o, p, e1, e2, e3⟩ := w
      obtain ⟨o', e4⟩ := S₁.toHR.live e2 _ e3
      exact absurd (Heap.lt_size e4) (Nat.lt_irrefl _)
    have hv := VR.monos x₂.pre r₁
    have hlen := r₁.length
    refine mulList_ok hobj h0 h1 (by omega) (by rw [← hlen]; exact hsz) ?_
    obtain ⟨a, b, c⟩ := made_list (m := true) S₂.toHR (hv.flatten_replicate n.toNat)
    exact hQ _ _ _ _ a b ((x₁.trans (Ext.grown g)).trans (x₂.trans c))
end
end Mine
namespace Mine
open PySem PySem.W PySem.Calls PyProof.Rows PySem.SeqAt

section
variable {prog : Program} {w : World} {A : Around} {s : Shared} {E : Value → Shared → Prop} {Q : Value → Shared → Prop} {l b : Addr} {vs ws : List Value}
theorem catList_ok (hl : s.heap.IsList l vs.toArray) (hb : s.heap.IsList b ws.toArray) (hsz : vs.length + ws.length ≤ sizeLine)
    (hQ : Q (.ref s.heap.objs.size) { s with heap := s.heap.push { cls := .type "list", data := .seq (vs ++ ws).toArray } }) : wpAny (model prog w) A (binaryOp .Add (.ref l) (.ref b)) Q E s := by
  obtain ⟨⟨c, d, dt, sl⟩, ho, hc, n, hd⟩ := hl
  obtain ⟨⟨c2, d2, dt2, sl2⟩, ho2, hc2, n2, hd2⟩ := hb
  dsimp only at hc hd hc2 hd2
  subst hc hd hc2 hd2
  refine concat_meets ⟨_, ho, rfl⟩ ⟨_, ho2, rfl⟩ noFill_list_add seq_list_add PySem.F.slot_list_add PySem.F.entry_list_add (PySem.F.args_list_add_2 _ _) (list_addW l b vs.toArray ws.toArray n n2 d d2 sl sl2 (by simpa using hsz)) ⟨ho, ho2, ?_⟩
  rw [List.append_toArray]
  exact hQ
theorem catTup_ok (hl : IsTup s.heap l vs.toArray) (hb : IsTup s.heap b ws.toArray) (hsz : vs.length + ws.length ≤ sizeLine) (hv : vs ≠ []) (hw : ws ≠ [])
    (hQ : Q (.ref s.heap.objs.size) { s with heap := s.heap.push { cls := .type "tuple", data := .seq (vs ++ ws).toArray } }) : wpAny (model prog w) A (binaryOp .Add (.ref l) (.ref b)) Q E s := by
  obtain ⟨⟨c, d, dt, sl⟩, ho, hc, n, hd⟩ := hl
  obtain ⟨⟨c2, d2, dt2, sl2⟩, ho2, hc2, n2, hd2⟩ := hb
  dsimp only at hc hd hc2 hd2
  subst hc hd hc2 hd2
  refine concat_meets ⟨_, ho, rfl⟩ ⟨_, ho2, rfl⟩ noFill_tuple_add seq_tuple_add PySem.F.slot_tuple_add PySem.F.entry_tuple_add (PySem.F.args_tuple_add_2 _ _)
    (tuple_addW2 l b vs.toArray ws.toArray n n2 d d2 sl sl2 (by simpa using hv) (by simpa using hw) (by simpa using hsz)) ⟨ho, ho2, ?_⟩
  rw [List.append_toArray]
  exact hQ
theorem indexList_ok {ns : List Int} {k : Int} {t : Tok} (hl : s.heap.IsList l vs.toArray) (hi : IntsAre vs ns) (hlen : ns.length ≤ lim) (hk : k ∈ ns) (hQ : ∀ t', Q (.int (ns.idxOf k : Nat) t') { s with toks := s.toks + 1 }) :
    wpAny (model prog w) A (call (.builtin "list.index") [.ref l, .int k t]) Q E s := by
  obtain ⟨⟨c, d, dt, sl⟩, ho, hc, n, hd⟩ := id hl
  dsimp only at hc hd
  subst hc hd
  have hlim : lim = 1000000 := rfl
  have hvl := hi.length
  have hj : ns.idxOf k < ns.length := List.idxOf_lt_length_iff.mpr hk
  refine call_meets PySem.F.slot_list_index ⟨_, ho, rfl⟩ PySem.F.entry_list_index (PySem.F.args_list_index_2 _ _)
    (list_indexAt l vs.toArray n d sl (.int k t) (isInt k) (ns.idxOf k) (by rw [List.size_toArray, hvl]; exact hj) (by omega) ?_ ?_) ⟨ho, fun y hy => (eq_isInt k t hi y (by simpa using hy)).at _ _, hQ _⟩
  · show isInt k vs[ns.idxOf k] = true
    rw [isInt_at k hi _ (by omega) hj]
    simp
  · intro j hjs hlt
    show isInt k vs[j] = false
    rw [isInt_at k hi j (by simpa using hjs) (by omega)]
    exact ne_of_lt_idxOf hlt _
end

section
variable {X : Cx} {A : Around} {env : Env} {fc : FC} {ρ : Rho} {σ σ₁ σ₂ σ₃ : AH} {x y z : AV}

theorem HR.lst {μ : Mu} {h : Heap} (H : HR X μ σ h) {id : Nat} {m : Bool} {xs : List AV} (hid : σ[id]? = some (m, .lst xs)) {v : Value} (hv : VR μ (.ref id) v) : ∃ a vs, v = .ref a ∧ h.PlainList a (List.toArray vs) ∧ All2 (VR μ) xs vs := by
  obtain ⟨p, hp, rfl⟩ := hv
  obtain ⟨q, hq, _, vs, hl, hv⟩ := H.obj _ _ _ hid
  rw [hp] at hq; cases hq
  exact ⟨_, vs, rfl, hl, hv⟩
theorem HR.tup {μ : Mu} {h : Heap} (H : HR X μ σ h) {id : Nat} {m : Bool} {xs : List AV} (hid : σ[id]? = some (m, .tup xs)) {v : Value} (hv : VR μ (.ref id) v) : ∃ a vs, v = .ref a ∧ IsTup h a (List.toArray vs) ∧ All2 (VR μ) xs vs := by
  obtain ⟨p, hp, rfl⟩ := hv
  obtain ⟨q, hq, _, vs, hl, hv⟩ := H.obj _ _ _ hid
  rw [hp] at hq; cases hq
  exact ⟨_, vs, rfl, hl, hv⟩

theorem binH_ok {op : BOp} {μ : Mu} {s : Shared} {v u : Value} (H : HR X μ σ s.heap) (hx : VR μ x v) (hy : VR μ y u) (hr : binH op x y σ = some (z, σ₁)) {Q : Value → Shared → Prop}
    (hQ : ∀ u h' tk μ', VR μ' z u → HR X μ' σ₁ h' → Ext NoP μ σ s.heap μ' σ₁ h' → Q u { s with heap := h', toks := tk }) : wpAny (model X.prog X.w) A (binaryOp (bop op) v u) Q NoE s := by
  unfold binH at hr
  split at hr
  · rw [Option.map_eq_some_iff] at hr
    obtain ⟨r, h1, h2⟩ := hr
    cases h2
    obtain ⟨t, rfl⟩ := hx
    obtain ⟨t', rfl⟩ := hy
    exact binV_bin h1 (hQ _ _ _ _ ⟨_, rfl⟩ H (Ext.refl ..))
  · split at hr
    · rename_i h1 h2
      split at hr
      · rename_i hl
        obtain ⟨a, vs, rfl, p1, q1⟩ := H.lst h1 hx
        obtain ⟨b, ws, rfl, p2, q2⟩ := H.lst h2 hy
        have e1 := q1.length
        have e2 := q2.length
        have := lim_line
        obtain ⟨c1, c2, c3⟩ := made_list (m := true) H (All2.append q2 q1)
        cases hr
        exact catList_ok p1.isList p2.isList (by omega) (hQ _ _ _ _ c1 c2 c3)
      · cases hr
    · rename_i h1 h2
      split at hr
      · rename_i hl
        simp only [Bool.and_eq_true, decide_eq_true_eq, Bool.not_eq_true', List.isEmpty_eq_false_iff] at hl
        obtain ⟨a, vs, rfl, p1, q1⟩ := H.tup h1 hx
        obtain ⟨b, ws, rfl, p2, q2⟩ := H.tup h2 hy
        have e1 := q1.length
        have e2 := q2.length
        have := lim_line
        obtain ⟨c1, c2, c3⟩ := made_tup (m := false) H (All2.append q2 q1)
        cases hr
        refine catTup_ok p1 p2 (by omega) ?_ ?_ (hQ _ _ _ _ c1 c2 c3)
        · rintro rfl; exact hl.1.2 (List.length_eq_zero_iff.mp e1)
        · rintro rfl; exact hl.2 (List.length_eq_zero_iff.mp e2)
      · cases hr
    · cases hr
  · cases hr
theorem SE.bin {op : BOp} {l r : PySem.Expr} {pos} (ha : SE X A env fc ρ (eval l env) σ x σ₁) (hb : SE X A env fc ρ (eval r env) σ₁ y σ₂) (hr : binH op x y σ₂ = some (z, σ₃)) :
    SE X A env fc ρ (eval (.BinOp l (bop op) r pos) env) σ z σ₃ := by
  intro μ s Q S hQ
  refine wpAny_BinOp (ha.then S fun v h₁ tk₁ μ₁ r₁ S₁ x₁ => hb.then S₁ fun u h₂ tk₂ μ₂ r₂ S₂ x₂ => ?_)
  exact binH_ok S₂.toHR (r₁.mono x₂.pre) r₂ hr fun u h' tk μ' a b c => hQ _ _ _ _ a b ((x₁.trans x₂).trans c)

theorem isIn_ok {neg : Bool} {μ : Mu} {s : Shared} {v u : Value} {i : Int} {xs : List AV} {ns : List Int} (H : HR X μ σ s.heap) (hx : VR μ (.int i) v) (hy : VR μ y u) (hs : seqOf y σ = some xs) (hn : intsOf xs = some ns) {Q : Value → Shared → Prop}
    (hQ : Q (.bool (if neg then !ns.contains i else ns.contains i)) s) : wpAny (model X.prog X.w) A (compareOp (if neg then .NotIn else .In) v u) Q NoE s := by
  have e : ns.contains i = ns.any (· == i) := by
    rw [Bool.eq_iff_iff]
    simp only [List.contains_iff_mem, List.any_eq_true, beq_iff_eq]
    exact ⟨fun h => ⟨i, h, rfl⟩, fun ⟨_, h, e⟩ => e ▸ h⟩
  rw [e] at hQ
  obtain ⟨t, rfl⟩ := hx
  unfold seqOf at hs
  split at hs
  · split at hs
    · rename_i h1
      cases hs
      obtain ⟨a, vs, rfl, p1, q1⟩ := H.lst h1 hy
      cases neg
      · exact in_list_ints p1.isList (intsOf_are q1 hn) hQ
      · exact notin_list_ints p1.isList (intsOf_are q1 hn) hQ
    · rename_i h1
      cases hs
      obtain ⟨a, vs, rfl, p1, q1⟩ := H.tup h1 hy
      cases neg
      · exact in_tuple_ints p1 (intsOf_are q1 hn) hQ
      · exact notin_tuple_ints p1 (intsOf_are q1 hn) hQ
    · cases hs
  · cases hs
theorem in_marks {neg : Bool} {r : PySem.Expr} (h : (match r with | .Set .. => false | _ => true) = true) : behindInMarks (if neg then .NotIn else .In) r = false := by
  unfold behindInMarks
  split
  · cases h
  · rfl
theorem SE.isIn {neg : Bool} {l r : PySem.Expr} {pos} {i : Int} {xs : List AV} {ns : List Int} (hm : (match r with | .Set .. => false | _ => true) = true) (ha : SE X A env fc ρ (eval l env) σ (.int i) σ₁) (hb : SE X A env fc ρ (eval r env) σ₁ y σ₂)
    (hs : seqOf y σ₂ = some xs) (hn : intsOf xs = some ns) : SE X A env fc ρ (eval (.Compare l [if neg then .NotIn else .In] [r] pos) env) σ (.bool (if neg then !ns.contains i else ns.contains i)) σ₂ := by
  intro μ s Q S hQ
  refine wpAny_Compare1 (ha.then S fun v h₁ tk₁ μ₁ r₁ S₁ x₁ => hb.then S₁ fun u h₂ tk₂ μ₂ r₂ S₂ x₂ => ?_) (in_marks hm)
  exact isIn_ok S₂.toHR (r₁.mono x₂.pre) r₂ hs hn (hQ _ _ _ _ rfl S₂.toHR (x₁.trans x₂))
theorem STr.isIn {neg : Bool} {l r : PySem.Expr} {pos w} {i : Int} {xs : List AV} {ns : List Int} (hm : (match r with | .Set .. => false | _ => true) = true) (ha : SE X A env fc ρ (eval l env) σ (.int i) σ₁) (hb : SE X A env fc ρ (eval r env) σ₁ y σ₂)
    (hs : seqOf y σ₂ = some xs) (hn : intsOf xs = some ns) : STr X A env fc ρ (isTrue (.Compare l [if neg then .NotIn else .In] [r] pos) env w) σ (if neg then !ns.contains i else ns.contains i) σ₂ := by
  intro μ s Q S hQ
  refine wpAny_isTrue_Compare1 (ha.then S fun v h₁ tk₁ μ₁ r₁ S₁ x₁ => hb.then S₁ fun u h₂ tk₂ μ₂ r₂ S₂ x₂ => ?_) (in_marks hm)
  exact isIn_ok S₂.toHR (r₁.mono x₂.pre) r₂ hs hn (wpAny_truthy_bool (hQ _ _ _ S₂.toHR (x₁.trans x₂)))

/-! a list beside the empty display -/
theorem eqNil_ok {neg : Bool} (hA : A.units < cLine) {μ : Mu} {s : Shared} {a b : Addr} {xs : List AV} {vs : List Value} (hl : s.heap.IsList a vs.toArray) (q : All2 (VR μ) xs vs) (hb : s.heap.IsList b (List.toArray [])) {Q : Value → Shared → Prop}
    (hQ : Q (.bool (if neg then !xs.isEmpty else xs.isEmpty)) s) : wpAny (model X.prog X.w) A (compareOp (if neg then .NotEq else .Eq) (.ref a) (.ref b)) Q NoE s := by
  cases q with
  | nil =>
    cases neg
    · exact eq_listAt (e := fun _ => true) hl hb rfl hA (fun j h1 _ => absurd h1 (Nat.not_lt_zero _)) hQ
    · exact RcNeAt.lists (e := fun _ => true) hl hb rfl hA (fun j h1 _ => absurd h1 (Nat.not_lt_zero _)) _ _ _ _ hQ
  | cons _ _ =>
    cases neg
    · exact eq_list_lengthsAt hl hb (by simp) hA hQ
    · exact RcNeAt.lists_lengths hl hb (by simp) hA _ _ _ _ hQ
theorem nilList_at {h h' : Heap} (k : ∀ b o, (h.push { cls := .type "list", data := .seq ([] : List Value).toArray }).get? b = some o → h'.get? b = some o) : h'.IsList h.objs.size (List.toArray []) :=
  ⟨_, k _ _ (Heap.get?_push_size _ rfl), rfl, 0, rfl⟩
theorem SE.eqNil {neg : Bool} (hA : A.units < cLine) {l : PySem.Expr} {p pos} {id : Nat} {m : Bool} {xs : List AV} (ha : SE X A env fc ρ (eval l env) σ (.ref id) σ₁) (hid : σ₁[id]? = some (m, .lst xs)) :
    SE X A env fc ρ (eval (.Compare l [if neg then .NotEq else .Eq] [.List [] p] pos) env) σ (.bool (if neg then !xs.isEmpty else xs.isEmpty)) σ₁ := by
  intro μ s Q S hQ
  refine wpAny_Compare1 (ha.then S fun v h₁ tk₁ μ₁ r₁ S₁ x₁ => wpAny_List (wpAny_items_nil ⟨by decide +kernel, ?_⟩)) ?_
  · have g := push_keeps (h := h₁) { cls := .type "list", data := .seq ([] : List Value).toArray }
    have S₂ := S₁.grown g
    obtain ⟨a, vs, rfl, p1, q1⟩ := S₂.toHR.lst hid r₁
    exact eqNil_ok (s := { s with heap := _, toks := _ }) hA p1.isList q1 (nilList_at fun _ _ e => e) (hQ _ _ _ _ rfl S₂.toHR (x₁.trans (Ext.grown g)))
  · cases neg <;> rfl
theorem STr.eqNil {neg : Bool} (hA : A.units < cLine) {l : PySem.Expr} {p pos w} {id : Nat} {m : Bool} {xs : List AV} (ha : SE X A env fc ρ (eval l env) σ (.ref id) σ₁) (hid : σ₁[id]? = some (m, .lst xs)) :
    STr X A env fc ρ (isTrue (.Compare l [if neg then .NotEq else .Eq] [.List [] p] pos) env w) σ (if neg then !xs.isEmpty else xs.isEmpty) σ₁ := by
  intro μ s Q S hQ
  refine wpAny_isTrue_Compare1 (ha.then S fun v h₁ tk₁ μ₁ r₁ S₁ x₁ => wpAny_List (wpAny_items_nil ⟨by decide +kernel, ?_⟩)) ?_
  · have g := push_keeps (h := h₁) { cls := .type "list", data := .seq ([] : List Value).toArray }
    have S₂ := S₁.grown g
    obtain ⟨a, vs, rfl, p1, q1⟩ := S₂.toHR.lst hid r₁
    exact eqNil_ok (s := { s with heap := _, toks := _ }) hA p1.isList q1 (nilList_at fun _ _ e => e) (wpAny_truthy_bool (hQ _ _ _ S₂.toHR (x₁.trans (Ext.grown g))))
  · cases neg <;> rfl
end
end Mine
namespace Mine
open PySem PySem.W PySem.Calls PyProof.Rows

section
variable {X : Cx} {A : Around} {env : Env} {fc : FC} {ρ : Rho} {σ σ₁ σ₂ σ₃ : AH} {x y z : AV}

/-- the call of what a name bears -/
theorem Call_name {M : Model} {f : Str} {np pos : Pos} {args : List PySem.Expr} {E : Value → Shared → Prop} {s : Shared} {Q : Value → Shared → Prop}
    (h : wpAny M A (eval (.Name f np) env) (fun v s₁ => wpAny M A (callWith pos v [] (backTo pos (starEach args env)) []) Q E s₁) E s) : wpAny M A (eval (.Call (.Name f np) args [] pos) env) Q E s :=
  wpAny_Call_ofName h
theorem evalArgs_of {M : Model} {f : Value} {pos : Pos} {E : Value → Shared → Prop} {s : Shared} {Q : Args → Shared → Prop} : ∀ {es : List PySem.Expr}, es.all noStar = true →
    wpAny M A (spliced (backTo pos (starEach es env))) (fun vs s' => Q ⟨vs, []⟩ s') E s → wpAny M A (evalArgs f true (backTo pos (starEach es env)) []) Q E s
  | [], _, hq => by
    unfold evalArgs
    show wpAny M A (spliced [] >>= _) Q E s
    refine wpAny_bind (wpAny_mono hq (fun vs s' h' => wpAny_bind (wpAny_pure ?_)) fun _ _ x => x)
    exact wpAny_holding (wpAny_bind (wpAny_pure (wpAny_bind (wpAny_pure (wpAny_pure h')))))
  | e :: r, h, hq => by
    rw [List.all_cons, Bool.and_eq_true] at h
    rw [starEach_cons h.1] at hq ⊢
    exact Calls.evalArgs_plain hq

/-- how a call of a built-in or a type is told -/
noncomputable def CallsTo (X : Cx) (A : Around) (f : Value) (args : List AV) (σ : AH) (z : AV) (σ' : AH) : Prop :=
  ∀ (μ : Mu) (s : Shared) (vs : List Value) (Q : Value → Shared → Prop), HR X μ σ s.heap → All2 (VR μ) args vs →
    (∀ u h' tk μ', VR μ' z u → HR X μ' σ' h' → Ext NoP μ σ s.heap μ' σ' h' → Q u { s with heap := h', toks := tk }) → wpAny (model X.prog X.w) A (call f vs) Q NoE s

theorem SE.blt (K : XOK X) (e : EnvOK env fc) {f : Str} {id : String} {np pos : Pos} {args : List PySem.Expr} {as : List AV} (hg : X.mg f = Option.none) (hv : bootBuiltins f = some (.builtin id)) (hne : f ≠ "__name__")
    (hn : fc.names.lookup f = some .globalImplicit) (hd : (f == ("__debug__" : Str)) = false) (hs : args.all noStar = true) (ha : SL X A env fc ρ (spliced (backTo pos (starEach args env))) σ as σ₁)
    (hc : CallsTo X A (.builtin id) as σ₁ z σ₂) : SE X A env fc ρ (eval (.Call (.Name f np) args [] pos) env) σ z σ₂ := by
  intro μ s Q S hQ
  refine Call_name (blt_load K e hg hv hne hn hd S.base ?_)
  refine Calls.callWith_builtin (starEach_any hs) (evalArgs_of hs (ha.then S fun vs h₁ tk₁ μ₁ r₁ S₁ x₁ => ?_))
  exact hc μ₁ _ vs Q S₁.toHR r₁ fun u h' tk μ' a b c => hQ _ _ _ _ a b (x₁.trans c)
theorem SE.typ (K : XOK X) (e : EnvOK env fc) {f : Str} {id : String} {np pos : Pos} {args : List PySem.Expr} {as : List AV} (hg : X.mg f = Option.none) (hv : bootBuiltins f = some (.type id)) (hne : f ≠ "__name__")
    (hn : fc.names.lookup f = some .globalImplicit) (hd : (f == ("__debug__" : Str)) = false) (hs : args.all noStar = true) (ha : SL X A env fc ρ (spliced (backTo pos (starEach args env))) σ as σ₁)
    (hc : CallsTo X A (.type id) as σ₁ z σ₂) : SE X A env fc ρ (eval (.Call (.Name f np) args [] pos) env) σ z σ₂ := by
  intro μ s Q S hQ
  refine Call_name (blt_load K e hg hv hne hn hd S.base ?_)
  refine PySem.callWith_type (starEach_any hs) (evalArgs_of hs (ha.then S fun vs h₁ tk₁ μ₁ r₁ S₁ x₁ => ?_))
  exact hc μ₁ _ vs Q S₁.toHR r₁ fun u h' tk μ' a b c => hQ _ _ _ _ a b (x₁.trans c)

theorem calls_len {v : AV} {xs : List AV} (hs : seqOf v σ = some xs) (hl : xs.length ≤ lim) : CallsTo X A (.builtin "len") [v] σ (.int xs.length) σ := by
  intro μ s vs Q H hv hQ
  cases hv with
  | cons hv t =>
    cases t
    have hlim : lim = 1000000 := rfl
    unfold seqOf at hs
    split at hs
    · split at hs
      · rename_i h1
        cases hs
        obtain ⟨a, us, rfl, p1, q1⟩ := H.lst h1 hv
        have e := q1.length
        refine PyProof.Rows.len_list p1.isList (by simp; omega) (hQ _ _ _ _ ?_ H (Ext.refl ..))
        exact ⟨_, by rw [List.size_toArray, e]⟩
      · rename_i h1
        cases hs
        obtain ⟨a, us, rfl, p1, q1⟩ := H.tup h1 hv
        have e := q1.length
        refine PyProof.Rows.len_tuple p1 (by simp; omega) (hQ _ _ _ _ ?_ H (Ext.refl ..))
        exact ⟨_, by rw [List.size_toArray, e]⟩
      · cases hs
    · cases hs
theorem calls_abs {i : Int} : CallsTo X A (.builtin "abs") [.int i] σ (.int (i.natAbs : Int)) σ := by
  intro μ s vs Q H hv hQ
  cases hv with
  | cons hv t =>
    cases t
    obtain ⟨t, rfl⟩ := hv
    refine PyProof.Rows.call_abs_int fun u tk => hQ _ _ _ _ ⟨u, ?_⟩ H (Ext.refl ..)
    congr 1
    split <;> omega
theorem calls_int {i : Int} : CallsTo X A (.type "int") [.int i] σ (.int i) σ := by
  intro μ s vs Q H hv hQ
  cases hv with
  | cons hv t =>
    cases t
    obtain ⟨t, rfl⟩ := hv
    exact call_int_int (hQ _ _ _ _ ⟨t, rfl⟩ H (Ext.refl ..))

theorem made_rng {μ : Mu} {h : Heap} {a b c : Int} {t u v : Tok} {m : Bool} (H : HR X μ σ h) :
    VR (μ ++ [⟨h.objs.size, none⟩]) (.ref σ.length) (.ref h.objs.size) ∧ HR X (μ ++ [⟨h.objs.size, none⟩]) (σ ++ [(m, .rng a b c)]) (h.push { cls := .type "range", data := .fields #[.int a t, .int b u, .int c v] }) ∧
      Ext NoP μ σ h (μ ++ [⟨h.objs.size, none⟩]) (σ ++ [(m, .rng a b c)]) (h.push { cls := .type "range", data := .fields #[.int a t, .int b u, .int c v] }) := by
  have hn : ∀ b ∈ (⟨h.objs.size, none⟩ : Pl).foot, h.get? b = none := fun b hb => fresh_none hb
  refine ⟨⟨⟨h.objs.size, none⟩, by rw [← H.len]; simp, rfl⟩, H.made (push_keeps _) hn ?_, Ext.made H (push_keeps _) hn⟩
  exact ⟨rfl, t, u, v, IsRange.new ..⟩
theorem calls_range1 {b : Int} : CallsTo X A (.type "range") [.int b] σ (.ref σ.length) (σ ++ [(false, .rng 0 b 1)]) := by
  intro μ s vs Q H hv hQ
  cases hv with
  | cons hv t =>
    cases t
    obtain ⟨t, rfl⟩ := hv
    obtain ⟨c1, c2, c3⟩ := made_rng (a := 0) (b := b) (c := 1) (t := s.toks) (u := t) (v := s.toks + 1) (m := false) H
    exact call_range_1 (hQ _ _ _ _ c1 c2 c3)
theorem calls_range2 {a b : Int} : CallsTo X A (.type "range") [.int a, .int b] σ (.ref σ.length) (σ ++ [(false, .rng a b 1)]) := by
  intro μ s vs Q H hv hQ
  cases hv with
  | cons hv t =>
    cases t with
    | cons hw t =>
      cases t
      obtain ⟨t, rfl⟩ := hv
      obtain ⟨t', rfl⟩ := hw
      obtain ⟨c1, c2, c3⟩ := made_rng (a := a) (b := b) (c := 1) (t := t) (u := t') (v := s.toks) (m := false) H
      exact call_range_2 (hQ _ _ _ _ c1 c2 c3)
theorem calls_range3 {a b c : Int} (hc : c = -1) : CallsTo X A (.type "range") [.int a, .int b, .int c] σ (.ref σ.length) (σ ++ [(false, .rng a b c)]) := by
  intro μ s vs Q H hv hQ
  cases hv with
  | cons hv t =>
    cases t with
    | cons hw t =>
      cases t with
      | cons hz t =>
        cases t
        obtain ⟨t, rfl⟩ := hv
        obtain ⟨t', rfl⟩ := hw
        obtain ⟨t'', rfl⟩ := hz
        obtain ⟨c1, c2, c3⟩ := made_rng (a := a) (b := b) (c := c) (t := t) (u := t') (v := t'') (m := false) H
        exact call_range_3 (by omega) (hQ _ _ _ _ c1 c2 c3) (.inl (PyProof.noPylong_small (by subst hc; decide)))
end
end Mine
namespace Mine
open PySem PySem.W PySem.Calls PyProof.Rows

/-- what a range's list says of the machine's range -/
theorem rng_facts {a b c : Int} {ns : List Int} (h : rngList a b c = some ns) :
    Builtin.Range.small a b c = true ∧ Builtin.Range.rangeSize a b c = (ns.length : Int) ∧ (∀ i : Nat, i < ns.length → ns[i]? = some (a + i * c)) ∧ ns.length ≤ lim := by
  have hlim : lim = 1000000 := rfl
  unfold rngList at h
  split at h
  · cases h
  · rename_i hs
    simp only [Bool.not_eq_true', Bool.not_eq_false, Bool.and_eq_true, smallB_iff] at hs
    split at h
    · rename_i hc
      subst hc
      split at h
      · rename_i hl
        have hl := Nat.le_of_ble_eq_true hl
        cases h
        refine ⟨small_one (by omega) (by omega) (by omega) (by omega), ?_, fun i hi => ?_, ?_⟩
        · rw [rangeSize_one, List.length_map, List.length_range]; split <;> omega
        · rw [List.length_map, List.length_range] at hi
          rw [List.getElem?_map, List.getElem?_range hi]
          simp
        · rw [List.length_map, List.length_range]; omega
      · cases h
    · split at h
      · rename_i hc
        subst hc
        split at h
        · rename_i hl
          have hl := Nat.le_of_ble_eq_true hl
          cases h
          refine ⟨small_down (by omega) (by omega) (by omega) (by omega), ?_, fun i hi => ?_, ?_⟩
          · rw [rangeSize_downNat, List.length_map, List.length_range]
          · rw [List.length_map, List.length_range] at hi
            rw [List.getElem?_map, List.getElem?_range hi]
            simp only [Option.map_some, Option.some.injEq]
            omega
          · rw [List.length_map, List.length_range]; omega
        · cases h
      · cases h

section
variable {X : Cx} {A : Around} {env : Env} {fc : FC} {ρ : Rho} {σ σ₁ σ₂ σ₃ : AH} {x y z : AV}

theorem HR.rng {μ : Mu} {h : Heap} (H : HR X μ σ h) {id : Nat} {m : Bool} {a b c : Int} (hid : σ[id]? = some (m, .rng a b c)) {v : Value} (hv : VR μ (.ref id) v) : ∃ r t u w, v = .ref r ∧ IsRange h r a b c t u w := by
  obtain ⟨p, hp, rfl⟩ := hv
  obtain ⟨q, hq, _, t, u, w, hr⟩ := H.obj _ _ _ hid
  rw [hp] at hq; cases hq
  exact ⟨_, t, u, w, rfl, hr⟩

theorem all2_ints {μ : Mu} : ∀ {ns : List Int} {vs : List Value}, ns.length = vs.length → (∀ (i : Nat) (v : Value) (n : Int), vs[i]? = some v → ns[i]? = some n → ∃ t, v = .int n t) → All2 (VR μ) (ns.map AV.int) vs
  | [], [], _, _ => .nil
  | n :: ns, v :: vs, h, f => .cons (f 0 v n rfl rfl) (all2_ints (by simpa using h) fun i w k hw hk => f (i + 1) w k (by simpa using hw) (by simpa using hk))
  | [], _ :: _, h, _ => by simp at h
  | _ :: _, [], h, _ => by simp at h

theorem calls_list (hA : A.handled = none) {id : Nat} {m : Bool} {a b c : Int} {ns : List Int} (hid : σ[id]? = some (m, .rng a b c)) (hn : rngList a b c = some ns) :
    CallsTo X A (.type "list") [.ref id] σ (.ref σ.length) (σ ++ [(true, .lst (ns.map AV.int))]) := by
  intro μ s vs Q H hv hQ
  cases hv with
  | cons hv t =>
    cases t
    obtain ⟨r, t, u, w, rfl, hr⟩ := H.rng hid hv
    obtain ⟨f1, f2, f3, f4⟩ := rng_facts hn
    have hlim : lim = 1000000 := rfl
    refine call_list_range hA hr f1 f2 (by omega) fun h' tk acc c' k g it => ?_
    have hfr : ∀ b ∈ (⟨s.heap.objs.size, none⟩ : Pl).foot, s.heap.get? b = none := fun b hb => fresh_none hb
    refine hQ _ _ _ (μ ++ [⟨s.heap.objs.size, none⟩]) ⟨⟨s.heap.objs.size, none⟩, by rw [← H.len]; simp, rfl⟩ (H.made k hfr ⟨rfl, acc.toList, ⟨c', by simpa using g⟩, ?_⟩) (Ext.made H k hfr)
    refine all2_ints (by rw [Array.length_toList]; exact it.1.symm) fun i v n hv hi => ?_
    have hlt := (List.getElem?_eq_some_iff.mp hi).1
    rw [f3 i hlt] at hi
    cases hi
    exact it.2 i v (by simpa using hv)

theorem SE.pow12 {l : PySem.Expr} {k p pos} (ha : SE X A env fc ρ (eval l env) σ (.int 10) σ₁) : SE X A env fc ρ (eval (.BinOp l .Pow (.Constant (.int 12) k p) pos) env) σ (.int 1000000000000) σ₁ := by
  intro μ s Q S hQ
  refine wpAny_BinOp (ha.then S fun v h₁ tk₁ μ₁ r₁ S₁ x₁ => wpAny_Constant_int ?_)
  obtain ⟨t, rfl⟩ := r₁
  exact PyProof.Rows.pow_int_small (by decide) (by decide) (by decide) (hQ _ _ _ _ ⟨_, rfl⟩ S₁.toHR x₁)

theorem SE.take {v : Str} {np k p pos p2} {id : Nat} {m : Bool} {n : Nat} {xs : List AV} (ha : SE X A env fc ρ (eval (.Name v np) env) σ (.ref id) σ₁) (hid : σ₁[id]? = some (m, .lst xs)) (hl : xs.length ≤ lim) :
    SE X A env fc ρ (eval (.Subscript (.Name v np) (.Slice Option.none (some (.Constant (.int n) k p)) Option.none p2) pos) env) σ (.ref σ₁.length) (σ₁ ++ [(true, .lst (xs.take n))]) := by
  intro μ s Q S hQ
  refine wpAny_Subscript_list_slice (ha.then S fun u h₁ tk₁ μ₁ r₁ S₁ x₁ => ?_)
  rw [evalPart_none]
  refine wpAny_pure ?_
  show wpAny _ _ (eval (.Constant (.int n) k p) env) _ _ _
  refine wpAny_Constant_int ?_
  obtain ⟨a, vs, rfl, p1, q1⟩ := S₁.toHR.lst hid r₁
  have := q1.length
  have := lim_line
  refine ⟨a, vs.toArray, none, some n, rfl, p1.isList, by rw [List.size_toArray]; omega, .none, .int _ _, ?_⟩
  rw [slicePick_upto']
  have g := push_keeps (h := h₁) { cls := .type "slice", data := .fields #[.none, .int n tk₁, .none] }
  have H := S₁.toHR.grown g
  have e : (h₁.push { cls := .type "slice", data := .fields #[.none, .int n tk₁, .none] }).objs.size = h₁.objs.size + 1 := Heap.size_push ..
  obtain ⟨c1, c2, c3⟩ := made_list (m := true) H (q1.take n)
  rw [e] at c1 c2 c3
  exact hQ _ _ _ _ c1 c2 ((x₁.trans (Ext.grown g)).trans c3)
end
end Mine
namespace Mine
open PySem PySem.W PySem.Calls PyProof.Rows

/-- a def does what a function of mine says -/
noncomputable def FunOK (X : Cx) (d : Nat) (a : Addr) (F : Fun) : Prop :=
  ∀ (A : Around) (args : List AV) (vs : List Value) (μ : Mu) (σ : AH) (r : AV) (σ' : AH) (s : Shared) (R : Result → Shared → Prop), AOK A d → F args σ = some (r, σ') → All2 (VR μ) args vs → HR X μ σ s.heap →
    (∀ v h' tk μ', VR μ' r v → HR X μ' σ' h' → Ext NoP μ σ s.heap μ' σ' h' → R (.ok (.ret v)) { s with heap := h', toks := tk }) →
    codeAny (model X.prog X.w) A (.call (.ref a) ⟨vs, []⟩) R s

theorem AOK.mono {A : Around} {d e : Nat} (h : AOK A d) (le : e ≤ d) : AOK A e := ⟨h.hh, Nat.lt_of_le_of_lt (Nat.add_le_add_left le _) h.depth, by have := h.units; omega⟩

section
variable {X : Cx} {A : Around} {env : Env} {fc : FC} {ρ : Rho} {σ σ₁ σ₂ σ₃ : AH} {x y z : AV}

theorem starEach_plain {pos : Pos} {env : Env} {es : List PySem.Expr} (h : es.all noStar = true) : ((backTo pos (starEach es env)).any (·.1) || ([] : List (Option Str × Sem Value)).any (·.1.isNone)) = false := by
  rw [starEach_any h]; rfl
theorem SE.callG (K : XOK X) (e : EnvOK env fc) {f : Str} {a : Addr} {np pos : Pos} {args : List PySem.Expr} {as : List AV} (hg : X.mg f = some (.ref a)) (hk : keepIn X.K (.ref a) = true)
    (hn : fc.names.lookup f = some .globalImplicit) (hd : (f == ("__debug__" : Str)) = false) (hs : args.all noStar = true) (ha : SL X A env fc ρ (spliced (backTo pos (starEach args env))) σ as σ₁)
    (hc : CallsTo X A (.ref a) as σ₁ z σ₂) : SE X A env fc ρ (eval (.Call (.Name f np) args [] pos) env) σ z σ₂ := by
  intro μ s Q S hQ
  refine Call_name (glob_load K e hg hn hd S.base ?_)
  refine callWith_of (starEach_plain hs) (keeps_K hk) (evalArgs_of hs (ha.then S fun vs h₁ tk₁ μ₁ r₁ S₁ x₁ => ⟨K.inK.keeps S₁.base, ?_⟩))
  exact hc μ₁ _ vs Q S₁.toHR r₁ fun u h' tk μ' a b c => hQ _ _ _ _ a b (x₁.trans c)

theorem calls_fun {d : Nat} {a : Addr} {F : Fun} {as : List AV} (hF : FunOK X d a F) (hA : AOK A d) (h : F as σ = some (z, σ₁)) : CallsTo X A (.ref a) as σ z σ₁ := by
  intro μ s vs Q H hv hQ
  exact wpAny_call (hF A as vs μ σ z σ₁ s _ hA h hv H fun v h' tk μ' r H' x => hQ v h' tk μ' r H' x)

theorem calls_new (K : XOK X) {c d : Nat} {C fI : Addr} {F : Fun} {as : List AV} (hC : X.cls[c]? = some C) (hI : X.inits[c]? = some fI) (hF : FunOK X d fI F) (hA : AOK A (d + 1)) (hFn : F (.ref σ.length :: as) (σ ++ [(true, .inst c [])]) = some (.none, σ₁)) :
    CallsTo X A (.ref C) as σ (.ref σ.length) σ₁ := by
  intro μ s vs Q H hv hQ
  obtain ⟨h, g, d', t, os⟩ := s
  have O := K.cls c C hC
  obtain ⟨f, hf, hi, ht⟩ := O.init
  rw [hI] at hf
  cases hf
  have XK := K.inK.keeps H.base
  refine wpAny_call (make_core (makes_of XK O.make) (looks_findIn XK hi) (fun self => bind_fn XK self ht) (.inl rfl) ?_)
  have hp : (⟨h.objs.size + 1, some h.objs.size⟩ : Pl).foot = [h.objs.size + 1, h.objs.size] := rfl
  have k : ∀ b o, h.get? b = some o → ((h.push emptyDict).push (instObj C h.objs.size)).get? b = some o := fun b o e => Heap.get?_push_of_some _ (Heap.get?_push_of_some _ e)
  have big : ∀ b, h.objs.size ≤ b → h.get? b = none := fun b hb => by
    cases e : h.get? b with
    | none => rfl
    | some o => exact absurd (Heap.lt_size e) (Nat.not_lt.mpr hb)
  have hn : ∀ b ∈ (⟨h.objs.size + 1, some h.objs.size⟩ : Pl).foot, h.get? b = none := by
    intro b hb
    rw [hp] at hb
    simp only [List.mem_cons, List.not_mem_nil, or_false] at hb
    rcases hb with rfl | rfl
    · exact big _ (Nat.le_succ _)
    · exact big _ (Nat.le_refl _)
  have hx : ((h.push emptyDict).push (instObj C h.objs.size)).get? (h.objs.size + 1) = some (instObj C h.objs.size) := by
    have := Heap.get?_push_size (h := h.push emptyDict) (o := instObj C h.objs.size) rfl
    rwa [Heap.size_push] at this
  have hdx : ((h.push emptyDict).push (instObj C h.objs.size)).get? h.objs.size = some (dictOf [] 0) := Heap.get?_push_of_some _ (Heap.get?_push_size _ rfl)
  have H₁ := HR.made (m := true) (o := .inst c []) (p := ⟨h.objs.size + 1, some h.objs.size⟩) H k hn ⟨C, h.objs.size, [], 0, hC, rfl, hx, hdx, .nil⟩
  have E₁ := Ext.made (P := NoP) (m := true) (o := .inst c []) (p := ⟨h.objs.size + 1, some h.objs.size⟩) H k hn
  have hA' : AOK (A.under (.builtin "type.__call__" ⟨.ref C :: vs, []⟩)) d := by
    refine ⟨hA.hh, ?_, ?_⟩
    · rw [depth_under_make]; have := hA.depth; omega
    · rw [units_under_make]; have := hA.units; omega
  refine hF _ (.ref σ.length :: as) _ _ _ _ _ _ _ hA' hFn (.cons ⟨⟨h.objs.size + 1, some h.objs.size⟩, by rw [← H.len]; simp, rfl⟩ (VR.monos E₁.pre hv)) H₁ fun v h' tk μ' r H' x => ?_
  cases r
  refine ⟨rfl, hQ _ _ _ _ ?_ H' (E₁.trans x)⟩
  have : VR (μ ++ [⟨h.objs.size + 1, some h.objs.size⟩]) (.ref σ.length) (.ref (h.objs.size + 1)) := ⟨⟨h.objs.size + 1, some h.objs.size⟩, by rw [← H.len]; simp, rfl⟩
  exact this.mono x.pre
end
end Mine
namespace Mine
open PySem PySem.W PySem.Calls PyProof.Rows

section
variable {X : Cx} {A : Around} {env : Env} {fc : FC} {ρ : Rho} {σ σ₁ σ₂ σ₃ : AH} {x y z : AV}

/-! methods of lists and dicts -/
theorem meth1_trees {pos : Pos} {e : PySem.Expr} (h : noStar e = true) : backTo pos (starEach [e] env) = [(false, eval e env)] := by
  rw [starEach_cons h]; rfl
theorem meth2_trees {pos : Pos} {e f : PySem.Expr} (h : noStar e = true) (h' : noStar f = true) : backTo pos (starEach [e, f] env) = [(false, eval e env), (false, eval f env)] := by
  rw [starEach_cons h, starEach_cons h']; rfl

theorem HR.setL {μ : Mu} {h h' : Heap} (H : HR X μ σ h) {id : Nat} {xs ys : List AV} {us : List Value} (hid : σ[id]? = some (true, .lst xs)) {a : Addr} (hv : VR μ (.ref id) (.ref a)) (hl : h'.PlainList a us.toArray) (hy : All2 (VR μ) ys us)
    (k : ∀ b o, b ≠ a → h.get? b = some o → h'.get? b = some o) : HR X μ (σ.set id (true, .lst ys)) h' ∧ Ext NoP μ σ h μ (σ.set id (true, .lst ys)) h' := by
  obtain ⟨p, hp, e⟩ := hv
  cases e
  obtain ⟨q, hq, hd, vs, hl0, hv0⟩ := H.obj _ _ _ hid
  rw [hp] at hq; cases hq
  have hf : p.foot = [p.a] := by simp [Pl.foot, hd]
  have k' : ∀ b o, b ∉ p.foot → h.get? b = some o → h'.get? b = some o := fun b o hb => k b o (fun e => hb (by rw [hf, e]; exact List.mem_cons_self ..))
  refine ⟨H.upd hid hp k' ⟨hd, us, hl, hy⟩, Ext.upd hid hp k' fun b hb => ?_⟩
  rw [hf, List.mem_singleton] at hb
  subst hb
  obtain ⟨n, e⟩ := hl
  exact ⟨_, e⟩

theorem SE.append {o e : PySem.Expr} {apos pos : Pos} {id : Nat} {xs : List AV} (hb : plainBase o = true) (hline : (apos.endLine == pos.line) = true) (hs : noStar e = true)
    (ha : SE X A env fc ρ (eval o env) σ (.ref id) σ₁) (hm : ∃ m xs, σ₁[id]? = some (m, AO.lst xs)) (he : SE X A env fc ρ (eval e env) σ₁ y σ₂) (hid : σ₂[id]? = some (true, .lst xs)) (hl : xs.length ≤ lim) :
    SE X A env fc ρ (eval (.Call (.Attribute o "append" apos) [e] [] pos) env) σ .none (σ₂.set id (true, .lst (xs ++ [y]))) := by
  intro μ s Q S hQ
  refine wpAny_Call_method1_late (attributeBase_plain hb) hline (meth1_trees hs) (ha.then S fun v h₁ tk₁ μ₁ r₁ S₁ x₁ => ?_)
  obtain ⟨m, xs0, h0⟩ := hm
  obtain ⟨a, vs0, rfl, ⟨n0, p0⟩, q0⟩ := S₁.toHR.lst h0 r₁
  refine ⟨"list", "list.append", F.plainAttrs_list, slot_list_append, type_list_append, ⟨_, p0, rfl⟩, fun b hb => by cases hb; exact ⟨_, p0, rfl⟩, ?_⟩
  refine Calls.callWith_builtin rfl (Calls.evalArgs_plain (Calls.spliced_cons (he.then S₁ fun u h₂ tk₂ μ₂ r₂ S₂ x₂ => Calls.spliced_nil ?_)))
  have r₁' := r₁.mono x₂.pre
  obtain ⟨b, vs, e1, p1, q1⟩ := S₂.toHR.lst hid r₁'
  cases e1
  have := q1.length
  have := lim_line
  refine wpAny_list_append_plain p1 (fun h' hp hsb => ?_) (by rw [List.size_toArray]; omega)
  rw [List.push_toArray] at hp
  obtain ⟨c1, c2⟩ := HR.setL S₂.toHR hid r₁' hp (All2.append (.cons r₂ .nil) q1) fun b o hb e => (hsb.2 b hb).trans e
  exact hQ _ _ _ _ rfl c1 ((x₁.trans x₂).trans c2)

theorem SE.index {o e : PySem.Expr} {apos pos : Pos} {id : Nat} {m : Bool} {xs : List AV} {ns : List Int} {i : Int} (hb : plainBase o = true) (hline : (apos.endLine == pos.line) = true) (hs : noStar e = true)
    (ha : SE X A env fc ρ (eval o env) σ (.ref id) σ₁) (hm : ∃ m xs, σ₁[id]? = some (m, AO.lst xs)) (he : SE X A env fc ρ (eval e env) σ₁ (.int i) σ₂) (hid : σ₂[id]? = some (m, .lst xs)) (hn : intsOf xs = some ns) (hi : i ∈ ns) (hl : ns.length ≤ lim) :
    SE X A env fc ρ (eval (.Call (.Attribute o "index" apos) [e] [] pos) env) σ (.int (ns.idxOf i : Nat)) σ₂ := by
  intro μ s Q S hQ
  refine wpAny_Call_method1_late (attributeBase_plain hb) hline (meth1_trees hs) (ha.then S fun v h₁ tk₁ μ₁ r₁ S₁ x₁ => ?_)
  obtain ⟨m, xs0, h0⟩ := hm
  obtain ⟨a, vs0, rfl, ⟨n0, p0⟩, q0⟩ := S₁.toHR.lst h0 r₁
  refine ⟨"list", "list.index", F.plainAttrs_list, PySem.F.slot_list_index, F.type_list_index, ⟨_, p0, rfl⟩, fun b hb => by cases hb; exact ⟨_, p0, rfl⟩, ?_⟩
  refine Calls.callWith_builtin rfl (Calls.evalArgs_plain (Calls.spliced_cons (he.then S₁ fun u h₂ tk₂ μ₂ r₂ S₂ x₂ => Calls.spliced_nil ?_)))
  obtain ⟨b, vs, e1, p1, q1⟩ := S₂.toHR.lst hid (r₁.mono x₂.pre)
  cases e1
  obtain ⟨t, rfl⟩ := r₂
  exact indexList_ok p1.isList (intsOf_are q1 hn) hl hi fun t' => hQ _ _ _ _ ⟨t', rfl⟩ S₂.toHR (x₁.trans x₂)

theorem HR.dic {μ : Mu} {h : Heap} (H : HR X μ σ h) {id : Nat} {m : Bool} {kvs : List (Int × AV)} (hid : σ[id]? = some (m, .dic kvs)) {v : Value} (hv : VR μ (.ref id) v) :
    ∃ a es, v = .ref a ∧ (a == sysModules) = false ∧ h.DictOf (intKind X.prog X.w) a es ∧ Ents μ kvs es := by
  obtain ⟨p, hp, rfl⟩ := hv
  obtain ⟨q, hq, _, hm, es, hd, he⟩ := H.obj _ _ _ hid
  rw [hp] at hq; cases hq
  exact ⟨_, es, rfl, hm, hd, he⟩

theorem dict_exact {h : Heap} {a : Addr} {es : List (Int × Value)} (d : h.DictOf (intKind X.prog X.w) a es) : ∃ ob, h.get? a = some ob ∧ ob.dict = none := by
  obtain ⟨o, _, _, e, x, _⟩ := d
  exact ⟨o, e, x.2.1⟩

theorem SE.get {o e f : PySem.Expr} {apos pos : Pos} {id : Nat} {m : Bool} {kvs : List (Int × AV)} {i : Int} (hb : plainBase o = true) (hline : (apos.endLine == pos.line) = true) (hs : noStar e = true) (hs' : noStar f = true)
    (ha : SE X A env fc ρ (eval o env) σ (.ref id) σ₁) (hm : ∃ m kvs, σ₁[id]? = some (m, AO.dic kvs)) (he : SE X A env fc ρ (eval e env) σ₁ (.int i) σ₂) (hf : SE X A env fc ρ (eval f env) σ₂ z σ₃) (hid : σ₃[id]? = some (m, .dic kvs)) :
    SE X A env fc ρ (eval (.Call (.Attribute o "get" apos) [e, f] [] pos) env) σ ((kvs.lookup i).getD z) σ₃ := by
  intro μ s Q S hQ
  refine wpAny_Call_method2_late (attributeBase_plain hb) hline (meth2_trees hs hs') (ha.then S fun v h₁ tk₁ μ₁ r₁ S₁ x₁ => ?_)
  obtain ⟨m, kvs0, h0⟩ := hm
  obtain ⟨a, es0, rfl, hsm, d0, _⟩ := S₁.toHR.dic h0 r₁
  refine ⟨"dict", "dict.get", F.plainAttrs_dict, PySem.F.slot_dict_get, F.type_dict_get, d0.typeIs, fun b hb => by cases hb; exact dict_exact d0, ?_⟩
  refine wpAny_dict_get2 (knd := intKind X.prog X.w) hsm (he.then S₁ fun u h₂ tk₂ μ₂ r₂ S₂ x₂ => hf.then S₂ fun w h₃ tk₃ μ₃ r₃ S₃ x₃ => ?_)
  obtain ⟨b, es, e1, _, d1, q1⟩ := S₃.toHR.dic hid (r₁.mono (x₂.pre.trans x₃.pre))
  cases e1
  obtain ⟨t, rfl⟩ := r₂
  refine ⟨i, valueAt es, by simp [intKind, Value.isInt], d1.mapOf, hQ _ _ _ _ ?_ S₃.toHR ((x₁.trans x₂).trans x₃)⟩
  cases hk : kvs.lookup i with
  | none =>
    rw [ents_none q1 hk]
    exact r₃
  | some v =>
    obtain ⟨w', hw, hv⟩ := ents_get q1 hk
    rw [hw]
    exact hv
end
end Mine
namespace Mine
open PySem PySem.W PySem.Calls PyProof.Rows

/-- terms one after the other -/
inductive SEs (X : Cx) (A : Around) (env : Env) (fc : FC) (ρ : Rho) : List PySem.Expr → AH → List AV → AH → Prop
  | nil {σ} : SEs X A env fc ρ [] σ [] σ
  | cons {e es σ x σ₁ r σ₂} : noStar e = true → SE X A env fc ρ (eval e env) σ x σ₁ → SEs X A env fc ρ es σ₁ r σ₂ → SEs X A env fc ρ (e :: es) σ (x :: r) σ₂

section
variable {X : Cx} {A : Around} {env : Env} {fc : FC} {ρ : Rho} {σ σ₁ σ₂ σ₃ : AH} {x y z : AV}
theorem SEs.sl {pos : Pos} {es : List PySem.Expr} {r : List AV} (h : SEs X A env fc ρ es σ r σ₁) : SL X A env fc ρ (spliced (backTo pos (starEach es env))) σ r σ₁ := by
  induction h with
  | nil => exact SL.nil
  | cons hs he _ ih => exact SL.cons hs he ih
theorem SEs.stars {es : List PySem.Expr} {r : List AV} (h : SEs X A env fc ρ es σ r σ₁) : es.all noStar = true := by
  induction h with
  | nil => rfl
  | cons hs _ _ ih => rw [List.all_cons, hs, ih]; rfl
theorem SEs.length {es : List PySem.Expr} {r : List AV} (h : SEs X A env fc ρ es σ r σ₁) : es.length = r.length := by
  induction h with
  | nil => rfl
  | cons _ _ _ ih => rw [List.length_cons, List.length_cons, ih]

/-- written keys -/
noncomputable def keysAre : List Int → List (Option PySem.Expr) → Bool
  | [], es => es.isEmpty
  | k :: ks, es => match es with
    | o :: es => onO o (fun e => onI e fun j => k == j) && keysAre ks es
    | [] => false

theorem stored_new {kvs : List (Int × Value)} {k : Int} {v : Value} (h : k ∉ kvs.map (·.1)) : stored kvs k v = kvs ++ [(k, v)] := by
  unfold stored
  rw [if_neg]
  simp only [List.any_eq_true, decide_eq_true_eq, not_exists, not_and]
  intro p hp e
  exact h (List.mem_map.mpr ⟨p, hp, e⟩)
theorem merged_new : ∀ (more kvs : List (Int × Value)), ((kvs ++ more).map (·.1)).Nodup → merged kvs more = kvs ++ more
  | [], kvs, _ => by simp [merged]
  | p :: more, kvs, h => by
    have h1 : p.1 ∉ kvs.map (·.1) := by
      rw [List.map_append, List.nodup_append] at h
      intro hp
      exact h.2.2 _ hp _ (List.mem_map.mpr ⟨p, List.mem_cons_self .., rfl⟩) rfl
    have h2 := merged_new more (kvs ++ [(p.1, p.2)]) (by rw [List.append_assoc]; exact h)
    show merged (stored kvs p.1 p.2) more = _
    rw [stored_new h1, h2, List.append_assoc]
    rfl

@[elab_as_elim] theorem keysAreK {k : Int} {ks : List Int} {keys : List (Option PySem.Expr)} {M : List (Option PySem.Expr) → Prop} (h : keysAre (k :: ks) keys = true) (kk : ∀ c p keys, keysAre ks keys = true → M (some (.Constant (.int k) c p) :: keys)) : M keys := by
  cases keys with
  | nil => cases h
  | cons o keys =>
    refine andK h fun h1 h2 => ?_
    refine onOK h1 fun e h1 => ?_
    refine onIK h1 fun i c p h1 => ?_
    cases eq_of_beq h1
    exact kk c p keys h2
theorem pairs_ok {pos : Pos} {es : List PySem.Expr} {r : List AV} {σ σ₁ : AH} (he : SEs X A env fc ρ es σ r σ₁) : ∀ {ks : List Int} {keys : List (Option PySem.Expr)}, keysAre ks keys = true → ks.length = es.length →
    ∀ (μ : Mu) (s : Shared) (Q : List (Value × Value) → Shared → Prop), Sta X env fc ρ μ σ s.heap →
      (∀ prs kvs h' tk μ', Carries (intKind X.prog X.w) prs kvs → kvs.map (·.1) = ks → Ents μ' (ks.zip r) kvs → HR X μ' σ₁ h' → Ext NoP μ σ s.heap μ' σ₁ h' → Q prs { s with heap := h', toks := tk }) →
      wpAny (model X.prog X.w) A (evalPairs (pairTrees keys es env pos)) Q NoE s := by
  induction he with
  | nil =>
    intro ks keys hk hl μ s Q S hQ
    cases ks with
    | cons _ _ => cases hl
    | nil =>
      revert hk
      cases keys with
      | cons _ _ => exact fun hk => Bool.noConfusion hk
      | nil => exact fun _ => pairTrees_nil_walk (hQ [] [] _ _ _ trivial rfl .nil S.toHR (Ext.refl ..))
  | cons hs he hr ih =>
    intro ks keys hk hl μ s Q S hQ
    cases ks with
    | nil => cases hl
    | cons k ks =>
      refine keysAreK hk fun c p keys hk' => ?_
      refine pairTrees_cons_walk (wpAny_Constant_int ?_)
      refine he.then (s := { s with toks := s.toks + 1 }) S fun v h₁ tk₁ μ₁ r₁ S₁ x₁ => ?_
      refine ih hk' (Nat.succ.inj hl) μ₁ _ _ S₁ fun prs kvs h' tk μ' c1 c2 c3 c4 c5 => ?_
      exact hQ _ ((k, v) :: kvs) _ _ _ ⟨by simp [intKind, Value.isInt], rfl, c1⟩ (congrArg (k :: ·) c2) (.cons ⟨rfl, r₁.mono c5.pre⟩ c3) c4 (x₁.trans c5)

theorem keysAre_some : ∀ {ks : List Int} {keys : List (Option PySem.Expr)}, keysAre ks keys = true → keys.all (·.isSome) = true ∧ keys.length = ks.length := by
  intro ks
  induction ks with
  | nil =>
    intro keys h
    refine nilK h ?_
    exact ⟨rfl, rfl⟩
  | cons k ks ih =>
    intro keys h
    refine keysAreK h fun c p keys hk => ?_
    exact ⟨by rw [List.all_cons, (ih hk).1]; rfl, congrArg Nat.succ (ih hk).2⟩

theorem SE.dic (K : XOK X) {ks : List Int} {keys : List (Option PySem.Expr)} {es : List PySem.Expr} {pos} {r : List AV} (hk : keysAre ks keys = true) (he : SEs X A env fc ρ es σ r σ₁) (hl : ks.length = r.length) (hn : ks.Nodup) (h8 : ks.length ≤ 8) (h1 : 1 ≤ ks.length) :
    SE X A env fc ρ (eval (.Dict keys es pos) env) σ (.ref σ₁.length) (σ₁ ++ [(false, .dic (ks.zip r))]) := by
  intro μ s Q S hQ
  obtain ⟨k1, k2⟩ := keysAre_some hk
  have hle := he.length
  refine wpAny_Dict_walk (knd := intKind X.prog X.w) k1 (by omega) (by intro e; subst e; simp at k2; omega) (by omega) ?_
  have g := push_keeps (h := s.heap) { cls := .type "dict", data := .dict #[] }
  refine pairs_ok he hk (by omega) μ { s with heap := s.heap.push { cls := .type "dict", data := .dict #[] } } _ (S.grown g) fun prs kvs h' tk μ' c1 c2 c3 c4 c5 => ?_
  have fr : ∀ b ∈ (⟨s.heap.objs.size, none⟩ : Pl).foot, s.heap.get? b = none := fun b hb => fresh_none hb
  have notW : ¬ Wr μ σ s.heap.objs.size := by
    rintro ⟨id, o, p, e1, e2, e3⟩
    obtain ⟨o', e4⟩ := S.toHR.live e2 _ e3
    exact absurd (Heap.lt_size e4) (Nat.lt_irrefl _)
  refine ⟨kvs, c1, (Heap.DictOf.new s.heap).at fun o e => c5.keep _ _ notW id e, fun h'' d sb => ?_⟩
  rw [merged_new kvs [] (by rw [List.nil_append, c2]; exact hn), List.nil_append] at d
  have hsm : (s.heap.objs.size == sysModules) = false := by
    obtain ⟨o, _, _, ho, _⟩ := K.g
    have := Heap.lt_size (S.base _ _ ho)
    rw [beq_eq_false_iff_ne]
    intro e
    rw [e] at this
    exact absurd this (by decide)
  have apart : ∀ (i : Nat) (q : Pl), μ'[i]? = some q → s.heap.objs.size ∉ q.foot := by
    intro i q hq hb
    rcases c5.new i q _ hq hb with e | e
    · obtain ⟨o', e4⟩ := S.toHR.live e _ hb
      exact absurd (Heap.lt_size e4) (Nat.lt_irrefl _)
    · rw [show (s.heap.push { cls := .type "dict", data := .dict #[] }).get? s.heap.objs.size = _ from Heap.get?_push_size _ rfl] at e
      cases e
  have k1 : ∀ b o, b ≠ s.heap.objs.size → h'.get? b = some o → h''.get? b = some o := fun b o hb e => (sb.2 b hb).trans e
  have old : ∀ b o, s.heap.get? b = some o → b ≠ s.heap.objs.size := fun b o e => Nat.ne_of_lt (Heap.lt_size e)
  have H1 : HR X μ' σ₁ h'' := c4.but (fun i q b o hq hb e => k1 b o (fun e' => apart i q hq (e' ▸ hb)) e) fun b o e => k1 b o (old b o (S.base b o e)) (c4.base b o e)
  have fr' : ∀ b ∈ (⟨s.heap.objs.size, none⟩ : Pl).foot, ∀ (i : Nat) (q : Pl), μ'[i]? = some q → b ∉ q.foot := by
    intro b hb i q hq
    simp [Pl.foot] at hb
    subst hb
    exact apart i q hq
  have hm : μ' <+: μ' ++ [⟨s.heap.objs.size, none⟩] := List.prefix_append ..
  have H2 := H1.told (m := false) (o := .dic (ks.zip r)) fr' (fun _ _ e => by cases e) ⟨rfl, hsm, kvs, d, c3.imp fun _ _ h => ⟨h.1, h.2.mono hm⟩⟩
  refine hQ _ _ _ _ ⟨⟨s.heap.objs.size, none⟩, by rw [← c4.len]; simp, rfl⟩ H2 ⟨c5.pre.trans hm, fun b o hw hp e => ?_, fun b ⟨id, o, p, e1, e2, e3⟩ => ?_, fun b o e => ?_, fun i p b hp hb => ?_⟩
  · exact k1 b o (old b o e) (c5.keep b o hw hp (g b o e))
  · rcases getElem?_snoc e1 with e4 | ⟨e4, e5⟩
    · rcases getElem?_snoc e2 with e6 | ⟨e6, e7⟩
      · rcases c5.wr b ⟨id, o, p, e4, e6, e3⟩ with w | n
        · exact .inl w
        · refine .inr ?_
          cases q : s.heap.get? b with
          | none => rfl
          | some o => rw [g b o q] at n; cases n
      · exact absurd (List.getElem?_eq_some_iff.mp e4).1 (by rw [e6, c4.len]; exact Nat.lt_irrefl _)
    · cases congrArg Prod.fst e5
  · obtain ⟨o', e'⟩ := c5.alive b o (g b o e)
    exact ⟨o', k1 b o' (old b o e) e'⟩
  · rcases getElem?_snoc hp with e1 | ⟨e1, e2⟩
    · rcases c5.new i p b e1 hb with w | n
      · exact .inl w
      · refine .inr ?_
        cases q : s.heap.get? b with
        | none => rfl
        | some o => rw [g b o q] at n; cases n
    · subst e2
      exact .inr (fr b hb)
end
end Mine
namespace Mine
open PySem PySem.W PySem.Calls PyProof.Rows

noncomputable def FR (μ : Mu) : Fl → Flow → Prop
  | .next, f => f = .next
  | .brk, f => f = .brk
  | .ret v, f => ∃ u, f = .ret u ∧ VR μ v u
noncomputable def PF (env : Env) (b : Addr) : Prop := b = env.locals ∨ ∃ x, env.cells.lookup x = some b

noncomputable def SS (X : Cx) (A : Around) (env : Env) (fc : FC) (ρ : Rho) (t : Sem Flow) (σ : AH) (f : Fl) (ρ' : Rho) (σ' : AH) : Prop :=
  ∀ (μ : Mu) (s : Shared) (Q : Flow → Shared → Prop), Sta X env fc ρ μ σ s.heap →
    (∀ g h' tk μ', FR μ' f g → Sta X env fc ρ' μ' σ' h' → Ext (PF env) μ σ s.heap μ' σ' h' → Q g { s with heap := h', toks := tk }) →
    wpAny (model X.prog X.w) A t Q NoE s

section
variable {X : Cx} {A : Around} {env : Env} {fc : FC} {ρ ρ₁ ρ₂ : Rho} {σ σ₁ σ₂ σ₃ σ₄ : AH} {x y z : AV} {f g : Fl}

theorem set_get {n i : Nat} {v : AV} (h : (ρ.set n (some z))[i]? = some (some v)) : (i = n ∧ v = z) ∨ (i ≠ n ∧ ρ[i]? = some (some v)) := by
  by_cases e : n = i
  · subst e
    rw [List.getElem?_set_self'] at h
    cases q : ρ[n]? with
    | none => rw [q] at h; cases h
    | some w => rw [q] at h; simp at h; exact .inl ⟨rfl, h.symm⟩
  · rw [List.getElem?_set_ne e] at h
    exact .inr ⟨fun q => e q.symm, h⟩

theorem Sta.store (e : EnvOK env fc) {n : Nat} {w : Str} {b : Bool} (hs : fc.slots[n]? = some (some (w, b))) {μ : Mu} {s : Shared} {u : Value} {Q : Unit → Shared → Prop} {E : Value → Shared → Prop} (S : Sta X env fc ρ μ σ s.heap) (hv : VR μ z u)
    (hQ : ∀ h' tk, Sta X env fc (ρ.set n (some z)) μ σ h' → Ext (PF env) μ σ s.heap μ σ h' → Q () { s with heap := h', toks := tk }) : wpAny (model X.prog X.w) A (storeName env w u) Q E s := by
  cases b with
  | false =>
    obtain ⟨m, hn, fm⟩ := S.loc
    refine wpAny_storeName_local (by unfold Env.kindOf; rw [e.names]; exact e.code _ _ hs) hn (fun h' hn' hsb => ?_) (by rw [e.kind]; rfl)
    have k : ∀ b o, b ≠ env.locals → s.heap.get? b = some o → h'.get? b = some o := fun b o hb e => (hsb.2 b hb).trans e
    refine hQ h' _ ⟨S.toHR.but (fun i p b o hp hb e => k b o (S.ffree i p b hp hb).1 e) fun b o e0 => k b o (fun q => by subst q; rw [S.lfree] at e0; cases e0) (S.base b o e0), S.ffree, ⟨_, hn', fun i v y hi hy => ?_⟩, S.lfree, fun i y hy => ?_, fun y c hc => ?_, S.cinj⟩
      ⟨List.prefix_refl _, fun b o _ hp e => k b o (fun q => hp (.inl q)) e, fun _ w => .inl w, fun b o e => ?_, fun _ _ _ e _ => .inl e⟩
    · rcases set_get hi with ⟨rfl, rfl⟩ | ⟨h1, h2⟩
      · rw [hs] at hy
        cases hy
        exact ⟨u, by simp, hv⟩
      · obtain ⟨v', h3, h4⟩ := fm i v y h2 hy
        refine ⟨v', ?_, h4⟩
        have : y ≠ w := by rintro rfl; exact h1 (e.inj _ _ _ _ _ hy hs)
        simp only [this, if_false]
        exact h3
    · obtain ⟨c, ov, h1, h2, h3⟩ := S.cel i y hy
      refine ⟨c, ov, h1, h2.sameBut hsb (S.cfree y c h1).2.1, fun v hi => ?_⟩
      rcases set_get hi with ⟨rfl, rfl⟩ | ⟨h4, h5⟩
      · rw [hs] at hy; cases hy
      · exact h3 v h5
    · obtain ⟨h1, h2, o, h3⟩ := S.cfree y c hc
      exact ⟨h1, h2, o, k c o h2 h3⟩
    · by_cases q : b = env.locals
      · subst q
        obtain ⟨o, _, _, ho, _⟩ := hn'
        exact ⟨o, ho⟩
      · exact ⟨o, k b o q e⟩
  | true =>
    obtain ⟨c, ov, hc, hi, fm⟩ := S.cel n w hs
    obtain ⟨c1, c2, _⟩ := S.cfree w c hc
    refine wpAny_storeName_cell e.kind (by unfold Env.kindOf; rw [e.names]; exact e.codec _ _ hs) hc hi fun h' hn' hsb => ?_
    have k : ∀ b o, b ≠ c → s.heap.get? b = some o → h'.get? b = some o := fun b o hb e => (hsb.2 b hb).trans e
    refine hQ h' _ ⟨S.toHR.but (fun i p b o hp hb e => k b o ((S.ffree i p b hp hb).2 w c hc) e) fun b o e0 => k b o (fun q => by subst q; rw [c1] at e0; cases e0) (S.base b o e0), S.ffree, ?_, S.lfree, fun i y hy => ?_, fun y c' hc' => ?_, S.cinj⟩
      ⟨List.prefix_refl _, fun b o _ hp e => k b o (fun q => hp (.inr ⟨w, q ▸ hc⟩)) e, fun _ w => .inl w, fun b o e => ?_, fun _ _ _ e _ => .inl e⟩
    · obtain ⟨m, hn, fl⟩ := S.loc
      refine ⟨m, hn.at' fun o => k _ _ (fun q => c2 q.symm), fun i v y hi hy => ?_⟩
      rcases set_get hi with ⟨rfl, rfl⟩ | ⟨h1, h2⟩
      · rw [hs] at hy; cases hy
      · exact fl i v y h2 hy
    · by_cases q : i = n
      · subst q
        rw [hs] at hy
        cases hy
        refine ⟨c, some u, hc, hn', fun v hi => ?_⟩
        rcases set_get hi with ⟨_, rfl⟩ | ⟨h1, _⟩
        · exact ⟨u, rfl, hv⟩
        · exact absurd rfl h1
      · obtain ⟨c', ov', h1, h2, h3⟩ := S.cel i y hy
        refine ⟨c', ov', h1, h2.sameBut hsb (fun r => ?_), fun v hi => ?_⟩
        · subst r
          have := S.cinj _ _ _ hc h1
          subst this
          exact q (e.inj _ _ _ _ _ hy hs)
        · rcases set_get hi with ⟨h4, _⟩ | ⟨h4, h5⟩
          · exact absurd h4 q
          · exact h3 v h5
    · obtain ⟨h1, h2, o, h3⟩ := S.cfree y c' hc'
      refine ⟨h1, h2, ?_⟩
      by_cases q : c' = c
      · subst q
        obtain ⟨o, ho, _⟩ := hn'
        exact ⟨o, ho⟩
      · exact ⟨o, k _ o q h3⟩
    · by_cases q : b = c
      · subst q
        obtain ⟨o, ho, _⟩ := hn'
        exact ⟨o, ho⟩
      · exact ⟨o, k b o q e⟩

theorem SS.then {t : Sem Flow} (ha : SS X A env fc ρ t σ f ρ₁ σ₁) {μ : Mu} {s : Shared} {Q : Flow → Shared → Prop} {E : Value → Shared → Prop} (S : Sta X env fc ρ μ σ s.heap)
    (hQ : ∀ g h' tk μ', FR μ' f g → Sta X env fc ρ₁ μ' σ₁ h' → Ext (PF env) μ σ s.heap μ' σ₁ h' → Q g { s with heap := h', toks := tk }) : wpAny (model X.prog X.w) A t Q E s :=
  wpAny_mono (ha μ s Q S hQ) (fun _ _ q => q) fun _ _ q => q.elim

/-- a term first -/
theorem SE.first {t : Sem Value} (ha : SE X A env fc ρ t σ x σ₁) {μ : Mu} {s : Shared} {Q : Value → Shared → Prop} {E : Value → Shared → Prop} (S : Sta X env fc ρ μ σ s.heap)
    (hQ : ∀ v h' tk μ', VR μ' x v → Sta X env fc ρ μ' σ₁ h' → Ext (PF env) μ σ s.heap μ' σ₁ h' → Q v { s with heap := h', toks := tk }) : wpAny (model X.prog X.w) A t Q E s :=
  wpAny_mono (ha.then S fun v h' tk μ' a b c => hQ v h' tk μ' a b c.ofNo) (fun _ _ q => q) fun _ _ q => q.elim
theorem STr.first {t : Sem Bool} {b : Bool} (ha : STr X A env fc ρ t σ b σ₁) {μ : Mu} {s : Shared} {Q : Bool → Shared → Prop} {E : Value → Shared → Prop} (S : Sta X env fc ρ μ σ s.heap)
    (hQ : ∀ h' tk μ', Sta X env fc ρ μ' σ₁ h' → Ext (PF env) μ σ s.heap μ' σ₁ h' → Q b { s with heap := h', toks := tk }) : wpAny (model X.prog X.w) A t Q E s :=
  wpAny_mono (ha.then S fun h' tk μ' b c => hQ h' tk μ' b c.ofNo) (fun _ _ q => q) fun _ _ q => q.elim

theorem SS.nil : SS X A env fc ρ (execs [] env) σ .next ρ σ := fun _ _ _ S hQ => wpAny_execs_nil (hQ _ _ _ _ rfl S (Ext.refl ..))
theorem SS.consGo {st : Stmt} {r : List Stmt} (ha : SS X A env fc ρ (exec st env) σ .next ρ₁ σ₁) (hb : SS X A env fc ρ₁ (execs r env) σ₁ f ρ₂ σ₂) : SS X A env fc ρ (execs (st :: r) env) σ f ρ₂ σ₂ := by
  intro μ s Q S hQ
  refine wpAny_execs_cons (ha.then S fun g h₁ tk₁ μ₁ r₁ S₁ x₁ => ?_)
  cases r₁
  exact hb.then S₁ fun g h₂ tk₂ μ₂ r₂ S₂ x₂ => hQ _ _ _ _ r₂ S₂ (x₁.trans x₂)
theorem SS.consStop {st : Stmt} {r : List Stmt} (ha : SS X A env fc ρ (exec st env) σ f ρ₁ σ₁) (hf : f ≠ .next) : SS X A env fc ρ (execs (st :: r) env) σ f ρ₁ σ₁ := by
  intro μ s Q S hQ
  refine wpAny_execs_cons (ha.then S fun g h₁ tk₁ μ₁ r₁ S₁ x₁ => ?_)
  cases f with
  | next => exact absurd rfl hf
  | brk => cases r₁; exact hQ _ _ _ _ rfl S₁ x₁
  | ret v => obtain ⟨u, rfl, hu⟩ := r₁; exact hQ _ _ _ _ ⟨u, rfl, hu⟩ S₁ x₁

theorem SS.asg (e : EnvOK env fc) {n : Nat} {w : Str} {b : Bool} {pos' value pos} (hs : fc.slots[n]? = some (some (w, b))) (hsw : swapsWith value (some (.Name w pos')) pos.line env = pure false) (ha : SE X A env fc ρ (eval value env) σ x σ₁) :
    SS X A env fc ρ (exec (.Assign [.Name w pos'] value pos) env) σ .next (ρ.set n (some x)) σ₁ := by
  intro μ s Q S hQ
  exact wpAny_Assign_Name (ha.first S fun v h₁ tk₁ μ₁ r₁ S₁ x₁ => S₁.store e hs r₁ fun h₂ tk₂ S₂ x₂ => hQ _ _ _ _ rfl S₂ (x₁.trans x₂)) hsw
theorem SS.ret {v pos} (ha : SE X A env fc ρ (eval v env) σ x σ₁) : SS X A env fc ρ (exec (.Return (some v) pos) env) σ (.ret x) ρ σ₁ := by
  intro μ s Q S hQ
  exact wpAny_Return_some (ha.first S fun v h₁ tk₁ μ₁ r₁ S₁ x₁ => hQ _ _ _ _ ⟨v, rfl, r₁⟩ S₁ x₁)
theorem SS.brk {pos} : SS X A env fc ρ (exec (.Break pos) env) σ .brk ρ σ := fun _ _ _ S hQ => wpAny_Break (hQ _ _ _ _ rfl S (Ext.refl ..))
theorem SS.expr {v pos} (ha : SE X A env fc ρ (eval v env) σ x σ₁) (hx : ∀ i, x ≠ .ref i) (hi : interactive env = false) (hsw : swapsWith v none pos.line env = pure false) : SS X A env fc ρ (exec (.Expr v pos) env) σ .next ρ σ₁ := by
  intro μ s Q S hQ
  refine wpAny_Expr (ha.first S fun v h₁ tk₁ μ₁ r₁ S₁ x₁ => ?_) hi hsw
  cases x with
  | none => cases r₁; exact hQ _ _ _ _ rfl S₁ x₁
  | bool b => cases r₁; exact hQ _ _ _ _ rfl S₁ x₁
  | int i => obtain ⟨t, rfl⟩ := r₁; exact hQ _ _ _ _ rfl S₁ x₁
  | ref i => exact absurd rfl (hx i)
theorem SS.ite {c : PySem.Expr} {a b : List Stmt} {pos} {t : Bool} (hc : STr X A env fc ρ (isTrue c env (eval c env)) σ t σ₁) (hb : SS X A env fc ρ (if t then execs a env else execs b env) σ₁ f ρ₁ σ₂) :
    SS X A env fc ρ (exec (.If c a b pos) env) σ f ρ₁ σ₂ := by
  intro μ s Q S hQ
  refine wpAny_If (hc.first S fun h₁ tk₁ μ₁ S₁ x₁ => ?_)
  cases t with
  | true => exact hb.then S₁ fun g h₂ tk₂ μ₂ r₂ S₂ x₂ => hQ _ _ _ _ r₂ S₂ (x₁.trans x₂)
  | false => exact hb.then S₁ fun g h₂ tk₂ μ₂ r₂ S₂ x₂ => hQ _ _ _ _ r₂ S₂ (x₁.trans x₂)
theorem SS.aug (e : EnvOK env fc) {n : Nat} {w : Str} {b : Bool} {pos' value pos} {op : BOp} {i j r : Int} (hs : fc.slots[n]? = some (some (w, b))) (hv : ρ[n]? = some (some (.int i))) (hd : (w == ("__debug__" : Str)) = false)
    (ha : SE X A env fc ρ (eval value env) σ (.int j) σ₁) (hr : binV op i j = some r) :
    SS X A env fc ρ (exec (.AugAssign (.Name w pos') (bop op) value pos) env) σ .next (ρ.set n (some (.int r))) σ₁ := by
  intro μ s Q S hQ
  refine wpAny_AugAssign_Name ?_
  have fin : ∀ u, VR μ (.int i) u → wpAny (model X.prog X.w) A (eval value env) (fun v s₂ => wpAny (model X.prog X.w) A (inplaceOp (bop op) u v)
      (fun r s₃ => wpAny (model X.prog X.w) A (storeName env w r) (fun _ => Q .next) NoE s₃) NoE s₂) NoE s := by
    rintro u ⟨t, rfl⟩
    refine ha.first S fun v h₁ tk₁ μ₁ r₁ S₁ x₁ => ?_
    obtain ⟨t', rfl⟩ := r₁
    exact binV_aug hr (Sta.store (z := .int r) e hs (s := { s with heap := h₁, toks := tk₁ + 1 }) S₁ ⟨tk₁, rfl⟩ fun h₂ tk₂ S₂ x₂ => hQ _ _ _ _ rfl S₂ (x₁.trans x₂))
  cases b with
  | false =>
    obtain ⟨m, hn, fm⟩ := S.loc
    obtain ⟨v', h1, h2⟩ := fm n _ w hv hs
    exact wpAny_loadName_local e.kind (by unfold Env.kindOf; rw [e.names]; exact e.code _ _ hs) hn h1 (fin _ h2)
  | true =>
    obtain ⟨c, ov, h1, h2, fm⟩ := S.cel n w hs
    obtain ⟨v', rfl, h3⟩ := fm _ hv
    exact wpAny_loadName_cell e.kind (by unfold Env.kindOf; rw [e.names]; exact e.codec _ _ hs) h1 h2 (fin _ h3)
end
end Mine
namespace Mine
open PySem PySem.W PySem.Calls PyProof.Rows Builtin Builtin.ObjectAttr

section
variable {prog : Program} {w : World} {A : Around} {E : Value → Shared → Prop} {s : Shared}
theorem setItem_plain {l : Addr} {items : Array Value} {k : Int} {t : Tok} {v : Value} {Q : Unit → Shared → Prop} (hl : s.heap.PlainList l items)
    (h0 : 0 ≤ k) (hfit : k < 2 ^ 63) (hn : k < items.size)
    (hQ : ∀ h', h'.PlainList l (items.setIfInBounds k.toNat v) → Heap.SameBut l s.heap h' → Q () { s with heap := h' }) :
    wpAny (model prog w) A (setItem (.ref l) (.int k t) v) Q E s := by
  obtain ⟨n, ho⟩ := id hl
  unfold setItem
  try with_reducible refine wpAny_holding ?_
  first | refine wpAny_bind (wpAny_pure ?_) | skip
  refine wpAny_bind (wpAny_sequenceKey hl.isList.typeIs (by decide) ?_)
  refine wpAny_bind (wpAny_callSpecial?_slot (name := Str.ofString "__setitem__") hl.isList.typeIs slot_list_setitem
    (wpAny_call_entry slot_list_setitem hl.isList.typeIs entry_list_setitem ?_ (args_list_setitem _ _ _)))
  show wpAny _ _ (Builtin.List.listSubscript? (.int k t) >>= _) _ _ s
  refine wpAny_bind (wpAny_listSubscript_int (fitsIndex_of h0 hfit) ?_)
  clear hfit
  obtain ⟨j, rfl⟩ := Int.eq_ofNat_of_zero_le h0
  have hj : j < items.size := by omega
  have hx' : items[j]? = some items[j] := Array.getElem?_eq_getElem hj
  show wpAny _ _ ((seqItemAt l j >>= fun r => pure (r.map (j, ·))) >>= _) _ _ s
  refine wpAny_bind (wpAny_bind (wpAny_seqItemAt ho rfl (wpAny_pure ?_)))
  rw [hx']
  show wpAny _ _ (setSeqItemAt l j v >>= _) _ _ s
  have hm : ∃ n', Obj.mapSeq (·.setIfInBounds j v) ({ cls := .type "list", data := .seq items n } : Obj) = { cls := .type "list", data := .seq (items.setIfInBounds j v) n' } := ⟨_, rfl⟩
  obtain ⟨n', hm⟩ := hm
  have hfin : (s.heap.update l (Obj.mapSeq (·.setIfInBounds j v))).PlainList l (items.setIfInBounds j v) :=
    ⟨n', by rw [Heap.get?_update_self _ ho (by rw [hm]; rfl), hm]⟩
  refine wpAny_bind (wpAny_setSeqItemAt ho rfl ?_)
  first
    | exact wpAny_bind (wpAny_pure (wpAny_pure ⟨.none, rfl, wpAny_pure (hQ _ hfin (Heap.SameBut.update ..))⟩))
    | exact wpAny_pure ⟨.none, rfl, wpAny_pure (hQ _ hfin (Heap.SameBut.update ..))⟩

theorem osa_heap {K : Frag} {C x dx : Addr} {es : List DictEntry} {n : Nat} {name : Str} {tk : Tok} {v : Value} {R : Result → Shared → Prop} (X : K.In s.heap) (hx : s.heap.get? x = some (instObj C dx)) (hdx : s.heap.get? dx = some (dictOf es n))
    (hp : plainOver K C = true) (ht : takerIn K C name = some none) (hh : hasDictIn K C = true) (hr : es.any (·.refKey) = false) (hz : (putL name (PyData.keyHash w.params name) (.str name s.toks) v es).length ≤ 1000)
    (h : R (.ok (.ret .none)) { s with heap := s.heap.update dx (Obj.putName name (PyData.keyHash w.params name) (.str name s.toks) v), toks := s.toks + 1 }) :
    codeAny (model prog w) A (.call (.builtin "object.__setattr__") ⟨[.ref x, .str name tk, v], []⟩) R s := by
  refine osa_open X (inst_at hx hdx) hp ht fun b => ?_
  obtain ⟨cd, hc, hd'⟩ := any_some hh
  have D' : (s.heap.update dx (Obj.putName name (PyData.keyHash w.params name) (.str name s.toks) v)).get? dx = some (dictOf (putL name (PyData.keyHash w.params name) (.str name s.toks) v es) (putN name es n)) := by
    rw [Heap.get?_update_self _ hdx (by rw [putName_dict]; rfl), putName_dict]
  refine wpAny_bind (wpAny_pure (wpAny_bind (wpAny_bind (wpAny_loadPart hx (wpAny_bind ((looks_clsIn X hc).here ?_))))))
  rw [hd']
  refine wpAny_pure (a := some dx) (wpAny_bind (wpAny_pure (wpAny_bind ?_)))
  unfold nsSet
  refine wpAny_bind (wpAny_bind (wpAny_askSetting (wpAny_pure (wpAny_bind (wpAny_mkText (wpAny_bind (wpAny_loadPart hdx ?_)))))))
  dsimp only
  have c : (!es.toArray.any (·.key.isStr name) && es.toArray.any (·.refKey)) = false := by
    rw [← Array.any_toList, ← Array.any_toList, hr, Bool.and_false]
  rw [aRefKeyMayBeTheName_at, c]
  refine wpAny_updatePart hdx ?_
  refine wpAny_bind (wpAny_lookBehind D' (pastItsLine_dict (by rw [List.size_toArray, sizeLine_eq]; omega)) ?_)
  exact wpAny_pure h
end

section
variable {X : Cx} {A : Around} {env : Env} {fc : FC} {ρ ρ₁ ρ₂ : Rho} {σ σ₁ σ₂ σ₃ σ₄ : AH} {x y z : AV} {f g : Fl}

theorem Flds.noRef {μ : Mu} {fs : List (Nat × AV)} {es : List DictEntry} (f : Flds X μ fs es) : es.any (·.refKey) = false ∧ es.length = fs.length := by
  induction f with
  | nil => exact ⟨rfl, rfl⟩
  | cons _ _ _ ih => exact ⟨by rw [List.any_cons, ih.1]; rfl, congrArg Nat.succ ih.2⟩
theorem Flds.put {μ : Mu} (hn : X.atr.Nodup) {k : Nat} {w : Str} (hk : X.atr[k]? = some w) {v : AV} {u : Value} (hv : VR μ v u) {t : Tok} {fs : List (Nat × AV)} {es : List DictEntry} (f : Flds X μ fs es) :
    Flds X μ (putF k v fs) (putL w (PyData.keyHash X.w.params w) (.str w t) u es) := by
  induction f with
  | nil => exact .cons hk hv .nil
  | @cons k' v' fs x' t' y es hx hy hr ih =>
    by_cases e : k' = k
    · subst e
      cases hk.symm.trans hx
      simp only [putF, putL, if_true, Value.isStr, beq_self_eq_true]
      exact .cons hk hv hr
    · have hne : (x' == w) = false := beq_eq_false_iff_ne.mpr fun q => e (nodup_get hn (hx.trans (congrArg some q)) hk)
      simp only [putF, putL, e, if_false, Value.isStr, hne, Bool.false_eq_true]
      exact .cons hx hy ih
theorem putF_len {k : Nat} {v : AV} : ∀ fs : List (Nat × AV), (putF k v fs).length ≤ fs.length + 1
  | [] => Nat.le_refl _
  | (k', v') :: fs => by
    unfold putF
    split
    · simp
    · have := putF_len (k := k) (v := v) fs
      simp only [List.length_cons]; omega

theorem setAttr_ok (K : XOK X) {k : Nat} {w : Str} (hk : X.atr[k]? = some w) {μ : Mu} {s : Shared} {o u : Value} (H : HR X μ σ s.heap) (hx : VR μ x o) (hu : VR μ y u) (hr : setAttrH x k y σ = some σ₁) {Q : Unit → Shared → Prop}
    (hQ : ∀ h' tk, HR X μ σ₁ h' → Ext NoP μ σ s.heap μ σ₁ h' → Q () { s with heap := h', toks := tk }) : wpAny (model X.prog X.w) A (setAttr o w u) Q NoE s := by
  unfold setAttrH at hr
  split at hr
  · rename_i id
    split at hr
    · rename_i c fs hid
      split at hr
      · rename_i hl
        cases hr
        obtain ⟨p, hp, C, dx, es, n, hc, hd, h1, h2, hf⟩ := H.obj _ _ _ hid
        obtain ⟨p', hp', rfl⟩ := hx
        rw [hp] at hp'
        cases hp'
        have O := K.cls c C hc
        have hfoot : p.foot = [p.a, dx] := by simp [Pl.foot, hd]
        have hne : p.a ≠ dx := by
          intro e
          rw [e, h2] at h1
          cases h1
        refine set_plain (K.inK.keeps H.base) (inst_at h1 h2) O.seta ?_
        refine osa_heap (s := { s with toks := s.toks + 1 }) (K.inK.keeps H.base) h1 h2 O.over (O.take k w hk) O.dict hf.noRef.1 ?_ ?_
        · have a := (hf.put K.atr hk hu (t := s.toks + 1)).noRef.2
          have b := putF_len (k := k) (v := y) fs
          rw [a]
          have : fs.length ≤ 100 := hl
          omega
        · have D' : (s.heap.update dx (Obj.putName w (PyData.keyHash X.w.params w) (.str w (s.toks + 1)) u)).get? dx = some (dictOf (putL w (PyData.keyHash X.w.params w) (.str w (s.toks + 1)) u es) (putN w es n)) := by
            rw [Heap.get?_update_self _ h2 (by rw [putName_dict]; rfl), putName_dict]
          have kk : ∀ b o, b ≠ dx → s.heap.get? b = some o → (s.heap.update dx (Obj.putName w (PyData.keyHash X.w.params w) (.str w (s.toks + 1)) u)).get? b = some o := fun b o hb e => ((Heap.SameBut.update ..).2 b hb).trans e
          have k' : ∀ b o, b ∉ p.foot → s.heap.get? b = some o → (s.heap.update dx (Obj.putName w (PyData.keyHash X.w.params w) (.str w (s.toks + 1)) u)).get? b = some o :=
            fun b o hb => kk b o fun e => hb (by rw [hfoot, e]; simp)
          refine hQ _ _ (H.upd hid hp k' ⟨C, dx, _, _, hc, hd, kk _ _ hne h1, D', hf.put K.atr hk hu⟩) (Ext.upd hid hp k' fun b hb => ?_)
          rw [hfoot] at hb
          simp only [List.mem_cons, List.not_mem_nil, or_false] at hb
          rcases hb with rfl | rfl
          · exact ⟨_, kk _ _ hne h1⟩
          · exact ⟨_, D'⟩
      · cases hr
    · cases hr
  · cases hr

theorem setItem_ok {μ : Mu} {s : Shared} {o i u : Value} (H : HR X μ σ s.heap) (hx : VR μ x o) (hi : VR μ z i) (hu : VR μ y u) (hr : setItemH x z y σ = some σ₁) {Q : Unit → Shared → Prop}
    (hQ : ∀ h' tk, HR X μ σ₁ h' → Ext NoP μ σ s.heap μ σ₁ h' → Q () { s with heap := h', toks := tk }) : wpAny (model X.prog X.w) A (setItem o i u) Q NoE s := by
  unfold setItemH at hr
  split at hr
  · rename_i id k
    split at hr
    · rename_i xs hid
      split at hr
      · rename_i hc
        cases hr
        simp only [Bool.and_eq_true, decide_eq_true_eq, inN_iff] at hc
        obtain ⟨a, vs, rfl, p0, q0⟩ := H.lst hid hx
        obtain ⟨t, rfl⟩ := hi
        have hlen := q0.length
        refine setItem_plain p0 hc.1.1 (by omega) (by rw [List.size_toArray]; omega) fun h' hp hsb => ?_
        rw [List.setIfInBounds_toArray] at hp
        obtain ⟨c1, c2⟩ := HR.setL H hid hx hp (All2.set q0 hu) fun b o hb e => (hsb.2 b hb).trans e
        exact hQ _ _ c1 c2
      · cases hr
    · cases hr
  · cases hr

theorem SS.setA (K : XOK X) {o value : PySem.Expr} {w : Str} {pos' pos} {k : Nat} (hk : X.atr[k]? = some w) (hsw : swapsWith value (some (.Attribute o w pos')) pos.line env = pure false)
    (ha : SE X A env fc ρ (eval value env) σ y σ₁) (ho : SE X A env fc ρ (eval o env) σ₁ x σ₂) (hr : setAttrH x k y σ₂ = some σ₃) :
    SS X A env fc ρ (exec (.Assign [.Attribute o w pos'] value pos) env) σ .next ρ σ₃ := by
  intro μ s Q S hQ
  refine plainObj_wpAny_Assign_Attribute (ha.first S fun v h₁ tk₁ μ₁ r₁ S₁ x₁ => ho.first S₁ fun u h₂ tk₂ μ₂ r₂ S₂ x₂ => ?_) hsw
  exact setAttr_ok K hk S₂.toHR r₂ (r₁.mono x₂.pre) hr fun h₃ tk₃ H₃ x₃ => hQ _ _ _ _ rfl (S₂.after H₃ x₃) ((x₁.trans x₂).trans x₃.ofNo)
theorem SS.setI {o i value : PySem.Expr} {pos' pos} (hsw : swapsWith value (some (.Subscript o i pos')) pos.line env = pure false)
    (ha : SE X A env fc ρ (eval value env) σ y σ₁) (ho : SE X A env fc ρ (eval o env) σ₁ x σ₂) (hi : SE X A env fc ρ (eval i env) σ₂ z σ₃) (hr : setItemH x z y σ₃ = some σ₄) :
    SS X A env fc ρ (exec (.Assign [.Subscript o i pos'] value pos) env) σ .next ρ σ₄ := by
  intro μ s Q S hQ
  refine wpAny_Assign_Subscript (ha.first S fun v h₁ tk₁ μ₁ r₁ S₁ x₁ => ho.first S₁ fun u h₂ tk₂ μ₂ r₂ S₂ x₂ => hi.first S₂ fun j h₃ tk₃ μ₃ r₃ S₃ x₃ => ?_) hsw
  exact setItem_ok S₃.toHR (r₂.mono x₃.pre) r₃ (r₁.mono (x₂.pre.trans x₃.pre)) hr fun h₄ tk₄ H₄ x₄ => hQ _ _ _ _ rfl (S₃.after H₄ x₄) (((x₁.trans x₂).trans x₃).trans x₄.ofNo)
theorem SS.augA (K : XOK X) {o value : PySem.Expr} {w : Str} {pos' pos} {k : Nat} {op : BOp} {i j r : Int} (hk : X.atr[k]? = some w)
    (ho : SE X A env fc ρ (eval o env) σ x σ₁) (hg : attrV x k σ₁ = some (.int i)) (ha : SE X A env fc ρ (eval value env) σ₁ (.int j) σ₂) (hb : binV op i j = some r) (hr : setAttrH x k (.int r) σ₂ = some σ₃) :
    SS X A env fc ρ (exec (.AugAssign (.Attribute o w pos') (bop op) value pos) env) σ .next ρ σ₃ := by
  intro μ s Q S hQ
  refine wpAny_AugAssign_AttributeAny (ho.first S fun v h₁ tk₁ μ₁ r₁ S₁ x₁ => attr_ok K hk S₁.toHR r₁ hg fun u tk ru => ?_)
  obtain ⟨t, rfl⟩ := ru
  refine ha.first (s := { s with heap := h₁, toks := tk }) S₁ fun u h₂ tk₂ μ₂ r₂ S₂ x₂ => ?_
  obtain ⟨t', rfl⟩ := r₂
  refine binV_aug hb ?_
  exact setAttr_ok (y := .int r) K hk (s := { s with heap := h₂, toks := tk₂ + 1 }) S₂.toHR (r₁.mono x₂.pre) ⟨tk₂, rfl⟩ hr fun h₃ tk₃ H₃ x₃ => hQ _ _ _ _ rfl (S₂.after H₃ x₃) ((x₁.trans x₂).trans x₃.ofNo)
theorem augStore_plain {sl : PySem.Expr} (h : noSlice sl = true) (ov iv new : Value) : augStore sl ov iv new = (do holding [new, ov, iv] (setItem ov iv new); release [new, ov, iv] []; pure .next) := by
  unfold augStore
  split
  · cases h
  · rfl
theorem sub_getItem {μ : Mu} {s : Shared} {v u : Value} (H : HR X μ σ s.heap) (hx : VR μ x v) (hy : VR μ y u) (hr : subV x y σ = some z) {Q : Value → Shared → Prop}
    (hQ : ∀ u tk, VR μ z u → Q u { s with toks := tk }) : wpAny (model X.prog X.w) A (getItem v u) Q NoE s := by
  unfold subV at hr
  split at hr
  · rename_i id k
    obtain ⟨p, hp, rfl⟩ := hx
    obtain ⟨t, rfl⟩ := hy
    split at hr
    · rename_i m xs hid
      split at hr
      · rename_i c
        simp only [inN_iff] at c
        obtain ⟨q, hq, _, vs, hl, hv⟩ := H.obj _ _ _ hid
        rw [hp] at hq
        cases hq
        obtain ⟨w, hw, hzw⟩ := hv.get hr
        exact wpAny_getItem_list hl.isList c.1 (by omega) (by simpa using hw) (hQ _ _ hzw)
      · cases hr
    · rename_i m xs hid
      split at hr
      · rename_i c
        simp only [inN_iff] at c
        obtain ⟨q, hq, _, vs, hl, hv⟩ := H.obj _ _ _ hid
        rw [hp] at hq
        cases hq
        obtain ⟨w, hw, hzw⟩ := hv.get hr
        have hlt : k.toNat < vs.length := (List.getElem?_eq_some_iff.mp hw).1
        exact getItem_tuple hl (by omega) (by omega) (j := k.toNat) (seqIndex_in c.1 hlt) (by simpa using hw) (hQ _ _ hzw)
      · cases hr
    · rename_i m kvs hid
      obtain ⟨q, hq, _, hsm, es, hd, he⟩ := H.obj _ _ _ hid
      rw [hp] at hq
      cases hq
      obtain ⟨w, hw, hzw⟩ := ents_get he hr
      exact wpAny_getItem_of (knd := intKind X.prog X.w) (k := k) (by simp [intKind, Value.isInt]) hd.mapOf hw (hQ _ _ hzw)
    · cases hr
  · cases hr
theorem SS.augI {o e value : PySem.Expr} {pos' pos} {op : BOp} {i j r : Int} (hn : noSlice e = true)
    (ho : SE X A env fc ρ (eval o env) σ x σ₁) (hi : SE X A env fc ρ (eval e env) σ₁ z σ₂) (hg : subV x z σ₂ = some (.int i)) (ha : SE X A env fc ρ (eval value env) σ₂ (.int j) σ₃) (hb : binV op i j = some r) (hr : setItemH x z (.int r) σ₃ = some σ₄) :
    SS X A env fc ρ (exec (.AugAssign (.Subscript o e pos') (bop op) value pos) env) σ .next ρ σ₄ := by
  intro μ s Q S hQ
  refine wpAny_AugAssign_SubscriptAny (ho.first S fun v h₁ tk₁ μ₁ r₁ S₁ x₁ => hi.first S₁ fun j h₂ tk₂ μ₂ r₂ S₂ x₂ => ?_) (augStore_plain hn)
  refine sub_getItem S₂.toHR (r₁.mono x₂.pre) r₂ hg fun u tk ru => ?_
  obtain ⟨t, rfl⟩ := ru
  refine ha.first (s := { s with heap := h₂, toks := tk }) S₂ fun u h₃ tk₃ μ₃ r₃ S₃ x₃ => ?_
  obtain ⟨t', rfl⟩ := r₃
  refine binV_aug hb ?_
  exact setItem_ok (y := .int r) (s := { s with heap := h₃, toks := tk₃ + 1 }) S₃.toHR (r₁.mono (x₂.pre.trans x₃.pre)) (r₂.mono x₃.pre) ⟨tk₃, rfl⟩ hr fun h₄ tk₄ H₄ x₄ => hQ _ _ _ _ rfl (S₃.after H₄ x₄) (((x₁.trans x₂).trans x₃).trans x₄.ofNo)
end
end Mine
namespace Mine
open PySem PySem.W PySem.Calls PyProof.Rows

/-! names that are bound together -/
noncomputable def slotIs (o : Option (Option (Str × Bool))) (w : Str) : Bool := onO o fun q => onO q fun p => p.1 == w
theorem slotIsK {o : Option (Option (Str × Bool))} {w : Str} {C : Prop} (h : slotIs o w = true) (k : ∀ b, o = some (some (w, b)) → C) : C := by
  refine onOE h fun q e h => ?_
  refine onOE h fun p e' h => ?_
  obtain ⟨x, b⟩ := p
  cases eq_of_beq (h : (x == w) = true)
  exact k b (e' ▸ e)
noncomputable def nameAt (fc : FC) (n : Nat) (e : PySem.Expr) : Bool := onName e fun w _ => slotIs fc.slots[n]? w
noncomputable def namesAt (fc : FC) : List Nat → List PySem.Expr → Bool
  | [], es => es.isEmpty
  | n :: ns, es => match es with
    | e :: es => nameAt fc n e && namesAt fc ns es
    | [] => false

@[elab_as_elim] theorem nameAtK {fc : FC} {n : Nat} {e : PySem.Expr} {M : PySem.Expr → Prop} (h : nameAt fc n e = true) (k : ∀ w pos b, fc.slots[n]? = some (some (w, b)) → M (.Name w pos)) : M e := by
  refine onNameK h fun w pos h => ?_
  exact slotIsK h fun b => k w pos b
@[elab_as_elim] theorem namesAtK {fc : FC} {n : Nat} {ns : List Nat} {es : List PySem.Expr} {M : List PySem.Expr → Prop} (h : namesAt fc (n :: ns) es = true) (k : ∀ w pos b es, fc.slots[n]? = some (some (w, b)) → namesAt fc ns es = true → M (.Name w pos :: es)) : M es := by
  cases es with
  | nil => cases h
  | cons e es =>
    refine andK h fun h1 h2 => ?_
    refine nameAtK h1 fun w pos b hs => ?_
    exact k w pos b es hs h2
theorem namesAt_each {fc : FC} {env : Env} : ∀ {ns : List Nat} {es : List PySem.Expr}, namesAt fc ns es = true →
    (assignEach es env).map (·.2) = es.map (fun e => assign e env) ∧ (assignEach es env).findIdx? (·.1) = none ∧ (assignEach es env).length = ns.length := by
  intro ns
  induction ns with
  | nil =>
    intro es h
    refine nilK h ?_
    exact ⟨rfl, rfl, rfl⟩
  | cons n ns ih =>
    intro es h
    refine namesAtK h fun w pos b es _ h => ?_
    obtain ⟨h1, h2, h3⟩ := ih h
    have e1 : assignEach (.Name w pos :: es) env = (false, assign (.Name w pos) env) :: assignEach es env := rfl
    rw [e1]
    refine ⟨congrArg (assign (.Name w pos) env :: ·) h1, ?_, congrArg Nat.succ h3⟩
    rw [List.findIdx?_cons, h2]; rfl

section
variable {X : Cx} {A : Around} {env : Env} {fc : FC} {ρ ρ₁ ρ₂ : Rho} {σ σ₁ σ₂ σ₃ σ₄ : AH} {x y z : AV} {f g : Fl}

noncomputable abbrev setAll (ns : List Nat) (vs : List AV) (ρ : Rho) : Rho := (ns.zip vs).foldl (fun ρ p => ρ.set p.1 (some p.2)) ρ

theorem assignNames (e : EnvOK env fc) {μ : Mu} {vs : List AV} {us : List Value} (hv : All2 (VR μ) vs us) : ∀ (ns : List Nat) (es : List PySem.Expr) (ρ : Rho) (s : Shared) (Q : Unit → Shared → Prop), namesAt fc ns es = true → vs.length = ns.length → Sta X env fc ρ μ σ s.heap →
    (∀ h' tk, Sta X env fc (setAll ns vs ρ) μ σ h' → Ext (PF env) μ σ s.heap μ σ h' → Q () { s with heap := h', toks := tk }) → wpAny (model X.prog X.w) A (assignInOrder (es.map fun e => assign e env) us) Q NoE s := by
  induction hv with
  | nil =>
    intro ns es ρ s Q hn hl S hQ
    cases ns with
    | nil =>
      cases es with
      | nil => exact wpAny_pure (hQ _ _ S (Ext.refl ..))
      | cons _ _ => cases hn
    | cons _ _ => cases hl
  | cons hv _ ih =>
    intro ns es ρ s Q hn hl S hQ
    cases ns with
    | nil => cases hl
    | cons n ns =>
      rename_i us _
      refine namesAtK hn fun w pos b es hs h => ?_
      show wpAny _ _ (do holding us (assign (.Name w pos) env _); assignInOrder (es.map fun e => assign e env) us) Q NoE s
      refine wpAny_bind (wpAny_holding (wpAny_assign_Name (S.store e hs hv fun h₁ tk₁ S₁ x₁ => ?_)))
      exact ih ns es _ _ Q h (Nat.succ.inj hl) S₁ fun h₂ tk₂ S₂ x₂ => hQ _ _ S₂ (x₁.trans x₂)

theorem fresh_grows {h h' : Heap} (hx : Heap.ExtBut h.objs.size h h') : ∀ b o, h.get? b = some o → h'.get? b = some o := fun b o e => hx b o (fun q => by subst q; exact absurd (Heap.lt_size e) (Nat.lt_irrefl _)) e

theorem assignTuple_ok (e : EnvOK env fc) (hh : A.handled = none) {ns : List Nat} {es : List PySem.Expr} {k pos} {vs : List AV} {id : Nat} {m : Bool} {μ : Mu} {s : Shared} {u : Value} {Q : Unit → Shared → Prop} (hn : namesAt fc ns es = true) (hl : vs.length = ns.length)
    (S : Sta X env fc ρ μ σ s.heap) (hid : σ[id]? = some (m, .tup vs)) (hu : VR μ (.ref id) u)
    (hQ : ∀ h' tk, Sta X env fc (setAll ns vs ρ) μ σ h' → Ext (PF env) μ σ s.heap μ σ h' → Q () { s with heap := h', toks := tk }) : wpAny (model X.prog X.w) A (assign (.Tuple es k pos) env u) Q NoE s := by
  obtain ⟨a, us, rfl, t, q⟩ := S.toHR.tup hid hu
  obtain ⟨h1, h2, h3⟩ := namesAt_each (env := env) hn
  refine wpAny_assign_Tuple hh t (by rw [h3, List.size_toArray, ← q.length, hl]) h2 fun h' hx => ?_
  rw [h1]
  have g := fresh_grows hx
  exact assignNames e q ns es ρ { s with heap := h' } Q hn hl (S.grown g) fun h₂ tk₂ S₂ x₂ => hQ _ _ S₂ ((Ext.grown g).trans x₂)

theorem SS.asgT (e : EnvOK env fc) (hh : A.handled = none) {ns : List Nat} {es : List PySem.Expr} {k tpos value pos} {vs : List AV} {id : Nat} {m : Bool} (hn : namesAt fc ns es = true) (hl : vs.length = ns.length)
    (hs : swapsWithSole [.Tuple es k tpos] value pos.line env = pure false) (hw : swappedStores [.Tuple es k tpos] value env = pure none)
    (ha : SE X A env fc ρ (eval value env) σ (.ref id) σ₁) (hid : σ₁[id]? = some (m, .tup vs)) :
    SS X A env fc ρ (exec (.Assign [.Tuple es k tpos] value pos) env) σ .next (setAll ns vs ρ) σ₁ := by
  intro μ s Q S hQ
  refine Assign_Tuple (ha.first S fun v h₁ tk₁ μ₁ r₁ S₁ x₁ => ?_) hs hw
  exact assignTuple_ok e hh hn hl (s := { s with heap := h₁, toks := tk₁ }) S₁ hid r₁ fun h₂ tk₂ S₂ x₂ => hQ _ _ _ _ rfl S₂ (x₁.trans x₂)

theorem SS.asgT2 (e : EnvOK env fc) (hh : A.handled = none) {n n' : Nat} {w w' : Str} {b b' : Bool} {es : List PySem.Expr} {k tpos value pos} {v v' : AV} {id : Nat} {m : Bool} (hs1 : fc.slots[n]? = some (some (w, b))) (hs2 : fc.slots[n']? = some (some (w', b'))) (hne : n ≠ n')
    (hs : swapsWithSole [.Tuple es k tpos] value pos.line env = pure false) (hw : swappedStores [.Tuple es k tpos] value env = pure (some [w, w']))
    (ha : SE X A env fc ρ (eval value env) σ (.ref id) σ₁) (hid : σ₁[id]? = some (m, .tup [v, v'])) :
    SS X A env fc ρ (exec (.Assign [.Tuple es k tpos] value pos) env) σ .next (setAll [n, n'] [v, v'] ρ) σ₁ := by
  intro μ s Q S hQ
  refine Assign_Tuple_swapped (names := [w, w']) (ha.first S fun u h₁ tk₁ μ₁ r₁ S₁ x₁ => ?_) hs hw
  obtain ⟨a, us, rfl, t, q⟩ := S₁.toHR.tup hid r₁
  cases q with
  | cons q1 q =>
    cases q with
    | cons q2 q =>
      cases q
      rename_i u1 u2
      refine unpackItems_tuple (items := #[u1, u2]) hh t fun h' hx => ?_
      have g := fresh_grows hx
      show wpAny _ _ (do holding [u1] (bindName env w' u2); assignInOrder [fun n => bindName env w n] [u1]) _ _ _
      refine wpAny_bind (wpAny_holding (wpAny_bindName (Sta.store (s := { s with heap := h', toks := tk₁ }) e hs2 (S₁.grown g) q2 fun h₂ tk₂ S₂ x₂ => ?_)))
      show wpAny _ _ (do holding [] (bindName env w u1); assignInOrder [] []) _ _ _
      refine wpAny_bind (wpAny_holding (wpAny_bindName (Sta.store (s := { s with heap := h₂, toks := tk₂ }) e hs1 S₂ q1 fun h₃ tk₃ S₃ x₃ => wpAny_pure ?_)))
      refine hQ _ _ _ _ rfl ?_ (((x₁.trans (Ext.grown g)).trans x₂).trans x₃)
      have : setAll [n, n'] [v, v'] ρ = (ρ.set n' (some v')).set n (some v) := by
        simp only [setAll, List.zip_cons_cons, List.zip_nil_right, List.foldl_cons, List.foldl_nil]
        rw [List.set_comm _ _ hne]
      rw [this]
      exact S₃

/-! while -/
theorem while_ok {test : PySem.Expr} {body : List Stmt} {pos} {T : Rho → AH → Option (AV × AH)} {B : Rho → AH → Option (Fl × Rho × AH)}
    (ht : ∀ ρ σ x σ' b, T ρ σ = some (x, σ') → truth x = some b → STr X A env fc ρ (isTrue test env (eval test env)) σ b σ')
    (hb : ∀ ρ σ f ρ' σ', B ρ σ = some (f, ρ', σ') → SS X A env fc ρ (execs body env) σ f ρ' σ') {n : Nat} (hr : whileF T B n ρ σ = some (f, ρ₁, σ₁)) :
    SS X A env fc ρ (exec (.While test body [] pos) env) σ f ρ₁ σ₁ := by
  intro μ s Q S hQ
  refine wpAny_While (codeAny_whileLoop (fun n s' => ∃ ρ' σ' μ' h' tk, s' = { s with heap := h', toks := tk } ∧ Sta X env fc ρ' μ' σ' h' ∧ Ext (PF env) μ σ s.heap μ' σ' h' ∧ whileF T B n ρ' σ' = some (f, ρ₁, σ₁))
    (fun n s' I => ?_) n ⟨ρ, σ, μ, s.heap, s.toks, rfl, S, Ext.refl .., hr⟩)
  obtain ⟨ρ', σ', μ', h', tk, rfl, S', x', hr'⟩ := I
  cases n with
  | zero => cases hr'
  | succ n =>
    simp only [whileF, Option.bind_eq_some_iff] at hr'
    obtain ⟨⟨v, σ₂⟩, ht', b, hv, hr'⟩ := hr'
    refine (ht _ _ _ _ _ ht' hv).first (s := { s with heap := h', toks := tk }) S' fun h₂ tk₂ μ₂ S₂ x₂ => ?_
    cases b with
    | false =>
      simp only [Bool.false_eq_true, if_false, Option.some.injEq, Prod.mk.injEq] at hr'
      obtain ⟨rfl, rfl, rfl⟩ := hr'
      exact wpAny_execs_nil (hQ _ _ _ _ rfl S₂ (x'.trans x₂))
    | true =>
      simp only [if_true, Option.bind_eq_some_iff] at hr'
      obtain ⟨⟨f', ρ₃, σ₃⟩, hb', hr'⟩ := hr'
      refine (hb _ _ _ _ _ hb').then (s := { s with heap := h₂, toks := tk₂ }) S₂ fun g h₃ tk₃ μ₃ r₃ S₃ x₃ => ?_
      cases f' with
      | next =>
        cases r₃
        exact ⟨n, Nat.lt_succ_self _, _, _, _, _, _, rfl, S₃, (x'.trans x₂).trans x₃, hr'⟩
      | brk =>
        cases r₃
        simp only [Option.some.injEq, Prod.mk.injEq] at hr'
        obtain ⟨rfl, rfl, rfl⟩ := hr'
        exact hQ _ _ _ _ rfl S₃ ((x'.trans x₂).trans x₃)
      | ret v =>
        obtain ⟨u, rfl, hu⟩ := r₃
        simp only [Option.some.injEq, Prod.mk.injEq] at hr'
        obtain ⟨rfl, rfl, rfl⟩ := hr'
        exact hQ _ _ _ _ ⟨u, rfl, hu⟩ S₃ ((x'.trans x₂).trans x₃)

/-! for -/
theorem Sta.but {h h' : Heap} {μ : Mu} (S : Sta X env fc ρ μ σ h) {it : Addr} (h1 : ∀ (i : Nat) (p : Pl), μ[i]? = some p → it ∉ p.foot) (h2 : it ≠ env.locals) (h3 : ∀ x c, env.cells.lookup x = some c → it ≠ c) (h4 : X.h₀.get? it = none)
    (k : ∀ b o, b ≠ it → h.get? b = some o → h'.get? b = some o) : Sta X env fc ρ μ σ h' where
  toHR := S.toHR.but (fun i p b o hp hb e => k b o (fun q => h1 i p hp (q ▸ hb)) e) fun b o e0 => k b o (fun q => by subst q; rw [h4] at e0; cases e0) (S.base b o e0)
  ffree := S.ffree
  loc := let ⟨m, n, f⟩ := S.loc
    ⟨m, n.at' fun o e => k _ _ (fun q => h2 q.symm) e, f⟩
  lfree := S.lfree
  cel := fun i y e => let ⟨c, ov, a, b, f⟩ := S.cel i y e
    ⟨c, ov, a, (let ⟨o, e1, e2⟩ := b; ⟨o, k _ _ (fun q => h3 _ _ a q.symm) e1, e2⟩), f⟩
  cfree := fun y c e => let ⟨a, b, o, f⟩ := S.cfree y c e; ⟨a, b, o, k _ _ (fun q => h3 _ _ e q.symm) f⟩
  cinj := S.cinj
theorem Ext.but {P : Addr → Prop} {μ μ' : Mu} {h h' h'' : Heap} (E : Ext P μ σ h μ' σ' h') {it : Addr} (h1 : h.get? it = none) (k : ∀ b o, b ≠ it → h'.get? b = some o → h''.get? b = some o) : Ext P μ σ h μ' σ' h'' where
  pre := E.pre
  keep := fun b o hw hp e => k b o (fun q => by subst q; rw [h1] at e; cases e) (E.keep b o hw hp e)
  wr := E.wr
  alive := fun b o e => let ⟨o', e'⟩ := E.alive b o e; ⟨o', k b o' (fun q => by subst q; rw [h1] at e; cases e) e'⟩
  new := E.new

structure Wk (X : Cx) (A : Around) (it : Addr) (xs : List AV) (chk : AH → Bool) (C : Mu → Prop) (D : Nat → Obj → Prop) : Prop where
  item : ∀ (i : Nat) (v : AV) (μ : Mu) (σ : AH) (s : Shared) (o : Obj) (Q : Option Value → Shared → Prop), HR X μ σ s.heap → C μ → chk σ = true → s.heap.get? it = some o → D i o → xs[i]? = some v →
    (∀ u h' tk o', VR μ v u → h'.get? it = some o' → D (i + 1) o' → Heap.SameBut it s.heap h' → Q (some u) { s with heap := h', toks := tk }) → wpAny (model X.prog X.w) A (pyNext (.ref it)) Q NoE s
  stop : ∀ (μ : Mu) (σ : AH) (s : Shared) (o : Obj) (Q : Option Value → Shared → Prop), HR X μ σ s.heap → C μ → chk σ = true → s.heap.get? it = some o → D xs.length o →
    (∀ h', Heap.ExtBut it s.heap h' → Q none { s with heap := h' }) → wpAny (model X.prog X.w) A (pyNext (.ref it)) Q NoE s
  go : ∀ i o, D i o → ∃ c vs, o.cls = .type c ∧ o.data = .fields vs ∧ ["enumerate", "zip", "dict_itemiterator", "dict_reverseitemiterator", "odict_iterator", "itertools.zip_longest", "itertools.pairwise"].contains c = false
  mono : ∀ μ μ', μ <+: μ' → C μ → C μ'

theorem letGo_ok {elts : List PySem.Expr} {x1} {pos : Pos} {I T : Addr} {M : Model} {s : Shared} {E : Value → Shared → Prop} {Q : Unit → Shared → Prop} {o : Obj} {c : String} {vs : Array Value} (ho : s.heap.get? I = some o) (hc : o.cls = .type c) (hd : o.data = .fields vs)
    (hn : ["enumerate", "zip", "dict_itemiterator", "dict_reverseitemiterator", "odict_iterator", "itertools.zip_longest", "itertools.pairwise"].contains c = false) (hQ : Q () s) :
    wpAny M A (letOwnedTupleGo (.Tuple elts x1 pos) (.ref I) (.ref T)) Q E s := by
  unfold letOwnedTupleGo
  refine wpAny_bind (wpAny_load ho ?_)
  rw [hc, hd]
  show wpAny _ A (if (["enumerate", "zip", "dict_itemiterator", "dict_reverseitemiterator", "odict_iterator", "itertools.zip_longest", "itertools.pairwise"].contains c && vs[0]? == some (rawInt T)) = true then _ else _) Q E s
  rw [hn, Bool.false_and, if_neg Bool.false_ne_true]
  exact wpAny_pure hQ

/-- a loop's target -/
noncomputable def Tgt (fc : FC) (ns : List Nat) (tu : Bool) (e : PySem.Expr) : Bool := if tu then onTup e fun es => namesAt fc ns es else on1 ns fun n => nameAt fc n e
theorem bindTK {ns : List Nat} {v : AV} {ρ ρ' : Rho} {s : AH} {C : Prop} (h : bindT ns true v ρ s = some ρ') (k : ∀ id m vs, v = .ref id → s[id]? = some (m, .tup vs) → vs.length = ns.length → (ns.zip vs).foldl (fun ρ p => ρ.set p.1 (some p.2)) ρ = ρ' → C) : C := by
  cases v with
  | ref a =>
    unfold bindT at h
    dsimp only at h
    cases q : s[a]? with
    | none => rw [q] at h; cases h
    | some o =>
      rw [q] at h
      obtain ⟨m, o⟩ := o
      cases o with
      | tup vs =>
        exact k a m vs rfl q (ifE h).1 (Option.some.inj (ifE h).2)
      | _ => cases h
  | _ => cases h
theorem tgt_ok (e : EnvOK env fc) (hh : A.handled = none) {ns : List Nat} {tu : Bool} {target : PySem.Expr} (ht : Tgt fc ns tu target = true) {it : Addr} {v : AV} {μ : Mu} {s : Shared} {u : Value} {o : Obj} {c : String} {vs : Array Value} {Q : Unit → Shared → Prop}
    (ho : s.heap.get? it = some o) (hc : o.cls = .type c) (hd : o.data = .fields vs)
    (hn : ["enumerate", "zip", "dict_itemiterator", "dict_reverseitemiterator", "odict_iterator", "itertools.zip_longest", "itertools.pairwise"].contains c = false)
    (S : Sta X env fc ρ μ σ s.heap) (hv : VR μ v u) (hb : bindT ns tu v ρ σ = some ρ₁)
    (hQ : ∀ h' tk, Sta X env fc ρ₁ μ σ h' → Ext (PF env) μ σ s.heap μ σ h' → Q () { s with heap := h', toks := tk }) :
    wpAny (model X.prog X.w) A (letOwnedTupleGo target (.ref it) u) (fun _ s' => wpAny (model X.prog X.w) A (assign target env u) Q NoE s') NoE s := by
  cases tu with
  | false =>
    revert hb
    refine on1K (l := ns) ht fun n ht hb => ?_
    cases hb
    refine nameAtK ht fun w p b hs => ?_
    exact wpAny_pure (wpAny_assign_Name (S.store e hs hv hQ))
  | true =>
    refine onTupK (e := target) ht fun es k p ht => ?_
    refine bindTK hb fun i m ws ev hid hl hr => ?_
    cases ev
    cases hr
    obtain ⟨q, hq, rfl⟩ := id hv
    exact letGo_ok ho hc hd hn (assignTuple_ok e hh ht hl S hid hv hQ)
end
end Mine
namespace Mine
open PySem PySem.W PySem.Calls PyProof.Rows

section
variable {X : Cx} {A : Around} {env : Env} {fc : FC} {ρ ρ₁ ρ₂ : Rho} {σ σ₁ σ₂ σ₃ σ₄ : AH} {x y z : AV} {f g : Fl}

theorem loop_ok (e : EnvOK env fc) (hh : A.handled = none) {it : Addr} {xs : List AV} {chk : AH → Bool} {C : Mu → Prop} {D : Nat → Obj → Prop} (W : Wk X A it xs chk C D) {ns : List Nat} {tu : Bool} {target : PySem.Expr} {body : List Stmt} {B : Rho → AH → Option (Fl × Rho × AH)}
    (ht : Tgt fc ns tu target = true) (hb : ∀ ρ σ f ρ' σ', B ρ σ = some (f, ρ', σ') → SS X A env fc ρ (execs body env) σ f ρ' σ')
    {μ₀ μ : Mu} {σ₀ : AH} {h₀ : Heap} {s : Shared} {R : Result → Shared → Prop} (hres : forF chk (bindT ns tu) B xs ρ σ = some (f, ρ₁, σ₁)) (S : Sta X env fc ρ μ σ s.heap) (x : Ext (PF env) μ₀ σ₀ h₀ μ σ s.heap)
    (hit : h₀.get? it = none) (hl : it ≠ env.locals) (hc : ∀ x c, env.cells.lookup x = some c → it ≠ c) (hX : X.h₀.get? it = none) (ho : ∃ o, s.heap.get? it = some o ∧ D 0 o) (hout : ∀ (i : Nat) (p : Pl), μ[i]? = some p → it ∉ p.foot) (hC : C μ)
    (hR : ∀ g h' tk μ', FR μ' f g → Sta X env fc ρ₁ μ' σ₁ h' → Ext (PF env) μ₀ σ₀ h₀ μ' σ₁ h' → R (.ok g) { s with heap := h', toks := tk }) :
    codeAny (model X.prog X.w) A (.forLoop target (.ref it) body [] env) R s := by
  refine codeAny_forLoop_any (fun n s' => ∃ i ρ' σ' μ' h' tk o, n + i = xs.length ∧ s' = { s with heap := h', toks := tk } ∧ Sta X env fc ρ' μ' σ' h' ∧ Ext (PF env) μ₀ σ₀ h₀ μ' σ' h' ∧ h'.get? it = some o ∧ D i o ∧
      (∀ (i : Nat) (p : Pl), μ'[i]? = some p → it ∉ p.foot) ∧ C μ' ∧ forF chk (bindT ns tu) B (xs.drop i) ρ' σ' = some (f, ρ₁, σ₁))
    (fun n s' I => ?_) xs.length (let ⟨o, h1, h2⟩ := ho; ⟨0, ρ, σ, μ, s.heap, s.toks, o, rfl, rfl, S, x, h1, h2, hout, hC, hres⟩)
  obtain ⟨i, ρ', σ', μ', h', tk, o, hn, rfl, S', x', ho', hD, hout', hC', hr'⟩ := I
  cases hxi : xs[i]? with
  | none =>
    have hle := List.getElem?_eq_none_iff.mp hxi
    have hi : i = xs.length := by omega
    rw [List.drop_of_length_le hle] at hr'
    simp only [forF] at hr'
    split at hr'
    · rename_i hck
      cases hr'
      subst hi
      refine wpAny_mono (W.stop μ' _ { s with heap := h', toks := tk } o _ S'.toHR hC' hck ho' hD fun h₂ hx => ?_) (fun _ _ q => q) fun _ _ q => q.elim
      refine wpAny_execs_nil (hR _ _ _ _ rfl (S'.but hout' hl hc hX fun b o hb e => hx b o hb e) (x'.but hit fun b o hb e => hx b o hb e))
    · cases hr'
  | some v =>
    have hlt := (List.getElem?_eq_some_iff.mp hxi).1
    have hd : xs.drop i = v :: xs.drop (i + 1) := by rw [List.drop_eq_getElem_cons hlt, (List.getElem?_eq_some_iff.mp hxi).2]
    rw [hd] at hr'
    simp only [forF] at hr'
    split at hr'
    · rename_i hck
      simp only [Option.bind_eq_some_iff] at hr'
      obtain ⟨ρ₃, hbd, ⟨f', ρ₄, σ₄⟩, hbo, hr'⟩ := hr'
      refine wpAny_mono (W.item i v μ' _ { s with heap := h', toks := tk } o _ S'.toHR hC' hck ho' hD hxi fun u h₂ tk₂ o₂ hu ho₂ hD₂ hsb => ?_) (fun _ _ q => q) fun _ _ q => q.elim
      have k : ∀ b o, b ≠ it → h'.get? b = some o → h₂.get? b = some o := fun b o hb e => (hsb.2 b hb).trans e
      have S₂ := S'.but hout' hl hc hX k
      have x₂ := x'.but hit k
      obtain ⟨c, vs, hcl, hda, hno⟩ := W.go _ _ hD₂
      refine wpAny_mono (tgt_ok e hh ht (s := { s with heap := h₂, toks := tk₂ }) ho₂ hcl hda hno S₂ hu hbd fun h₃ tk₃ S₃ x₃ => ?_) (fun _ _ q => wpAny_mono q (fun _ _ q => q) fun _ _ q => q.elim) fun _ _ q => q.elim
      have it3 : h₃.get? it = some o₂ := x₃.keep it o₂ (fun ⟨j, _, p, _, hp, hb⟩ => hout' j p hp hb) (fun q => q.elim hl fun ⟨y, hy⟩ => hc y it hy rfl) ho₂
      refine (hb _ _ _ _ _ hbo).then (s := { s with heap := h₃, toks := tk₃ }) S₃ fun g h₄ tk₄ μ₄ r₄ S₄ x₄ => ?_
      have it4 : h₄.get? it = some o₂ := x₄.keep it o₂ (fun ⟨j, _, p, _, hp, hb⟩ => hout' j p hp hb) (fun q => q.elim hl fun ⟨y, hy⟩ => hc y it hy rfl) it3
      have out4 : ∀ (i : Nat) (p : Pl), μ₄[i]? = some p → it ∉ p.foot := fun i p hp hb => (x₄.new i p it hp hb).elim (fun q => hout' i p q hb) fun q => by rw [it3] at q; cases q
      cases f' with
      | next =>
        cases r₄
        exact ⟨n - 1, by omega, i + 1, _, _, _, _, _, o₂, by omega, rfl, S₄, (x₂.trans x₃).trans x₄, it4, hD₂, out4, W.mono _ _ x₄.pre hC', hr'⟩
      | brk =>
        cases r₄
        cases hr'
        exact hR _ _ _ _ rfl S₄ ((x₂.trans x₃).trans x₄)
      | ret v =>
        obtain ⟨u, rfl, hu⟩ := r₄
        cases hr'
        exact hR _ _ _ _ ⟨u, rfl, hu⟩ S₄ ((x₂.trans x₃).trans x₄)
    · cases hr'

theorem wk_list (hh : A.handled = none) {it a : Addr} {id : Nat} {m : Bool} {xs : List AV} :
    Wk X A it xs (fun σ => σ[id]? == some (m, AO.lst xs)) (fun μ => VR μ (.ref id) (.ref a)) (fun i o => o.cls = .type "list_iterator" ∧ o.data = .fields #[.ref a, .int i 0]) where
  item := fun i v μ σ s o Q H hC hk ho hD hx hQ => by
    obtain ⟨a', us, e1, hl, q⟩ := H.lst (eq_of_beq hk) hC
    cases e1
    obtain ⟨u, hu, hv⟩ := q.get hx
    refine wpAny_pyNext_list_item ⟨o, ho, hD⟩ hl.isList (x := u) (by simpa using hu) fun h' hi hsb => ?_
    obtain ⟨o', ho', hD'⟩ := hi
    exact hQ u h' s.toks o' hv ho' (by simpa using hD') hsb
  stop := fun μ σ s o Q H hC hk ho hD hQ => by
    obtain ⟨a', us, e1, hl, q⟩ := H.lst (eq_of_beq hk) hC
    cases e1
    exact wpAny_pyNext_list_end hh ⟨o, ho, hD⟩ hl.isList (by simp [q.length]) hQ
  go := fun i o hD => ⟨_, _, hD.1, hD.2, by decide⟩
  mono := fun _ _ h q => q.mono h
theorem wk_tup (hh : A.handled = none) {it a : Addr} {id : Nat} {m : Bool} {xs : List AV} :
    Wk X A it xs (fun σ => σ[id]? == some (m, AO.tup xs)) (fun μ => VR μ (.ref id) (.ref a)) (fun i o => o.cls = .type "tuple_iterator" ∧ o.data = .fields #[.ref a, .int i 0]) where
  item := fun i v μ σ s o Q H hC hk ho hD hx hQ => by
    obtain ⟨a', us, e1, hl, q⟩ := H.tup (eq_of_beq hk) hC
    cases e1
    obtain ⟨u, hu, hv⟩ := q.get hx
    refine wpAny_pyNext_tuple_item ⟨o, ho, hD⟩ hl (x := u) (by simpa using hu) fun h' hi hsb => ?_
    obtain ⟨o', ho', hD'⟩ := hi
    exact hQ u h' s.toks o' hv ho' (by simpa using hD') hsb
  stop := fun μ σ s o Q H hC hk ho hD hQ => by
    obtain ⟨a', us, e1, hl, q⟩ := H.tup (eq_of_beq hk) hC
    cases e1
    exact wpAny_pyNext_tuple_end hh ⟨o, ho, hD⟩ hl (by simp [q.length]) hQ
  go := fun i o hD => ⟨_, _, hD.1, hD.2, by decide⟩
  mono := fun _ _ h q => q.mono h
theorem wk_rng (hh : A.handled = none) {it : Addr} {a b c : Int} {ns : List Int} (hr : rngList a b c = some ns) :
    Wk X A it (ns.map AV.int) (fun _ => true) (fun _ => True) (fun i o => o = { cls := .type "range_iterator", dict := none, data := .fields #[rawInt (a + i * c), rawInt (ns.length - i), rawInt c], slots := #[] }) where
  item := fun i v μ σ s o Q H hC hk ho hD hx hQ => by
    subst hD
    obtain ⟨f1, f2, f3, f4⟩ := rng_facts hr
    rw [List.getElem?_map, Option.map_eq_some_iff] at hx
    obtain ⟨n, hn, rfl⟩ := hx
    have hlt := (List.getElem?_eq_some_iff.mp hn).1
    rw [f3 i hlt] at hn
    cases hn
    refine wpAny_pyNext_range_item ho (by omega) fun h' hi hsb => ?_
    refine hQ _ h' _ _ ⟨s.toks, rfl⟩ hi ?_ hsb
    have e1 : a + i * c + c = a + ((i + 1 : Nat) : Int) * c := by
      rw [Int.natCast_add, Int.add_mul]; simp; omega
    have e2 : (ns.length : Int) - i - 1 = ns.length - ((i + 1 : Nat) : Int) := by omega
    rw [e1, e2]
  stop := fun μ σ s o Q H hC hk ho hD hQ => by
    subst hD
    rw [List.length_map] at ho
    exact wpAny_pyNext_range_end hh ho (by omega) hQ
  go := fun i o hD => by
    subst hD
    exact ⟨_, _, rfl, rfl, by decide⟩
  mono := fun _ _ _ _ => trivial

theorem for_ok (e : EnvOK env fc) (hh : A.handled = none) {ns : List Nat} {tu : Bool} {target iter : PySem.Expr} {body : List Stmt} {pos} {B : Rho → AH → Option (Fl × Rho × AH)} {id : Nat}
    (ht : Tgt fc ns tu target = true) (hb : ∀ ρ σ f ρ' σ', B ρ σ = some (f, ρ', σ') → SS X A env fc ρ (execs body env) σ f ρ' σ') (hs : ∀ x, foldedSetIterable iter env x = pure x)
    (ha : SE X A env fc ρ (eval iter env) σ (.ref id) σ₁)
    (hr : (match σ₁[id]? with
      | some (m, .lst xs) => if xs.length ≤ lim then forF (fun σ => σ[id]? == some (m, .lst xs)) (bindT ns tu) B xs ρ σ₁ else .none
      | some (m, .tup xs) => if xs.length ≤ lim then forF (fun σ => σ[id]? == some (m, .tup xs)) (bindT ns tu) B xs ρ σ₁ else .none
      | some (_, .rng x y s) => (rngList x y s).bind fun ks => forF (fun _ => true) (bindT ns tu) B (ks.map AV.int) ρ σ₁
      | _ => .none) = some (f, ρ₁, σ₂)) :
    SS X A env fc ρ (exec (.For target iter body [] pos) env) σ f ρ₁ σ₂ := by
  intro μ s Q S hQ
  refine wpAny_For (ha.first S fun v h₁ tk₁ μ₁ r₁ S₁ x₁ => ?_) hs
  have fresh : h₁.get? h₁.objs.size = none := by
    cases q : h₁.get? h₁.objs.size with
    | none => rfl
    | some o => exact absurd (Heap.lt_size q) (Nat.lt_irrefl _)
  have old : ∀ {b : Addr} {o : Obj}, h₁.get? b = some o → h₁.objs.size ≠ b := fun e q => by subst q; rw [fresh] at e; cases e
  have hl : h₁.objs.size ≠ env.locals := by
    obtain ⟨m, ⟨o, _, _, ho, _⟩, _⟩ := S₁.loc
    exact old ho
  have hc : ∀ x c, env.cells.lookup x = some c → h₁.objs.size ≠ c := fun y c hc => by
    obtain ⟨_, _, o, ho⟩ := S₁.cfree y c hc
    exact old ho
  have hX : X.h₀.get? h₁.objs.size = none := by
    cases q : X.h₀.get? h₁.objs.size with
    | none => rfl
    | some o => rw [S₁.base _ _ q] at fresh; cases fresh
  have hit : s.heap.get? h₁.objs.size = none := by
    cases q : s.heap.get? h₁.objs.size with
    | none => rfl
    | some o => obtain ⟨o', e'⟩ := x₁.alive _ _ q; rw [fresh] at e'; cases e'
  have hout : ∀ (i : Nat) (p : Pl), μ₁[i]? = some p → h₁.objs.size ∉ p.foot := fun i p hp hb => by
    obtain ⟨o, ho⟩ := S₁.toHR.live hp _ hb
    exact old ho rfl
  have grow : ∀ ob b o, h₁.get? b = some o → (h₁.push ob).get? b = some o := fun ob b o e => Heap.get?_push_of_some _ e
  split at hr
  · rename_i m xs hid
    split at hr
    · obtain ⟨a, us, rfl, hlst, q⟩ := S₁.toHR.lst hid r₁
      refine wpAny_pyIter_list hlst.isList ?_
      exact loop_ok e hh (wk_list (a := a) hh) ht hb hr (s := { s with heap := h₁.push _, toks := tk₁ }) (S₁.grown (grow _)) (x₁.trans (.grown (grow _))) hit hl hc hX ⟨_, Heap.get?_push_size _ rfl, rfl, rfl⟩ hout r₁ fun g h' tk μ' a b c => hQ _ _ _ _ a b c
    · cases hr
  · rename_i m xs hid
    split at hr
    · obtain ⟨a, us, rfl, hlst, q⟩ := S₁.toHR.tup hid r₁
      refine wpAny_pyIter_tuple hlst ?_
      exact loop_ok e hh (wk_tup (a := a) hh) ht hb hr (s := { s with heap := h₁.push _, toks := tk₁ }) (S₁.grown (grow _)) (x₁.trans (.grown (grow _))) hit hl hc hX ⟨_, Heap.get?_push_size _ rfl, rfl, rfl⟩ hout r₁ fun g h' tk μ' a b c => hQ _ _ _ _ a b c
    · cases hr
  · rename_i m a b c hid
    rw [Option.bind_eq_some_iff] at hr
    obtain ⟨ks, hks, hr⟩ := hr
    obtain ⟨r, t, u, w, rfl, hrg⟩ := S₁.toHR.rng hid r₁
    obtain ⟨f1, f2, f3, f4⟩ := rng_facts hks
    refine wpAny_pyIter_range hrg f1 ?_
    refine loop_ok e hh (wk_rng hh hks) ht hb hr (s := { s with heap := h₁.push _, toks := tk₁ }) (S₁.grown (grow _)) (x₁.trans (.grown (grow _))) hit hl hc hX ⟨_, Heap.get?_push_size _ rfl, ?_⟩ hout trivial fun g h' tk μ' a b c => hQ _ _ _ _ a b c
    rw [f2]
    simp
  · cases hr
end
end Mine
namespace Mine
open PySem PySem.W PySem.Calls PyProof.Rows

/-! ## Comprehensions -/

section
variable {X : Cx} {A : Around} {env : Env} {fc : FC} {ρ ρ₁ ρ₂ : Rho} {σ σ₁ σ₂ σ₃ σ₄ : AH} {x y z : AV} {f g : Fl}

theorem freeze_get {id : Nat} {m : Bool} {o : AO} (h : (freeze σ)[id]? = some (m, o)) : m = false ∧ ∃ m', σ[id]? = some (m', o) := by
  unfold freeze at h
  rw [List.getElem?_map, Option.map_eq_some_iff] at h
  obtain ⟨⟨m', o'⟩, h1, h2⟩ := h
  cases h2
  exact ⟨rfl, m', h1⟩
theorem no_wr {μ : Mu} {b : Addr} (w : Wr μ (freeze σ) b) : False := by
  obtain ⟨id, o, p, h, _⟩ := w
  cases (freeze_get h).1
theorem HR.freeze {μ : Mu} {h : Heap} (H : HR X μ σ h) : HR X μ (freeze σ) h where
  len := by rw [H.len]; simp [Mine.freeze]
  stat := H.stat
  obj := fun id m o e => let ⟨_, m', e'⟩ := freeze_get e; H.obj id m' o e'
  apart := H.apart
  frees := fun _ w => (no_wr w).elim
  base := H.base
theorem Ext.frozen {μ μ' : Mu} {h h' : Heap} (x : Ext NoP μ (freeze σ) h μ' σ' h') : ∀ b o, h.get? b = some o → h'.get? b = some o := fun b o e => x.keep b o (fun w => no_wr w) id e

theorem closureFor_of {scope : Scope} (f : Str → Addr) : ∀ {names : List (Str × NameKind)} (acc : List (Str × Addr)), (∀ y, (y, NameKind.free) ∈ names → env.cells.lookup y = some (f y)) →
    (forIn names acc fun (x : Str × NameKind) (cs : List (Str × Addr)) => if x.2 == .free then (do let a ← cellOf env x.1; pure (ForInStep.yield ((x.1, a) :: cs))) else pure (ForInStep.yield cs)) =
      (pure ((names.filterMap fun x => if x.2 == .free then some (x.1, f x.1) else none).reverse ++ acc) : Sem (List (Str × Addr)))
  | [], acc, _ => rfl
  | (n, k) :: r, acc, h => by
    rw [List.forIn_cons]
    cases hk : (k == NameKind.free) with
    | false =>
      simp only [hk, Bool.false_eq_true, if_false, pure_bind, List.filterMap_cons]
      exact closureFor_of (scope := scope) f acc fun y hy => h y (List.mem_cons_of_mem _ hy)
    | true =>
      have e := eq_of_beq hk
      subst e
      have hc : cellOf env n = pure (f n) := by unfold cellOf; rw [h n (List.mem_cons_self ..)]
      simp only [hk, if_true, hc, pure_bind, List.filterMap_cons, List.reverse_cons, List.append_assoc, List.cons_append, List.nil_append]
      exact closureFor_of (scope := scope) f ((n, f n) :: acc) fun y hy => h y (List.mem_cons_of_mem _ hy)

theorem closure_ok {scope : Scope} (f : Str → Addr) (h : ∀ y, (y, NameKind.free) ∈ scope.names → env.cells.lookup y = some (f y)) :
    closureFor scope env = pure (scope.names.filterMap fun x => if x.2 == .free then some (x.1, f x.1) else none).reverse := by
  have := closureFor_of (env := env) (scope := scope) f (names := scope.names) [] h
  rw [List.append_nil] at this
  rw [← this]
  simp only [closureFor]
  rw [bind_pure]

theorem lookup_mem {β : Type} {y : Str} {c : β} : ∀ {l : List (Str × β)}, l.lookup y = some c → (y, c) ∈ l
  | [], h => by cases h
  | (n, b) :: r, h => by
    cases e : y == n with
    | true =>
      rw [List.lookup_cons, e] at h
      cases h
      rw [eq_of_beq e]
      exact List.mem_cons_self ..
    | false =>
      rw [List.lookup_cons, e] at h
      exact List.mem_cons_of_mem _ (lookup_mem h)
theorem lookup_all {β : Type} {y : Str} {c : β} : ∀ {l : List (Str × β)}, (∀ d, (y, d) ∈ l → d = c) → (y, c) ∈ l → l.lookup y = some c
  | [], _, h => by cases h
  | (n, b) :: r, f, h => by
    cases e : y == n with
    | true =>
      have := eq_of_beq e
      subst this
      rw [List.lookup_cons, e]
      rw [f b (List.mem_cons_self ..)]
    | false =>
      rw [List.lookup_cons, e]
      refine lookup_all (fun d hd => f d (List.mem_cons_of_mem _ hd)) ?_
      rcases List.mem_cons.mp h with q | q
      · cases q
        rw [beq_self_eq_true] at e; cases e
      · exact q

/-- a comprehension's names -/
noncomputable def relabelN (fc : FC) (names : List (Str × NameKind)) : List (Str × NameKind) :=
  names.map fun (n, k) => if (k == .free && fc.names.lookup n == some .cell) then (n, .cell) else (n, k)
/-- a frame's view is sound -/
noncomputable def fcGood (fc : FC) : Bool :=
  (fc.slots.all fun
    | some (x, b) => fc.names.lookup x == some (if b then .cell else .local)
    | none => true) && decide (fc.slots.filterMap (·.map (·.1))).Nodup
theorem fcGood_inj {sl : List (Option (Str × Bool))} : (sl.filterMap (·.map (·.1))).Nodup → ∀ (i j : Nat) (x : Str) (b c : Bool), sl[i]? = some (some (x, b)) → sl[j]? = some (some (x, c)) → i = j := by
  induction sl with
  | nil => intro _ i j x b c h; simp at h
  | cons o r ih =>
    intro hn i j x b c hi hj
    have mem : ∀ {k : Nat} {b : Bool}, r[k]? = some (some (x, b)) → x ∈ r.filterMap (·.map (·.1)) := fun {k b} hk => List.mem_filterMap.mpr ⟨some (x, b), List.mem_of_getElem? hk, rfl⟩
    cases o with
    | none =>
      rw [List.filterMap_cons_none rfl] at hn
      cases i with
      | zero => simp at hi
      | succ i =>
        cases j with
        | zero => simp at hj
        | succ j => rw [ih hn i j x b c hi hj]
    | some p =>
      rw [List.filterMap_cons_some (f := fun o : Option (Str × Bool) => o.map (·.1)) (a := some p) (b := p.1) rfl, List.nodup_cons] at hn
      cases i with
      | zero =>
        simp only [List.getElem?_cons_zero, Option.some.injEq] at hi
        subst hi
        cases j with
        | zero => rfl
        | succ j => exact absurd (mem hj) hn.1
      | succ i =>
        cases j with
        | zero =>
          simp only [List.getElem?_cons_zero, Option.some.injEq] at hj
          subst hj
          exact absurd (mem hi) hn.1
        | succ j => rw [ih hn.2 i j x b c hi hj]
theorem fcGood_env {env : Env} {fc : FC} (h : fcGood fc = true) (hk : env.scope.kind = .function) (hg : env.globals = mainGlobals) (hb : env.builtins = builtinsNs) (hn : env.scope.names = fc.names) : EnvOK env fc := by
  have h := Bool.and_eq_true_iff.mp h
  have ha := List.all_eq_true.mp h.1
  refine ⟨hk, hg, hb, hn, fun i x e => ?_, fun i x e => ?_, fcGood_inj (of_decide_eq_true h.2)⟩
  · exact eq_of_beq (ha _ (List.mem_of_getElem? e))
  · exact eq_of_beq (ha _ (List.mem_of_getElem? e))

/-- a comprehension's scope -/
noncomputable def compScope (scope : Scope) : Bool :=
  scope.kind == .function && scope.names.all fun x => (x.2 == .local || x.2 == .free || x.2 == .globalImplicit) && scope.names.lookup x.1 == some x.2
/-- a comprehension's view of its frame -/
structure CompFC (fc fcC : FC) (scope : Scope) : Prop where
  good : fcGood fcC = true
  sc : compScope scope = true
  names : fcC.names = relabelN fc scope.names
  free : ∀ y, (y, NameKind.free) ∈ scope.names → ∃ i : Nat, fc.slots[i]? = some (some (y, true))
  slots : ∀ (i : Nat) (y : Str), fcC.slots[i]? = some (some (y, true)) → fc.slots[i]? = some (some (y, true)) ∧ (y, NameKind.free) ∈ scope.names
theorem compScope_kind {scope : Scope} (h : compScope scope = true) : scope.kind = .function := eq_of_beq (Bool.and_eq_true_iff.mp h).1
theorem compScope_lookup {scope : Scope} (h : compScope scope = true) : ∀ y ∈ scope.names, scope.names.lookup y.1 = some y.2 := fun y hy =>
  eq_of_beq (Bool.and_eq_true_iff.mp (List.all_eq_true.mp (Bool.and_eq_true_iff.mp h).2 y hy)).2
theorem compScope_cell {scope : Scope} (h : compScope scope = true) : ∀ y ∈ scope.names, y.2 ≠ .cell := fun y hy e => by
  have := (Bool.and_eq_true_iff.mp (List.all_eq_true.mp (Bool.and_eq_true_iff.mp h).2 y hy)).1
  rw [e] at this
  exact absurd this (by decide)

noncomputable def cellAt (env : Env) (y : Str) : Addr := (env.cells.lookup y).getD 0
noncomputable def closOf (scope : Scope) (env : Env) : List (Str × Addr) := (scope.names.filterMap fun x => if x.2 == .free then some (x.1, cellAt env x.1) else none).reverse

section
variable {fcC : FC} {scope : Scope} {μ : Mu} {h₁ h : Heap}
theorem CompFC.cellAt (C : CompFC fc fcC scope) (S : Sta X env fc ρ μ σ h) {y : Str} (hy : (y, NameKind.free) ∈ scope.names) : env.cells.lookup y = some (cellAt env y) := by
  obtain ⟨i, hi⟩ := C.free y hy
  obtain ⟨c, _, h1, _⟩ := S.cel i y hi
  unfold Mine.cellAt
  rw [h1]; rfl
theorem CompFC.closure (C : CompFC fc fcC scope) (S : Sta X env fc ρ μ σ h) : closureFor scope env = pure (closOf scope env) := closure_ok (Mine.cellAt env) fun _ hy => C.cellAt S hy
theorem closOf_lookup {y : Str} {c : Addr} (h : (closOf scope env).lookup y = some c) : c = Mine.cellAt env y ∧ (y, NameKind.free) ∈ scope.names := by
  have := lookup_mem h
  unfold closOf at this
  rw [List.mem_reverse, List.mem_filterMap] at this
  obtain ⟨⟨n, k⟩, h1, h2⟩ := this
  split at h2
  · rename_i hk
    cases h2
    have := eq_of_beq hk
    simp only at this
    subst this
    exact ⟨rfl, h1⟩
  · cases h2
theorem closOf_get {y : Str} (hy : (y, NameKind.free) ∈ scope.names) : (closOf scope env).lookup y = some (Mine.cellAt env y) := by
  refine lookup_all (fun d hd => ?_) ?_
  · unfold closOf at hd
    rw [List.mem_reverse, List.mem_filterMap] at hd
    obtain ⟨⟨n, k⟩, h1, h2⟩ := hd
    split at h2
    · cases h2; rfl
    · cases h2
  · unfold closOf
    rw [List.mem_reverse, List.mem_filterMap]
    exact ⟨(y, .free), hy, rfl⟩

theorem CompFC.envOK (C : CompFC fc fcC scope) (e : EnvOK env fc) (cl : List (Str × Addr)) (a : Addr) : EnvOK (compEnvC scope cl a env) fcC := by
  refine fcGood_env C.good (show scope.kind = .function from compScope_kind C.sc) e.glob e.blt ?_
  show (relabel scope env).names = _
  rw [C.names]
  unfold relabel relabelN
  refine List.map_congr_left fun ⟨n, k⟩ _ => ?_
  have : (env.scope.kind == ScopeKind.function) = true := by rw [e.kind]; rfl
  simp only [this, Bool.and_true]
  unfold Env.kindOf
  rw [e.names]

/-- the frame of a comprehension -/
theorem CompFC.inner (C : CompFC fc fcC scope) (S : Sta X env fc ρ μ σ h₁) (k : ∀ b o, h₁.get? b = some o → h.get? b = some o) {a : Addr} (ha : h₁.get? a = none) {m : Str → Option Value} (hns : h.Ns a m) {ρ' : Rho}
    (hl : ∀ (i : Nat) (y : Str) (v : AV), fcC.slots[i]? = some (some (y, false)) → ρ'[i]? = some (some v) → ∃ u, m y = some u ∧ VR μ v u)
    (hc : ∀ (i : Nat) (y : Str) (v : AV), fcC.slots[i]? = some (some (y, true)) → ρ'[i]? = some (some v) → ρ[i]? = some (some v)) :
    Sta X (compEnvC scope (closOf scope env) a env) fcC ρ' μ (freeze σ) h := by
  have S' := S.grown k
  have old : ∀ {b : Addr} {o : Obj}, h₁.get? b = some o → b ≠ a := fun e q => by subst q; rw [ha] at e; cases e
  refine ⟨S'.toHR.freeze, fun i p b hp hb => ⟨?_, fun y c hy => ?_⟩, ⟨m, hns, fun i v y h1 h2 => hl i y v h2 h1⟩, ?_, fun i y hi => ?_, fun y c hy => ?_, fun y y' c h1 h2 => ?_⟩
  · obtain ⟨o, ho⟩ := S.toHR.live hp b hb
    exact old ho
  · obtain ⟨rfl, hf⟩ := closOf_lookup hy
    exact (S.ffree i p b hp hb).2 y _ (C.cellAt S hf)
  · cases q : X.h₀.get? a with
    | none => exact q
    | some o => rw [S.base _ _ q] at ha; cases ha
  · obtain ⟨h1, h2⟩ := C.slots i y hi
    obtain ⟨c, ov, e1, e2, e3⟩ := S'.cel i y h1
    refine ⟨c, ov, ?_, e2, fun v hv => e3 v (hc i y v hi hv)⟩
    show (closOf scope env).lookup y = some c
    rw [closOf_get h2]
    unfold Mine.cellAt
    rw [e1]; rfl
  · obtain ⟨rfl, hf⟩ := closOf_lookup hy
    have hc' := C.cellAt S hf
    obtain ⟨h1, h2, o, h3⟩ := S.cfree y _ hc'
    exact ⟨h1, old h3, o, k _ _ h3⟩
  · obtain ⟨rfl, hf⟩ := closOf_lookup h1
    obtain ⟨e1, hf'⟩ := closOf_lookup h2
    exact S.cinj _ _ _ (C.cellAt S hf) (e1 ▸ C.cellAt S hf')
end
end
end Mine
namespace Mine
open PySem PySem.W PySem.Calls PyProof.Rows

noncomputable abbrev IL (ks : List Int) (vs : List Value) : Prop := All2 (fun (k : Int) v => ∃ t, v = Value.int k t) ks vs
theorem IL.vr {μ : Mu} : ∀ {ks : List Int} {vs : List Value}, IL ks vs → All2 (VR μ) (ks.map AV.int) vs
  | _, _, .nil => .nil
  | _, _, .cons h t => .cons h (IL.vr t)

structure Cst (h₁ : Heap) (acc C : Addr) (ks : List Int) (m : Str → Option Value) (h : Heap) : Prop where
  keep : ∀ b o, b ≠ acc → b ≠ C → h₁.get? b = some o → h.get? b = some o
  acc : ∃ vs : List Value, h.PlainList acc vs.toArray ∧ IL ks vs
  ns : h.Ns C m

inductive Em (P : AV → List Int → Prop) : List AV → List Int → Prop
  | nil : Em P [] []
  | cons {v vs is ks} : P v is → Em P vs ks → Em P (v :: vs) (is ++ ks)

noncomputable def TSpec (h₁ : Heap) (acc C : Addr) (x : Str) (s : Shared) (Z : (Str → Option Value) → Prop) (μ : Mu) (TW : (Shared → Prop) → Shared → Prop) (v : AV) (is : List Int) : Prop :=
  ∀ (h : Heap) (tk : Tok) (ks : List Int) (m : Str → Option Value) (u : Value) (Q : Shared → Prop), Cst h₁ acc C ks m h → Z m → m x = some u → VR μ v u → (ks ++ is).length ≤ lim →
    (∀ h' tk' m', Cst h₁ acc C (ks ++ is) m' h' → Z m' → (∀ b o, b ≠ acc → b ≠ C → h.get? b = some o → h'.get? b = some o) → Q { s with heap := h', toks := tk' }) → TW Q { s with heap := h, toks := tk }

noncomputable def Gen (X : Cx) (A : Around) (cenv : Env) (x : Str) (px : Pos) (it acc : Value) (e : PySem.Expr) (d : Nat) (R : Result → Shared → Prop) (TW : (Shared → Prop) → Shared → Prop) : Prop :=
  ∀ (I : Nat → Shared → Prop), (∀ n s, I n s → wpAny (model X.prog X.w) A (pyNext it) (fun r s₁ => match r with
      | none => R (.ok .next) s₁
      | some v => wpAny (model X.prog X.w) A (assign (.Name x px) cenv v) (fun _ s₂ => TW (fun s₃ => ∃ m, m < n ∧ I m s₃) s₂) NoE s₁) NoE s) →
    ∀ n s, I n s → codeAny (model X.prog X.w) A (.compLoop e d it acc cenv) R s

section
variable {X : Cx} {A : Around} {env : Env} {fc : FC} {ρ ρ₁ ρ₂ : Rho} {σ σ₁ σ₂ σ₃ σ₄ : AH} {x y z : AV} {f g : Fl}

theorem cloop {TW : (Shared → Prop) → Shared → Prop} {it acc C : Addr} {cenv : Env} {w : Str} {px : Pos} {e : PySem.Expr} {d : Nat} {R : Result → Shared → Prop} {s : Shared} {xs : List AV} {chk : AH → Bool} {Cm : Mu → Prop} {D : Nat → Obj → Prop} {μ μ' : Mu} {h₁ : Heap}
    {Z : (Str → Option Value) → Prop} {P : AV → List Int → Prop}
    (hgen : Gen X A cenv w px (.ref it) (.ref acc) e d R TW) (hCl : cenv.locals = C) (hkd : cenv.kindOf w = some .local) (hfn : cenv.scope.kind = .function)
    (W : Wk X A it xs chk Cm D) (H : HR X μ σ h₁) (hck : chk σ = true) (hCm : Cm μ) (feet : ∀ (i : Nat) (p : Pl), μ[i]? = some p → acc ∉ p.foot ∧ C ∉ p.foot) (hX : X.h₀.get? acc = none ∧ X.h₀.get? C = none)
    (hne : it ≠ acc ∧ it ≠ C ∧ acc ≠ C) (hit : h₁.get? it = none) (hT : ∀ v is (μ'' : Mu), P v is → μ'' = μ' → TSpec h₁ acc C w s Z μ' TW v is) (hμ : ∀ v u is, P v is → VR μ v u → VR μ' v u) (Zst : ∀ m u, Z m → Z (fun z => if z = w then some u else m z))
    {h : Heap} {tk : Tok} {ks : List Int} {m : Str → Option Value} {is : List Int} (c0 : Cst h₁ acc C ks m h) (Z0 : Z m) (ho : ∃ o, h.get? it = some o ∧ D 0 o) (hem : Em P xs is) (hlen : (ks ++ is).length ≤ lim)
    (hR : ∀ h' tk' m', Cst h₁ acc C (ks ++ is) m' h' → Z m' → (∀ b o, b ≠ acc → b ≠ C → b ≠ it → h.get? b = some o → h'.get? b = some o) → R (.ok .next) { s with heap := h', toks := tk' }) :
    codeAny (model X.prog X.w) A (.compLoop e d (.ref it) (.ref acc) cenv) R { s with heap := h, toks := tk } := by
  refine hgen (fun n s' => ∃ i ks' rest h' tk' m' o, n + i = xs.length ∧ s' = { s with heap := h', toks := tk' } ∧ Cst h₁ acc C ks' m' h' ∧ Z m' ∧ h'.get? it = some o ∧ D i o ∧ Em P (xs.drop i) rest ∧ ks' ++ rest = ks ++ is ∧
      (∀ b o, b ≠ acc → b ≠ C → b ≠ it → h.get? b = some o → h'.get? b = some o))
    (fun n s' I => ?_) xs.length _ (let ⟨o, h1, h2⟩ := ho; ⟨0, ks, is, h, tk, m, o, rfl, rfl, c0, Z0, h1, h2, hem, rfl, fun _ _ _ _ _ e => e⟩)
  obtain ⟨i, ks', rest, h', tk', m', o, hn, rfl, c, hZ, ho', hD, hem', hks, hk⟩ := I
  have H' : HR X μ σ h' := H.but (fun i p b o hp hb e => c.keep b o (fun q => (feet i p hp).1 (q ▸ hb)) (fun q => (feet i p hp).2 (q ▸ hb)) e)
    fun b o e0 => c.keep b o (fun q => by subst q; rw [hX.1] at e0; cases e0) (fun q => by subst q; rw [hX.2] at e0; cases e0) (H.base b o e0)
  cases hxi : xs[i]? with
  | none =>
    have hle := List.getElem?_eq_none_iff.mp hxi
    have hi : i = xs.length := by omega
    subst hi
    rw [List.drop_length] at hem'
    cases hem'
    rw [List.append_nil] at hks
    subst hks
    refine wpAny_mono (W.stop μ σ { s with heap := h', toks := tk' } o _ H' hCm hck ho' hD fun h₂ hx => ?_) (fun _ _ q => q) fun _ _ q => q.elim
    obtain ⟨vs, hv1, hv2⟩ := c.acc
    refine hR h₂ tk' m' ⟨fun b o h1 h2 e => ?_, ⟨vs, hv1.extBut hx hne.1.symm, hv2⟩, c.ns.at' fun o e => hx _ _ hne.2.1.symm e⟩ hZ fun b o h1 h2 h3 e => hx b o h3 (hk b o h1 h2 h3 e)
    exact hx b o (fun q => by subst q; rw [hit] at e; cases e) (c.keep b o h1 h2 e)
  | some v =>
    have hlt := (List.getElem?_eq_some_iff.mp hxi).1
    have hd : xs.drop i = v :: xs.drop (i + 1) := by rw [List.drop_eq_getElem_cons hlt, (List.getElem?_eq_some_iff.mp hxi).2]
    rw [hd] at hem'
    cases hem' with
    | cons hP hem' =>
      rename_i is' ks''
      refine wpAny_mono (W.item i v μ σ { s with heap := h', toks := tk' } o _ H' hCm hck ho' hD hxi fun u h₂ tk₂ o₂ hu ho₂ hD₂ hsb => ?_) (fun _ _ q => q) fun _ _ q => q.elim
      have nsC : h₂.Ns cenv.locals m' := by rw [hCl]; exact c.ns.sameBut hsb hne.2.1.symm
      refine wpAny_assign_Name (wpAny_storeName_local hkd nsC (fun h₃ hn₃ hsb₃ => ?_) (by rw [hfn]; rfl))
      rw [hCl] at hn₃ hsb₃
      obtain ⟨vs, hv1, hv2⟩ := c.acc
      have k3 : ∀ b o, b ≠ C → b ≠ it → h'.get? b = some o → h₃.get? b = some o := fun b o h1 h2 e => (hsb₃.2 b h1).trans ((hsb.2 b h2).trans e)
      have c3 : Cst h₁ acc C ks' (fun z => if z = w then some u else m' z) h₃ :=
        ⟨fun b o h1 h2 e => k3 b o h2 (fun q => by subst q; rw [hit] at e; cases e) (c.keep b o h1 h2 e), ⟨vs, hv1.at fun o e => k3 _ o hne.2.2 hne.1.symm e, hv2⟩, hn₃⟩
      have it3 : h₃.get? it = some o₂ := (hsb₃.2 it hne.2.1).trans ho₂
      refine hT v is' _ hP rfl h₃ _ ks' _ u _ c3 (Zst _ _ hZ) (by simp) (hμ v u _ hP hu) ?_ fun h₄ tk₄ m₄ c4 Z4 k4 => ?_
      · have : ((ks' ++ is') ++ ks'').length ≤ lim := by rw [List.append_assoc, hks]; exact hlen
        rw [List.length_append] at this
        omega
      · refine ⟨n - 1, by omega, i + 1, ks' ++ is', ks'', h₄, tk₄, m₄, o₂, by omega, rfl, c4, Z4, k4 _ _ hne.1 hne.2.1 it3, hD₂, hem', by rw [List.append_assoc]; exact hks, fun b o h1 h2 h3 e => k4 b o h1 h2 (k3 b o h2 h3 (hk b o h1 h2 h3 e))⟩
end
end Mine
namespace Mine
open PySem PySem.W PySem.Calls PyProof.Rows

section
variable {X : Cx} {A : Around} {env : Env} {fc : FC} {ρ ρ₁ ρ₂ : Rho} {σ σ₁ σ₂ σ₃ σ₄ : AH} {x y z : AV} {f g : Fl}

noncomputable def WSelf (X : Cx) (A : Around) (it : Addr) (D : Nat → Obj → Prop) : Prop := ∀ (i : Nat) (o : Obj) (s : Shared) (Q : Value → Shared → Prop) (E : Value → Shared → Prop), s.heap.get? it = some o → D i o → Q (.ref it) s → wpAny (model X.prog X.w) A (pyIter (.ref it)) Q E s

theorem src_walk (hh : A.handled = none) {μ : Mu} {s : Shared} {u : Value} {vs : List AV} (H : HR X μ σ s.heap) (hu : VR μ x u) (hi : den.itemsOf x σ = some vs) {Q : Value → Shared → Prop}
    (hQ : ∀ (o : Obj) (chk : AH → Bool) (Cm : Mu → Prop) (D : Nat → Obj → Prop), Wk X A s.heap.objs.size vs chk Cm D → WSelf X A s.heap.objs.size D → chk σ = true → Cm μ → D 0 o → o.isFreed = false → Q (.ref s.heap.objs.size) { s with heap := s.heap.push o }) :
    wpAny (model X.prog X.w) A (pyIter u) Q NoE s := by
  unfold den.itemsOf at hi
  split at hi
  · rename_i id
    split at hi
    · rename_i m xs hid
      split at hi
      · cases hi
        obtain ⟨a, us, rfl, hlst, q⟩ := H.lst hid hu
        refine wpAny_pyIter_list hlst.isList (hQ _ _ _ _ (wk_list (a := a) (id := id) (m := m) hh) (fun i o s Q E ho hD hq => wpAny_pyIter_listiter ⟨o, ho, hD⟩ hq) (by rw [hid]; exact beq_self_eq_true _) hu ⟨rfl, rfl⟩ rfl)
      · cases hi
    · rename_i m a b c hid
      rw [Option.map_eq_some_iff] at hi
      obtain ⟨ks, hks, rfl⟩ := hi
      obtain ⟨r, t, u, w, rfl, hrg⟩ := H.rng hid hu
      obtain ⟨f1, f2, f3, f4⟩ := rng_facts hks
      refine wpAny_pyIter_range hrg f1 ?_
      rw [f2]
      exact hQ _ _ _ _ (wk_rng hh hks) (fun i o s Q E ho hD hq => by subst hD; exact wpAny_pyIter_rangeiter ho hq) rfl trivial (by simp) rfl
    · cases hi
  · cases hi

noncomputable def appendW (X : Cx) (A : Around) (cenv : Env) (acc : Addr) (elt : PySem.Expr) (Q : Shared → Prop) (s : Shared) : Prop :=
  wpAny (model X.prog X.w) A (eval elt cenv) (fun x s₄ => wpAny (model X.prog X.w) A (call (.builtin "list.append") [.ref acc, x]) (fun _ s₅ => Q s₅) NoE s₄) NoE s
noncomputable def testsS (ifs : List PySem.Expr) (cenv : Env) : Sem Bool :=
  forIn ifs true fun c r => if r = true then do let ok ← isTrue c cenv (eval c cenv); pure (ForInStep.yield ok) else pure (ForInStep.yield r)
noncomputable def oneW (X : Cx) (A : Around) (cenv : Env) (acc : Addr) (ifs : List PySem.Expr) (elt : PySem.Expr) (Q : Shared → Prop) (s : Shared) : Prop :=
  wpAny (model X.prog X.w) A (testsS ifs cenv) (fun ok s₃ => if ok = true then appendW X A cenv acc elt Q s₃ else Q s₃) NoE s

theorem noE {α : Type} {M : Model} {t : Sem α} {Q : α → Shared → Prop} {E : Value → Shared → Prop} {s : Shared} (h : wpAny M A t Q NoE s) : wpAny M A t Q E s := wpAny_mono h (fun _ _ q => q) fun _ _ q => q.elim

theorem gen_one {cenv : Env} {w : Str} {px : Pos} {it acc : Addr} {elt iter : PySem.Expr} {ifs : List PySem.Expr} {scope : Scope} {pos : Pos} {R : Result → Shared → Prop} :
    Gen X A cenv w px (.ref it) (.ref acc) (.ListComp elt [⟨.Name w px, iter, ifs, 0⟩] scope pos) 0 R (oneW X A cenv acc ifs elt) := by
  intro I turn n s hI
  refine codeAny_compLoop_tests I (fun n s hI => noE (wpAny_mono (turn n s hI) (fun r s₁ h₁ => ?_) fun _ _ q => q)) n hI
  cases r with
  | none => exact h₁
  | some v =>
    refine noE (wpAny_mono h₁ (fun _ s₂ h₂ => noE (wpAny_mono h₂ (fun ok s₃ h₃ => ?_) fun _ _ q => q)) fun _ _ q => q)
    cases ok with
    | false => exact h₃
    | true => exact noE (wpAny_mono h₃ (fun x s₄ h₄ => noE (wpAny_mono h₄ (fun _ s₅ h₅ => h₅) fun _ _ q => q)) fun _ _ q => q)

theorem compTurn_in (elt t0 i0 target iter : PySem.Expr) (scope : Scope) (pos : Pos) (it acc : Value) (env : Env) :
    compTurn (.ListComp elt [⟨t0, i0, [], 0⟩, ⟨target, iter, [], 0⟩] scope pos) 1 it acc env = (standAt iter.pos >>= fun _ => pyNext it >>= fun r => match r with
      | none => pure (.done .next)
      | some v => letOwnedTupleGo target it v >>= fun _ => assign target env v >>= fun _ =>
        (eval elt env >>= fun x => call (.builtin "list.append") [acc, x] >>= fun _ => pure ()) >>= fun _ =>
          again (.compLoop (.ListComp elt [⟨t0, i0, [], 0⟩, ⟨target, iter, [], 0⟩] scope pos) 1 it acc env)) := by rfl
theorem compTurn_out (elt target iter t1 i1 : PySem.Expr) (scope : Scope) (pos : Pos) (it acc : Value) (env : Env) :
    compTurn (.ListComp elt [⟨target, iter, [], 0⟩, ⟨t1, i1, [], 0⟩] scope pos) 0 it acc env = (standAt iter.pos >>= fun _ => pyNext it >>= fun r => match r with
      | none => pure (.done .next)
      | some v => letOwnedTupleGo target it v >>= fun _ => assign target env v >>= fun _ =>
        eval i1 env >>= fun x => standAt i1.pos >>= fun _ => foldedSetIterable i1 env x >>= fun x => holding [x] (pyIter x) >>= fun it2 =>
          runOwn (.compStart (.ListComp elt [⟨target, iter, [], 0⟩, ⟨t1, i1, [], 0⟩] scope pos) 1 it2 acc env) env >>= fun _ =>
          again (.compLoop (.ListComp elt [⟨target, iter, [], 0⟩, ⟨t1, i1, [], 0⟩] scope pos) 0 it acc env)) := by rfl

theorem gen_in {cenv : Env} {w : Str} {px : Pos} {it acc : Addr} {elt iter t0 i0 : PySem.Expr} {scope : Scope} {pos : Pos} {R : Result → Shared → Prop} :
    Gen X A cenv w px (.ref it) (.ref acc) (.ListComp elt [⟨t0, i0, [], 0⟩, ⟨.Name w px, iter, [], 0⟩] scope pos) 1 R (appendW X A cenv acc elt) := by
  intro I turn n s hI
  refine codeAny_loop rfl I (fun n s hI => ?_) n hI
  show wpAny _ A ((compTurn (.ListComp elt [⟨t0, i0, [], 0⟩, ⟨.Name w px, iter, [], 0⟩] scope pos) 1 (.ref it) (.ref acc) cenv).onRaise (fun x => do noteFrame x cenv; theTreesLotGoes x)) _ _ s
  refine wpAny_noted ?_
  rw [compTurn_in]
  refine noE (wpAny_bind (wpAny_standAt (wpAny_bind (wpAny_mono (turn n s hI) (fun r s₁ h₁ => ?_) fun _ _ q => q))))
  cases r with
  | none => exact wpAny_pure h₁
  | some v =>
    refine wpAny_bind (wpAny_pure (a := ()) ?_)
    refine wpAny_bind (wpAny_mono h₁ (fun _ s₂ h₂ => wpAny_bind (wpAny_bind (wpAny_mono h₂ (fun x s₃ h₃ => wpAny_bind (wpAny_mono h₃ (fun _ s₄ h₄ => wpAny_pure (wpAny_pure ⟨rfl, h₄⟩)) fun _ _ q => q)) fun _ _ q => q))) fun _ _ q => q)

noncomputable def outW (X : Cx) (A : Around) (cenv : Env) (acc : Addr) (e i1 : PySem.Expr) (Q : Shared → Prop) (s : Shared) : Prop :=
  wpAny (model X.prog X.w) A (eval i1 cenv) (fun x s₃ => wpAny (model X.prog X.w) A (pyIter x) (fun it2 s₄ => codeAny (model X.prog X.w) A (.compStart e 1 it2 (.ref acc) cenv) (fun r s' => match r with | .ok _ => Q s' | .error _ => False) s₄) NoE s₃) NoE s

theorem gen_out {cenv : Env} {w : Str} {px : Pos} {it acc : Addr} {elt iter t1 i1 : PySem.Expr} {scope : Scope} {pos : Pos} {R : Result → Shared → Prop} (hs : ∀ x, foldedSetIterable i1 cenv x = pure x) :
    Gen X A cenv w px (.ref it) (.ref acc) (.ListComp elt [⟨.Name w px, iter, [], 0⟩, ⟨t1, i1, [], 0⟩] scope pos) 0 R (outW X A cenv acc (.ListComp elt [⟨.Name w px, iter, [], 0⟩, ⟨t1, i1, [], 0⟩] scope pos) i1) := by
  intro I turn n s hI
  refine codeAny_loop rfl I (fun n s hI => ?_) n hI
  show wpAny _ A ((compTurn (.ListComp elt [⟨.Name w px, iter, [], 0⟩, ⟨t1, i1, [], 0⟩] scope pos) 0 (.ref it) (.ref acc) cenv).onRaise (fun x => do noteFrame x cenv; theTreesLotGoes x)) _ _ s
  refine wpAny_noted ?_
  rw [compTurn_out]
  refine noE (wpAny_bind (wpAny_standAt (wpAny_bind (wpAny_mono (turn n s hI) (fun r s₁ h₁ => ?_) fun _ _ q => q))))
  cases r with
  | none => exact wpAny_pure h₁
  | some v =>
    refine wpAny_bind (wpAny_pure (a := ()) ?_)
    refine wpAny_bind (wpAny_mono h₁ (fun _ s₂ h₂ => wpAny_bind (wpAny_mono h₂ (fun x s₃ h₃ => wpAny_bind (wpAny_standAt (wpAny_bind (wpAny_of_eq (hs x) (wpAny_bind (wpAny_holding (wpAny_mono h₃ (fun it2 s₄ h₄ => ?_) fun _ _ q => q))))))) fun _ _ q => q)) fun _ _ q => q)
    refine wpAny_bind (wpAny_runOwn (codeAny_mono h₄ fun r s₅ h₅ => ?_))
    cases r with
    | ok f => exact wpAny_pure ⟨rfl, h₅⟩
    | error e => exact h₅.elim

theorem start_in {cenv : Env} {elt t0 i0 target iter : PySem.Expr} {scope : Scope} {pos : Pos} {it acc : Value} {R : Result → Shared → Prop} {s : Shared}
    (h0 : codeAny (model X.prog X.w) A (.compLoop (.ListComp elt [⟨t0, i0, [], 0⟩, ⟨target, iter, [], 0⟩] scope pos) 1 it acc cenv) R s)
    (h : wpAny (model X.prog X.w) A (pyIter it) (fun it' s' => codeAny (model X.prog X.w) A (.compLoop (.ListComp elt [⟨t0, i0, [], 0⟩, ⟨target, iter, [], 0⟩] scope pos) 1 it' acc cenv) R s') NoE s) :
    codeAny (model X.prog X.w) A (.compStart (.ListComp elt [⟨t0, i0, [], 0⟩, ⟨target, iter, [], 0⟩] scope pos) 1 it acc cenv) R s := by
  refine codeAny_of_tree ?_
  show wpAny _ _ ((compStart (.ListComp elt [⟨t0, i0, [], 0⟩, ⟨target, iter, [], 0⟩] scope pos) 1 it acc cenv).onRaise (fun x => do noteFrame x cenv; standAt theWindowsPlace)) _ _ s
  refine wpAny_notedAt ?_
  unfold compStart
  show wpAny _ _ (ask >>= _) _ _ s
  refine wpAny_bind (wpAny_askSetting (wpAny_ite ?_))
  split
  · first
      | exact wpAny_bind (wpAny_pure (wpAny_pure (And.intro rfl h0)))
      | exact wpAny_pure (And.intro rfl h0)
  · first
      | exact wpAny_bind (wpAny_rule (wpAny_bind (wpAny_standAt (wpAny_bind (wpAny_mono h (fun it' s' h' => wpAny_pure (And.intro rfl h')) fun _ _ x => x.elim)))))
      | (refine wpAny_bind (wpAny_rule ?_); show wpAny _ _ (standAt iter.pos >>= _) _ _ s; exact wpAny_bind (wpAny_standAt (wpAny_bind (wpAny_mono h (fun it' s' h' => wpAny_pure (And.intro rfl h')) fun _ _ x => x.elim))))
end
end Mine
namespace Mine
open PySem PySem.W PySem.Calls PyProof.Rows

section
variable {X : Cx} {A : Around} {env : Env} {fc fcC : FC} {ρ ρ₁ ρ₂ : Rho} {σ σ₁ σ₂ σ₃ σ₄ : AH} {x y z : AV} {f g : Fl} {scope : Scope} {μ : Mu}

theorem EnvOK.kindOf {env : Env} {fc : FC} (e : EnvOK env fc) {n : Nat} {w : Str} (h : fc.slots[n]? = some (some (w, false))) : env.kindOf w = some .local := by
  unfold Env.kindOf
  rw [e.names]
  exact e.code _ _ h

theorem appendW_ok {cenv : Env} {acc C : Addr} {h_b h : Heap} {ks : List Int} {m : Str → Option Value} {s : Shared} {tk : Tok} {elt : PySem.Expr} {i : Int} {Q : Shared → Prop} (c : Cst h_b acc C ks m h) (Sin : Sta X cenv fcC ρ μ (freeze σ) h)
    (he : SE X A cenv fcC ρ (eval elt cenv) (freeze σ) (.int i) σ₁) (hlen : (ks ++ [i]).length ≤ lim) (hne : acc ≠ C)
    (hQ : ∀ h' tk', Cst h_b acc C (ks ++ [i]) m h' → (∀ b o, b ≠ acc → h.get? b = some o → h'.get? b = some o) → Q { s with heap := h', toks := tk' }) :
    appendW X A cenv acc elt Q { s with heap := h, toks := tk } := by
  unfold appendW
  refine he.then Sin fun u h₂ tk₂ μ₂ r₂ S₂ x₂ => ?_
  have k2 := x₂.frozen
  obtain ⟨t, rfl⟩ := r₂
  obtain ⟨vs, hv1, hv2⟩ := c.acc
  have hl := hv2.length
  have := lim_line
  refine wpAny_list_append_plain (hv1.at fun o => k2 _ o) (fun h' hp hsb => ?_) (by rw [List.size_toArray]; simp at hlen; omega)
  have k3 : ∀ b o, b ≠ acc → h.get? b = some o → h'.get? b = some o := fun b o hb e => (hsb.2 b hb).trans (k2 b o e)
  refine hQ h' _ ⟨fun b o h1 h2 e => k3 b o h1 (c.keep b o h1 h2 e), ⟨vs ++ [.int i t], by rw [List.push_toArray] at hp; exact hp, All2.append (.cons ⟨t, rfl⟩ .nil) hv2⟩, c.ns.at' fun o e => k3 _ o hne.symm e⟩ k3

/-- a comprehension's tests -/
noncomputable def TE (X : Cx) (A : Around) (env : Env) (fc : FC) (ρ : Rho) (ifs : List PySem.Expr) (σ : AH) (b : Bool) : Prop :=
  ∀ (μ : Mu) (s : Shared) (Q : Bool → Shared → Prop), Sta X env fc ρ μ (freeze σ) s.heap → (∀ h' tk, (∀ a o, s.heap.get? a = some o → h'.get? a = some o) → Q b { s with heap := h', toks := tk }) →
    wpAny (model X.prog X.w) A (testsS ifs env) Q NoE s
theorem TE.nil : TE X A env fc ρ [] σ true := fun _ _ _ _ hQ => wpAny_pure (hQ _ _ fun _ _ e => e)
theorem tests_false (ifs : List PySem.Expr) (env : Env) : (forIn ifs false fun c r => if r = true then do let ok ← isTrue c env (eval c env); pure (ForInStep.yield ok) else pure (ForInStep.yield r) : Sem Bool) = pure false :=
  forIn_yield_id' ifs
where
  forIn_yield_id' : ∀ ifs : List PySem.Expr, (forIn ifs false fun c r => if r = true then do let ok ← isTrue c env (eval c env); pure (ForInStep.yield ok) else pure (ForInStep.yield r) : Sem Bool) = pure false
    | [] => rfl
    | c :: r => by
      rw [List.forIn_cons]
      simp only [Bool.false_eq_true, if_false, pure_bind]
      exact forIn_yield_id' r
theorem TE.stop {c : PySem.Expr} {r : List PySem.Expr} (ha : STr X A env fc ρ (isTrue c env (eval c env)) (freeze σ) false σ₁) : TE X A env fc ρ (c :: r) σ false := by
  intro μ s Q S hQ
  unfold testsS
  rw [List.forIn_cons]
  simp only [if_true]
  refine wpAny_bind (wpAny_bind (ha.then S fun h₁ tk₁ μ₁ S₁ x₁ => wpAny_pure ?_))
  show wpAny _ _ (forIn r false _) _ _ _
  rw [tests_false]
  exact wpAny_pure (hQ _ _ x₁.frozen)
theorem TE.go {c : PySem.Expr} {r : List PySem.Expr} {b : Bool} (ha : STr X A env fc ρ (isTrue c env (eval c env)) (freeze σ) true σ₁) (hb : TE X A env fc ρ r σ b) : TE X A env fc ρ (c :: r) σ b := by
  intro μ s Q S hQ
  unfold testsS
  rw [List.forIn_cons]
  simp only [if_true]
  refine wpAny_bind (wpAny_bind (ha.then S fun h₁ tk₁ μ₁ S₁ x₁ => wpAny_pure ?_))
  exact hb μ _ Q (S.grown x₁.frozen) fun h' tk k => hQ _ _ fun a o e => k a o (x₁.frozen a o e)

/-- what one variable's slot says of a comprehension's view -/
structure OneVar (fcC : FC) (n : Nat) (w : Str) : Prop where
  at_ : fcC.slots[n]? = some (some (w, false))
  only : ∀ (i : Nat) (y : Str), fcC.slots[i]? = some (some (y, false)) → i = n ∧ y = w
structure TwoVar (fcC : FC) (n n' : Nat) (w w' : Str) : Prop where
  at_ : fcC.slots[n]? = some (some (w, false))
  at' : fcC.slots[n']? = some (some (w', false))
  ne : n ≠ n'
  nw : w ≠ w'
  only : ∀ (i : Nat) (y : Str), fcC.slots[i]? = some (some (y, false)) → (i = n ∧ y = w) ∨ (i = n' ∧ y = w')

theorem Cst.all {h₁ h : Heap} {acc C : Addr} {ks : List Int} {m : Str → Option Value} (c : Cst h₁ acc C ks m h) (ha : h₁.get? acc = none) (hC : h₁.get? C = none) : ∀ b o, h₁.get? b = some o → h.get? b = some o :=
  fun b o e => c.keep b o (fun q => by subst q; rw [ha] at e; cases e) (fun q => by subst q; rw [hC] at e; cases e) e

theorem inner_one (CF : CompFC fc fcC scope) {n : Nat} {w : Str} (O : OneVar fcC n w) {s : Shared} (S : Sta X env fc ρ μ σ s.heap) {C : Addr} {h : Heap} (k : ∀ b o, s.heap.get? b = some o → h.get? b = some o) (hC : s.heap.get? C = none) {m : Str → Option Value} (hns : h.Ns C m) {v : AV} {u : Value} (hm : m w = some u) (hv : VR μ v u) :
    Sta X (compEnvC scope (closOf scope env) C env) fcC (ρ.set n (some v)) μ (freeze σ) h := by
  refine CF.inner S k hC hns (fun i y v' hi hr => ?_) fun i y v' hi hr => ?_
  · obtain ⟨rfl, rfl⟩ := O.only i y hi
    rcases set_get hr with ⟨_, rfl⟩ | ⟨h1, _⟩
    · exact ⟨u, hm, hv⟩
    · exact absurd rfl h1
  · rcases set_get hr with ⟨rfl, rfl⟩ | ⟨_, h2⟩
    · rw [O.at_] at hi; cases hi
    · exact h2

theorem tspec_one (CF : CompFC fc fcC scope) {n : Nat} {w : Str} (O : OneVar fcC n w) {s : Shared} (S : Sta X env fc ρ μ σ s.heap) {ifs : List PySem.Expr} {elt : PySem.Expr} {acc C : Addr} (ha : s.heap.get? acc = none) (hC : s.heap.get? C = none) (hne : acc ≠ C) {v : AV} {is : List Int}
    (hP : ∃ b, TE X A (compEnvC scope (closOf scope env) C env) fcC (ρ.set n (some v)) ifs σ b ∧
      if b then ∃ i σ', is = [i] ∧ SE X A (compEnvC scope (closOf scope env) C env) fcC (ρ.set n (some v)) (eval elt (compEnvC scope (closOf scope env) C env)) (freeze σ) (.int i) σ' else is = []) :
    TSpec s.heap acc C w s (fun _ => True) μ (oneW X A (compEnvC scope (closOf scope env) C env) acc ifs elt) v is := by
  intro h tk ks m u Q c _ hm hv hlen hQ
  obtain ⟨b, ht, hb⟩ := hP
  have Sin := inner_one CF O S (c.all ha hC) hC c.ns hm hv
  unfold oneW
  refine ht μ _ _ Sin fun h₂ tk₂ k2 => ?_
  obtain ⟨vs, hv1, hv2⟩ := c.acc
  have c2 : Cst s.heap acc C ks m h₂ := ⟨fun b o h1 h2 e => k2 _ _ (c.keep b o h1 h2 e), ⟨vs, hv1.at fun o => k2 _ o, hv2⟩, c.ns.at' fun o => k2 _ o⟩
  cases b with
  | false =>
    simp only [Bool.false_eq_true, if_false] at hb ⊢
    subst hb
    exact hQ h₂ tk₂ m (by rw [List.append_nil]; exact c2) trivial fun b o _ _ e => k2 b o e
  | true =>
    simp only [if_true] at hb ⊢
    obtain ⟨i, σ', rfl, he⟩ := hb
    exact appendW_ok c2 (Sin.grown k2) he hlen hne fun h' tk' c' k' => hQ h' tk' m c' trivial fun b o h1 _ e => k' b o h1 (k2 b o e)

theorem tspec_two (hh : A.handled = none) (CF : CompFC fc fcC scope) {n n' : Nat} {w w' : Str} (O : TwoVar fcC n n' w w') (EO : EnvOK env fc) {s : Shared} (S : Sta X env fc ρ μ σ s.heap) {elt iter i1 : PySem.Expr} {px px' pos : Pos} {acc C : Addr} (ha : s.heap.get? acc = none) (hC : s.heap.get? C = none) (hne : acc ≠ C) {v : AV} {is : List Int}
    {P2 : AV → List Int → Prop}
    (h2 : ∃ x2 σ2 us, SE X A (compEnvC scope (closOf scope env) C env) fcC ((ρ.set n (some v)).set n' none) (eval i1 (compEnvC scope (closOf scope env) C env)) (freeze σ) x2 σ2 ∧ den.itemsOf x2 σ2 = some us ∧ Em P2 us is)
    (hP2 : ∀ u is, P2 u is → (∃ j, u = .int j) ∧ ∃ i σ', is = [i] ∧ SE X A (compEnvC scope (closOf scope env) C env) fcC ((ρ.set n (some v)).set n' (some u)) (eval elt (compEnvC scope (closOf scope env) C env)) (freeze σ) (.int i) σ') :
    TSpec s.heap acc C w s (fun _ => True) μ (outW X A (compEnvC scope (closOf scope env) C env) acc (.ListComp elt [⟨.Name w px, iter, [], 0⟩, ⟨.Name w' px', i1, [], 0⟩] scope pos) i1) v is := by
  intro h tk ks m u Q c _ hm hv hlen hQ
  obtain ⟨x2, σ2, us, he2, hus, hem⟩ := h2
  have Sin : Sta X (compEnvC scope (closOf scope env) C env) fcC ((ρ.set n (some v)).set n' none) μ (freeze σ) h := by
    refine CF.inner S (c.all ha hC) hC c.ns (fun i y v' hi hr => ?_) fun i y v' hi hr => ?_
    · rcases O.only i y hi with ⟨rfl, rfl⟩ | ⟨rfl, rfl⟩
      · rw [List.getElem?_set_ne O.ne.symm] at hr
        rcases set_get hr with ⟨_, rfl⟩ | ⟨h1, _⟩
        · exact ⟨u, hm, hv⟩
        · exact absurd rfl h1
      · rw [List.getElem?_set_self'] at hr
        cases q : (ρ.set n (some v))[i]? with
        | none => rw [q] at hr; cases hr
        | some q' => rw [q] at hr; cases hr
    · have e1 : n' ≠ i := by rintro rfl; rw [O.at'] at hi; cases hi
      rw [List.getElem?_set_ne e1] at hr
      rcases set_get hr with ⟨rfl, rfl⟩ | ⟨_, h2⟩
      · rw [O.at_] at hi; cases hi
      · exact h2
  unfold outW
  refine he2.then (s := { s with heap := h, toks := tk }) Sin fun u2 h₂ tk₂ μ₂ r₂ S₂ x₂ => ?_
  have k2 := x₂.frozen
  refine src_walk hh (s := { s with heap := h₂, toks := tk₂ }) S₂.toHR r₂ hus fun o chk Cm D W hself hck hCm hD hof => ?_
  have fresh : h₂.get? h₂.objs.size = none := by
    cases q : h₂.get? h₂.objs.size with
    | none => rfl
    | some o => exact absurd (Heap.lt_size q) (Nat.lt_irrefl _)
  obtain ⟨vs, hv1, hv2⟩ := c.acc
  obtain ⟨nv, hvo⟩ := id hv1
  have hacc2 : ∃ o, h₂.get? acc = some o := ⟨_, k2 _ _ hvo⟩
  have hC2 : ∃ o, h₂.get? C = some o := by obtain ⟨o, _, _, ho, _⟩ := c.ns; exact ⟨o, k2 _ _ ho⟩
  have ne1 : h₂.objs.size ≠ acc := fun q => by obtain ⟨o, e⟩ := hacc2; rw [← q, fresh] at e; cases e
  have ne2 : h₂.objs.size ≠ C := fun q => by obtain ⟨o, e⟩ := hC2; rw [← q, fresh] at e; cases e
  have feet : ∀ (i : Nat) (p : Pl), μ₂[i]? = some p → acc ∉ p.foot ∧ C ∉ p.foot := fun i p hp => by
    have alive : ∀ b, (∃ o, h.get? b = some o) → s.heap.get? b = none → b ∉ p.foot := fun b ⟨o, e⟩ hb hb' => by
      rcases x₂.new i p b hp hb' with q | q
      · obtain ⟨o', e'⟩ := S.toHR.live q b hb'
        rw [hb] at e'; cases e'
      · rw [e] at q; cases q
    exact ⟨alive acc ⟨_, hvo⟩ ha, alive C (let ⟨o, _, _, ho, _⟩ := c.ns; ⟨o, ho⟩) hC⟩
  have base : ∀ b, s.heap.get? b = none → X.h₀.get? b = none := fun b hb => by
    cases q : X.h₀.get? b with
    | none => rfl
    | some o => rw [S.base _ _ q] at hb; cases hb
  have push : ∀ b o', h₂.get? b = some o' → (h₂.push o).get? b = some o' := fun b o' e => Heap.get?_push_of_some _ e
  have c0 : Cst h₂ acc C ks m (h₂.push o) := ⟨fun b o' _ _ e => push b o' e, ⟨vs, hv1.at fun o' e => push _ _ (k2 _ _ e), hv2⟩, c.ns.at' fun o' e => push _ _ (k2 _ _ e)⟩
  have loop : codeAny (model X.prog X.w) A (.compLoop (.ListComp elt [⟨.Name w px, iter, [], 0⟩, ⟨.Name w' px', i1, [], 0⟩] scope pos) 1 (.ref h₂.objs.size) (.ref acc) (compEnvC scope (closOf scope env) C env))
      (fun r s' => match r with | .ok _ => Q s' | .error _ => False) { s with heap := h₂.push o, toks := tk₂ } := by
    refine cloop (TW := appendW X A (compEnvC scope (closOf scope env) C env) acc elt) (μ := μ₂) (μ' := μ) (σ := σ2) (h₁ := h₂) (s := s) (C := C) (w := w') (px := px') (Z := fun m => m w = some u) (P := P2) (ks := ks) (m := m) (is := is)
      gen_in rfl ?_ (show scope.kind = .function from compScope_kind CF.sc) W S₂.toHR hck hCm feet ⟨base _ ha, base _ hC⟩ ⟨ne1, ne2, hne⟩ fresh ?_ ?_ (fun m u' hz => by simp only [O.nw, if_false]; exact hz) c0 hm ⟨o, Heap.get?_push_size _ hof, hD⟩ hem hlen fun h' tk' m' c' hz k' => ?_
    · exact EnvOK.kindOf (CF.envOK EO (closOf scope env) C) O.at'
    · intro v2 is2 μ3 hp e3
      obtain ⟨_, i, σ', rfl, he⟩ := hP2 v2 is2 hp
      intro h3 tk3 ks3 m3 u3 Q3 c3 hz3 hm3 hv3 hlen3 hQ3
      have kk : ∀ b o, s.heap.get? b = some o → h3.get? b = some o := fun b o' e => c3.keep b o' (fun q => by subst q; rw [ha] at e; cases e) (fun q => by subst q; rw [hC] at e; cases e) (k2 _ _ (c.all ha hC b o' e))
      have Sin3 : Sta X (compEnvC scope (closOf scope env) C env) fcC ((ρ.set n (some v)).set n' (some v2)) μ (freeze σ) h3 := by
        refine CF.inner S kk hC c3.ns (fun i y v' hi hr => ?_) fun i y v' hi hr => ?_
        · rcases O.only i y hi with ⟨rfl, rfl⟩ | ⟨rfl, rfl⟩
          · rw [List.getElem?_set_ne O.ne.symm] at hr
            rcases set_get hr with ⟨_, rfl⟩ | ⟨h1, _⟩
            · exact ⟨u, hz3, hv⟩
            · exact absurd rfl h1
          · rcases set_get hr with ⟨_, rfl⟩ | ⟨h1, _⟩
            · exact ⟨u3, hm3, hv3⟩
            · exact absurd rfl h1
        · have e1 : n' ≠ i := by rintro rfl; rw [O.at'] at hi; cases hi
          rw [List.getElem?_set_ne e1] at hr
          rcases set_get hr with ⟨rfl, rfl⟩ | ⟨_, h2⟩
          · rw [O.at_] at hi; cases hi
          · exact h2
      exact appendW_ok c3 Sin3 he hlen3 hne fun h' tk' c' k' => hQ3 h' tk' m3 c' hz3 fun b o h1 _ e => k' b o h1 e
    · intro v2 u' is2 hp hvu
      obtain ⟨⟨j, rfl⟩, _⟩ := hP2 v2 is2 hp
      exact hvu
    · have k4 : ∀ b o', b ≠ acc → b ≠ C → h.get? b = some o' → h'.get? b = some o' := fun b o' h1 h2 e => c'.keep b o' h1 h2 (k2 _ _ e)
      exact hQ h' tk' m' ⟨fun b o' h1 h2 e => k4 b o' h1 h2 (c.keep b o' h1 h2 e), c'.acc, c'.ns⟩ trivial k4
  exact start_in loop (hself 0 o _ _ _ (Heap.get?_push_size _ hof) hD loop)
end
end Mine
namespace Mine
open PySem PySem.W PySem.Calls PyProof.Rows

section
variable {X : Cx} {A : Around} {env : Env} {fc fcC : FC} {ρ ρ₁ ρ₂ : Rho} {σ σ₁ σ₂ σ₃ σ₄ : AH} {x y z : AV} {f g : Fl} {scope : Scope} {μ : Mu}

theorem neA {a b : Nat} (h : a < b ∨ b < a) : @Ne Addr a b := fun e => by have e : a = b := e; omega

theorem comp_block (EO : EnvOK env fc) (CF : CompFC fc fcC scope) {n : Nat} {w : Str} (hw : fcC.slots[n]? = some (some (w, false))) {s : Shared} (S : Sta X env fc ρ μ σ s.heap) {E : Value → Shared → Prop}
    {o : Obj} {chk : AH → Bool} {Cm : Mu → Prop} {D : Nat → Obj → Prop} {vs : List AV} (W : Wk X A s.heap.objs.size vs chk Cm D) (hself : WSelf X A s.heap.objs.size D) (hck : chk σ = true) (hCm : Cm μ) (hD : D 0 o) (hof : o.isFreed = false)
    {elt iter : PySem.Expr} {px pos : Pos} {ifs : List PySem.Expr} {rest : List Comprehension} {TW : Addr → Env → (Shared → Prop) → Shared → Prop}
    (hgen : ∀ it acc C R, Gen X A (compEnvC scope (closOf scope env) C env) w px (.ref it) (.ref acc) (.ListComp elt (⟨.Name w px, iter, ifs, 0⟩ :: rest) scope pos) 0 R (TW acc (compEnvC scope (closOf scope env) C env)))
    {P : AV → List Int → Prop} (hT : ∀ acc C, s.heap.get? acc = none → s.heap.get? C = none → acc ≠ C → ∀ v is, P v is → TSpec s.heap acc C w s (fun _ => True) μ (TW acc (compEnvC scope (closOf scope env) C env)) v is)
    {is : List Int} (hem : Em P vs is) (hlen : is.length ≤ lim) {RR : Value → Addr → Result → Shared → Prop}
    (hRR : ∀ acc C h' tk m, s.heap.get? acc = none → s.heap.get? C = none → acc ≠ C → (∀ b o, s.heap.get? b = some o → h'.get? b = some o) → (∃ us : List Value, h'.PlainList acc us.toArray ∧ IL is us) → h'.Ns C m → RR (.ref acc) C (.ok .next) { s with heap := h', toks := tk }) :
    wpAny (model X.prog X.w) A (newList []) (fun acc s₃ => wpAny (model X.prog X.w) A (newFunctionEnv scope env.globals (closOf scope env) [] env.qual none .none (some env)) (fun cenv s₄ =>
      codeAny (model X.prog X.w) A (.compStart (.ListComp elt (⟨.Name w px, iter, ifs, 0⟩ :: rest) scope pos) 0 (.ref s.heap.objs.size) acc { cenv with scope := relabel scope env }) (RR acc cenv.locals) s₄) E s₃) E { s with heap := s.heap.push o } := by
  refine wpAny_newObj_type (wpAny_newFunctionEnv (compScope_cell CF.sc) (by intro y hy; simp at hy) (fun h₁ hns₁ hsb₁ => ?_) (compScope_kind CF.sc))
  dsimp only at hns₁ hsb₁ ⊢
  generalize hH1 : s.heap.push o = H1 at hns₁ hsb₁ ⊢
  generalize hH2 : H1.push { cls := .type "list", dict := none, data := .seq ([] : List Value).toArray } = H2 at hns₁ hsb₁ ⊢
  have z1 : H1.objs.size = s.heap.objs.size + 1 := by rw [← hH1, Heap.size_push]
  have z2 : H2.objs.size = H1.objs.size + 1 := by rw [← hH2, Heap.size_push]
  have big : ∀ b, s.heap.objs.size ≤ b → s.heap.get? b = none := fun b hb => by
    cases e : s.heap.get? b with
    | none => rfl
    | some o => exact absurd (Heap.lt_size e) (Nat.not_lt.mpr hb)
  have k1 : ∀ b o, H1.get? b = some o → h₁.get? b = some o := fun b o e => by
    have e2 : H2.get? b = some o := by rw [← hH2]; exact Heap.get?_push_of_some _ e
    exact hsb₁.extBut b o (neA (.inl (Nat.lt_of_lt_of_le (Heap.lt_size e) (by rw [z2]; exact Nat.le_succ _)))) (Heap.get?_push_of_some _ e2)
  have k0 : ∀ b o, s.heap.get? b = some o → h₁.get? b = some o := fun b o' e => k1 b o' (by rw [← hH1]; exact Heap.get?_push_of_some _ e)
  have itAt : h₁.get? s.heap.objs.size = some o := k1 _ _ (by rw [← hH1]; exact Heap.get?_push_size _ hof)
  have hacc : h₁.PlainList H1.objs.size #[] := ⟨_, hsb₁.extBut _ _ (neA (.inl (by omega))) (Heap.get?_push_of_some _ (by rw [← hH2]; exact Heap.get?_push_size _ rfl))⟩
  have fa := big H1.objs.size (by omega)
  have fC := big H2.objs.size (by omega)
  have base : ∀ b, s.heap.get? b = none → X.h₀.get? b = none := fun b hb => by
    cases q : X.h₀.get? b with
    | none => rfl
    | some o => rw [S.base _ _ q] at hb; cases hb
  have feet : ∀ (i : Nat) (p : Pl), μ[i]? = some p → H1.objs.size ∉ p.foot ∧ H2.objs.size ∉ p.foot := fun i p hp => by
    constructor <;> intro hb <;> obtain ⟨o', e'⟩ := S.toHR.live hp _ hb
    · rw [fa] at e'; cases e'
    · rw [fC] at e'; cases e'
  have loop : ∀ tk, codeAny (model X.prog X.w) A (.compLoop (.ListComp elt (⟨.Name w px, iter, ifs, 0⟩ :: rest) scope pos) 0 (.ref s.heap.objs.size) (.ref H1.objs.size) (compEnvC scope (closOf scope env) H2.objs.size env))
      (RR (.ref H1.objs.size) H2.objs.size) { s with heap := h₁, toks := tk } := fun tk => by
    refine cloop (h₁ := s.heap) (μ' := μ) (C := H2.objs.size) (Z := fun _ => True) (P := P) (ks := []) (is := is) (hgen _ _ _ _) rfl (EnvOK.kindOf (CF.envOK EO (closOf scope env) H2.objs.size) hw)
      (show scope.kind = .function from compScope_kind CF.sc) W S.toHR hck hCm feet ⟨base _ fa, base _ fC⟩ ⟨neA (.inl (by omega)), neA (.inl (by omega)), neA (.inl (by omega))⟩ (big _ (Nat.le_refl _)) (fun v is μ3 hp e3 => hT _ _ fa fC (neA (.inl (by omega))) v is hp) (fun _ _ _ _ h => h)
      (fun _ _ _ => trivial) ⟨fun b o _ _ e => k0 b o e, ⟨[], hacc, .nil⟩, hns₁⟩ trivial ⟨o, itAt, hD⟩ hem hlen fun h' tk' m' c' _ k' => ?_
    exact hRR _ _ h' tk' m' fa fC (neA (.inl (by omega))) (c'.all fa fC) c'.acc c'.ns
  exact codeAny_compStart_list (loop _) (hself 0 o _ _ _ itAt hD (loop _))

/-- a list, told of -/
theorem told_list {s : Shared} {acc : Addr} {h' : Heap} {is : List Int} {us : List Value} (H : HR X μ σ s.heap) (ha : s.heap.get? acc = none) (k : ∀ b o, s.heap.get? b = some o → h'.get? b = some o) (hl : h'.PlainList acc us.toArray) (hi : IL is us) {P : Addr → Prop} :
    VR (μ ++ [⟨acc, none⟩]) (.ref σ.length) (.ref acc) ∧ HR X (μ ++ [⟨acc, none⟩]) (σ ++ [(true, .lst (is.map AV.int))]) h' ∧ Ext P μ σ s.heap (μ ++ [⟨acc, none⟩]) (σ ++ [(true, .lst (is.map AV.int))]) h' := by
  have hfr : ∀ b ∈ (⟨acc, none⟩ : Pl).foot, s.heap.get? b = none := fun b hb => by
    simp only [Pl.foot, Option.toList_none, List.mem_singleton] at hb
    subst hb; exact ha
  exact ⟨⟨⟨acc, none⟩, by rw [← H.len]; simp, rfl⟩, H.made k hfr ⟨rfl, us, hl, hi.vr⟩, Ext.made H k hfr⟩

theorem compScope_names (h : compScope scope = true) : ∀ y ∈ scope.names, y.2 = .local → scope.names.lookup y.1 = some .local := fun y hy e => by rw [compScope_lookup h y hy, e]

/-- a comprehension: what its source and its turns need -/
theorem SE.compG (hh : A.handled = none) (EO : EnvOK env fc) (CF : CompFC fc fcC scope) {n : Nat} {w : Str} (hw : fcC.slots[n]? = some (some (w, false)))
    {elt iter : PySem.Expr} {px pos : Pos} {ifs : List PySem.Expr} {rest : List Comprehension} {TW : Addr → Env → (Shared → Prop) → Shared → Prop} (hs : ∀ x, foldedSetIterable iter env x = pure x)
    (hgen : ∀ it acc C R, Gen X A (compEnvC scope (closOf scope env) C env) w px (.ref it) (.ref acc) (.ListComp elt (⟨.Name w px, iter, ifs, 0⟩ :: rest) scope pos) 0 R (TW acc (compEnvC scope (closOf scope env) C env)))
    (ha : SE X A env fc ρ (eval iter env) σ x σ₁) {vs : List AV} (hvs : den.itemsOf x σ₁ = some vs)
    {P : AV → List Int → Prop} (hT : ∀ (s : Shared) (μ : Mu), Sta X env fc ρ μ σ₁ s.heap → ∀ acc C, s.heap.get? acc = none → s.heap.get? C = none → acc ≠ C → ∀ v is, P v is → TSpec s.heap acc C w s (fun _ => True) μ (TW acc (compEnvC scope (closOf scope env) C env)) v is)
    {is : List Int} (hem : Em P vs is) (hlen : is.length ≤ lim) :
    SE X A env fc ρ (eval (.ListComp elt (⟨.Name w px, iter, ifs, 0⟩ :: rest) scope pos) env) σ (.ref σ₁.length) (σ₁ ++ [(true, .lst (is.map AV.int))]) := by
  intro μ s Q S hQ
  rw [eval_ListComp]
  refine wpAny_comprehension_free (use := none) rfl hs (CF.closure S) (compScope_kind CF.sc) (compScope_names CF.sc) (ha.then S fun xv h₁ tk₁ μ₁ r₁ S₁ x₁ => src_walk hh (s := { s with heap := h₁, toks := tk₁ }) S₁.toHR r₁ hvs fun o chk Cm D W hself hck hCm hD hof => ?_)
  refine comp_block (s := { s with heap := h₁, toks := tk₁ }) EO CF hw S₁ W hself hck hCm hD hof hgen (hT _ _ S₁) hem hlen (RR := fun acc C => compPost (model X.prog X.w) A NoE none Q acc C) ?_
  intro acc C h' tk m fa fC hne k ⟨us, hl, hi⟩ hns
  refine ⟨m, hns, fun h'' hs'' => ?_⟩
  have k' : ∀ b o, h₁.get? b = some o → h''.get? b = some o := fun b o e => hs''.extBut b o (by rintro rfl; rw [fC] at e; cases e) (k b o e)
  obtain ⟨a1, a2, a3⟩ := told_list (P := NoP) (s := { s with heap := h₁, toks := tk₁ }) S₁.toHR fa k' (hl.extBut hs''.extBut hne) hi
  exact hQ _ _ _ _ a1 a2 (x₁.trans a3)

/-- the same, when the name is bound before the variables are let go -/
theorem SS.asgCompG (hh : A.handled = none) (EO : EnvOK env fc) (CF : CompFC fc fcC scope) {n n₀ : Nat} {w w₀ : Str} (hw : fcC.slots[n]? = some (some (w, false))) {b₀ : Bool} (hw₀ : fc.slots[n₀]? = some (some (w₀, b₀)))
    {elt iter : PySem.Expr} {px py pos spos : Pos} {ifs : List PySem.Expr} {TW : Addr → Env → (Shared → Prop) → Shared → Prop} (hs : ∀ x, foldedSetIterable iter env x = pure x)
    (hsw : swapsWith (.ListComp elt [⟨.Name w px, iter, ifs, 0⟩] scope pos) (some (.Name w₀ py)) spos.line env = pure true)
    (hgen : ∀ it acc C R, Gen X A (compEnvC scope (closOf scope env) C env) w px (.ref it) (.ref acc) (.ListComp elt [⟨.Name w px, iter, ifs, 0⟩] scope pos) 0 R (TW acc (compEnvC scope (closOf scope env) C env)))
    (ha : SE X A env fc ρ (eval iter env) σ x σ₁) {vs : List AV} (hvs : den.itemsOf x σ₁ = some vs)
    {P : AV → List Int → Prop} (hT : ∀ (s : Shared) (μ : Mu), Sta X env fc ρ μ σ₁ s.heap → ∀ acc C, s.heap.get? acc = none → s.heap.get? C = none → acc ≠ C → ∀ v is, P v is → TSpec s.heap acc C w s (fun _ => True) μ (TW acc (compEnvC scope (closOf scope env) C env)) v is)
    {is : List Int} (hem : Em P vs is) (hlen : is.length ≤ lim) :
    SS X A env fc ρ (exec (.Assign [.Name w₀ py] (.ListComp elt [⟨.Name w px, iter, ifs, 0⟩] scope pos) spos) env) σ .next (ρ.set n₀ (some (.ref σ₁.length))) (σ₁ ++ [(true, .lst (is.map AV.int))]) := by
  intro μ s Q S hQ
  rw [exec_Assign_Name_used _ _ _ _ hsw]
  refine wpAny_bind (wpAny_standAt (wpAny_bind ?_))
  show wpAny _ A (do let _ ← comprehension (.ListComp elt [⟨.Name w px, iter, ifs, 0⟩] scope pos) scope env _ (newList []) false (eval iter env) (some (assign (.Name w₀ py) env))) _ _ s
  refine wpAny_bind (wpAny_mono (wpAny_comprehension_free (E := NoE) (use := some (assign (.Name w₀ py) env)) (Q := fun _ s' => Q .next s') rfl hs (CF.closure S) (compScope_kind CF.sc) (compScope_names CF.sc)
    (ha.then S fun xv h₁ tk₁ μ₁ r₁ S₁ x₁ => src_walk hh (s := { s with heap := h₁, toks := tk₁ }) S₁.toHR r₁ hvs fun o chk Cm D W hself hck hCm hD hof => ?_)) (fun _ s' hq => wpAny_pure (wpAny_pure hq)) fun _ _ e => e)
  refine comp_block (s := { s with heap := h₁, toks := tk₁ }) EO CF hw S₁ W hself hck hCm hD hof hgen (hT _ _ S₁) hem hlen (RR := fun acc C => compPost (model X.prog X.w) A NoE (some (assign (.Name w₀ py) env)) (fun _ s' => Q .next s') acc C) ?_
  intro acc C h' tk m fa fC hne k ⟨us, hl, hi⟩ hns
  obtain ⟨a1, a2, a3⟩ := told_list (P := NoP) (s := { s with heap := h₁, toks := tk₁ }) S₁.toHR fa k hl hi
  have old : ∀ b o, h₁.get? b = some o → C ≠ b := fun b o e q => by subst q; rw [fC] at e; cases e
  have cl : C ≠ env.locals := by obtain ⟨m, ⟨o, _, _, ho, _⟩, _⟩ := S₁.loc; exact old _ _ ho
  have cc : ∀ x c, env.cells.lookup x = some c → C ≠ c := fun y c hc => by obtain ⟨_, _, o, ho⟩ := S₁.cfree y c hc; exact old _ _ ho
  have out : ∀ (i : Nat) (p : Pl), (μ₁ ++ [⟨acc, none⟩])[i]? = some p → C ∉ p.foot := fun i p hp hb => by
    rcases getElem?_snoc hp with q | ⟨_, rfl⟩
    · obtain ⟨o, ho⟩ := S₁.toHR.live q _ hb
      exact old _ _ ho rfl
    · simp only [Pl.foot, Option.toList_none, List.mem_singleton] at hb
      exact hne hb.symm
  have hX : X.h₀.get? C = none := by
    cases q : X.h₀.get? C with
    | none => rfl
    | some o => rw [S₁.base _ _ q] at fC; cases fC
  show wpAny _ A (assign (.Name w₀ py) env (.ref acc)) _ _ _
  refine wpAny_assign_Name (Sta.store (s := { s with heap := h', toks := tk }) EO hw₀ (S₁.after a2 a3) a1 fun h₂ tk₂ S₂ x₂ => ?_)
  obtain ⟨oC, es, ep, hoC, hrest⟩ := hns
  have C2 : h₂.get? C = some oC := x₂.keep C oC (fun ⟨j, _, p, _, hp, hb⟩ => out j p hp hb) (fun q => q.elim cl fun ⟨y, hy⟩ => cc y C hy rfl) hoC
  refine ⟨m, ⟨oC, es, ep, C2, hrest⟩, fun h₃ hs₃ => ?_⟩
  have k3 : ∀ b o, b ≠ C → h₂.get? b = some o → h₃.get? b = some o := fun b o hb e => (hs₃.2 b hb).trans e
  exact hQ .next h₃ tk₂ _ rfl (S₂.but out cl cc hX k3) (((x₁.ofNo.trans a3.ofNo).trans x₂).but (by
    cases q : s.heap.get? C with
    | none => rfl
    | some o => obtain ⟨o', e'⟩ := x₁.alive _ _ q; rw [fC] at e'; cases e') k3)
end
end Mine
namespace Mine
open PySem PySem.W PySem.Calls PyProof.Rows

/-! ## What term of mine stands for what term of the program -/

structure Tab where
  gints : List (Str × Int)
  grefs : List (Str × Nat)
  atr : List Str
  clsn : List Str
  fns : List (Option Str × Addr)
  inits : List Addr

noncomputable def uop : UOp → PySem.UnaryOp
  | .neg => .USub
  | .inv => .Invert
  | .not => .Not
noncomputable def isGlob (fc : FC) (w : Str) : Bool := fc.names.lookup w == some .globalImplicit && w != ("__debug__" : Str)
noncomputable def isVar (fc : FC) (n : Nat) (e : PySem.Expr) : Bool := onName e fun w _ => slotIs fc.slots[n]? w && w != ("__debug__" : Str)
noncomputable def noSet : PySem.Expr → Bool
  | .Set .. => false
  | _ => true
noncomputable def isComp : PySem.Expr → Bool
  | .ListComp .. | .SetComp .. | .DictComp .. => true
  | _ => false

/-- a comprehension's view of a frame -/
noncomputable def compFC (fc : FC) (vars : List (Nat × Str)) (scope : Scope) : FC where
  slots := fc.slots.zipIdx.map fun p => match vars.lookup p.2 with
    | some w => some (w, false)
    | none => match p.1 with
      | some (y, true) => if scope.names.lookup y == some .free then some (y, true) else none
      | _ => none
  names := relabelN fc scope.names
  fns := fc.fns
noncomputable def compOK (fc : FC) (vars : List (Nat × Str)) (scope : Scope) : Bool :=
  fcGood (compFC fc vars scope) && compScope scope && (scope.names.all fun x => x.2 != .free || fc.slots.contains (some (x.1, true))) &&
    vars.all fun p => (compFC fc vars scope).slots[p.1]? == some (some (p.2, false))

theorem compFC_slot {fc : FC} {vars : List (Nat × Str)} {scope : Scope} {i : Nat} {y : Str} {b : Bool} (h : (compFC fc vars scope).slots[i]? = some (some (y, b))) :
    (b = false ∧ vars.lookup i = some y) ∨ (b = true ∧ fc.slots[i]? = some (some (y, true)) ∧ scope.names.lookup y = some .free) := by
  unfold compFC at h
  rw [List.getElem?_map, List.getElem?_zipIdx, Option.map_map, Option.map_eq_some_iff] at h
  obtain ⟨o, ho, h⟩ := h
  simp only [Function.comp, Nat.zero_add] at h
  split at h
  · rename_i w hw
    cases h
    exact .inl ⟨rfl, hw⟩
  · split at h
    · rename_i y'
      split at h
      · rename_i hy
        cases h
        exact .inr ⟨rfl, ho, eq_of_beq hy⟩
      · cases h
    · cases h
theorem compOK_fc {fc : FC} {vars : List (Nat × Str)} {scope : Scope} (h : compOK fc vars scope = true) : CompFC fc (compFC fc vars scope) scope := by
  unfold compOK at h
  simp only [Bool.and_eq_true] at h
  obtain ⟨⟨⟨h1, h2⟩, h3⟩, h4⟩ := h
  refine ⟨h1, h2, rfl, fun y hy => ?_, fun i y hi => ?_⟩
  · have := List.all_eq_true.mp h3 (y, .free) hy
    simp only [bne_self_eq_false, Bool.false_or, List.contains_iff_mem] at this
    obtain ⟨i, hi, e⟩ := List.getElem_of_mem this
    exact ⟨i, by rw [List.getElem?_eq_getElem hi, e]⟩
  · rcases compFC_slot hi with ⟨h, _⟩ | ⟨_, h5, h6⟩
    · cases h
    · exact ⟨h5, lookup_mem h6⟩
theorem compOK_one {fc : FC} {n : Nat} {w : Str} {scope : Scope} (h : compOK fc [(n, w)] scope = true) : OneVar (compFC fc [(n, w)] scope) n w := by
  unfold compOK at h
  simp only [Bool.and_eq_true, List.all_cons, List.all_nil, Bool.and_true] at h
  refine ⟨eq_of_beq h.2, fun i y hi => ?_⟩
  rcases compFC_slot hi with ⟨_, h5⟩ | ⟨h5, _⟩
  · rw [List.lookup_cons] at h5
    cases e : i == n with
    | true => rw [e] at h5; cases h5; exact ⟨eq_of_beq e, rfl⟩
    | false => rw [e] at h5; cases h5
  · cases h5
theorem compOK_two {fc : FC} {n n' : Nat} {w w' : Str} {scope : Scope} (h : compOK fc [(n, w), (n', w')] scope = true) (hn : n ≠ n') (hw : w ≠ w') : TwoVar (compFC fc [(n, w), (n', w')] scope) n n' w w' := by
  unfold compOK at h
  simp only [Bool.and_eq_true, List.all_cons, List.all_nil, Bool.and_true] at h
  refine ⟨eq_of_beq h.2.1, eq_of_beq h.2.2, hn, hw, fun i y hi => ?_⟩
  rcases compFC_slot hi with ⟨_, h5⟩ | ⟨h5, _⟩
  · rw [List.lookup_cons] at h5
    cases e : i == n with
    | true => rw [e] at h5; cases h5; exact .inl ⟨eq_of_beq e, rfl⟩
    | false =>
      rw [e, List.lookup_cons] at h5
      cases e' : i == n' with
      | true => rw [e'] at h5; cases h5; exact .inr ⟨eq_of_beq e', rfl⟩
      | false => rw [e'] at h5; cases h5
  · cases h5

mutual
noncomputable def mE (G : Tab) (fc : FC) : IE → PySem.Expr → Bool
  | .int i, e => onI e fun j => i == j
  | .bool b, e => onConst e fun c => onCB c fun d => b == d
  | .none, e => onConst e isCN
  | .var n, e => isVar fc n e
  | .gint x i, e => onName e fun w _ => w == x && G.gints.lookup w == some i && isGlob fc w
  | .gref x k, e => onName e fun w _ => w == x && G.grefs.lookup w == some k && isGlob fc w
  | .bin op a b, e => onBin e fun l o r => o == bop op && mE G fc a l && mE G fc b r
  | .una op a, e => onUn e fun o v => o == uop op && mE G fc a v
  | .bop o es, e => onBool e fun op vs => op == bp o && mEs G fc es vs
  | .cmp op a b, e => onCmp1 e fun l o r => o == cop op && mE G fc a l && mE G fc b r
  | .cmp2 o1 o2 a b c, e => onCmp e fun l os rs => on2 os fun p1 p2 => on2 rs fun r1 r2 => p1 == cop o1 && p2 == cop o2 && mE G fc a l && mE G fc b r1 && mE G fc c r2
  | .isIn neg a b, e => onCmp1 e fun l o r => o == (if neg then .NotIn else .In) && noSet r && mE G fc a l && mE G fc b r
  | .isNone neg a, e => onCmp1 e fun l o r => o == (if neg then .IsNot else .Is) && onConst r isCN && mE G fc a l
  | .ite c a b, e => onIf e fun t u v => mE G fc c t && mE G fc a u && mE G fc b v
  | .call f as, e => onCallN e fun fn args => onO G.fns[f]? (fun p => p.1 == some fn) && isGlob fc fn && mEs G fc as args
  | .new c f as, e => onCallN e fun fn args => G.clsn[c]? == some fn && onO G.fns[f]? (fun p => G.inits[c]? == some p.2) && isGlob fc fn && mEs G fc as args
  | .attr a k, e => onAttr e fun v w _ => G.atr[k]? == some w && plainBase v && mE G fc a v
  | .sub a i, e => onSubs e fun v sl => noSlice sl && mE G fc a v && mE G fc i sl
  | .take a n, e => onSubs e fun v sl => onName v (fun _ _ => true) && onSlice sl (fun lo up st => lo.isNone && st.isNone && onO up fun u => onI u fun i => i == (n : Int)) && mE G fc a v
  | .tup es, e => onTup e fun vs => mEs G fc es vs
  | .lst es, e => onLst e fun vs => mEs G fc es vs
  | .rep es n, e => onBin e fun l o r => o == .Mult && onLst l (fun vs => mEs G fc es vs) && mE G fc n r
  | .dic ks es, e => onDict e fun keys vs => keysAre ks keys && mEs G fc es vs
  | .range as, e => onCallN e fun fn args => fn == ("range" : Str) && isGlob fc fn && mEs G fc as args
  | .len a, e => onCallN e fun fn args => on1 args fun v => fn == ("len" : Str) && isGlob fc fn && noStar v && mE G fc a v
  | .abs a, e => onCallN e fun fn args => on1 args fun v => fn == ("abs" : Str) && isGlob fc fn && noStar v && mE G fc a v
  | .list a, e => onCallN e fun fn args => on1 args fun v => fn == ("list" : Str) && isGlob fc fn && noStar v && mE G fc a v
  | .toInt a, e => onCallN e fun fn args => on1 args fun v => fn == ("int" : Str) && isGlob fc fn && noStar v && mE G fc a v
  | .pow12 a, e => onBin e fun l o r => o == .Pow && onI r (fun i => i == 12) && mE G fc a l
  | .eqNil neg a, e => onCmp1 e fun l o r => o == (if neg then .NotEq else .Eq) && onLst r (fun vs => vs.isEmpty) && mE G fc a l
  | .append o a, e => onCallM e fun v w ap as pos => on1 as fun u => (w == ("append" : Str) && plainBase v && (ap.endLine == pos.line) && noStar u) && mE G fc o v && mE G fc a u
  | .get o k d, e => onCallM e fun v w ap as pos => on2 as fun u t => (w == ("get" : Str) && plainBase v && (ap.endLine == pos.line) && noStar u && noStar t) && mE G fc o v && mE G fc k u && mE G fc d t
  | .index o a, e => onCallM e fun v w ap as pos => on1 as fun u => (w == ("index" : Str) && plainBase v && (ap.endLine == pos.line) && noStar u) && mE G fc o v && mE G fc a u
  | .comp n src conds elt, e => onLC e fun el gs sc => on1 gs fun g => onGen g fun w iter ifs => noSet iter && compOK fc [(n, w)] sc && mE G fc src iter && mEs G (compFC fc [(n, w)] sc) conds ifs && mE G (compFC fc [(n, w)] sc) elt el
  | .comp2 n m src src2 elt, e => onLC e fun el gs sc => on2 gs fun g h => onGen g fun w iter if1 => onGen h fun w' i1 if2 => (if1.isEmpty && if2.isEmpty && noSet iter && noSet i1) && (decide (n ≠ m) && w != w' && compOK fc [(n, w), (m, w')] sc) && mE G fc src iter &&
        mE G (compFC fc [(n, w), (m, w')] sc) src2 i1 && mE G (compFC fc [(n, w), (m, w')] sc) elt el
noncomputable def mEs (G : Tab) (fc : FC) : IEs → List PySem.Expr → Bool
  | .nil, es => es.isEmpty
  | .cons a as, es => match es with
    | e :: es => noStar e && mE G fc a e && mEs G fc as es
    | [] => false
end
@[elab_as_elim] theorem mEsK {G : Tab} {fc : FC} {a : IE} {as : IEs} {es : List PySem.Expr} {M : List PySem.Expr → Prop} (h : mEs G fc (.cons a as) es = true) (k : ∀ e es', noStar e = true → mE G fc a e = true → mEs G fc as es' = true → M (e :: es')) : M es := by
  cases es with
  | nil => cases h
  | cons e es => exact and3K h fun h1 h2 h3 => k e es h1 h2 h3

/-- what stands around a body -/
structure Ctx (X : Cx) (G : Tab) (Fs : List Fun) (d : Nat) : Prop where
  x : XOK X
  nob : ∀ n : Str, n ∈ (["range", "len", "abs", "list", "int"] : List Str) → X.mg n = none
  gints : X.gints = G.gints
  grefs : X.grefs = G.grefs
  atr : X.atr = G.atr
  clsn : X.clsn = G.clsn
  inits : X.inits = G.inits
  fns : ∀ (f : Nat) (o : Option Str) (a : Addr) (F : Fun), G.fns[f]? = some (o, a) → Fs[f]? = some F → FunOK X d a F
  glob : ∀ (f : Nat) (w : Str) (a : Addr), G.fns[f]? = some (some w, a) → X.mg w = some (.ref a) ∧ keepIn X.K (.ref a) = true
  cls : ∀ (c : Nat) (w : Str), G.clsn[c]? = some w → ∃ C, X.cls[c]? = some C

section
variable {X : Cx} {A : Around} {env : Env} {fc : FC} {ρ : Rho} {σ σ₁ σ₂ σ₃ : AH} {x y z : AV}
theorem noSet_folded {e : PySem.Expr} (h : noSet e = true) (x : Value) : foldedSetIterable e env x = pure x := by
  cases e <;> first | rfl | cases h
theorem noSet_match {e : PySem.Expr} (h : noSet e = true) : (match (generalizing := false) e with | .Set .. => false | _ => true) = true := by
  cases e <;> first | rfl | cases h
theorem isGlob_spec {w : Str} (h : isGlob fc w = true) : fc.names.lookup w = some .globalImplicit ∧ (w == ("__debug__" : Str)) = false := by
  have h := Bool.and_eq_true_iff.mp h
  exact ⟨eq_of_beq h.1, by simpa using h.2⟩

theorem em_of_foldr {P : AV → List Int → Prop} {H : AV → List Int → Option (List Int)} (hG : ∀ v ys zs, H v ys = some zs → ∃ is, zs = is ++ ys ∧ P v is) :
    ∀ (vs : List AV) (ks0 ks : List Int), vs.foldr (fun v acc => acc.bind (H v)) (some ks0) = some ks → ∃ is, ks = is ++ ks0 ∧ Em P vs is
  | [], _, _, h => by cases h; exact ⟨[], rfl, .nil⟩
  | v :: r, ks0, ks, h => by
    rw [List.foldr_cons, Option.bind_eq_some_iff] at h
    obtain ⟨ys, h1, h2⟩ := h
    obtain ⟨is', rfl, e'⟩ := em_of_foldr hG r ks0 ys h1
    obtain ⟨is, rfl, e⟩ := hG _ _ _ h2
    exact ⟨is ++ is', by rw [List.append_assoc], .cons e e'⟩
end
end Mine
namespace Mine
open PySem PySem.W PySem.Calls PyProof.Rows

/-- what is shown of a term -/
noncomputable def Snd (X : Cx) (A : Around) (env : Env) (fc : FC) (ρ : Rho) (e : PySem.Expr) (σ : AH) (z : AV) (σ' : AH) : Prop :=
  SE X A env fc ρ (eval e env) σ z σ' ∧ ∀ b, truth z = some b → STr X A env fc ρ (isTrue e env (eval e env)) σ b σ'

section
variable {X : Cx} {G : Tab} {Fs : List Fun} {d : Nat} {A : Around} {env : Env} {fc : FC} {ρ : Rho} {σ σ₁ σ₂ σ₃ σ' : AH} {x y z : AV}

theorem Snd.val {e : PySem.Expr} (h : SE X A env fc ρ (eval e env) σ z σ')
    (he : isTrue e env (eval e env) = (do let v ← eval e env; standAt e.pos; holding [v] (truthy v)) := by rfl) : Snd X A env fc ρ e σ z σ' :=
  ⟨h, fun _ hb => STr.value h hb he⟩

theorem Snd.bool {e : PySem.Expr} {r : Bool} (h : SE X A env fc ρ (eval e env) σ (.bool r) σ') (h2 : STr X A env fc ρ (isTrue e env (eval e env)) σ r σ') : Snd X A env fc ρ e σ (.bool r) σ' :=
  ⟨h, fun b hb => by cases hb; exact h2⟩
theorem bb_range : bootBuiltins "range" = some (.type "range") := by kernel_rfl
theorem bb_len : bootBuiltins "len" = some (.builtin "len") := by kernel_rfl
theorem bb_abs : bootBuiltins "abs" = some (.builtin "abs") := by kernel_rfl
theorem bb_list : bootBuiltins "list" = some (.type "list") := by kernel_rfl
theorem bb_int : bootBuiltins "int" = some (.type "int") := by kernel_rfl

@[elab_as_elim] theorem isVarK {n : Nat} {e : PySem.Expr} {M : PySem.Expr → Prop} (h : isVar fc n e = true) (k : ∀ w b p, fc.slots[n]? = some (some (w, b)) → (w == ("__debug__" : Str)) = false → M (.Name w p)) : M e := by
  refine onNameK h fun w p h => ?_
  refine andK h fun h1 h2 => ?_
  exact slotIsK h1 fun b hs => k w b p hs (by simpa using h2)

theorem one_arg {v : PySem.Expr} (hs : noStar v = true) {pos : Pos} (h : SE X A env fc ρ (eval v env) σ x σ₁) : SL X A env fc ρ (spliced (backTo pos (starEach [v] env))) σ [x] σ₁ := SL.cons hs h SL.nil

theorem all1 {v : PySem.Expr} (h : noStar v = true) : [v].all noStar = true := by rw [List.all_cons, h]; rfl
theorem varK {ρ : Rho} {n : Nat} {σ : AH} {w : AV × AH} {C : Prop} (h : den Fs (.var n) ρ σ = some w) (k : ∀ v, ρ[n]? = some (some v) → (v, σ) = w → C) : C := by
  replace h : (match ρ[n]? with | some (some v) => some (v, σ) | _ => .none) = some w := h
  cases q : ρ[n]? with
  | none => rw [q] at h; cases h
  | some o =>
    rw [q] at h
    cases o with
    | none => cases h
    | some v => exact k v q (Option.some.inj h)
theorem callK {f : Nat} {vs : List AV × AH} {w : AV × AH} {C : Prop} (h : (match Fs[f]? with | some F => F vs.1 vs.2 | .none => .none) = some w) (k : ∀ F, Fs[f]? = some F → F vs.1 vs.2 = some w → C) : C := by
  cases q : Fs[f]? with
  | none => rw [q] at h; cases h
  | some F => rw [q] at h; exact k F q h
theorem newK {f c : Nat} {vs : List AV × AH} {w : AV × AH} {K : AV × AH → Option (AV × AH)} {C : Prop} (h : (match Fs[f]? with | some F => (F (.ref vs.2.length :: vs.1) (vs.2 ++ [(true, .inst c [])])).bind K | .none => .none) = some w) (k : ∀ F, Fs[f]? = some F → (F (.ref vs.2.length :: vs.1) (vs.2 ++ [(true, .inst c [])])).bind K = some w → C) : C := by
  cases q : Fs[f]? with
  | none => rw [q] at h; cases h
  | some F => rw [q] at h; exact k F q h
theorem takeK {v : AV} {s : AH} {K : List AV → AV × AH} {w : AV × AH} {C : Prop} (h : (match v with | .ref a => (match s[a]? with | some (_, .lst xs) => if xs.length ≤ lim then some (K xs) else .none | _ => .none) | _ => .none) = some w)
    (k : ∀ id m xs, v = .ref id → s[id]? = some (m, .lst xs) → xs.length ≤ lim → some (K xs) = some w → C) : C := by
  cases v with
  | ref a =>
    dsimp only at h
    cases q : s[a]? with
    | none => rw [q] at h; cases h
    | some o =>
      rw [q] at h
      obtain ⟨m, o⟩ := o
      cases o with
      | lst xs => exact k a m xs rfl q (ifE h).1 (ifE h).2
      | _ => cases h
  | _ => cases h
theorem listK {v : AV} {s : AH} {w : AV × AH} {C : Prop} (h : (match v with | .ref a => (match s[a]? with | some (_, .rng x y s') => (rngList x y s').map fun ns => newO true (.lst (ns.map AV.int)) s | _ => .none) | _ => .none) = some w)
    (k : ∀ id m x y s' ns, v = .ref id → s[id]? = some (m, .rng x y s') → rngList x y s' = some ns → newO true (.lst (ns.map AV.int)) s = w → C) : C := by
  cases v with
  | ref a =>
    dsimp only at h
    cases q : s[a]? with
    | none => rw [q] at h; cases h
    | some o =>
      rw [q] at h
      obtain ⟨m, o⟩ := o
      cases o with
      | rng x y s' =>
        exact mapK h fun ns e1 e2 => k a m x y s' ns rfl q e1 e2
      | _ => cases h
  | _ => cases h
theorem unitsE (hA : AOK A (d + 1)) : A.units < cLine := by have := hA.units; omega
theorem notK {α : Type} {b : Bool} {o : Option α} {z : α} {C : Prop} (h : (if (!b) = true then .none else o) = some z) (k : b = true → o = some z → C) : C := by
  cases b with
  | false => cases h
  | true => exact k rfl h
theorem lstK_ {v : AV} {s : AH} {C : Prop} (h : isLst v s = true) (k : ∀ id m xs, v = .ref id → s[id]? = some (m, .lst xs) → C) : C := by
  cases v with
  | ref a =>
    unfold isLst at h
    dsimp only at h
    cases q : s[a]? with
    | none => rw [q] at h; cases h
    | some o =>
      rw [q] at h
      obtain ⟨m, o⟩ := o
      cases o with
      | lst xs => exact k a m xs rfl q
      | _ => cases h
  | _ => cases h
theorem dicK_ {v : AV} {s : AH} {C : Prop} (h : isDic v s = true) (k : ∀ id m xs, v = .ref id → s[id]? = some (m, .dic xs) → C) : C := by
  cases v with
  | ref a =>
    unfold isDic at h
    dsimp only at h
    cases q : s[a]? with
    | none => rw [q] at h; cases h
    | some o =>
      rw [q] at h
      obtain ⟨m, o⟩ := o
      cases o with
      | dic xs => exact k a m xs rfl q
      | _ => cases h
  | _ => cases h
theorem appK {a : Nat} {v : AV} {s s' : AH} {C : Prop} (h : appendH (.ref a) v s = some s') (k : ∀ xs, s[a]? = some (true, .lst xs) → xs.length ≤ lim → s.set a (true, .lst (xs ++ [v])) = s' → C) : C := by
  unfold appendH at h
  dsimp only at h
  cases q : s[a]? with
  | none => rw [q] at h; cases h
  | some o =>
    rw [q] at h
    obtain ⟨m, o⟩ := o
    cases m with
    | false => cases h
    | true =>
      cases o with
      | lst xs =>
        exact k xs q (ifE h).1 (Option.some.inj (ifE h).2)
      | _ => cases h
theorem dicGetK {a : Nat} {s : AH} {K : List (Int × AV) → Option (AV × AH)} {w : AV × AH} {C : Prop} (h : (match s[a]? with | some (_, .dic kvs) => K kvs | _ => .none) = some w) (k : ∀ m kvs, s[a]? = some (m, .dic kvs) → K kvs = some w → C) : C := by
  cases q : s[a]? with
  | none => rw [q] at h; cases h
  | some o =>
    rw [q] at h
    obtain ⟨m, o⟩ := o
    cases o with
    | dic xs => exact k m xs q h
    | _ => cases h
theorem lstGetK {a : Nat} {s : AH} {K : List AV → Option (AV × AH)} {w : AV × AH} {C : Prop} (h : (match s[a]? with | some (_, .lst kvs) => K kvs | _ => .none) = some w) (k : ∀ m kvs, s[a]? = some (m, .lst kvs) → K kvs = some w → C) : C := by
  cases q : s[a]? with
  | none => rw [q] at h; cases h
  | some o =>
    rw [q] at h
    obtain ⟨m, o⟩ := o
    cases o with
    | lst xs => exact k m xs q h
    | _ => cases h
theorem rangeE {vs : List AV} {s : AH} {z : AV} {s' : AH} (h : (match vs with
    | [.int b] => if smallB b then some (newO false (.rng 0 b 1) s) else .none
    | [.int a, .int b] => if smallB a && smallB b then some (newO false (.rng a b 1) s) else .none
    | [.int a, .int b, .int q] => if smallB a && smallB b && decide (q = -1) then some (newO false (.rng a b q) s) else .none
    | _ => .none) = some (z, s')) : CallsTo X A (.type "range") vs s z s' := by
  split at h
  · obtain ⟨_, h⟩ := ifE h
    cases h
    exact calls_range1
  · obtain ⟨_, h⟩ := ifE h
    cases h
    exact calls_range2
  · obtain ⟨hc, h⟩ := ifE h
    cases h
    exact and3K hc fun _ _ q => calls_range3 (of_decide_eq_true q)
  · cases h
theorem compK {n : Nat} {src elt : IE} {conds : IEs} {ρ : Rho} {σ : AH} {w : AV × AH} {C : Prop} (h : den Fs (.comp n src conds elt) ρ σ = some w)
    (k : ∀ (v : AV × AH) (vs : List AV) (is : List Int), den Fs src ρ σ = some v → den.itemsOf v.1 v.2 = some vs →
      Em (fun u is => ∃ b, denAll Fs conds (ρ.set n (some u)) (freeze v.2) = some b ∧ if b then ∃ i σ', den Fs elt (ρ.set n (some u)) (freeze v.2) = some (.int i, σ') ∧ is = [i] else is = []) vs is → is.length ≤ lim → some (newO true (.lst (is.map AV.int)) v.2) = some w → C) : C := by
  refine bindK h fun v e1 h => ?_
  refine bindK h fun vs e2 h => ?_
  refine bindK h fun ys e3 h => ?_
  obtain ⟨is, e5, em⟩ := em_of_foldr (P := fun u is => ∃ b, denAll Fs conds (ρ.set n (some u)) (freeze v.2) = some b ∧ if b then ∃ i σ', den Fs elt (ρ.set n (some u)) (freeze v.2) = some (.int i, σ') ∧ is = [i] else is = [])
    (fun v ys zs hG => by
      refine bindK hG fun b g1 g2 => ?_
      cases b with
      | false => cases g2; exact ⟨[], rfl, false, g1, rfl⟩
      | true =>
        refine bind2K g2 fun q s4 g3 g4 => ?_
        cases q with
        | int i => cases g4; exact ⟨[_], rfl, true, g1, _, s4, g3, rfl⟩
        | _ => cases g4) vs [] ys e3
  rw [List.append_nil] at e5
  subst e5
  exact k v vs ys e1 e2 em (ifE h).1 (ifE h).2
theorem comp2K {n m : Nat} {src src2 elt : IE} {ρ : Rho} {σ : AH} {w : AV × AH} {C : Prop} (h : den Fs (.comp2 n m src src2 elt) ρ σ = some w)
    (k : ∀ (v : AV × AH) (vs : List AV) (is : List Int), den Fs src ρ σ = some v → den.itemsOf v.1 v.2 = some vs →
      Em (fun u is => ∃ x2 σ2 us, den Fs src2 ((ρ.set n (some u)).set m .none) (freeze v.2) = some (x2, σ2) ∧ den.itemsOf x2 σ2 = some us ∧
        Em (fun u' is => (∃ j, u' = .int j) ∧ ∃ i σ', den Fs elt ((ρ.set n (some u)).set m (some u')) (freeze v.2) = some (.int i, σ') ∧ is = [i]) us is) vs is → is.length ≤ lim → some (newO true (.lst (is.map AV.int)) v.2) = some w → C) : C := by
  refine bindK h fun v e1 h => ?_
  refine bindK h fun vs e2 h => ?_
  refine bindK h fun ys e3 h => ?_
  obtain ⟨is, e5, em⟩ := em_of_foldr (P := fun u is => ∃ x2 σ2 us, den Fs src2 ((ρ.set n (some u)).set m .none) (freeze v.2) = some (x2, σ2) ∧ den.itemsOf x2 σ2 = some us ∧
        Em (fun u' is => (∃ j, u' = .int j) ∧ ∃ i σ', den Fs elt ((ρ.set n (some u)).set m (some u')) (freeze v.2) = some (.int i, σ') ∧ is = [i]) us is)
    (fun u ys zs hG => by
      refine bind2K hG fun x2 s2 g1 g2 => ?_
      refine bindK g2 fun us g3 g4 => ?_
      obtain ⟨is, g5, g6⟩ := em_of_foldr (P := fun u' is => (∃ j, u' = .int j) ∧ ∃ i σ', den Fs elt ((ρ.set n (some u)).set m (some u')) (freeze v.2) = some (.int i, σ') ∧ is = [i]) (fun u ys zs hG => by
        refine bind2K hG fun q s4 g3 g4 => ?_
        cases u with
        | int j =>
          cases q with
          | int i => cases g4; exact ⟨[_], rfl, ⟨_, rfl⟩, _, s4, g3, rfl⟩
          | _ => cases g4
        | _ => cases g4) us ys zs g4
      exact ⟨is, g5, x2, s2, us, g1, g3, g6⟩) vs [] ys e3
  rw [List.append_nil] at e5
  subst e5
  exact k v vs ys e1 e2 em (ifE h).1 (ifE h).2

noncomputable def At (X : Cx) (A : Around) (G : Tab) (Fs : List Fun) (d : Nat) (ie : IE) : Prop := ∀ (e : PySem.Expr) (fc : FC) (env : Env) (ρ : Rho) (σ : AH) (z : AV) (σ' : AH), AOK A (d + 1) → EnvOK env fc → mE G fc ie e = true → den Fs ie ρ σ = some (z, σ') → Snd X A env fc ρ e σ z σ'
noncomputable def AtL (X : Cx) (A : Around) (G : Tab) (Fs : List Fun) (d : Nat) (ies : IEs) : Prop := ∀ (es : List PySem.Expr) (fc : FC) (env : Env) (ρ : Rho) (σ : AH) (vs : List AV) (σ' : AH), AOK A (d + 1) → EnvOK env fc → mEs G fc ies es = true → denL Fs ies ρ σ = some (vs, σ') → SEs X A env fc ρ es σ vs σ'
noncomputable def AtB (X : Cx) (A : Around) (G : Tab) (Fs : List Fun) (d : Nat) (ies : IEs) : Prop := ∀ (es : List PySem.Expr) (o : Bool) (fc : FC) (env : Env) (ρ : Rho) (σ : AH) (z : AV) (σ' : AH), AOK A (d + 1) → EnvOK env fc → mEs G fc ies es = true → denB Fs o ies ρ σ = some (z, σ') →
    (∀ pos, SE X A env fc ρ (boolOp pos (bp o) (evalEach es env)) σ z σ') ∧ ∀ b, truth z = some b → STr X A env fc ρ (allTrue (bp o) es env) σ b σ'
noncomputable def AtT (X : Cx) (A : Around) (G : Tab) (Fs : List Fun) (d : Nat) (ies : IEs) : Prop := ∀ (es : List PySem.Expr) (fc : FC) (env : Env) (ρ : Rho) (σ : AH) (b : Bool), AOK A (d + 1) → EnvOK env fc → mEs G fc ies es = true → denAll Fs ies ρ (freeze σ) = some b → TE X A env fc ρ es σ b
noncomputable def AtS (X : Cx) (A : Around) (G : Tab) (Fs : List Fun) (d : Nat) (ies : IEs) : Prop := AtL X A G Fs d ies ∧ AtB X A G Fs d ies ∧ AtT X A G Fs d ies
theorem sn_int (C : Ctx X G Fs d) {i : _}  : At X A G Fs d (.int i) := by
  intro e fc env ρ σ z σ' hA hE hm hd
  refine onIK hm fun j k pos hm => ?_
  refine pairK hd ?_
  refine eqK hm ?_
  exact .val SE.int
theorem sn_bool (C : Ctx X G Fs d) {i : _}  : At X A G Fs d (.bool i) := by
  intro e fc env ρ σ z σ' hA hE hm hd
  refine onConstK hm fun c k pos hm => ?_
  refine onCBK hm fun j hm => ?_
  refine pairK hd ?_
  refine eqK hm ?_
  exact .val SE.bool
theorem sn_none (C : Ctx X G Fs d)  : At X A G Fs d (.none) := by
  intro e fc env ρ σ z σ' hA hE hm hd
  refine onConstK hm fun c k pos hm => ?_
  refine isCNK hm ?_
  refine pairK hd ?_
  exact .val SE.cNone
theorem sn_var (C : Ctx X G Fs d) {n : _}  : At X A G Fs d (.var n) := by
  intro e fc env ρ σ z σ' hA hE hm hd
  refine isVarK (e := e) hm fun w b p h1 h2 => ?_
  refine varK hd fun v hv hd => ?_
  cases hd
  exact .val (SE.var hE h1 hv h2)
theorem sn_gint (C : Ctx X G Fs d) {w i : _}  : At X A G Fs d (.gint w i) := by
  intro e fc env ρ σ z σ' hA hE hm hd
  refine onNameK hm fun w pos hm => ?_
  refine and3K hm fun h1 h2 h3 => ?_
  cases eq_of_beq h1
  refine pairK hd ?_
  obtain ⟨h4, h5⟩ := isGlob_spec h3
  exact .val (SE.gint C.x hE (C.gints ▸ eq_of_beq h2) h4 h5)
theorem sn_gref (C : Ctx X G Fs d) {w k : _}  : At X A G Fs d (.gref w k) := by
  intro e fc env ρ σ z σ' hA hE hm hd
  refine onNameK hm fun w pos hm => ?_
  refine and3K hm fun h1 h2 h3 => ?_
  cases eq_of_beq h1
  refine pairK hd ?_
  obtain ⟨h4, h5⟩ := isGlob_spec h3
  exact .val (SE.gref C.x hE (C.grefs ▸ eq_of_beq h2) h4 h5)
theorem sn_bin (C : Ctx X G Fs d) {op a b : _} (iha : At X A G Fs d a) (ihb : At X A G Fs d b) : At X A G Fs d (.bin op a b) := by
  intro e fc env ρ σ z σ' hA hE hm hd
  refine onBinK hm fun l o r pos hm => ?_
  refine and3K hm fun h1 h2 h3 => ?_
  refine eqK h1 ?_
  refine bindK hd fun v e1 hd => ?_
  refine bindK hd fun u e2 hd => ?_
  exact .val (SE.bin (iha _ fc env ρ σ v.1 v.2 hA hE h2 e1).1 (ihb _ fc env ρ v.2 u.1 u.2 hA hE h3 e2).1 hd)
theorem sn_una (C : Ctx X G Fs d) {op a : _} (iha : At X A G Fs d a) : At X A G Fs d (.una op a) := by
  intro e fc env ρ σ z σ' hA hE hm hd
  refine onUnK hm fun o q pos hm => ?_
  refine andK hm fun h1 h2 => ?_
  refine eqK h1 ?_
  cases op with
  | not =>
    refine bindK hd fun v e1 hd => ?_
    refine mapK hd fun t e2 hd => ?_
    refine prodK hd ?_
    have ih := iha _ fc env ρ σ v.1 _ hA hE h2 e1
    exact .bool (SE.nota ih.1 e2) (STr.not (ih.2 t e2))
  | neg =>
    refine bindK hd fun v e1 hd => ?_
    refine mapK hd fun t e2 hd => ?_
    refine prodK hd ?_
    exact .val (SE.una (op := .neg) (iha _ fc env ρ σ v.1 _ hA hE h2 e1).1 e2)
  | inv =>
    refine bindK hd fun v e1 hd => ?_
    refine mapK hd fun t e2 hd => ?_
    refine prodK hd ?_
    exact .val (SE.una (op := .inv) (iha _ fc env ρ σ v.1 _ hA hE h2 e1).1 e2)
theorem sn_bop (C : Ctx X G Fs d) {o es : _} (ihes : AtS X A G Fs d es) : At X A G Fs d (.bop o es) := by
  intro e fc env ρ σ z σ' hA hE hm hd
  refine onBoolK hm fun op vs pos hm => ?_
  refine andK hm fun h1 h2 => ?_
  refine eqK h1 ?_
  obtain ⟨h3, h4⟩ := ihes.2.1 _ o fc env ρ σ z σ' hA hE h2 hd
  exact ⟨h3 _, h4⟩
theorem sn_cmp (C : Ctx X G Fs d) {op a b : _} (iha : At X A G Fs d a) (ihb : At X A G Fs d b) : At X A G Fs d (.cmp op a b) := by
  intro e fc env ρ σ z σ' hA hE hm hd
  refine onCmp1K hm fun l o r pos hm => ?_
  refine and3K hm fun h1 h2 h3 => ?_
  refine eqK h1 ?_
  refine bindK hd fun v e1 hd => ?_
  refine bindK hd fun u e2 hd => ?_
  refine mapK hd fun r e3 hd => ?_
  refine prodK hd ?_
  have i1 := (iha _ fc env ρ σ v.1 v.2 hA hE h2 e1).1
  have i2 := (ihb _ fc env ρ v.2 u.1 u.2 hA hE h3 e2).1
  exact .bool (SE.cmp i1 i2 e3) (STr.cmp i1 i2 e3)
theorem sn_cmp2 (C : Ctx X G Fs d) {o1 o2 a b c : _} (iha : At X A G Fs d a) (ihb : At X A G Fs d b) (ihc : At X A G Fs d c) : At X A G Fs d (.cmp2 o1 o2 a b c) := by
  intro e fc env ρ σ z σ' hA hE hm hd
  refine onCmpK hm fun l os rs pos hm => ?_
  refine on2K hm fun p1 p2 hn => ?_
  refine on2K hn fun r1 r2 hk => ?_
  refine and5K hk fun h1 h2 h3 h4 h5 => ?_
  refine eqK h1 ?_
  refine eqK h2 ?_
  refine bindK hd fun v e1 hd => ?_
  refine bindK hd fun u e2 hd => ?_
  refine bindK hd fun r e3 e4 => ?_
  have i1 := (iha _ fc env ρ σ v.1 v.2 hA hE h3 e1).1
  have i2 := (ihb _ fc env ρ v.2 u.1 u.2 hA hE h4 e2).1
  cases r with
  | false =>
    refine pairK e4 ?_
    exact .bool (SE.cmp2 i1 i2 e3 ⟨rfl, rfl⟩) (STr.cmp2 i1 i2 e3 ⟨rfl, rfl⟩)
  | true =>
    refine bindK e4 fun q e5 e4 => ?_
    refine mapK e4 fun r2 e6 e4 => ?_
    refine prodK e4 ?_
    have i3 := (ihc _ fc env ρ u.2 q.1 _ hA hE h5 e5).1
    exact .bool (SE.cmp2 i1 i2 e3 ⟨q.1, _, i3, e6, rfl⟩) (STr.cmp2 i1 i2 e3 ⟨q.1, _, i3, e6, rfl⟩)
theorem sn_isIn (C : Ctx X G Fs d) {neg a b : _} (iha : At X A G Fs d a) (ihb : At X A G Fs d b) : At X A G Fs d (.isIn neg a b) := by
  intro e fc env ρ σ z σ' hA hE hm hd
  refine onCmp1K hm fun l o r pos hm => ?_
  refine and4K hm fun h1 h2 h3 h4 => ?_
  refine eqK h1 ?_
  refine bind2K hd fun v s1 e1 hd => ?_
  refine bindK hd fun u e2 hd => ?_
  cases v with
  | int i =>
    refine bindK hd fun xs e4 hd => ?_
    refine mapK hd fun ns e5 hd => ?_
    refine prodK hd ?_
    have i1 := (iha _ fc env ρ σ _ s1 hA hE h3 e1).1
    have i2 := (ihb _ fc env ρ s1 u.1 u.2 hA hE h4 e2).1
    exact .bool (SE.isIn (noSet_match h2) i1 i2 e4 e5) (STr.isIn (noSet_match h2) i1 i2 e4 e5)
  | _ => cases hd
theorem sn_isNone (C : Ctx X G Fs d) {neg a : _} (iha : At X A G Fs d a) : At X A G Fs d (.isNone neg a) := by
  intro e fc env ρ σ z σ' hA hE hm hd
  refine onCmp1K hm fun l o r pos hm => ?_
  refine and3K hm fun h1 h3 h2 => ?_
  refine eqK h1 ?_
  refine onConstK h3 fun c k p h3 => ?_
  refine isCNK h3 ?_
  refine mapK hd fun v e1 hd => ?_
  refine prodK hd ?_
  have i1 := (iha _ fc env ρ σ v.1 _ hA hE h2 e1).1
  exact .bool (SE.isNone i1) (STr.isNone i1)
theorem sn_ite (C : Ctx X G Fs d) {c a b : _} (ihc : At X A G Fs d c) (iha : At X A G Fs d a) (ihb : At X A G Fs d b) : At X A G Fs d (.ite c a b) := by
  intro e fc env ρ σ z σ' hA hE hm hd
  refine onIfK hm fun t u v pos hm => ?_
  refine and3K hm fun h1 h2 h3 => ?_
  refine bindK hd fun v e1 hd => ?_
  refine bindK hd fun t e2 e3 => ?_
  have i1 := (ihc _ fc env ρ σ v.1 v.2 hA hE h1 e1).2 t e2
  cases t with
  | true =>
    have i2 := iha _ fc env ρ v.2 z σ' hA hE h2 e3
    exact ⟨SE.iteT i1 i2.1, fun b hb => STr.ite i1 (i2.2 b hb)⟩
  | false =>
    have i2 := ihb _ fc env ρ v.2 z σ' hA hE h3 e3
    exact ⟨SE.iteT i1 i2.1, fun b hb => STr.ite i1 (i2.2 b hb)⟩
theorem sn_call (C : Ctx X G Fs d) {f as : _} (ihas : AtS X A G Fs d as) : At X A G Fs d (.call f as) := by
  intro e fc env ρ σ z σ' hA hE hm hd
  refine onCallNK hm fun w np args pos hm => ?_
  refine and3K hm fun h1 h2 h3 => ?_
  refine onOE h1 fun wa hf h1 => ?_
  obtain ⟨w', a⟩ := wa
  cases eq_of_beq (h1 : (w' == some w) = true)
  refine bindK hd fun vs e1 hd => ?_
  refine callK hd fun F hF hd => ?_
  obtain ⟨g1, g2⟩ := C.glob _ _ _ hf
  obtain ⟨h4, h5⟩ := isGlob_spec h2
  have il := ihas.1 _ fc env ρ σ vs.1 vs.2 hA hE h3 e1
  exact .val (SE.callG C.x hE g1 g2 h4 h5 il.stars il.sl (calls_fun (C.fns _ _ _ _ hf hF) (hA.mono (Nat.le_succ d)) hd))
theorem sn_new (C : Ctx X G Fs d) {c f as : _} (ihas : AtS X A G Fs d as) : At X A G Fs d (.new c f as) := by
  intro e fc env ρ σ z σ' hA hE hm hd
  refine onCallNK hm fun w np args pos hm => ?_
  refine and4K hm fun h0 h1 h2 h3 => ?_
  refine onOE h1 fun wa hf h1 => ?_
  obtain ⟨o, a⟩ := wa
  refine bindK hd fun vs e1 hd => ?_
  refine newK hd fun F hF hd => ?_
  refine bind2K hd fun r s2 e3 hd => ?_
  cases r with
  | none =>
    refine pairK hd ?_
    obtain ⟨Ca, hC⟩ := C.cls c _ (eq_of_beq h0)
    have O := C.x.cls c Ca hC
    obtain ⟨w, n1, n2⟩ := O.name
    rw [C.clsn, eq_of_beq h0] at n1
    cases n1
    obtain ⟨h4, h5⟩ := isGlob_spec h2
    have il := ihas.1 _ fc env ρ σ vs.1 vs.2 hA hE h3 e1
    exact .val (SE.callG C.x hE n2 O.keep h4 h5 il.stars il.sl (calls_new C.x hC (C.inits ▸ eq_of_beq h1) (C.fns _ _ _ _ hf hF) hA e3))
  | _ => cases hd
theorem sn_attr (C : Ctx X G Fs d) {a k : _} (iha : At X A G Fs d a) : At X A G Fs d (.attr a k) := by
  intro e fc env ρ σ z σ' hA hE hm hd
  refine onAttrK hm fun q w pos hm => ?_
  refine and3K hm fun h1 h2 h3 => ?_
  refine bindK hd fun v e1 hd => ?_
  refine mapK hd fun u e2 hd => ?_
  refine prodK hd ?_
  exact .val (SE.attr C.x (C.atr ▸ eq_of_beq h1) h2 (iha _ fc env ρ σ v.1 _ hA hE h3 e1).1 e2)
theorem sn_sub (C : Ctx X G Fs d) {a i : _} (iha : At X A G Fs d a) (ihi : At X A G Fs d i) : At X A G Fs d (.sub a i) := by
  intro e fc env ρ σ z σ' hA hE hm hd
  refine onSubsK hm fun q sl pos hm => ?_
  refine and3K hm fun h1 h2 h3 => ?_
  refine bindK hd fun v e1 hd => ?_
  refine bindK hd fun u e2 hd => ?_
  refine mapK hd fun r e3 hd => ?_
  refine prodK hd ?_
  exact .val (SE.sub h1 (iha _ fc env ρ σ v.1 v.2 hA hE h2 e1).1 (ihi _ fc env ρ v.2 u.1 u.2 hA hE h3 e2).1 e3)
theorem sn_take (C : Ctx X G Fs d) {a n : _} (iha : At X A G Fs d a) : At X A G Fs d (.take a n) := by
  intro e fc env ρ σ z σ' hA hE hm hd
  refine onSubsK hm fun q sl pos hm => ?_
  refine and3K hm fun h0 h1 h2 => ?_
  revert h2
  refine onNameK h0 fun w np _ h2 => ?_
  refine onSliceK h1 fun lo up st p2 h1 => ?_
  refine and3K h1 fun q1 q2 q3 => ?_
  refine noneK q1 ?_
  refine noneK q2 ?_
  refine onOK q3 fun u q3 => ?_
  refine onIK q3 fun i k p q3 => ?_
  refine eqK q3 ?_
  refine bind2K hd fun v s1 e1 hd => ?_
  refine takeK hd fun id m xs ev hid hl hz => ?_
  cases ev
  refine pairK hz ?_
  exact .val (SE.take (iha _ fc env ρ σ _ s1 hA hE h2 e1).1 hid hl)
theorem sn_tup (C : Ctx X G Fs d) {es : _} (ihes : AtS X A G Fs d es) : At X A G Fs d (.tup es) := by
  intro e fc env ρ σ z σ' hA hE hm hd
  refine onTupK hm fun es' k pos hm => ?_
  refine bindK hd fun vs e1 hd => ?_
  refine ifK hd fun hl hd => ?_
  refine pairK hd ?_
  exact .val (SE.tup (ihes.1 _ fc env ρ σ vs.1 vs.2 hA hE hm e1).sl hl)
theorem sn_lst (C : Ctx X G Fs d) {es : _} (ihes : AtS X A G Fs d es) : At X A G Fs d (.lst es) := by
  intro e fc env ρ σ z σ' hA hE hm hd
  refine onLstK hm fun es' pos hm => ?_
  refine bindK hd fun vs e1 hd => ?_
  refine ifK hd fun hl hd => ?_
  refine pairK hd ?_
  exact .val (SE.lst (ihes.1 _ fc env ρ σ vs.1 vs.2 hA hE hm e1).sl hl)
theorem sn_rep (C : Ctx X G Fs d) {es n : _} (ihn : At X A G Fs d n) (ihes : AtS X A G Fs d es) : At X A G Fs d (.rep es n) := by
  intro e fc env ρ σ z σ' hA hE hm hd
  refine onBinK hm fun l o r pos hm => ?_
  refine and3K hm fun h0 h1 h2 => ?_
  refine eqK h0 ?_
  refine onLstK h1 fun es' p2 h1 => ?_
  refine bindK hd fun vs e1 hd => ?_
  refine bind2K hd fun u s2 e2 hd => ?_
  cases u with
  | int i =>
    refine ifK hd fun hc hd => ?_
    refine pairK hd ?_
    refine and4K hc fun c1 c2 c3 c4 => ?_
    have c1 := inN_iff.mp c1
    exact .val (SE.rep (ihes.1 _ fc env ρ σ vs.1 vs.2 hA hE h1 e1).sl (ihn _ fc env ρ vs.2 _ s2 hA hE h2 e2).1 c1.1 c1.2 (of_decide_eq_true c2) (of_decide_eq_true c3) (of_decide_eq_true c4))
  | _ => cases hd
theorem sn_dic (C : Ctx X G Fs d) {ks es : _} (ihes : AtS X A G Fs d es) : At X A G Fs d (.dic ks es) := by
  intro e fc env ρ σ z σ' hA hE hm hd
  refine onDictK hm fun keys es' pos hm => ?_
  refine andK hm fun h1 h2 => ?_
  refine bindK hd fun vs e1 hd => ?_
  refine ifK hd fun hc hd => ?_
  refine pairK hd ?_
  refine and4K hc fun c1 c2 c3 c4 => ?_
  exact .val (SE.dic C.x h1 (ihes.1 _ fc env ρ σ vs.1 vs.2 hA hE h2 e1) (of_decide_eq_true c1) (of_decide_eq_true c2) (of_decide_eq_true c3) (of_decide_eq_true c4))
theorem sn_range (C : Ctx X G Fs d) {as : _} (ihas : AtS X A G Fs d as) : At X A G Fs d (.range as) := by
  intro e fc env ρ σ z σ' hA hE hm hd
  refine onCallNK hm fun w np args pos hm => ?_
  refine and3K hm fun h1 h2 h3 => ?_
  cases eq_of_beq h1
  refine bindK hd fun vs e1 hd => ?_
  obtain ⟨h4, h5⟩ := isGlob_spec h2
  exact .val (SE.typ C.x hE (C.nob _ (by decide +kernel)) bb_range (by decide +kernel) h4 h5 (ihas.1 _ fc env ρ σ vs.1 vs.2 hA hE h3 e1).stars (ihas.1 _ fc env ρ σ vs.1 vs.2 hA hE h3 e1).sl (rangeE hd))
theorem sn_len (C : Ctx X G Fs d) {a : _} (iha : At X A G Fs d a) : At X A G Fs d (.len a) := by
  intro e fc env ρ σ z σ' hA hE hm hd
  refine onCallNK hm fun w np args pos hm => ?_
  refine on1K hm fun q hn => ?_
  refine and4K hn fun h1 h2 h3 h6 => ?_
  cases eq_of_beq h1
  refine bindK hd fun v e1 hd => ?_
  refine bindK hd fun xs e2 hd => ?_
  obtain ⟨h4, h5⟩ := isGlob_spec h2
  refine ifK hd fun hl hd => ?_
  refine pairK hd ?_
  exact .val (SE.blt C.x hE (C.nob _ (by decide +kernel)) bb_len (by decide +kernel) h4 h5 (all1 h3) (one_arg h3 (iha _ fc env ρ σ v.1 _ hA hE h6 e1).1) (calls_len e2 hl))
theorem sn_abs (C : Ctx X G Fs d) {a : _} (iha : At X A G Fs d a) : At X A G Fs d (.abs a) := by
  intro e fc env ρ σ z σ' hA hE hm hd
  refine onCallNK hm fun w np args pos hm => ?_
  refine on1K hm fun q hn => ?_
  refine and4K hn fun h1 h2 h3 h6 => ?_
  cases eq_of_beq h1
  refine bind2K hd fun v s1 e1 hd => ?_
  obtain ⟨h4, h5⟩ := isGlob_spec h2
  cases v with
  | int i =>
    refine pairK hd ?_
    exact .val (SE.blt C.x hE (C.nob _ (by decide +kernel)) bb_abs (by decide +kernel) h4 h5 (all1 h3) (one_arg h3 (iha _ fc env ρ σ _ s1 hA hE h6 e1).1) calls_abs)
  | _ => cases hd
theorem sn_list (C : Ctx X G Fs d) {a : _} (iha : At X A G Fs d a) : At X A G Fs d (.list a) := by
  intro e fc env ρ σ z σ' hA hE hm hd
  refine onCallNK hm fun w np args pos hm => ?_
  refine on1K hm fun q hn => ?_
  refine and4K hn fun h1 h2 h3 h6 => ?_
  cases eq_of_beq h1
  refine bind2K hd fun v s1 e1 hd => ?_
  obtain ⟨h4, h5⟩ := isGlob_spec h2
  refine listK hd fun id m x y s ns ev hid e4 hz => ?_
  cases ev
  refine prodK hz ?_
  exact .val (SE.typ C.x hE (C.nob _ (by decide +kernel)) bb_list (by decide +kernel) h4 h5 (all1 h3) (one_arg h3 (iha _ fc env ρ σ _ s1 hA hE h6 e1).1) (calls_list hA.hh hid e4))
theorem sn_toInt (C : Ctx X G Fs d) {a : _} (iha : At X A G Fs d a) : At X A G Fs d (.toInt a) := by
  intro e fc env ρ σ z σ' hA hE hm hd
  refine onCallNK hm fun w np args pos hm => ?_
  refine on1K hm fun q hn => ?_
  refine and4K hn fun h1 h2 h3 h6 => ?_
  cases eq_of_beq h1
  refine bind2K hd fun v s1 e1 hd => ?_
  obtain ⟨h4, h5⟩ := isGlob_spec h2
  cases v with
  | int i =>
    refine pairK hd ?_
    exact .val (SE.typ C.x hE (C.nob _ (by decide +kernel)) bb_int (by decide +kernel) h4 h5 (all1 h3) (one_arg h3 (iha _ fc env ρ σ _ s1 hA hE h6 e1).1) calls_int)
  | _ => cases hd
theorem sn_pow12 (C : Ctx X G Fs d) {a : _} (iha : At X A G Fs d a) : At X A G Fs d (.pow12 a) := by
  intro e fc env ρ σ z σ' hA hE hm hd
  refine onBinK hm fun l o r pos hm => ?_
  refine and3K hm fun h0 h1 h2 => ?_
  refine eqK h0 ?_
  refine onIK h1 fun j k p h1 => ?_
  refine eqK h1 ?_
  refine bind2K hd fun v s1 e1 hd => ?_
  cases v with
  | int i =>
    refine ifK hd fun hi hd => ?_
    cases hi
    refine pairK hd ?_
    exact .val (SE.pow12 (iha _ fc env ρ σ _ s1 hA hE h2 e1).1)
  | _ => cases hd
theorem sn_eqNil (C : Ctx X G Fs d) {neg a : _} (iha : At X A G Fs d a) : At X A G Fs d (.eqNil neg a) := by
  intro e fc env ρ σ z σ' hA hE hm hd
  refine onCmp1K hm fun l o r pos hm => ?_
  refine and3K hm fun h1 h3 h2 => ?_
  refine eqK h1 ?_
  refine onLstK h3 fun es p2 h3 => ?_
  refine nilK h3 ?_
  refine bind2K hd fun v s1 e1 hd => ?_
  refine takeK hd fun id m xs ev hid _ hz => ?_
  cases ev
  refine pairK hz ?_
  have hu : A.units < cLine := unitsE hA
  have i1 := (iha _ fc env ρ σ _ s1 hA hE h2 e1).1
  exact .bool (SE.eqNil hu i1 hid) (STr.eqNil hu i1 hid)
theorem sn_append (C : Ctx X G Fs d) {o a : _} (iho : At X A G Fs d o) (iha : At X A G Fs d a) : At X A G Fs d (.append o a) := by
  intro e fc env ρ σ z σ' hA hE hm hd
  refine onCallMK hm fun q w ap args pos hm => ?_
  refine on1K hm fun q2 hn => ?_
  refine and3K hn fun h0 h5 h6 => ?_
  refine and4K h0 fun h1 h2 h3 h4 => ?_
  refine eqK h1 ?_
  refine bind2K hd fun v s1 e1 hd => ?_
  refine notK hd fun hlst hd => ?_
  refine bindK hd fun u e4 hd => ?_
  refine mapK hd fun s3 e5 hd => ?_
  refine prodK hd ?_
  refine lstK_ hlst fun id m xs ev hid => ?_
  cases ev
  refine appK e5 fun xs' hid' hl e6 => ?_
  cases e6
  exact .val (SE.append h2 h3 h4 (iho _ fc env ρ σ _ s1 hA hE h5 e1).1 ⟨m, xs, hid⟩ (iha _ fc env ρ s1 u.1 u.2 hA hE h6 e4).1 hid' hl)
theorem sn_get (C : Ctx X G Fs d) {o k t : _} (iho : At X A G Fs d o) (ihk : At X A G Fs d k) (iht : At X A G Fs d t) : At X A G Fs d (.get o k t) := by
  intro e fc env ρ σ z σ' hA hE hm hd
  refine onCallMK hm fun q w ap args pos hm => ?_
  refine on2K hm fun q2 q3 hn => ?_
  refine and4K hn fun h0 h6 h7 h8 => ?_
  refine and5K h0 fun h1 h2 h3 h4 h5 => ?_
  refine eqK h1 ?_
  refine bind2K hd fun v s1 e1 hd => ?_
  refine notK hd fun hdic hd => ?_
  refine bind2K hd fun u s2 e4 hd => ?_
  refine bindK hd fun q e5 hd => ?_
  refine dicK_ hdic fun id m kvs ev hid => ?_
  cases ev
  cases u with
  | int i =>
    refine dicGetK hd fun m' kvs' hid' hd => ?_
    refine pairK hd ?_
    exact .val (SE.get h2 h3 h4 h5 (iho _ fc env ρ σ _ s1 hA hE h6 e1).1 ⟨m, kvs, hid⟩ (ihk _ fc env ρ s1 _ s2 hA hE h7 e4).1 (iht _ fc env ρ s2 q.1 q.2 hA hE h8 e5).1 hid')
  | _ => cases hd
theorem sn_index (C : Ctx X G Fs d) {o a : _} (iho : At X A G Fs d o) (iha : At X A G Fs d a) : At X A G Fs d (.index o a) := by
  intro e fc env ρ σ z σ' hA hE hm hd
  refine onCallMK hm fun q w ap args pos hm => ?_
  refine on1K hm fun q2 hn => ?_
  refine and3K hn fun h0 h5 h6 => ?_
  refine and4K h0 fun h1 h2 h3 h4 => ?_
  refine eqK h1 ?_
  refine bind2K hd fun v s1 e1 hd => ?_
  refine notK hd fun hlst hd => ?_
  refine bind2K hd fun u s2 e4 hd => ?_
  refine lstK_ hlst fun id m xs ev hid => ?_
  cases ev
  cases u with
  | int i =>
    refine lstGetK hd fun m' xs' hid' hd => ?_
    refine bindK hd fun ns e8 hd => ?_
    refine ifK hd fun hc hd => ?_
    refine pairK hd ?_
    refine andK hc fun c1 c2 => ?_
    exact .val (SE.index h2 h3 h4 (iho _ fc env ρ σ _ s1 hA hE h5 e1).1 ⟨m, xs, hid⟩ (iha _ fc env ρ s1 _ s2 hA hE h6 e4).1 hid' e8 (List.contains_iff_mem.mp c1) (of_decide_eq_true c2))
  | _ => cases hd
theorem sn_comp (C : Ctx X G Fs d) {n src conds elt : _} (ihsrc : At X A G Fs d src) (ihelt : At X A G Fs d elt) (ihconds : AtS X A G Fs d conds) : At X A G Fs d (.comp n src conds elt) := by
  intro e fc env ρ σ z σ' hA hE hm hd
  refine onLCK hm fun el gs scope pos hm => ?_
  refine on1K hm fun g hn => ?_
  refine onGenK hn fun w px iter ifs hk => ?_
  refine and5K hk fun h1 h2 h3 h4 h5 => ?_
  refine compK hd fun v vs is e1 e2 em hl e3 => ?_
  refine pairK e3 ?_
  have CF := compOK_fc h2
  have O := compOK_one h2
  exact .val (SE.compG hA.hh hE CF O.at_ (noSet_folded h1) (TW := fun acc cenv => oneW X A cenv acc ifs el) (fun it acc C R => gen_one) (ihsrc _ fc env ρ σ v.1 v.2 hA hE h3 e1).1 e2 (fun s μ S acc c fa fC hne v' is hP => by
    obtain ⟨b, p1, p2⟩ := hP
    have EO := CF.envOK hE (closOf scope env) c
    refine tspec_one CF O S fa fC hne ⟨b, ihconds.2.2 ifs _ _ _ v.2 b hA EO h4 p1, ?_⟩
    cases b with
    | false => exact p2
    | true =>
      obtain ⟨i, s4, p3, p4⟩ := p2
      cases p4
      exact ⟨i, s4, rfl, (ihelt el _ _ _ _ _ _ hA EO h5 p3).1⟩) em hl)
theorem sn_comp2 (C : Ctx X G Fs d) {n m src src2 elt : _} (ihsrc : At X A G Fs d src) (ihsrc2 : At X A G Fs d src2) (ihelt : At X A G Fs d elt) : At X A G Fs d (.comp2 n m src src2 elt) := by
  intro e fc env ρ σ z σ' hA hE hm hd
  refine onLCK hm fun el gs scope pos hm => ?_
  refine on2K hm fun g g' hn => ?_
  refine onGenK hn fun w px iter if1 hk => ?_
  refine onGenK hk fun w' px' i2e if2 hj => ?_
  refine and5K hj fun h6 h7 h3 h4 h5 => ?_
  refine and4K h6 fun k1 k2 h1 h1' => ?_
  refine and3K h7 fun c1 c2 h2 => ?_
  refine nilK k1 ?_
  refine nilK k2 ?_
  refine comp2K hd fun v vs is e1 e2 em hl e3 => ?_
  refine pairK e3 ?_
  have CF := compOK_fc h2
  have O := compOK_two h2 (of_decide_eq_true c1) (bne_iff_ne.mp c2)
  exact .val (SE.compG hA.hh hE CF O.at_ (noSet_folded h1) (TW := fun acc cenv => outW X A cenv acc _ i2e) (fun it acc C R => gen_out (noSet_folded h1')) (ihsrc _ fc env ρ σ v.1 v.2 hA hE h3 e1).1 e2 (fun s μ S acc c fa fC hne v' is hP => by
    obtain ⟨x2, s2, us, p1, p2, p3⟩ := hP
    have EO := CF.envOK hE (closOf scope env) c
    exact tspec_two hA.hh CF O hE S fa fC hne ⟨x2, s2, us, (ihsrc2 i2e _ _ _ _ _ _ hA EO h4 p1).1, p2, p3⟩ fun u is hP => by
      obtain ⟨q1, i, s4, q2, q3⟩ := hP
      cases q3
      exact ⟨q1, i, s4, rfl, (ihelt el _ _ _ _ _ _ hA EO h5 q2).1⟩) em hl)
theorem sl_nil : AtL X A G Fs d .nil := by
  intro es fc env ρ σ vs σ' hA hE hm hd
  refine nilK hm ?_
  refine pairK hd ?_
  exact .nil
theorem sl_cons {a : IE} {as : IEs} (ia : At X A G Fs d a) (is : AtL X A G Fs d as) : AtL X A G Fs d (.cons a as) := by
  intro es fc env ρ σ vs σ' hA hE hm hd
  refine mEsK hm fun e es h1 h2 h3 => ?_
  refine bindK hd fun v e1 hd => ?_
  refine mapK hd fun us e2 hd => ?_
  refine prodK hd ?_
  exact .cons h1 (ia e fc env ρ σ v.1 v.2 hA hE h2 e1).1 (is es fc env ρ v.2 us.1 us.2 hA hE h3 e2)
theorem sb_nil : AtB X A G Fs d .nil := by
  intro es o fc env ρ σ z σ' hA hE hm hd
  replace hd : (none : Option (AV × AH)) = some (z, σ') := hd
  cases hd
theorem st_nil : AtT X A G Fs d .nil := by
  intro es fc env ρ σ b hA hE hm hd
  refine nilK hm ?_
  cases Option.some.inj hd
  exact TE.nil
theorem st_cons {a : IE} {as : IEs} (ia : At X A G Fs d a) (is : AtT X A G Fs d as) : AtT X A G Fs d (.cons a as) := by
  intro es fc env ρ σ b hA hE hm hd
  refine mEsK hm fun e es h1 h2 h3 => ?_
  refine bindK hd fun v e1 hd => ?_
  refine bindK hd fun t e2 e3 => ?_
  have ih := (ia e fc env ρ (freeze σ) v.1 v.2 hA hE h2 e1).2 t e2
  cases t with
  | true => exact TE.go ih (is es fc env ρ σ b hA hE h3 e3)
  | false =>
    cases e3
    exact TE.stop ih
theorem sb_cons {a : IE} {as : IEs} (ia : At X A G Fs d a) (is : AtB X A G Fs d as) : AtB X A G Fs d (.cons a as) := by
  intro es o fc env ρ σ z σ' hA hE hm hd
  refine mEsK hm fun e es h1 h2 h3 => ?_
  refine bindK hd fun v e1 e2 => ?_
  have ih := ia e fc env ρ σ v.1 v.2 hA hE h2 e1
  cases as with
  | nil =>
    refine nilK h3 ?_
    cases e2
    exact ⟨fun pos => SE.bop1 ih.1, fun b hb => STr.all1 (ih.2 b hb)⟩
  | cons a' as' =>
    refine bindK e2 fun t e3 e4 => ?_
    revert h3
    cases es with
    | nil => exact fun h3 => Bool.noConfusion h3
    | cons e' es' =>
    intro h3
    cases ht : t == o with
    | true =>
      rw [ht] at e4
      cases e4
      refine ⟨fun pos => SE.bopStop ih.1 e3 ht, fun b hb => ?_⟩
      rw [e3] at hb
      cases hb
      exact STr.allStop (ih.2 t e3) ht
    | false =>
      rw [ht] at e4
      have i := is _ o fc env ρ v.2 z σ' hA hE h3 e4
      exact ⟨fun pos => SE.bopGo ih.1 e3 ht (i.1 pos), fun b hb => STr.allGo (ih.2 t e3) ht (i.2 b hb)⟩
mutual
theorem sndAt (C : Ctx X G Fs d) : ∀ ie : IE, At X A G Fs d ie
  | .int i => sn_int C
  | .bool i => sn_bool C
  | .none => sn_none C
  | .var n => sn_var C
  | .gint w i => sn_gint C
  | .gref w k => sn_gref C
  | .bin op a b => sn_bin C (sndAt C a) (sndAt C b)
  | .una op a => sn_una C (sndAt C a)
  | .bop o es => sn_bop C (sndAtS C es)
  | .cmp op a b => sn_cmp C (sndAt C a) (sndAt C b)
  | .cmp2 o1 o2 a b c => sn_cmp2 C (sndAt C a) (sndAt C b) (sndAt C c)
  | .isIn neg a b => sn_isIn C (sndAt C a) (sndAt C b)
  | .isNone neg a => sn_isNone C (sndAt C a)
  | .ite c a b => sn_ite C (sndAt C c) (sndAt C a) (sndAt C b)
  | .call f as => sn_call C (sndAtS C as)
  | .new c f as => sn_new C (sndAtS C as)
  | .attr a k => sn_attr C (sndAt C a)
  | .sub a i => sn_sub C (sndAt C a) (sndAt C i)
  | .take a n => sn_take C (sndAt C a)
  | .tup es => sn_tup C (sndAtS C es)
  | .lst es => sn_lst C (sndAtS C es)
  | .rep es n => sn_rep C (sndAt C n) (sndAtS C es)
  | .dic ks es => sn_dic C (sndAtS C es)
  | .range as => sn_range C (sndAtS C as)
  | .len a => sn_len C (sndAt C a)
  | .abs a => sn_abs C (sndAt C a)
  | .list a => sn_list C (sndAt C a)
  | .toInt a => sn_toInt C (sndAt C a)
  | .pow12 a => sn_pow12 C (sndAt C a)
  | .eqNil neg a => sn_eqNil C (sndAt C a)
  | .append o a => sn_append C (sndAt C o) (sndAt C a)
  | .get o k t => sn_get C (sndAt C o) (sndAt C k) (sndAt C t)
  | .index o a => sn_index C (sndAt C o) (sndAt C a)
  | .comp n src conds elt => sn_comp C (sndAt C src) (sndAt C elt) (sndAtS C conds)
  | .comp2 n m src src2 elt => sn_comp2 C (sndAt C src) (sndAt C src2) (sndAt C elt)
theorem sndAtS (C : Ctx X G Fs d) : ∀ ies : IEs, AtS X A G Fs d ies
  | .nil => ⟨sl_nil, sb_nil, st_nil⟩
  | .cons a as => ⟨sl_cons (sndAt C a) (sndAtS C as).1, sb_cons (sndAt C a) (sndAtS C as).2.1, st_cons (sndAt C a) (sndAtS C as).2.2⟩
end
theorem sndE (C : Ctx X G Fs d) (ie : IE) (e : PySem.Expr) (fc : FC) (env : Env) (ρ : Rho) (σ : AH) (z : AV) (σ' : AH) (hA : AOK A (d + 1)) (hE : EnvOK env fc) (hm : mE G fc ie e = true) (hd : den Fs ie ρ σ = some (z, σ')) : Snd X A env fc ρ e σ z σ' := sndAt C ie e fc env ρ σ z σ' hA hE hm hd
theorem sndT (C : Ctx X G Fs d) (ies : IEs) (es : List PySem.Expr) (fc : FC) (env : Env) (ρ : Rho) (σ : AH) (b : Bool) (hA : AOK A (d + 1)) (hE : EnvOK env fc) (hm : mEs G fc ies es = true) (hd : denAll Fs ies ρ (freeze σ) = some b) : TE X A env fc ρ es σ b := (sndAtS C ies).2.2 es fc env ρ σ b hA hE hm hd
end
end Mine
namespace Mine
open PySem PySem.W PySem.Calls PyProof.Rows

/-! ## Statements -/
noncomputable def swapB (fc : FC) (t : Str) (tp : Pos) : PySem.Expr → Bool
  | .ListComp _ _ s vp => fc.names.lookup t == some .local && tp.line == vp.line && !(s.names.any fun x => x.1 == t && (x.2 == .local || x.2 == .cell))
  | _ => false
noncomputable def noSD : PySem.Expr → Bool
  | .SetComp .. | .DictComp .. => false
  | _ => true
noncomputable def isCompI : IE → Bool
  | .comp .. => true
  | _ => false
noncomputable def tupPlain (es : List PySem.Expr) : PySem.Expr → Bool
  | .Tuple .. => decide (4 ≤ es.length)
  | _ => true
noncomputable def tupSwap (fc : FC) (ns : List Nat) (es : List PySem.Expr) (v : PySem.Expr) : Bool :=
  on2 ns fun n n' => on2 es fun a b => onName a fun w p => onName b fun w' p' => onTup v fun vs => on2 vs fun v1 v2 =>
    (decide (n ≠ n') && fc.names.lookup w == some .local && fc.names.lookup w' == some .local && p.line == p'.line && w != w') && (noStar v1 && noStar v2) &&
      !(foldedForSure 8 v1 && foldedForSure 8 v2) && !(constantsAlone 8 v1 && constantsAlone 8 v2)

theorem blockKind_fn {env : Env} (h : env.scope.kind = .function) : env.blockKind = .function := by
  unfold Env.blockKind
  rw [h]; rfl
theorem swaps_name {env : Env} {fc : FC} (e : EnvOK env fc) {v : PySem.Expr} (h : noSD v = true) {w : Str} {p : Pos} {l : Nat} : swapsWith v (some (.Name w p)) l env = pure (swapB fc w p v) := by
  have hk : (env.blockKind == ScopeKind.function) = true := by rw [blockKind_fn e.kind]; rfl
  have hw : env.kindOf w = fc.names.lookup w := by unfold Env.kindOf; rw [e.names]
  cases v with
  | ListComp a b s vp =>
    show pure (env.blockKind == .function && env.kindOf w == some .local && p.line == vp.line && !(s.names.any fun (n, k) => n == w && (k == .local || k == .cell))) = pure _
    rw [hk, hw]; rfl
  | SetComp => cases h
  | DictComp => cases h
  | _ => rfl
theorem swaps_attr {env : Env} {v u : PySem.Expr} {w : Str} {p : Pos} {l : Nat} : swapsWith v (some (.Attribute u w p)) l env = pure false := by cases v <;> rfl
theorem swaps_subs {env : Env} {v u w : PySem.Expr} {p : Pos} {l : Nat} : swapsWith v (some (.Subscript u w p)) l env = pure false := by cases v <;> rfl
theorem swaps_sole {env : Env} {v : PySem.Expr} {es : List PySem.Expr} {k : Nat} {p : Pos} {l : Nat} : swapsWithSole [.Tuple es k p] v l env = pure false := by cases v <;> rfl
theorem swaps_none {env : Env} {v : PySem.Expr} {l : Nat} (h : isComp v = false) : swapsWith v none l env = pure false := by
  cases v <;> first | rfl | cases h
theorem stores_plain {env : Env} {es : List PySem.Expr} {k : Nat} {p : Pos} {v : PySem.Expr} (h : tupPlain es v = true) : swappedStores [.Tuple es k p] v env = pure none := by
  cases v with
  | Tuple vs k' p' =>
    have h : 4 ≤ es.length := of_decide_eq_true h
    have h2 : (es.length == 2) = false := beq_eq_false_iff_ne.mpr (Nat.ne_of_gt (Nat.lt_of_lt_of_le (by decide) h))
    have h3 : (es.length == 3) = false := beq_eq_false_iff_ne.mpr (Nat.ne_of_gt (Nat.lt_of_lt_of_le (by decide) h))
    have c : (!(es.length == 2 || es.length == 3) || vs.length != es.length || env.blockKind != .function) = true := by rw [h2, h3]; rfl
    exact (if_pos c).trans rfl
  | _ => rfl
theorem noStar_any {v1 v2 : PySem.Expr} (s1 : noStar v1 = true) (s2 : noStar v2 = true) : ([v1, v2].any fun | .Starred .. => true | _ => false) = false := by
  have n1 : ∀ {v : PySem.Expr}, noStar v = true → (match v with | .Starred .. => true | _ => false) = false := fun {v} h => by cases v <;> first | rfl | cases h
  rw [List.any_cons, List.any_cons, n1 s1, n1 s2]; rfl
theorem stores_swap {env : Env} {fc : FC} (e : EnvOK env fc) {w w' : Str} {p p' tp vp : Pos} {k k' : Nat} {v1 v2 : PySem.Expr} (h1 : fc.names.lookup w = some .local) (h2 : fc.names.lookup w' = some .local) (hl : p.line = p'.line) (hw : w ≠ w')
    (s1 : noStar v1 = true) (s2 : noStar v2 = true) (hf : (foldedForSure 8 v1 && foldedForSure 8 v2) = false) (hc : (constantsAlone 8 v1 && constantsAlone 8 v2) = false) :
    swappedStores [.Tuple [.Name w p, .Name w' p'] k tp] (.Tuple [v1, v2] k' vp) env = pure (some [w, w']) := by
  have hk : (env.blockKind != ScopeKind.function) = false := by rw [blockKind_fn e.kind]; rfl
  have e1 : env.kindOf w = some .local := by unfold Env.kindOf; rw [e.names]; exact h1
  have e2 : env.kindOf w' = some .local := by unfold Env.kindOf; rw [e.names]; exact h2
  have hd' : (w' == w) = false := beq_eq_false_iff_ne.mpr fun q => hw q.symm
  have c1 : ¬ (!(2 == 2 || 2 == 3) || 2 != 2 || env.blockKind != .function) = true := by rw [hk]; decide
  refine (if_neg c1).trans ?_
  refine (if_neg fun q => Bool.noConfusion ((noStar_any s1 s2).symm.trans q)).trans ?_
  have fm : ([PySem.Expr.Name w p, .Name w' p'].filterMap fun | .Name id pos => if env.kindOf id == some .local && pos.line == p.line then some id else none | _ => none) = [w, w'] := by
    have q1 : (env.kindOf w == some .local && p.line == p.line) = true := by rw [e1, beq_self_eq_true, beq_self_eq_true]; rfl
    have q2 : (env.kindOf w' == some .local && p'.line == p.line) = true := by rw [e2, hl, beq_self_eq_true, beq_self_eq_true]; rfl
    rw [List.filterMap_cons, List.filterMap_cons]
    dsimp only
    rw [if_pos q1, if_pos q2]; rfl
  have er : [w, w'].eraseDups = [w, w'] := by simp [List.eraseDups, List.eraseDupsBy, List.eraseDupsBy.loop, hd']
  have c3 : ¬ (([PySem.Expr.Name w p, .Name w' p'].filterMap fun | .Name id pos => if env.kindOf id == some .local && pos.line == p.line then some id else none | _ => none).length != 2 ||
      ([PySem.Expr.Name w p, .Name w' p'].filterMap fun | .Name id pos => if env.kindOf id == some .local && pos.line == p.line then some id else none | _ => none).eraseDups.length != ([PySem.Expr.Name w p, .Name w' p'].filterMap fun | .Name id pos => if env.kindOf id == some .local && pos.line == p.line then some id else none | _ => none).length) = true := by
    rw [fm, er]; exact fun q => Bool.noConfusion q
  refine (if_neg c3).trans ?_
  have c4 : ¬ ([v1, v2].all (foldedForSure 8)) = true := by rw [List.all_cons, List.all_cons, List.all_nil, Bool.and_true, hf]; decide
  refine (if_neg c4).trans ?_
  have c5 : ¬ ([v1, v2].all (constantsAlone 8)) = true := by rw [List.all_cons, List.all_cons, List.all_nil, Bool.and_true, hc]; decide
  refine (if_neg c5).trans ?_
  exact congrArg (fun l => (pure (some l) : Sem (Option (List Str)))) fm

noncomputable def onAssign : Stmt → (List PySem.Expr → PySem.Expr → Bool) → Bool
  | .Assign ts v _, q => q ts v
  | _, _ => false
@[elab_as_elim] theorem onAssignK {e : Stmt} {q : List PySem.Expr → PySem.Expr → Bool} {M : Stmt → Prop} (h : onAssign e q = true) (kk : ∀ ts v pos, q ts v = true → M (.Assign ts v pos)) : M e := by
  cases e <;> first | exact Bool.noConfusion h | exact kk _ _ _ h
noncomputable def onAug : Stmt → (PySem.Expr → Operator → PySem.Expr → Bool) → Bool
  | .AugAssign t o v _, q => q t o v
  | _, _ => false
@[elab_as_elim] theorem onAugK {e : Stmt} {q : PySem.Expr → Operator → PySem.Expr → Bool} {M : Stmt → Prop} (h : onAug e q = true) (kk : ∀ t o v pos, q t o v = true → M (.AugAssign t o v pos)) : M e := by
  cases e <;> first | exact Bool.noConfusion h | exact kk _ _ _ _ h
noncomputable def onIfS : Stmt → (PySem.Expr → List Stmt → List Stmt → Bool) → Bool
  | .If t u v _, q => q t u v
  | _, _ => false
@[elab_as_elim] theorem onIfSK {e : Stmt} {q : PySem.Expr → List Stmt → List Stmt → Bool} {M : Stmt → Prop} (h : onIfS e q = true) (kk : ∀ t u v pos, q t u v = true → M (.If t u v pos)) : M e := by
  cases e <;> first | exact Bool.noConfusion h | exact kk _ _ _ _ h
noncomputable def onWhile : Stmt → (PySem.Expr → List Stmt → List Stmt → Bool) → Bool
  | .While t u v _, q => q t u v
  | _, _ => false
@[elab_as_elim] theorem onWhileK {e : Stmt} {q : PySem.Expr → List Stmt → List Stmt → Bool} {M : Stmt → Prop} (h : onWhile e q = true) (kk : ∀ t u v pos, q t u v = true → M (.While t u v pos)) : M e := by
  cases e <;> first | exact Bool.noConfusion h | exact kk _ _ _ _ h
noncomputable def onFor : Stmt → (PySem.Expr → PySem.Expr → List Stmt → List Stmt → Bool) → Bool
  | .For t i u v _, q => q t i u v
  | _, _ => false
@[elab_as_elim] theorem onForK {e : Stmt} {q : PySem.Expr → PySem.Expr → List Stmt → List Stmt → Bool} {M : Stmt → Prop} (h : onFor e q = true) (kk : ∀ t i u v pos, q t i u v = true → M (.For t i u v pos)) : M e := by
  cases e <;> first | exact Bool.noConfusion h | exact kk _ _ _ _ _ h
noncomputable def onRet : Stmt → (Option PySem.Expr → Bool) → Bool
  | .Return v _, q => q v
  | _, _ => false
@[elab_as_elim] theorem onRetK {e : Stmt} {q : Option PySem.Expr → Bool} {M : Stmt → Prop} (h : onRet e q = true) (kk : ∀ v pos, q v = true → M (.Return v pos)) : M e := by
  cases e <;> first | exact Bool.noConfusion h | exact kk _ _ h
noncomputable def onExprS : Stmt → (PySem.Expr → Bool) → Bool
  | .Expr v _, q => q v
  | _, _ => false
@[elab_as_elim] theorem onExprSK {e : Stmt} {q : PySem.Expr → Bool} {M : Stmt → Prop} (h : onExprS e q = true) (kk : ∀ v pos, q v = true → M (.Expr v pos)) : M e := by
  cases e <;> first | exact Bool.noConfusion h | exact kk _ _ h
noncomputable def isBrk : Stmt → Bool
  | .Break _ => true
  | _ => false
@[elab_as_elim] theorem isBrkK {s : Stmt} {M : Stmt → Prop} (h : isBrk s = true) (k : ∀ pos, M (.Break pos)) : M s := by cases s <;> first | exact Bool.noConfusion h | exact k _
mutual
noncomputable def mS (G : Tab) (fc : FC) : IS → Stmt → Bool
  | .asg n e, s => onAssign s fun ts v => on1 ts fun t => onName t fun w p => nameAt fc n (.Name w p) && noSD v && (!swapB fc w p v || isCompI e) && mE G fc e v
  | .asgT ns e, s => onAssign s fun ts v => on1 ts fun t => onTup t fun es => namesAt fc ns es && (tupPlain es v || tupSwap fc ns es v) && mE G fc e v
  | .setA o k e, s => onAssign s fun ts v => on1 ts fun t => onAttr t fun u w _ => G.atr[k]? == some w && mE G fc o u && mE G fc e v
  | .setI o i e, s => onAssign s fun ts v => on1 ts fun t => onSubs t fun u j => mE G fc o u && mE G fc i j && mE G fc e v
  | .aug op n e, s => onAug s fun t o v => isVar fc n t && o == bop op && mE G fc e v
  | .augA op o k e, s => onAug s fun t q v => onAttr t fun u w _ => G.atr[k]? == some w && q == bop op && mE G fc o u && mE G fc e v
  | .augI op o i e, s => onAug s fun t q v => onSubs t fun u j => noSlice j && q == bop op && mE G fc o u && mE G fc i j && mE G fc e v
  | .ite c a b, s => onIfS s fun t u v => mE G fc c t && mSs G fc a u && mSs G fc b v
  | .while c b, s => onWhile s fun t u v => v.isEmpty && mE G fc c t && mSs G fc b u
  | .for ns tu src b, s => onFor s fun t it u v => (v.isEmpty && Tgt fc ns tu t) && noSet it && mE G fc src it && mSs G fc b u
  | .ret e, s => onRet s fun o => onO o fun v => mE G fc e v
  | .brk, s => isBrk s
  | .expr e, s => onExprS s fun v => !isComp v && mE G fc e v
  | .bad, _ => true
noncomputable def mSs (G : Tab) (fc : FC) : ISs → List Stmt → Bool
  | .nil, ss => ss.isEmpty
  | .cons a as, ss => match ss with
    | s :: ss => mS G fc a s && mSs G fc as ss
    | [] => false
end
@[elab_as_elim] theorem mSsK {G : Tab} {fc : FC} {a : IS} {as : ISs} {es : List Stmt} {M : List Stmt → Prop} (h : mSs G fc (.cons a as) es = true) (k : ∀ e es', mS G fc a e = true → mSs G fc as es' = true → M (e :: es')) : M es := by
  cases es with
  | nil => cases h
  | cons e es => exact k e es (andE h).1 (andE h).2
end Mine
namespace Mine
open PySem PySem.W PySem.Calls PyProof.Rows

section
variable {X : Cx} {G : Tab} {Fs : List Fun} {d : Nat} {A : Around} {env : Env} {fc : FC} {ρ : Rho} {σ σ₁ σ₂ σ₃ σ' : AH} {x y z : AV}

theorem asg_comp (C : Ctx X G Fs d) (hA : AOK A (d + 1)) (hE : EnvOK env fc) {n₀ n : Nat} {w : Str} {b₀ : Bool} {src elt : IE} {conds : IEs} {p pos : Pos} {v : PySem.Expr} (hw₀ : fc.slots[n₀]? = some (some (w, b₀))) (hsw : swapsWith v (some (.Name w p)) pos.line env = pure true)
    (hm : mE G fc (.comp n src conds elt) v = true) (hd : den Fs (.comp n src conds elt) ρ σ = some (z, σ')) : SS X A env fc ρ (exec (.Assign [.Name w p] v pos) env) σ .next (ρ.set n₀ (some z)) σ' := by
  revert hsw
  refine onLCK hm fun el gs scope pos' hm hsw => ?_
  refine on1K hm fun g hn => ?_
  refine onGenK hn fun w' px iter ifs hk => ?_
  refine and5K hk fun h1 h2 h3 h4 h5 => ?_
  refine compK hd fun v vs is e1 e2 em hl e3 => ?_
  refine pairK e3 ?_
  have CF := compOK_fc h2
  have O := compOK_one h2
  exact SS.asgCompG hA.hh hE CF O.at_ hw₀ (noSet_folded h1) hsw (TW := fun acc cenv => oneW X A cenv acc ifs el) (fun it acc C R => gen_one) (sndE C src _ fc env ρ σ v.1 v.2 hA hE h3 e1).1 e2 (fun s μ S acc c fa fC hne v' is hP => by
    obtain ⟨b, p1, p2⟩ := hP
    have EO := CF.envOK hE (closOf scope env) c
    refine tspec_one CF O S fa fC hne ⟨b, sndT C conds ifs _ _ _ v.2 b hA EO h4 p1, ?_⟩
    cases b with
    | false => exact p2
    | true =>
      obtain ⟨i, s4, p3, p4⟩ := p2
      cases p4
      exact ⟨i, s4, rfl, (sndE C elt el _ _ _ _ _ _ hA EO h5 p3).1⟩) em hl

theorem fn_not_interactive {env : Env} (h : env.scope.kind = .function) : interactive env = false := by
  unfold interactive
  rw [h]; rfl

theorem notF {b : Bool} (h : (!b) = true) : b = false := by cases b <;> first | rfl | cases h
@[elab_as_elim] theorem two_of {α : Type} {l : List α} {n n' : Nat} {M : List α → Prop} (h : l.length = [n, n'].length) (k : ∀ a b, M [a, b]) : M l := by
  cases l with
  | nil => cases h
  | cons a l =>
    cases l with
    | nil => cases h
    | cons b l =>
      cases l with
      | nil => exact k a b
      | cons c l => cases h
theorem augK {n : Nat} {ρ : Rho} {K : Int → Option (Fl × Rho × AH)} {w : Fl × Rho × AH} {C : Prop} (h : (match ρ[n]? with | some (some (.int a)) => K a | _ => .none) = some w) (k : ∀ a, ρ[n]? = some (some (.int a)) → K a = some w → C) : C := by
  cases q : ρ[n]? with
  | none => rw [q] at h; cases h
  | some o =>
    rw [q] at h
    cases o with
    | none => cases h
    | some v =>
      cases v with
      | int a => exact k a q h
      | _ => cases h
@[elab_as_elim] theorem tupSwapK {fc : FC} {ns : List Nat} {es : List PySem.Expr} {v : PySem.Expr} {M : List Nat → List PySem.Expr → PySem.Expr → Prop} (h : tupSwap fc ns es v = true) (kk : ∀ n n' w p w' p' v1 v2 k vp,
    ((decide (n ≠ n') && fc.names.lookup w == some .local && fc.names.lookup w' == some .local && p.line == p'.line && w != w') && (noStar v1 && noStar v2) && !(foldedForSure 8 v1 && foldedForSure 8 v2) && !(constantsAlone 8 v1 && constantsAlone 8 v2)) = true →
    M [n, n'] [.Name w p, .Name w' p'] (.Tuple [v1, v2] k vp)) : M ns es v := by
  refine on2K h fun n n' h => ?_
  refine on2K h fun a b h => ?_
  refine onNameK h fun w p h => ?_
  refine onNameK h fun w' p' h => ?_
  refine onTupK h fun vs k vp h => ?_
  refine on2K h fun v1 v2 h => ?_
  exact kk n n' w p w' p' v1 v2 k vp h
noncomputable def AtX (X : Cx) (A : Around) (G : Tab) (Fs : List Fun) (d : Nat) (is : IS) : Prop := ∀ (st : Stmt) (fc : FC) (env : Env) (ρ : Rho) (σ : AH) (f : Fl) (ρ' : Rho) (σ' : AH), AOK A (d + 1) → EnvOK env fc → mS G fc is st = true → exe Fs is ρ σ = some (f, ρ', σ') → SS X A env fc ρ (exec st env) σ f ρ' σ'
noncomputable def AtXs (X : Cx) (A : Around) (G : Tab) (Fs : List Fun) (d : Nat) (is : ISs) : Prop := ∀ (st : List Stmt) (fc : FC) (env : Env) (ρ : Rho) (σ : AH) (f : Fl) (ρ' : Rho) (σ' : AH), AOK A (d + 1) → EnvOK env fc → mSs G fc is st = true → exes Fs is ρ σ = some (f, ρ', σ') → SS X A env fc ρ (execs st env) σ f ρ' σ'
@[elab_as_elim] theorem trioK {α β γ : Type} {a a' : α} {b b' : β} {c c' : γ} {M : α → β → γ → Prop} (h : (a, b, c) = (a', b', c')) (k : M a b c) : M a' b' c' := by cases h; exact k
@[elab_as_elim] theorem trioSK {α β γ : Type} {a a' : α} {b b' : β} {c c' : γ} {M : α → β → γ → Prop} (h : some (a, b, c) = some (a', b', c')) (k : M a b c) : M a' b' c' := by cases h; exact k
theorem ss_asg (C : Ctx X G Fs d) {n e : _}  : AtX X A G Fs d (.asg n e) := by
  intro st fc env ρ σ f ρ' σ' hA hE hm hd
  refine onAssignK hm fun ts v pos hm => ?_
  refine on1K hm fun t hn => ?_
  refine onNameK hn fun w p hk => ?_
  refine and4K hk fun h1 h2 h3 h4 => ?_
  refine slotIsK (h1 : slotIs fc.slots[n]? w = true) fun b hs => ?_
  refine mapK hd fun u e2 hd => ?_
  refine trioK hd ?_
  have hsw := swaps_name (v := v) (w := w) (p := p) (l := pos.line) hE h2
  cases hb : swapB fc w p v with
  | false =>
    rw [hb] at hsw
    exact SS.asg hE hs hsw (sndE C e _ fc env ρ σ u.1 _ hA hE h4 e2).1
  | true =>
    rw [hb] at hsw h3
    cases e with
    | comp => exact asg_comp C hA hE hs hsw h4 e2
    | _ => cases h3
theorem ss_asgT (C : Ctx X G Fs d) {ns e : _}  : AtX X A G Fs d (.asgT ns e) := by
  intro st fc env ρ σ f ρ' σ' hA hE hm hd
  refine onAssignK hm fun ts v pos hm => ?_
  refine on1K hm fun t hn => ?_
  refine onTupK hn fun es k tp hk => ?_
  refine and3K hk fun h1 h2 h3 => ?_
  refine bindK hd fun u e1 hd => ?_
  refine mapK hd fun r1 e2 hd => ?_
  refine trioK hd ?_
  have i1 := (sndE C e _ fc env ρ σ u.1 _ hA hE h3 e1).1
  refine bindTK e2 fun id m vs hu hid hl hr => ?_
  cases hr
  rw [hu] at i1
  rcases Bool.or_eq_true_iff.mp h2 with h2 | h2
  · exact SS.asgT hE hA.hh h1 hl swaps_sole (stores_plain h2) i1 hid
  · revert h1 hl i1
    refine tupSwapK h2 fun n n' w p w' p' v1 v2 k' vp q h1 i1 hl => ?_
    refine and4K q fun q1 q2 q3 q4 => ?_
    refine and5K q1 fun q5 q6 q7 q8 q9 => ?_
    revert hid
    refine two_of hl fun a1 a2 hid => ?_
    refine slotIsK (andE h1).1 fun b1 hs1 => ?_
    refine slotIsK (andE (andE h1).2).1 fun b2 hs2 => ?_
    exact SS.asgT2 hE hA.hh hs1 hs2 (of_decide_eq_true q5) swaps_sole (stores_swap hE (eq_of_beq q6) (eq_of_beq q7) (eq_of_beq q8) (bne_iff_ne.mp q9) (andE q2).1 (andE q2).2 (notF q3) (notF q4)) i1 hid
theorem ss_setA (C : Ctx X G Fs d) {o k e : _}  : AtX X A G Fs d (.setA o k e) := by
  intro st fc env ρ σ f ρ' σ' hA hE hm hd
  refine onAssignK hm fun ts v pos hm => ?_
  refine on1K hm fun t hn => ?_
  refine onAttrK hn fun u w ap hk => ?_
  refine and3K hk fun h1 h2 h3 => ?_
  refine bindK hd fun v e1 hd => ?_
  refine bindK hd fun u e2 hd => ?_
  refine mapK hd fun s3 e3 hd => ?_
  refine trioK hd ?_
  exact SS.setA C.x (C.atr ▸ eq_of_beq h1) swaps_attr (sndE C e _ fc env ρ σ v.1 v.2 hA hE h3 e1).1 (sndE C o _ fc env ρ v.2 u.1 u.2 hA hE h2 e2).1 e3
theorem ss_setI (C : Ctx X G Fs d) {o i e : _}  : AtX X A G Fs d (.setI o i e) := by
  intro st fc env ρ σ f ρ' σ' hA hE hm hd
  refine onAssignK hm fun ts v pos hm => ?_
  refine on1K hm fun t hn => ?_
  refine onSubsK hn fun u j ap hk => ?_
  refine and3K hk fun h1 h2 h3 => ?_
  refine bindK hd fun v e1 hd => ?_
  refine bindK hd fun u e2 hd => ?_
  refine bindK hd fun q e3 hd => ?_
  refine mapK hd fun s3 e4 hd => ?_
  refine trioK hd ?_
  exact SS.setI swaps_subs (sndE C e _ fc env ρ σ v.1 v.2 hA hE h3 e1).1 (sndE C o _ fc env ρ v.2 u.1 u.2 hA hE h1 e2).1 (sndE C i _ fc env ρ u.2 q.1 q.2 hA hE h2 e3).1 e4
theorem ss_aug (C : Ctx X G Fs d) {op n e : _}  : AtX X A G Fs d (.aug op n e) := by
  intro st fc env ρ σ f ρ' σ' hA hE hm hd
  refine onAugK hm fun t q v pos hm => ?_
  refine and3K hm fun h1 h2 h3 => ?_
  refine eqK h2 ?_
  refine isVarK h1 fun w b p hs hd' => ?_
  refine augK hd fun a hv hd => ?_
  refine bind2K hd fun v s1 e1 hd => ?_
  cases v with
  | int i =>
    refine mapK hd fun r e3 hd => ?_
    refine trioK hd ?_
    exact SS.aug hE hs hv hd' (sndE C e _ fc env ρ σ _ s1 hA hE h3 e1).1 e3
  | _ => cases hd
theorem ss_augA (C : Ctx X G Fs d) {op o k e : _}  : AtX X A G Fs d (.augA op o k e) := by
  intro st fc env ρ σ f ρ' σ' hA hE hm hd
  refine onAugK hm fun t q v pos hm => ?_
  refine onAttrK hm fun u w ap hn => ?_
  refine and4K hn fun h1 h2 h3 h4 => ?_
  refine eqK h2 ?_
  refine bindK hd fun v e1 hd => ?_
  refine bindK hd fun a e2 hd => ?_
  refine bind2K hd fun u s2 e3 hd => ?_
  cases a with
  | int a =>
    cases u with
    | int u =>
      refine bindK hd fun r e5 hd => ?_
      refine mapK hd fun s3 e6 hd => ?_
      refine trioK hd ?_
      exact SS.augA C.x (C.atr ▸ eq_of_beq h1) (sndE C o _ fc env ρ σ v.1 v.2 hA hE h3 e1).1 e2 (sndE C e _ fc env ρ v.2 _ s2 hA hE h4 e3).1 e5 e6
    | _ => cases hd
  | _ => cases hd
theorem ss_augI (C : Ctx X G Fs d) {op o i e : _}  : AtX X A G Fs d (.augI op o i e) := by
  intro st fc env ρ σ f ρ' σ' hA hE hm hd
  refine onAugK hm fun t q v pos hm => ?_
  refine onSubsK hm fun u j ap hn => ?_
  refine and5K hn fun h1 h2 h3 h4 h5 => ?_
  refine eqK h2 ?_
  refine bindK hd fun v e1 hd => ?_
  refine bindK hd fun j e2 hd => ?_
  refine bindK hd fun a e3 hd => ?_
  refine bind2K hd fun u s3 e4 hd => ?_
  cases a with
  | int a =>
    cases u with
    | int u =>
      refine bindK hd fun r e6 hd => ?_
      refine mapK hd fun s4 e7 hd => ?_
      refine trioK hd ?_
      exact SS.augI h1 (sndE C o _ fc env ρ σ v.1 v.2 hA hE h3 e1).1 (sndE C i _ fc env ρ v.2 j.1 j.2 hA hE h4 e2).1 e3 (sndE C e _ fc env ρ j.2 _ s3 hA hE h5 e4).1 e6 e7
    | _ => cases hd
  | _ => cases hd
theorem ss_ite (C : Ctx X G Fs d) {c a b : _} (iha : AtXs X A G Fs d a) (ihb : AtXs X A G Fs d b) : AtX X A G Fs d (.ite c a b) := by
  intro st fc env ρ σ f ρ' σ' hA hE hm hd
  refine onIfSK hm fun t u v pos hm => ?_
  refine and3K hm fun h1 h2 h3 => ?_
  refine bindK hd fun v e1 hd => ?_
  refine bindK hd fun t e2 e3 => ?_
  have i1 := (sndE C c _ fc env ρ σ v.1 v.2 hA hE h1 e1).2 t e2
  cases t with
  | true => exact SS.ite i1 (iha _ fc env ρ v.2 f ρ' σ' hA hE h2 e3)
  | false => exact SS.ite i1 (ihb _ fc env ρ v.2 f ρ' σ' hA hE h3 e3)
theorem ss_while (C : Ctx X G Fs d) {c b : _} (ihb : AtXs X A G Fs d b) : AtX X A G Fs d (.while c b) := by
  intro st fc env ρ σ f ρ' σ' hA hE hm hd
  refine onWhileK hm fun t u v pos hm => ?_
  refine and3K hm fun h0 h1 h2 => ?_
  refine nilK h0 ?_
  exact while_ok (fun ρ σ x σ' t h3 h4 => (sndE C c _ fc env ρ σ x σ' hA hE h1 h3).2 t h4) (fun ρ σ f ρ' σ' h3 => ihb _ fc env ρ σ f ρ' σ' hA hE h2 h3) hd
theorem ss_for (C : Ctx X G Fs d) {ns tu src b : _} (ihb : AtXs X A G Fs d b) : AtX X A G Fs d (.for ns tu src b) := by
  intro st fc env ρ σ f ρ' σ' hA hE hm hd
  refine onForK hm fun t it u v pos hm => ?_
  refine and4K hm fun h0 h2 h3 h4 => ?_
  refine andK h0 fun h5 h1 => ?_
  refine nilK h5 ?_
  refine bind2K hd fun v s1 e1 hd => ?_
  cases v with
  | ref a => exact for_ok hE hA.hh h1 (fun ρ σ f ρ' σ' h5 => ihb _ fc env ρ σ f ρ' σ' hA hE h4 h5) (noSet_folded h2) (sndE C src _ fc env ρ σ _ s1 hA hE h3 e1).1 hd
  | _ => cases hd
theorem ss_ret (C : Ctx X G Fs d) {e : _}  : AtX X A G Fs d (.ret e) := by
  intro st fc env ρ σ f ρ' σ' hA hE hm hd
  refine onRetK hm fun o pos hm => ?_
  refine onOK hm fun v hn => ?_
  refine mapK hd fun v e1 hd => ?_
  refine trioK hd ?_
  exact SS.ret (sndE C e _ fc env ρ σ v.1 _ hA hE hn e1).1
theorem ss_brk (C : Ctx X G Fs d)  : AtX X A G Fs d (.brk ) := by
  intro st fc env ρ σ f ρ' σ' hA hE hm hd
  refine isBrkK hm fun pos => ?_
  refine trioSK hd ?_
  exact SS.brk
theorem ss_expr (C : Ctx X G Fs d) {e : _}  : AtX X A G Fs d (.expr e) := by
  intro st fc env ρ σ f ρ' σ' hA hE hm hd
  refine onExprSK hm fun v pos hm => ?_
  refine andK hm fun h1 h2 => ?_
  refine bind2K hd fun v s1 e1 hd => ?_
  have ex := fun hn => SS.expr (pos := pos) (sndE C e _ fc env ρ σ v s1 hA hE h2 e1).1 hn (fn_not_interactive hE.kind) (swaps_none (notF h1))
  cases v with
  | ref a => cases hd
  | _ =>
    refine trioSK hd ?_
    exact ex fun i q => nomatch q
theorem sss_nil : AtXs X A G Fs d .nil := by
  intro st fc env ρ σ f ρ' σ' hA hE hm hd
  refine nilK hm ?_
  refine trioSK hd ?_
  exact SS.nil
theorem sss_cons {a : IS} {as : ISs} (ia : AtX X A G Fs d a) (is : AtXs X A G Fs d as) : AtXs X A G Fs d (.cons a as) := by
  intro st fc env ρ σ f ρ' σ' hA hE hm hd
  refine mSsK hm fun s ss h1 h2 => ?_
  refine bind3K hd fun g r1 s1 e1 e2 => ?_
  have ih := ia s fc env ρ σ g r1 s1 hA hE h1 e1
  cases g with
  | next => exact SS.consGo ih (is ss fc env r1 s1 f ρ' σ' hA hE h2 e2)
  | brk => cases e2; exact SS.consStop ih (fun q => by cases q)
  | ret v => cases e2; exact SS.consStop ih (fun q => by cases q)
theorem ss_bad : AtX X A G Fs d .bad := by
  intro st fc env ρ σ f ρ' σ' hA hE hm hd
  replace hd : (none : Option (Fl × Rho × AH)) = some (f, ρ', σ') := hd
  cases hd
mutual
theorem sndX (C : Ctx X G Fs d) : ∀ is : IS, AtX X A G Fs d is
  | .asg n e => ss_asg C
  | .asgT ns e => ss_asgT C
  | .setA o k e => ss_setA C
  | .setI o i e => ss_setI C
  | .aug op n e => ss_aug C
  | .augA op o k e => ss_augA C
  | .augI op o i e => ss_augI C
  | .ite c a b => ss_ite C (sndXs C a) (sndXs C b)
  | .while c b => ss_while C (sndXs C b)
  | .for ns tu src b => ss_for C (sndXs C b)
  | .ret e => ss_ret C
  | .brk  => ss_brk C
  | .expr e => ss_expr C
  | .bad => ss_bad
theorem sndXs (C : Ctx X G Fs d) : ∀ is : ISs, AtXs X A G Fs d is
  | .nil => sss_nil
  | .cons a as => sss_cons (sndX C a) (sndXs C as)
end
theorem sndSs (C : Ctx X G Fs d) (is : ISs) (st : List Stmt) (fc : FC) (env : Env) (ρ : Rho) (σ : AH) (f : Fl) (ρ' : Rho) (σ' : AH) (hA : AOK A (d + 1)) (hE : EnvOK env fc) (hm : mSs G fc is st = true) (hd : exes Fs is ρ σ = some (f, ρ', σ')) : SS X A env fc ρ (execs st env) σ f ρ' σ' := sndXs C is st fc env ρ σ f ρ' σ' hA hE hm hd
end
end Mine
namespace Mine
open PySem PySem.W PySem.Calls PyProof.Rows

/-! ## A call of a def -/

theorem cellsFrom_some {x : Str} : ∀ (names : List (Str × NameKind)) (n : Nat) (acc : List (Str × Addr)), (acc.lookup x).isSome = true ∨ (x, NameKind.cell) ∈ names → ((cellsFrom n names acc).lookup x).isSome = true
  | [], n, acc, h => by
    rcases h with h | h
    · exact h
    · cases h
  | (y, k) :: r, n, acc, h => by
    unfold cellsFrom
    split
    · rename_i hk
      refine cellsFrom_some r _ _ ?_
      cases e : x == y with
      | true => exact .inl (by rw [List.lookup_cons, e]; rfl)
      | false =>
        rcases h with h | h
        · exact .inl (by rw [List.lookup_cons, e]; exact h)
        · rcases List.mem_cons.mp h with q | q
          · cases q; rw [beq_self_eq_true] at e; cases e
          · exact .inr q
    · rename_i hk
      refine cellsFrom_some r _ _ ?_
      rcases h with h | h
      · exact .inl h
      · rcases List.mem_cons.mp h with q | q
        · cases q; exact absurd rfl hk
        · exact .inr q

section
variable {kindOf : Str → Option NameKind}
theorem bindL_out {x : Str} : ∀ {binds : List (Str × Value)} {m : Str → Option Value}, x ∉ binds.map (·.1) → bindL kindOf binds m x = m x
  | [], _, _ => rfl
  | (n, v) :: r, m, h => by
    rw [List.map_cons, List.mem_cons, not_or] at h
    unfold bindL
    rw [bindL_out h.2]
    split
    · exact if_neg h.1
    · rfl
theorem bindL_get {x : Str} {u : Value} (hk : kindOf x = some .local) : ∀ {ps : List Str} {vs : List Value} {i : Nat} {m : Str → Option Value}, ps.Nodup → ps[i]? = some x → vs[i]? = some u → bindL kindOf (ps.zip vs) m x = some u
  | [], _, _, _, _, h, _ => by simp at h
  | _ :: _, [], _, _, _, _, h => by simp at h
  | p :: ps, v :: vs, 0, m, hn, h1, h2 => by
    simp only [List.getElem?_cons_zero, Option.some.injEq] at h1 h2
    subst h1 h2
    rw [List.nodup_cons] at hn
    rw [List.zip_cons_cons]
    unfold bindL
    rw [bindL_out (fun q => hn.1 ?_), if_pos hk, if_pos rfl]
    obtain ⟨y, hy, e⟩ := List.mem_map.mp q
    exact e ▸ (List.of_mem_zip hy).1
  | p :: ps, v :: vs, i + 1, m, hn, h1, h2 => by
    rw [List.getElem?_cons_succ] at h1 h2
    rw [List.zip_cons_cons]
    unfold bindL
    exact bindL_get hk (List.nodup_cons.mp hn).2 h1 h2
theorem bindC_out {x : Str} : ∀ {binds : List (Str × Value)} {m : Str → Option Value}, x ∉ binds.map (·.1) → bindC kindOf binds m x = m x
  | [], _, _ => rfl
  | (n, v) :: r, m, h => by
    rw [List.map_cons, List.mem_cons, not_or] at h
    unfold bindC
    rw [bindC_out h.2]
    split
    · rfl
    · exact if_neg h.1
theorem bindC_get {x : Str} {u : Value} (hk : ¬ kindOf x = some .local) : ∀ {ps : List Str} {vs : List Value} {i : Nat} {m : Str → Option Value}, ps.Nodup → ps[i]? = some x → vs[i]? = some u → bindC kindOf (ps.zip vs) m x = some u
  | [], _, _, _, _, h, _ => by simp at h
  | _ :: _, [], _, _, _, _, h => by simp at h
  | p :: ps, v :: vs, 0, m, hn, h1, h2 => by
    simp only [List.getElem?_cons_zero, Option.some.injEq] at h1 h2
    subst h1 h2
    rw [List.nodup_cons] at hn
    rw [List.zip_cons_cons]
    unfold bindC
    rw [bindC_out (fun q => hn.1 ?_), if_neg hk, if_pos rfl]
    obtain ⟨y, hy, e⟩ := List.mem_map.mp q
    exact e ▸ (List.of_mem_zip hy).1
  | p :: ps, v :: vs, i + 1, m, hn, h1, h2 => by
    rw [List.getElem?_cons_succ] at h1 h2
    rw [List.zip_cons_cons]
    unfold bindC
    exact bindC_get hk (List.nodup_cons.mp hn).2 h1 h2
end

/-- what a def's frame and its parameters are -/
noncomputable def defGood (fc : FC) (ps : List Str) : Bool :=
  fcGood fc && decide ps.Nodup && (ps.zipIdx.all fun p => (fc.slots[p.2]? == some (some (p.1, false))) || (fc.slots[p.2]? == some (some (p.1, true))))

/-- what is known of a function object -/
structure DefAt (K : Frag) (a : Addr) (body : List Stmt) (scope : Scope) (ps : List Str) : Prop where
  ex : ∃ o fd, K.lookup a = some o ∧ o.data = .func fd ∧ fd.body = .stmts body ∧ fd.scope = scope ∧ fd.closure = [] ∧ fd.globals = mainGlobals ∧ fd.builtins = builtinsNs ∧
    (∃ c oc vs t, fd.code = .ref c ∧ K.lookup c = some oc ∧ oc.data = .fields vs ∧ vs[1]? = some (.str fd.qualname t)) ∧
    (∀ vals, vals.length = ps.length → bindArgs fd ⟨vals, []⟩ = pure (ps.zip vals))
  co : scope.isCoroutine = false
  gen : scope.isGenerator = false
  kind : scope.kind = .function

section
variable {X : Cx} {G : Tab} {Fs : List Fun} {d : Nat}

theorem Ext.leave {env : Env} {μ μ' : Mu} {σ σ' : AH} {h h₁ h' : Heap} (k : ∀ b o, h.get? b = some o → h₁.get? b = some o) (x : Ext (PF env) μ σ h₁ μ' σ' h') (hf : ∀ b, PF env b → h.get? b = none) (hw : ∀ b, h₁.get? b = none → h.get? b = none) : Ext NoP μ σ h μ' σ' h' where
  pre := x.pre
  keep := fun b o w _ e => x.keep b o w (fun p => by rw [hf b p] at e; cases e) (k b o e)
  wr := fun b w => (x.wr b w).imp id (hw b)
  alive := fun b o e => x.alive b o (k b o e)
  new := fun i p b hp hb => (x.new i p b hp hb).imp id (hw b)

theorem fun_ok (C : Ctx X G Fs d) {a : Addr} {body : List Stmt} {scope : Scope} {ps : List Str} {fc : FC} {ns : Nat} {is : ISs} (D : DefAt X.K a body scope ps) (hn : scope.names = fc.names) (hg : defGood fc ps = true) (hm : mSs G fc is body = true) :
    FunOK X (d + 2) a (denFun Fs ps.length ns is) := by
  intro A args vs μ σ r σ' s R hA hF hv H hR
  obtain ⟨o, fd, ho, hd, hb, hsc, hcl, hgl, hbl, ⟨c, oc, cvs, t, hc, hoc, hcd, hq⟩, hbind⟩ := D.ex
  subst hsc
  unfold denFun at hF
  split at hF
  · rename_i hlen
    rw [Option.bind_eq_some_iff] at hF
    obtain ⟨⟨f, ρ', σ₁⟩, he, hf⟩ := hF
    have hvl := hv.length
    have XK := C.x.inK.keeps H.base
    unfold defGood at hg
    simp only [Bool.and_eq_true, decide_eq_true_eq] at hg
    obtain ⟨⟨g1, g2⟩, g3⟩ := hg
    have slot : ∀ i x, ps[i]? = some x → ∃ b, fc.slots[i]? = some (some (x, b)) := fun i x hi => by
      have := List.all_eq_true.mp g3 (x, i) (by rw [List.mem_zipIdx_iff_getElem?]; exact hi)
      rcases Bool.or_eq_true_iff.mp this with q | q
      · exact ⟨_, eq_of_beq q⟩
      · exact ⟨_, eq_of_beq q⟩
    have E0 : ∀ L a, EnvOK (callEnvC fd L a) fc := fun L a => fcGood_env g1 D.kind hgl hbl hn
    have kin : ∀ {L a : Addr} {i : Nat} {x : Str} {b : Bool}, fc.slots[i]? = some (some (x, b)) → (callEnvC fd L a).kindOf x = some (if b then .cell else .local) := fun {L a i x b} hi => by
      have e := E0 L a
      unfold Env.kindOf
      rw [e.names]
      cases b with
      | false => exact e.code _ _ hi
      | true => exact e.codec _ _ hi
    refine codeAny_call_cells (by have := hA.depth; omega) (XK _ _ ho) hd (C.x.nolimit.keeps H.base) ⟨c, oc, cvs, t, hc, XK _ _ hoc, hcd, hq⟩ hb (hbind vs (by omega)) hcl (fun x hx => ?_) (fun s₁ I => ?_) D.co D.gen D.kind
    · obtain ⟨y, v⟩ := x
      have hy := (List.of_mem_zip hx).1
      obtain ⟨i, hi, e⟩ := List.getElem_of_mem hy
      obtain ⟨b, hb⟩ := slot i y (by rw [List.getElem?_eq_getElem hi, e])
      have hk := kin (L := 0) (a := 0) hb
      unfold Env.kindOf at hk
      cases b with
      | false => exact .inl hk
      | true => exact .inr ⟨hk, cellsFrom_some _ _ _ (.inr (lookup_mem hk))⟩
    · obtain ⟨h₁, tk₁, rfl, k₁⟩ := I.done
      have fresh : ∀ b, s.heap.objs.size ≤ b → s.heap.get? b = none := fun b hb => by
        cases e : s.heap.get? b with
        | none => rfl
        | some o => exact absurd (Heap.lt_size e) (Nat.not_lt.mpr hb)
      have base : ∀ b, s.heap.get? b = none → X.h₀.get? b = none := fun b hb => by
        cases q : X.h₀.get? b with
        | none => rfl
        | some o => rw [H.base _ _ q] at hb; cases hb
      have fL := fresh s.heap.objs.size (Nat.le_refl _)
      have cab : ∀ x c, (callEnvC fd s.heap.objs.size a).cells.lookup x = some c → s.heap.get? c = none ∧ c ≠ s.heap.objs.size := fun x c hc => by
        have := I.above x c (lookup_mem hc)
        exact ⟨fresh c (Nat.le_of_lt this), fun q => Nat.lt_irrefl _ (q ▸ this)⟩
      have S : Sta X (callEnvC fd s.heap.objs.size a) fc (args.map some ++ List.replicate (ns - ps.length) .none) μ σ h₁ := by
        have arg : ∀ (i : Nat) (v : AV), (args.map some ++ List.replicate (ns - ps.length) (none : Option AV))[i]? = some (some v) → args[i]? = some v := fun i v hi => by
          by_cases q : i < (args.map some).length
          · rw [List.getElem?_append_left q, List.getElem?_map, Option.map_eq_some_iff] at hi
            obtain ⟨w, h1, h2⟩ := hi
            cases h2
            exact h1
          · rw [List.getElem?_append_right (Nat.not_lt.mp q), List.getElem?_replicate] at hi
            split at hi <;> cases hi
        have par : ∀ (i : Nat) (v : AV) (x : Str) (b : Bool), (args.map some ++ List.replicate (ns - ps.length) (none : Option AV))[i]? = some (some v) → fc.slots[i]? = some (some (x, b)) → ps[i]? = some x ∧ ∃ u, vs[i]? = some u ∧ VR μ v u := fun i v x b hi hs => by
          have ha := arg i v hi
          obtain ⟨u, hu, hvu⟩ := hv.get ha
          have hlt : i < ps.length := by have := (List.getElem?_eq_some_iff.mp ha).1; omega
          have hp := List.getElem?_eq_getElem hlt
          obtain ⟨b', hb'⟩ := slot i _ hp
          rw [hs] at hb'
          cases hb'
          exact ⟨hp, u, hu, hvu⟩
        refine ⟨H.grown k₁, fun i p b hp hb => ?_, ⟨_, I.toInCall.ns, fun i v x h1 h2 => ?_⟩, base _ fL, fun i x hi => ?_, fun x c hc => ?_, fun x y c h1 h2 => name_of_addr I.apart (lookup_mem h1) (lookup_mem h2)⟩
        · obtain ⟨o, ho⟩ := H.live hp b hb
          refine ⟨fun q => ?_, fun x c hc q => ?_⟩
          · subst q; rw [show (callEnvC fd s.heap.objs.size a).locals = s.heap.objs.size from rfl, fL] at ho; cases ho
          · subst q; rw [(cab x b hc).1] at ho; cases ho
        · obtain ⟨hp, u, hu, hvu⟩ := par i v x false h1 h2
          exact ⟨u, bindL_get (kin h2) g2 hp hu, hvu⟩
        · have hk := kin (L := s.heap.objs.size) (a := a) hi
          have : ((callEnvC fd s.heap.objs.size a).cells.lookup x).isSome = true := cellsFrom_some _ _ _ (.inr (lookup_mem hk))
          obtain ⟨c, hc⟩ := Option.isSome_iff_exists.mp this
          refine ⟨c, _, hc, I.cell x c hc, fun v hvv => ?_⟩
          obtain ⟨hp, u, hu, hvu⟩ := par i v x true hvv hi
          exact ⟨u, bindC_get (by rw [hk]; decide) g2 hp hu, hvu⟩
        · obtain ⟨o, ho, _⟩ := I.cell x c hc
          exact ⟨base _ (cab x c hc).1, (cab x c hc).2, o, ho⟩
      refine (sndSs C is body fc _ _ σ f ρ' σ₁ (A := A.deeper (callEnvC fd s.heap.objs.size a)) ⟨hA.hh, ?_, ?_⟩ (E0 _ _) hm he).then (s := { s with heap := h₁, toks := tk₁ }) S fun g h' tk μ' rg S' x' => ?_
      · rw [depth_deeper]; have := hA.depth; omega
      · rw [Around.deeper_units]; have := hA.units; omega
      · have e' : Ext NoP μ σ s.heap μ' σ₁ h' := x'.leave k₁ (fun b hb => by
          rcases hb with rfl | ⟨x, hx⟩
          · exact fL
          · exact (cab x b hx).1) fun b hb => by
          cases q : s.heap.get? b with
          | none => rfl
          | some o => rw [k₁ _ _ q] at hb; cases hb
        cases f with
        | next => cases hf; cases rg; exact hR _ _ _ _ rfl S'.toHR e'
        | brk => cases hf
        | ret v => cases hf; obtain ⟨u, rfl, hu⟩ := rg; exact hR _ _ _ _ hu S'.toHR e'
  · cases hF

theorem FunOK.mono {a : Addr} {F : Fun} {e : Nat} (h : FunOK X d a F) (le : d ≤ e) : FunOK X e a F := fun A args vs μ σ r σ' s R hA => h A args vs μ σ r σ' s R (hA.mono le)
end
end Mine
namespace Mine
open PySem PySem.W PySem.Calls PyProof.Rows

/-! ## A look at the heap's fragment -/

theorem lookup_zip_out {x : Str} : ∀ {ps : List Str} {vs : List Value}, x ∉ ps → (ps.zip vs).lookup x = none
  | [], _, _ => rfl
  | _ :: _, [], _ => rfl
  | p :: ps, v :: vs, h => by
    rw [List.mem_cons, not_or] at h
    have e : (x == p) = false := by simpa using h.1
    rw [List.zip_cons_cons, List.lookup_cons, e]
    exact lookup_zip_out h.2
theorem zip_filterMap : ∀ {ps : List Str} {vs : List Value} (more : List (Str × Value)), ps.Nodup → vs.length = ps.length → (∀ p ∈ ps, more.lookup p = none) →
    ps.filterMap (fun n => ((more ++ ps.zip vs).lookup n).map (n, ·)) = ps.zip vs ∧ ps.filter (fun n => ((more ++ ps.zip vs).lookup n).isNone) = []
  | [], _, _, _, _, _ => ⟨rfl, rfl⟩
  | _ :: _, [], _, _, h, _ => by cases h
  | p :: ps, v :: vs, more, hn, hl, hm => by
    rw [List.nodup_cons] at hn
    have look : ∀ (l : List (Str × Value)), (more ++ (p, v) :: l).lookup p = some v := fun l => by
      rw [List.lookup_append, hm p (List.mem_cons_self ..), List.lookup_cons, beq_self_eq_true]; rfl
    have ih := zip_filterMap (ps := ps) (vs := vs) (more ++ [(p, v)]) hn.2 (by simpa using hl) (fun q hq => by
      rw [List.lookup_append, hm q (List.mem_cons_of_mem _ hq)]
      have e : (q == p) = false := by
        rw [beq_eq_false_iff_ne]; rintro rfl; exact hn.1 hq
      rw [List.lookup_cons, e]; rfl)
    rw [List.append_assoc] at ih
    refine ⟨?_, ?_⟩
    · rw [List.zip_cons_cons, List.filterMap_cons, look]
      exact congrArg _ ih.1
    · rw [List.zip_cons_cons, List.filter_cons, look]
      exact ih.2

theorem bind_plain {fd : FuncData} {ps : List Str} {vals : List Value} (h1 : fd.params.posonlyargs = []) (h2 : fd.params.kwonlyargs = []) (h3 : fd.params.vararg = none) (h4 : fd.params.kwarg = none) (h5 : fd.params.args.map (·.arg) = ps) (h6 : fd.defaults = .none)
    (hn : ps.Nodup) (hl : vals.length = ps.length) : bindArgs fd ⟨vals, []⟩ = pure (ps.zip vals) := by
  obtain ⟨z1, z2⟩ := zip_filterMap [] hn hl fun _ _ => rfl
  obtain ⟨nm, qn, pr, bd, sc, gl, cl, df, kd, _, _, _, _, _, _⟩ := fd
  obtain ⟨po, as, va, ko, kds, kw, dfs⟩ := pr
  cases (h1 : po = [])
  cases (h2 : ko = [])
  cases (h3 : va = none)
  cases (h4 : kw = none)
  cases (h6 : df = .none)
  replace h5 : as.map (fun a : PySem.Arg => a.arg) = ps := h5
  have hs : seqItems? Value.none = pure none := rfl
  unfold bindArgs
  dsimp only [List.map_nil, List.nil_append, List.append_nil, List.length_nil, List.forIn_nil]
  rw [h5, hs]
  have p1 : ∀ {α β : Type} (a : α) (f : α → Sem β), ((pure a : Sem α) >>= f) = f a := fun _ _ => rfl
  rw [p1, p1]
  refine (if_neg ?_).trans ?_
  · show ¬ (decide (vals.length > ps.length) && true) = true
    rw [hl, Bool.and_true, decide_eq_true_eq]; exact Nat.lt_irrefl _
  have l1 : (ps.take ps.length).filter (fun n => ((ps.zip vals).lookup n).isNone) = [] := by rw [List.take_length]; exact z2
  refine (if_neg ?_).trans ?_
  · show ¬ (!((ps.take (ps.length - (List.drop (0 - ps.length) ([] : List Value)).length)).filter (fun n => ((ps.zip vals).lookup n).isNone)).isEmpty) = true
    rw [List.drop_nil]
    show ¬ (!((ps.take ps.length).filter (fun n => ((ps.zip vals).lookup n).isNone)).isEmpty) = true
    rw [l1]; decide
  show (forIn ((ps.drop (ps.length - (List.drop (0 - ps.length) ([] : List Value)).length)).zip (List.drop (0 - ps.length) ([] : List Value))) _ _ >>= _) = _
  rw [List.drop_nil, List.zip_nil_right]
  show (pure (((ps ++ []).filterMap fun n => ((ps.zip vals).lookup n).map (n, ·))) : Sem (List (Str × Value))) = _
  rw [List.append_nil]
  exact congrArg pure z1
end Mine
namespace Mine
open PySem PySem.W PySem.Calls PyProof.Rows

structure Spec where
  ps : List Str
  sl : List (Option (Str × Bool))
  is : ISs
noncomputable def Spec.fn (Fs : List Fun) (sp : Spec) : Fun := denFun Fs sp.ps.length sp.sl.length sp.is

noncomputable def codeIs (K : Frag) (fd : FuncData) : Bool := match fd.code with
  | .ref c => match K.lookup c with
    | some o => match o.data with
      | .fields vs => match (vs[1]? : Option Value) with
        | some (.str q _) => q == fd.qualname
        | _ => false
      | _ => false
    | _ => false
  | _ => false
noncomputable def isNoneV : Value → Bool
  | .none => true
  | _ => false
noncomputable def parsAre (fd : FuncData) (ps : List Str) : Bool :=
  fd.params.posonlyargs.isEmpty && fd.params.kwonlyargs.isEmpty && fd.params.vararg.isNone && fd.params.kwarg.isNone && fd.params.args.map (·.arg) == ps && isNoneV fd.defaults
noncomputable def defIs (K : Frag) (G : Tab) (a : Addr) (sp : Spec) : Bool := match K.lookup a with
  | some o => match o.data with
    | .func fd => match fd.body with
      | .stmts body => defGood ⟨sp.sl, fd.scope.names, []⟩ sp.ps && mSs G ⟨sp.sl, fd.scope.names, []⟩ sp.is body && fd.closure.isEmpty && fd.globals == mainGlobals && fd.builtins == builtinsNs && !fd.scope.isCoroutine && !fd.scope.isGenerator &&
          fd.scope.kind == .function && codeIs K fd && parsAre fd sp.ps
      | _ => false
    | _ => false
  | _ => false

theorem codeIs_spec {K : Frag} {fd : FuncData} (h : codeIs K fd = true) : ∃ c oc vs t, fd.code = .ref c ∧ K.lookup c = some oc ∧ oc.data = .fields vs ∧ vs[1]? = some (.str fd.qualname t) := by
  unfold codeIs at h
  split at h
  · rename_i c hc
    split at h
    · rename_i o ho
      split at h
      · rename_i vs hv
        split at h
        · rename_i q t hq
          cases eq_of_beq h
          exact ⟨c, o, vs, t, hc, ho, hv, hq⟩
        · cases h
      · cases h
    · cases h
  · cases h
theorem defIs_ok {X : Cx} {G : Tab} {Fs : List Fun} {d : Nat} (C : Ctx X G Fs d) {a : Addr} {sp : Spec} (h : defIs X.K G a sp = true) : FunOK X (d + 2) a (sp.fn Fs) := by
  unfold defIs at h
  split at h
  · rename_i o ho
    split at h
    · rename_i fd hd
      split at h
      · rename_i body hb
        simp only [Bool.and_eq_true, Bool.not_eq_true'] at h
        obtain ⟨⟨⟨⟨⟨⟨⟨⟨⟨h1, h2⟩, h3⟩, h4⟩, h5⟩, h6⟩, h7⟩, h8⟩, h9⟩, h10⟩ := h
        unfold parsAre at h10
        simp only [Bool.and_eq_true] at h10
        obtain ⟨⟨⟨⟨⟨p1, p2⟩, p3⟩, p4⟩, p5⟩, p6⟩ := h10
        have hnd : sp.ps.Nodup := by
          have := h1
          unfold defGood at this
          simp only [Bool.and_eq_true, decide_eq_true_eq] at this
          exact this.1.2
        refine fun_ok C (fc := ⟨sp.sl, fd.scope.names, []⟩) ⟨⟨o, fd, ho, hd, hb, rfl, List.isEmpty_iff.mp h3, eq_of_beq h4, eq_of_beq h5, codeIs_spec h9, fun vals hl => ?_⟩, h6, h7, eq_of_beq h8⟩ rfl h1 h2
        refine bind_plain (List.isEmpty_iff.mp p1) (List.isEmpty_iff.mp p2) (Option.isNone_iff_eq_none.mp p3) (Option.isNone_iff_eq_none.mp p4) (eq_of_beq p5) ?_ hnd hl
        cases e : fd.defaults with
        | none => rfl
        | _ => rw [e] at p6; cases p6
      · cases h
    · cases h
  · cases h

noncomputable def levelIs (K : Frag) (G : Tab) (n : Nat) (L : List Spec) : Bool := L.zipIdx.all fun p => match G.fns[n + p.2]? with
  | some q => defIs K G q.2 p.1
  | none => true
theorem Ctx.level {X : Cx} {G : Tab} {Fs : List Fun} {d : Nat} (C : Ctx X G Fs d) {L : List Spec} (h : levelIs X.K G Fs.length L = true) : Ctx X G (Fs ++ L.map (Spec.fn Fs)) (d + 2) := by
  refine ⟨C.x, C.nob, C.gints, C.grefs, C.atr, C.clsn, C.inits, fun f o a F hf hF => ?_, C.glob, C.cls⟩
  by_cases q : f < Fs.length
  · rw [List.getElem?_append_left q] at hF
    exact (C.fns f o a F hf hF).mono (Nat.le_add_right ..)
  · have q := Nat.not_lt.mp q
    rw [List.getElem?_append_right q, List.getElem?_map, Option.map_eq_some_iff] at hF
    obtain ⟨sp, hs, rfl⟩ := hF
    have := List.all_eq_true.mp h (sp, f - Fs.length) (by rw [List.mem_zipIdx_iff_getElem?]; exact hs)
    have e : Fs.length + (f - Fs.length) = f := by omega
    simp only [e, hf] at this
    exact defIs_ok C this

/-! the class objects -/
noncomputable def clsIs (K : Frag) (C f : Addr) (atr : List Str) : Bool :=
  findIn K (.ref C) "__getattribute__" == some (some (.builtin "object.__getattribute__")) && hasDictIn K C &&
    (atr.all fun x => (match findIn K (.ref C) x with | some a => noGet K a | none => false) && takerIn K C x == some none) &&
    findIn K (.ref C) "__setattr__" == some (some (.builtin "object.__setattr__")) && plainOver K C && makesIn K C && findIn K (.ref C) "__init__" == some (some (.ref f)) && typeIn K (.ref f) == some (.type "function") && keepIn K (.ref C)
theorem clsIs_ok {X : Cx} {c : Nat} {C f : Addr} {x : Str} (h : clsIs X.K C f X.atr = true) (hf : X.inits[c]? = some f) (hn : X.clsn[c]? = some x) (hg : X.mg x = some (.ref C)) : ClsOK X c C := by
  unfold clsIs at h
  simp only [Bool.and_eq_true, beq_iff_eq] at h
  obtain ⟨⟨⟨⟨⟨⟨⟨⟨h1, h2⟩, h3⟩, h4⟩, h5⟩, h6⟩, h7⟩, h8⟩, h9⟩ := h
  have at_ : ∀ (k : Nat) (y : Str), X.atr[k]? = some y → (match findIn X.K (.ref C) y with | some a => noGet X.K a | none => false) = true ∧ takerIn X.K C y = some none := fun k y hy => by
    have := List.all_eq_true.mp h3 y (List.mem_of_getElem? hy)
    simp only [Bool.and_eq_true, beq_iff_eq] at this
    exact this
  refine ⟨h1, h2, fun k y hy => ?_, h4, h5, fun k y hy => (at_ k y hy).2, h6, ⟨f, hf, h7, h8⟩, ⟨x, hn, hg⟩, h9⟩
  have := (at_ k y hy).1
  split at this
  · rename_i a ha
    exact ⟨a, ha, this⟩
  · cases this

/-! the text's names -/
noncomputable def gAddr (K : Frag) (x : Str) : Addr := match nsIn K mainGlobals x with
  | some (some (.ref a)) => a
  | _ => 0
noncomputable def gIsRef (K : Frag) (x : Str) : Bool := match nsIn K mainGlobals x with
  | some (some (.ref _)) => true
  | _ => false
noncomputable def gIsInt (K : Frag) (x : Str) (i : Int) : Bool := match nsIn K mainGlobals x with
  | some (some (.int j _)) => i == j
  | _ => false
noncomputable def initOf (K : Frag) (C : Addr) : Addr := match findIn K (.ref C) "__init__" with
  | some (some (.ref f)) => f
  | _ => 0
theorem gIsRef_ok {K : Frag} {x : Str} (h : gIsRef K x = true) : nsIn K mainGlobals x = some (some (.ref (gAddr K x))) := by
  unfold gIsRef at h
  unfold gAddr
  split at h
  · rename_i a e
    rw [e]
  · cases h
theorem gIsInt_ok {K : Frag} {x : Str} {i : Int} (h : gIsInt K x i = true) : ∃ t, nsIn K mainGlobals x = some (some (.int i t)) := by
  unfold gIsInt at h
  split at h
  · rename_i j t e
    cases eq_of_beq h
    exact ⟨t, e⟩
  · cases h

noncomputable def tupAt (K : Frag) (a : Addr) : List Value := match K.lookup a with
  | some o => match o.data with
    | .seq items _ => items.toList
    | _ => []
  | _ => []
noncomputable def isTupAt (K : Frag) (a : Addr) : Bool := match K.lookup a with
  | some o => o.cls == .type "tuple" && (match o.data with | .seq _ _ => true | _ => false)
  | _ => false
theorem isTupAt_ok {K : Frag} {h : Heap} (X : K.In h) {a : Addr} (e : isTupAt K a = true) : IsTup h a (tupAt K a).toArray := by
  unfold isTupAt at e
  split at e
  · rename_i o ho
    simp only [Bool.and_eq_true, beq_iff_eq] at e
    obtain ⟨e1, e2⟩ := e
    split at e2
    · rename_i items n hd
      refine ⟨o, X _ _ ho, e1, n, ?_⟩
      unfold tupAt
      rw [ho]
      simp only [hd]
    · cases e2
  · cases e
/-- a value stands for an abstract one at the places given -/
noncomputable def valIs (μ : List Addr) : AV → Value → Bool
  | .int i, .int j _ => i == j
  | .ref k, .ref a => μ[k]? == some a
  | _, _ => false
noncomputable def valsAre (μ : List Addr) : List AV → List Value → Bool
  | [], [] => true
  | x :: xs, v :: vs => valIs μ x v && valsAre μ xs vs
  | _, _ => false
theorem valIs_ok {μ : List Addr} {x : AV} {v : Value} (h : valIs μ x v = true) : VR (μ.map fun a => ⟨a, none⟩) x v := by
  cases x with
  | int i =>
    cases v with
    | int j t => cases eq_of_beq (show (i == j) = true from h); exact ⟨t, rfl⟩
    | _ => cases h
  | ref k =>
    cases v with
    | ref a => exact ⟨⟨a, none⟩, by rw [List.getElem?_map, eq_of_beq (show (μ[k]? == some a) = true from h)]; rfl, rfl⟩
    | _ => cases h
  | _ => cases v <;> cases h
theorem valsAre_ok {μ : List Addr} : ∀ {xs : List AV} {vs : List Value}, valsAre μ xs vs = true → All2 (VR (μ.map fun a => ⟨a, none⟩)) xs vs
  | [], [], _ => .nil
  | x :: xs, v :: vs, h => by
    have h := Bool.and_eq_true_iff.mp h
    exact .cons (valIs_ok h.1) (valsAre_ok h.2)
  | [], _ :: _, h => by cases h
  | _ :: _, [], h => by cases h
end Mine
namespace Mine
open PySem PySem.W PySem.Calls PyProof.Rows
noncomputable def Fs0 : List Fun := []
noncomputable def B_side_of : ISs := (.cons (.ret (.bin .shr (.var 0) (.int 3))) .nil)
noncomputable def S_side_of : Spec := ⟨["piece"], [some ("piece", false)], B_side_of⟩
noncomputable def B_kind_of : ISs := (.cons (.ret (.bin .band (.var 0) (.int 7))) .nil)
noncomputable def S_kind_of : Spec := ⟨["piece"], [some ("piece", false)], B_kind_of⟩
noncomputable def B_move_from : ISs := (.cons (.ret (.bin .band (.bin .shr (.var 0) (.int 6)) (.int 63))) .nil)
noncomputable def S_move_from : Spec := ⟨["move"], [some ("move", false)], B_move_from⟩
noncomputable def B_move_to : ISs := (.cons (.ret (.bin .band (.var 0) (.int 63))) .nil)
noncomputable def S_move_to : Spec := ⟨["move"], [some ("move", false)], B_move_to⟩
noncomputable def B_move_special : ISs := (.cons (.ret (.bin .band (.bin .shr (.var 0) (.int 14)) (.int 3))) .nil)
noncomputable def S_move_special : Spec := ⟨["move"], [some ("move", false)], B_move_special⟩
noncomputable def B_is_growing : ISs := (.cons (.ret (.bop true (.cons (.cmp .gt (.sub (.gref "STEP_RANKS" 1) (.var 0)) (.int 0)) (.cons (.cmp .eq (.var 0) (.int 1)) .nil)))) .nil)
noncomputable def S_is_growing : Spec := ⟨["d"], [some ("d", false)], B_is_growing⟩
noncomputable def B_add_masks : ISs := (.cons (.asg 1 (.bin .sub (.bin .shl (.int 1) (.attr (.var 0) 0)) (.int 1))) (.cons (.asg 2 (.int 0)) (.cons (.for [3] false (.range (.cons (.attr (.var 0) 1) .nil)) (.cons (.expr (.append (.attr (.var 0) 2) (.bin .shl (.var 1) (.bin .mul (.var 3) (.attr (.var 0) 0))))) (.cons (.aug .bor 2 (.bin .shl (.int 1) (.bin .mul (.var 3) (.attr (.var 0) 0)))) .nil))) (.cons (.for [4] false (.range (.cons (.attr (.var 0) 0) .nil)) (.cons (.expr (.append (.attr (.var 0) 3) (.bin .shl (.var 2) (.var 4)))) .nil)) .nil))))
noncomputable def S_add_masks : Spec := ⟨["geo"], [some ("geo", false), some ("row", false), some ("column", false), some ("r", false), some ("f", false)], B_add_masks⟩
noncomputable def B_inner_squares : ISs := (.cons (.asg 2 (.int 0)) (.cons (.ite (.cmp .gt (.sub (.gref "STEP_FILES" 0) (.var 1)) (.int 0)) (.cons (.aug .bor 2 (.sub (.attr (.var 0) 3) (.bin .sub (.attr (.var 0) 0) (.int 1)))) .nil) .nil) (.cons (.ite (.cmp .lt (.sub (.gref "STEP_FILES" 0) (.var 1)) (.int 0)) (.cons (.aug .bor 2 (.sub (.attr (.var 0) 3) (.int 0))) .nil) .nil) (.cons (.ite (.cmp .gt (.sub (.gref "STEP_RANKS" 1) (.var 1)) (.int 0)) (.cons (.aug .bor 2 (.sub (.attr (.var 0) 2) (.bin .sub (.attr (.var 0) 1) (.int 1)))) .nil) .nil) (.cons (.ite (.cmp .lt (.sub (.gref "STEP_RANKS" 1) (.var 1)) (.int 0)) (.cons (.aug .bor 2 (.sub (.attr (.var 0) 2) (.int 0))) .nil) .nil) (.cons (.ret (.bin .band (.attr (.var 0) 4) (.una .inv (.var 2)))) .nil))))))
noncomputable def S_inner_squares : Spec := ⟨["geo", "d"], [some ("geo", false), some ("d", false), some ("edge", false)], B_inner_squares⟩
noncomputable def B_add_pawns : ISs := (.cons (.for [1] false (.range (.cons (.attr (.var 0) 5) .nil)) (.cons (.expr (.append (.sub (.attr (.var 0) 6) (.int 0)) (.bin .band (.sub (.attr (.var 0) 7) (.var 1)) (.bin .bor (.sub (.sub (.attr (.var 0) 8) (.int 4)) (.var 1)) (.sub (.sub (.attr (.var 0) 8) (.int 7)) (.var 1)))))) (.cons (.expr (.append (.sub (.attr (.var 0) 6) (.int 1)) (.bin .band (.sub (.attr (.var 0) 7) (.var 1)) (.bin .bor (.sub (.sub (.attr (.var 0) 8) (.int 5)) (.var 1)) (.sub (.sub (.attr (.var 0) 8) (.int 6)) (.var 1)))))) .nil))) .nil)
noncomputable def S_add_pawns : Spec := ⟨["geo"], [some ("geo", false), some ("square", false)], B_add_pawns⟩
noncomputable def B_add_knights : ISs := (.cons (.asg 1 (.attr (.var 0) 0)) (.cons (.asg 2 (.bin .band (.attr (.var 0) 4) (.una .inv (.sub (.attr (.var 0) 3) (.int 0))))) (.cons (.asg 3 (.bin .band (.attr (.var 0) 4) (.una .inv (.sub (.attr (.var 0) 3) (.bin .sub (.var 1) (.int 1)))))) (.cons (.asg 4 (.bin .band (.var 2) (.una .inv (.sub (.attr (.var 0) 3) (.int 1))))) (.cons (.asg 5 (.bin .band (.var 3) (.una .inv (.sub (.attr (.var 0) 3) (.bin .sub (.var 1) (.int 2)))))) (.cons (.for [6] false (.range (.cons (.attr (.var 0) 5) .nil)) (.cons (.asg 7 (.bin .shl (.int 1) (.var 6))) (.cons (.asg 8 (.bin .bor (.bin .band (.bin .shl (.var 7) (.int 1)) (.var 2)) (.bin .band (.bin .shr (.var 7) (.int 1)) (.var 3)))) (.cons (.asg 9 (.bin .bor (.bin .band (.bin .shl (.var 7) (.int 2)) (.var 4)) (.bin .band (.bin .shr (.var 7) (.int 2)) (.var 5)))) (.cons (.asg 10 (.bin .bor (.bin .bor (.bin .bor (.bin .shl (.var 8) (.bin .mul (.int 2) (.var 1))) (.bin .shr (.var 8) (.bin .mul (.int 2) (.var 1)))) (.bin .shl (.var 9) (.var 1))) (.bin .shr (.var 9) (.var 1)))) (.cons (.expr (.append (.attr (.var 0) 9) (.bin .band (.var 10) (.attr (.var 0) 4)))) .nil)))))) .nil))))))
noncomputable def S_add_knights : Spec := ⟨["geo"], [some ("geo", false), some ("files", false), some ("not_first", false), some ("not_last", false), some ("not_first_two", false), some ("not_last_two", false), some ("square", false), some ("b", false), some ("near", false), some ("far", false), some ("found", false)], B_add_knights⟩
noncomputable def B_add_castles : ISs := (.cons (.setA (.var 0) 10 (.rep (.cons (.int 0) .nil) (.attr (.var 0) 5))) (.cons (.asg 1 (.bin .fdiv (.attr (.var 0) 0) (.int 2))) (.cons (.for [2] false (.range (.cons (.int 4) .nil)) (.cons (.asg 3 (.bin .mul (.bin .mul (.bin .shr (.var 2) (.int 1)) (.bin .sub (.attr (.var 0) 1) (.int 1))) (.attr (.var 0) 0))) (.cons (.asg 4 (.bin .sub (.attr (.var 0) 0) (.int 1))) (.cons (.asg 5 (.int 1)) (.cons (.ite (.bin .band (.var 2) (.int 1)) (.cons (.asg 4 (.int 0)) (.cons (.asg 5 (.una .neg (.int 1))) .nil)) .nil) (.cons (.asg 6 (.bin .add (.var 1) (.bin .mul (.int 2) (.var 5)))) (.cons (.ite (.bop false (.cons (.attr (.var 0) 11) (.cons (.cmp .gt (.bin .mul (.bin .sub (.var 4) (.var 6)) (.var 5)) (.int 0)) .nil))) (.cons (.expr (.append (.attr (.var 0) 12) (.tup (.cons (.bin .add (.var 3) (.var 1)) (.cons (.bin .add (.var 3) (.var 6)) (.cons (.bin .add (.var 3) (.var 4)) (.cons (.bin .sub (.bin .add (.var 3) (.var 6)) (.var 5)) .nil))))))) (.cons (.augI .bor (.attr (.var 0) 10) (.bin .add (.var 3) (.var 1)) (.bin .shl (.int 1) (.var 2))) (.cons (.augI .bor (.attr (.var 0) 10) (.bin .add (.var 3) (.var 4)) (.bin .shl (.int 1) (.var 2))) .nil))) (.cons (.expr (.append (.attr (.var 0) 12) .none)) .nil)) .nil))))))) .nil)))
noncomputable def S_add_castles : Spec := ⟨["geo"], [some ("geo", false), some ("start", false), some ("index", false), some ("base", false), some ("corner", false), some ("way", false), some ("goal", false)], B_add_castles⟩
noncomputable def B_more_than_one : ISs := (.cons (.ret (.cmp .ne (.bin .band (.var 0) (.bin .sub (.var 0) (.int 1))) (.int 0))) .nil)
noncomputable def S_more_than_one : Spec := ⟨["b"], [some ("b", false)], B_more_than_one⟩
noncomputable def B_highest : ISs := (.cons (.ite (.cmp .eq (.var 0) (.int 0)) (.cons (.ret (.una .neg (.int 1))) .nil) .nil) (.cons (.asg 1 (.int 1)) (.cons (.while (.bin .shr (.var 0) (.var 1)) (.cons (.aug .mul 1 (.int 2)) .nil)) (.cons (.asg 2 (.int 0)) (.cons (.while (.cmp .gt (.var 1) (.int 1)) (.cons (.aug .fdiv 1 (.int 2)) (.cons (.ite (.bin .shr (.var 0) (.var 1)) (.cons (.aug .shr 0 (.var 1)) (.cons (.aug .add 2 (.var 1)) .nil)) .nil) .nil))) (.cons (.ret (.var 2)) .nil))))))
noncomputable def S_highest : Spec := ⟨["b"], [some ("b", false), some ("width", false), some ("square", false)], B_highest⟩
noncomputable def B_straight_sliders : ISs := (.cons (.ret (.bin .bor (.sub (.attr (.var 0) 13) (.gint "ROOK" 4)) (.sub (.attr (.var 0) 13) (.gint "QUEEN" 5)))) .nil)
noncomputable def S_straight_sliders : Spec := ⟨["pos"], [some ("pos", false)], B_straight_sliders⟩
noncomputable def B_slanting_sliders : ISs := (.cons (.ret (.bin .bor (.sub (.attr (.var 0) 13) (.gint "BISHOP" 3)) (.sub (.attr (.var 0) 13) (.gint "QUEEN" 5)))) .nil)
noncomputable def S_slanting_sliders : Spec := ⟨["pos"], [some ("pos", false)], B_slanting_sliders⟩
noncomputable def B_pawn_attackers : ISs := (.cons (.ret (.bin .band (.bin .band (.sub (.sub (.attr (.attr (.var 0) 14) 6) (.bin .sub (.int 1) (.var 2))) (.var 1)) (.sub (.attr (.var 0) 13) (.gint "PAWN" 1))) (.sub (.attr (.var 0) 15) (.var 2)))) .nil)
noncomputable def S_pawn_attackers : Spec := ⟨["pos", "square", "side"], [some ("pos", false), some ("square", false), some ("side", false)], B_pawn_attackers⟩
noncomputable def B_direction : ISs := (.cons (.for [3] false (.range (.cons (.int 8) .nil)) (.cons (.ite (.bin .band (.bin .shr (.sub (.sub (.attr (.var 0) 8) (.var 3)) (.var 1)) (.var 2)) (.int 1)) (.cons (.ret (.var 3)) .nil) .nil) .nil)) (.cons (.ret (.una .neg (.int 1))) .nil))
noncomputable def S_direction : Spec := ⟨["geo", "a", "b"], [some ("geo", false), some ("a", false), some ("b", false), some ("d", false)], B_direction⟩
noncomputable def B_passed_pawn_square : ISs := (.cons (.ite (.cmp .eq (.attr (.var 0) 16) (.gint "WHITE" 0)) (.cons (.ret (.bin .sub (.attr (.var 0) 17) (.attr (.attr (.var 0) 14) 0))) .nil) .nil) (.cons (.ret (.bin .add (.attr (.var 0) 17) (.attr (.attr (.var 0) 14) 0))) .nil))
noncomputable def S_passed_pawn_square : Spec := ⟨["pos"], [some ("pos", false)], B_passed_pawn_square⟩
noncomputable def B_castling_of : ISs := (.cons (.for [3] false (.range (.cons (.int 2) .nil)) (.cons (.asg 4 (.bin .add (.bin .mul (.attr (.var 0) 16) (.int 2)) (.var 3))) (.cons (.asg 5 (.sub (.attr (.attr (.var 0) 14) 12) (.var 4))) (.cons (.ite (.bop false (.cons (.isNone true (.var 5)) (.cons (.cmp .eq (.sub (.var 5) (.int 0)) (.var 1)) (.cons (.cmp .eq (.sub (.var 5) (.int 1)) (.var 2)) .nil)))) (.cons (.ret (.var 4)) .nil) .nil) .nil)))) (.cons (.ret (.una .neg (.int 1))) .nil))
noncomputable def S_castling_of : Spec := ⟨["pos", "origin", "goal"], [some ("pos", false), some ("origin", false), some ("goal", false), some ("wing", false), some ("index", false), some ("places", false)], B_castling_of⟩
noncomputable def B_may_push : ISs := (.cons (.asg 3 (.attr (.var 0) 14)) (.cons (.asg 4 (.attr (.var 3) 0)) (.cons (.asg 5 (.int 1)) (.cons (.ite (.cmp .eq (.attr (.var 0) 16) (.gint "BLACK" 1)) (.cons (.asg 4 (.una .neg (.attr (.var 3) 0))) (.cons (.asg 5 (.bin .sub (.attr (.var 3) 1) (.int 2))) .nil)) .nil) (.cons (.ite (.cmp .ne (.sub (.attr (.var 0) 18) (.var 2)) (.gint "EMPTY" 0)) (.cons (.ret (.bool false)) .nil) .nil) (.cons (.ite (.cmp .eq (.var 2) (.bin .add (.var 1) (.var 4))) (.cons (.ret (.bool true)) .nil) .nil) (.cons (.ite (.bop true (.cons (.cmp .ne (.var 2) (.bin .add (.var 1) (.bin .mul (.int 2) (.var 4)))) (.cons (.una .not (.attr (.var 3) 19)) .nil))) (.cons (.ret (.bool false)) .nil) .nil) (.cons (.ret (.bop false (.cons (.cmp .eq (.bin .fdiv (.var 1) (.attr (.var 3) 0)) (.var 5)) (.cons (.cmp .eq (.sub (.attr (.var 0) 18) (.bin .add (.var 1) (.var 4))) (.gint "EMPTY" 0)) .nil)))) .nil))))))))
noncomputable def S_may_push : Spec := ⟨["pos", "origin", "goal"], [some ("pos", false), some ("origin", false), some ("goal", false), some ("geo", false), some ("ahead", false), some ("first", false)], B_may_push⟩
noncomputable def B__law_steps : ISs := (.cons (.ret (.dic [2, 3, 4] (.cons (.tup (.cons (.tup (.cons (.int 1) (.cons (.int 2) .nil))) (.cons (.tup (.cons (.int 2) (.cons (.int 1) .nil))) (.cons (.tup (.cons (.una .neg (.int 1)) (.cons (.int 2) .nil))) (.cons (.tup (.cons (.una .neg (.int 2)) (.cons (.int 1) .nil))) (.cons (.tup (.cons (.int 1) (.cons (.una .neg (.int 2)) .nil))) (.cons (.tup (.cons (.int 2) (.cons (.una .neg (.int 1)) .nil))) (.cons (.tup (.cons (.una .neg (.int 1)) (.cons (.una .neg (.int 2)) .nil))) (.cons (.tup (.cons (.una .neg (.int 2)) (.cons (.una .neg (.int 1)) .nil))) .nil))))))))) (.cons (.tup (.cons (.tup (.cons (.int 1) (.cons (.int 1) .nil))) (.cons (.tup (.cons (.int 1) (.cons (.una .neg (.int 1)) .nil))) (.cons (.tup (.cons (.una .neg (.int 1)) (.cons (.int 1) .nil))) (.cons (.tup (.cons (.una .neg (.int 1)) (.cons (.una .neg (.int 1)) .nil))) .nil))))) (.cons (.tup (.cons (.tup (.cons (.int 1) (.cons (.int 0) .nil))) (.cons (.tup (.cons (.una .neg (.int 1)) (.cons (.int 0) .nil))) (.cons (.tup (.cons (.int 0) (.cons (.int 1) .nil))) (.cons (.tup (.cons (.int 0) (.cons (.una .neg (.int 1)) .nil))) .nil))))) .nil))))) .nil)
noncomputable def S__law_steps : Spec := ⟨[], [], B__law_steps⟩
noncomputable def B__law_dip : ISs := (.cons (.asg 2 (.sub (.var 0) (.int 1))) (.cons (.setI (.var 0) (.int 1) (.bin .add (.var 2) (.int 1))) (.cons (.ite (.cmp .lt (.var 2) (.len (.sub (.var 0) (.int 0)))) (.cons (.ret (.bin .mod (.sub (.sub (.var 0) (.int 0)) (.var 2)) (.var 1))) .nil) .nil) (.cons (.ret (.bin .mod (.bin .add (.bin .add (.bin .mul (.int 9) (.var 2)) (.bin .fdiv (.var 2) (.int 4))) (.int 1)) (.var 1))) .nil))))
noncomputable def S__law_dip : Spec := ⟨["barrel", "many"], [some ("barrel", false), some ("many", false), some ("spot", false)], B__law_dip⟩
noncomputable def B_Geometry_init : ISs := (.cons (.setA (.var 0) 0 (.var 1)) (.cons (.setA (.var 0) 1 (.var 2)) (.cons (.setA (.var 0) 5 (.bin .mul (.var 1) (.var 2))) (.cons (.setA (.var 0) 4 (.bin .sub (.bin .shl (.int 1) (.bin .mul (.var 1) (.var 2))) (.int 1))) (.cons (.setA (.var 0) 19 (.bop false (.cons (.var 3) (.cons (.cmp .ge (.var 2) (.int 5)) .nil)))) (.cons (.setA (.var 0) 11 (.var 4)) (.cons (.setA (.var 0) 3 (.lst .nil)) (.cons (.setA (.var 0) 2 (.lst .nil)) (.cons (.setA (.var 0) 8 (.lst .nil)) (.cons (.setA (.var 0) 7 (.lst .nil)) (.cons (.setA (.var 0) 9 (.lst .nil)) (.cons (.setA (.var 0) 6 (.lst (.cons (.lst .nil) (.cons (.lst .nil) .nil)))) (.cons (.setA (.var 0) 12 (.lst .nil)) (.cons (.setA (.var 0) 10 (.lst .nil)) .nil))))))))))))))
noncomputable def S_Geometry_init : Spec := ⟨["self", "files", "ranks", "has_double", "has_castling"], [some ("self", false), some ("files", false), some ("ranks", false), some ("has_double", false), some ("has_castling", false)], B_Geometry_init⟩
noncomputable def B_Position_init : ISs := (.cons (.setA (.var 0) 14 (.var 1)) (.cons (.setA (.var 0) 20 (.var 2)) (.cons (.setA (.var 0) 18 (.rep (.cons (.gint "EMPTY" 0) .nil) (.attr (.var 1) 5))) (.cons (.setA (.var 0) 13 (.rep (.cons (.int 0) .nil) (.int 7))) (.cons (.setA (.var 0) 15 (.lst (.cons (.int 0) (.cons (.int 0) .nil)))) (.cons (.setA (.var 0) 16 (.gint "WHITE" 0)) (.cons (.setA (.var 0) 21 (.int 0)) (.cons (.setA (.var 0) 17 (.una .neg (.int 1))) (.cons (.setA (.var 0) 22 (.int 0)) (.cons (.setA (.var 0) 4 (.int 1)) (.cons (.setA (.var 0) 23 (.int 0)) (.cons (.setA (.var 0) 24 (.lst .nil)) .nil))))))))))))
noncomputable def S_Position_init : Spec := ⟨["self", "geo", "zob"], [some ("self", false), some ("geo", false), some ("zob", false)], B_Position_init⟩
noncomputable def B_Zobrist_init : ISs := (.cons (.setA (.var 0) 25 (.var 1)) (.cons (.setA (.var 0) 17 (.var 2)) (.cons (.setA (.var 0) 21 (.var 3)) (.cons (.setA (.var 0) 16 (.var 4)) .nil))))
noncomputable def S_Zobrist_init : Spec := ⟨["self", "pieces", "ep", "rights", "side"], [some ("self", false), some ("pieces", false), some ("ep", false), some ("rights", false), some ("side", false)], B_Zobrist_init⟩
noncomputable def L0 : List Spec := [S_side_of, S_kind_of, S_move_from, S_move_to, S_move_special, S_is_growing, S_add_masks, S_inner_squares, S_add_pawns, S_add_knights, S_add_castles, S_more_than_one, S_highest, S_straight_sliders, S_slanting_sliders, S_pawn_attackers, S_direction, S_passed_pawn_square, S_castling_of, S_may_push, S__law_steps, S__law_dip, S_Geometry_init, S_Position_init, S_Zobrist_init]
noncomputable def Fs1 : List Fun := Fs0 ++ L0.map (Spec.fn Fs0)
noncomputable def F_side_of : Fun := denFun Fs0 1 1 B_side_of
noncomputable def F_kind_of : Fun := denFun Fs0 1 1 B_kind_of
noncomputable def F_move_from : Fun := denFun Fs0 1 1 B_move_from
noncomputable def F_move_to : Fun := denFun Fs0 1 1 B_move_to
noncomputable def F_move_special : Fun := denFun Fs0 1 1 B_move_special
noncomputable def F_is_growing : Fun := denFun Fs0 1 1 B_is_growing
noncomputable def F_add_masks : Fun := denFun Fs0 1 5 B_add_masks
noncomputable def F_inner_squares : Fun := denFun Fs0 2 3 B_inner_squares
noncomputable def F_add_pawns : Fun := denFun Fs0 1 2 B_add_pawns
noncomputable def F_add_knights : Fun := denFun Fs0 1 11 B_add_knights
noncomputable def F_add_castles : Fun := denFun Fs0 1 7 B_add_castles
noncomputable def F_more_than_one : Fun := denFun Fs0 1 1 B_more_than_one
noncomputable def F_highest : Fun := denFun Fs0 1 3 B_highest
noncomputable def F_straight_sliders : Fun := denFun Fs0 1 1 B_straight_sliders
noncomputable def F_slanting_sliders : Fun := denFun Fs0 1 1 B_slanting_sliders
noncomputable def F_pawn_attackers : Fun := denFun Fs0 3 3 B_pawn_attackers
noncomputable def F_direction : Fun := denFun Fs0 3 4 B_direction
noncomputable def F_passed_pawn_square : Fun := denFun Fs0 1 1 B_passed_pawn_square
noncomputable def F_castling_of : Fun := denFun Fs0 3 6 B_castling_of
noncomputable def F_may_push : Fun := denFun Fs0 3 6 B_may_push
noncomputable def F__law_steps : Fun := denFun Fs0 0 0 B__law_steps
noncomputable def F__law_dip : Fun := denFun Fs0 2 3 B__law_dip
noncomputable def F_Geometry_init : Fun := denFun Fs0 5 5 B_Geometry_init
noncomputable def F_Position_init : Fun := denFun Fs0 3 3 B_Position_init
noncomputable def F_Zobrist_init : Fun := denFun Fs0 5 5 B_Zobrist_init
noncomputable def B_is_move_number : ISs := (.cons (.ite (.bop true (.cons (.cmp .le (.var 0) (.int 0)) (.cons (.cmp .ge (.var 0) (.int 65536)) .nil))) (.cons (.ret (.bool false)) .nil) .nil) (.cons (.ite (.cmp .eq (.call 2 (.cons (.var 0) .nil)) (.call 3 (.cons (.var 0) .nil))) (.cons (.ret (.bool false)) .nil) .nil) (.cons (.ret (.bop true (.cons (.cmp .eq (.call 4 (.cons (.var 0) .nil)) (.gint "PROMOTION" 1)) (.cons (.cmp .eq (.bin .band (.bin .shr (.var 0) (.int 12)) (.int 3)) (.int 0)) .nil)))) .nil)))
noncomputable def S_is_move_number : Spec := ⟨["move"], [some ("move", false)], B_is_move_number⟩
noncomputable def B_add_rays : ISs := (.cons (.setA (.var 0) 7 (.rep (.cons (.int 0) .nil) (.attr (.var 0) 5))) (.cons (.for [1] false (.range (.cons (.int 8) .nil)) (.cons (.asg 2 (.call 7 (.cons (.var 0) (.cons (.var 1) .nil)))) (.cons (.asg 3 (.bin .add (.bin .mul (.sub (.gref "STEP_RANKS" 1) (.var 1)) (.attr (.var 0) 0)) (.sub (.gref "STEP_FILES" 0) (.var 1)))) (.cons (.asg 4 (.rep (.cons (.int 0) .nil) (.attr (.var 0) 5))) (.cons (.asg 5 (.range (.cons (.attr (.var 0) 5) .nil))) (.cons (.ite (.call 5 (.cons (.var 1) .nil)) (.cons (.asg 5 (.range (.cons (.bin .sub (.attr (.var 0) 5) (.int 1)) (.cons (.una .neg (.int 1)) (.cons (.una .neg (.int 1)) .nil))))) .nil) .nil) (.cons (.for [6] false (.var 5) (.cons (.ite (.bin .band (.bin .shr (.var 2) (.var 6)) (.int 1)) (.cons (.asg 7 (.bin .add (.var 6) (.var 3))) (.cons (.setI (.var 4) (.var 6) (.bin .bor (.sub (.var 4) (.var 7)) (.bin .shl (.int 1) (.var 7)))) (.cons (.augI .bor (.attr (.var 0) 7) (.var 6) (.bin .shl (.int 1) (.var 7))) .nil))) .nil) .nil)) (.cons (.expr (.append (.attr (.var 0) 8) (.var 4))) .nil)))))))) .nil))
noncomputable def S_add_rays : Spec := ⟨["geo"], [some ("geo", false), some ("d", false), some ("inner", false), some ("delta", false), some ("ray", false), some ("order", false), some ("square", false), some ("goal", false)], B_add_rays⟩
noncomputable def B_ray_attacks : ISs := (.cons (.asg 4 (.sub (.sub (.attr (.var 0) 8) (.var 1)) (.var 2))) (.cons (.asg 5 (.bin .band (.var 4) (.var 3))) (.cons (.ite (.cmp .eq (.var 5) (.int 0)) (.cons (.ret (.var 4)) .nil) .nil) (.cons (.ite (.call 5 (.cons (.var 1) .nil)) (.cons (.ret (.bin .band (.var 4) (.bin .bxor (.var 5) (.bin .sub (.var 5) (.int 1))))) .nil) .nil) (.cons (.asg 6 (.bin .shr (.var 5) (.int 1))) (.cons (.aug .bor 6 (.bin .shr (.var 6) (.int 1))) (.cons (.aug .bor 6 (.bin .shr (.var 6) (.int 2))) (.cons (.aug .bor 6 (.bin .shr (.var 6) (.int 4))) (.cons (.aug .bor 6 (.bin .shr (.var 6) (.int 8))) (.cons (.aug .bor 6 (.bin .shr (.var 6) (.int 16))) (.cons (.aug .bor 6 (.bin .shr (.var 6) (.int 32))) (.cons (.ret (.bin .band (.var 4) (.una .inv (.var 6)))) .nil))))))))))))
noncomputable def S_ray_attacks : Spec := ⟨["geo", "d", "square", "occupied"], [some ("geo", false), some ("d", false), some ("square", false), some ("occupied", false), some ("ray", false), some ("stop", false), some ("behind", false)], B_ray_attacks⟩
noncomputable def B_lowest : ISs := (.cons (.ret (.call 12 (.cons (.bin .band (.var 0) (.una .neg (.var 0))) .nil))) .nil)
noncomputable def S_lowest : Spec := ⟨["b"], [some ("b", false)], B_lowest⟩
noncomputable def B_put_piece : ISs := (.cons (.asg 3 (.bin .shl (.int 1) (.var 2))) (.cons (.setI (.attr (.var 0) 18) (.var 2) (.var 1)) (.cons (.augI .bor (.attr (.var 0) 13) (.call 1 (.cons (.var 1) .nil)) (.var 3)) (.cons (.augI .bor (.attr (.var 0) 15) (.call 0 (.cons (.var 1) .nil)) (.var 3)) (.cons (.augA .bxor (.var 0) 23 (.sub (.sub (.attr (.attr (.var 0) 20) 25) (.var 1)) (.var 2))) .nil)))))
noncomputable def S_put_piece : Spec := ⟨["pos", "piece", "s"], [some ("pos", false), some ("piece", false), some ("s", false), some ("bit", false)], B_put_piece⟩
noncomputable def B_step_attackers : ISs := (.cons (.asg 3 (.attr (.var 0) 14)) (.cons (.asg 4 (.bin .band (.sub (.attr (.var 3) 9) (.var 1)) (.sub (.attr (.var 0) 13) (.gint "KNIGHT" 2)))) (.cons (.aug .bor 4 (.bin .band (.sub (.attr (.var 3) 7) (.var 1)) (.sub (.attr (.var 0) 13) (.gint "KING" 6)))) (.cons (.ret (.bin .bor (.call 15 (.cons (.var 0) (.cons (.var 1) (.cons (.var 2) .nil)))) (.bin .band (.var 4) (.sub (.attr (.var 0) 15) (.var 2))))) .nil))))
noncomputable def S_step_attackers : Spec := ⟨["pos", "square", "side"], [some ("pos", false), some ("square", false), some ("side", false), some ("geo", false), some ("near", false)], B_step_attackers⟩
noncomputable def B_between : ISs := (.cons (.asg 3 (.call 16 (.cons (.var 0) (.cons (.var 1) (.cons (.var 2) .nil))))) (.cons (.ite (.cmp .lt (.var 3) (.int 0)) (.cons (.ret (.int 0)) .nil) .nil) (.cons (.ret (.bin .band (.sub (.sub (.attr (.var 0) 8) (.var 3)) (.var 1)) (.sub (.sub (.attr (.var 0) 8) (.bin .bxor (.var 3) (.int 2))) (.var 2)))) .nil)))
noncomputable def S_between : Spec := ⟨["geo", "a", "b"], [some ("geo", false), some ("a", false), some ("b", false), some ("d", false)], B_between⟩
noncomputable def B_may_answer_en_passant : ISs := (.cons (.ite (.cmp .lt (.attr (.var 0) 17) (.int 0)) (.cons (.ret (.bool false)) .nil) .nil) (.cons (.ret (.cmp .ne (.bin .band (.var 1) (.bin .bor (.bin .shl (.int 1) (.attr (.var 0) 17)) (.bin .shl (.int 1) (.call 17 (.cons (.var 0) .nil))))) (.int 0))) .nil))
noncomputable def S_may_answer_en_passant : Spec := ⟨["pos", "target"], [some ("pos", false), some ("target", false)], B_may_answer_en_passant⟩
noncomputable def B_may_castle : ISs := (.cons (.asg 3 (.call 18 (.cons (.var 0) (.cons (.var 1) (.cons (.var 2) .nil))))) (.cons (.ret (.bop false (.cons (.cmp .ge (.var 3) (.int 0)) (.cons (.cmp .eq (.call 55 (.cons (.var 0) (.cons (.var 3) .nil))) (.int 0)) .nil)))) .nil))
noncomputable def S_may_castle : Spec := ⟨["pos", "origin", "goal"], [some ("pos", false), some ("origin", false), some ("goal", false), some ("index", false)], B_may_castle⟩
noncomputable def B_may_pawn_go : ISs := (.cons (.asg 4 (.attr (.var 0) 14)) (.cons (.asg 5 (.int 0)) (.cons (.ite (.cmp .eq (.attr (.var 0) 16) (.gint "WHITE" 0)) (.cons (.asg 5 (.bin .sub (.attr (.var 4) 1) (.int 1))) .nil) .nil) (.cons (.ite (.cmp .ne (.cmp .eq (.bin .fdiv (.var 2) (.attr (.var 4) 0)) (.var 5)) (.cmp .eq (.var 3) (.gint "PROMOTION" 1))) (.cons (.ret (.bool false)) .nil) .nil) (.cons (.asg 6 (.cmp .eq (.bin .band (.bin .shr (.sub (.sub (.attr (.var 4) 6) (.attr (.var 0) 16)) (.var 1)) (.var 2)) (.int 1)) (.int 1))) (.cons (.ite (.cmp .eq (.var 3) (.gint "EN_PASSANT" 2)) (.cons (.ret (.bop false (.cons (.var 6) (.cons (.cmp .eq (.var 2) (.attr (.var 0) 17)) .nil)))) .nil) .nil) (.cons (.ite (.var 6) (.cons (.ret (.cmp .eq (.bin .band (.bin .shr (.sub (.attr (.var 0) 15) (.bin .sub (.int 1) (.attr (.var 0) 16))) (.var 2)) (.int 1)) (.int 1))) .nil) .nil) (.cons (.ret (.call 19 (.cons (.var 0) (.cons (.var 1) (.cons (.var 2) .nil))))) .nil))))))))
noncomputable def S_may_pawn_go : Spec := ⟨["pos", "origin", "goal", "special"], [some ("pos", false), some ("origin", false), some ("goal", false), some ("special", false), some ("geo", false), some ("last", false), some ("hits", false)], B_may_pawn_go⟩
noncomputable def B__law_reached : ISs := (.cons (.asgT [3, 4] (.tup (.cons (.bin .mod (.sub (.var 1) (.var 2)) (.int 8)) (.cons (.cmp .gt (.sub (.var 1) (.var 2)) (.int 8)) .nil)))) (.cons (.asgT [5, 6] (.tup (.cons (.bin .mod (.var 2) (.var 0)) (.cons (.bin .fdiv (.var 2) (.var 0)) .nil)))) (.cons (.asg 7 (.bin .fdiv (.len (.var 1)) (.var 0))) (.cons (.ite (.cmp .eq (.var 3) (.int 1)) (.cons (.asg 8 (.ite (.var 4) (.una .neg (.int 1)) (.int 1))) (.cons (.asg 9 (.tup (.cons (.tup (.cons (.int 1) (.cons (.var 8) .nil))) (.cons (.tup (.cons (.una .neg (.int 1)) (.cons (.var 8) .nil))) .nil)))) .nil)) (.cons (.asg 9 (.get (.call 20 .nil) (.var 3) (.bin .add (.sub (.call 20 .nil) (.int 3)) (.sub (.call 20 .nil) (.int 4))))) .nil)) (.cons (.asg 10 (.lst .nil)) (.cons (.for [11, 12] true (.var 9) (.cons (.asg 13 (.int 1)) (.cons (.while (.bop false (.cons (.cmp2 .le .lt (.int 0) (.bin .add (.var 5) (.bin .mul (.var 13) (.var 11))) (.var 0)) (.cons (.cmp2 .le .lt (.int 0) (.bin .add (.var 6) (.bin .mul (.var 13) (.var 12))) (.var 7)) .nil))) (.cons (.asg 14 (.bin .add (.bin .add (.bin .mul (.bin .add (.var 6) (.bin .mul (.var 13) (.var 12))) (.var 0)) (.var 5)) (.bin .mul (.var 13) (.var 11)))) (.cons (.expr (.append (.var 10) (.var 14))) (.cons (.ite (.bop true (.cons (.cmp .ne (.sub (.var 1) (.var 14)) (.int 0)) (.cons (.isIn false (.var 3) (.tup (.cons (.int 1) (.cons (.int 2) (.cons (.int 6) .nil))))) .nil))) (.cons .brk .nil) .nil) (.cons (.asg 13 (.bin .add (.var 13) (.int 1))) .nil))))) .nil))) (.cons (.ret (.var 10)) .nil)))))))
noncomputable def S__law_reached : Spec := ⟨["columns", "board", "origin"], [some ("columns", false), some ("board", false), some ("origin", false), some ("kind", false), some ("is_black", false), some ("column", false), some ("row", false), some ("rows", false), some ("ahead", false), some ("ways", false), some ("found", false), some ("right", false), some ("up", false), some ("far", false), some ("goal", false)], B__law_reached⟩
noncomputable def B__law_board : ISs := (.cons (.asg 3 (.bin .mul (.var 1) (.var 2))) (.cons (.asg 4 (.rep (.cons (.int 0) .nil) (.var 3))) (.cons (.asg 5 (.call 21 (.cons (.var 0) (.cons (.var 3) .nil)))) (.cons (.asg 6 (.comp 11 (.range (.cons (.var 3) .nil)) (.cons (.bop true (.cons (.cmp .gt (.abs (.bin .sub (.bin .mod (.var 11) (.var 1)) (.bin .mod (.var 5) (.var 1)))) (.int 1)) (.cons (.cmp .gt (.abs (.bin .sub (.bin .fdiv (.var 11) (.var 1)) (.bin .fdiv (.var 5) (.var 1)))) (.int 1)) .nil))) .nil) (.var 11))) (.cons (.ite (.eqNil false (.var 6)) (.cons (.asg 5 (.int 0)) (.cons (.asg 6 (.lst (.cons (.bin .sub (.var 3) (.int 1)) .nil))) .nil)) .nil) (.cons (.setI (.var 4) (.var 5) (.int 6)) (.cons (.setI (.var 4) (.sub (.var 6) (.call 21 (.cons (.var 0) (.cons (.len (.var 6)) .nil)))) (.int 14)) (.cons (.for [7] false (.range (.cons (.call 21 (.cons (.var 0) (.cons (.int 6) .nil))) .nil)) (.cons (.asg 8 (.bin .add (.int 1) (.call 21 (.cons (.var 0) (.cons (.int 5) .nil))))) (.cons (.asg 9 (.call 21 (.cons (.var 0) (.cons (.var 3) .nil)))) (.cons (.asg 10 (.bop true (.cons (.cmp .lt (.var 9) (.var 1)) (.cons (.cmp .ge (.var 9) (.bin .sub (.var 3) (.var 1))) .nil)))) (.cons (.ite (.bop false (.cons (.cmp .eq (.sub (.var 4) (.var 9)) (.int 0)) (.cons (.una .not (.bop false (.cons (.cmp .eq (.var 8) (.int 1)) (.cons (.var 10) .nil)))) .nil))) (.cons (.setI (.var 4) (.var 9) (.bin .add (.var 8) (.bin .mul (.int 8) (.call 21 (.cons (.var 0) (.cons (.int 2) .nil)))))) .nil) .nil) .nil))))) (.cons (.ret (.var 4)) .nil)))))))))
noncomputable def S__law_board : Spec := ⟨["barrel", "columns", "rows"], [some ("barrel", false), some ("columns", true), some ("rows", false), some ("size", false), some ("board", false), some ("white", true), some ("far", false), some ("turn", false), some ("kind", false), some ("square", false), some ("is_outer", false), none], B__law_board⟩
noncomputable def L1 : List Spec := [S_is_move_number, S_add_rays, S_ray_attacks, S_lowest, S_put_piece, S_step_attackers, S_between, S_may_answer_en_passant, S_may_castle, S_may_pawn_go, S__law_reached, S__law_board]
noncomputable def Fs2 : List Fun := Fs1 ++ L1.map (Spec.fn Fs1)
noncomputable def F_is_move_number : Fun := denFun Fs1 1 1 B_is_move_number
noncomputable def F_add_rays : Fun := denFun Fs1 1 8 B_add_rays
noncomputable def F_ray_attacks : Fun := denFun Fs1 4 7 B_ray_attacks
noncomputable def F_lowest : Fun := denFun Fs1 1 1 B_lowest
noncomputable def F_put_piece : Fun := denFun Fs1 3 4 B_put_piece
noncomputable def F_step_attackers : Fun := denFun Fs1 3 5 B_step_attackers
noncomputable def F_between : Fun := denFun Fs1 3 4 B_between
noncomputable def F_may_answer_en_passant : Fun := denFun Fs1 2 2 B_may_answer_en_passant
noncomputable def F_may_castle : Fun := denFun Fs1 3 4 B_may_castle
noncomputable def F_may_pawn_go : Fun := denFun Fs1 4 7 B_may_pawn_go
noncomputable def F__law_reached : Fun := denFun Fs1 3 15 B__law_reached
noncomputable def F__law_board : Fun := denFun Fs1 3 12 B__law_board
noncomputable def B_make_geometry : ISs := (.cons (.ite (.bop true (.cons (.cmp .lt (.var 0) (.int 2)) (.cons (.cmp .gt (.var 0) (.int 8)) (.cons (.cmp .lt (.var 1) (.int 3)) (.cons (.cmp .gt (.var 1) (.int 8)) .nil))))) (.cons .bad .nil) .nil) (.cons (.asg 4 (.new 0 22 (.cons (.var 0) (.cons (.var 1) (.cons (.var 2) (.cons (.var 3) .nil)))))) (.cons (.expr (.call 6 (.cons (.var 4) .nil))) (.cons (.expr (.call 26 (.cons (.var 4) .nil))) (.cons (.expr (.call 8 (.cons (.var 4) .nil))) (.cons (.expr (.call 9 (.cons (.var 4) .nil))) (.cons (.expr (.call 10 (.cons (.var 4) .nil))) (.cons (.ret (.var 4)) .nil))))))))
noncomputable def S_make_geometry : Spec := ⟨["files", "ranks", "has_double", "has_castling"], [some ("files", false), some ("ranks", false), some ("has_double", false), some ("has_castling", false), some ("geo", false)], B_make_geometry⟩
noncomputable def B_rook_attacks : ISs := (.cons (.asg 3 (.int 0)) (.cons (.for [4] false (.range (.cons (.int 4) .nil)) (.cons (.aug .bor 3 (.call 27 (.cons (.var 0) (.cons (.var 4) (.cons (.var 1) (.cons (.var 2) .nil)))))) .nil)) (.cons (.ret (.var 3)) .nil)))
noncomputable def S_rook_attacks : Spec := ⟨["geo", "square", "occupied"], [some ("geo", false), some ("square", false), some ("occupied", false), some ("found", false), some ("d", false)], B_rook_attacks⟩
noncomputable def B_bishop_attacks : ISs := (.cons (.asg 3 (.int 0)) (.cons (.for [4] false (.range (.cons (.int 4) (.cons (.int 8) .nil))) (.cons (.aug .bor 3 (.call 27 (.cons (.var 0) (.cons (.var 4) (.cons (.var 1) (.cons (.var 2) .nil)))))) .nil)) (.cons (.ret (.var 3)) .nil)))
noncomputable def S_bishop_attacks : Spec := ⟨["geo", "square", "occupied"], [some ("geo", false), some ("square", false), some ("occupied", false), some ("found", false), some ("d", false)], B_bishop_attacks⟩
noncomputable def B_king_square : ISs := (.cons (.ret (.call 28 (.cons (.bin .band (.sub (.attr (.var 0) 15) (.var 1)) (.sub (.attr (.var 0) 13) (.gint "KING" 6))) .nil))) .nil)
noncomputable def S_king_square : Spec := ⟨["pos", "side"], [some ("pos", false), some ("side", false)], B_king_square⟩
noncomputable def B__law_may : ISs := (.cons (.ite (.bop true (.cons (.cmp .gt (.var 4) (.int 1)) (.cons (.bop false (.cons (.cmp .ne (.bin .mod (.sub (.var 1) (.var 2)) (.int 8)) (.int 1)) (.cons (.cmp .eq (.var 4) (.int 1)) .nil))) .nil))) (.cons (.ret (.bool false)) .nil) .nil) (.cons (.asg 5 (.isIn false (.var 3) (.call 35 (.cons (.var 0) (.cons (.var 1) (.cons (.var 2) .nil)))))) (.cons (.ite (.cmp .ne (.bin .mod (.sub (.var 1) (.var 2)) (.int 8)) (.int 1)) (.cons (.ret (.var 5)) .nil) .nil) (.cons (.asg 6 (.ite (.cmp .gt (.sub (.var 1) (.var 2)) (.int 8)) (.una .neg (.var 0)) (.var 0))) (.cons (.asg 7 (.ite (.cmp .gt (.sub (.var 1) (.var 2)) (.int 8)) (.int 0) (.bin .sub (.bin .fdiv (.len (.var 1)) (.var 0)) (.int 1)))) (.cons (.ite (.cmp .ne (.cmp .eq (.bin .fdiv (.var 3) (.var 0)) (.var 7)) (.cmp .eq (.var 4) (.int 1))) (.cons (.ret (.bool false)) .nil) .nil) (.cons (.ret (.bop true (.cons (.bop false (.cons (.var 5) (.cons (.cmp .ne (.sub (.var 1) (.var 3)) (.int 0)) .nil))) (.cons (.bop false (.cons (.cmp .eq (.var 3) (.bin .add (.var 2) (.var 6))) (.cons (.cmp .eq (.sub (.var 1) (.var 3)) (.int 0)) .nil))) .nil)))) .nil)))))))
noncomputable def S__law_may : Spec := ⟨["columns", "board", "origin", "goal", "sort"], [some ("columns", false), some ("board", false), some ("origin", false), some ("goal", false), some ("sort", false), some ("hits", false), some ("ahead", false), some ("last", false)], B__law_may⟩
noncomputable def L2 : List Spec := [S_make_geometry, S_rook_attacks, S_bishop_attacks, S_king_square, S__law_may]
noncomputable def Fs3 : List Fun := Fs2 ++ L2.map (Spec.fn Fs2)
noncomputable def F_make_geometry : Fun := denFun Fs2 4 5 B_make_geometry
noncomputable def F_rook_attacks : Fun := denFun Fs2 3 5 B_rook_attacks
noncomputable def F_bishop_attacks : Fun := denFun Fs2 3 5 B_bishop_attacks
noncomputable def F_king_square : Fun := denFun Fs2 2 2 B_king_square
noncomputable def F__law_may : Fun := denFun Fs2 5 8 B__law_may
noncomputable def B_queen_attacks : ISs := (.cons (.ret (.bin .bor (.call 38 (.cons (.var 0) (.cons (.var 1) (.cons (.var 2) .nil)))) (.call 39 (.cons (.var 0) (.cons (.var 1) (.cons (.var 2) .nil)))))) .nil)
noncomputable def S_queen_attacks : Spec := ⟨["geo", "square", "occupied"], [some ("geo", false), some ("square", false), some ("occupied", false)], B_queen_attacks⟩
noncomputable def B_line_attackers : ISs := (.cons (.asg 3 (.int 0)) (.cons (.asg 4 (.call 13 (.cons (.var 0) .nil))) (.cons (.ite (.var 4) (.cons (.aug .bor 3 (.bin .band (.call 38 (.cons (.attr (.var 0) 14) (.cons (.var 1) (.cons (.var 2) .nil)))) (.var 4))) .nil) .nil) (.cons (.asg 5 (.call 14 (.cons (.var 0) .nil))) (.cons (.ite (.var 5) (.cons (.aug .bor 3 (.bin .band (.call 39 (.cons (.attr (.var 0) 14) (.cons (.var 1) (.cons (.var 2) .nil)))) (.var 5))) .nil) .nil) (.cons (.ret (.var 3)) .nil))))))
noncomputable def S_line_attackers : Spec := ⟨["pos", "square", "occupied"], [some ("pos", false), some ("square", false), some ("occupied", false), some ("hits", false), some ("straight", false), some ("slanting", false)], B_line_attackers⟩
noncomputable def B_evasion_targets : ISs := (.cons (.ite (.bop true (.cons (.cmp .eq (.var 1) (.int 0)) (.cons (.call 11 (.cons (.var 1) .nil)) .nil))) (.cons (.ret (.int 0)) .nil) .nil) (.cons (.ret (.bin .bor (.var 1) (.call 31 (.cons (.attr (.var 0) 14) (.cons (.call 40 (.cons (.var 0) (.cons (.attr (.var 0) 16) .nil))) (.cons (.call 28 (.cons (.var 1) .nil)) .nil)))))) .nil))
noncomputable def S_evasion_targets : Spec := ⟨["pos", "given"], [some ("pos", false), some ("given", false)], B_evasion_targets⟩
noncomputable def B__law_reason : ISs := (.cons (.asgT [4, 5, 6, 7] (.tup (.cons (.bin .fdiv (.var 3) (.int 16384)) (.cons (.bin .mod (.bin .fdiv (.var 3) (.int 4096)) (.int 4)) (.cons (.bin .mod (.bin .fdiv (.var 3) (.int 64)) (.int 64)) (.cons (.bin .mod (.var 3) (.int 64)) .nil)))))) (.cons (.ite (.bop true (.cons (.cmp .lt (.var 3) (.int 1)) (.cons (.cmp .gt (.var 3) (.int 65535)) (.cons (.cmp .eq (.var 6) (.var 7)) (.cons (.bop false (.cons (.cmp .ne (.var 4) (.int 1)) (.cons (.cmp .gt (.var 5) (.int 0)) .nil))) .nil))))) (.cons (.ret (.int 1)) .nil) .nil) (.cons (.ite (.bop true (.cons (.cmp .ge (.var 6) (.len (.var 1))) (.cons (.cmp .ge (.var 7) (.len (.var 1))) .nil))) (.cons (.ret (.int 2)) .nil) .nil) (.cons (.ite (.isIn true (.var 6) (.var 2)) (.cons (.ret (.int 3)) .nil) .nil) (.cons (.ite (.isIn false (.var 7) (.var 2)) (.cons (.ret (.int 4)) .nil) .nil) (.cons (.ret (.ite (.call 41 (.cons (.var 0) (.cons (.var 1) (.cons (.var 6) (.cons (.var 7) (.cons (.var 4) .nil)))))) (.int 0) (.int 5))) .nil))))))
noncomputable def S__law_reason : Spec := ⟨["columns", "board", "own", "number"], [some ("columns", false), some ("board", false), some ("own", false), some ("number", false), some ("sort", false), some ("field", false), some ("origin", false), some ("goal", false)], B__law_reason⟩
noncomputable def L3 : List Spec := [S_queen_attacks, S_line_attackers, S_evasion_targets, S__law_reason]
noncomputable def Fs4 : List Fun := Fs3 ++ L3.map (Spec.fn Fs3)
noncomputable def F_queen_attacks : Fun := denFun Fs3 3 3 B_queen_attacks
noncomputable def F_line_attackers : Fun := denFun Fs3 3 6 B_line_attackers
noncomputable def F_evasion_targets : Fun := denFun Fs3 2 2 B_evasion_targets
noncomputable def F__law_reason : Fun := denFun Fs3 4 8 B__law_reason
noncomputable def B_slider_attacks : ISs := (.cons (.ite (.cmp .eq (.var 1) (.gint "BISHOP" 3)) (.cons (.ret (.call 39 (.cons (.var 0) (.cons (.var 2) (.cons (.var 3) .nil))))) .nil) .nil) (.cons (.ite (.cmp .eq (.var 1) (.gint "ROOK" 4)) (.cons (.ret (.call 38 (.cons (.var 0) (.cons (.var 2) (.cons (.var 3) .nil))))) .nil) .nil) (.cons (.ite (.cmp .eq (.var 1) (.gint "QUEEN" 5)) (.cons (.ret (.call 42 (.cons (.var 0) (.cons (.var 2) (.cons (.var 3) .nil))))) .nil) .nil) (.cons (.ret (.int 0)) .nil))))
noncomputable def S_slider_attacks : Spec := ⟨["geo", "kind", "square", "occupied"], [some ("geo", false), some ("kind", false), some ("square", false), some ("occupied", false)], B_slider_attacks⟩
noncomputable def B_attackers_to : ISs := (.cons (.asg 3 (.bin .bor (.call 30 (.cons (.var 0) (.cons (.var 1) (.cons (.gint "WHITE" 0) .nil)))) (.call 30 (.cons (.var 0) (.cons (.var 1) (.cons (.gint "BLACK" 1) .nil)))))) (.cons (.ret (.bin .bor (.var 3) (.call 43 (.cons (.var 0) (.cons (.var 1) (.cons (.var 2) .nil)))))) .nil))
noncomputable def S_attackers_to : Spec := ⟨["pos", "square", "occupied"], [some ("pos", false), some ("square", false), some ("occupied", false), some ("steps", false)], B_attackers_to⟩
noncomputable def L4 : List Spec := [S_slider_attacks, S_attackers_to]
noncomputable def Fs5 : List Fun := Fs4 ++ L4.map (Spec.fn Fs4)
noncomputable def F_slider_attacks : Fun := denFun Fs4 4 4 B_slider_attacks
noncomputable def F_attackers_to : Fun := denFun Fs4 3 4 B_attackers_to
noncomputable def B_piece_attacks : ISs := (.cons (.ite (.cmp .eq (.var 2) (.gint "PAWN" 1)) (.cons (.ret (.sub (.sub (.attr (.var 0) 6) (.var 1)) (.var 3))) .nil) .nil) (.cons (.ite (.cmp .eq (.var 2) (.gint "KNIGHT" 2)) (.cons (.ret (.sub (.attr (.var 0) 9) (.var 3))) .nil) .nil) (.cons (.ite (.cmp .eq (.var 2) (.gint "KING" 6)) (.cons (.ret (.sub (.attr (.var 0) 7) (.var 3))) .nil) .nil) (.cons (.ret (.call 46 (.cons (.var 0) (.cons (.var 2) (.cons (.var 3) (.cons (.var 4) .nil)))))) .nil))))
noncomputable def S_piece_attacks : Spec := ⟨["geo", "side", "kind", "square", "occupied"], [some ("geo", false), some ("side", false), some ("kind", false), some ("square", false), some ("occupied", false)], B_piece_attacks⟩
noncomputable def B_checkers_of : ISs := (.cons (.asg 2 (.bin .bor (.sub (.attr (.var 0) 15) (.gint "WHITE" 0)) (.sub (.attr (.var 0) 15) (.gint "BLACK" 1)))) (.cons (.ret (.bin .band (.call 47 (.cons (.var 0) (.cons (.call 40 (.cons (.var 0) (.cons (.var 1) .nil))) (.cons (.var 2) .nil)))) (.sub (.attr (.var 0) 15) (.bin .sub (.int 1) (.var 1))))) .nil))
noncomputable def S_checkers_of : Spec := ⟨["pos", "side"], [some ("pos", false), some ("side", false), some ("everything", false)], B_checkers_of⟩
noncomputable def L5 : List Spec := [S_piece_attacks, S_checkers_of]
noncomputable def Fs6 : List Fun := Fs5 ++ L5.map (Spec.fn Fs5)
noncomputable def F_piece_attacks : Fun := denFun Fs5 5 5 B_piece_attacks
noncomputable def F_checkers_of : Fun := denFun Fs5 2 3 B_checkers_of
noncomputable def B_checkers : ISs := (.cons (.ret (.call 49 (.cons (.var 0) (.cons (.attr (.var 0) 16) .nil)))) .nil)
noncomputable def S_checkers : Spec := ⟨["pos"], [some ("pos", false)], B_checkers⟩
noncomputable def B_may_piece_go : ISs := (.cons (.ite (.cmp .eq (.var 1) (.gint "PAWN" 1)) (.cons (.ret (.call 34 (.cons (.var 0) (.cons (.var 2) (.cons (.var 3) (.cons (.var 4) .nil)))))) .nil) .nil) (.cons (.ite (.cmp .ne (.var 4) (.gint "NORMAL" 0)) (.cons (.ret (.bool false)) .nil) .nil) (.cons (.asg 5 (.bin .bor (.sub (.attr (.var 0) 15) (.gint "WHITE" 0)) (.sub (.attr (.var 0) 15) (.gint "BLACK" 1)))) (.cons (.ret (.cmp .eq (.bin .band (.bin .shr (.call 48 (.cons (.attr (.var 0) 14) (.cons (.attr (.var 0) 16) (.cons (.var 1) (.cons (.var 2) (.cons (.var 5) .nil)))))) (.var 3)) (.int 1)) (.int 1))) .nil))))
noncomputable def S_may_piece_go : Spec := ⟨["pos", "kind", "origin", "goal", "special"], [some ("pos", false), some ("kind", false), some ("origin", false), some ("goal", false), some ("special", false), some ("everything", false)], B_may_piece_go⟩
noncomputable def L6 : List Spec := [S_checkers, S_may_piece_go]
noncomputable def Fs7 : List Fun := Fs6 ++ L6.map (Spec.fn Fs6)
noncomputable def F_checkers : Fun := denFun Fs6 1 1 B_checkers
noncomputable def F_may_piece_go : Fun := denFun Fs6 5 6 B_may_piece_go
noncomputable def B_answers_check : ISs := (.cons (.asg 3 (.call 50 (.cons (.var 0) .nil))) (.cons (.ite (.bop true (.cons (.cmp .eq (.var 3) (.int 0)) (.cons (.cmp .eq (.var 2) (.gint "KING" 6)) .nil))) (.cons (.ret (.bool true)) .nil) .nil) (.cons (.asg 4 (.call 44 (.cons (.var 0) (.cons (.var 3) .nil)))) (.cons (.ite (.cmp .eq (.call 4 (.cons (.var 1) .nil)) (.gint "EN_PASSANT" 2)) (.cons (.ret (.call 32 (.cons (.var 0) (.cons (.var 4) .nil)))) .nil) .nil) (.cons (.ret (.cmp .eq (.bin .band (.bin .shr (.var 4) (.call 3 (.cons (.var 1) .nil))) (.int 1)) (.int 1))) .nil)))))
noncomputable def S_answers_check : Spec := ⟨["pos", "move", "kind"], [some ("pos", false), some ("move", false), some ("kind", false), some ("given", false), some ("target", false)], B_answers_check⟩
noncomputable def L7 : List Spec := [S_answers_check]
noncomputable def Fs8 : List Fun := Fs7 ++ L7.map (Spec.fn Fs7)
noncomputable def F_answers_check : Fun := denFun Fs7 3 5 B_answers_check
noncomputable def B_pseudo_refusal : ISs := (.cons (.ite (.una .not (.call 25 (.cons (.var 1) .nil))) (.cons (.ret (.gint "NO_SUCH_NUMBER" 1)) .nil) .nil) (.cons (.asg 2 (.call 2 (.cons (.var 1) .nil))) (.cons (.asg 3 (.call 3 (.cons (.var 1) .nil))) (.cons (.ite (.bop true (.cons (.cmp .ge (.var 2) (.attr (.attr (.var 0) 14) 5)) (.cons (.cmp .ge (.var 3) (.attr (.attr (.var 0) 14) 5)) .nil))) (.cons (.ret (.gint "OFF_THE_BOARD" 2)) .nil) .nil) (.cons (.asg 4 (.sub (.attr (.var 0) 18) (.var 2))) (.cons (.ite (.bop true (.cons (.cmp .eq (.var 4) (.gint "EMPTY" 0)) (.cons (.cmp .ne (.call 0 (.cons (.var 4) .nil)) (.attr (.var 0) 16)) .nil))) (.cons (.ret (.gint "NO_OWN_PIECE" 3)) .nil) .nil) (.cons (.ite (.bin .band (.bin .shr (.sub (.attr (.var 0) 15) (.attr (.var 0) 16)) (.var 3)) (.int 1)) (.cons (.ret (.gint "OWN_GOAL" 4)) .nil) .nil) (.cons (.asg 5 (.call 4 (.cons (.var 1) .nil))) (.cons (.ite (.cmp .eq (.var 5) (.gint "CASTLING" 3)) (.cons (.ret (.ite (.call 33 (.cons (.var 0) (.cons (.var 2) (.cons (.var 3) .nil)))) (.gint "MAY_GO" 0) (.gint "NO_SUCH_STEP" 5))) .nil) .nil) (.cons (.asg 6 (.call 1 (.cons (.var 4) .nil))) (.cons (.ite (.una .not (.call 51 (.cons (.var 0) (.cons (.var 6) (.cons (.var 2) (.cons (.var 3) (.cons (.var 5) .nil))))))) (.cons (.ret (.gint "NO_SUCH_STEP" 5)) .nil) .nil) (.cons (.ret (.ite (.call 52 (.cons (.var 0) (.cons (.var 1) (.cons (.var 6) .nil)))) (.gint "MAY_GO" 0) (.gint "CHECK_STANDS" 6))) .nil))))))))))))
noncomputable def S_pseudo_refusal : Spec := ⟨["pos", "move"], [some ("pos", false), some ("move", false), some ("origin", false), some ("goal", false), some ("piece", false), some ("special", false), some ("kind", false)], B_pseudo_refusal⟩
noncomputable def L8 : List Spec := [S_pseudo_refusal]
noncomputable def Fs9 : List Fun := Fs8 ++ L8.map (Spec.fn Fs8)
noncomputable def F_pseudo_refusal : Fun := denFun Fs8 2 7 B_pseudo_refusal
noncomputable def B_law : ISs := (.cons (.asg 1 (.lst (.cons (.comp 21 (.take (.var 0) 40) .nil (.bin .mod (.toInt (.var 21)) (.pow12 (.int 10)))) (.cons (.int 0) .nil)))) (.cons (.asgT [2, 3] (.sub (.gref "_law_sizes" 2) (.call 21 (.cons (.var 1) (.cons (.int 4) .nil))))) (.cons (.asg 4 (.bin .mul (.var 2) (.var 3))) (.cons (.asg 5 (.call 36 (.cons (.var 1) (.cons (.var 2) (.cons (.var 3) .nil))))) (.cons (.asg 6 (.call 21 (.cons (.var 1) (.cons (.int 2) .nil)))) (.cons (.asg 7 (.new 1 23 (.cons (.call 37 (.cons (.var 2) (.cons (.var 3) (.cons (.bool false) (.cons (.bool false) .nil))))) (.cons (.new 2 24 (.cons (.rep (.cons (.rep (.cons (.int 0) .nil) (.var 4)) .nil) (.int 15)) (.cons (.rep (.cons (.int 0) .nil) (.var 2)) (.cons (.rep (.cons (.int 0) .nil) (.int 16)) (.cons (.int 0) .nil))))) .nil)))) (.cons (.for [8] false (.range (.cons (.var 4) .nil)) (.cons (.ite (.cmp .ne (.sub (.var 5) (.var 8)) (.int 0)) (.cons (.expr (.call 29 (.cons (.var 7) (.cons (.sub (.var 5) (.var 8)) (.cons (.var 8) .nil))))) .nil) .nil) .nil)) (.cons (.setA (.var 7) 16 (.var 6)) (.cons (.asg 9 (.index (.var 5) (.bin .add (.int 6) (.bin .mul (.int 8) (.var 6))))) (.cons (.asg 10 (.comp 22 (.range (.cons (.var 4) .nil)) (.cons (.bop false (.cons (.cmp .ne (.sub (.var 5) (.var 22)) (.int 0)) (.cons (.cmp .eq (.cmp .gt (.sub (.var 5) (.var 22)) (.int 8)) (.cmp .eq (.var 6) (.int 1))) .nil))) .nil) (.var 22))) (.cons (.asg 11 (.comp 23 (.range (.cons (.var 4) .nil)) (.cons (.bop false (.cons (.cmp .ne (.sub (.var 5) (.var 23)) (.int 0)) (.cons (.isIn true (.var 23) (.var 10)) .nil))) .nil) (.var 23))) (.cons (.asg 12 (.eqNil true (.comp 24 (.var 11) (.cons (.isIn false (.var 9) (.call 35 (.cons (.var 2) (.cons (.var 5) (.cons (.var 24) .nil))))) .nil) (.var 24)))) (.cons (.asg 13 (.lst (.cons (.var 9) (.cons (.sub (.var 11) (.int 0)) (.cons (.call 21 (.cons (.var 1) (.cons (.var 4) .nil))) (.cons (.call 21 (.cons (.var 1) (.cons (.var 4) .nil))) (.cons (.bin .sub (.var 4) (.int 1)) (.cons (.var 4) (.cons (.int 63) .nil))))))))) (.cons (.asg 14 (.bin .add (.list (.range (.cons (.bin .add (.var 4) (.int 2)) .nil))) (.lst (.cons (.int 63) .nil)))) (.cons (.asg 15 (.lst (.cons (.una .neg (.int 1)) (.cons (.int 0) (.cons (.int 1) (.cons (.int 65535) (.cons (.int 65536) (.cons (.bin .add (.int 65536) (.bin .mul (.int 64) (.var 9))) (.cons (.bin .sub (.bin .mul (.una .neg (.int 64)) (.var 9)) (.int 1)) .nil))))))))) (.cons (.for [16] false (.var 13) (.cons (.asg 15 (.bin .add (.var 15) (.comp 25 (.var 14) .nil (.bin .add (.bin .mul (.int 64) (.var 16)) (.var 25))))) (.cons (.asg 17 (.sub (.var 14) (.call 21 (.cons (.var 1) (.cons (.len (.var 14)) .nil))))) (.cons (.asg 15 (.bin .add (.var 15) (.comp2 26 27 (.range (.cons (.int 4) .nil)) (.range (.cons (.int 4) .nil)) (.bin .add (.bin .add (.bin .add (.bin .mul (.int 16384) (.var 26)) (.bin .mul (.int 4096) (.var 27))) (.bin .mul (.int 64) (.var 16))) (.var 17))))) .nil)))) (.cons (.for [18] false (.var 15) (.cons (.asg 19 (.call 45 (.cons (.var 2) (.cons (.var 5) (.cons (.var 10) (.cons (.var 18) .nil)))))) (.cons (.asg 20 (.call 53 (.cons (.var 7) (.cons (.var 18) .nil)))) (.cons (.ite (.bop false (.cons (.cmp .ne (.var 20) (.var 19)) (.cons (.una .not (.bop false (.cons (.cmp .eq (.var 19) (.int 0)) (.cons (.var 12) (.cons (.cmp .eq (.var 20) (.int 6)) .nil))))) .nil))) (.cons (.ret (.bool false)) .nil) .nil) .nil)))) (.cons (.ret (.bool true)) .nil))))))))))))))))))
noncomputable def S_law : Spec := ⟨["script"], [some ("script", false), some ("barrel", false), some ("columns", true), some ("rows", false), some ("size", false), some ("board", true), some ("side", true), some ("pos", false), some ("square", false), some ("king", true), some ("own", true), some ("enemies", false), some ("is_checked", false), some ("origins", false), some ("goals", false), some ("asked", false), some ("origin", true), some ("goal", true), some ("number", false), some ("due", false), some ("found", false), none, none, none, none, none, none, none], B_law⟩
noncomputable def L9 : List Spec := [S_law]
noncomputable def Fs10 : List Fun := Fs9 ++ L9.map (Spec.fn Fs9)
noncomputable def F_law : Fun := denFun Fs9 1 28 B_law
noncomputable def gintsL : List (Str × Int) := [("WHITE", 0), ("BLACK", 1), ("PAWN", 1), ("KNIGHT", 2), ("BISHOP", 3), ("ROOK", 4), ("QUEEN", 5), ("KING", 6), ("EMPTY", 0), ("NORMAL", 0), ("PROMOTION", 1), ("EN_PASSANT", 2), ("CASTLING", 3), ("MAY", 0), ("NO_WING", 1), ("RIGHT_LOST", 2), ("NOT_FREE", 3), ("IN_CHECK", 4), ("PASSES_ATTACK", 5), ("GOAL_ATTACKED", 6), ("MAY_GO", 0), ("NO_SUCH_NUMBER", 1), ("OFF_THE_BOARD", 2), ("NO_OWN_PIECE", 3), ("OWN_GOAL", 4), ("NO_SUCH_STEP", 5), ("CHECK_STANDS", 6)]
noncomputable def grefsL : List (Str × Nat) := [("STEP_FILES", 0), ("STEP_RANKS", 1), ("_law_sizes", 2)]
noncomputable def atrL : List Str := ["files", "ranks", "rank_masks", "file_masks", "full", "size", "pawn", "king", "rays", "knight", "rights_lost", "has_castling", "castles", "kinds", "geo", "sides", "side", "ep", "board", "has_double", "zob", "rights", "half", "key", "history", "pieces"]
noncomputable def clsL : List Str := ["Geometry", "Position", "Zobrist"]
noncomputable def initsOf (K : Frag) : List Addr := clsL.map fun c => initOf K (gAddr K c)
noncomputable def en (K : Frag) (x : Str) : Option Str × Addr := (some x, gAddr K x)
noncomputable def ei (K : Frag) (x : Str) : Option Str × Addr := (none, initOf K (gAddr K x))
noncomputable def pn (b : Bool) (x : Str) : Bool × Str := (b, x)
noncomputable def fnN : List (Bool × Str) := [pn true "side_of", pn true "kind_of", pn true "move_from", pn true "move_to", pn true "move_special", pn true "is_growing", pn true "add_masks", pn true "inner_squares", pn true "add_pawns", pn true "add_knights", pn true "add_castles", pn true "more_than_one", pn true "highest", pn true "straight_sliders", pn true "slanting_sliders", pn true "pawn_attackers", pn true "direction", pn true "passed_pawn_square", pn true "castling_of", pn true "may_push", pn true "_law_steps", pn true "_law_dip", pn false "Geometry", pn false "Position", pn false "Zobrist", pn true "is_move_number", pn true "add_rays", pn true "ray_attacks", pn true "lowest", pn true "put_piece", pn true "step_attackers", pn true "between", pn true "may_answer_en_passant", pn true "may_castle", pn true "may_pawn_go", pn true "_law_reached", pn true "_law_board", pn true "make_geometry", pn true "rook_attacks", pn true "bishop_attacks", pn true "king_square", pn true "_law_may", pn true "queen_attacks", pn true "line_attackers", pn true "evasion_targets", pn true "_law_reason", pn true "slider_attacks", pn true "attackers_to", pn true "piece_attacks", pn true "checkers_of", pn true "checkers", pn true "may_piece_go", pn true "answers_check", pn true "pseudo_refusal", pn true "law", pn true "castle_refusal"]
noncomputable def fnsOf (K : Frag) : List (Option Str × Addr) := fnN.map fun p => match p.1 with | true => en K p.2 | false => ei K p.2
noncomputable def tabOf (K : Frag) : Tab := { gints := gintsL, grefs := grefsL, atr := atrL, clsn := clsL, fns := fnsOf K, inits := initsOf K }
end Mine
namespace Mine
open PySem PySem.W PySem.Calls PyProof.Rows

noncomputable def statOf (K : Frag) : List Addr := (["STEP_FILES", "STEP_RANKS", "_law_sizes"] : List Str).map (gAddr K) ++ (tupAt K (gAddr K "_law_sizes")).map fun | .ref a => a | _ => 0
noncomputable def tI (l : List Int) : List AV := l.map AV.int
noncomputable def statV : List (List AV) := [tI [0, 1, 0, -1, 1, 1, -1, -1], tI [1, 0, -1, 0, 1, -1, -1, 1], [.ref 3, .ref 4, .ref 5, .ref 6], tI [3, 3], tI [3, 4], tI [4, 3], tI [4, 4]]
noncomputable def sig0 (ns : List Int) : AH := statV.map (fun xs => (false, AO.tup xs)) ++ [(false, .lst (ns.map AV.int))]

noncomputable def okStat (K : Frag) : Bool := decide ((statOf K).length = 7) && decide (statOf K).Nodup && ((statOf K).zip statV).all fun p => isTupAt K p.1 && valsAre (statOf K) p.2 (tupAt K p.1)
noncomputable def okInts (K : Frag) : Bool := gintsL.all fun p => gIsInt K p.1 p.2
noncomputable def okRefs (K : Frag) : Bool := grefsL.all (fun p => gIsRef K p.1) && (fnsOf K).all (fun p => match p.1 with | some x => gIsRef K x && keepIn K (.ref (gAddr K x)) | none => true)
noncomputable def okBlt (K : Frag) : Bool := (["range", "len", "abs", "list", "int"] : List Str).all fun x => nsIn K mainGlobals x == some none
noncomputable def okCls (K : Frag) : Bool := clsL.all fun c => gIsRef K c && clsIs K (gAddr K c) (initOf K (gAddr K c)) atrL
structure OK (K : Frag) : Prop where
  k_stat : okStat K = true
  k_ints : okInts K = true
  k_refs : okRefs K = true
  k_blt : okBlt K = true
  k_cls : okCls K = true
  k_l0 : levelIs K (tabOf K) Fs0.length L0 = true
  k_l1 : levelIs K (tabOf K) Fs1.length L1 = true
  k_l2 : levelIs K (tabOf K) Fs2.length L2 = true
  k_l3 : levelIs K (tabOf K) Fs3.length L3 = true
  k_l4 : levelIs K (tabOf K) Fs4.length L4 = true
  k_l5 : levelIs K (tabOf K) Fs5.length L5 = true
  k_l6 : levelIs K (tabOf K) Fs6.length L6 = true
  k_l7 : levelIs K (tabOf K) Fs7.length L7 = true
  k_l8 : levelIs K (tabOf K) Fs8.length L8 = true
  k_l9 : levelIs K (tabOf K) Fs9.length L9 = true
end Mine
namespace Mine
open PySem PySem.W PySem.Calls PyProof.Rows

section
variable {K : Frag}
noncomputable def cxOf (prog : Program) (w : World) (K : Frag) (h : Heap) (mg mb : Str → Option Value) : Cx where
  prog := prog
  w := w
  K := K
  h₀ := h
  mg := mg
  mb := mb
  cls := clsL.map (gAddr K)
  inits := initsOf K
  atr := atrL
  stat := (statOf K).map fun a => ⟨a, none⟩
  clsn := clsL
  gints := gintsL
  grefs := grefsL

theorem lookup_get {β : Type} {y : Str} {c : β} : ∀ {l : List (Str × β)}, l.lookup y = some c → ∃ i : Nat, l[i]? = some (y, c) := fun h => by
  obtain ⟨i, hi, e⟩ := List.getElem_of_mem (lookup_mem h)
  exact ⟨i, by rw [List.getElem?_eq_getElem hi, e]⟩

theorem xok {prog : Program} {w : World} {h : Heap} {mg mb : Str → Option Value} (hK : K.In h) (k : OK K) (g : h.Ns mainGlobals mg) (b : h.Ns builtinsNs mb) (hb : ∀ x : Str, x ≠ "__name__" → mb x = bootBuiltins x) (hl : h.NoLimit) : XOK (cxOf prog w K h mg mb) where
  inK := hK
  g := g
  b := b
  blt := hb
  nolimit := hl
  gint := fun x i hx => by
    have := List.all_eq_true.mp k.k_ints (x, i) (lookup_mem hx)
    obtain ⟨t, e⟩ := gIsInt_ok this
    exact ⟨t, mg_of hK g e⟩
  gref := fun x j hx => by
    have h1 := (Bool.and_eq_true_iff.mp k.k_refs).1
    have h2 := gIsRef_ok (List.all_eq_true.mp h1 (x, j) (lookup_mem hx))
    refine ⟨⟨gAddr K x, none⟩, ?_, mg_of hK g h2⟩
    have hm := lookup_mem hx
    show ((statOf K).map fun a => (⟨a, none⟩ : Pl))[j]? = _
    have hm' : (x, j) ∈ ([("STEP_FILES", 0), ("STEP_RANKS", 1), ("_law_sizes", 2)] : List (Str × Nat)) := hm
    simp only [List.mem_cons, Prod.mk.injEq, List.not_mem_nil, or_false] at hm'
    rcases hm' with ⟨rfl, rfl⟩ | ⟨rfl, rfl⟩ | ⟨rfl, rfl⟩ <;> rfl
  cls := fun c C hc => by
    have hc' : (clsL.map (gAddr K))[c]? = some C := hc
    rw [List.getElem?_map, Option.map_eq_some_iff] at hc'
    obtain ⟨x, hx, rfl⟩ := hc'
    have h1 := Bool.and_eq_true_iff.mp (List.all_eq_true.mp k.k_cls x (List.mem_of_getElem? hx))
    refine clsIs_ok (f := initOf K (gAddr K x)) (x := x) h1.2 ?_ hx (mg_of hK g (gIsRef_ok h1.1))
    show (clsL.map fun c => initOf K (gAddr K c))[c]? = _
    rw [List.getElem?_map, hx]; rfl
  atr := by show atrL.Nodup; decide +kernel

theorem ctx0 {prog : Program} {w : World} {h : Heap} {mg mb : Str → Option Value} (hK : K.In h) (k : OK K) (g : h.Ns mainGlobals mg) (b : h.Ns builtinsNs mb) (hb : ∀ x : Str, x ≠ "__name__" → mb x = bootBuiltins x) (hl : h.NoLimit) :
    Ctx (cxOf prog w K h mg mb) (tabOf K) Fs0 0 where
  x := xok hK k g b hb hl
  nob := fun n hn => mg_none_of hK g (eq_of_beq (List.all_eq_true.mp k.k_blt n hn))
  gints := rfl
  grefs := rfl
  atr := rfl
  clsn := rfl
  inits := rfl
  fns := fun f o a F _ hF => by cases hF
  glob := fun f x a hf => by
    have h1 := (Bool.and_eq_true_iff.mp k.k_refs).2
    have h2 := List.all_eq_true.mp h1 (some x, a) (List.mem_of_getElem? hf)
    have h3 := Bool.and_eq_true_iff.mp h2
    have e : a = gAddr K x := by
      have hm : (some x, a) ∈ fnsOf K := List.mem_of_getElem? hf
      have : ∀ p ∈ fnsOf K, ∀ y, p.1 = some y → p.2 = gAddr K y := by
        intro p hp y hy
        unfold fnsOf at hp
        obtain ⟨⟨q, z⟩, _, rfl⟩ := List.mem_map.mp hp
        cases q with
        | true => cases hy; rfl
        | false => cases hy
      exact this _ hm x rfl
    subst e
    exact ⟨mg_of hK g (gIsRef_ok h3.1), h3.2⟩
  cls := fun c x hx => ⟨gAddr K x, by
    show (clsL.map (gAddr K))[c]? = _
    rw [List.getElem?_map, show clsL[c]? = some x from hx]; rfl⟩

theorem law_fun {prog : Program} {w : World} {h : Heap} {mg mb : Str → Option Value} (hK : K.In h) (k : OK K) (g : h.Ns mainGlobals mg) (b : h.Ns builtinsNs mb) (hb : ∀ x : Str, x ≠ "__name__" → mb x = bootBuiltins x) (hl : h.NoLimit) :
    FunOK (cxOf prog w K h mg mb) 20 (gAddr K "law") F_law := by
  have C0 := ctx0 (prog := prog) (w := w) hK k g b hb hl
  have C1 := C0.level k.k_l0
  have C2 := C1.level k.k_l1
  have C3 := C2.level k.k_l2
  have C4 := C3.level k.k_l3
  have C5 := C4.level k.k_l4
  have C6 := C5.level k.k_l5
  have C7 := C6.level k.k_l6
  have C8 := C7.level k.k_l7
  have C9 := C8.level k.k_l8
  have C10 := C9.level k.k_l9
  exact C10.fns 54 (some "law") _ F_law rfl rfl
end
end Mine
namespace Mine
open PySem PySem.W PySem.Calls PyProof.Rows PyProof.V PySem.Spec

theorem stat_hr {X : Cx} {h : Heap} (hK : X.K.In h) (hX : X.h₀ = h) {as : List Addr} {xss : List (List AV)} (hst : X.stat = as.map fun a => ⟨a, none⟩) (hl : as.length = xss.length) (hn : as.Nodup)
    (hc : ((as.zip xss).all fun p => isTupAt X.K p.1 && valsAre as p.2 (tupAt X.K p.1)) = true) : HR X (as.map fun a => ⟨a, none⟩) (xss.map fun xs => (false, AO.tup xs)) h where
  len := by simp [hl]
  stat := by rw [hst]; exact List.prefix_refl _
  obj := fun id m o e => by
    rw [List.getElem?_map, Option.map_eq_some_iff] at e
    obtain ⟨xs, hx, e⟩ := e
    cases e
    have hlt := (List.getElem?_eq_some_iff.mp hx).1
    have ha := List.getElem?_eq_getElem (hl ▸ hlt : id < as.length)
    have hz : (as.zip xss)[id]? = some (as[id]'(hl ▸ hlt), xs) := by
      rw [List.getElem?_zip_eq_some]
      exact ⟨ha, hx⟩
    have := Bool.and_eq_true_iff.mp (List.all_eq_true.mp hc _ (List.mem_of_getElem? hz))
    exact ⟨⟨_, none⟩, by rw [List.getElem?_map, ha]; rfl, rfl, tupAt X.K _, isTupAt_ok hK this.1, valsAre_ok this.2⟩
  apart := fun i j p q b hp hq h1 h2 => by
    rw [List.getElem?_map, Option.map_eq_some_iff] at hp hq
    obtain ⟨a, ha, rfl⟩ := hp
    obtain ⟨c, hc, rfl⟩ := hq
    simp only [Pl.foot, Option.toList_none, List.mem_singleton] at h1 h2
    subst h1 h2
    exact nodup_get hn ha hc
  frees := fun b ⟨id, o, p, e, _⟩ => by
    rw [List.getElem?_map, Option.map_eq_some_iff] at e
    obtain ⟨_, _, e⟩ := e
    cases e
  base := fun b o e => hX ▸ e

theorem ints_all2 {μ : Mu} : ∀ {vs : List Value} {ns : List Int}, IntsAre vs ns → All2 (VR μ) (ns.map AV.int) vs := fun h => by
  induction h with
  | nil => exact .nil
  | cons _ _ _ ih => exact .cons ⟨_, rfl⟩ ih

theorem no_wr0 {μ : Mu} {ns : List Int} {b : Addr} (w : Wr μ (sig0 ns) b) : False := by
  obtain ⟨id, o, p, e, _⟩ := w
  unfold sig0 at e
  rcases getElem?_snoc e with e | ⟨_, e⟩
  · rw [List.getElem?_map, Option.map_eq_some_iff] at e
    obtain ⟨_, _, e⟩ := e
    cases e
  · cases e

theorem law_walk {q : Program} {K : Params → Frag} {as : List Addr} {pf : ∀ P, as = (K P).map (·.1)} (k : ∀ P, OK (K P)) (pure_ : ∀ ns : List Int, ns.length ≤ 63 → ∃ σ', F_law [.ref 7] (sig0 ns) = some (.bool true, σ')) {d : DefRec} (hd : d.name = "law") :
    WalkO q [] (XL q []) (kHook K as pf).says PySem.Challenge.rw_pf0103_01.row.toRowW d [] (fun f vs => call f vs) := by
  intro w s₀ s₁ mg mb G Y fa o pm cd doc dV kV ho hdd hcd hD hmg hg args vals as hpre hlay hrd hwl hlo
  have KX := kIn_of Y
  refine Ground.open G ?_
  intro T B D TE TW
  wrow_args hpre hlay hrd hwl hlo
  have hI := ‹IntsAre _ _›
  have w1 := ‹Well _ _ (Value.ref _) _›
  have hlen := ‹¬ ((63 : Int) < _)›
  rename_i ns _ _ _ _ _ _ _ l vs _ _ _ _ _ _ _ _ _
  have kk := k w.params
  have hfa : fa = gAddr (K w.params) "law" := by
    have h1 := (Bool.and_eq_true_iff.mp kk.k_refs).2
    have h2 := List.all_eq_true.mp h1 (some "law", gAddr (K w.params) "law") (List.mem_of_getElem? (i := 54) rfl)
    have h3 := mg_of KX T.g (gIsRef_ok (Bool.and_eq_true_iff.mp h2).1)
    rw [hd, h3] at hmg
    cases hmg; rfl
  subst hfa
  obtain ⟨σ', hF⟩ := pure_ ns (by omega)
  have hst := kk.k_stat
  unfold okStat at hst
  simp only [Bool.and_eq_true, decide_eq_true_eq] at hst
  obtain ⟨⟨hs7, hnd⟩, hall⟩ := hst
  have H0 := stat_hr (X := cxOf PySem.Challenge.rw_pf0103_01.row.prog w (K w.params) s₁.heap mg mb) (h := s₁.heap) KX rfl (as := statOf (K w.params)) (xss := statV) rfl hs7 hnd hall
  cases w1 with
  | list hobj _ =>
    rename_i vs' _
    have hvs : vs' = vs := by
      obtain ⟨o', ho', _, n', hd'⟩ := ‹s₁.heap.IsList l vs.toArray›
      rw [hobj] at ho'
      cases ho'
      have e := congrArg (fun x => match x with | Data.seq v _ => v.toList | _ => []) hd'
      simpa using e
    subst hvs
    have hp : (⟨l, none⟩ : Pl).foot = [l] := rfl
    have H : HR (cxOf PySem.Challenge.rw_pf0103_01.row.prog w (K w.params) s₁.heap mg mb) ((statOf (K w.params)).map (fun a => ⟨a, none⟩) ++ [⟨l, none⟩]) (sig0 ns) s₁.heap := by
      refine H0.told (fun b hb i q hq hbq => ?_) (fun b hb e => by cases e) ⟨rfl, vs', ⟨_, hobj⟩, ints_all2 hI⟩
      rw [hp, List.mem_singleton] at hb
      subst hb
      have hi : i < statV.length := by
        have := (List.getElem?_eq_some_iff.mp hq).1
        rw [List.length_map, hs7] at this
        exact this
      obtain ⟨p, hp', r⟩ := H0.obj i false (.tup statV[i]) (by rw [List.getElem?_map, List.getElem?_eq_getElem hi]; rfl)
      rw [hq] at hp'
      cases hp'
      obtain ⟨hd0, us, ⟨o', e1, e2, _⟩, _⟩ := r
      simp only [Pl.foot, hd0, Option.toList_none, List.mem_singleton] at hbq
      subst hbq
      rw [hobj] at e1
      cases e1
      have e2 : Value.type "list" = Value.type "tuple" := e2
      exact absurd (Value.type.inj e2) (by decide)
    refine enter_call (codeAny_mono ?_ (fun _ _ g => GoodW.toG g))
    refine law_fun (prog := PySem.Challenge.rw_pf0103_01.row.prog) (w := w) (h := s₁.heap) (mg := mg) (mb := mb) KX kk T.g T.b T.builtins T.nolimit callerA [.ref 7] [.ref l] _ (sig0 ns) (.bool true) σ' s₁ _ ⟨rfl, by decide, by decide⟩ hF
      (.cons ⟨⟨l, none⟩, ?_, rfl⟩ .nil) H fun v h' tk μ' hr _ x => ?_
    · rw [List.getElem?_append_right (by rw [List.length_map, hs7]; exact Nat.le_refl _), List.length_map, hs7]; rfl
    · cases hr
      refine ⟨.inl ⟨.bool true, .bool true, [], rfl, fun cls => ?_, .bool true, ?_, fun _ => ⟨List.nodup_nil, fun a ha => nomatch ha⟩⟩, fun b o e => x.keep b o (fun q => no_wr0 q) id e, rfl, hg⟩
      · rfl
      · wrow_post
end Mine
namespace Mine

/-! # The plain law -/

theorem attrV_grow {v x : AV} {k : Nat} {σ t : AH} (h : attrV v k σ = some x) : attrV v k (σ ++ t) = some x := by
  cases v with
  | ref a =>
    unfold attrV at h ⊢
    dsimp only at h ⊢
    cases q : σ[a]? with
    | none => rw [q] at h; cases h
    | some o => rw [List.getElem?_append_left (List.getElem?_eq_some_iff.mp q).1, q]; rw [q] at h; exact h
  | _ => cases h
theorem subV_grow {v i x : AV} {σ t : AH} (h : subV v i σ = some x) : subV v i (σ ++ t) = some x := by
  cases v with
  | ref a =>
    cases i with
    | int k =>
      unfold subV at h ⊢
      dsimp only at h ⊢
      cases q : σ[a]? with
      | none => rw [q] at h; cases h
      | some o => rw [List.getElem?_append_left (List.getElem?_eq_some_iff.mp q).1, q]; rw [q] at h; exact h
    | _ => cases h
  | _ => cases h

theorem f_side_of (p : Int) (σ : AH) : F_side_of [.int p] σ = some (.int (Int.fdiv p 8), σ) := rfl
theorem f_kind_of (p : Int) (σ : AH) : F_kind_of [.int p] σ = some (.int (PySem.Builtin.bitAnd p 7), σ) := rfl
theorem f_move_from (m : Int) (σ : AH) : F_move_from [.int m] σ = some (.int (PySem.Builtin.bitAnd (Int.fdiv m 64) 63), σ) := rfl
theorem f_move_to (m : Int) (σ : AH) : F_move_to [.int m] σ = some (.int (PySem.Builtin.bitAnd m 63), σ) := rfl
theorem f_move_special (m : Int) (σ : AH) : F_move_special [.int m] σ = some (.int (PySem.Builtin.bitAnd (Int.fdiv m 16384) 3), σ) := rfl

end Mine
namespace Mine
open PySem.Builtin

/-! ## Rays, without the program -/
noncomputable def dxs : Nat → Int
  | 0 => 0 | 1 => 1 | 2 => 0 | 3 => -1 | 4 => 1 | 5 => 1 | 6 => -1 | _ => -1
noncomputable def dys : Nat → Int
  | 0 => 1 | 1 => 0 | 2 => -1 | 3 => 0 | 4 => 1 | 5 => -1 | 6 => -1 | _ => 1
noncomputable def growD : Nat → Bool
  | 0 => true | 1 => true | 4 => true | 7 => true | _ => false
noncomputable def inb (c r : Nat) (x y : Int) : Bool := decide (0 ≤ x) && decide (x < c) && (decide (0 ≤ y) && decide (y < r))
/-- the squares of a way, from the far-th on -/
noncomputable def way (c r : Nat) (x y dx dy : Int) : Nat → Nat → List Nat
  | 0, _ => []
  | f + 1, k => if inb c r (x + k * dx) (y + k * dy) then ((y + k * dy) * c + x + k * dx).toNat :: way c r x y dx dy f (k + 1) else []
noncomputable def wayL (c r a : Nat) (w : Int × Int) : List Nat := way c r (a % c : Nat) (a / c : Nat) w.1 w.2 5 1
noncomputable def rayL (c r d a : Nat) : List Nat := wayL c r a (dxs d, dys d)
noncomputable def maskL : List Nat → Nat
  | [] => 0
  | s :: l => 2 ^ s ||| maskL l
/-- as far as one sees -/
noncomputable def tk (occ : Nat → Bool) (leap : Bool) : List Nat → List Nat
  | [] => []
  | s :: l => s :: if occ s || leap then [] else tk occ leap l
noncomputable def subs : List Nat → List Nat
  | [] => [0]
  | s :: l => subs l ++ (subs l).map fun m => 2 ^ s ||| m
noncomputable def smear (stop : Int) : Int :=
  let b := Int.fdiv stop 2
  let b := bitOr b (Int.fdiv b 2)
  let b := bitOr b (Int.fdiv b 4)
  let b := bitOr b (Int.fdiv b 16)
  let b := bitOr b (Int.fdiv b 256)
  let b := bitOr b (Int.fdiv b 65536)
  bitOr b (Int.fdiv b 4294967296)
noncomputable def rayAtt (ray stop : Int) (grow : Bool) : Int := if stop = 0 then ray else if grow then bitAnd ray (bitXor stop (stop - 1)) else bitAnd ray (bitNot (smear stop))
noncomputable def sizes : List (Nat × Nat) := [(3, 3), (3, 4), (4, 3), (4, 4)]
noncomputable def chkRay (c r d : Nat) : Bool := (List.range (c * r)).all fun a => (subs (rayL c r d a)).all fun st => rayAtt (maskL (rayL c r d a)) st (growD d) == (maskL (tk st.testBit false (rayL c r d a)) : Int)
theorem chkRay_ok : (sizes.all fun z => (List.range 8).all fun d => chkRay z.1 z.2 d) = true := by decide +kernel
end Mine
namespace Mine
open PyProof.Rows

/-! ## The geometry and the empty position, by the kernel -/
noncomputable def S7 : AH := statV.map fun xs => (false, AO.tup xs)
/-- the place's statement: pos = Position(make_geometry(..), Zobrist(..)) -/
noncomputable def sPos : IS := .asg 7 (.new 1 23 (.cons (.call 37 (.cons (.var 2) (.cons (.var 3) (.cons (.bool false) (.cons (.bool false) .nil))))) (.cons (.new 2 24 (.cons (.rep (.cons (.rep (.cons (.int 0) .nil) (.var 4)) .nil) (.int 15)) (.cons (.rep (.cons (.int 0) .nil) (.var 2)) (.cons (.rep (.cons (.int 0) .nil) (.int 16)) (.cons (.int 0) .nil))))) .nil)))
noncomputable def rho7 (c r : Nat) (side : Int) : Rho := [some (.ref 7), some (.ref 10), some (.int c), some (.int r), some (.int (c * r : Nat)), some (.ref 11), some (.int side)] ++ List.replicate 21 none
noncomputable def natsV (l : List Nat) : List AV := l.map fun (n : Nat) => AV.int (n : Int)
/-- the lists of the geometry: files, ranks, knight, pawns, king, rays -/
noncomputable def dat33 : List (List Nat) := [[73,146,292], [7,56,448], [160,320,136,260,0,65,34,5,10], [16,40,16,128,320,128,0,0,0], [0,0,0,2,5,2,16,40,16], [26,61,50,211,495,406,152,376,176], [72,144,288,64,128,256,0,0,0], [6,4,0,48,32,0,384,256,0], [0,0,0,1,2,4,9,18,36], [0,1,3,0,8,24,0,64,192], [272,32,0,128,256,0,0,0,0], [0,0,0,2,4,0,20,32,0], [0,0,0,0,1,2,0,8,17], [0,8,80,0,64,128,0,0,0]]
noncomputable def dat34 : List (List Nat) := [[585,1170,2340], [7,56,448,3584], [160,320,136,1284,2560,1089,2082,5,522,272,40,80], [16,40,16,128,320,128,1024,2560,1024,0,0,0], [0,0,0,2,5,2,16,40,16,128,320,128], [26,61,50,211,495,406,1688,3960,3248,1216,3008,1408], [584,1168,2336,576,1152,2304,512,1024,2048,0,0,0], [6,4,0,48,32,0,384,256,0,3072,2048,0], [0,0,0,1,2,4,9,18,36,73,146,292], [0,1,3,0,8,24,0,64,192,0,512,1536], [272,32,0,2176,256,0,1024,2048,0,0,0,0], [0,0,0,2,4,0,20,32,0,160,256,0], [0,0,0,0,1,2,0,8,17,0,64,136], [0,8,80,0,64,640,0,512,1024,0,0,0]]
noncomputable def dat43 : List (List Nat) := [[273,546,1092,2184], [15,240,3840], [576,1408,2576,1056,1028,2056,257,514,66,133,26,36], [32,80,160,64,512,1280,2560,1024,0,0,0,0], [0,0,0,0,2,5,10,4,32,80,160,64], [50,117,234,196,803,1879,3758,3148,560,1392,2784,1216], [272,544,1088,2176,256,512,1024,2048,0,0,0,0], [14,12,8,0,224,192,128,0,3584,3072,2048,0], [0,0,0,0,1,2,4,8,17,34,68,136], [0,1,3,7,0,16,48,112,0,256,768,1792], [1056,2112,128,0,512,1024,2048,0,0,0,0,0], [0,0,0,0,2,4,8,0,36,72,128,0], [0,0,0,0,0,1,2,4,0,16,33,66], [0,16,288,576,0,256,512,1024,0,0,0,0]]
noncomputable def dat44 : List (List Nat) := [[4369,8738,17476,34952], [15,240,3840,61440], [576,1408,2576,1056,9220,22536,41217,16898,16450,32901,4122,8228,1056,2128,416,576], [32,80,160,64,512,1280,2560,1024,8192,20480,40960,16384,0,0,0,0], [0,0,0,0,2,5,10,4,32,80,160,64,512,1280,2560,1024], [50,117,234,196,803,1879,3758,3148,12848,30064,60128,50368,8960,22272,44544,19456], [4368,8736,17472,34944,4352,8704,17408,34816,4096,8192,16384,32768,0,0,0,0], [14,12,8,0,224,192,128,0,3584,3072,2048,0,57344,49152,32768,0], [0,0,0,0,1,2,4,8,17,34,68,136,273,546,1092,2184], [0,1,3,7,0,16,48,112,0,256,768,1792,0,4096,12288,28672], [33824,2112,128,0,16896,33792,2048,0,8192,16384,32768,0,0,0,0,0], [0,0,0,0,2,4,8,0,36,72,128,0,584,1152,2048,0], [0,0,0,0,0,1,2,4,0,16,33,66,0,256,528,1057], [0,16,288,4672,0,256,4608,9216,0,4096,8192,16384,0,0,0,0]]
noncomputable def dat (c r : Nat) : List (List Nat) := if c = 3 then (if r = 3 then dat33 else dat34) else if r = 3 then dat43 else dat44
noncomputable def LI (l : List Nat) : Bool × AO := (true, .lst (natsV l))
noncomputable def LR (N : Nat) (l : List Nat) : Bool × AO := (true, .lst (l.map fun k => .ref (N + k)))
noncomputable def RG (a b s : Int) : Bool × AO := (false, .rng a b s)
noncomputable def posL (c r n N : Nat) : List (List Nat) → AH
  | [fm, rm, kn, p0, p1, kg, d0, d1, d2, d3, d4, d5, d6, d7] =>
    [(true, .inst 0 [(0, .int c), (1, .int r), (5, .int n), (4, .int (2 ^ n - 1 : Nat)), (19, .bool false), (11, .bool false), (3, .ref (N + 1)), (2, .ref (N + 2)), (8, .ref (N + 3)), (7, .ref (N + 13)), (9, .ref (N + 5)), (6, .ref (N + 8)),
      (12, .ref (N + 9)), (10, .ref (N + 37))]), LI fm, LI rm, LR N [15, 18, 21, 23, 25, 28, 30, 32], LI [], LI kn, LI p0, LI p1, LR N [6, 7], (true, .lst [.none, .none, .none, .none]), LI [], RG 0 r 1, RG 0 c 1, LI kg, RG 0 8 1,
      LI d0, RG 0 n 1, RG (n - 1) (-1) (-1), LI d1, RG 0 n 1, RG (n - 1) (-1) (-1), LI d2, RG 0 n 1, LI d3, RG 0 n 1, LI d4, RG 0 n 1, RG (n - 1) (-1) (-1), LI d5, RG 0 n 1, LI d6, RG 0 n 1, LI d7,
      RG 0 n 1, RG (n - 1) (-1) (-1), RG 0 n 1, RG 0 n 1, LI (List.replicate n 0), RG 0 4 1, LI (List.replicate n 0), LR N (List.replicate 15 39), LI (List.replicate c 0), LI (List.replicate 16 0),
      (true, .inst 2 [(25, .ref (N + 40)), (17, .ref (N + 41)), (21, .ref (N + 42)), (16, .int 0)]),
      (true, .inst 1 [(14, .ref N), (20, .ref (N + 43)), (18, .ref (N + 45)), (13, .ref (N + 46)), (15, .ref (N + 47)), (16, .int 0), (21, .int 0), (17, .int (-1)), (22, .int 0), (4, .int 1), (23, .int 0), (24, .ref (N + 48))]),
      LI (List.replicate n 0), LI (List.replicate 7 0), LI (List.replicate 2 0), LI []]
  | _ => []
noncomputable def posT (c r N : Nat) : AH := posL c r (c * r) N (dat c r)
noncomputable def posId (_ _ N : Nat) : Nat := N + 44
set_option maxRecDepth 100000
theorem pos33_15 (a b c d e f g h : Bool × AO) (s : Int) : exe Fs9 sPos (rho7 3 3 s) (S7 ++ [a, b, c, d, e, f, g, h]) = some (.next, (rho7 3 3 s).set 7 (some (.ref (posId 3 3 15))), (S7 ++ [a, b, c, d, e, f, g, h]) ++ posT 3 3 15) := by kernel_rfl
theorem pos33_16 (a b c d e f g h i : Bool × AO) (s : Int) : exe Fs9 sPos (rho7 3 3 s) (S7 ++ [a, b, c, d, e, f, g, h, i]) = some (.next, (rho7 3 3 s).set 7 (some (.ref (posId 3 3 16))), (S7 ++ [a, b, c, d, e, f, g, h, i]) ++ posT 3 3 16) := by kernel_rfl
theorem pos34_15 (a b c d e f g h : Bool × AO) (s : Int) : exe Fs9 sPos (rho7 3 4 s) (S7 ++ [a, b, c, d, e, f, g, h]) = some (.next, (rho7 3 4 s).set 7 (some (.ref (posId 3 4 15))), (S7 ++ [a, b, c, d, e, f, g, h]) ++ posT 3 4 15) := by kernel_rfl
theorem pos34_16 (a b c d e f g h i : Bool × AO) (s : Int) : exe Fs9 sPos (rho7 3 4 s) (S7 ++ [a, b, c, d, e, f, g, h, i]) = some (.next, (rho7 3 4 s).set 7 (some (.ref (posId 3 4 16))), (S7 ++ [a, b, c, d, e, f, g, h, i]) ++ posT 3 4 16) := by kernel_rfl
theorem pos43_15 (a b c d e f g h : Bool × AO) (s : Int) : exe Fs9 sPos (rho7 4 3 s) (S7 ++ [a, b, c, d, e, f, g, h]) = some (.next, (rho7 4 3 s).set 7 (some (.ref (posId 4 3 15))), (S7 ++ [a, b, c, d, e, f, g, h]) ++ posT 4 3 15) := by kernel_rfl
theorem pos43_16 (a b c d e f g h i : Bool × AO) (s : Int) : exe Fs9 sPos (rho7 4 3 s) (S7 ++ [a, b, c, d, e, f, g, h, i]) = some (.next, (rho7 4 3 s).set 7 (some (.ref (posId 4 3 16))), (S7 ++ [a, b, c, d, e, f, g, h, i]) ++ posT 4 3 16) := by kernel_rfl
theorem pos44_15 (a b c d e f g h : Bool × AO) (s : Int) : exe Fs9 sPos (rho7 4 4 s) (S7 ++ [a, b, c, d, e, f, g, h]) = some (.next, (rho7 4 4 s).set 7 (some (.ref (posId 4 4 15))), (S7 ++ [a, b, c, d, e, f, g, h]) ++ posT 4 4 15) := by kernel_rfl
theorem pos44_16 (a b c d e f g h i : Bool × AO) (s : Int) : exe Fs9 sPos (rho7 4 4 s) (S7 ++ [a, b, c, d, e, f, g, h, i]) = some (.next, (rho7 4 4 s).set 7 (some (.ref (posId 4 4 16))), (S7 ++ [a, b, c, d, e, f, g, h, i]) ++ posT 4 4 16) := by kernel_rfl
end Mine
namespace Mine
open PyProof.Rows

/-! ## What the heap tells of the geometry and of the position -/
noncomputable def kmoves : List (Int × Int) := [(1, 2), (2, 1), (-1, 2), (-2, 1), (1, -2), (2, -1), (-1, -2), (-2, -1)]
noncomputable def slant : List (Int × Int) := [(1, 1), (1, -1), (-1, 1), (-1, -1)]
noncomputable def straight : List (Int × Int) := [(1, 0), (-1, 0), (0, 1), (0, -1)]
noncomputable def pways (t : Nat) : List (Int × Int) := if t = 0 then [(1, 1), (-1, 1)] else [(1, -1), (-1, -1)]
noncomputable def leapL (c r a : Nat) (ws : List (Int × Int)) : List Nat := ws.flatMap fun w => (wayL c r a w).take 1
noncomputable def kingL (c r a : Nat) : List Nat := leapL c r a (slant ++ straight)
noncomputable def knightL (c r a : Nat) : List Nat := leapL c r a kmoves
noncomputable def pawnL (c r t a : Nat) : List Nat := leapL c r a (pways t)

structure Ids where
  p : Nat
  g : Nat
  ra : Nat
  kg : Nat
  kn : Nat
  pw : Nat
  cs : Nat
  kd : Nat
  sd : Nat
  bd : Nat
  zo : Nat
  zp : Nat
  zr : Nat
  rd : Nat → Nat
  ps : Nat → Nat

/-- told, and not by the barrel -/
noncomputable def A (σ : AH) (i k : Nat) (x : AV) : Prop := 10 < i ∧ attrV (.ref i) k σ = some x
noncomputable def Sb (σ : AH) (i j : Nat) (x : AV) : Prop := 10 < i ∧ subV (.ref i) (.int j) σ = some x
/-- all but the barrel is as it was -/
noncomputable def Kp (σ σ' : AH) : Prop := ∀ i o, i ≠ 10 → σ[i]? = some o → σ'[i]? = some o
theorem Kp.refl (σ : AH) : Kp σ σ := fun _ _ _ e => e
theorem Kp.trans {a b c : AH} (x : Kp a b) (y : Kp b c) : Kp a c := fun i o h e => y i o h (x i o h e)
theorem Kp.app (σ t : AH) : Kp σ (σ ++ t) := fun i o _ e => by rw [List.getElem?_append_left (List.getElem?_eq_some_iff.mp e).1]; exact e
theorem attr_of {σ σ' : AH} {i k : Nat} {x : AV} (h : ∀ o, σ[i]? = some o → σ'[i]? = some o) (e : attrV (.ref i) k σ = some x) : attrV (.ref i) k σ' = some x := by
  unfold attrV at e ⊢
  dsimp only at e ⊢
  cases q : σ[i]? with
  | none => rw [q] at e; cases e
  | some o => rw [q] at e; rw [h o q]; exact e
theorem sub_of {σ σ' : AH} {i : Nat} {j : AV} {x : AV} (h : ∀ o, σ[i]? = some o → σ'[i]? = some o) (e : subV (.ref i) j σ = some x) : subV (.ref i) j σ' = some x := by
  cases j with
  | int j =>
    unfold subV at e ⊢
    dsimp only at e ⊢
    cases q : σ[i]? with
    | none => rw [q] at e; cases e
    | some o => rw [q] at e; rw [h o q]; exact e
  | _ => cases e
theorem A.kp {σ σ' : AH} {i k : Nat} {x : AV} (h : A σ i k x) (K : Kp σ σ') : A σ' i k x := ⟨h.1, attr_of (fun o => K i o (Nat.ne_of_gt h.1)) h.2⟩
theorem Sb.kp {σ σ' : AH} {i j : Nat} {x : AV} (h : Sb σ i j x) (K : Kp σ σ') : Sb σ' i j x := ⟨h.1, sub_of (fun o => K i o (Nat.ne_of_gt h.1)) h.2⟩

structure GeoAt (σ : AH) (I : Ids) (c r : Nat) : Prop where
  files : A σ I.g 0 (.int c)
  ranks : A σ I.g 1 (.int r)
  size : A σ I.g 5 (.int (c * r : Nat))
  hasd : A σ I.g 19 (.bool false)
  rays : A σ I.g 8 (.ref I.ra)
  king : A σ I.g 7 (.ref I.kg)
  knight : A σ I.g 9 (.ref I.kn)
  pawn : A σ I.g 6 (.ref I.pw)
  castles : A σ I.g 12 (.ref I.cs)
  ray1 : ∀ d < 8, Sb σ I.ra d (.ref (I.rd d))
  ray2 : ∀ d < 8, ∀ s < c * r, Sb σ (I.rd d) s (.int (maskL (rayL c r d s)))
  king2 : ∀ s < c * r, Sb σ I.kg s (.int (maskL (kingL c r s)))
  knight2 : ∀ s < c * r, Sb σ I.kn s (.int (maskL (knightL c r s)))
  pawn1 : ∀ t < 2, Sb σ I.pw t (.ref (I.ps t))
  pawn2 : ∀ t < 2, ∀ s < c * r, Sb σ (I.ps t) s (.int (maskL (pawnL c r t s)))
  castle : ∀ i < 4, Sb σ I.cs i .none
theorem GeoAt.kp {σ σ' : AH} {I : Ids} {c r : Nat} (G : GeoAt σ I c r) (K : Kp σ σ') : GeoAt σ' I c r :=
  ⟨G.files.kp K, G.ranks.kp K, G.size.kp K, G.hasd.kp K, G.rays.kp K, G.king.kp K, G.knight.kp K, G.pawn.kp K, G.castles.kp K, fun d h => (G.ray1 d h).kp K, fun d h s h' => (G.ray2 d h s h').kp K, fun s h => (G.king2 s h).kp K,
    fun s h => (G.knight2 s h).kp K, fun t h => (G.pawn1 t h).kp K, fun t h s h' => (G.pawn2 t h s h').kp K, fun i h => (G.castle i h).kp K⟩

/-! the look -/
noncomputable def idA (σ : AH) (i k : Nat) : Nat := match attrV (.ref i) k σ with | some (.ref x) => x | _ => 0
noncomputable def cA (N : Nat) (σ : AH) (i k : Nat) (x : AV) : Bool := decide (N ≤ i) && attrV (.ref i) k σ == some x
noncomputable def cS (N : Nat) (σ : AH) (i j : Nat) (x : AV) : Bool := decide (N ≤ i) && subV (.ref i) (.int j) σ == some x
noncomputable def dumm (N : Nat) : AH := List.replicate N (true, .lst [])
theorem lift_ {N : Nat} (h10 : 10 < N) {pre t : AH} (hp : pre.length = N) {i : Nat} (hi : N ≤ i) (o : Bool × AO) (e : (dumm N ++ t)[i]? = some o) : (pre ++ t)[i]? = some o := by
  rw [List.getElem?_append_right (by simp [dumm]; exact hi)] at e
  rw [List.getElem?_append_right (by omega), hp]
  simpa [dumm] using e
theorem cA_ok {N : Nat} (h10 : 10 < N) {pre t : AH} (hp : pre.length = N) {i k : Nat} {x : AV} (h : cA N (dumm N ++ t) i k x = true) : A (pre ++ t) i k x := by
  unfold cA at h
  simp only [Bool.and_eq_true, decide_eq_true_eq, beq_iff_eq] at h
  exact ⟨Nat.lt_of_lt_of_le h10 h.1, attr_of (fun o e => lift_ h10 hp h.1 o e) h.2⟩
theorem cS_ok {N : Nat} (h10 : 10 < N) {pre t : AH} (hp : pre.length = N) {i j : Nat} {x : AV} (h : cS N (dumm N ++ t) i j x = true) : Sb (pre ++ t) i j x := by
  unfold cS at h
  simp only [Bool.and_eq_true, decide_eq_true_eq, beq_iff_eq] at h
  exact ⟨Nat.lt_of_lt_of_le h10 h.1, sub_of (fun o e => lift_ h10 hp h.1 o e) h.2⟩

noncomputable def geoChk (N : Nat) (σ : AH) (I : Ids) (c r : Nat) : Bool :=
  cA N σ I.g 0 (.int c) && cA N σ I.g 1 (.int r) && cA N σ I.g 5 (.int (c * r : Nat)) && cA N σ I.g 19 (.bool false) && cA N σ I.g 8 (.ref I.ra) && cA N σ I.g 7 (.ref I.kg) && cA N σ I.g 9 (.ref I.kn) && cA N σ I.g 6 (.ref I.pw) &&
  cA N σ I.g 12 (.ref I.cs) && ((List.range 8).all fun d => cS N σ I.ra d (.ref (I.rd d))) && ((List.range 8).all fun d => (List.range (c * r)).all fun s => cS N σ (I.rd d) s (.int (maskL (rayL c r d s)))) &&
  ((List.range (c * r)).all fun s => cS N σ I.kg s (.int (maskL (kingL c r s)))) && ((List.range (c * r)).all fun s => cS N σ I.kn s (.int (maskL (knightL c r s)))) && ((List.range 2).all fun t => cS N σ I.pw t (.ref (I.ps t))) &&
  ((List.range 2).all fun t => (List.range (c * r)).all fun s => cS N σ (I.ps t) s (.int (maskL (pawnL c r t s)))) && ((List.range 4).all fun i => cS N σ I.cs i .none)
theorem geoChk_ok {N : Nat} (h10 : 10 < N) {pre t : AH} (hp : pre.length = N) {I : Ids} {c r : Nat} (h : geoChk N (dumm N ++ t) I c r = true) : GeoAt (pre ++ t) I c r := by
  unfold geoChk at h
  simp only [Bool.and_eq_true, List.all_eq_true, List.mem_range] at h
  obtain ⟨⟨⟨⟨⟨⟨⟨⟨⟨⟨⟨⟨⟨⟨⟨h1, h2⟩, h3⟩, h4⟩, h5⟩, h6⟩, h7⟩, h8⟩, h9⟩, h11⟩, h12⟩, h13⟩, h14⟩, h15⟩, h16⟩, h17⟩ := h
  exact ⟨cA_ok h10 hp h1, cA_ok h10 hp h2, cA_ok h10 hp h3, cA_ok h10 hp h4, cA_ok h10 hp h5, cA_ok h10 hp h6, cA_ok h10 hp h7, cA_ok h10 hp h8, cA_ok h10 hp h9, fun d h => cS_ok h10 hp (h11 d h), fun d h s h' => cS_ok h10 hp (h12 d h s h'),
    fun s h => cS_ok h10 hp (h13 s h), fun s h => cS_ok h10 hp (h14 s h), fun t h => cS_ok h10 hp (h15 t h), fun t h s h' => cS_ok h10 hp (h16 t h s h'), fun i h => cS_ok h10 hp (h17 i h)⟩

noncomputable def I0 (_ _ N : Nat) : Ids where
  p := N + 44
  g := N
  ra := N + 3
  kg := N + 13
  kn := N + 5
  pw := N + 8
  cs := N + 9
  kd := N + 46
  sd := N + 47
  bd := N + 45
  zo := N + 43
  zp := N + 40
  zr := N + 39
  rd := fun d => N + [15, 18, 21, 23, 25, 28, 30, 32].getD d 0
  ps := fun t => N + 6 + t
theorem geo_ok : (sizes.all fun z => geoChk 15 (dumm 15 ++ posT z.1 z.2 15) (I0 z.1 z.2 15) z.1 z.2 && geoChk 16 (dumm 16 ++ posT z.1 z.2 16) (I0 z.1 z.2 16) z.1 z.2) = true := by decide +kernel
end Mine
namespace Mine
open PySem.Builtin PyProof.Rows

theorem and_nat (a b : Nat) : bitAnd (a : Int) (b : Int) = ((a &&& b : Nat) : Int) := by
  rw [bitAnd_pp (Int.natCast_nonneg a) (Int.natCast_nonneg b), Int.toNat_natCast, Int.toNat_natCast]
theorem or_nat (a b : Nat) : bitOr (a : Int) (b : Int) = ((a ||| b : Nat) : Int) := by
  have h (n : Nat) : ¬ (0 : Int) ≤ bitNot (n : Int) := by unfold bitNot; omega
  have e (n : Nat) : bitNot (bitNot (n : Int)) = n := by unfold bitNot; omega
  unfold bitOr
  rw [bitAnd_nn (h a) (h b)]
  simp only [e, Int.toNat_natCast]
theorem shl_nat (s : Nat) : (1 : Int) * 2 ^ ((s : Int).toNat) = ((2 ^ s : Nat) : Int) := by
  rw [Int.toNat_natCast, Int.one_mul, Int.natCast_pow]; rfl
theorem shr_nat (m s : Nat) : Int.fdiv (m : Int) (2 ^ ((s : Int).toNat)) = ((m >>> s : Nat) : Int) := by
  rw [Int.toNat_natCast, Nat.shiftRight_eq_div_pow, Int.fdiv_eq_ediv_of_nonneg _ (by exact Int.le_of_lt (Int.pow_pos (by decide)))]
  rw [Int.natCast_ediv, Int.natCast_pow]; rfl
theorem bit_nat (m s : Nat) : bitAnd ((m >>> s : Nat) : Int) 1 = if m.testBit s then 1 else 0 := by
  rw [show (1 : Int) = ((1 : Nat) : Int) from rfl, and_nat]
  cases h : m.testBit s with
  | true =>
    have : m >>> s &&& 1 = 1 := by
      rw [Nat.testBit] at h
      have := Nat.and_one_is_mod (m >>> s)
      simp [Nat.one_and_eq_mod_two] at h
      omega
    rw [this]; rfl
  | false =>
    have : m >>> s &&& 1 = 0 := by
      rw [Nat.testBit] at h
      have := Nat.and_one_is_mod (m >>> s)
      simp [Nat.one_and_eq_mod_two] at h
      omega
    rw [this]; rfl

/-! ## Terms and statements, one layer at a time -/
theorem bindI {α β : Type} {o : Option α} {f : α → Option β} {x : α} {w : Option β} (h : o = some x) (h2 : f x = w) : o.bind f = w := by subst h; exact h2
theorem mapI {α β : Type} {o : Option α} {f : α → β} {x : α} (h : o = some x) : o.map f = some (f x) := by subst h; rfl
theorem exes_go {Fs : List Fun} {s : IS} {ss : ISs} {ρ ρ' : Rho} {σ σ' : AH} (h : exe Fs s ρ σ = some (.next, ρ', σ')) : exes Fs (.cons s ss) ρ σ = exes Fs ss ρ' σ' := bindI h rfl
theorem exes_ret {Fs : List Fun} {s : IS} {ss : ISs} {ρ ρ' : Rho} {σ σ' : AH} {v : AV} (h : exe Fs s ρ σ = some (.ret v, ρ', σ')) : exes Fs (.cons s ss) ρ σ = some (.ret v, ρ', σ') := bindI h rfl
theorem fun_next {Fs : List Fun} {np ns : Nat} {body : ISs} {args : List AV} {σ σ' : AH} {ρ' : Rho} (hl : args.length = np) (h : exes Fs body (args.map some ++ List.replicate (ns - np) none) σ = some (.next, ρ', σ')) : denFun Fs np ns body args σ = some (.none, σ') := by
  unfold denFun
  rw [if_pos hl, h]; rfl
theorem fun_ret {Fs : List Fun} {np ns : Nat} {body : ISs} {args : List AV} {σ σ' : AH} {ρ' : Rho} {v : AV} (hl : args.length = np) (h : exes Fs body (args.map some ++ List.replicate (ns - np) none) σ = some (.ret v, ρ', σ')) : denFun Fs np ns body args σ = some (v, σ') := by
  unfold denFun
  rw [if_pos hl, h]; rfl
theorem setItem_at {σ : AH} {a : Nat} {xs : List AV} {s : Nat} {v : AV} (h : σ[a]? = some (true, .lst xs)) (h1 : s < xs.length) (h2 : s ≤ 1000000) : setItemH (.ref a) (.int (s : Int)) v σ = some (σ.set a (true, .lst (xs.set s v))) := by
  unfold setItemH
  simp only [h]
  rw [if_pos (by simp only [Bool.and_eq_true, decide_eq_true_eq, inN_iff, Int.toNat_natCast]; omega), Int.toNat_natCast]
theorem sub_at {σ : AH} {a : Nat} {m : Bool} {xs : List AV} {s : Nat} {v : AV} (h : σ[a]? = some (m, .lst xs)) (h1 : xs[s]? = some v) (h2 : s ≤ 1000000) : subV (.ref a) (.int (s : Int)) σ = some v := by
  unfold subV
  simp only [h]
  rw [if_pos (by rw [inN_iff]; omega), Int.toNat_natCast, h1]
theorem attr_at {σ : AH} {a c k : Nat} {m : Bool} {fs : List (Nat × AV)} {v : AV} (h : σ[a]? = some (m, .inst c fs)) (h1 : fs.lookup k = some v) : attrV (.ref a) k σ = some v := by
  unfold attrV
  simp only [h, h1]
theorem setAttr_at {σ : AH} {a c k : Nat} {fs : List (Nat × AV)} {v : AV} (h : σ[a]? = some (true, .inst c fs)) (h1 : fs.length ≤ 100) : setAttrH (.ref a) k v σ = some (σ.set a (true, .inst c (putF k v fs))) := by
  unfold setAttrH
  simp only [h]
  rw [if_pos h1]

section
variable {Fs : List Fun} {ρ : Rho} {σ σ1 σ2 : AH}
theorem bandN (a b : Nat) : binV .band (a : Int) (b : Int) = some ((a &&& b : Nat) : Int) := congrArg some (and_nat a b)
theorem borN (a b : Nat) : binV .bor (a : Int) (b : Int) = some ((a ||| b : Nat) : Int) := congrArg some (or_nat a b)
theorem shrV (m s : Nat) : binV .shr (m : Int) (s : Int) = some ((m >>> s : Nat) : Int) := (if_pos (e := Option.none) (Int.natCast_nonneg s)).trans (congrArg some (shr_nat m s))
theorem d_int {i : Int} : den Fs (.int i) ρ σ = some (.int i, σ) := rfl
theorem d_gint {x : PySem.Str} {i : Int} : den Fs (.gint x i) ρ σ = some (.int i, σ) := rfl
theorem d_var {n : Nat} {v : AV} (h : ρ[n]? = some (some v)) : den Fs (.var n) ρ σ = some (v, σ) := congrArg (fun o : Option (Option AV) => match o with | some (some v) => some (v, σ) | _ => .none) h
theorem d_attr {k : Nat} {e : IE} {x v : AV} (h : den Fs e ρ σ = some (x, σ1)) (h2 : attrV x k σ1 = some v) : den Fs (.attr e k) ρ σ = some (v, σ1) := bindI h (mapI h2)
theorem d_sub {e i : IE} {x y v : AV} (h : den Fs e ρ σ = some (x, σ1)) (h1 : den Fs i ρ σ1 = some (y, σ2)) (h2 : subV x y σ2 = some v) : den Fs (.sub e i) ρ σ = some (v, σ2) := bindI h (bindI h1 (mapI h2))
theorem d_bin {op : BOp} {a b : IE} {x y v : Int} (h : den Fs a ρ σ = some (.int x, σ1)) (h1 : den Fs b ρ σ1 = some (.int y, σ2)) (h2 : binV op x y = some v) : den Fs (.bin op a b) ρ σ = some (.int v, σ2) := bindI h (bindI h1 (mapI (f := fun r => (AV.int r, σ2)) h2))
theorem d_cmp {op : COp} {a b : IE} {x y : AV} {r : Bool} (h : den Fs a ρ σ = some (x, σ1)) (h1 : den Fs b ρ σ1 = some (y, σ2)) (h2 : cmpV op x y = some r) : den Fs (.cmp op a b) ρ σ = some (.bool r, σ2) := bindI h (bindI h1 (mapI h2))
theorem d_cmp2 {o1 o2 : COp} {a b c : IE} {x y z : AV} {r q : Bool} (h : den Fs a ρ σ = some (x, σ)) (h1 : den Fs b ρ σ = some (y, σ)) (h2 : cmpV o1 x y = some r) (h3 : den Fs c ρ σ = some (z, σ)) (h4 : cmpV o2 y z = some q) : den Fs (.cmp2 o1 o2 a b c) ρ σ = some (.bool (r && q), σ) :=
  bindI h (bindI h1 (bindI h2 (by cases r with
    | false => rfl
    | true => exact bindI h3 (mapI h4))))
theorem d_not {a : IE} {x : AV} {t : Bool} (h : den Fs a ρ σ = some (x, σ1)) (h1 : truth x = some t) : den Fs (.una .not a) ρ σ = some (.bool (!t), σ1) := bindI h (mapI h1)
theorem callI {f : Nat} {F : Fun} {vs : List AV} {w : Option (AV × AH)} (h1 : Fs[f]? = some F) (h2 : F vs σ1 = w) : (match Fs[f]? with | some F => F vs σ1 | .none => .none) = w := by rw [h1]; exact h2
theorem d_call {f : Nat} {F : Fun} {as : IEs} {vs : List AV} {w : AV × AH} (h : denL Fs as ρ σ = some (vs, σ1)) (h1 : Fs[f]? = some F) (h2 : F vs σ1 = some w) : den Fs (.call f as) ρ σ = some w := bindI h (callI h1 h2)
theorem l_nil : denL Fs .nil ρ σ = some ([], σ) := rfl
theorem l_cons {e : IE} {es : IEs} {v : AV} {vs : List AV} (h : den Fs e ρ σ = some (v, σ1)) (h2 : denL Fs es ρ σ1 = some (vs, σ2)) : denL Fs (.cons e es) ρ σ = some (v :: vs, σ2) := bindI h (mapI h2)
theorem s_asg {n : Nat} {e : IE} {v : AV} (h : den Fs e ρ σ = some (v, σ1)) : exe Fs (.asg n e) ρ σ = some (.next, ρ.set n (some v), σ1) := mapI h
theorem s_ret {e : IE} {v : AV} (h : den Fs e ρ σ = some (v, σ1)) : exe Fs (.ret e) ρ σ = some (.ret v, ρ, σ1) := mapI h
theorem augI {n : Nat} {a : Int} {K : Int → Option (Fl × Rho × AH)} {w : Option (Fl × Rho × AH)} (h : ρ[n]? = some (some (.int a))) (h1 : K a = w) : (match ρ[n]? with | some (some (.int a)) => K a | _ => .none) = w := by rw [h]; exact h1
theorem s_aug {op : BOp} {n : Nat} {e : IE} {a b r : Int} (h0 : ρ[n]? = some (some (.int a))) (h : den Fs e ρ σ = some (.int b, σ1)) (h2 : binV op a b = some r) : exe Fs (.aug op n e) ρ σ = some (.next, ρ.set n (some (.int r)), σ1) :=
  augI (K := fun a => (den Fs e ρ σ).bind fun (y, σ) => match y with
      | .int b => (binV op a b).map fun r => (.next, ρ.set n (some (.int r)), σ)
      | _ => .none) h0 (bindI h (mapI h2))
/-- a test is told, and no more happens -/
theorem s_no {c : IE} {a : ISs} (h : den Fs c ρ σ = some (.bool false, σ1)) : exe Fs (.ite c a .nil) ρ σ = some (.next, ρ, σ1) := bindI h rfl
theorem s_yes {c : IE} {a b : ISs} {w : Fl × Rho × AH} (h : den Fs c ρ σ = some (.bool true, σ1)) (h1 : exes Fs a ρ σ1 = some w) : exe Fs (.ite c a b) ρ σ = some w := bindI h h1
theorem s_else {c : IE} {a b : ISs} {w : Fl × Rho × AH} (h : den Fs c ρ σ = some (.bool false, σ1)) (h1 : exes Fs b ρ σ1 = some w) : exe Fs (.ite c a b) ρ σ = some w := bindI h h1
/-- a test is told, and the value is given back -/
theorem s_yret {c e : IE} {b : ISs} {v : AV} (h : den Fs c ρ σ = some (.bool true, σ1)) (h1 : den Fs e ρ σ1 = some (v, σ2)) : exe Fs (.ite c (.cons (.ret e) .nil) b) ρ σ = some (.ret v, ρ, σ2) := s_yes h (exes_ret (s_ret h1))
theorem s_nod {c : IE} {a : ISs} {p : Prop} [Decidable p] (h : den Fs c ρ σ = some (.bool (decide p), σ1)) (q : ¬ p) : exe Fs (.ite c a .nil) ρ σ = some (.next, ρ, σ1) := s_no (by rw [h, decide_eq_false q])
theorem s_yretd {c e : IE} {b : ISs} {v : AV} {p : Prop} [Decidable p] (h : den Fs c ρ σ = some (.bool (decide p), σ1)) (q : p) (h1 : den Fs e ρ σ1 = some (v, σ2)) : exe Fs (.ite c (.cons (.ret e) .nil) b) ρ σ = some (.ret v, ρ, σ2) := s_yret (by rw [h, decide_eq_true q]) h1
theorem c_eqN {a b : Nat} : cmpV .eq (.int (a : Int)) (.int (b : Int)) = some (decide (a = b)) := congrArg some (by rw [Bool.eq_iff_iff, beq_iff_eq, decide_eq_true_eq]; exact Int.ofNat_inj)
theorem c_neN {a b : Nat} : cmpV .ne (.int (a : Int)) (.int (b : Int)) = some (decide (a ≠ b)) := congrArg some (by rw [Bool.eq_iff_iff, bne_iff_ne, decide_eq_true_eq]; exact not_congr Int.ofNat_inj)
theorem c_geN {a b : Nat} : cmpV .ge (.int (a : Int)) (.int (b : Int)) = some (decide (b ≤ a)) := congrArg some (decide_eq_decide.mpr Int.ofNat_le)
theorem c_gtN {a b : Nat} : cmpV .gt (.int (a : Int)) (.int (b : Int)) = some (decide (b < a)) := congrArg some (decide_eq_decide.mpr Int.ofNat_lt)
theorem c_ltN {a b : Nat} : cmpV .lt (.int (a : Int)) (.int (b : Int)) = some (decide (a < b)) := congrArg some (decide_eq_decide.mpr Int.ofNat_lt)
theorem c_eq0 {a : Nat} : cmpV .eq (.int (a : Int)) (.int 0) = some (decide (a = 0)) := c_eqN (b := 0)
theorem c_eq1 {a : Nat} : cmpV .eq (.int (a : Int)) (.int 1) = some (decide (a = 1)) := c_eqN (b := 1)
theorem c_eq2 {a : Nat} : cmpV .eq (.int (a : Int)) (.int 2) = some (decide (a = 2)) := c_eqN (b := 2)
theorem c_eq3 {a : Nat} : cmpV .eq (.int (a : Int)) (.int 3) = some (decide (a = 3)) := c_eqN (b := 3)
theorem c_eq6 {a : Nat} : cmpV .eq (.int (a : Int)) (.int 6) = some (decide (a = 6)) := c_eqN (b := 6)
theorem c_ne0 {a : Nat} : cmpV .ne (.int (a : Int)) (.int 0) = some (decide (a ≠ 0)) := c_neN (b := 0)
theorem c_ne1 {a : Nat} : cmpV .ne (.int (a : Int)) (.int 1) = some (decide (a ≠ 1)) := c_neN (b := 1)
theorem c_gt0 {a : Nat} : cmpV .gt (.int (a : Int)) (.int 0) = some (decide (0 < a)) := c_gtN (b := 0)
theorem c_gt1 {a : Nat} : cmpV .gt (.int (a : Int)) (.int 1) = some (decide (1 < a)) := c_gtN (b := 1)
theorem c_gt8 {a : Nat} : cmpV .gt (.int (a : Int)) (.int 8) = some (decide (8 < a)) := c_gtN (b := 8)
theorem small_of {n : Nat} (h : n ≤ 100000) : smallB (n : Int) = true := Nat.ble_eq_true_of_le (Nat.le_trans h (by decide))
theorem v_subN {a b : Nat} (h : b ≤ a) : binV .sub (a : Int) (b : Int) = some ((a - b : Nat) : Int) := congrArg some (Int.ofNat_sub h).symm
theorem v_addN {a b : Nat} : binV .add (a : Int) (b : Int) = some ((a + b : Nat) : Int) := rfl
theorem v_mulN {a b : Nat} (ha : a ≤ 100000) (hb : b ≤ 100000) : binV .mul (a : Int) (b : Int) = some ((a * b : Nat) : Int) := if_pos (by rw [small_of ha, small_of hb]; rfl)
theorem v_divN {a b : Nat} (hb : 0 < b) (h : b ≤ 100000) : binV .fdiv (a : Int) (b : Int) = some ((a / b : Nat) : Int) :=
  (if_pos (by rw [small_of h, Bool.and_true, decide_eq_true_eq]; exact Int.ofNat_ne_zero.mpr (Nat.ne_of_gt hb))).trans (congrArg some (Int.fdiv_eq_ediv_of_nonneg _ (Int.natCast_nonneg b)))
theorem v_modN {a b : Nat} (hb : 0 < b) : binV .mod (a : Int) (b : Int) = some ((a % b : Nat) : Int) :=
  (if_pos (Int.ofNat_ne_zero.mpr (Nat.ne_of_gt hb))).trans (congrArg some (Int.fmod_eq_emod_of_nonneg _ (Int.natCast_nonneg b)))
theorem d_bop {o : Bool} {es : IEs} {w : AV × AH} (h : denB Fs o es ρ σ = some w) : den Fs (.bop o es) ρ σ = some w := h
theorem b_one {o : Bool} {e : IE} {w : AV × AH} (h : den Fs e ρ σ = some w) : denB Fs o (.cons e .nil) ρ σ = some w := bindI h rfl
theorem b_or {e e' : IE} {es : IEs} {b b' : Bool} (h : den Fs e ρ σ = some (.bool b, σ)) (h1 : denB Fs true (.cons e' es) ρ σ = some (.bool b', σ)) : denB Fs true (.cons e (.cons e' es)) ρ σ = some (.bool (b || b'), σ) := by
  cases b with
  | true => exact bindI h rfl
  | false => exact bindI h h1
theorem b_and {e e' : IE} {es : IEs} {b b' : Bool} (h : den Fs e ρ σ = some (.bool b, σ)) (h1 : denB Fs false (.cons e' es) ρ σ = some (.bool b', σ)) : denB Fs false (.cons e (.cons e' es)) ρ σ = some (.bool (b && b'), σ) := by
  cases b with
  | true => exact bindI h h1
  | false => exact bindI h rfl
theorem b_stop {e e' : IE} {es : IEs} {b : Bool} (h : den Fs e ρ σ = some (.bool b, σ1)) (hb : b = true) : denB Fs true (.cons e (.cons e' es)) ρ σ = some (.bool true, σ1) := by
  subst hb; exact bindI h rfl
theorem b_halt {e e' : IE} {es : IEs} {b : Bool} (h : den Fs e ρ σ = some (.bool b, σ1)) (hb : b = false) : denB Fs false (.cons e (.cons e' es)) ρ σ = some (.bool false, σ1) := by
  subst hb; exact bindI h rfl
theorem b_go {e e' : IE} {es : IEs} {b : Bool} {w : AV × AH} (h : den Fs e ρ σ = some (.bool b, σ1)) (hb : b = false) (h1 : denB Fs true (.cons e' es) ρ σ1 = some w) : denB Fs true (.cons e (.cons e' es)) ρ σ = some w := by
  subst hb; exact bindI h h1
theorem d_isb' {o : Bool} {es : IEs} {b b' : Bool} (h : denB Fs o es ρ σ = some (.bool b, σ1)) (q : b = b') : denB Fs o es ρ σ = some (.bool b', σ1) := q ▸ h
theorem d_isb {e : IE} {b b' : Bool} (h : den Fs e ρ σ = some (.bool b, σ1)) (q : b = b') : den Fs e ρ σ = some (.bool b', σ1) := q ▸ h
theorem d_in {neg : Bool} {a b : IE} {i : Int} {y : AV} {xs : List AV} {ns : List Int} (h : den Fs a ρ σ = some (.int i, σ1)) (h1 : den Fs b ρ σ1 = some (y, σ2)) (h2 : seqOf y σ2 = some xs) (h3 : intsOf xs = some ns) : den Fs (.isIn neg a b) ρ σ = some (.bool (if neg then !ns.contains i else ns.contains i), σ2) :=
  bindI h (bindI h1 (bindI h2 (mapI (f := fun ns : List Int => (AV.bool (if neg then !ns.contains i else ns.contains i), σ2)) h3)))
theorem d_neg {e : IE} {i : Int} (h : den Fs e ρ σ = some (.int i, σ1)) : den Fs (.una .neg e) ρ σ = some (.int (-i), σ1) := bindI h rfl
theorem d_tup {es : IEs} {vs : List AV} (h : denL Fs es ρ σ = some (vs, σ1)) (hl : Nat.ble vs.length lim = true) : den Fs (.tup es) ρ σ = some (.ref σ1.length, σ1 ++ [(false, .tup vs)]) := bindI h (if_pos (Nat.le_of_ble_eq_true hl))
theorem d_lst {es : IEs} {vs : List AV} (h : denL Fs es ρ σ = some (vs, σ1)) (hl : Nat.ble vs.length lim = true) : den Fs (.lst es) ρ σ = some (.ref σ1.length, σ1 ++ [(true, .lst vs)]) := bindI h (if_pos (Nat.le_of_ble_eq_true hl))
theorem t_bind {ns : List Nat} {a : Nat} {m : Bool} {vs : List AV} (h : σ[a]? = some (m, .tup vs)) (hl : vs.length = ns.length) : bindT ns true (.ref a) ρ σ = some ((ns.zip vs).foldl (fun ρ p => ρ.set p.1 (some p.2)) ρ) := by
  unfold bindT
  dsimp only
  rw [h]
  exact if_pos hl
theorem s_forT {ns : List Nat} {tu : Bool} {e : IE} {b : ISs} {a : Nat} {m : Bool} {xs : List AV} {w : Fl × Rho × AH} (h : den Fs e ρ σ = some (.ref a, σ1)) (h1 : σ1[a]? = some (m, .tup xs)) (h2 : xs.length ≤ lim) (h3 : forF (fun σ => σ[a]? == some (m, .tup xs)) (bindT ns tu) (exes Fs b) xs ρ σ1 = some w) :
    exe Fs (.for ns tu e b) ρ σ = some w := bindI h (by dsimp only; rw [h1]; exact (if_pos h2).trans h3)
theorem d_dic {ks : List Int} {es : IEs} {vs : List AV} (h : denL Fs es ρ σ = some (vs, σ1)) (hl : (decide (ks.length = vs.length) && decide (ks.Nodup) && decide (ks.length ≤ 8) && decide (1 ≤ ks.length)) = true) : den Fs (.dic ks es) ρ σ = some (.ref σ1.length, σ1 ++ [(false, .dic (ks.zip vs))]) := bindI h (if_pos hl)
theorem d_len {e : IE} {x : AV} {xs : List AV} (h : den Fs e ρ σ = some (x, σ1)) (h1 : seqOf x σ1 = some xs) (hl : xs.length ≤ lim) : den Fs (.len e) ρ σ = some (.int xs.length, σ1) := bindI h (bindI h1 (if_pos hl))
theorem d_iteT {c a b : IE} {w : AV × AH} (h : den Fs c ρ σ = some (.bool true, σ1)) (h1 : den Fs a ρ σ1 = some w) : den Fs (.ite c a b) ρ σ = some w := bindI h h1
theorem d_iteF {c a b : IE} {w : AV × AH} (h : den Fs c ρ σ = some (.bool false, σ1)) (h1 : den Fs b ρ σ1 = some w) : den Fs (.ite c a b) ρ σ = some w := bindI h h1
theorem s_yesv {c : IE} {a b : ISs} {x : AV} {w : Fl × Rho × AH} (h : den Fs c ρ σ = some (x, σ1)) (ht : truth x = some true) (h1 : exes Fs a ρ σ1 = some w) : exe Fs (.ite c a b) ρ σ = some w := bindI h (bindI ht h1)
theorem s_yretv {c e : IE} {b : ISs} {x v : AV} (h : den Fs c ρ σ = some (x, σ1)) (ht : truth x = some true) (h1 : den Fs e ρ σ1 = some (v, σ2)) : exe Fs (.ite c (.cons (.ret e) .nil) b) ρ σ = some (.ret v, ρ, σ2) := s_yesv h ht (exes_ret (s_ret h1))
theorem s_nov {c : IE} {a : ISs} {x : AV} (h : den Fs c ρ σ = some (x, σ1)) (ht : truth x = some false) : exe Fs (.ite c a .nil) ρ σ = some (.next, ρ, σ1) := bindI h (bindI ht rfl)
theorem s_setI {o i e : IE} {v x y : AV} {σ3 σ4 : AH} (h : den Fs e ρ σ = some (v, σ1)) (h1 : den Fs o ρ σ1 = some (x, σ2)) (h2 : den Fs i ρ σ2 = some (y, σ3)) (h3 : setItemH x y v σ3 = some σ4) : exe Fs (.setI o i e) ρ σ = some (.next, ρ, σ4) := bindI h (bindI h1 (bindI h2 (mapI h3)))
theorem s_setA {o e : IE} {k : Nat} {v x : AV} {σ4 : AH} (h : den Fs e ρ σ = some (v, σ1)) (h1 : den Fs o ρ σ1 = some (x, σ2)) (h3 : setAttrH x k v σ2 = some σ4) : exe Fs (.setA o k e) ρ σ = some (.next, ρ, σ4) := bindI h (bindI h1 (mapI h3))
theorem s_augI {op : BOp} {o i e : IE} {x j : AV} {a b r : Int} {σ3 σ4 : AH} (h : den Fs o ρ σ = some (x, σ1)) (h1 : den Fs i ρ σ1 = some (j, σ2)) (h2 : subV x j σ2 = some (.int a)) (h3 : den Fs e ρ σ2 = some (.int b, σ3)) (h4 : binV op a b = some r) (h5 : setItemH x j (.int r) σ3 = some σ4) : exe Fs (.augI op o i e) ρ σ = some (.next, ρ, σ4) :=
  bindI h (bindI h1 (bindI h2 (bindI h3 (bindI h4 (mapI h5)))))
theorem s_augA {op : BOp} {o e : IE} {k : Nat} {x : AV} {a b r : Int} {σ3 σ4 : AH} (h : den Fs o ρ σ = some (x, σ1)) (h2 : attrV x k σ1 = some (.int a)) (h3 : den Fs e ρ σ1 = some (.int b, σ3)) (h4 : binV op a b = some r) (h5 : setAttrH x k (.int r) σ3 = some σ4) : exe Fs (.augA op o k e) ρ σ = some (.next, ρ, σ4) :=
  bindI h (bindI h2 (bindI h3 (bindI h4 (mapI h5))))
theorem s_asgT {ns : List Nat} {e : IE} {v : AV} {ρ' : Rho} (h : den Fs e ρ σ = some (v, σ1)) (h1 : bindT ns true v ρ σ1 = some ρ') : exe Fs (.asgT ns e) ρ σ = some (.next, ρ', σ1) := bindI h (mapI h1)
theorem s_expr {e : IE} (h : den Fs e ρ σ = some (.none, σ1)) : exe Fs (.expr e) ρ σ = some (.next, ρ, σ1) := bindI h rfl
theorem s_forR {ns : List Nat} {tu : Bool} {e : IE} {b : ISs} {a : Nat} {m : Bool} {x y s : Int} {ks : List Int} {w : Fl × Rho × AH} (h : den Fs e ρ σ = some (.ref a, σ1)) (h1 : σ1[a]? = some (m, .rng x y s)) (h2 : rngList x y s = some ks) (h3 : forF (fun _ => true) (bindT ns tu) (exes Fs b) (ks.map AV.int) ρ σ1 = some w) :
    exe Fs (.for ns tu e b) ρ σ = some w := bindI h (by dsimp only; rw [h1]; exact bindI h2 h3)
theorem s_forL {ns : List Nat} {tu : Bool} {e : IE} {b : ISs} {a : Nat} {m : Bool} {xs : List AV} {w : Fl × Rho × AH} (h : den Fs e ρ σ = some (.ref a, σ1)) (h1 : σ1[a]? = some (m, .lst xs)) (h2 : xs.length ≤ lim) (h3 : forF (fun σ => σ[a]? == some (m, .lst xs)) (bindT ns tu) (exes Fs b) xs ρ σ1 = some w) :
    exe Fs (.for ns tu e b) ρ σ = some w := bindI h (by dsimp only; rw [h1]; exact (if_pos h2).trans h3)
theorem d_range1 {e : IE} {n : Int} (h : den Fs e ρ σ = some (.int n, σ1)) (hs : smallB n = true) : den Fs (.range (.cons e .nil)) ρ σ = some (.ref σ1.length, σ1 ++ [(false, .rng 0 n 1)]) := bindI (l_cons h l_nil) (if_pos hs)
theorem d_range2 {e e' : IE} {n m : Int} (h : den Fs e ρ σ = some (.int n, σ)) (h1 : den Fs e' ρ σ = some (.int m, σ)) (hs : (smallB n && smallB m) = true) : den Fs (.range (.cons e (.cons e' .nil))) ρ σ = some (.ref σ.length, σ ++ [(false, .rng n m 1)]) := bindI (l_cons h (l_cons h1 l_nil)) (if_pos hs)
theorem all_one {e : IE} {b : Bool} (h : den Fs e ρ σ = some (.bool b, σ1)) : denAll Fs (.cons e .nil) ρ σ = some b := bindI h (by cases b <;> rfl)
theorem d_index {o e : IE} {a : Nat} {m : Bool} {xs : List AV} {ns : List Int} {i : Int} {k : Nat} (h : den Fs o ρ σ = some (.ref a, σ)) (h1 : σ[a]? = some (m, .lst xs)) (h2 : den Fs e ρ σ = some (.int i, σ)) (h3 : intsOf xs = some ns) (h4 : ns.contains i = true) (h5 : ns.length ≤ lim) (h6 : ns.idxOf i = k) :
    den Fs (.index o e) ρ σ = some (.int (k : Nat), σ) := bindI h (by
  have e1 : isLst (.ref a) σ = true := by unfold isLst; dsimp only; rw [h1]
  dsimp only
  rw [e1]
  refine bindI h2 ?_
  dsimp only
  rw [h1]
  refine bindI h3 ((if_pos (by rw [h4, decide_eq_true h5]; rfl)).trans ?_)
  rw [h6])
theorem w_stop {test : Rho → AH → Option (AV × AH)} {body : Rho → AH → Option (Fl × Rho × AH)} {n : Nat} (h : test ρ σ = some (.bool false, σ1)) : whileF test body (n + 1) ρ σ = some (.next, ρ, σ1) := bindI h rfl
theorem w_brk {test : Rho → AH → Option (AV × AH)} {body : Rho → AH → Option (Fl × Rho × AH)} {n : Nat} {ρ1 : Rho} (h : test ρ σ = some (.bool true, σ1)) (h1 : body ρ σ1 = some (.brk, ρ1, σ2)) : whileF test body (n + 1) ρ σ = some (.next, ρ1, σ2) := bindI h (bindI (x := true) rfl (bindI h1 rfl))
theorem w_go {test : Rho → AH → Option (AV × AH)} {body : Rho → AH → Option (Fl × Rho × AH)} {n : Nat} {ρ1 : Rho} (h : test ρ σ = some (.bool true, σ1)) (h1 : body ρ σ1 = some (.next, ρ1, σ2)) : whileF test body (n + 1) ρ σ = whileF test body n ρ1 σ2 := bindI h (bindI (x := true) rfl (bindI h1 rfl))
theorem exes_brk {s : IS} {ss : ISs} {ρ1 : Rho} (h : exe Fs s ρ σ = some (.brk, ρ1, σ1)) : exes Fs (.cons s ss) ρ σ = some (.brk, ρ1, σ1) := bindI h rfl
theorem s_break {c : IE} {b : ISs} (h : den Fs c ρ σ = some (.bool true, σ1)) : exe Fs (.ite c (.cons .brk .nil) b) ρ σ = some (.brk, ρ, σ1) := s_yes h rfl
theorem d_append {o e : IE} {a : Nat} {v : AV} {xs : List AV} (h : den Fs o ρ σ = some (.ref a, σ1)) (h1 : σ1[a]? = some (true, .lst xs)) (h2 : den Fs e ρ σ1 = some (v, σ1)) (hl : xs.length ≤ lim) : den Fs (.append o e) ρ σ = some (.none, σ1.set a (true, .lst (xs ++ [v]))) :=
  bindI h (by
    have e1 : isLst (.ref a) σ1 = true := by unfold isLst; dsimp only; rw [h1]
    have e2 : appendH (.ref a) v σ1 = some (σ1.set a (true, .lst (xs ++ [v]))) := by unfold appendH; dsimp only; rw [h1]; exact if_pos hl
    dsimp only
    rw [e1]
    exact bindI h2 (mapI e2))
end
theorem forF_go {chk : AH → Bool} {bind : AV → Rho → AH → Option Rho} {body : Rho → AH → Option (Fl × Rho × AH)} {v : AV} {vs : List AV} {ρ ρ1 ρ2 : Rho} {σ σ2 : AH} (hc : chk σ = true) (hb : bind v ρ σ = some ρ1) (hd : body ρ1 σ = some (.next, ρ2, σ2)) :
    forF chk bind body (v :: vs) ρ σ = forF chk bind body vs ρ2 σ2 := by
  simp only [forF, hc, if_true, hb, Option.bind_some, hd]
theorem forF_end {chk : AH → Bool} {bind : AV → Rho → AH → Option Rho} {body : Rho → AH → Option (Fl × Rho × AH)} {ρ : Rho} {σ : AH} (hc : chk σ = true) : forF chk bind body [] ρ σ = some (.next, ρ, σ) := by
  simp only [forF, hc, if_true]
theorem forF_ret {chk : AH → Bool} {bind : AV → Rho → AH → Option Rho} {body : Rho → AH → Option (Fl × Rho × AH)} {v w : AV} {vs : List AV} {ρ ρ1 ρ2 : Rho} {σ σ2 : AH} (hc : chk σ = true) (hb : bind v ρ σ = some ρ1) (hd : body ρ1 σ = some (.ret w, ρ2, σ2)) :
    forF chk bind body (v :: vs) ρ σ = some (.ret w, ρ2, σ2) := by
  simp only [forF, hc, if_true, hb, Option.bind_some, hd]
theorem f_pawn_attackers {pos geo pw ps kd sd : AV} {sq side a b c : Int} {σ : AH} (h1 : attrV pos 14 σ = some geo) (h2 : attrV geo 6 σ = some pw) (h3 : subV pw (.int (1 - side)) σ = some ps) (h4 : subV ps (.int sq) σ = some (.int a))
    (h5 : attrV pos 13 σ = some kd) (h6 : subV kd (.int 1) σ = some (.int b)) (h7 : attrV pos 15 σ = some sd) (h8 : subV sd (.int side) σ = some (.int c)) :
    F_pawn_attackers [pos, .int sq, .int side] σ = some (.int (bitAnd (bitAnd a b) c), σ) :=
  fun_ret (Fs := Fs0) (np := 3) (ns := 3) (body := B_pawn_attackers) (ρ' := [some pos, some (.int sq), some (.int side)]) rfl (exes_ret (s_ret (d_bin (d_bin (d_sub (d_sub (d_attr (d_attr (d_var rfl) h1) h2) (d_bin d_int (d_var rfl) rfl) h3) (d_var rfl) h4) (d_sub (d_attr (d_var rfl) h5) d_gint h6) rfl) (d_sub (d_attr (d_var rfl) h7) (d_var rfl) h8) rfl)))
end Mine
namespace Mine
open PySem.Builtin PyProof.Rows

/-! ## put_piece -/
noncomputable def pflds (I : Ids) (side : Int) (hs : Nat) : List (Nat × AV) :=
  [(14, .ref I.g), (20, .ref I.zo), (18, .ref I.bd), (13, .ref I.kd), (15, .ref I.sd), (16, .int side), (21, .int 0), (17, .int (-1)), (22, .int 0), (4, .int 1), (23, .int 0), (24, .ref hs)]
structure PW (σ : AH) (I : Ids) (side : Int) (hs : Nat) (bl kl sl : List Nat) : Prop where
  p : σ[I.p]? = some (true, .inst 1 (pflds I side hs))
  b : σ[I.bd]? = some (true, .lst (natsV bl))
  k : σ[I.kd]? = some (true, .lst (natsV kl))
  s : σ[I.sd]? = some (true, .lst (natsV sl))
structure Far (I : Ids) : Prop where
  pb : I.p ≠ I.bd
  pk : I.p ≠ I.kd
  ps : I.p ≠ I.sd
  bk : I.bd ≠ I.kd
  bs : I.bd ≠ I.sd
  ks : I.kd ≠ I.sd
noncomputable def mut4 (I : Ids) : List Nat := [I.p, I.bd, I.kd, I.sd]

theorem get_set {σ : AH} {i j : Nat} {o : Bool × AO} : (σ.set i o)[j]? = if i = j then (if i < σ.length then some o else none) else σ[j]? := by
  rw [List.getElem?_set]

theorem put_ok {σ : AH} {I : Ids} {side : Int} {hs : Nat} {bl kl sl : List Nat} (W : PW σ I side hs bl kl sl) (F : Far I) (z1 : attrV (.ref I.zo) 25 σ = some (.ref I.zp)) {pc s k t : Nat} (hk : pc &&& 7 = k) (ht : pc / 8 = t)
    (z2 : subV (.ref I.zp) (.int pc) σ = some (.ref I.zr)) (z3 : subV (.ref I.zr) (.int s) σ = some (.int 0)) (zz : I.zo ∉ mut4 I ∧ I.zp ∉ mut4 I ∧ I.zr ∉ mut4 I)
    (hs1 : s < bl.length) (hs2 : s < 100) (hk1 : k < kl.length) (ht1 : t < sl.length) (hk2 : k < 100) (ht2 : t < 100) :
    ∃ σ', F_put_piece [.ref I.p, .int pc, .int s] σ = some (.none, σ') ∧ PW σ' I side hs (bl.set s pc) (kl.set k (kl[k] ||| 2 ^ s)) (sl.set t (sl[t] ||| 2 ^ s)) ∧ σ'.length = σ.length ∧ ∀ i, i ∉ mut4 I → σ'[i]? = σ[i]? := by
  obtain ⟨hp1, hb1, hk1', hs1'⟩ := W
  obtain ⟨f1, f2, f3, f4, f5, f6⟩ := F
  have lp := (List.getElem?_eq_some_iff.mp hp1).1
  have lb := (List.getElem?_eq_some_iff.mp hb1).1
  have lk := (List.getElem?_eq_some_iff.mp hk1').1
  have ls := (List.getElem?_eq_some_iff.mp hs1').1
  have e1 : ∀ σ, F_kind_of [.int (pc : Int)] σ = some (.int (k : Int), σ) := fun σ => by
    rw [f_kind_of, show (7 : Int) = ((7 : Nat) : Int) from rfl, and_nat, hk]
  have e2 : ∀ σ, F_side_of [.int (pc : Int)] σ = some (.int (t : Int), σ) := fun σ => by
    rw [f_side_of, Int.fdiv_eq_ediv_of_nonneg _ (by decide), ← ht]; rfl
  -- the heaps on the way
  let σ1 := σ.set I.bd (true, .lst ((natsV bl).set s (.int pc)))
  let σ2 := σ1.set I.kd (true, .lst ((natsV kl).set k (.int ((kl[k] ||| 2 ^ s : Nat) : Int))))
  let σ3 := σ2.set I.sd (true, .lst ((natsV sl).set t (.int ((sl[t] ||| 2 ^ s : Nat) : Int))))
  let σ4 := σ3.set I.p (true, .inst 1 (putF 23 (.int 0) (pflds I side hs)))
  have g1 : ∀ j, I.bd ≠ j → σ1[j]? = σ[j]? := fun j h => List.getElem?_set_ne h
  have g2 : ∀ j, I.kd ≠ j → σ2[j]? = σ1[j]? := fun j h => List.getElem?_set_ne h
  have g3 : ∀ j, I.sd ≠ j → σ3[j]? = σ2[j]? := fun j h => List.getElem?_set_ne h
  have g4 : ∀ j, I.p ≠ j → σ4[j]? = σ3[j]? := fun j h => List.getElem?_set_ne h
  have p1 : σ1[I.p]? = some (true, .inst 1 (pflds I side hs)) := by rw [g1 _ f1.symm]; exact hp1
  have p2 : σ2[I.p]? = some (true, .inst 1 (pflds I side hs)) := by rw [g2 _ f2.symm]; exact p1
  have p3 : σ3[I.p]? = some (true, .inst 1 (pflds I side hs)) := by rw [g3 _ f3.symm]; exact p2
  have k1 : σ1[I.kd]? = some (true, .lst (natsV kl)) := by rw [g1 _ f4]; exact hk1'
  have s2 : σ2[I.sd]? = some (true, .lst (natsV sl)) := by rw [g2 _ f6, g1 _ f5]; exact hs1'
  have st1 : exe Fs1 (.asg 3 (.bin .shl (.int 1) (.var 2))) [some (.ref I.p), some (.int pc), some (.int s), none] σ = some (.next, [some (.ref I.p), some (.int pc), some (.int s), some (.int ((2 ^ s : Nat) : Int))], σ) := by
    have v : binV .shl 1 (s : Int) = some ((2 ^ s : Nat) : Int) := (if_pos (by rw [show inN (s : Int) 1000 = true from Nat.ble_eq_true_of_le (Nat.le_trans (Nat.le_of_lt hs2) (by decide))]; rfl)).trans (congrArg some (shl_nat s))
    exact s_asg (d_bin d_int (d_var rfl) v)
  let ρ : Rho := [some (.ref I.p), some (.int pc), some (.int s), some (.int ((2 ^ s : Nat) : Int))]
  have st2 : exe Fs1 (.setI (.attr (.var 0) 18) (.var 2) (.var 1)) ρ σ = some (.next, ρ, σ1) := by
    have a1 := attr_at (k := 18) (v := .ref I.bd) hp1 rfl
    have a2 := setItem_at (s := s) (v := .int pc) hb1 (by simp [natsV, hs1]) (by exact Nat.le_trans (Nat.le_of_lt (by assumption)) (by decide))
    exact s_setI (d_var rfl) (d_attr (d_var rfl) a1) (d_var rfl) a2
  have st3 : exe Fs1 (.augI .bor (.attr (.var 0) 13) (.call 1 (.cons (.var 1) .nil)) (.var 3)) ρ σ1 = some (.next, ρ, σ2) := by
    have a1 := attr_at (k := 13) (v := .ref I.kd) p1 rfl
    have a2 := sub_at (s := k) (v := .int (kl[k] : Int)) k1 (by simp [natsV, hk1]) (by exact Nat.le_trans (Nat.le_of_lt (by assumption)) (by decide))
    have a3 := setItem_at (s := k) (v := .int ((kl[k] ||| 2 ^ s : Nat) : Int)) k1 (by simp [natsV, hk1]) (by exact Nat.le_trans (Nat.le_of_lt (by assumption)) (by decide))
    have a4 : Fs1[1]? = some F_kind_of := rfl
    exact s_augI (d_attr (d_var rfl) a1) (d_call (l_cons (d_var rfl) l_nil) a4 (e1 _)) a2 (d_var rfl) (borN _ _) a3
  have st4 : exe Fs1 (.augI .bor (.attr (.var 0) 15) (.call 0 (.cons (.var 1) .nil)) (.var 3)) ρ σ2 = some (.next, ρ, σ3) := by
    have a1 := attr_at (k := 15) (v := .ref I.sd) p2 rfl
    have a2 := sub_at (s := t) (v := .int (sl[t] : Int)) s2 (by simp [natsV, ht1]) (by exact Nat.le_trans (Nat.le_of_lt (by assumption)) (by decide))
    have a3 := setItem_at (s := t) (v := .int ((sl[t] ||| 2 ^ s : Nat) : Int)) s2 (by simp [natsV, ht1]) (by exact Nat.le_trans (Nat.le_of_lt (by assumption)) (by decide))
    have a4 : Fs1[0]? = some F_side_of := rfl
    exact s_augI (d_attr (d_var rfl) a1) (d_call (l_cons (d_var rfl) l_nil) a4 (e2 _)) a2 (d_var rfl) (borN _ _) a3
  have far : ∀ {i : Nat}, i ∉ mut4 I → I.bd ≠ i ∧ I.kd ≠ i ∧ I.sd ≠ i ∧ I.p ≠ i := fun {i} h => by
    simp only [mut4, List.mem_cons, List.not_mem_nil, or_false, not_or] at h
    exact ⟨fun q => h.2.1 q.symm, fun q => h.2.2.1 q.symm, fun q => h.2.2.2 q.symm, fun q => h.1 q.symm⟩
  have o3 : ∀ {i : Nat}, i ∉ mut4 I → σ3[i]? = σ[i]? := fun {i} h => by
    obtain ⟨a, b, c, d⟩ := far h
    rw [g3 _ c, g2 _ b, g1 _ a]
  have st5 : exe Fs1 (.augA .bxor (.var 0) 23 (.sub (.sub (.attr (.attr (.var 0) 20) 25) (.var 1)) (.var 2))) ρ σ3 = some (.next, ρ, σ4) := by
    have a1 := attr_at (k := 23) (v := .int 0) p3 rfl
    have a2 := attr_at (k := 20) (v := .ref I.zo) p3 rfl
    have a3 : attrV (.ref I.zo) 25 σ3 = some (.ref I.zp) := attr_of (fun o e => by rw [o3 zz.1]; exact e) z1
    have a4 : subV (.ref I.zp) (.int pc) σ3 = some (.ref I.zr) := sub_of (fun o e => by rw [o3 zz.2.1]; exact e) z2
    have a5 : subV (.ref I.zr) (.int s) σ3 = some (.int 0) := sub_of (fun o e => by rw [o3 zz.2.2]; exact e) z3
    have a6 := setAttr_at (k := 23) (v := .int 0) p3 (by simp [pflds])
    have a7 : binV .bxor 0 0 = some 0 := rfl
    exact s_augA (d_var rfl) a1 (d_sub (d_sub (d_attr (d_attr (d_var rfl) a2) a3) (d_var rfl) a4) (d_var rfl) a5) a7 a6
  have run : F_put_piece [.ref I.p, .int pc, .int s] σ = some (.none, σ4) :=
    fun_next (Fs := Fs1) (np := 3) (ns := 4) (body := B_put_piece) rfl ((exes_go st1).trans ((exes_go st2).trans ((exes_go st3).trans ((exes_go st4).trans ((exes_go st5).trans rfl)))))
  have L : σ4.length = σ.length := by simp [σ4, σ3, σ2, σ1]
  have pf : putF 23 (.int 0) (pflds I side hs) = pflds I side hs := rfl
  refine ⟨σ4, run, ⟨?_, ?_, ?_, ?_⟩, L, fun i h => ?_⟩
  · show (σ3.set I.p _)[I.p]? = _
    rw [List.getElem?_set_self (by simp [σ3, σ2, σ1]; exact lp), pf]
  · rw [g4 _ f1, g3 _ f5.symm, g2 _ f4.symm]
    show (σ.set I.bd _)[I.bd]? = _
    rw [List.getElem?_set_self lb]
    simp [natsV, List.map_set]
  · rw [g4 _ f2, g3 _ f6.symm]
    show (σ1.set I.kd _)[I.kd]? = _
    rw [List.getElem?_set_self (by simp [σ1]; exact lk)]
    simp [natsV, List.map_set]
  · rw [g4 _ f3]
    show (σ2.set I.sd _)[I.sd]? = _
    rw [List.getElem?_set_self (by simp [σ2, σ1]; exact ls)]
    simp [natsV, List.map_set]
  · rw [g4 _ (far h).2.2.2]
    exact o3 h
end Mine
namespace Mine
open PySem.Builtin PyProof.Rows

/-! ## The men are put -/
noncomputable def sq (B : List Nat) (s : Nat) : Nat := B.getD s 0
noncomputable def km (B : List Nat) (k : Nat) : Nat → Nat
  | 0 => 0
  | j + 1 => if sq B j ≠ 0 ∧ sq B j &&& 7 = k then km B k j ||| 2 ^ j else km B k j
noncomputable def sm (B : List Nat) (t : Nat) : Nat → Nat
  | 0 => 0
  | j + 1 => if sq B j ≠ 0 ∧ sq B j / 8 = t then sm B t j ||| 2 ^ j else sm B t j
theorem or_pow_bit (m j s : Nat) : (m ||| 2 ^ j).testBit s = (m.testBit s || decide (j = s)) := by
  rw [Nat.testBit_or, Nat.testBit_two_pow]
theorem km_bit (B : List Nat) (k : Nat) (s : Nat) : ∀ j, (km B k j).testBit s = (decide (s < j) && decide (sq B s ≠ 0) && decide (sq B s &&& 7 = k))
  | 0 => by simp [km]
  | j + 1 => by
    unfold km
    by_cases e : s = j
    · subst e
      split
      · rename_i h; rw [or_pow_bit]; simp [h.1, h.2]
      · rename_i h; rw [km_bit B k s s]
        simp only [Nat.lt_irrefl, decide_false, Bool.false_and]
        by_cases h1 : sq B s ≠ 0
        · have h2 : ¬ (sq B s &&& 7 = k) := fun q => h ⟨h1, q⟩
          rw [decide_eq_false h2, Bool.and_false]
        · rw [decide_eq_false h1, Bool.and_false, Bool.false_and]
    · have h1 : decide (s < j + 1) = decide (s < j) := by rw [decide_eq_decide]; omega
      have h2 : decide (j = s) = false := by simp; omega
      rw [h1]
      split
      · rw [or_pow_bit, h2, Bool.or_false, km_bit B k s j]
      · exact km_bit B k s j
theorem sm_bit (B : List Nat) (k : Nat) (s : Nat) : ∀ j, (sm B k j).testBit s = (decide (s < j) && decide (sq B s ≠ 0) && decide (sq B s / 8 = k))
  | 0 => by simp [sm]
  | j + 1 => by
    unfold sm
    by_cases e : s = j
    · subst e
      split
      · rename_i h; rw [or_pow_bit]; simp [h.1, h.2]
      · rename_i h; rw [sm_bit B k s s]
        simp only [Nat.lt_irrefl, decide_false, Bool.false_and]
        by_cases h1 : sq B s ≠ 0
        · have h2 : ¬ (sq B s / 8 = k) := fun q => h ⟨h1, q⟩
          rw [decide_eq_false h2, Bool.and_false]
        · rw [decide_eq_false h1, Bool.and_false, Bool.false_and]
    · have h1 : decide (s < j + 1) = decide (s < j) := by rw [decide_eq_decide]; omega
      have h2 : decide (j = s) = false := by simp; omega
      rw [h1]
      split
      · rw [or_pow_bit, h2, Bool.or_false, sm_bit B k s j]
      · exact sm_bit B k s j

theorem forF_up {bind : AV → Rho → AH → Option Rho} {body : Rho → AH → Option (Fl × Rho × AH)} {n : Nat} (I : Nat → Rho → AH → Prop)
    (step : ∀ j < n, ∀ ρ σ, I j ρ σ → ∃ ρ1, bind (.int (j : Int)) ρ σ = some ρ1 ∧ ∃ ρ2 σ2, body ρ1 σ = some (.next, ρ2, σ2) ∧ I (j + 1) ρ2 σ2) :
    ∀ (m j : Nat) (ρ : Rho) (σ : AH), j + m = n → I j ρ σ → ∃ ρ' σ', forF (fun _ => true) bind body ((List.range' j m).map fun (i : Nat) => AV.int (i : Int)) ρ σ = some (.next, ρ', σ') ∧ I n ρ' σ'
  | 0, j, ρ, σ, e, h => ⟨ρ, σ, rfl, by rw [show n = j by omega]; exact h⟩
  | m + 1, j, ρ, σ, e, h => by
    obtain ⟨ρ1, h1, ρ2, σ2, h2, h3⟩ := step j (by omega) ρ σ h
    obtain ⟨ρ', σ', h4, h5⟩ := forF_up I step m (j + 1) ρ2 σ2 (by omega) h3
    refine ⟨ρ', σ', ?_, h5⟩
    rw [List.range'_succ, List.map_cons]
    simp only [forF, if_true, h1, Option.bind_some, h2]
    exact h4
theorem rng_up {n : Nat} (h : n ≤ 1000000) : (rngList 0 (n : Int) 1).map (fun ns => ns.map AV.int) = some ((List.range' 0 n).map fun (i : Nat) => AV.int (i : Int)) := by
  unfold rngList
  have h1 : (smallB 0 && smallB (n : Int)) = true := by simp only [Bool.and_eq_true, smallB_iff]; omega
  simp only [h1, Bool.not_true, Bool.false_eq_true, if_false, if_true, Int.sub_zero, Int.zero_add]
  rw [if_pos (by rw [Nat.ble_eq]; omega)]
  simp [List.range_eq_range', Function.comp_def]

/-- where the men stand, told to the position so far -/
structure PutI (I : Ids) (hs c r : Nat) (B : List Nat) (ρ0 : Rho) (σ0 : AH) (j : Nat) (ρ : Rho) (σ : AH) : Prop where
  w : PW σ I 0 hs (B.take j ++ List.replicate (B.length - j) 0) ((List.range 7).map fun k => km B k j) [sm B 0 j, sm B 1 j]
  len : σ.length = σ0.length
  keep : ∀ i, i ∉ mut4 I → σ[i]? = σ0[i]?
  rh : ∃ x, ρ = ρ0.set 8 x
noncomputable def okMen (B : List Nat) : Prop := ∀ x ∈ B, x ∈ ([0, 1, 2, 3, 4, 5, 6, 9, 10, 11, 12, 13, 14] : List Nat)

theorem put_loop {I : Ids} {hs c r : Nat} {B : List Nat} {ρ0 : Rho} {σ0 : AH} (F : Far I) (h28 : ρ0.length = 28) (h5 : ρ0[5]? = some (some (.ref 11))) (h7 : ρ0[7]? = some (some (.ref I.p))) (hB : σ0[11]? = some (true, .lst (natsV B))) (h11 : 11 ∉ mut4 I) (hl : B.length ≤ 16) (ok : okMen B)
    (z1 : attrV (.ref I.zo) 25 σ0 = some (.ref I.zp)) (z2 : ∀ pc < 15, subV (.ref I.zp) (.int (pc : Nat)) σ0 = some (.ref I.zr)) (z3 : ∀ s < B.length, subV (.ref I.zr) (.int (s : Nat)) σ0 = some (.int 0)) (zz : I.zo ∉ mut4 I ∧ I.zp ∉ mut4 I ∧ I.zr ∉ mut4 I) :
    ∀ j < B.length, ∀ ρ σ, PutI I hs c r B ρ0 σ0 j ρ σ → ∃ ρ1, bindT [8] false (.int (j : Int)) ρ σ = some ρ1 ∧ ∃ ρ2 σ2,
      exes Fs9 (.cons (.ite (.cmp .ne (.sub (.var 5) (.var 8)) (.int 0)) (.cons (.expr (.call 29 (.cons (.var 7) (.cons (.sub (.var 5) (.var 8)) (.cons (.var 8) .nil))))) .nil) .nil) .nil) ρ1 σ = some (.next, ρ2, σ2) ∧ PutI I hs c r B ρ0 σ0 (j + 1) ρ2 σ2 := by
  intro j hj ρ σ P
  obtain ⟨w, len, keep, xh, rh⟩ := P
  have rl : ρ.length = 28 := by rw [rh, List.length_set, h28]
  have r4 : ∀ i, i < 8 → ρ[i]? = ρ0[i]? := fun i hi => by rw [rh, List.getElem?_set_ne (by exact Nat.ne_of_gt (by assumption))]
  have rn : ρ.set 8 (some (.int (j : Int))) = ρ0.set 8 (some (.int (j : Int))) := by rw [rh, List.set_set]
  refine ⟨ρ.set 8 (some (.int (j : Int))), rfl, ?_⟩
  have q5 : (ρ.set 8 (some (.int (j : Int))))[5]? = some (some (.ref 11)) := by rw [List.getElem?_set_ne (by decide), r4 5 (by decide), h5]
  have q7 : (ρ.set 8 (some (.int (j : Int))))[7]? = some (some (.ref I.p)) := by rw [List.getElem?_set_ne (by decide), r4 7 (by decide), h7]
  have q8 : (ρ.set 8 (some (.int (j : Int))))[8]? = some (some (.int (j : Int))) := List.getElem?_set_self (by omega)
  have b11 : σ[11]? = some (true, .lst (natsV B)) := by rw [keep 11 h11, hB]
  have sb : subV (.ref 11) (.int (j : Int)) σ = some (.int ((B[j] : Nat) : Int)) := sub_at b11 (by simp [natsV, hj]) (by omega)
  have gd : sq B j = B[j] := by simp [sq, List.getD, hj]
  have men := ok _ (List.getElem_mem hj)
  have tk1 : B.take (j + 1) ++ List.replicate (B.length - (j + 1)) 0 = (B.take j ++ List.replicate (B.length - j) 0).set j B[j] := by
    rw [List.set_append, if_neg (by simp; omega)]
    have e1 : j - (B.take j).length = 0 := by simp; omega
    rw [e1, show B.length - j = (B.length - (j + 1)) + 1 by omega, List.replicate_succ, List.set_cons_zero, List.take_succ_eq_append_getElem hj, List.append_assoc]
    rfl
  by_cases hz : B[j] = 0
  · refine ⟨ρ.set 8 (some (.int (j : Int))), σ, ?_, ⟨?_, len, keep, ⟨_, rn⟩⟩⟩
    · rw [hz] at sb
      exact (exes_go (s_no (d_cmp (d_sub (d_var q5) (d_var q8) sb) d_int rfl))).trans rfl
    · have e2 : ∀ k, km B k (j + 1) = km B k j := fun k => by simp only [km, gd, hz, ne_eq, not_true_eq_false, false_and, if_false]
      have e3 : ∀ k, sm B k (j + 1) = sm B k j := fun k => by simp only [sm, gd, hz, ne_eq, not_true_eq_false, false_and, if_false]
      have e4 : (B.take j ++ List.replicate (B.length - j) 0).set j B[j] = B.take j ++ List.replicate (B.length - j) 0 := by
        rw [hz, List.set_append, if_neg (by simp; omega)]
        have e1 : j - (B.take j).length = 0 := by simp; omega
        rw [e1, show B.length - j = (B.length - (j + 1)) + 1 by omega, List.replicate_succ, List.set_cons_zero]
      rw [tk1, e4]
      simp only [e2, e3]
      exact w
  · have hk : ∃ k t, k < 7 ∧ t < 2 ∧ B[j] &&& 7 = k ∧ B[j] / 8 = t ∧ B[j] < 15 := by
      have : B[j] ∈ ([0, 1, 2, 3, 4, 5, 6, 9, 10, 11, 12, 13, 14] : List Nat) := men
      simp only [List.mem_cons, List.not_mem_nil, or_false] at this
      refine ⟨B[j] &&& 7, B[j] / 8, ?_, ?_, rfl, rfl, ?_⟩ <;> (rcases this with h | h | h | h | h | h | h | h | h | h | h | h | h <;> rw [h] <;> decide)
    obtain ⟨k, t, hk7, ht2, hk, ht, h15⟩ := hk
    obtain ⟨σ', run, w', len', keep'⟩ := put_ok (pc := B[j]) (s := j) w F (attr_of (fun o e => by rw [keep _ zz.1]; exact e) z1) hk ht (sub_of (fun o e => by rw [keep _ zz.2.1]; exact e) (z2 _ h15))
      (sub_of (fun o e => by rw [keep _ zz.2.2]; exact e) (z3 _ hj)) zz (by simp; omega) (by omega) (by simp; omega) (by simp; omega) (by exact Nat.le_trans (by assumption) (by decide)) (by exact Nat.le_trans (by assumption) (by decide))
    refine ⟨ρ.set 8 (some (.int (j : Int))), σ', ?_, ⟨?_, by rw [len', len], fun i hi => by rw [keep' i hi, keep i hi], ⟨_, rn⟩⟩⟩
    · have f29 : Fs9[29]? = some F_put_piece := rfl
      have hne : ((B[j] : Int) != 0) = true := by simp; omega
      have sb' := d_sub (Fs := Fs9) (d_var q5) (d_var q8) sb
      exact (exes_go (s_yes (d_isb (d_cmp sb' d_int rfl) hne) ((exes_go (s_expr (d_call (l_cons (d_var q7) (l_cons sb' (l_cons (d_var q8) l_nil))) f29 run))).trans rfl))).trans rfl
    · have e2 : (List.range 7).map (fun k' => km B k' (j + 1)) = ((List.range 7).map fun k => km B k j).set k (((List.range 7).map fun k => km B k j)[k]'(by simp; omega) ||| 2 ^ j) := by
        apply List.ext_getElem
        · simp
        · intro i h1 h2
          rw [List.getElem_map, List.getElem_set]
          simp only [List.getElem_range, List.getElem_map, km, gd]
          by_cases e : k = i
          · subst e; simp [hz, hk]
          · rw [if_neg e, if_neg (fun q => e (hk ▸ q.2))]
      have e3 : [sm B 0 (j + 1), sm B 1 (j + 1)] = [sm B 0 j, sm B 1 j].set t ([sm B 0 j, sm B 1 j][t]'(by simp; omega) ||| 2 ^ j) := by
        have : t = 0 ∨ t = 1 := by omega
        rcases this with rfl | rfl <;> simp [sm, gd, hz, ht]
      rw [tk1, e2, e3]
      exact w'
end Mine
namespace Mine
open PySem.Builtin PyProof.Rows

/-! ## The barrel -/
noncomputable def D (k : Nat) (σ : AH) : Prop := ∃ (L : List Int) (spot : Nat), σ[10]? = some (true, .lst [.ref 9, .int (spot : Int)]) ∧ σ[9]? = some (true, .lst (L.map AV.int)) ∧ spot ≤ k ∧ L.length ≤ 40
/-- the barrel alone has changed -/
noncomputable def Kq (σ σ' : AH) : Prop := σ'.length = σ.length ∧ ∀ i, i ≠ 10 → σ'[i]? = σ[i]?
theorem Kq.kp {σ σ' : AH} (h : Kq σ σ') : Kp σ σ' := fun i o hi e => by rw [h.2 i hi]; exact e
theorem Kq.trans {a b c : AH} (x : Kq a b) (y : Kq b c) : Kq a c := ⟨y.1.trans x.1, fun i h => (y.2 i h).trans (x.2 i h)⟩
theorem Kq.refl (a : AH) : Kq a a := ⟨rfl, fun _ _ => rfl⟩
theorem D.grow {k : Nat} {σ t : AH} (h : D k σ) : D k (σ ++ t) := by
  obtain ⟨L, s, h1, h2, h3⟩ := h
  exact ⟨L, s, by rw [List.getElem?_append_left (List.getElem?_eq_some_iff.mp h1).1]; exact h1, by rw [List.getElem?_append_left (List.getElem?_eq_some_iff.mp h2).1]; exact h2, h3⟩
theorem mod_nat (x : Int) {m : Nat} (hm : 0 < m) : ∃ v : Nat, Int.fmod x m = (v : Int) ∧ v < m := by
  have h1 := Int.fmod_nonneg_of_pos x (show (0 : Int) < m by omega)
  have h2 := Int.fmod_lt_of_pos x (show (0 : Int) < m by omega)
  exact ⟨(Int.fmod x m).toNat, by omega, by omega⟩

theorem dip_ok {k : Nat} {σ : AH} (h : D k σ) (hk : k ≤ 1000) {m : Nat} (hm : 0 < m) : ∃ (v : Nat) (σ' : AH), F__law_dip [.ref 10, .int (m : Int)] σ = some (.int (v : Int), σ') ∧ v < m ∧ D (k + 1) σ' ∧ Kq σ σ' := by
  obtain ⟨L, s, h1, h2, h3, h4⟩ := h
  let σ' := σ.set 10 (true, .lst [.ref 9, .int ((s : Int) + 1)])
  have l10 := (List.getElem?_eq_some_iff.mp h1).1
  have g10 : σ'[10]? = some (true, .lst [.ref 9, .int ((s : Int) + 1)]) := List.getElem?_set_self l10
  have g9 : σ'[9]? = some (true, .lst (L.map AV.int)) := by rw [List.getElem?_set_ne (by decide)]; exact h2
  have kq : Kq σ σ' := ⟨List.length_set .., fun i hi => List.getElem?_set_ne (Ne.symm hi)⟩
  have dd : D (k + 1) σ' := ⟨L, s + 1, g10, g9, by exact Nat.lt_succ_of_le (by assumption), h4⟩
  let ρ : Rho := [some (.ref 10), some (.int m), some (.int s)]
  have st1 : exe Fs0 (.asg 2 (.sub (.var 0) (.int 1))) [some (.ref 10), some (.int m), none] σ = some (.next, ρ, σ) := by
    have a1 := sub_at (s := 1) (v := .int s) h1 rfl (by decide)
    have a1 : subV (.ref 10) (.int 1) σ = some (.int s) := a1
    exact s_asg (d_sub (d_var rfl) d_int (by first | assumption | exact rfl))
  have st2 : exe Fs0 (.setI (.var 0) (.int 1) (.bin .add (.var 2) (.int 1))) ρ σ = some (.next, ρ, σ') := by
    have a1 : setItemH (.ref 10) (.int 1) (.int ((s : Int) + 1)) σ = some σ' := setItem_at (s := 1) h1 (by simp) (by decide)
    exact s_setI (d_bin (d_var rfl) d_int (by first | assumption | exact rfl)) (d_var rfl) d_int (by first | assumption | exact rfl)
  have a0 : subV (.ref 10) (.int 0) σ' = some (.ref 9) := sub_at (s := 0) g10 rfl (by decide)
  have sq : seqOf (.ref 9) σ' = some (L.map AV.int) := by unfold seqOf; simp only [g9]
  have tst : den Fs0 (.cmp .lt (.var 2) (.len (.sub (.var 0) (.int 0)))) ρ σ' = some (.bool (decide ((s : Int) < L.length)), σ') := by
    have ln : (L.map AV.int).length = L.length := List.length_map ..
    have dl := d_len (Fs := Fs0) (ρ := ρ) (e := .sub (.var 0) (.int 0)) (d_sub (d_var rfl) d_int a0) sq (ln ▸ Nat.le_trans h4 (by decide))
    rw [ln] at dl
    exact d_cmp (d_var rfl) dl rfl
  by_cases hs : s < L.length
  · obtain ⟨v, e1, e2⟩ := mod_nat L[s] hm
    refine ⟨v, σ', fun_ret (ρ' := ρ) rfl ((exes_go st1).trans ((exes_go st2).trans (exes_ret ?_))), e2, dd, kq⟩
    have a2 : subV (.ref 9) (.int s) σ' = some (.int L[s]) := sub_at g9 (by simp [hs]) (by omega)
    have a3 : binV .mod L[s] m = some (v : Int) := by
      simp only [binV]
      rw [if_pos (by omega), e1]
    exact s_yretd tst (Int.ofNat_lt.mpr hs) (d_bin (d_sub (d_sub (d_var rfl) d_int a0) (d_var rfl) a2) (d_var rfl) a3)
  · obtain ⟨v, e1, e2⟩ := mod_nat (9 * s + Int.fdiv s 4 + 1) hm
    have st3 : exe Fs0 (.ite (.cmp .lt (.var 2) (.len (.sub (.var 0) (.int 0)))) (.cons (.ret (.bin .mod (.sub (.sub (.var 0) (.int 0)) (.var 2)) (.var 1))) .nil) .nil) ρ σ' = some (.next, ρ, σ') := s_nod tst fun q => hs (Int.ofNat_lt.mp q)
    refine ⟨v, σ', fun_ret (ρ' := ρ) rfl ((exes_go st1).trans ((exes_go st2).trans ((exes_go st3).trans (exes_ret ?_)))), e2, dd, kq⟩
    have b1 : binV .mul 9 s = some (9 * (s : Int)) := by
      simp only [binV]
      rw [if_pos (by simp only [Bool.and_eq_true, smallB_iff]; omega)]
    have b2 : binV .fdiv s 4 = some (Int.fdiv s 4) := by
      simp only [binV]
      rw [if_pos (by simp only [Bool.and_eq_true, decide_eq_true_eq, smallB_iff]; omega)]
    have b3 : binV .mod (9 * (s : Int) + Int.fdiv s 4 + 1) m = some (v : Int) := by
      simp only [binV]
      rw [if_pos (by omega), e1]
    exact s_ret (d_bin (d_bin (d_bin (d_bin d_int (d_var rfl) b1) (d_bin (d_var rfl) d_int b2) rfl) d_int rfl) (d_var rfl) b3)
end Mine
namespace Mine
open PySem.Builtin PyProof.Rows

/-! ## What a man reaches -/
noncomputable def pr (a b : Int) : Bool × AO := (false, .tup [.int a, .int b])
noncomputable def stepsT (n : Nat) : AH :=
  kmoves.map (fun p => pr p.1 p.2) ++ [(false, .tup [.ref n, .ref (n + 1), .ref (n + 2), .ref (n + 3), .ref (n + 4), .ref (n + 5), .ref (n + 6), .ref (n + 7)])] ++
  slant.map (fun p => pr p.1 p.2) ++ [(false, .tup [.ref (n + 9), .ref (n + 10), .ref (n + 11), .ref (n + 12)])] ++
  straight.map (fun p => pr p.1 p.2) ++ [(false, .tup [.ref (n + 14), .ref (n + 15), .ref (n + 16), .ref (n + 17)])] ++ [(false, .dic [(2, .ref (n + 8)), (3, .ref (n + 13)), (4, .ref (n + 18))])]
theorem tup2 (Fs : List Fun) {a b : IE} {x y : Int} {ρ : Rho} {σ : AH} (ha : ∀ σ, den Fs a ρ σ = some (.int x, σ)) (hb : ∀ σ, den Fs b ρ σ = some (.int y, σ)) : den Fs (.tup (.cons a (.cons b .nil))) ρ σ = some (.ref σ.length, σ ++ [pr x y]) := by
  exact d_tup (l_cons (ha σ) (l_cons (hb σ) l_nil)) rfl
noncomputable def ieI : Int → IE
  | .ofNat n => .int (.ofNat n)
  | .negSucc n => .una .neg (.int (.ofNat (n + 1)))
noncomputable def tupsE : List (Int × Int) → IEs
  | [] => .nil
  | w :: ws => .cons (.tup (.cons (ieI w.1) (.cons (ieI w.2) .nil))) (tupsE ws)
noncomputable def prL (ws : List (Int × Int)) : AH := ws.map fun p => pr p.1 p.2
noncomputable def refsF (n : Nat) : List (Int × Int) → List AV
  | [] => []
  | _ :: ws => .ref n :: refsF (n + 1) ws
theorem ieI_ok {Fs : List Fun} {ρ : Rho} (i : Int) (σ : AH) : den Fs (ieI i) ρ σ = some (.int i, σ) := by cases i <;> rfl
theorem tups_ok {Fs : List Fun} {ρ : Rho} : ∀ (ws : List (Int × Int)) (σ : AH), denL Fs (tupsE ws) ρ σ = some (refsF σ.length ws, σ ++ prL ws)
  | [], σ => by rw [show prL [] = [] from rfl, List.append_nil]; rfl
  | w :: ws, σ => by
    have h := tups_ok (Fs := Fs) (ρ := ρ) ws (σ ++ [pr w.1 w.2])
    rw [List.length_append, List.append_assoc] at h
    exact l_cons (tup2 Fs (ieI_ok w.1) (ieI_ok w.2)) h
theorem prL_len (ws : List (Int × Int)) : (prL ws).length = ws.length := List.length_map ..
theorem steps_ok (σ : AH) : F__law_steps [] σ = some (.ref (σ.length + 19), σ ++ stepsT σ.length) := by
  have d1 := d_tup (tups_ok (Fs := Fs0) (ρ := []) kmoves σ) rfl
  have d2 := d_tup (tups_ok (Fs := Fs0) (ρ := []) slant ((σ ++ prL kmoves) ++ [(false, AO.tup (refsF σ.length kmoves))])) rfl
  have d3 := d_tup (tups_ok (Fs := Fs0) (ρ := []) straight ((((σ ++ prL kmoves) ++ [(false, AO.tup (refsF σ.length kmoves))]) ++ prL slant) ++ [(false, AO.tup (refsF ((σ ++ prL kmoves) ++ [(false, AO.tup (refsF σ.length kmoves))]).length slant))])) rfl
  have dl := l_cons d1 (l_cons d2 (l_cons d3 l_nil))
  simp only [List.length_append, prL_len, List.length_singleton, List.append_assoc] at dl
  have e : ∀ n : Nat, stepsT n = prL kmoves ++ ([(false, AO.tup (refsF n kmoves))] ++ (prL slant ++ ([(false, AO.tup (refsF (n + 9) slant))] ++ (prL straight ++ ([(false, AO.tup (refsF (n + 14) straight))] ++ [(false, .dic [(2, .ref (n + 8)), (3, .ref (n + 13)), (4, .ref (n + 18))])]))))) := fun _ => rfl
  have r := d_dic (ks := [2, 3, 4]) dl rfl
  simp only [List.length_append, prL_len, List.length_singleton, List.append_assoc] at r
  rw [e]
  exact fun_ret (Fs := Fs0) (np := 0) (ns := 0) (body := B__law_steps) (ρ' := []) rfl (exes_ret (s_ret r))
end Mine
namespace Mine
open PySem.Builtin PyProof.Rows

/-- all but one list is as it was -/
noncomputable def Kf (f : Nat) (σ σ' : AH) : Prop := ∀ i o, i ≠ f → σ[i]? = some o → σ'[i]? = some o
theorem Kf.trans {f : Nat} {a b c : AH} (x : Kf f a b) (y : Kf f b c) : Kf f a c := fun i o h e => y i o h (x i o h e)
theorem Kf.refl (f : Nat) (a : AH) : Kf f a a := fun _ _ _ e => e
theorem Kf.app (f : Nat) (σ t : AH) : Kf f σ (σ ++ t) := fun i o _ e => by rw [List.getElem?_append_left (List.getElem?_eq_some_iff.mp e).1]; exact e

theorem has_n (l : List Nat) (g : Nat) : (l.map fun (n : Nat) => (n : Int)).contains (g : Int) = decide (g ∈ l) := by
  rw [Bool.eq_iff_iff, List.contains_iff_mem, List.mem_map, decide_eq_true_eq]
  exact ⟨fun ⟨a, h, e⟩ => by rw [← Int.ofNat_inj.mp e]; exact h, fun h => ⟨g, h, rfl⟩⟩
noncomputable def leapK (k : Nat) : Bool := k == 1 || k == 2 || k == 6
structure RW_ (ρ : Rho) (c r k x y fnd : Nat) (dx dy : Int) (far : Int) : Prop where
  len : ρ.length = 15
  r0 : ρ[0]? = some (some (.int c))
  r1 : ρ[1]? = some (some (.ref 11))
  r3 : ρ[3]? = some (some (.int k))
  r5 : ρ[5]? = some (some (.int x))
  r6 : ρ[6]? = some (some (.int y))
  r7 : ρ[7]? = some (some (.int r))
  r10 : ρ[10]? = some (some (.ref fnd))
  r11 : ρ[11]? = some (some (.int dx))
  r12 : ρ[12]? = some (some (.int dy))
  r13 : ρ[13]? = some (some (.int far))

noncomputable def tstW : IE := .bop false (.cons (.cmp2 .le .lt (.int 0) (.bin .add (.var 5) (.bin .mul (.var 13) (.var 11))) (.var 0)) (.cons (.cmp2 .le .lt (.int 0) (.bin .add (.var 6) (.bin .mul (.var 13) (.var 12))) (.var 7)) .nil))
noncomputable def bodW : ISs := .cons (.asg 14 (.bin .add (.bin .add (.bin .mul (.bin .add (.var 6) (.bin .mul (.var 13) (.var 12))) (.var 0)) (.var 5)) (.bin .mul (.var 13) (.var 11)))) (.cons (.expr (.append (.var 10) (.var 14))) (.cons (.ite (.bop true (.cons (.cmp .ne (.sub (.var 1) (.var 14)) (.int 0)) (.cons (.isIn false (.var 3) (.tup (.cons (.int 1) (.cons (.int 2) (.cons (.int 6) .nil))))) .nil))) (.cons .brk .nil) .nil) (.cons (.asg 13 (.bin .add (.var 13) (.int 1))) .nil)))

theorem mul_ok {a b : Int} (h1 : -1000 < a) (h2 : a < 1000) (h3 : -1000 < b) (h4 : b < 1000) : binV .mul a b = some (a * b) := by
  simp only [binV]
  rw [if_pos (by simp only [Bool.and_eq_true, smallB_iff]; omega)]
theorem add_ok {a b : Int} : binV .add a b = some (a + b) := rfl

theorem tst_ok {Fs : List Fun} {ρ : Rho} {c r k x y fnd far : Nat} {dx dy : Int} (R : RW_ ρ c r k x y fnd dx dy far) (hf : far < 100) (h1 : -3 < dx ∧ dx < 3) (h2 : -3 < dy ∧ dy < 3) (σ : AH) :
    den Fs tstW ρ σ = some (.bool (inb c r (x + far * dx) (y + far * dy)), σ) := by
  have m1 : binV .mul far dx = some (far * dx) := mul_ok (by exact Int.natCast_nonneg _) (by omega) (by omega) (by omega)
  have m2 : binV .mul far dy = some (far * dy) := mul_ok (by exact Int.natCast_nonneg _) (by omega) (by omega) (by omega)
  exact d_bop (b_and (d_cmp2 d_int (d_bin (d_var R.r5) (d_bin (d_var R.r13) (d_var R.r11) m1) rfl) rfl (d_var R.r0) rfl) (b_one (d_cmp2 d_int (d_bin (d_var R.r6) (d_bin (d_var R.r13) (d_var R.r12) m2) rfl) rfl (d_var R.r7) rfl)))

theorem while_way {mb : Bool} {Fs : List Fun} {c r k x y fnd : Nat} {dx dy : Int} {B : List Nat} (hB : B.length = c * r) (hc : c ≤ 4) (hr : r ≤ 4) (hfn : fnd ≠ 11) (h1 : -3 < dx ∧ dx < 3) (h2 : -3 < dy ∧ dy < 3) (hx : x < 4) (hy : y < 4) :
    ∀ (f far : Nat) (ρ : Rho) (σ : AH) (acc : List Nat) (m : Nat), RW_ ρ c r k x y fnd dx dy far → far + f ≤ 6 → inb c r (x + (far + f : Nat) * dx) (y + (far + f : Nat) * dy) = false → σ[11]? = some (mb, .lst (natsV B)) → σ[fnd]? = some (true, .lst (natsV acc)) → acc.length + f ≤ 1000 → f < m →
      ∃ ρ' σ', whileF (den Fs tstW) (exes Fs bodW) m ρ σ = some (.next, ρ', σ') ∧ (∀ i, i < 13 → ρ'[i]? = ρ[i]?) ∧ ρ'.length = 15 ∧ Kf fnd σ σ' ∧ σ'[fnd]? = some (true, .lst (natsV (acc ++ tk (fun s => sq B s != 0) (leapK k) (way c r x y dx dy f far)))) := by
  intro f
  induction f with
  | zero =>
    intro far ρ σ acc m R hff hend hb hfd hl hm
    obtain ⟨m, rfl⟩ : ∃ m', m = m' + 1 := ⟨m - 1, by omega⟩
    refine ⟨ρ, σ, ?_, fun _ _ => rfl, R.len, Kf.refl fnd σ, ?_⟩
    · rw [Nat.add_zero] at hend
      exact w_stop (d_isb (tst_ok R (by exact Nat.lt_of_le_of_lt (by assumption) (by decide)) h1 h2 σ) hend)
    · simp [way, tk, hfd]
  | succ f ih =>
    intro far ρ σ acc m R hff hend hb hfd hl hm
    obtain ⟨m, rfl⟩ : ∃ m', m = m' + 1 := ⟨m - 1, by omega⟩
    cases hin : inb c r (x + far * dx) (y + far * dy) with
    | false =>
      refine ⟨ρ, σ, ?_, fun _ _ => rfl, R.len, Kf.refl fnd σ, ?_⟩
      · exact w_stop (d_isb (tst_ok R (by omega) h1 h2 σ) hin)
      · simp [way, tk, hin, hfd]
    | true =>
      have hin' := hin
      unfold inb at hin'
      simp only [Bool.and_eq_true, decide_eq_true_eq] at hin'
      obtain ⟨⟨i1, i2⟩, i3, i4⟩ := hin'
      have m1 : binV .mul far dx = some (far * dx) := mul_ok (by exact Int.natCast_nonneg _) (by omega) (by omega) (by omega)
      have m2 : binV .mul far dy = some (far * dy) := mul_ok (by exact Int.natCast_nonneg _) (by omega) (by omega) (by omega)
      have m3 : binV .mul (y + far * dy) c = some ((y + far * dy) * c) := mul_ok (by omega) (by omega) (by exact Int.natCast_nonneg _) (by omega)
      obtain ⟨a, ha⟩ := Int.eq_ofNat_of_zero_le i1
      obtain ⟨b, hb'⟩ := Int.eq_ofNat_of_zero_le i3
      have hg : ((y + far * dy) * c + x + far * dx : Int) = ((b * c + a : Nat) : Int) := by
        rw [Int.add_assoc, ha, hb']; simp
      have ga : a < c := by rw [ha] at i2; exact Int.ofNat_lt.mp i2
      have gb : b < r := by rw [hb'] at i4; exact Int.ofNat_lt.mp i4
      have gl : b * c + a < B.length := by
        rw [hB]
        calc b * c + a < b * c + c := by omega
          _ = (b + 1) * c := by rw [Nat.succ_mul]
          _ ≤ r * c := Nat.mul_le_mul_right c gb
          _ = c * r := Nat.mul_comm ..
      have g100 : b * c + a < 1000 := by
        have : c * r ≤ 16 := Nat.mul_le_mul hc hr
        omega
      generalize hgg : b * c + a = g at hg gl g100
      -- the heap behind the append
      let σ1 := σ.set fnd (true, .lst (natsV acc ++ [.int (g : Int)]))
      have lf := (List.getElem?_eq_some_iff.mp hfd).1
      have f1 : σ1[fnd]? = some (true, .lst (natsV (acc ++ [g]))) := by
        show (σ.set fnd _)[fnd]? = _
        rw [List.getElem?_set_self lf]; simp [natsV]
      have k1 : Kf fnd σ σ1 := fun i o hi e => by
        show (σ.set fnd _)[i]? = _
        rw [List.getElem?_set_ne (Ne.symm hi)]; exact e
      have b1 := k1 11 _ (Ne.symm hfn) hb
      let ρ1 := ρ.set 14 (some (.int (g : Int)))
      have hr1 : ∀ i, i < 14 → ρ1[i]? = ρ[i]? := fun i hi => List.getElem?_set_ne (by exact Nat.ne_of_gt (by assumption))
      have r14 : ρ1[14]? = some (some (.int (g : Int))) := List.getElem?_set_self (by rw [R.len]; decide)
      have st1 : exe Fs (.asg 14 (.bin .add (.bin .add (.bin .mul (.bin .add (.var 6) (.bin .mul (.var 13) (.var 12))) (.var 0)) (.var 5)) (.bin .mul (.var 13) (.var 11)))) ρ σ = some (.next, ρ1, σ) := by
        exact s_asg (d_bin (d_bin (d_bin (d_bin (d_var R.r6) (d_bin (d_var R.r13) (d_var R.r12) m2) rfl) (d_var R.r0) m3) (d_var R.r5) rfl) (d_bin (d_var R.r13) (d_var R.r11) m1) (congrArg some hg))
      have st2 : exe Fs (.expr (.append (.var 10) (.var 14))) ρ1 σ = some (.next, ρ1, σ1) := by
        exact s_expr (d_append (d_var ((hr1 10 (by decide)).trans R.r10)) hfd (d_var r14) (by rw [natsV, List.length_map]; exact Nat.le_trans (Nat.le_trans (Nat.le_add_right ..) hl) (by decide)))
      have sb : subV (.ref 11) (.int (g : Int)) σ1 = some (.int ((B[g] : Nat) : Int)) := sub_at b1 (by simp [natsV, gl]) (by exact Nat.le_trans (Nat.le_of_lt (by assumption)) (by decide))
      have sqe : sq B g = B[g] := by simp [sq, List.getD, gl]
      have wy : way c r x y dx dy (f + 1) far = g :: way c r x y dx dy f (far + 1) := by
        simp only [way, hin, if_true]
        rw [hg]; rfl
      rw [wy]
      by_cases hz : B[g] = 0
      · -- an empty square
        have tin : seqOf (.ref σ1.length) (σ1 ++ [(false, AO.tup [.int 1, .int 2, .int 6])]) = some [.int 1, .int 2, .int 6] := by
          unfold seqOf; simp
        have c0 : ((B[g] : Int) != 0) = false := by rw [hz]; rfl
        have tv : den Fs (.bop true (.cons (.cmp .ne (.sub (.var 1) (.var 14)) (.int 0)) (.cons (.isIn false (.var 3) (.tup (.cons (.int 1) (.cons (.int 2) (.cons (.int 6) .nil))))) .nil))) ρ1 σ1 =
            some (.bool (leapK k), σ1 ++ [(false, AO.tup [.int 1, .int 2, .int 6])]) := by
          have e3 : [1, 2, 6].contains (k : Int) = leapK k := by
            have h := has_n [1, 2, 6] k
            refine h.trans ?_
            unfold leapK
            rw [Bool.eq_iff_iff]
            simp [or_assoc]
          have d2 : den Fs (.isIn false (.var 3) (.tup (.cons (.int 1) (.cons (.int 2) (.cons (.int 6) .nil))))) ρ1 σ1 = some (.bool (leapK k), σ1 ++ [(false, AO.tup [.int 1, .int 2, .int 6])]) :=
            d_isb (d_in (d_var ((hr1 3 (by decide)).trans R.r3)) (d_tup (l_cons d_int (l_cons d_int (l_cons d_int l_nil))) rfl) tin rfl) e3
          exact d_bop (b_go (d_cmp (d_sub (d_var ((hr1 1 (by decide)).trans R.r1)) (d_var r14) sb) d_int rfl) c0 (b_one d2))
        cases hlp : leapK k with
        | true =>
          refine ⟨ρ1, σ1 ++ [(false, AO.tup [.int 1, .int 2, .int 6])], ?_, fun i hi => hr1 i (by exact Nat.le_trans (by assumption) (by decide)), by simp [ρ1, R.len], k1.trans (Kf.app fnd σ1 _), ?_⟩
          · have run : exes Fs bodW ρ σ = some (.brk, ρ1, σ1 ++ [(false, AO.tup [.int 1, .int 2, .int 6])]) := by
              refine (exes_go st1).trans ((exes_go st2).trans ?_)
              exact exes_brk (s_break (d_isb tv hlp))
            exact w_brk (d_isb (tst_ok R (by omega) h1 h2 σ) hin) run
          · rw [List.getElem?_append_left (by simp [σ1]; exact lf), f1]
            simp [tk]
        | false =>
          let ρ2 := ρ1.set 13 (some (.int ((far : Int) + 1)))
          have run : exes Fs bodW ρ σ = some (.next, ρ2, σ1 ++ [(false, AO.tup [.int 1, .int 2, .int 6])]) := by
            have st3 : exe Fs (.ite (.bop true (.cons (.cmp .ne (.sub (.var 1) (.var 14)) (.int 0)) (.cons (.isIn false (.var 3) (.tup (.cons (.int 1) (.cons (.int 2) (.cons (.int 6) .nil))))) .nil))) (.cons .brk .nil) .nil) ρ1 σ1 = some (.next, ρ1, σ1 ++ [(false, AO.tup [.int 1, .int 2, .int 6])]) := by
              exact s_no (d_isb tv hlp)
            refine (exes_go st1).trans ((exes_go st2).trans ((exes_go st3).trans ?_))
            exact (exes_go (s_asg (d_bin (d_var ((hr1 13 (by decide)).trans R.r13)) d_int rfl))).trans rfl
          have hr2 : ∀ i, i < 13 → ρ2[i]? = ρ[i]? := fun i hi => by
            show (ρ1.set 13 _)[i]? = _
            rw [List.getElem?_set_ne (by exact Nat.ne_of_gt (by assumption)), hr1 i (by exact Nat.le_trans (by assumption) (by decide))]
          have R2 : RW_ ρ2 c r k x y fnd dx dy ((far + 1 : Nat) : Int) := ⟨by simp [ρ2, ρ1, R.len], by rw [hr2 0 (by decide)]; exact R.r0, by rw [hr2 1 (by decide)]; exact R.r1, by rw [hr2 3 (by decide)]; exact R.r3, by rw [hr2 5 (by decide)]; exact R.r5,
            by rw [hr2 6 (by decide)]; exact R.r6, by rw [hr2 7 (by decide)]; exact R.r7, by rw [hr2 10 (by decide)]; exact R.r10, by rw [hr2 11 (by decide)]; exact R.r11, by rw [hr2 12 (by decide)]; exact R.r12,
            List.getElem?_set_self (by simp [ρ1, R.len])⟩
          have kk := k1.trans (Kf.app fnd σ1 [(false, AO.tup [.int 1, .int 2, .int 6])])
          obtain ⟨ρ', σ', w1, w2, w3, w4, w5⟩ := ih (far + 1) ρ2 (σ1 ++ [(false, AO.tup [.int 1, .int 2, .int 6])]) (acc ++ [g]) m R2 (by omega) (by rw [show far + 1 + f = far + (f + 1) by omega]; exact hend)
            (kk 11 _ (Ne.symm hfn) hb) (by rw [List.getElem?_append_left (by simp [σ1]; exact lf)]; exact f1) (by simp; omega) (by exact Nat.le_of_lt_succ (by assumption))
          refine ⟨ρ', σ', ?_, fun i hi => (w2 i hi).trans (hr2 i hi), w3, kk.trans w4, ?_⟩
          · exact (w_go (d_isb (tst_ok R (by omega) h1 h2 σ) hin) run).trans w1
          · rw [w5, hlp]
            simp [tk, sqe, hz]
      · -- a man stands there
        have c1 : ((B[g] : Int) != 0) = true := by simp; omega
        have tv : den Fs (.bop true (.cons (.cmp .ne (.sub (.var 1) (.var 14)) (.int 0)) (.cons (.isIn false (.var 3) (.tup (.cons (.int 1) (.cons (.int 2) (.cons (.int 6) .nil))))) .nil))) ρ1 σ1 = some (.bool true, σ1) := by
          exact d_bop (b_stop (d_cmp (d_sub (d_var ((hr1 1 (by decide)).trans R.r1)) (d_var r14) sb) d_int rfl) c1)
        refine ⟨ρ1, σ1, ?_, fun i hi => hr1 i (by exact Nat.le_trans (by assumption) (by decide)), by simp [ρ1, R.len], k1, ?_⟩
        · have run : exes Fs bodW ρ σ = some (.brk, ρ1, σ1) := by
            refine (exes_go st1).trans ((exes_go st2).trans ?_)
            exact exes_brk (s_break tv)
          exact w_brk (d_isb (tst_ok R (by omega) h1 h2 σ) hin) run
        · rw [f1]
          simp [tk, sqe, hz]
end Mine
namespace Mine
open PySem.Builtin PyProof.Rows

/-- the ways of a man -/
noncomputable def waysOf (k t : Nat) : List (Int × Int) := if k = 1 then pways t else if k = 2 then kmoves else if k = 3 then slant else if k = 4 then straight else slant ++ straight
noncomputable def reachedL (c r : Nat) (B : List Nat) (o : Nat) : List Nat := (waysOf (sq B o % 8) (if sq B o > 8 then 1 else 0)).flatMap fun w => tk (fun s => sq B s != 0) (leapK (sq B o % 8)) (wayL c r o w)

/-- a tuple of pairs, told -/
noncomputable def WaysAt (σ : AH) (w : Nat) (ws : List (Int × Int)) : Prop := ∃ ids : List Nat, σ[w]? = some (false, .tup (ids.map AV.ref)) ∧ ids.length = ws.length ∧ ∀ (i id : Nat) (p : Int × Int), ids[i]? = some id → ws[i]? = some p → σ[id]? = some (pr p.1 p.2)
theorem WaysAt.kf {f : Nat} {σ σ' : AH} {w : Nat} {ws : List (Int × Int)} (hf : σ.length ≤ f) (h : WaysAt σ w ws) (K : Kf f σ σ') : WaysAt σ' w ws := by
  obtain ⟨ids, h1, h2, h3⟩ := h
  have ne : ∀ {i o}, σ[i]? = some o → i ≠ f := fun e => by have := (List.getElem?_eq_some_iff.mp e).1; omega
  exact ⟨ids, K _ _ (ne h1) h1, h2, fun i id p a b => K _ _ (ne (h3 i id p a b)) (h3 i id p a b)⟩

theorem way_end {c r x y : Nat} (hc : c ≤ 4) (hr : r ≤ 4) {dx dy : Int} (h1 : -3 < dx ∧ dx < 3) (h2 : -3 < dy ∧ dy < 3) (hx : x < 4) (hy : y < 4) (hne : dx ≠ 0 ∨ dy ≠ 0) : inb c r (x + (1 + 5 : Nat) * dx) (y + (1 + 5 : Nat) * dy) = false := by
  rw [Bool.eq_false_iff]
  intro h
  unfold inb at h
  simp only [Bool.and_eq_true, decide_eq_true_eq] at h
  rcases hne with h' | h'
  · obtain ⟨⟨a, b⟩, _⟩ := h
    clear h1 h2
    omega
  · obtain ⟨_, a, b⟩ := h
    clear h1 h2
    omega

structure RX (ρ : Rho) (c r k x y fnd : Nat) : Prop where
  len : ρ.length = 15
  r0 : ρ[0]? = some (some (.int c))
  r1 : ρ[1]? = some (some (.ref 11))
  r3 : ρ[3]? = some (some (.int k))
  r5 : ρ[5]? = some (some (.int x))
  r6 : ρ[6]? = some (some (.int y))
  r7 : ρ[7]? = some (some (.int r))
  r10 : ρ[10]? = some (some (.ref fnd))
noncomputable def bodF : ISs := .cons (.asg 13 (.int 1)) (.cons (.while tstW bodW) .nil)

theorem ways_loop {mb : Bool} {Fs : List Fun} {c r k x y fnd wid : Nat} {B : List Nat} {ids : List Nat} {m : Bool} (hB : B.length = c * r) (hc : c ≤ 4) (hr : r ≤ 4) (hfn : fnd ≠ 11) (hwf : wid ≠ fnd) (hx : x < 4) (hy : y < 4) :
    ∀ (l : List Nat) (ws : List (Int × Int)) (ρ : Rho) (σ : AH) (acc : List Nat), RX ρ c r k x y fnd → l.length = ws.length → (∀ (i id : Nat) (p : Int × Int), l[i]? = some id → ws[i]? = some p → σ[id]? = some (pr p.1 p.2) ∧ id ≠ fnd) →
      (∀ p ∈ ws, (-3 < p.1 ∧ p.1 < 3) ∧ (-3 < p.2 ∧ p.2 < 3) ∧ (p.1 ≠ 0 ∨ p.2 ≠ 0)) → σ[wid]? = some (m, .tup (ids.map AV.ref)) → σ[11]? = some (mb, .lst (natsV B)) → σ[fnd]? = some (true, .lst (natsV acc)) → acc.length + 5 * l.length ≤ 900 →
      ∃ ρ' σ', forF (fun σ => σ[wid]? == some (m, AO.tup (ids.map AV.ref))) (bindT [11, 12] true) (exes Fs bodF) (l.map AV.ref) ρ σ = some (.next, ρ', σ') ∧ (∀ i, i < 11 → ρ'[i]? = ρ[i]?) ∧ Kf fnd σ σ' ∧
        σ'[fnd]? = some (true, .lst (natsV (acc ++ ws.flatMap fun w => tk (fun s => sq B s != 0) (leapK k) (way c r x y w.1 w.2 5 1)))) := by
  intro l
  induction l with
  | nil =>
    intro ws ρ σ acc R hl hp hw hwid hb hfd hacc
    cases ws with
    | cons _ _ => cases hl
    | nil =>
      refine ⟨ρ, σ, ?_, fun _ _ => rfl, Kf.refl fnd σ, by simpa using hfd⟩
      exact forF_end (by rw [hwid]; exact beq_self_eq_true _)
  | cons id l ih =>
    intro ws ρ σ acc R hl hp hw hwid hb hfd hacc
    cases ws with
    | nil => cases hl
    | cons p ws =>
      obtain ⟨dx, dy⟩ := p
      obtain ⟨q1, q2, q3⟩ := hw (dx, dy) (List.mem_cons_self ..)
      obtain ⟨e0, n0⟩ := hp 0 id (dx, dy) rfl rfl
      let ρ1 := (ρ.set 11 (some (.int dx))).set 12 (some (.int dy))
      have bd : bindT [11, 12] true (.ref id) ρ σ = some ρ1 := t_bind e0 rfl
      let ρ2 := ρ1.set 13 (some (.int 1))
      have hr2 : ∀ i, i < 11 → ρ2[i]? = ρ[i]? := fun i hi => by
        show (((ρ.set 11 _).set 12 _).set 13 _)[i]? = _
        rw [List.getElem?_set_ne (by omega), List.getElem?_set_ne (by omega), List.getElem?_set_ne (by exact Nat.ne_of_gt (by assumption))]
      have R2 : RW_ ρ2 c r k x y fnd dx dy ((1 : Nat) : Int) := ⟨by simp [ρ2, ρ1, R.len], by rw [hr2 0 (by decide)]; exact R.r0, by rw [hr2 1 (by decide)]; exact R.r1, by rw [hr2 3 (by decide)]; exact R.r3, by rw [hr2 5 (by decide)]; exact R.r5,
        by rw [hr2 6 (by decide)]; exact R.r6, by rw [hr2 7 (by decide)]; exact R.r7, by rw [hr2 10 (by decide)]; exact R.r10, by
          show (((ρ.set 11 _).set 12 _).set 13 _)[11]? = _
          rw [List.getElem?_set_ne (by decide), List.getElem?_set_ne (by decide), List.getElem?_set_self (by rw [R.len]; decide)], by
          show (((ρ.set 11 _).set 12 _).set 13 _)[12]? = _
          rw [List.getElem?_set_ne (by decide), List.getElem?_set_self (by rw [List.length_set, R.len]; decide)], List.getElem?_set_self (by simp [ρ1, R.len])⟩
      obtain ⟨ρ3, σ3, w1, w2, w3, w4, w5⟩ := while_way (Fs := Fs) hB hc hr hfn q1 q2 hx hy 5 1 ρ2 σ acc 100 R2 (by decide) (way_end hc hr q1 q2 hx hy q3) hb hfd (by simp at hacc; omega) (by decide)
      have run : exes Fs bodF ρ1 σ = some (.next, ρ3, σ3) := by
        have st1 : exe Fs (.asg 13 (.int 1)) ρ1 σ = some (.next, ρ2, σ) := rfl
        have st2 : exe Fs (.while tstW bodW) ρ2 σ = some (.next, ρ3, σ3) := w1
        exact (exes_go st1).trans ((exes_go st2).trans rfl)
      have hr3 : ∀ i, i < 11 → ρ3[i]? = ρ[i]? := fun i hi => (w2 i (by exact Nat.le_trans (by assumption) (by decide))).trans (hr2 i hi)
      have R3 : RX ρ3 c r k x y fnd := ⟨w3, by rw [hr3 0 (by decide)]; exact R.r0, by rw [hr3 1 (by decide)]; exact R.r1, by rw [hr3 3 (by decide)]; exact R.r3, by rw [hr3 5 (by decide)]; exact R.r5,
        by rw [hr3 6 (by decide)]; exact R.r6, by rw [hr3 7 (by decide)]; exact R.r7, by rw [hr3 10 (by decide)]; exact R.r10⟩
      have tkl : ∀ (occ : Nat → Bool) (b : Bool) (L : List Nat), (tk occ b L).length ≤ L.length := fun occ b L => by
        induction L with
        | nil => simp [tk]
        | cons s L ih => simp only [tk, List.length_cons]; split <;> simp; omega
      have wl : ∀ f kk, (way c r x y dx dy f kk).length ≤ f := fun f => by
        induction f with
        | zero => intro kk; simp [way]
        | succ f ih => intro kk; simp only [way]; split <;> simp; exact ih _
      obtain ⟨ρ', σ', v1, v2, v3, v4⟩ := ih ws ρ3 σ3 (acc ++ tk (fun s => sq B s != 0) (leapK k) (way c r x y dx dy 5 1)) R3 (by simpa using hl)
        (fun i id' p' a b => by obtain ⟨u1, u2⟩ := hp (i + 1) id' p' (by simpa using a) (by simpa using b); exact ⟨w4 _ _ u2 u1, u2⟩) (fun p hp' => hw p (List.mem_cons_of_mem _ hp')) (w4 _ _ hwf hwid) (w4 _ _ (Ne.symm hfn) hb) w5
        (by have := tkl (fun s => sq B s != 0) (leapK k) (way c r x y dx dy 5 1); have := wl 5 1; simp at hacc ⊢; omega)
      refine ⟨ρ', σ', ?_, fun i hi => (v2 i hi).trans (hr3 i hi), w4.trans v3, ?_⟩
      · rw [List.map_cons]
        exact (forF_go (by rw [hwid]; exact beq_self_eq_true _) bd run).trans v1
      · rw [v4]; simp
end Mine
namespace Mine
open PySem.Builtin PyProof.Rows

theorem app_at {σ T : AH} {j : Nat} : (σ ++ T)[σ.length + j]? = T[j]? := by
  rw [List.getElem?_append_right (Nat.le_add_right ..), Nat.add_sub_cancel_left]
theorem ways_seg {σ pre rest : AH} {ws : List (Int × Int)} {n : Nat} (hn : n = σ.length + pre.length) (H : AH) (hH : H = σ ++ (pre ++ (ws.map (fun p => pr p.1 p.2) ++ rest))) :
    ∀ (i id : Nat) (p : Int × Int), ((List.range ws.length).map (n + ·))[i]? = some id → ws[i]? = some p → H[id]? = some (pr p.1 p.2) := by
  intro i id p h1 h2
  have hi := (List.getElem?_eq_some_iff.mp h2).1
  rw [List.getElem?_map, List.getElem?_range hi, Option.map_some, Option.some.injEq] at h1
  subst h1 hn hH
  rw [Nat.add_assoc, app_at, List.getElem?_append_right (Nat.le_add_right ..), Nat.add_sub_cancel_left, List.getElem?_append_left (by simpa using hi), List.getElem?_map, h2]
  rfl

/-- the ways that a man who is no pawn is told -/
noncomputable def getE : IE := .get (.call 20 .nil) (.var 3) (.bin .add (.sub (.call 20 .nil) (.int 3)) (.sub (.call 20 .nil) (.int 4)))
theorem steps_ways (σ : AH) (t : AH) : ∀ H, H = σ ++ (stepsT σ.length ++ t) →
    (H[σ.length + 19]? = some (false, .dic [(2, .ref (σ.length + 8)), (3, .ref (σ.length + 13)), (4, .ref (σ.length + 18))])) ∧ WaysAt H (σ.length + 8) kmoves ∧ WaysAt H (σ.length + 13) slant ∧ WaysAt H (σ.length + 18) straight := by
  rintro H rfl
  refine ⟨by rw [app_at]; rfl, ⟨(List.range 8).map (σ.length + ·), by rw [app_at]; rfl, rfl, ?_⟩, ⟨(List.range 4).map (σ.length + 9 + ·), by rw [app_at]; rfl, rfl, ?_⟩, ⟨(List.range 4).map (σ.length + 14 + ·), by rw [app_at]; rfl, rfl, ?_⟩⟩
  · exact ways_seg (σ := σ) (pre := []) (ws := kmoves) rfl _ rfl
  · exact ways_seg (σ := σ) (pre := (stepsT σ.length).take 9) (ws := slant) rfl _ rfl
  · exact ways_seg (σ := σ) (pre := (stepsT σ.length).take 14) (ws := straight) rfl _ rfl
theorem up_ {σ t : AH} {i : Nat} {o : Bool × AO} (h : σ[i]? = some o) : (σ ++ t)[i]? = some o := by
  rw [List.getElem?_append_left (List.getElem?_eq_some_iff.mp h).1]; exact h
theorem WaysAt.app {σ t : AH} {w : Nat} {ws : List (Int × Int)} (h : WaysAt σ w ws) : WaysAt (σ ++ t) w ws := by
  obtain ⟨ids, h1, h2, h3⟩ := h
  exact ⟨ids, up_ h1, h2, fun i id p a b => up_ (h3 i id p a b)⟩
theorem WaysAt.lt {σ : AH} {w : Nat} {ws : List (Int × Int)} (h : WaysAt σ w ws) : w < σ.length := by
  obtain ⟨ids, h1, _⟩ := h
  exact (List.getElem?_eq_some_iff.mp h1).1
theorem get_ok {Fs : List Fun} (h20 : Fs[20]? = some F__law_steps) {ρ : Rho} {k : Nat} (h3 : ρ[3]? = some (some (.int k))) (hk : 2 ≤ k ∧ k ≤ 6) (σ : AH) :
    ∃ w t, den Fs getE ρ σ = some (.ref w, σ ++ t) ∧ WaysAt (σ ++ t) w (waysOf k 0) := by
  let σ1 := σ ++ stepsT σ.length
  let σ2 := σ1 ++ stepsT σ1.length
  let σ3 := σ2 ++ stepsT σ2.length
  have z1 := steps_ways σ [] σ1 (by simp [σ1])
  have z2 := steps_ways σ1 [] σ2 (by simp [σ2])
  have z3 := steps_ways σ2 [] σ3 (by simp [σ3])
  obtain ⟨i2, j2, m2, n2⟩ := z2.2.2.1
  obtain ⟨i3, j3, m3, n3⟩ := z3.2.2.2
  let σ4 := σ3 ++ [(false, AO.tup (i2.map AV.ref ++ i3.map AV.ref))]
  have e1 : isDic (.ref (σ.length + 19)) σ1 = true := by unfold isDic; simp only [z1.1]
  have s1 : subV (.ref (σ1.length + 19)) (.int 3) σ2 = some (.ref (σ1.length + 13)) := by unfold subV; simp only [z2.1]; rfl
  have s2 : subV (.ref (σ2.length + 19)) (.int 4) σ3 = some (.ref (σ2.length + 18)) := by unfold subV; simp only [z3.1]; rfl
  have j2' : σ3[σ1.length + 13]? = some (false, .tup (i2.map AV.ref)) := up_ j2
  have b1 : binH .add (.ref (σ1.length + 13)) (.ref (σ2.length + 18)) σ3 = some (.ref σ3.length, σ4) := by
    have l2 : i2.length = 4 := m2
    have l3 : i3.length = 4 := m3
    unfold binH
    simp only [j2', j3]
    rw [if_pos]
    · rfl
    · cases i2 with
      | nil => cases l2
      | cons a i2 =>
        cases i3 with
        | nil => cases l3
        | cons b i3 => simp [lim]; simp at l2 l3; omega
  have dic : σ4[σ.length + 19]? = some (false, .dic [(2, .ref (σ.length + 8)), (3, .ref (σ.length + 13)), (4, .ref (σ.length + 18))]) := up_ (up_ (up_ z1.1))
  have call : ∀ τ : AH, den Fs (.call 20 .nil) ρ τ = some (.ref (τ.length + 19), τ ++ stepsT τ.length) := fun τ => by
    exact d_call l_nil h20 (steps_ok τ)
  have ex : ∃ t, σ4 = σ ++ t := ⟨_, by simp only [σ4, σ3, σ2, σ1, List.append_assoc]; rfl⟩
  obtain ⟨t, ht⟩ := ex
  have main : den Fs getE ρ σ = some ((([(2, .ref (σ.length + 8)), (3, .ref (σ.length + 13)), (4, .ref (σ.length + 18))] : List (Int × AV)).lookup (k : Int)).getD (.ref σ3.length), σ4) := by
    unfold getE
    have c1 := call σ
    have c2 := call σ1
    have c3 := call σ2
    have d1 : den Fs (.sub (.call 20 .nil) (.int 3)) ρ σ1 = some (.ref (σ1.length + 13), σ2) := d_sub c2 d_int s1
    have d2 : den Fs (.sub (.call 20 .nil) (.int 4)) ρ σ2 = some (.ref (σ2.length + 18), σ3) := d_sub c3 d_int s2
    have d3 : den Fs (.bin .add (.sub (.call 20 .nil) (.int 3)) (.sub (.call 20 .nil) (.int 4))) ρ σ1 = some (.ref σ3.length, σ4) := bindI d1 (bindI d2 b1)
    refine bindI c1 ?_
    dsimp only
    rw [show σ ++ stepsT σ.length = σ1 from rfl, e1]
    refine bindI (d_var h3) (bindI d3 ?_)
    dsimp only
    rw [dic]
  have w1 : WaysAt σ4 (σ.length + 8) kmoves := z1.2.1.app.app.app
  have w2 : WaysAt σ4 (σ.length + 13) slant := z1.2.2.1.app.app.app
  have w3 : WaysAt σ4 (σ.length + 18) straight := z1.2.2.2.app.app.app
  have w4 : WaysAt σ4 σ3.length (slant ++ straight) := by
    refine ⟨i2 ++ i3, ?_, by simp [m2, m3], fun i id p h1 h2 => ?_⟩
    · show (σ3 ++ _)[σ3.length]? = _
      rw [List.getElem?_append_right (Nat.le_refl _), Nat.sub_self, List.map_append]; rfl
    · by_cases q : i < i2.length
      · rw [List.getElem?_append_left q] at h1
        rw [List.getElem?_append_left (by rw [← m2]; exact q)] at h2
        exact up_ (up_ (n2 i id p h1 h2))
      · rw [List.getElem?_append_right (Nat.not_lt.mp q)] at h1
        rw [List.getElem?_append_right (by rw [← m2]; exact Nat.not_lt.mp q), ← m2] at h2
        exact up_ (n3 _ id p h1 h2)
  rw [ht] at main w1 w2 w3 w4
  have := (show ∀ k < 7, 2 ≤ k → (k = 2 ∨ k = 3 ∨ k = 4 ∨ k = 5 ∨ k = 6) by decide) k (Nat.lt_succ_of_le hk.2) hk.1
  rcases this with rfl | rfl | rfl | rfl | rfl
  · exact ⟨_, t, main, w1⟩
  · exact ⟨_, t, main, w2⟩
  · exact ⟨_, t, main, w3⟩
  · exact ⟨_, t, main, w4⟩
  · exact ⟨_, t, main, w4⟩
end Mine
namespace Mine
open PySem.Builtin PyProof.Rows

theorem pawn_ways {Fs : List Fun} {ρ : Rho} {a : Int} (h8 : ρ[8]? = some (some (.int a))) (σ : AH) :
    ∃ t, den Fs (.tup (.cons (.tup (.cons (.int 1) (.cons (.var 8) .nil))) (.cons (.tup (.cons (.una .neg (.int 1)) (.cons (.var 8) .nil))) .nil))) ρ σ = some (.ref (σ.length + 2), σ ++ t) ∧ WaysAt (σ ++ t) (σ.length + 2) [(1, a), (-1, a)] := by
  refine ⟨[pr 1 a, pr (-1) a, (false, .tup [.ref σ.length, .ref (σ.length + 1)])], ?_, ⟨[σ.length, σ.length + 1], by rw [app_at]; rfl, rfl, ?_⟩⟩
  · have d1 := tup2 Fs (ρ := ρ) (a := .int 1) (b := .var 8) (x := 1) (y := a) (σ := σ) (fun _ => rfl) (fun _ => d_var h8)
    have d2 := tup2 Fs (ρ := ρ) (a := .una .neg (.int 1)) (b := .var 8) (x := -1) (y := a) (σ := σ ++ [pr 1 a]) (fun _ => rfl) (fun _ => d_var h8)
    have d := d_tup (l_cons d1 (l_cons d2 l_nil)) rfl
    simp only [List.length_append, List.length_singleton, List.append_assoc] at d
    exact d
  · exact ways_seg (σ := σ) (pre := []) (ws := [(1, a), (-1, a)]) (rest := [(false, .tup [.ref σ.length, .ref (σ.length + 1)])]) (n := σ.length) rfl _ rfl

theorem cons_take {ss : ISs} {Fs : List Fun} {ρ : Rho} {σ : AH} : exes Fs ss ρ σ = exes Fs ss ρ σ := rfl

theorem ways_small {k t : Nat} : ∀ p ∈ waysOf k t, (-3 < p.1 ∧ p.1 < 3) ∧ (-3 < p.2 ∧ p.2 < 3) ∧ (p.1 ≠ 0 ∨ p.2 ≠ 0) := by
  intro p hp
  have all : ∀ l : List (Int × Int), (l.all fun p => decide ((-3 < p.1 ∧ p.1 < 3) ∧ (-3 < p.2 ∧ p.2 < 3) ∧ (p.1 ≠ 0 ∨ p.2 ≠ 0))) = true → p ∈ l → (-3 < p.1 ∧ p.1 < 3) ∧ (-3 < p.2 ∧ p.2 < 3) ∧ (p.1 ≠ 0 ∨ p.2 ≠ 0) :=
    fun l h q => of_decide_eq_true (List.all_eq_true.mp h p q)
  unfold waysOf pways at hp
  repeat' split at hp
  all_goals exact all _ (by decide) hp
theorem ways_len {k t : Nat} : (waysOf k t).length ≤ 8 := by
  unfold waysOf pways
  repeat' split
  all_goals decide

theorem reached_ok {mb : Bool} {σ : AH} {c r o : Nat} {B : List Nat} (hb : σ[11]? = some (mb, .lst (natsV B))) (hB : B.length = c * r) (hc : 0 < c ∧ c ≤ 4) (hr : r ≤ 4) (ho : o < B.length) (hk : 1 ≤ sq B o % 8 ∧ sq B o % 8 ≤ 6) (h100 : sq B o < 100) :
    ∃ fnd σ', F__law_reached [.int c, .ref 11, .int o] σ = some (.ref fnd, σ') ∧ (∀ (i : Nat) (e : Bool × AO), σ[i]? = some e → σ'[i]? = some e) ∧ σ'[fnd]? = some (true, .lst (natsV (reachedL c r B o))) := by
  have sqe : sq B o = B[o] := by simp [sq, List.getD, ho]
  have hx : o % c < 4 := Nat.lt_of_lt_of_le (Nat.mod_lt _ hc.1) hc.2
  have hoc : o < r * c := by rw [Nat.mul_comm, ← hB]; exact ho
  have hy : o / c < 4 := Nat.lt_of_lt_of_le (Nat.div_lt_of_lt_mul (by rw [Nat.mul_comm]; exact hoc)) hr
  let k := sq B o % 8
  let bk : Bool := decide ((sq B o : Int) > 8)
  have sb : ∀ τ : AH, τ[11]? = some (mb, .lst (natsV B)) → subV (.ref 11) (.int (o : Int)) τ = some (.int ((sq B o : Nat) : Int)) := fun τ h => by
    rw [sqe]
    exact sub_at h (by simp [natsV, ho]) (by have : c * r ≤ 16 := Nat.mul_le_mul hc.2 hr; omega)
  have m8 : binV .mod (sq B o : Int) 8 = some ((k : Nat) : Int) := v_modN (b := 8) (by decide)
  have mc : binV .mod (o : Int) c = some ((o % c : Nat) : Int) := v_modN hc.1
  have dc : binV .fdiv (o : Int) c = some ((o / c : Nat) : Int) := v_divN hc.1 (Nat.le_trans hc.2 (by decide))
  have lc : binV .fdiv (B.length : Int) c = some ((r : Nat) : Int) := (v_divN hc.1 (Nat.le_trans hc.2 (by decide))).trans (by rw [hB, Nat.mul_div_cancel_left r hc.1])
  let ρ0 : Rho := [some (.int c), some (.ref 11), some (.int o)] ++ List.replicate 12 none
  let ρ1 : Rho := [some (.int c), some (.ref 11), some (.int o), some (.int (k : Int)), some (.bool bk)] ++ List.replicate 10 none
  let ρ2 : Rho := [some (.int c), some (.ref 11), some (.int o), some (.int (k : Int)), some (.bool bk), some (.int ((o % c : Nat) : Int)), some (.int ((o / c : Nat) : Int))] ++ List.replicate 8 none
  let ρ3 : Rho := [some (.int c), some (.ref 11), some (.int o), some (.int (k : Int)), some (.bool bk), some (.int ((o % c : Nat) : Int)), some (.int ((o / c : Nat) : Int)), some (.int (r : Int))] ++ List.replicate 7 none
  let σ1 := σ ++ [(false, AO.tup [.int (k : Int), .bool bk])]
  let σ2 := σ1 ++ [(false, AO.tup [.int ((o % c : Nat) : Int), .int ((o / c : Nat) : Int)])]
  have st1 : exe Fs1 (.asgT [3, 4] (.tup (.cons (.bin .mod (.sub (.var 1) (.var 2)) (.int 8)) (.cons (.cmp .gt (.sub (.var 1) (.var 2)) (.int 8)) .nil)))) ρ0 σ = some (.next, ρ1, σ1) := by
    have d : den Fs1 (.tup (.cons (.bin .mod (.sub (.var 1) (.var 2)) (.int 8)) (.cons (.cmp .gt (.sub (.var 1) (.var 2)) (.int 8)) .nil))) ρ0 σ = some (.ref σ.length, σ1) := by
      exact d_tup (l_cons (d_bin (d_sub (d_var rfl) (d_var rfl) (sb σ hb)) d_int m8) (l_cons (d_cmp (d_sub (d_var rfl) (d_var rfl) (sb σ hb)) d_int rfl) l_nil)) rfl
    exact s_asgT d (t_bind List.getElem?_concat_length rfl)
  have st2 : exe Fs1 (.asgT [5, 6] (.tup (.cons (.bin .mod (.var 2) (.var 0)) (.cons (.bin .fdiv (.var 2) (.var 0)) .nil)))) ρ1 σ1 = some (.next, ρ2, σ2) := by
    have d : den Fs1 (.tup (.cons (.bin .mod (.var 2) (.var 0)) (.cons (.bin .fdiv (.var 2) (.var 0)) .nil))) ρ1 σ1 = some (.ref σ1.length, σ2) := by
      have e1 : ρ1[0]? = some (some (.int c)) := rfl
      have e2 : ρ1[2]? = some (some (.int o)) := rfl
      exact (d_tup (l_cons (d_bin (d_var rfl) (d_var rfl) (by first | assumption | exact rfl)) (l_cons (d_bin (d_var rfl) (d_var rfl) (by first | assumption | exact rfl)) l_nil)) rfl)
    exact s_asgT d (t_bind List.getElem?_concat_length rfl)
  have b2 : σ2[11]? = some (mb, .lst (natsV B)) := up_ (up_ hb)
  have st3 : exe Fs1 (.asg 7 (.bin .fdiv (.len (.var 1)) (.var 0))) ρ2 σ2 = some (.next, ρ3, σ2) := by
    have sqo : seqOf (.ref 11) σ2 = some (natsV B) := by unfold seqOf; simp only [b2]
    have ln : (natsV B).length = B.length := by simp [natsV]
    have dl := d_len (Fs := Fs1) (ρ := ρ2) (e := .var 1) (d_var rfl) sqo (by rw [ln, hB]; exact Nat.le_trans (Nat.mul_le_mul hc.2 hr) (by decide))
    rw [ln] at dl
    exact s_asg (d_bin dl (d_var rfl) lc)
  -- the ways
  obtain ⟨ρ4, w, t, st4, W, q4⟩ : ∃ ρ4 w t, exe Fs1 (.ite (.cmp .eq (.var 3) (.int 1)) (.cons (.asg 8 (.ite (.var 4) (.una .neg (.int 1)) (.int 1))) (.cons (.asg 9 (.tup (.cons (.tup (.cons (.int 1) (.cons (.var 8) .nil))) (.cons (.tup (.cons (.una .neg (.int 1)) (.cons (.var 8) .nil))) .nil)))) .nil)) (.cons (.asg 9 getE) .nil)) ρ3 σ2 = some (.next, ρ4, σ2 ++ t) ∧
      WaysAt (σ2 ++ t) w (waysOf k (if sq B o > 8 then 1 else 0)) ∧ ρ4[9]? = some (some (.ref w)) ∧ ρ4.length = 15 ∧ ∀ i, i < 8 → ρ4[i]? = ρ3[i]? := by
    have e3 : ρ3[3]? = some (some (.int (k : Int))) := rfl
    by_cases hk1 : k = 1
    · let a : Int := if bk then -1 else 1
      have st8 : exe Fs1 (.asg 8 (.ite (.var 4) (.una .neg (.int 1)) (.int 1))) ρ3 σ2 = some (.next, ρ3.set 8 (some (.int a)), σ2) := by
        have e4 : ρ3[4]? = some (some (.bool bk)) := rfl
        cases hbk : bk with
        | true => rw [hbk] at e4; rw [show a = -1 from if_pos hbk]; exact s_asg (d_iteT (d_var e4) (d_neg d_int))
        | false => rw [hbk] at e4; rw [show a = 1 from if_neg (by rw [hbk]; decide)]; exact s_asg (d_iteF (d_var e4) d_int)
      obtain ⟨t, d, W⟩ := pawn_ways (Fs := Fs1) (ρ := ρ3.set 8 (some (.int a))) (a := a) rfl σ2
      refine ⟨(ρ3.set 8 (some (.int a))).set 9 (some (.ref (σ2.length + 2))), σ2.length + 2, t, ?_, ?_, rfl, rfl, fun i hi => by rw [List.getElem?_set_ne (by omega), List.getElem?_set_ne (by exact Nat.ne_of_gt (by assumption))]⟩
      · have c1 : ((k : Int) == 1) = true := by rw [hk1]; rfl
        have st9 : exe Fs1 (.asg 9 (.tup (.cons (.tup (.cons (.int 1) (.cons (.var 8) .nil))) (.cons (.tup (.cons (.una .neg (.int 1)) (.cons (.var 8) .nil))) .nil)))) (ρ3.set 8 (some (.int a))) σ2 = some (.next, (ρ3.set 8 (some (.int a))).set 9 (some (.ref (σ2.length + 2))), σ2 ++ t) := by
          exact s_asg d
        have cc : den Fs1 (.cmp .eq (.var 3) (.int 1)) ρ3 σ2 = some (.bool true, σ2) := d_isb (d_cmp (d_var e3) d_int rfl) c1
        exact s_yes cc ((exes_go st8).trans ((exes_go st9).trans rfl))
      · have : waysOf k (if sq B o > 8 then 1 else 0) = [(1, a), (-1, a)] := by
          rw [hk1]
          by_cases hb8 : sq B o > 8
          · have : bk = true := by simp only [bk, decide_eq_true_eq]; omega
            simp [waysOf, pways, hb8, a, this]
          · have : bk = false := by simp only [bk, decide_eq_false_iff_not]; omega
            simp [waysOf, pways, hb8, a, this]
        rw [this]; exact W
    · have hk2 : 2 ≤ k ∧ k ≤ 6 := ⟨by have := hk.1; simp only [k] at hk1 ⊢; omega, hk.2⟩
      obtain ⟨w, t, d, W⟩ := get_ok (Fs := Fs1) rfl (ρ := ρ3) e3 hk2 σ2
      refine ⟨ρ3.set 9 (some (.ref w)), w, t, ?_, ?_, rfl, rfl, fun i hi => by rw [List.getElem?_set_ne (by omega)]⟩
      · have c1 : ((k : Int) == 1) = false := by rw [beq_eq_false_iff_ne]; omega
        have st9 : exe Fs1 (.asg 9 getE) ρ3 σ2 = some (.next, ρ3.set 9 (some (.ref w)), σ2 ++ t) := s_asg d
        have cc : den Fs1 (.cmp .eq (.var 3) (.int 1)) ρ3 σ2 = some (.bool false, σ2) := d_isb (d_cmp (d_var e3) d_int rfl) c1
        exact s_else cc ((exes_go st9).trans rfl)
      · have : waysOf k (if sq B o > 8 then 1 else 0) = waysOf k 0 := by simp only [waysOf, hk1, if_false]
        rw [this]; exact W
  obtain ⟨q5, q6⟩ := q4.2
  have q4 := q4.1
  let σ3 := σ2 ++ t
  let σ4 := σ3 ++ [(true, AO.lst [])]
  let ρ5 := ρ4.set 10 (some (.ref σ3.length))
  have b4 : σ4[11]? = some (mb, .lst (natsV B)) := up_ (up_ b2)
  have st5 : exe Fs1 (.asg 10 (.lst .nil)) ρ4 σ3 = some (.next, ρ5, σ4) := s_asg (d_lst l_nil rfl)
  have f4 : σ4[σ3.length]? = some (true, .lst (natsV [])) := by simp [σ4, natsV]
  have W4 : WaysAt σ4 w (waysOf k (if sq B o > 8 then 1 else 0)) := W.app
  obtain ⟨ids, v1, v2, v3⟩ := W4
  have wlt : w < σ3.length := W.lt
  have l11 : 11 < σ3.length := (List.getElem?_eq_some_iff.mp (up_ b2 : σ3[11]? = _)).1
  have h5 : ∀ i, i < 8 → ρ5[i]? = ρ3[i]? := fun i hi => by
    show (ρ4.set 10 _)[i]? = _
    rw [List.getElem?_set_ne (by omega), q6 i hi]
  have R5 : RX ρ5 c r k (o % c) (o / c) σ3.length := ⟨by simp [ρ5, q5], h5 0 (by decide), h5 1 (by decide), h5 3 (by decide), h5 5 (by decide), h5 6 (by decide), h5 7 (by decide), List.getElem?_set_self (by rw [q5]; decide)⟩
  have idlt : ∀ (i id : Nat) (p : Int × Int), ids[i]? = some id → (waysOf k (if sq B o > 8 then 1 else 0))[i]? = some p → σ4[id]? = some (pr p.1 p.2) ∧ id ≠ σ3.length := fun i id p h1 h2 => by
    refine ⟨v3 i id p h1 h2, fun q => ?_⟩
    have := v3 i id p h1 h2
    rw [q, f4] at this
    cases this
  obtain ⟨ρ6, σ6, x1, x2, x3, x4⟩ := ways_loop (Fs := Fs1) (m := false) (ids := ids) hB hc.2 hr (by exact Nat.ne_of_gt (by assumption)) (by exact Nat.ne_of_lt (by assumption)) hx hy ids (waysOf k (if sq B o > 8 then 1 else 0)) ρ5 σ4 [] R5 v2 idlt ways_small v1 b4 f4
    (by have := @ways_len k (if sq B o > 8 then 1 else 0); simp; omega)
  have st6 : exe Fs1 (.for [11, 12] true (.var 9) bodF) ρ5 σ4 = some (.next, ρ6, σ6) := by
    have e9 : ρ5[9]? = some (some (.ref w)) := by
      show (ρ4.set 10 _)[9]? = _
      rw [List.getElem?_set_ne (by decide), q4]
    exact s_forT (d_var e9) v1 (by rw [List.length_map, v2]; exact Nat.le_trans ways_len (by decide)) x1
  have e10 : ρ6[10]? = some (some (.ref σ3.length)) := by rw [x2 10 (by decide)]; exact R5.r10
  have st7 : exe Fs1 (.ret (.var 10)) ρ6 σ6 = some (.ret (.ref σ3.length), ρ6, σ6) := by
    exact s_ret (d_var e10)
  refine ⟨σ3.length, σ6, fun_ret (ρ' := ρ6) (Fs := Fs1) (np := 3) (ns := 15) (body := B__law_reached) rfl ((exes_go st1).trans ((exes_go st2).trans ((exes_go st3).trans ((exes_go st4).trans ((exes_go st5).trans ((exes_go st6).trans (exes_ret st7))))))), fun i e h => ?_, ?_⟩
  · have h' : σ4[i]? = some e := up_ (up_ (up_ (up_ h)))
    refine x3 i e ?_ h'
    have : i < σ.length := (List.getElem?_eq_some_iff.mp h).1
    have : σ.length ≤ σ3.length := by simp only [σ3, σ2, σ1, List.length_append]; omega
    omega
  · rw [x4]; rfl
end Mine
namespace Mine
open PySem.Builtin PyProof.Rows

/-! ## What the program's masks say -/
noncomputable def St1 (σ : AH) : Prop := σ[1]? = some (false, .tup (tI [1, 0, -1, 0, 1, -1, -1, 1]))
theorem tup_at {σ : AH} {a : Nat} {m : Bool} {xs : List AV} {s : Nat} {v : AV} (h : σ[a]? = some (m, .tup xs)) (h1 : xs[s]? = some v) (h2 : s ≤ 1000000) : subV (.ref a) (.int (s : Int)) σ = some v := by
  unfold subV
  dsimp only
  rw [h]
  exact (if_pos (Nat.ble_eq_true_of_le h2)).trans h1
noncomputable def dyv (d : Nat) : Int := ([1, 0, -1, 0, 1, -1, -1, 1] : List Int).getD d 0
theorem growing_ok {σ : AH} (h : St1 σ) {d : Nat} (hd : d < 8) : F_is_growing [.int (d : Int)] σ = some (.bool (growD d), σ) := by
  have e1 : (tI [1, 0, -1, 0, 1, -1, -1, 1])[d]? = some (.int (dyv d)) := (show ∀ d < 8, (tI [1, 0, -1, 0, 1, -1, -1, 1])[d]? = some (.int (dyv d)) by decide) d hd
  have e2 : (decide ((0 : Int) < dyv d) || decide (d = 1)) = growD d := (show ∀ d < 8, (decide ((0 : Int) < dyv d) || decide (d = 1)) = growD d by decide) d hd
  exact fun_ret (Fs := Fs0) (np := 1) (ns := 1) (body := B_is_growing) (ρ' := [some (.int d)]) rfl (exes_ret (s_ret (d_isb (d_bop (b_or (d_cmp (d_sub rfl (d_var rfl) (tup_at h e1 (Nat.le_trans (Nat.le_of_lt hd) (by decide)))) d_int rfl) (b_one (d_cmp (d_var rfl) d_int c_eq1)))) e2)))
theorem ray_ok {σ : AH} {I : Ids} {c r d s occ : Nat} (G : GeoAt σ I c r) (h : St1 σ) (hd : d < 8) (hs : s < c * r) :
    F_ray_attacks [.ref I.g, .int (d : Int), .int (s : Int), .int (occ : Int)] σ = some (.int (rayAtt (maskL (rayL c r d s)) ((maskL (rayL c r d s) &&& occ : Nat) : Int) (growD d)), σ) := by
  have e1 := G.rays.2
  have e2 := (G.ray1 d hd).2
  have e3 := (G.ray2 d hd s hs).2
  generalize maskL (rayL c r d s) = m at e3
  have e4 : binV .band (m : Int) (occ : Int) = some ((m &&& occ : Nat) : Int) := bandN m occ
  generalize m &&& occ = st at e4
  let ρ0 : Rho := [some (.ref I.g), some (.int d), some (.int s), some (.int occ), none, none, none]
  let ρ1 : Rho := [some (.ref I.g), some (.int d), some (.int s), some (.int occ), some (.int m), none, none]
  let ρ2 : Rho := [some (.ref I.g), some (.int d), some (.int s), some (.int occ), some (.int m), some (.int st), none]
  have st1 : exe Fs1 (.asg 4 (.sub (.sub (.attr (.var 0) 8) (.var 1)) (.var 2))) ρ0 σ = some (.next, ρ1, σ) := s_asg (d_sub (d_sub (d_attr (d_var rfl) (by first | assumption | exact rfl)) (d_var rfl) (by first | assumption | exact rfl)) (d_var rfl) (by first | assumption | exact rfl))
  have st2 : exe Fs1 (.asg 5 (.bin .band (.var 4) (.var 3))) ρ1 σ = some (.next, ρ2, σ) := s_asg (d_bin (d_var rfl) (d_var rfl) (by first | assumption | exact bandN _ _ | exact rfl))
  have t1 : den Fs1 (.cmp .eq (.var 5) (.int 0)) ρ2 σ = some (.bool ((st : Int) == 0), σ) := (d_cmp (d_var rfl) d_int (by first | assumption | exact c_eq0 | exact rfl))
  by_cases hz : st = 0
  · have st3 : exe Fs1 (.ite (.cmp .eq (.var 5) (.int 0)) (.cons (.ret (.var 4)) .nil) .nil) ρ2 σ = some (.ret (.int m), ρ2, σ) := s_yret (d_isb t1 (by rw [hz]; rfl)) (d_var rfl)
    have run : F_ray_attacks [.ref I.g, .int (d : Int), .int (s : Int), .int (occ : Int)] σ = some (.int m, σ) := fun_ret (Fs := Fs1) (np := 4) (ns := 7) (body := B_ray_attacks) (ρ' := ρ2) (v := .int m) rfl ((exes_go st1).trans ((exes_go st2).trans (exes_ret st3)))
    rw [run, hz]; rfl
  · have hz' : ((st : Int) == 0) = false := beq_eq_false_iff_ne.mpr (Int.ofNat_ne_zero.mpr hz)
    have st3 : exe Fs1 (.ite (.cmp .eq (.var 5) (.int 0)) (.cons (.ret (.var 4)) .nil) .nil) ρ2 σ = some (.next, ρ2, σ) := s_no (d_isb t1 hz')
    have t2 : den Fs1 (.call 5 (.cons (.var 1) .nil)) ρ2 σ = some (.bool (growD d), σ) := d_call (l_cons (d_var rfl) l_nil) rfl (growing_ok h hd)
    cases hg : growD d with
    | true =>
      have st4 : exe Fs1 (.ite (.call 5 (.cons (.var 1) .nil)) (.cons (.ret (.bin .band (.var 4) (.bin .bxor (.var 5) (.bin .sub (.var 5) (.int 1))))) .nil) .nil) ρ2 σ = some (.ret (.int (bitAnd m (bitXor st ((st : Int) - 1)))), ρ2, σ) := s_yret (d_isb t2 hg) (d_bin (d_var rfl) (d_bin (d_var rfl) (d_bin (d_var rfl) d_int rfl) rfl) rfl)
      have run : F_ray_attacks [.ref I.g, .int (d : Int), .int (s : Int), .int (occ : Int)] σ = some (.int (bitAnd m (bitXor st ((st : Int) - 1))), σ) :=
        fun_ret (Fs := Fs1) (np := 4) (ns := 7) (body := B_ray_attacks) (ρ' := ρ2) rfl ((exes_go st1).trans ((exes_go st2).trans ((exes_go st3).trans (exes_ret st4))))
      rw [run]
      unfold rayAtt
      rw [if_neg (Int.ofNat_ne_zero.mpr hz), if_pos rfl]
    | false =>
      have st4 : exe Fs1 (.ite (.call 5 (.cons (.var 1) .nil)) (.cons (.ret (.bin .band (.var 4) (.bin .bxor (.var 5) (.bin .sub (.var 5) (.int 1))))) .nil) .nil) ρ2 σ = some (.next, ρ2, σ) := s_no (d_isb t2 hg)
      have run : F_ray_attacks [.ref I.g, .int (d : Int), .int (s : Int), .int (occ : Int)] σ = some (.int (bitAnd m (bitNot (smear st))), σ) :=
        fun_ret (Fs := Fs1) (np := 4) (ns := 7) (body := B_ray_attacks) (ρ' := ρ2.set 6 (some (.int (smear st)))) rfl ((exes_go st1).trans ((exes_go st2).trans ((exes_go st3).trans ((exes_go st4).trans rfl))))
      rw [run]
      unfold rayAtt
      rw [if_neg (Int.ofNat_ne_zero.mpr hz), if_neg (by decide)]
end Mine
namespace Mine
open PySem.Builtin PyProof.Rows

/-! ## Masks and membership -/
theorem maskL_bit (s : Nat) : ∀ l : List Nat, (maskL l).testBit s = decide (s ∈ l)
  | [] => by simp [maskL]
  | a :: l => by
    rw [maskL, Nat.testBit_or, Nat.testBit_two_pow, maskL_bit s l, Bool.eq_iff_iff]
    simp only [Bool.or_eq_true, decide_eq_true_eq, List.mem_cons]
    exact ⟨fun h => h.imp Eq.symm id, fun h => h.imp Eq.symm id⟩
theorem subs_mem (occ : Nat) : ∀ l : List Nat, maskL l &&& occ ∈ subs l
  | [] => by simp [maskL, subs]
  | a :: l => by
    have ih := subs_mem occ l
    rw [subs, List.mem_append, List.mem_map]
    cases h : occ.testBit a with
    | true =>
      refine .inr ⟨_, ih, ?_⟩
      apply Nat.eq_of_testBit_eq
      intro i
      simp only [maskL, Nat.testBit_or, Nat.testBit_and, Nat.testBit_two_pow]
      by_cases e : a = i
      · subst e; simp [h]
      · simp [e]
    | false =>
      left
      have : maskL (a :: l) &&& occ = maskL l &&& occ := by
        apply Nat.eq_of_testBit_eq
        intro i
        simp only [maskL, Nat.testBit_or, Nat.testBit_and, Nat.testBit_two_pow]
        by_cases e : a = i
        · subst e; simp [h]
        · simp [e]
      rw [this]; exact ih
theorem tk_congr {p q : Nat → Bool} {b : Bool} : ∀ {l : List Nat}, (∀ s ∈ l, p s = q s) → tk p b l = tk q b l
  | [], _ => rfl
  | a :: l, h => by
    simp only [tk]
    rw [h a (List.mem_cons_self ..), tk_congr fun s hs => h s (List.mem_cons_of_mem _ hs)]
theorem tk_leap (p : Nat → Bool) : ∀ l : List Nat, tk p true l = l.take 1
  | [] => rfl
  | a :: l => by simp [tk]
theorem tk_sub {p : Nat → Bool} {b : Bool} {g : Nat} : ∀ {l : List Nat}, g ∈ tk p b l → g ∈ l
  | [], h => h
  | a :: l, h => by
    simp only [tk, List.mem_cons] at h
    rcases h with h | h
    · exact h ▸ List.mem_cons_self ..
    · split at h
      · cases h
      · exact List.mem_cons_of_mem _ (tk_sub h)
theorem way_lt {c r : Nat} {x y dx dy : Int} {g : Nat} : ∀ {f k : Nat}, g ∈ way c r x y dx dy f k → g < c * r
  | 0, _, h => by cases h
  | f + 1, k, h => by
    unfold way at h
    split at h
    · rename_i hin
      rcases List.mem_cons.mp h with rfl | h
      · unfold inb at hin
        simp only [Bool.and_eq_true, decide_eq_true_eq] at hin
        obtain ⟨⟨i1, i2⟩, i3, i4⟩ := hin
        obtain ⟨a, ha⟩ := Int.eq_ofNat_of_zero_le i1
        obtain ⟨b, hb⟩ := Int.eq_ofNat_of_zero_le i3
        have ga : a < c := by rw [ha] at i2; exact Int.ofNat_lt.mp i2
        have gb : b < r := by rw [hb] at i4; exact Int.ofNat_lt.mp i4
        have e : ((y + k * dy) * c + x + k * dx).toNat = b * c + a := by
          rw [Int.add_assoc, ha, hb]
          have : ((b : Int) * c + a) = ((b * c + a : Nat) : Int) := by simp
          rw [this]; rfl
        rw [e]
        calc b * c + a < b * c + c := by omega
          _ = (b + 1) * c := by rw [Nat.succ_mul]
          _ ≤ r * c := Nat.mul_le_mul_right c gb
          _ = c * r := Nat.mul_comm ..
      · exact way_lt h
    · cases h

theorem ray_mask {c r d s occ : Nat} (hz : (c, r) ∈ sizes) (hd : d < 8) (hs : s < c * r) :
    rayAtt (maskL (rayL c r d s)) ((maskL (rayL c r d s) &&& occ : Nat) : Int) (growD d) = ((maskL (tk (fun i => occ.testBit i) false (rayL c r d s)) : Nat) : Int) := by
  have h := List.all_eq_true.mp (List.all_eq_true.mp chkRay_ok (c, r) hz) d (List.mem_range.mpr hd)
  unfold chkRay at h
  have h := beq_iff_eq.mp (List.all_eq_true.mp (List.all_eq_true.mp h s (List.mem_range.mpr hs)) _ (subs_mem occ (rayL c r d s)))
  rw [h, tk_congr]
  intro i hi
  rw [Nat.testBit_and, maskL_bit, decide_eq_true hi, Bool.true_and]

/-- what is seen along some directions -/
noncomputable def seen (c r occ s : Nat) : List Nat → Nat → Nat
  | [], a => a
  | d :: l, a => seen c r occ s l (a ||| maskL (tk (fun i => occ.testBit i) false (rayL c r d s)))
theorem seen_bit (c r occ s g : Nat) : ∀ (l : List Nat) (a : Nat), (seen c r occ s l a).testBit g = (a.testBit g || l.any fun d => decide (g ∈ tk (fun i => occ.testBit i) false (rayL c r d s)))
  | [], a => by simp [seen]
  | d :: l, a => by rw [seen, seen_bit c r occ s g l, Nat.testBit_or, maskL_bit, List.any_cons, Bool.or_assoc]

theorem rays_loop {σ : AH} {I : Ids} {c r s occ : Nat} (G : GeoAt σ I c r) (h : St1 σ) (hz : (c, r) ∈ sizes) (hs : s < c * r) : ∀ (l : List Nat) (a : Nat) (x : Option AV), (∀ d ∈ l, d < 8) →
    ∃ x', forF (fun _ => true) (bindT [4] false) (exes Fs2 (.cons (.aug .bor 3 (.call 27 (.cons (.var 0) (.cons (.var 4) (.cons (.var 1) (.cons (.var 2) .nil)))))) .nil)) (l.map fun (d : Nat) => AV.int (d : Int)) [some (.ref I.g), some (.int s), some (.int occ), some (.int a), x] σ =
      some (.next, [some (.ref I.g), some (.int s), some (.int occ), some (.int (seen c r occ s l a : Nat)), x'], σ)
  | [], a, x, _ => ⟨x, rfl⟩
  | d :: l, a, x, hl => by
    obtain ⟨x', ih⟩ := rays_loop G h hz hs l (a ||| maskL (tk (fun i => occ.testBit i) false (rayL c r d s))) (some (.int d)) fun d hd => hl d (List.mem_cons_of_mem _ hd)
    have q := ray_ok (occ := occ) G h (hl d (List.mem_cons_self ..)) hs
    rw [ray_mask hz (hl d (List.mem_cons_self ..)) hs] at q
    have f27 : Fs2[27]? = some F_ray_attacks := rfl
    refine ⟨x', ?_⟩
    have b : bindT [4] false (.int (d : Int)) [some (.ref I.g), some (.int s), some (.int occ), some (.int a), x] σ = some [some (.ref I.g), some (.int s), some (.int occ), some (.int a), some (.int d)] := rfl
    have e : exes Fs2 (.cons (.aug .bor 3 (.call 27 (.cons (.var 0) (.cons (.var 4) (.cons (.var 1) (.cons (.var 2) .nil)))))) .nil) [some (.ref I.g), some (.int s), some (.int occ), some (.int a), some (.int d)] σ =
        some (.next, [some (.ref I.g), some (.int s), some (.int occ), some (.int (a ||| maskL (tk (fun i => occ.testBit i) false (rayL c r d s)) : Nat)), some (.int d)], σ) := by
      exact (exes_go (s_aug rfl (d_call (l_cons (d_var rfl) (l_cons (d_var rfl) (l_cons (d_var rfl) (l_cons (d_var rfl) l_nil)))) f27 q) (borN _ _))).trans rfl
    exact (forF_go rfl b e).trans ih

theorem rook_ok {σ : AH} {I : Ids} {c r s occ : Nat} (G : GeoAt σ I c r) (h : St1 σ) (hz : (c, r) ∈ sizes) (hs : s < c * r) :
    F_rook_attacks [.ref I.g, .int (s : Int), .int (occ : Int)] σ = some (.int (seen c r occ s [0, 1, 2, 3] 0 : Nat), σ ++ [(false, .rng 0 4 1)]) := by
  obtain ⟨x', lp⟩ := rays_loop (σ := σ ++ [(false, .rng 0 4 1)]) (occ := occ) (G.kp (Kp.app σ _)) (up_ h) hz hs [0, 1, 2, 3] 0 none (by decide)
  let ρ1 : Rho := [some (.ref I.g), some (.int s), some (.int occ), some (.int 0), none]
  have st1 : exe Fs2 (.asg 3 (.int 0)) [some (.ref I.g), some (.int s), some (.int occ), none, none] σ = some (.next, ρ1, σ) := rfl
  have st2 : exe Fs2 (.for [4] false (.range (.cons (.int 4) .nil)) (.cons (.aug .bor 3 (.call 27 (.cons (.var 0) (.cons (.var 4) (.cons (.var 1) (.cons (.var 2) .nil)))))) .nil)) ρ1 σ =
      some (.next, [some (.ref I.g), some (.int s), some (.int occ), some (.int (seen c r occ s [0, 1, 2, 3] 0 : Nat)), x'], σ ++ [(false, .rng 0 4 1)]) := by
    have rl : rngList 0 4 1 = some [0, 1, 2, 3] := rfl
    exact s_forR (d_range1 d_int rfl) List.getElem?_concat_length rl lp
  exact fun_ret (Fs := Fs2) (np := 3) (ns := 5) (body := B_rook_attacks) rfl ((exes_go st1).trans ((exes_go st2).trans (exes_ret rfl)))
theorem bishop_ok {σ : AH} {I : Ids} {c r s occ : Nat} (G : GeoAt σ I c r) (h : St1 σ) (hz : (c, r) ∈ sizes) (hs : s < c * r) :
    F_bishop_attacks [.ref I.g, .int (s : Int), .int (occ : Int)] σ = some (.int (seen c r occ s [4, 5, 6, 7] 0 : Nat), σ ++ [(false, .rng 4 8 1)]) := by
  obtain ⟨x', lp⟩ := rays_loop (σ := σ ++ [(false, .rng 4 8 1)]) (occ := occ) (G.kp (Kp.app σ _)) (up_ h) hz hs [4, 5, 6, 7] 0 none (by decide)
  let ρ1 : Rho := [some (.ref I.g), some (.int s), some (.int occ), some (.int 0), none]
  have st1 : exe Fs2 (.asg 3 (.int 0)) [some (.ref I.g), some (.int s), some (.int occ), none, none] σ = some (.next, ρ1, σ) := rfl
  have st2 : exe Fs2 (.for [4] false (.range (.cons (.int 4) (.cons (.int 8) .nil))) (.cons (.aug .bor 3 (.call 27 (.cons (.var 0) (.cons (.var 4) (.cons (.var 1) (.cons (.var 2) .nil)))))) .nil)) ρ1 σ =
      some (.next, [some (.ref I.g), some (.int s), some (.int occ), some (.int (seen c r occ s [4, 5, 6, 7] 0 : Nat)), x'], σ ++ [(false, .rng 4 8 1)]) := by
    have rl : rngList 4 8 1 = some [4, 5, 6, 7] := rfl
    exact s_forR (d_range2 d_int d_int rfl) List.getElem?_concat_length rl lp
  exact fun_ret (Fs := Fs2) (np := 3) (ns := 5) (body := B_bishop_attacks) rfl ((exes_go st1).trans ((exes_go st2).trans (exes_ret rfl)))
end Mine
namespace Mine
open PySem.Builtin PyProof.Rows

/-- what stands stands on -/
noncomputable def Up (σ σ' : AH) : Prop := ∀ (i : Nat) (e : Bool × AO), σ[i]? = some e → σ'[i]? = some e
theorem Up.refl (σ : AH) : Up σ σ := fun _ _ e => e
theorem Up.trans {a b c : AH} (x : Up a b) (y : Up b c) : Up a c := fun i e h => y i e (x i e h)
theorem Up.app (σ t : AH) : Up σ (σ ++ t) := fun _ _ h => up_ h
theorem Up.kp {σ σ' : AH} (h : Up σ σ') : Kp σ σ' := fun i o _ e => h i o e

theorem queen_ok {σ : AH} {I : Ids} {c r s occ : Nat} (G : GeoAt σ I c r) (h : St1 σ) (hz : (c, r) ∈ sizes) (hs : s < c * r) :
    F_queen_attacks [.ref I.g, .int (s : Int), .int (occ : Int)] σ = some (.int ((seen c r occ s [0, 1, 2, 3] 0 ||| seen c r occ s [4, 5, 6, 7] 0 : Nat) : Int), (σ ++ [(false, .rng 0 4 1)]) ++ [(false, .rng 4 8 1)]) := by
  have e1 := rook_ok (occ := occ) G h hz hs
  have e2 := bishop_ok (occ := occ) (G.kp (Kp.app σ [(false, .rng 0 4 1)])) (up_ h) hz hs
  have f1 : Fs3[38]? = some F_rook_attacks := rfl
  have f2 : Fs3[39]? = some F_bishop_attacks := rfl
  have b1 := or_nat (seen c r occ s [0, 1, 2, 3] 0) (seen c r occ s [4, 5, 6, 7] 0)
  refine fun_ret (Fs := Fs3) (np := 3) (ns := 3) (body := B_queen_attacks) rfl (exes_ret (ρ' := [some (.ref I.g), some (.int s), some (.int occ)]) ?_)
  repeat' first | assumption | exact bandN _ _ | exact borN _ _ | exact shrV _ _ | exact l_nil | apply l_cons | apply s_asg | apply s_ret | apply s_aug | apply d_bin | apply d_sub | apply d_attr | apply d_cmp | apply d_call | exact d_var rfl | exact rfl

/-- the directions of a slider -/
noncomputable def dirs (k : Nat) : List Nat := if k = 3 then [4, 5, 6, 7] else if k = 4 then [0, 1, 2, 3] else [0, 1, 2, 3, 4, 5, 6, 7]
theorem slider_ok {σ : AH} {I : Ids} {c r s occ k : Nat} (G : GeoAt σ I c r) (h : St1 σ) (hz : (c, r) ∈ sizes) (hs : s < c * r) (hk : k = 3 ∨ k = 4 ∨ k = 5) :
    ∃ (m : Nat) (σ' : AH), F_slider_attacks [.ref I.g, .int (k : Int), .int (s : Int), .int (occ : Int)] σ = some (.int (m : Int), σ') ∧ Up σ σ' ∧ ∀ g, m.testBit g = (dirs k).any fun d => decide (g ∈ tk (fun i => occ.testBit i) false (rayL c r d s)) := by
  have e1 := rook_ok (occ := occ) G h hz hs
  have e2 := bishop_ok (occ := occ) G h hz hs
  have e3 := queen_ok (occ := occ) G h hz hs
  have f1 : Fs4[38]? = some F_rook_attacks := rfl
  have f2 : Fs4[39]? = some F_bishop_attacks := rfl
  have f3 : Fs4[42]? = some F_queen_attacks := rfl
  let ρ : Rho := [some (.ref I.g), some (.int k), some (.int s), some (.int occ)]
  rcases hk with rfl | rfl | rfl
  · exact ⟨_, _, fun_ret (Fs := Fs4) (np := 4) (ns := 4) (body := B_slider_attacks) (ρ' := ρ) rfl (exes_ret (s_yretd (d_cmp (d_var rfl) d_gint (c_eqN (b := 3))) rfl (d_call (l_cons (d_var rfl) (l_cons (d_var rfl) (l_cons (d_var rfl) l_nil))) f2 e2))), Up.app σ _, fun g => by rw [seen_bit, Nat.zero_testBit, Bool.false_or]; rfl⟩
  · exact ⟨_, _, fun_ret (Fs := Fs4) (np := 4) (ns := 4) (body := B_slider_attacks) (ρ' := ρ) rfl ((exes_go (s_nod (d_cmp (d_var rfl) d_gint (c_eqN (b := 3))) (by decide))).trans (exes_ret (s_yretd (d_cmp (d_var rfl) d_gint (c_eqN (b := 4))) rfl (d_call (l_cons (d_var rfl) (l_cons (d_var rfl) (l_cons (d_var rfl) l_nil))) f1 e1)))), Up.app σ _, fun g => by rw [seen_bit, Nat.zero_testBit, Bool.false_or]; rfl⟩
  · exact ⟨_, _, fun_ret (Fs := Fs4) (np := 4) (ns := 4) (body := B_slider_attacks) (ρ' := ρ) rfl ((exes_go (s_nod (d_cmp (d_var rfl) d_gint (c_eqN (b := 3))) (by decide))).trans ((exes_go (s_nod (d_cmp (d_var rfl) d_gint (c_eqN (b := 4))) (by decide))).trans (exes_ret (s_yretd (d_cmp (d_var rfl) d_gint (c_eqN (b := 5))) rfl (d_call (l_cons (d_var rfl) (l_cons (d_var rfl) (l_cons (d_var rfl) l_nil))) f3 e3))))), (Up.app σ _).trans (Up.app _ _), fun g => by
      rw [Nat.testBit_or, seen_bit, seen_bit, Nat.zero_testBit, Bool.false_or, Bool.false_or, ← List.any_append]; rfl⟩

/-- what a man of kind k and side t on s hits, when the squares of occ are taken -/
noncomputable def hitsL (c r occ k t s : Nat) : List Nat := (waysOf k t).flatMap fun w => tk (fun i => occ.testBit i) (leapK k) (wayL c r s w)
theorem leap_mem {c r occ k t s : Nat} (h : leapK k = true) : hitsL c r occ k t s = leapL c r s (waysOf k t) := by
  unfold hitsL leapL
  congr 1
  funext w
  rw [h, tk_leap]
theorem dirs_mem {c r occ s g k t : Nat} (hk : k = 3 ∨ k = 4 ∨ k = 5) : ((dirs k).any fun d => decide (g ∈ tk (fun i => occ.testBit i) false (rayL c r d s))) = decide (g ∈ hitsL c r occ k t s) := by
  have l : leapK k = false := by rcases hk with rfl | rfl | rfl <;> rfl
  have h1 : (∀ d ∈ dirs k, (dxs d, dys d) ∈ waysOf k t) ∧ ∀ w ∈ waysOf k t, ∃ d ∈ dirs k, (dxs d, dys d) = w := by
    rcases hk with rfl | rfl | rfl
    · show (∀ d ∈ dirs 3, (dxs d, dys d) ∈ slant) ∧ ∀ w ∈ slant, ∃ d ∈ dirs 3, (dxs d, dys d) = w
      decide
    · show (∀ d ∈ dirs 4, (dxs d, dys d) ∈ straight) ∧ ∀ w ∈ straight, ∃ d ∈ dirs 4, (dxs d, dys d) = w
      decide
    · show (∀ d ∈ dirs 5, (dxs d, dys d) ∈ slant ++ straight) ∧ ∀ w ∈ slant ++ straight, ∃ d ∈ dirs 5, (dxs d, dys d) = w
      decide
  rw [Bool.eq_iff_iff, List.any_eq_true, decide_eq_true_eq]
  unfold hitsL
  rw [l, List.mem_flatMap]
  constructor
  · intro ⟨d, hd, h⟩
    exact ⟨_, h1.1 d hd, of_decide_eq_true h⟩
  · intro ⟨w, hw, h⟩
    obtain ⟨d, hd, e⟩ := h1.2 w hw
    exact ⟨d, hd, decide_eq_true (by rw [← e] at h; exact h)⟩

theorem piece_ok {σ : AH} {I : Ids} {c r s occ k t : Nat} (G : GeoAt σ I c r) (h : St1 σ) (hz : (c, r) ∈ sizes) (hs : s < c * r) (hk : 1 ≤ k ∧ k ≤ 6) (ht : t < 2) :
    ∃ (m : Nat) (σ' : AH), F_piece_attacks [.ref I.g, .int (t : Int), .int (k : Int), .int (s : Int), .int (occ : Int)] σ = some (.int (m : Int), σ') ∧ Up σ σ' ∧ ∀ g, m.testBit g = decide (g ∈ hitsL c r occ k t s) := by
  let ρ : Rho := [some (.ref I.g), some (.int t), some (.int k), some (.int s), some (.int occ)]
  have := (show ∀ k < 7, 1 ≤ k → (k = 1 ∨ k = 2 ∨ k = 6 ∨ (k = 3 ∨ k = 4 ∨ k = 5)) by decide) k (Nat.lt_succ_of_le hk.2) hk.1
  rcases this with rfl | rfl | rfl | hk
  · exact ⟨_, _, fun_ret (Fs := Fs5) (np := 5) (ns := 5) (body := B_piece_attacks) (ρ' := ρ) (v := .int (maskL (pawnL c r t s))) (σ' := σ) rfl (exes_ret (s_yretd (d_cmp (d_var rfl) d_gint (c_eqN (b := 1))) rfl (d_sub (d_sub (d_attr (d_var rfl) G.pawn.2) (d_var rfl) (G.pawn1 t ht).2) (d_var rfl) (G.pawn2 t ht s hs).2))), Up.refl σ, fun g => by rw [maskL_bit, leap_mem rfl]; rfl⟩
  · exact ⟨_, _, fun_ret (Fs := Fs5) (np := 5) (ns := 5) (body := B_piece_attacks) (ρ' := ρ) (v := .int (maskL (knightL c r s))) (σ' := σ) rfl ((exes_go (s_nod (d_cmp (d_var rfl) d_gint (c_eqN (b := 1))) (by decide))).trans (exes_ret (s_yretd (d_cmp (d_var rfl) d_gint (c_eqN (b := 2))) rfl (d_sub (d_attr (d_var rfl) G.knight.2) (d_var rfl) (G.knight2 s hs).2)))), Up.refl σ, fun g => by rw [maskL_bit, leap_mem rfl]; rfl⟩
  · exact ⟨_, _, fun_ret (Fs := Fs5) (np := 5) (ns := 5) (body := B_piece_attacks) (ρ' := ρ) (v := .int (maskL (kingL c r s))) (σ' := σ) rfl ((exes_go (s_nod (d_cmp (d_var rfl) d_gint (c_eqN (b := 1))) (by decide))).trans ((exes_go (s_nod (d_cmp (d_var rfl) d_gint (c_eqN (b := 2))) (by decide))).trans (exes_ret (s_yretd (d_cmp (d_var rfl) d_gint (c_eqN (b := 6))) rfl (d_sub (d_attr (d_var rfl) G.king.2) (d_var rfl) (G.king2 s hs).2))))), Up.refl σ, fun g => by rw [maskL_bit, leap_mem rfl]; rfl⟩
  · obtain ⟨m, σ', run, up, bit⟩ := slider_ok (occ := occ) G h hz hs hk
    have f46 : Fs5[46]? = some F_slider_attacks := rfl
    have ne : k ≠ 1 ∧ k ≠ 2 ∧ k ≠ 6 := by rcases hk with rfl | rfl | rfl <;> decide
    exact ⟨m, σ', fun_ret (Fs := Fs5) (np := 5) (ns := 5) (body := B_piece_attacks) (ρ' := ρ) rfl ((exes_go (s_nod (d_cmp (d_var rfl) d_gint (c_eqN (b := 1))) ne.1)).trans ((exes_go (s_nod (d_cmp (d_var rfl) d_gint (c_eqN (b := 2))) ne.2.1)).trans ((exes_go (s_nod (d_cmp (d_var rfl) d_gint (c_eqN (b := 6))) ne.2.2)).trans (exes_ret (s_ret (d_call (l_cons (d_var rfl) (l_cons (d_var rfl) (l_cons (d_var rfl) (l_cons (d_var rfl) l_nil)))) f46 run)))))), up, fun g => by rw [bit, dirs_mem (t := t) hk]⟩
end Mine
namespace Mine
open PySem.Builtin PyProof.Rows

/-! ## The law's own reasons -/
theorem ints_nats : ∀ l : List Nat, intsOf (natsV l) = some (l.map fun (n : Nat) => (n : Int))
  | [] => rfl
  | a :: l => by
    have := ints_nats l
    unfold natsV at this ⊢
    simp only [List.map_cons, intsOf, this, Option.map_some]
theorem has_nats (l : List Nat) (g : Nat) : (l.map fun (n : Nat) => (n : Int)).contains (g : Int) = decide (g ∈ l) := by
  rw [Bool.eq_iff_iff]
  simp only [List.contains_iff_mem, List.mem_map, decide_eq_true_eq]
  exact ⟨fun ⟨a, h, e⟩ => by rw [← Int.ofNat_inj.mp e]; exact h, fun h => ⟨g, h, rfl⟩⟩
theorem seq_at {σ : AH} {a : Nat} {m : Bool} {xs : List AV} (h : σ[a]? = some (m, .lst xs)) : seqOf (.ref a) σ = some xs := by
  unfold seqOf; simp only [h]

structure Bd (c r : Nat) (B : List Nat) : Prop where
  hz : (c, r) ∈ sizes
  len : B.length = c * r
  men : okMen B
theorem size_cases {c r : Nat} (h : (c, r) ∈ sizes) : (c = 3 ∨ c = 4) ∧ (r = 3 ∨ r = 4) := by
  simp only [sizes, List.mem_cons, Prod.mk.injEq, List.not_mem_nil, or_false] at h
  omega
theorem Bd.small {c r : Nat} {B : List Nat} (h : Bd c r B) : 0 < c ∧ c ≤ 4 ∧ r ≤ 4 ∧ c * r ≤ 16 ∧ 3 ≤ r ∧ 9 ≤ c * r := by
  have := size_cases h.hz
  rcases this with ⟨rfl | rfl, rfl | rfl⟩ <;> decide
theorem men_sq {c r : Nat} {B : List Nat} (h : Bd c r B) (s : Nat) : sq B s ∈ ([0, 1, 2, 3, 4, 5, 6, 9, 10, 11, 12, 13, 14] : List Nat) := by
  unfold sq List.getD
  cases q : B[s]? with
  | none => simp
  | some x => exact h.men _ (List.mem_of_getElem? q)
theorem men_of {c r : Nat} {B : List Nat} (h : Bd c r B) {s : Nat} (h0 : sq B s ≠ 0) :
    (1 ≤ sq B s % 8 ∧ sq B s % 8 ≤ 6) ∧ sq B s / 8 < 2 ∧ sq B s &&& 7 = sq B s % 8 ∧ sq B s < 15 ∧ (sq B s / 8 = if sq B s > 8 then 1 else 0) := by
  have := men_sq h s
  simp only [List.mem_cons, List.not_mem_nil, or_false] at this
  rcases this with e | e | e | e | e | e | e | e | e | e | e | e | e <;> rw [e] at h0 ⊢ <;> first | exact absurd rfl h0 | decide

noncomputable def aheadI (c t : Nat) : Int := if t = 1 then -(c : Int) else c
noncomputable def lastN (r t : Nat) : Nat := if t = 1 then 0 else r - 1
noncomputable def lawMay (c r : Nat) (B : List Nat) (t o g sort : Nat) : Bool :=
  if 1 < sort ∨ (sq B o % 8 ≠ 1 ∧ sort = 1) then false else
  if sq B o % 8 ≠ 1 then decide (g ∈ reachedL c r B o) else
  if decide (g / c = lastN r t) != decide (sort = 1) then false else
  (decide (g ∈ reachedL c r B o) && decide (sq B g ≠ 0)) || (decide ((g : Int) = o + aheadI c t) && decide (sq B g = 0))

theorem sub11 {σ : AH} {B : List Nat} {c r : Nat} (b : Bd c r B) (hb : σ[11]? = some (true, .lst (natsV B))) {s : Nat} (hs : s < c * r) : subV (.ref 11) (.int (s : Int)) σ = some (.int ((sq B s : Nat) : Int)) := by
  have hs' : s < B.length := by rw [b.len]; exact hs
  have e : sq B s = B[s] := by simp [sq, List.getD, hs']
  rw [e]
  exact sub_at hb (by simp [natsV, hs']) (by have := b.small; omega)
theorem fdiv_ok {a b : Nat} (hb : 0 < b) (h : b ≤ 100) : binV .fdiv (a : Int) (b : Int) = some ((a / b : Nat) : Int) := by
  simp only [binV]
  rw [if_pos (by simp only [Bool.and_eq_true, decide_eq_true_eq, smallB_iff]; omega), Int.fdiv_eq_ediv_of_nonneg _ (by exact Int.natCast_nonneg _)]; rfl
theorem mod_ok {a b : Nat} (hb : 0 < b) : binV .mod (a : Int) (b : Int) = some ((a % b : Nat) : Int) := by
  simp only [binV]
  rw [if_pos (by simp; omega), Int.fmod_eq_emod_of_nonneg _ (by exact Int.natCast_nonneg _)]; rfl
theorem beq_nat (a b : Nat) : ((a : Int) == (b : Int)) = decide (a = b) := by
  rw [Bool.eq_iff_iff]; simp only [beq_iff_eq, decide_eq_true_eq]; omega
theorem bne_nat (a b : Nat) : ((a : Int) != (b : Int)) = decide (a ≠ b) := by
  rw [Bool.eq_iff_iff]; simp only [bne_iff_ne, decide_eq_true_eq]; omega

theorem may_ok {σ : AH} {c r o g sort : Nat} {B : List Nat} (b : Bd c r B) (hb : σ[11]? = some (true, .lst (natsV B))) (ho : o < c * r) (hg : g < c * r) (h0 : sq B o ≠ 0) {t : Nat} (ht : sq B o / 8 = t) :
    ∃ σ', F__law_may [.int c, .ref 11, .int o, .int g, .int sort] σ = some (.bool (lawMay c r B t o g sort), σ') ∧ Up σ σ' := by
  obtain ⟨c0, c4, r4, n16, r3, n9⟩ := b.small
  obtain ⟨k16, t2, _, k15, k8⟩ := men_of b h0
  let ρ0 : Rho := [some (.int c), some (.ref 11), some (.int o), some (.int g), some (.int sort), none, none, none]
  have fin : ∀ {v : AV} {σ' : AH} {ρ' : Rho}, exes Fs2 B__law_may ρ0 σ = some (.ret v, ρ', σ') → F__law_may [.int c, .ref 11, .int o, .int g, .int sort] σ = some (v, σ') := fun h => fun_ret (Fs := Fs2) (np := 5) (ns := 8) (body := B__law_may) rfl h
  have m8 : binV .mod (sq B o : Int) 8 = some ((sq B o % 8 : Nat) : Int) := v_modN (b := 8) (by decide)
  have t1 : den Fs2 (.bop true (.cons (.cmp .gt (.var 4) (.int 1)) (.cons (.bop false (.cons (.cmp .ne (.bin .mod (.sub (.var 1) (.var 2)) (.int 8)) (.int 1)) (.cons (.cmp .eq (.var 4) (.int 1)) .nil))) .nil))) ρ0 σ =
      some (.bool (decide (1 < sort ∨ (sq B o % 8 ≠ 1 ∧ sort = 1))), σ) :=
    d_isb (d_bop (b_or (d_cmp (d_var rfl) d_int c_gt1) (b_one (d_bop (b_and (d_cmp (d_bin (d_sub (d_var rfl) (d_var rfl) (sub11 b hb ho)) d_int m8) d_int c_ne1) (b_one (d_cmp (d_var rfl) d_int c_eq1))))))) (by rw [Bool.decide_or, Bool.decide_and])
  by_cases q : 1 < sort ∨ (sq B o % 8 ≠ 1 ∧ sort = 1)
  · have lv : lawMay c r B t o g sort = false := by unfold lawMay; rw [if_pos q]
    rw [lv]
    exact ⟨σ, fin (exes_ret (s_yretd t1 q rfl)), Up.refl σ⟩
  have st1 := s_nod (a := .cons (.ret (.bool false)) .nil) t1 q
  obtain ⟨fnd, σ1, run1, up1, l1⟩ := reached_ok hb b.len ⟨c0, c4⟩ r4 (by rw [b.len]; exact ho) k16 (Nat.lt_trans k15 (by decide))
  have hb1 := up1 _ _ hb
  let hits : Bool := decide (g ∈ reachedL c r B o)
  let ρ1 : Rho := [some (.int c), some (.ref 11), some (.int o), some (.int g), some (.int sort), some (.bool hits), none, none]
  have st2 : exe Fs2 (.asg 5 (.isIn false (.var 3) (.call 35 (.cons (.var 0) (.cons (.var 1) (.cons (.var 2) .nil)))))) ρ0 σ = some (.next, ρ1, σ1) :=
    s_asg (d_isb (b' := hits) (d_in (d_var rfl) (d_call (l_cons (d_var rfl) (l_cons (d_var rfl) (l_cons (d_var rfl) l_nil))) rfl run1) (seq_at l1) (ints_nats _)) (has_nats _ g))
  have fin := fun {v : AV} {σ' : AH} {ρ' : Rho} h => fin (v := v) (σ' := σ') (ρ' := ρ') ((exes_go st1).trans ((exes_go st2).trans h))
  have t3 : den Fs2 (.cmp .ne (.bin .mod (.sub (.var 1) (.var 2)) (.int 8)) (.int 1)) ρ1 σ1 = some (.bool (decide (sq B o % 8 ≠ 1)), σ1) := d_cmp (d_bin (d_sub (d_var rfl) (d_var rfl) (sub11 b hb1 ho)) d_int m8) d_int c_ne1
  by_cases q2 : sq B o % 8 ≠ 1
  · have lv : lawMay c r B t o g sort = hits := by unfold lawMay; rw [if_neg q, if_pos q2]
    rw [lv]
    exact ⟨σ1, fin (exes_ret (s_yretd t3 q2 (d_var rfl))), up1⟩
  have st3 := s_nod (a := .cons (.ret (.var 5)) .nil) t3 q2
  let ρ2 : Rho := [some (.int c), some (.ref 11), some (.int o), some (.int g), some (.int sort), some (.bool hits), some (.int (aheadI c t)), none]
  let ρ3 : Rho := [some (.int c), some (.ref 11), some (.int o), some (.int g), some (.int sort), some (.bool hits), some (.int (aheadI c t)), some (.int (lastN r t))]
  have g8 : (8 < sq B o) = (t = 1) := by
    rw [← ht, k8]
    by_cases w : sq B o > 8
    · rw [if_pos w]; exact propext ⟨fun _ => rfl, fun _ => w⟩
    · rw [if_neg w]; exact propext ⟨fun h => absurd h w, fun h => absurd h (by decide)⟩
  have tb : ∀ ρ : Rho, ρ[1]? = some (some (.ref 11)) → ρ[2]? = some (some (.int o)) → den Fs2 (.cmp .gt (.sub (.var 1) (.var 2)) (.int 8)) ρ σ1 = some (.bool (decide (8 < sq B o)), σ1) := fun ρ h1 h2 => d_cmp (d_sub (d_var h1) (d_var h2) (sub11 b hb1 ho)) d_int c_gt8
  have st4 : exe Fs2 (.asg 6 (.ite (.cmp .gt (.sub (.var 1) (.var 2)) (.int 8)) (.una .neg (.var 0)) (.var 0))) ρ1 σ1 = some (.next, ρ2, σ1) := by
    by_cases w : t = 1
    · have av : aheadI c t = -(c : Int) := if_pos w
      show _ = some (Fl.next, ρ1.set 6 (some (.int (aheadI c t))), σ1)
      rw [av]
      exact s_asg (d_iteT (d_isb (tb ρ1 rfl rfl) (decide_eq_true (g8 ▸ w))) (d_neg (d_var rfl)))
    · have av : aheadI c t = c := if_neg w
      show _ = some (Fl.next, ρ1.set 6 (some (.int (aheadI c t))), σ1)
      rw [av]
      exact s_asg (d_iteF (d_isb (tb ρ1 rfl rfl) (decide_eq_false (g8 ▸ w))) (d_var rfl))
  have st5 : exe Fs2 (.asg 7 (.ite (.cmp .gt (.sub (.var 1) (.var 2)) (.int 8)) (.int 0) (.bin .sub (.bin .fdiv (.len (.var 1)) (.var 0)) (.int 1)))) ρ2 σ1 = some (.next, ρ3, σ1) := by
    by_cases w : t = 1
    · have av : lastN r t = 0 := if_pos w
      show _ = some (Fl.next, ρ2.set 7 (some (.int (lastN r t))), σ1)
      rw [av]
      exact s_asg (d_iteT (d_isb (tb ρ2 rfl rfl) (decide_eq_true (g8 ▸ w))) d_int)
    · have av : lastN r t = r - 1 := if_neg w
      have ln : (natsV B).length = c * r := by rw [natsV, List.length_map, b.len]
      have dl := d_len (Fs := Fs2) (ρ := ρ2) (e := .var 1) (d_var rfl) (seq_at hb1) (by rw [ln]; exact Nat.le_trans n16 (by decide))
      rw [ln] at dl
      have d1 : binV .fdiv ((c * r : Nat) : Int) c = some ((r : Nat) : Int) := (v_divN c0 (Nat.le_trans c4 (by decide))).trans (by rw [Nat.mul_div_cancel_left r c0])
      show _ = some (Fl.next, ρ2.set 7 (some (.int (lastN r t))), σ1)
      rw [av]
      exact s_asg (d_iteF (d_isb (tb ρ2 rfl rfl) (decide_eq_false (g8 ▸ w))) (d_bin (d_bin dl (d_var rfl) d1) d_int (v_subN (b := 1) (Nat.le_trans (by decide) r3))))
  have t6 : den Fs2 (.cmp .ne (.cmp .eq (.bin .fdiv (.var 3) (.var 0)) (.var 7)) (.cmp .eq (.var 4) (.int 1))) ρ3 σ1 = some (.bool (decide (g / c = lastN r t) != decide (sort = 1)), σ1) :=
    d_cmp (d_cmp (d_bin (d_var rfl) (d_var rfl) (v_divN c0 (Nat.le_trans c4 (by decide)))) (d_var rfl) c_eqN) (d_cmp (d_var rfl) d_int c_eq1) rfl
  have fin := fun {v : AV} {σ' : AH} {ρ' : Rho} h => fin (v := v) (σ' := σ') (ρ' := ρ') ((exes_go st3).trans ((exes_go st4).trans ((exes_go st5).trans h)))
  cases q6 : (decide (g / c = lastN r t) != decide (sort = 1)) with
  | true =>
    have lv : lawMay c r B t o g sort = false := by unfold lawMay; rw [if_neg q, if_neg q2, if_pos q6]
    rw [lv]
    exact ⟨σ1, fin (exes_ret (s_yret (d_isb t6 q6) rfl)), up1⟩
  | false =>
    have st6 := s_no (a := .cons (.ret (.bool false)) .nil) (d_isb t6 q6)
    have lv : lawMay c r B t o g sort = ((decide (g ∈ reachedL c r B o) && decide (sq B g ≠ 0)) || (decide ((g : Int) = o + aheadI c t) && decide (sq B g = 0))) := by unfold lawMay; rw [if_neg q, if_neg q2, if_neg (by rw [q6]; decide)]
    rw [lv]
    exact ⟨σ1, fin ((exes_go st6).trans (exes_ret (s_ret (d_bop (b_or (d_bop (b_and (d_var rfl) (b_one (d_cmp (d_sub (d_var rfl) (d_var rfl) (sub11 b hb1 hg)) d_int c_ne0)))) (b_one (d_bop (b_and (d_cmp (d_var rfl) (d_bin (d_var rfl) (d_var rfl) rfl) rfl) (b_one (d_cmp (d_sub (d_var rfl) (d_var rfl) (sub11 b hb1 hg)) d_int c_eq0)))))))))), up1⟩
end Mine
namespace Mine
open PySem.Builtin PyProof.Rows

noncomputable def own (B : List Nat) (t s : Nat) : Bool := decide (sq B s ≠ 0) && decide (sq B s / 8 = t)
noncomputable def ownL (n : Nat) (B : List Nat) (t : Nat) : List Nat := (List.range n).filter (own B t)
noncomputable def reasonN (c r : Nat) (B : List Nat) (t o g sort field : Nat) : Int :=
  if o = g ∨ (sort ≠ 1 ∧ 0 < field) then 1 else
  if c * r ≤ o ∨ c * r ≤ g then 2 else
  if own B t o = false then 3 else
  if own B t g = true then 4 else
  if lawMay c r B t o g sort then 0 else 5
noncomputable def reason (c r : Nat) (B : List Nat) (t : Nat) (m : Int) : Int :=
  if m < 1 ∨ 65535 < m then 1 else reasonN c r B t (m.toNat / 64 % 64) (m.toNat % 64) (m.toNat / 16384) (m.toNat / 4096 % 4)
theorem own_mem {n : Nat} {B : List Nat} {t s : Nat} : s ∈ ownL n B t ↔ s < n ∧ own B t s = true := by
  unfold ownL; rw [List.mem_filter, List.mem_range]

theorem fdivI (m : Int) {b : Nat} (hb : 0 < b) (h : b ≤ 100000) : binV .fdiv m (b : Int) = some (Int.fdiv m b) := by
  simp only [binV]
  rw [if_pos (by simp only [Bool.and_eq_true, decide_eq_true_eq, smallB_iff]; omega)]
theorem fmodI (m : Int) {b : Nat} (hb : 0 < b) : binV .mod m (b : Int) = some (Int.fmod m b) := by
  simp only [binV]
  rw [if_pos (by simp; omega)]
theorem fdiv_cast (n b : Nat) : Int.fdiv (n : Int) (b : Int) = ((n / b : Nat) : Int) := by
  rw [Int.fdiv_eq_ediv_of_nonneg _ (by omega)]; rfl
theorem fmod_cast (n b : Nat) : Int.fmod (n : Int) (b : Int) = ((n % b : Nat) : Int) := by
  rw [Int.fmod_eq_emod_of_nonneg _ (by omega)]; rfl
theorem le_nat (a b : Nat) : decide ((b : Int) ≤ (a : Int)) = decide (b ≤ a) := by rw [decide_eq_decide]; omega

noncomputable def rT1 : IE := .bop true (.cons (.cmp .lt (.var 3) (.int 1)) (.cons (.cmp .gt (.var 3) (.int 65535)) (.cons (.cmp .eq (.var 6) (.var 7)) (.cons (.bop false (.cons (.cmp .ne (.var 4) (.int 1)) (.cons (.cmp .gt (.var 5) (.int 0)) .nil))) .nil))))
noncomputable def rT2 : IE := .bop true (.cons (.cmp .ge (.var 6) (.len (.var 1))) (.cons (.cmp .ge (.var 7) (.len (.var 1))) .nil))
noncomputable def rRest : ISs := .cons (.ite rT1 (.cons (.ret (.int 1)) .nil) .nil) (.cons (.ite rT2 (.cons (.ret (.int 2)) .nil) .nil) (.cons (.ite (.isIn true (.var 6) (.var 2)) (.cons (.ret (.int 3)) .nil) .nil) (.cons (.ite (.isIn false (.var 7) (.var 2)) (.cons (.ret (.int 4)) .nil) .nil) (.cons (.ret (.ite (.call 41 (.cons (.var 0) (.cons (.var 1) (.cons (.var 6) (.cons (.var 7) (.cons (.var 4) .nil)))))) (.int 0) (.int 5))) .nil))))
theorem reason_n {σ : AH} {c r t oid o g sort field : Nat} {B : List Nat} {m : Int} (b : Bd c r B) (hb : σ[11]? = some (true, .lst (natsV B))) (ho : σ[oid]? = some (true, .lst (natsV (ownL (c * r) B t)))) (q1 : ¬ m < 1) (q2 : ¬ 65535 < m) :
    ∃ (σ' : AH) (ρ' : Rho), exes Fs3 rRest [some (.int c), some (.ref 11), some (.ref oid), some (.int m), some (.int sort), some (.int field), some (.int o), some (.int g)] σ = some (.ret (.int (reasonN c r B t o g sort field)), ρ', σ') ∧ Up σ σ' := by
  let ρ : Rho := [some (.int c), some (.ref 11), some (.ref oid), some (.int m), some (.int sort), some (.int field), some (.int o), some (.int g)]
  have t1 : den Fs3 rT1 ρ σ = some (.bool (decide (o = g ∨ (sort ≠ 1 ∧ 0 < field))), σ) := by
    refine d_isb (d_bop (b_or (d_cmp (d_var rfl) d_int rfl) (b_or (d_cmp (d_var rfl) d_int rfl) (b_or (d_cmp (d_var rfl) (d_var rfl) c_eqN) (b_one (d_bop (b_and (d_cmp (d_var rfl) d_int c_ne1) (b_one (d_cmp (d_var rfl) d_int c_gt0))))))))) ?_
    · rw [decide_eq_false q1, decide_eq_false q2, Bool.false_or, Bool.false_or, Bool.decide_or, Bool.decide_and]
  by_cases p1 : o = g ∨ (sort ≠ 1 ∧ 0 < field)
  · have lv : reasonN c r B t o g sort field = 1 := if_pos p1
    rw [lv]
    exact ⟨σ, ρ, exes_ret (s_yretd t1 p1 d_int), Up.refl σ⟩
  have e1 := s_nod (a := .cons (.ret (.int 1)) .nil) t1 p1
  have ln : (natsV B).length = c * r := by rw [natsV, List.length_map, b.len]
  have sm := b.small.2.2.2.1
  have t2 : den Fs3 rT2 ρ σ = some (.bool (decide (c * r ≤ o ∨ c * r ≤ g)), σ) := by
    have dl : den Fs3 (.len (.var 1)) ρ σ = some (.int (c * r : Nat), σ) := ln ▸ d_len (d_var rfl) (seq_at hb) (ln ▸ Nat.le_trans sm (by decide))
    exact d_isb (d_bop (b_or (d_cmp (d_var rfl) dl c_geN) (b_one (d_cmp (d_var rfl) dl c_geN)))) (Bool.decide_or ..).symm
  by_cases p2 : c * r ≤ o ∨ c * r ≤ g
  · have lv : reasonN c r B t o g sort field = 2 := by unfold reasonN; rw [if_neg p1, if_pos p2]
    rw [lv]
    exact ⟨σ, ρ, (exes_go e1).trans (exes_ret (s_yretd t2 p2 d_int)), Up.refl σ⟩
  have e2 := s_nod (a := .cons (.ret (.int 2)) .nil) t2 p2
  have ho' : o < c * r := Nat.lt_of_not_le fun h => p2 (.inl h)
  have hg' : g < c * r := Nat.lt_of_not_le fun h => p2 (.inr h)
  have in_ : ∀ s, s < c * r → ((ownL (c * r) B t).map fun (n : Nat) => (n : Int)).contains (s : Int) = own B t s := fun s hs => by
    rw [has_nats, Bool.eq_iff_iff, decide_eq_true_eq, own_mem]; exact ⟨fun h => h.2, fun h => ⟨hs, h⟩⟩
  have t3 : den Fs3 (.isIn true (.var 6) (.var 2)) ρ σ = some (.bool (!own B t o), σ) := d_isb (d_in (d_var rfl) (d_var rfl) (seq_at ho) (ints_nats _)) (congrArg (fun x => !x) (in_ o ho'))
  cases p3 : own B t o with
  | false =>
    have lv : reasonN c r B t o g sort field = 3 := by unfold reasonN; rw [if_neg p1, if_neg p2, if_pos p3]
    rw [lv]
    exact ⟨σ, ρ, (exes_go e1).trans ((exes_go e2).trans (exes_ret (s_yret (by rw [t3, p3]; rfl) d_int))), Up.refl σ⟩
  | true =>
  have e3 : exe Fs3 (.ite (.isIn true (.var 6) (.var 2)) (.cons (.ret (.int 3)) .nil) .nil) ρ σ = some (.next, ρ, σ) := s_no (by rw [t3, p3]; rfl)
  have t4 : den Fs3 (.isIn false (.var 7) (.var 2)) ρ σ = some (.bool (own B t g), σ) := d_isb (d_in (d_var rfl) (d_var rfl) (seq_at ho) (ints_nats _)) (in_ g hg')
  cases p4 : own B t g with
  | true =>
    have lv : reasonN c r B t o g sort field = 4 := by unfold reasonN; rw [if_neg p1, if_neg p2, if_neg (by rw [p3]; decide), if_pos p4]
    rw [lv]
    exact ⟨σ, ρ, (exes_go e1).trans ((exes_go e2).trans ((exes_go e3).trans (exes_ret (s_yret (by rw [t4, p4]) d_int)))), Up.refl σ⟩
  | false =>
  have e4 : exe Fs3 (.ite (.isIn false (.var 7) (.var 2)) (.cons (.ret (.int 4)) .nil) .nil) ρ σ = some (.next, ρ, σ) := s_no (by rw [t4, p4])
  obtain ⟨p5, p6⟩ := Bool.and_eq_true_iff.mp p3
  obtain ⟨σ2, run, up2⟩ := may_ok (g := g) (sort := sort) b hb ho' hg' (of_decide_eq_true p5) (of_decide_eq_true p6)
  have f41 : Fs3[41]? = some F__law_may := rfl
  have dc : den Fs3 (.call 41 (.cons (.var 0) (.cons (.var 1) (.cons (.var 6) (.cons (.var 7) (.cons (.var 4) .nil)))))) ρ σ = some (.bool (lawMay c r B t o g sort), σ2) := d_call rfl f41 run
  have lv : reasonN c r B t o g sort field = if lawMay c r B t o g sort then 0 else 5 := by
    unfold reasonN; rw [if_neg p1, if_neg p2, if_neg (by rw [p3]; decide), if_neg (by rw [p4]; decide)]
  rw [lv]
  refine ⟨σ2, ρ, (exes_go e1).trans ((exes_go e2).trans ((exes_go e3).trans ((exes_go e4).trans (exes_ret (s_ret ?_))))), up2⟩
  cases q : lawMay c r B t o g sort with
  | true => exact d_iteT (q ▸ dc) d_int
  | false => exact d_iteF (q ▸ dc) d_int
theorem reason_ok {σ : AH} {c r t oid : Nat} {B : List Nat} {m : Int} (b : Bd c r B) (hb : σ[11]? = some (true, .lst (natsV B))) (ho : σ[oid]? = some (true, .lst (natsV (ownL (c * r) B t)))) :
    ∃ σ', F__law_reason [.int c, .ref 11, .ref oid, .int m] σ = some (.int (reason c r B t m), σ') ∧ Up σ σ' := by
  let v1 := Int.fdiv m 16384
  let v2 := Int.fmod (Int.fdiv m 4096) 4
  let v3 := Int.fmod (Int.fdiv m 64) 64
  let v4 := Int.fmod m 64
  let σ1 := σ ++ [(false, AO.tup [.int v1, .int v2, .int v3, .int v4])]
  let ρ0 : Rho := [some (.int c), some (.ref 11), some (.ref oid), some (.int m), none, none, none, none]
  let ρ1 : Rho := [some (.int c), some (.ref 11), some (.ref oid), some (.int m), some (.int v1), some (.int v2), some (.int v3), some (.int v4)]
  have up1 : Up σ σ1 := Up.app σ _
  have st1 : exe Fs3 (.asgT [4, 5, 6, 7] (.tup (.cons (.bin .fdiv (.var 3) (.int 16384)) (.cons (.bin .mod (.bin .fdiv (.var 3) (.int 4096)) (.int 4)) (.cons (.bin .mod (.bin .fdiv (.var 3) (.int 64)) (.int 64)) (.cons (.bin .mod (.var 3) (.int 64)) .nil)))))) ρ0 σ = some (.next, ρ1, σ1) := by
    have f : ∀ (m : Int) (b : Nat), 0 < b → b ≤ 100000 → binV .fdiv m (b : Int) = some (Int.fdiv m b) := fun m b h1 h2 => fdivI m h1 h2
    have d : den Fs3 (.tup (.cons (.bin .fdiv (.var 3) (.int 16384)) (.cons (.bin .mod (.bin .fdiv (.var 3) (.int 4096)) (.int 4)) (.cons (.bin .mod (.bin .fdiv (.var 3) (.int 64)) (.int 64)) (.cons (.bin .mod (.var 3) (.int 64)) .nil))))) ρ0 σ = some (.ref σ.length, σ1) := d_tup (l_cons (d_bin (d_var rfl) d_int (f m 16384 (by decide) (by decide))) (l_cons (d_bin (d_bin (d_var rfl) d_int (f m 4096 (by decide) (by decide))) d_int (fmodI _ (b := 4) (by decide))) (l_cons (d_bin (d_bin (d_var rfl) d_int (f m 64 (by decide) (by decide))) d_int (fmodI _ (b := 64) (by decide)))
      (l_cons (d_bin (d_var rfl) d_int (fmodI _ (b := 64) (by decide))) (l_nil (Fs := Fs3) (ρ := ρ0) (σ := σ)))))) rfl
    refine s_asgT d ?_
    have g : σ1[σ.length]? = some (false, .tup [.int v1, .int v2, .int v3, .int v4]) := List.getElem?_concat_length
    unfold bindT
    dsimp only
    rw [g]
    rfl
  by_cases q : m < 1 ∨ 65535 < m
  · have lv : reason c r B t m = 1 := if_pos q
    rw [lv]
    refine ⟨σ1, fun_ret (Fs := Fs3) (np := 4) (ns := 8) (body := B__law_reason) (ρ' := ρ1) rfl ((exes_go st1).trans (exes_ret (s_yret (c := rT1) ?_ d_int))), up1⟩
    by_cases q1 : m < 1
    · unfold rT1
      refine d_bop (b_stop (d_cmp (d_var rfl) d_int rfl) ?_)
      exact decide_eq_true q1
    · unfold rT1
      refine d_bop (d_isb' (b_or (d_cmp (d_var rfl) d_int rfl) (b_stop (d_cmp (d_var rfl) d_int rfl) ?_)) ?_)
      · exact decide_eq_true (q.resolve_left q1)
      · exact Bool.or_true _
  · obtain ⟨n, rfl⟩ : ∃ n : Nat, m = n := ⟨m.toNat, by omega⟩
    have lv : reason c r B t n = reasonN c r B t (n / 64 % 64) (n % 64) (n / 16384) (n / 4096 % 4) := by unfold reason; rw [if_neg q, Int.toNat_natCast]
    rw [lv]
    have w : ρ1 = [some (.int c), some (.ref 11), some (.ref oid), some (.int n), some (.int (n / 16384 : Nat)), some (.int (n / 4096 % 4 : Nat)), some (.int (n / 64 % 64 : Nat)), some (.int (n % 64 : Nat))] := by
      have w1 : v1 = ((n / 16384 : Nat) : Int) := fdiv_cast n 16384
      have w2 : v2 = ((n / 4096 % 4 : Nat) : Int) := (congrArg (fun x => Int.fmod x 4) (fdiv_cast n 4096)).trans (fmod_cast _ 4)
      have w3 : v3 = ((n / 64 % 64 : Nat) : Int) := (congrArg (fun x => Int.fmod x 64) (fdiv_cast n 64)).trans (fmod_cast _ 64)
      have w4 : v4 = ((n % 64 : Nat) : Int) := fmod_cast n 64
      show [_, _, _, _, some (AV.int v1), some (AV.int v2), some (AV.int v3), some (AV.int v4)] = _
      rw [w1, w2, w3, w4]
    rw [w] at st1
    obtain ⟨σ2, ρ', run, up2⟩ := reason_n (o := n / 64 % 64) (g := n % 64) (sort := n / 16384) (field := n / 4096 % 4) b (up1 _ _ hb) (up1 _ _ ho) (fun h => q (.inl h)) (fun h => q (.inr h))
    exact ⟨σ2, fun_ret (Fs := Fs3) (np := 4) (ns := 8) (body := B__law_reason) (ρ' := ρ') rfl ((exes_go st1).trans run), up1.trans up2⟩
end Mine
namespace Mine
open PySem.Builtin PyProof.Rows

/-! ## The position, and the first checks -/
structure PS (σ : AH) (I : Ids) (c r : Nat) (B : List Nat) (t : Nat) : Prop where
  geo : GeoAt σ I c r
  st1 : St1 σ
  b11 : σ[11]? = some (true, .lst (natsV B))
  pg : A σ I.p 14 (.ref I.g)
  pb : A σ I.p 18 (.ref I.bd)
  pk : A σ I.p 13 (.ref I.kd)
  ps : A σ I.p 15 (.ref I.sd)
  pt : A σ I.p 16 (.int t)
  pe : A σ I.p 17 (.int (-1))
  bd : ∀ s < c * r, Sb σ I.bd s (.int (sq B s : Nat))
  kd : ∀ k < 7, Sb σ I.kd k (.int (km B k (c * r) : Nat))
  sd : ∀ u < 2, Sb σ I.sd u (.int (sm B u (c * r) : Nat))
theorem PS.kp {σ σ' : AH} {I : Ids} {c r t : Nat} {B : List Nat} (P : PS σ I c r B t) (K : Kp σ σ') : PS σ' I c r B t :=
  ⟨P.geo.kp K, K 1 _ (by decide) P.st1, K 11 _ (by decide) P.b11, P.pg.kp K, P.pb.kp K, P.pk.kp K, P.ps.kp K, P.pt.kp K, P.pe.kp K, fun s h => (P.bd s h).kp K, fun s h => (P.kd s h).kp K, fun s h => (P.sd s h).kp K⟩

noncomputable def occM (n : Nat) (B : List Nat) : Nat := sm B 0 n ||| sm B 1 n
theorem occ_bit {c r : Nat} {B : List Nat} (b : Bd c r B) (s : Nat) : (occM (c * r) B).testBit s = (decide (s < c * r) && decide (sq B s ≠ 0)) := by
  unfold occM
  rw [Nat.testBit_or, sm_bit, sm_bit]
  by_cases h : sq B s ≠ 0
  · have h2 := (men_of b h).2.1
    have : sq B s / 8 = 0 ∨ sq B s / 8 = 1 := by omega
    rcases this with e | e <;> simp [h, e]
  · simp [h]
theorem own_bit {n t s : Nat} {B : List Nat} : (sm B t n).testBit s = (decide (s < n) && own B t s) := by
  rw [sm_bit]; unfold own; rw [Bool.and_assoc]
theorem hits_reached {c r o : Nat} {B : List Nat} (b : Bd c r B) (h0 : sq B o ≠ 0) : hitsL c r (occM (c * r) B) (sq B o % 8) (sq B o / 8) o = reachedL c r B o := by
  unfold hitsL reachedL
  rw [(men_of b h0).2.2.2.2]
  congr 1
  funext w
  apply tk_congr
  intro s hs
  have lt : s < c * r := way_lt hs
  rw [occ_bit b, decide_eq_true lt, Bool.true_and, Bool.eq_iff_iff]
  simp only [decide_eq_true_eq, bne_iff_ne]
theorem bit1 (m s : Nat) : (bitAnd ((m >>> s : Nat) : Int) 1 == 1) = m.testBit s := by
  rw [bit_nat]; cases m.testBit s <;> rfl
theorem bitb (m s : Nat) : truth (.int (bitAnd ((m >>> s : Nat) : Int) 1)) = some (m.testBit s) := by
  rw [bit_nat]; cases m.testBit s <;> rfl

theorem castling_ok {σ : AH} {I : Ids} {c r t : Nat} {B : List Nat} (P : PS σ I c r B t) (ht : t < 2) (o g : AV) : F_castling_of [.ref I.p, o, g] σ = some (.int (-1), σ ++ [(false, .rng 0 2 1)]) := by
  let bd : ISs := .cons (.asg 4 (.bin .add (.bin .mul (.attr (.var 0) 16) (.int 2)) (.var 3))) (.cons (.asg 5 (.sub (.attr (.attr (.var 0) 14) 12) (.var 4))) (.cons (.ite (.bop false (.cons (.isNone true (.var 5)) (.cons (.cmp .eq (.sub (.var 5) (.int 0)) (.var 1)) (.cons (.cmp .eq (.sub (.var 5) (.int 1)) (.var 2)) .nil)))) (.cons (.ret (.var 4)) .nil) .nil) .nil))
  let σ1 := σ ++ [(false, .rng 0 2 1)]
  have P1 : PS σ1 I c r B t := P.kp (Kp.app σ _)
  have e1 := P1.pt.2
  have e2 := P1.pg.2
  have e3 := P1.geo.castles.2
  have turn : ∀ (j : Nat) (x y : Option AV), j < 2 → exes Fs0 bd [some (.ref I.p), some o, some g, some (.int j), x, y] σ1 = some (.next, [some (.ref I.p), some o, some g, some (.int j), some (.int ((t * 2 + j : Nat) : Int)), some .none], σ1) := by
    intro j x y hj
    have e4 := (P1.geo.castle (t * 2 + j) (by omega)).2
    have m1 : binV .mul (t : Int) 2 = some ((t * 2 : Nat) : Int) := by
      simp only [binV]
      rw [if_pos (by simp only [Bool.and_eq_true, smallB_iff]; omega)]; rfl
    have m2 : binV .add ((t * 2 : Nat) : Int) (j : Int) = some ((t * 2 + j : Nat) : Int) := rfl
    have s1 : exe Fs0 (.asg 4 (.bin .add (.bin .mul (.attr (.var 0) 16) (.int 2)) (.var 3))) [some (.ref I.p), some o, some g, some (.int j), x, y] σ1 = some (.next, [some (.ref I.p), some o, some g, some (.int j), some (.int ((t * 2 + j : Nat) : Int)), y], σ1) := s_asg (d_bin (d_bin (d_attr (d_var rfl) (by first | assumption | exact rfl)) d_int (by first | assumption | exact rfl)) (d_var rfl) (by first | assumption | exact rfl))
    have s2 : exe Fs0 (.asg 5 (.sub (.attr (.attr (.var 0) 14) 12) (.var 4))) [some (.ref I.p), some o, some g, some (.int j), some (.int ((t * 2 + j : Nat) : Int)), y] σ1 = some (.next, [some (.ref I.p), some o, some g, some (.int j), some (.int ((t * 2 + j : Nat) : Int)), some .none], σ1) := s_asg (d_sub (d_attr (d_attr (d_var rfl) (by first | assumption | exact rfl)) (by first | assumption | exact rfl)) (d_var rfl) (by first | assumption | exact rfl))
    exact (exes_go s1).trans ((exes_go s2).trans rfl)
  have t0 := turn 0 none none (by decide)
  have t1 := turn 1 (some (.int ((t * 2 + 0 : Nat) : Int))) (some .none) (by decide)
  have st1 : exe Fs0 (.for [3] false (.range (.cons (.int 2) .nil)) bd) [some (.ref I.p), some o, some g, none, none, none] σ = some (.next, [some (.ref I.p), some o, some g, some (.int 1), some (.int ((t * 2 + 1 : Nat) : Int)), some .none], σ1) := by
    have rl : rngList 0 2 1 = some [0, 1] := rfl
    exact s_forR (d_range1 d_int rfl) List.getElem?_concat_length rl ((forF_go rfl rfl t0).trans ((forF_go rfl rfl t1).trans (forF_end rfl)))
  exact fun_ret (Fs := Fs0) (np := 3) (ns := 6) (body := B_castling_of) rfl ((exes_go st1).trans (exes_ret rfl))
theorem castle_ok {σ : AH} {I : Ids} {c r t : Nat} {B : List Nat} (P : PS σ I c r B t) (ht : t < 2) (o g : AV) : F_may_castle [.ref I.p, o, g] σ = some (.bool false, σ ++ [(false, .rng 0 2 1)]) := by
  have e := castling_ok P ht o g
  have f : Fs1[18]? = some F_castling_of := rfl
  let ρ : Rho := [some (.ref I.p), some o, some g, some (.int (-1))]
  have st1 : exe Fs1 (.asg 3 (.call 18 (.cons (.var 0) (.cons (.var 1) (.cons (.var 2) .nil))))) [some (.ref I.p), some o, some g, none] σ = some (.next, ρ, σ ++ [(false, .rng 0 2 1)]) := s_asg (d_call (l_cons (d_var rfl) (l_cons (d_var rfl) (l_cons (d_var rfl) l_nil))) (by first | assumption | exact rfl) (by assumption))
  exact fun_ret (Fs := Fs1) (np := 3) (ns := 4) (body := B_may_castle) rfl ((exes_go st1).trans (exes_ret rfl))

theorem isnum_no {σ : AH} {m : Int} (h : m < 1 ∨ 65535 < m) : F_is_move_number [.int m] σ = some (.bool false, σ) := by
  have t1 : den Fs1 (.bop true (.cons (.cmp .le (.var 0) (.int 0)) (.cons (.cmp .ge (.var 0) (.int 65536)) .nil))) [some (.int m)] σ = some (.bool true, σ) := by
    by_cases q : m ≤ 0
    · exact d_bop (b_stop (d_cmp (d_var rfl) d_int rfl) (decide_eq_true q))
    · exact d_bop (d_isb' (b_or (d_cmp (d_var rfl) d_int rfl) (b_one (d_cmp (d_var rfl) d_int rfl))) (by rw [decide_eq_true (show (65536 : Int) ≤ m by omega), Bool.or_true]))
  exact fun_ret (Fs := Fs1) (np := 1) (ns := 1) (body := B_is_move_number) (ρ' := [some (.int m)]) rfl (exes_ret (s_yret t1 rfl))
theorem from_nat (n : Nat) (σ : AH) : F_move_from [.int n] σ = some (.int ((n / 64 % 64 : Nat) : Int), σ) := by
  rw [f_move_from, show (64 : Int) = ((64 : Nat) : Int) from rfl, fdiv_cast, show (63 : Int) = ((63 : Nat) : Int) from rfl, and_nat, show (63 : Nat) = 2 ^ 6 - 1 from rfl, Nat.and_two_pow_sub_one_eq_mod]
theorem to_nat (n : Nat) (σ : AH) : F_move_to [.int n] σ = some (.int ((n % 64 : Nat) : Int), σ) := by
  rw [f_move_to, show (63 : Int) = ((63 : Nat) : Int) from rfl, and_nat, show (63 : Nat) = 2 ^ 6 - 1 from rfl, Nat.and_two_pow_sub_one_eq_mod]
theorem special_nat (n : Nat) (σ : AH) : F_move_special [.int n] σ = some (.int ((n / 16384 % 4 : Nat) : Int), σ) := by
  rw [f_move_special, show (16384 : Int) = ((16384 : Nat) : Int) from rfl, fdiv_cast, show (3 : Int) = ((3 : Nat) : Int) from rfl, and_nat, show (3 : Nat) = 2 ^ 2 - 1 from rfl, Nat.and_two_pow_sub_one_eq_mod]
theorem isnum_ok {σ : AH} {n : Nat} (h1 : 1 ≤ n) (h2 : n ≤ 65535) : F_is_move_number [.int n] σ = some (.bool (decide (¬ (n / 64 % 64 = n % 64 ∨ (n / 16384 ≠ 1 ∧ 0 < n / 4096 % 4)))), σ) := by
  let ρ : Rho := [some (.int n)]
  have t1 : den Fs1 (.bop true (.cons (.cmp .le (.var 0) (.int 0)) (.cons (.cmp .ge (.var 0) (.int 65536)) .nil))) ρ σ = some (.bool false, σ) :=
    d_isb (d_bop (b_or (d_cmp (d_var rfl) d_int rfl) (b_one (d_cmp (d_var rfl) d_int rfl)))) (by rw [decide_eq_false (show ¬ (n : Int) ≤ 0 by omega), decide_eq_false (show ¬ (65536 : Int) ≤ n by omega)]; rfl)
  have st1 := s_no (a := .cons (.ret (.bool false)) .nil) t1
  have t2 : den Fs1 (.cmp .eq (.call 2 (.cons (.var 0) .nil)) (.call 3 (.cons (.var 0) .nil))) ρ σ = some (.bool (decide (n / 64 % 64 = n % 64)), σ) := d_cmp (d_call (l_cons (d_var rfl) l_nil) rfl (from_nat n σ)) (d_call (l_cons (d_var rfl) l_nil) rfl (to_nat n σ)) c_eqN
  by_cases p : n / 64 % 64 = n % 64
  · rw [decide_eq_false (show ¬ ¬ (n / 64 % 64 = n % 64 ∨ (n / 16384 ≠ 1 ∧ 0 < n / 4096 % 4)) from fun q => q (.inl p))]
    exact fun_ret (Fs := Fs1) (np := 1) (ns := 1) (body := B_is_move_number) (ρ' := ρ) rfl ((exes_go st1).trans (exes_ret (s_yretd t2 p rfl)))
  have st2 := s_nod (a := .cons (.ret (.bool false)) .nil) t2 p
  have s4 : n / 16384 % 4 = n / 16384 := Nat.mod_eq_of_lt (Nat.div_lt_of_lt_mul (Nat.lt_succ_of_le h2))
  have b2 : binV .shr (n : Int) 12 = some ((n / 4096 : Nat) : Int) := (shrV n 12).trans (by rw [Nat.shiftRight_eq_div_pow])
  have b3 : binV .band ((n / 4096 : Nat) : Int) 3 = some ((n / 4096 % 4 : Nat) : Int) := (bandN (n / 4096) 3).trans (by rw [show (3 : Nat) = 2 ^ 2 - 1 from rfl, Nat.and_two_pow_sub_one_eq_mod])
  have fin : (decide (n / 16384 % 4 = 1) || decide (n / 4096 % 4 = 0)) = decide (¬ (n / 64 % 64 = n % 64 ∨ (n / 16384 ≠ 1 ∧ 0 < n / 4096 % 4))) := by
    rw [s4, ← Bool.decide_or, decide_eq_decide]
    generalize n / 4096 % 4 = y
    generalize n / 16384 = z
    exact ⟨fun h q => q.elim p fun ⟨q1, q2⟩ => h.elim q1 fun e => absurd (e ▸ q2) (Nat.lt_irrefl 0), fun h => Decidable.byContradiction fun q => h (.inr ⟨fun e => q (.inl e), Nat.pos_of_ne_zero fun e => q (.inr e)⟩)⟩
  exact fun_ret (Fs := Fs1) (np := 1) (ns := 1) (body := B_is_move_number) (ρ' := ρ) rfl ((exes_go st1).trans ((exes_go st2).trans (exes_ret (s_ret (d_isb (d_bop (b_or (d_cmp (d_call (l_cons (d_var rfl) l_nil) rfl (special_nat n σ)) d_gint c_eq1) (b_one (d_cmp (d_bin (d_bin (d_var rfl) d_int b2) d_int b3) d_int c_eq0)))) fin)))))
end Mine
namespace Mine
open PySem.Builtin PyProof.Rows

/-! ## The steps -/
theorem push_ok {σ : AH} {I : Ids} {c r t o g : Nat} {B : List Nat} (b : Bd c r B) (P : PS σ I c r B t) (hg : g < c * r) :
    F_may_push [.ref I.p, .int o, .int g] σ = some (.bool (decide (sq B g = 0) && decide ((g : Int) = o + aheadI c t)), σ) := by
  have c4 := b.small.2.1
  let fs : Int := if t = 1 then (r : Int) - 2 else 1
  let ρ3 : Rho := [some (.ref I.p), some (.int o), some (.int g), some (.ref I.g), some (.int c), some (.int 1)]
  let ρ : Rho := [some (.ref I.p), some (.int o), some (.int g), some (.ref I.g), some (.int (aheadI c t)), some (.int fs)]
  have s1 : exe Fs0 (.asg 3 (.attr (.var 0) 14)) [some (.ref I.p), some (.int o), some (.int g), none, none, none] σ = some (.next, [some (.ref I.p), some (.int o), some (.int g), some (.ref I.g), none, none], σ) := s_asg (d_attr (d_var rfl) P.pg.2)
  have s2 : exe Fs0 (.asg 4 (.attr (.var 3) 0)) [some (.ref I.p), some (.int o), some (.int g), some (.ref I.g), none, none] σ = some (.next, [some (.ref I.p), some (.int o), some (.int g), some (.ref I.g), some (.int c), none], σ) := s_asg (d_attr (d_var rfl) P.geo.files.2)
  have s3 : exe Fs0 (.asg 5 (.int 1)) [some (.ref I.p), some (.int o), some (.int g), some (.ref I.g), some (.int c), none] σ = some (.next, ρ3, σ) := rfl
  have t4 : den Fs0 (.cmp .eq (.attr (.var 0) 16) (.gint "BLACK" 1)) ρ3 σ = some (.bool (decide (t = 1)), σ) := d_cmp (d_attr (d_var rfl) P.pt.2) d_gint c_eq1
  have s4 : exe Fs0 (.ite (.cmp .eq (.attr (.var 0) 16) (.gint "BLACK" 1)) (.cons (.asg 4 (.una .neg (.attr (.var 3) 0))) (.cons (.asg 5 (.bin .sub (.attr (.var 3) 1) (.int 2))) .nil)) .nil) ρ3 σ = some (.next, ρ, σ) := by
    by_cases q : t = 1
    · show _ = some (Fl.next, (ρ3.set 4 (some (.int (aheadI c t)))).set 5 (some (.int fs)), σ)
      rw [show aheadI c t = -(c : Int) from if_pos q, show fs = (r : Int) - 2 from if_pos q]
      exact s_yes (d_isb t4 (decide_eq_true q)) ((exes_go (s_asg (d_neg (d_attr (d_var rfl) P.geo.files.2)))).trans ((exes_go (s_asg (d_bin (d_attr (d_var rfl) P.geo.ranks.2) d_int rfl))).trans rfl))
    · show _ = some (Fl.next, (ρ3.set 4 (some (.int (aheadI c t)))).set 5 (some (.int fs)), σ)
      rw [show aheadI c t = (c : Int) from if_neg q, show fs = 1 from if_neg q]
      exact s_nod t4 q
  have fin : ∀ {v : AV} {ρ' : Rho}, exes Fs0 (.cons (.ite (.cmp .ne (.sub (.attr (.var 0) 18) (.var 2)) (.gint "EMPTY" 0)) (.cons (.ret (.bool false)) .nil) .nil) (.cons (.ite (.cmp .eq (.var 2) (.bin .add (.var 1) (.var 4))) (.cons (.ret (.bool true)) .nil) .nil) (.cons (.ite (.bop true (.cons (.cmp .ne (.var 2) (.bin .add (.var 1) (.bin .mul (.int 2) (.var 4)))) (.cons (.una .not (.attr (.var 3) 19)) .nil))) (.cons (.ret (.bool false)) .nil) .nil) (.cons (.ret (.bop false (.cons (.cmp .eq (.bin .fdiv (.var 1) (.attr (.var 3) 0)) (.var 5)) (.cons (.cmp .eq (.sub (.attr (.var 0) 18) (.bin .add (.var 1) (.var 4))) (.gint "EMPTY" 0)) .nil)))) .nil)))) ρ σ = some (.ret v, ρ', σ) →
      F_may_push [.ref I.p, .int o, .int g] σ = some (v, σ) := fun h => fun_ret (Fs := Fs0) (np := 3) (ns := 6) (body := B_may_push) rfl ((exes_go s1).trans ((exes_go s2).trans ((exes_go s3).trans ((exes_go s4).trans h))))
  have t5 : den Fs0 (.cmp .ne (.sub (.attr (.var 0) 18) (.var 2)) (.gint "EMPTY" 0)) ρ σ = some (.bool (decide (sq B g ≠ 0)), σ) := d_cmp (d_sub (d_attr (d_var rfl) P.pb.2) (d_var rfl) (P.bd g hg).2) d_gint c_ne0
  by_cases p5 : sq B g ≠ 0
  · rw [decide_eq_false p5]
    exact fin (exes_ret (s_yretd t5 p5 rfl))
  have s5 := s_nod (a := .cons (.ret (.bool false)) .nil) t5 p5
  rw [decide_eq_true (Classical.not_not.mp p5), Bool.true_and]
  have t6 : den Fs0 (.cmp .eq (.var 2) (.bin .add (.var 1) (.var 4))) ρ σ = some (.bool (decide ((g : Int) = o + aheadI c t)), σ) := d_cmp (d_var rfl) (d_bin (d_var rfl) (d_var rfl) rfl) rfl
  by_cases p6 : (g : Int) = o + aheadI c t
  · rw [decide_eq_true p6]
    exact fin ((exes_go s5).trans (exes_ret (s_yretd t6 p6 rfl)))
  have s6 := s_nod (a := .cons (.ret (.bool true)) .nil) t6 p6
  have ms : binV .mul 2 (aheadI c t) = some (2 * aheadI c t) := mul_ok (by decide) (by decide) (by unfold aheadI; split <;> omega) (by unfold aheadI; split <;> omega)
  rw [decide_eq_false p6]
  exact fin ((exes_go s5).trans ((exes_go s6).trans (exes_ret (s_yret (d_isb (d_bop (b_or (d_cmp (d_var rfl) (d_bin (d_var rfl) (d_bin d_int (d_var rfl) ms) rfl) rfl) (b_one (d_not (d_attr (d_var rfl) P.geo.hasd.2) rfl)))) (Bool.or_true _)) rfl))))

noncomputable def pawnGo (c r : Nat) (B : List Nat) (t o g sp : Nat) : Bool :=
  if decide (g / c = lastN r t) != decide (sp = 1) then false else if sp = 2 then false else
  if g ∈ pawnL c r t o then own B (1 - t) g else decide (sq B g = 0) && decide ((g : Int) = o + aheadI c t)
theorem pawn_ok {σ : AH} {I : Ids} {c r t o g sp : Nat} {B : List Nat} (b : Bd c r B) (P : PS σ I c r B t) (ht : t < 2) (ho : o < c * r) (hg : g < c * r) :
    F_may_pawn_go [.ref I.p, .int o, .int g, .int sp] σ = some (.bool (pawnGo c r B t o g sp), σ) := by
  obtain ⟨c0, c4, r4, n16, r3, n9⟩ := b.small
  let ρ1 : Rho := [some (.ref I.p), some (.int o), some (.int g), some (.int sp), some (.ref I.g), none, none]
  let ρ2 : Rho := [some (.ref I.p), some (.int o), some (.int g), some (.int sp), some (.ref I.g), some (.int 0), none]
  let ρ3 : Rho := [some (.ref I.p), some (.int o), some (.int g), some (.int sp), some (.ref I.g), some (.int (lastN r t : Nat)), none]
  let hits : Bool := decide (g ∈ pawnL c r t o)
  let ρ : Rho := [some (.ref I.p), some (.int o), some (.int g), some (.int sp), some (.ref I.g), some (.int (lastN r t : Nat)), some (.bool hits)]
  have fin : ∀ {v : AV} {ρ' : Rho}, exes Fs1 B_may_pawn_go [some (.ref I.p), some (.int o), some (.int g), some (.int sp), none, none, none] σ = some (.ret v, ρ', σ) → F_may_pawn_go [.ref I.p, .int o, .int g, .int sp] σ = some (v, σ) := fun h => fun_ret (Fs := Fs1) (np := 4) (ns := 7) (body := B_may_pawn_go) rfl h
  have s1 : exe Fs1 (.asg 4 (.attr (.var 0) 14)) [some (.ref I.p), some (.int o), some (.int g), some (.int sp), none, none, none] σ = some (.next, ρ1, σ) := s_asg (d_attr (d_var rfl) P.pg.2)
  have s2 : exe Fs1 (.asg 5 (.int 0)) ρ1 σ = some (.next, ρ2, σ) := rfl
  have t3 : den Fs1 (.cmp .eq (.attr (.var 0) 16) (.gint "WHITE" 0)) ρ2 σ = some (.bool (decide (t = 0)), σ) := d_cmp (d_attr (d_var rfl) P.pt.2) d_gint c_eq0
  have s3 : exe Fs1 (.ite (.cmp .eq (.attr (.var 0) 16) (.gint "WHITE" 0)) (.cons (.asg 5 (.bin .sub (.attr (.var 4) 1) (.int 1))) .nil) .nil) ρ2 σ = some (.next, ρ3, σ) := by
    show _ = some (Fl.next, ρ2.set 5 (some (.int (lastN r t : Nat))), σ)
    by_cases q : t = 0
    · rw [show lastN r t = r - 1 from if_neg (by rw [q]; decide)]
      exact s_yes (d_isb t3 (decide_eq_true q)) ((exes_go (s_asg (d_bin (d_attr (d_var rfl) P.geo.ranks.2) d_int (v_subN (b := 1) (Nat.le_trans (by decide) r3))))).trans rfl)
    · rw [show lastN r t = 0 from if_pos (by omega)]
      exact s_nod t3 q
  have t4 : den Fs1 (.cmp .ne (.cmp .eq (.bin .fdiv (.var 2) (.attr (.var 4) 0)) (.var 5)) (.cmp .eq (.var 3) (.gint "PROMOTION" 1))) ρ3 σ = some (.bool (decide (g / c = lastN r t) != decide (sp = 1)), σ) :=
    d_cmp (d_cmp (d_bin (d_var rfl) (d_attr (d_var rfl) P.geo.files.2) (v_divN c0 (Nat.le_trans c4 (by decide)))) (d_var rfl) c_eqN) (d_cmp (d_var rfl) d_gint c_eq1) rfl
  have fin := fun {v : AV} {ρ' : Rho} h => fin (v := v) (ρ' := ρ') ((exes_go s1).trans ((exes_go s2).trans ((exes_go s3).trans h)))
  cases p4 : (decide (g / c = lastN r t) != decide (sp = 1)) with
  | true =>
    have lv : pawnGo c r B t o g sp = false := by unfold pawnGo; rw [if_pos p4]
    rw [lv]
    exact fin (exes_ret (s_yret (d_isb t4 p4) rfl))
  | false =>
  have n4 : ¬ (decide (g / c = lastN r t) != decide (sp = 1)) = true := by rw [p4]; decide
  have s4 := s_no (a := .cons (.ret (.bool false)) .nil) (d_isb t4 p4)
  have s5 : exe Fs1 (.asg 6 (.cmp .eq (.bin .band (.bin .shr (.sub (.sub (.attr (.var 4) 6) (.attr (.var 0) 16)) (.var 1)) (.var 2)) (.int 1)) (.int 1))) ρ3 σ = some (.next, ρ, σ) :=
    s_asg (d_isb (b' := hits) (d_cmp (d_bin (d_bin (d_sub (d_sub (d_attr (d_var rfl) P.geo.pawn.2) (d_attr (d_var rfl) P.pt.2) (P.geo.pawn1 t ht).2) (d_var rfl) (P.geo.pawn2 t ht o ho).2) (d_var rfl) (shrV _ _)) d_int rfl) d_int rfl) ((bit1 _ _).trans (maskL_bit _ _)))
  have t6 : den Fs1 (.cmp .eq (.var 3) (.gint "EN_PASSANT" 2)) ρ σ = some (.bool (decide (sp = 2)), σ) := d_cmp (d_var rfl) d_gint c_eq2
  have fin := fun {v : AV} {ρ' : Rho} h => fin (v := v) (ρ' := ρ') ((exes_go s4).trans ((exes_go s5).trans h))
  by_cases p6 : sp = 2
  · have lv : pawnGo c r B t o g sp = false := by unfold pawnGo; rw [if_neg n4, if_pos p6]
    rw [lv]
    have ng : ((g : Int) == -1) = false := beq_eq_false_iff_ne.mpr (by omega)
    exact fin (exes_ret (s_yretd t6 p6 (d_isb (d_bop (b_and (d_var rfl) (b_one (d_cmp (d_var rfl) (d_attr (d_var rfl) P.pe.2) rfl)))) (by rw [ng, Bool.and_false]))))
  have s6 := s_nod (a := .cons (.ret (.bop false (.cons (.var 6) (.cons (.cmp .eq (.var 2) (.attr (.var 0) 17)) .nil)))) .nil) t6 p6
  have t7 : den Fs1 (.var 6) ρ σ = some (.bool hits, σ) := rfl
  by_cases p7 : g ∈ pawnL c r t o
  · have lv : pawnGo c r B t o g sp = own B (1 - t) g := by unfold pawnGo; rw [if_neg n4, if_neg p6, if_pos p7]
    rw [lv]
    have bt : (bitAnd ((sm B (1 - t) (c * r) >>> g : Nat) : Int) 1 == 1) = own B (1 - t) g := by rw [bit1, own_bit, decide_eq_true hg, Bool.true_and]
    exact fin ((exes_go s6).trans (exes_ret (s_yret (d_isb t7 (decide_eq_true p7)) (d_isb (d_cmp (d_bin (d_bin (d_sub (d_attr (d_var rfl) P.ps.2) (d_bin d_int (d_attr (d_var rfl) P.pt.2) (v_subN (a := 1) (Nat.le_of_lt_succ ht))) (P.sd (1 - t) (Nat.lt_of_le_of_lt (Nat.sub_le ..) (by decide))).2) (d_var rfl) (shrV _ _)) d_int rfl) d_int rfl) bt))))
  · have s7 := s_no (a := .cons (.ret (.cmp .eq (.bin .band (.bin .shr (.sub (.attr (.var 0) 15) (.bin .sub (.int 1) (.attr (.var 0) 16))) (.var 2)) (.int 1)) (.int 1))) .nil) (d_isb t7 (decide_eq_false p7))
    have lv : pawnGo c r B t o g sp = (decide (sq B g = 0) && decide ((g : Int) = o + aheadI c t)) := by unfold pawnGo; rw [if_neg n4, if_neg p6, if_neg p7]
    rw [lv]
    exact fin ((exes_go s6).trans ((exes_go s7).trans (exes_ret (s_ret (d_call (l_cons (d_var rfl) (l_cons (d_var rfl) (l_cons (d_var rfl) l_nil))) rfl (push_ok b P hg))))))

noncomputable def pieceGo (c r : Nat) (B : List Nat) (t o g sp : Nat) : Bool :=
  if sq B o % 8 = 1 then pawnGo c r B t o g sp else if sp ≠ 0 then false else decide (g ∈ reachedL c r B o)
theorem piece_go {σ : AH} {I : Ids} {c r t o g sp : Nat} {B : List Nat} (b : Bd c r B) (P : PS σ I c r B t) (ho : o < c * r) (hg : g < c * r) (h0 : sq B o ≠ 0) (ht : sq B o / 8 = t) :
    ∃ σ', F_may_piece_go [.ref I.p, .int (sq B o % 8 : Nat), .int o, .int g, .int sp] σ = some (.bool (pieceGo c r B t o g sp), σ') ∧ Up σ σ' := by
  have ht2 : t < 2 := ht ▸ (men_of b h0).2.1
  have hr := hits_reached b h0
  have hk := (men_of b h0).1
  rw [ht] at hr
  unfold pieceGo
  generalize hkk : sq B o % 8 = k at *
  let ρ0 : Rho := [some (.ref I.p), some (.int k), some (.int o), some (.int g), some (.int sp), none]
  have fin : ∀ {v : AV} {σ' : AH} {ρ' : Rho}, exes Fs6 B_may_piece_go ρ0 σ = some (.ret v, ρ', σ') → F_may_piece_go [.ref I.p, .int k, .int o, .int g, .int sp] σ = some (v, σ') := fun h => fun_ret (Fs := Fs6) (np := 5) (ns := 6) (body := B_may_piece_go) rfl h
  have t1 : den Fs6 (.cmp .eq (.var 1) (.gint "PAWN" 1)) ρ0 σ = some (.bool (decide (k = 1)), σ) := d_cmp (d_var rfl) d_gint c_eq1
  by_cases p1 : k = 1
  · rw [if_pos p1]
    exact ⟨σ, fin (exes_ret (s_yretd t1 p1 (d_call (l_cons (d_var rfl) (l_cons (d_var rfl) (l_cons (d_var rfl) (l_cons (d_var rfl) l_nil)))) rfl (pawn_ok (sp := sp) b P ht2 ho hg)))), Up.refl σ⟩
  rw [if_neg p1]
  have s1 := s_nod (a := .cons (.ret (.call 34 (.cons (.var 0) (.cons (.var 2) (.cons (.var 3) (.cons (.var 4) .nil)))))) .nil) t1 p1
  have t2 : den Fs6 (.cmp .ne (.var 4) (.gint "NORMAL" 0)) ρ0 σ = some (.bool (decide (sp ≠ 0)), σ) := d_cmp (d_var rfl) d_gint c_ne0
  by_cases p2 : sp ≠ 0
  · rw [if_pos p2]
    exact ⟨σ, fin ((exes_go s1).trans (exes_ret (s_yretd t2 p2 rfl))), Up.refl σ⟩
  rw [if_neg p2]
  have s2 := s_nod (a := .cons (.ret (.bool false)) .nil) t2 p2
  let ρ : Rho := [some (.ref I.p), some (.int k), some (.int o), some (.int g), some (.int sp), some (.int (occM (c * r) B : Nat))]
  have s3 : exe Fs6 (.asg 5 (.bin .bor (.sub (.attr (.var 0) 15) (.gint "WHITE" 0)) (.sub (.attr (.var 0) 15) (.gint "BLACK" 1)))) ρ0 σ = some (.next, ρ, σ) :=
    s_asg (d_bin (d_sub (d_attr (d_var rfl) P.ps.2) d_gint (P.sd 0 (by decide)).2) (d_sub (d_attr (d_var rfl) P.ps.2) d_gint (P.sd 1 (by decide)).2) (borN _ _))
  obtain ⟨m, σ', run, up, bit⟩ := piece_ok (occ := occM (c * r) B) (t := t) P.geo P.st1 b.hz ho hk ht2
  exact ⟨σ', fin ((exes_go s1).trans ((exes_go s2).trans ((exes_go s3).trans (exes_ret (s_ret (d_isb (d_cmp (d_bin (d_bin (d_call (l_cons (d_attr (d_var rfl) P.pg.2) (l_cons (d_attr (d_var rfl) P.pt.2) (l_cons (d_var rfl) (l_cons (d_var rfl) (l_cons (d_var rfl) l_nil))))) rfl run) (d_var rfl) (shrV _ _)) d_int rfl) d_int rfl) ((bit1 _ _).trans ((bit g).trans (by rw [hr]))))))))), up⟩

noncomputable def chkPawn (c r : Nat) : Bool := (List.range 2).all fun t => (List.range (c * r)).all fun o => (pawnL c r t o).all fun g => !decide ((g : Int) = o + aheadI c t)
theorem chkPawn_ok : (sizes.all fun z => chkPawn z.1 z.2) = true := by decide +kernel
theorem pawn_reach {c r o t : Nat} {B : List Nat} (b : Bd c r B) (h0 : sq B o ≠ 0) (ht : sq B o / 8 = t) (hk : sq B o % 8 = 1) : reachedL c r B o = pawnL c r t o := by
  rw [← hits_reached b h0, ht, hk, leap_mem rfl]; rfl
theorem go_law {c r t o g sp : Nat} {B : List Nat} (b : Bd c r B) (ho : o < c * r) (h0 : sq B o ≠ 0) (ht : sq B o / 8 = t) (hg : own B t g = false) (hsp : sp < 3) : pieceGo c r B t o g sp = lawMay c r B t o g sp := by
  have ht2 : t < 2 := ht ▸ (men_of b h0).2.1
  by_cases p1 : sq B o % 8 = 1
  · have n2 : ¬ (sq B o % 8 ≠ 1) := fun q => q p1
    have L : pieceGo c r B t o g sp = pawnGo c r B t o g sp := if_pos p1
    rw [L]
    by_cases p2 : 1 < sp
    · have L1 : lawMay c r B t o g sp = false := if_pos (.inl p2)
      rw [L1]
      unfold pawnGo
      split
      · rfl
      · rw [if_pos (by omega)]
    · have n1 : ¬ (1 < sp ∨ (sq B o % 8 ≠ 1 ∧ sp = 1)) := by omega
      have L1 : lawMay c r B t o g sp = if decide (g / c = lastN r t) != decide (sp = 1) then false else
          (decide (g ∈ reachedL c r B o) && decide (sq B g ≠ 0)) || (decide ((g : Int) = o + aheadI c t) && decide (sq B g = 0)) := by
        unfold lawMay; rw [if_neg n1, if_neg n2]
      rw [L1, pawn_reach b h0 ht p1]
      unfold pawnGo
      cases decide (g / c = lastN r t) != decide (sp = 1) with
      | true => rfl
      | false =>
      rw [if_neg (show ¬ (false = true) by decide), if_neg (show ¬ sp = 2 by omega), if_neg (show ¬ (false = true) by decide)]
      have e1 : g ∈ pawnL c r t o → ¬ ((g : Int) = o + aheadI c t) := fun h => by
        have := List.all_eq_true.mp (List.all_eq_true.mp (List.all_eq_true.mp (List.all_eq_true.mp chkPawn_ok (c, r) b.hz) t (List.mem_range.mpr ht2)) o (List.mem_range.mpr ho)) g h
        simpa using this
      have e2 : own B (1 - t) g = decide (sq B g ≠ 0) := by
        unfold own at hg ⊢
        by_cases z : sq B g ≠ 0
        · have := (men_of b z).2.1
          simp only [decide_eq_true z, Bool.true_and, decide_eq_false_iff_not] at hg ⊢
          exact decide_eq_true (by omega)
        · simp [z]
      by_cases p3 : g ∈ pawnL c r t o
      · rw [if_pos p3, decide_eq_true p3, decide_eq_false (e1 p3), e2, Bool.true_and, Bool.false_and, Bool.or_false]
      · rw [if_neg p3, decide_eq_false p3, Bool.false_and, Bool.false_or, Bool.and_comm]
  · have L : pieceGo c r B t o g sp = if sp ≠ 0 then false else decide (g ∈ reachedL c r B o) := if_neg p1
    rw [L]
    by_cases p2 : sp ≠ 0
    · have L1 : lawMay c r B t o g sp = false := if_pos (by omega)
      rw [if_pos p2, L1]
    · have L1 : lawMay c r B t o g sp = decide (g ∈ reachedL c r B o) := by unfold lawMay; rw [if_neg (by omega), if_pos p1]
      rw [if_neg p2, L1]
end Mine
namespace Mine
open PySem.Builtin PyProof.Rows

/-! ## Who gives check -/
theorem upto {P : Nat → Prop} {n : Nat} (h : ∀ s < n, P s) (h1 : P n) : ∀ s < n + 1, P s := fun s hs => (Nat.lt_succ_iff_lt_or_eq.mp hs).elim (h s) fun e => e ▸ h1
theorem upto0 {P : Nat → Prop} : ∀ s < 0, P s := fun s h => absurd h (Nat.not_lt_zero s)
theorem low_pow (σ : AH) : ∀ s : Nat, s < 16 → F_lowest [.int ((2 ^ s : Nat) : Int)] σ = some (.int (s : Int), σ) :=
  upto (upto (upto (upto (upto (upto (upto (upto (upto (upto (upto (upto (upto (upto (upto (upto upto0 (by kernel_rfl)) (by kernel_rfl)) (by kernel_rfl)) (by kernel_rfl)) (by kernel_rfl)) (by kernel_rfl)) (by kernel_rfl)) (by kernel_rfl)) (by kernel_rfl)) (by kernel_rfl)) (by kernel_rfl)) (by kernel_rfl)) (by kernel_rfl)) (by kernel_rfl)) (by kernel_rfl)) (by kernel_rfl)

/-- two kings, one of each side -/
structure Gd (c r : Nat) (B : List Nat) : Prop extends Bd c r B where
  klt : ∀ u < 2, B.idxOf (6 + 8 * u) < c * r
  kone : ∀ u < 2, ∀ s, sq B s = 6 + 8 * u ↔ s = B.idxOf (6 + 8 * u)
noncomputable def kg (B : List Nat) (u : Nat) : Nat := B.idxOf (6 + 8 * u)
theorem king_iff {c r u : Nat} {B : List Nat} (b : Bd c r B) (hu : u < 2) (s : Nat) : (sq B s ≠ 0 ∧ sq B s / 8 = u ∧ sq B s &&& 7 = 6) ↔ sq B s = 6 + 8 * u :=
  (show ∀ x ∈ ([0, 1, 2, 3, 4, 5, 6, 9, 10, 11, 12, 13, 14] : List Nat), ∀ u < 2, (x ≠ 0 ∧ x / 8 = u ∧ x &&& 7 = 6) ↔ x = 6 + 8 * u by decide) _ (men_sq b s) u hu
theorem king_mask {c r u : Nat} {B : List Nat} (G : Gd c r B) (hu : u < 2) : sm B u (c * r) &&& km B 6 (c * r) = 2 ^ kg B u := by
  apply Nat.eq_of_testBit_eq
  intro s
  rw [Nat.testBit_and, sm_bit, km_bit, Nat.testBit_two_pow, Bool.eq_iff_iff]
  simp only [Bool.and_eq_true, decide_eq_true_eq]
  have h1 := king_iff G.toBd hu s
  have h2 := G.kone u hu s
  have h3 := G.klt u hu
  unfold kg
  constructor
  · intro h; exact (h2.mp (h1.mp ⟨h.1.1.2, h.1.2, h.2.2⟩)).symm
  · intro h
    have h4 := h1.mpr (h2.mpr h.symm)
    have h5 : s < c * r := by omega
    exact ⟨⟨⟨h5, h4.1⟩, h4.2.1⟩, ⟨⟨h5, h4.1⟩, h4.2.2⟩⟩
theorem kingsq_ok {σ : AH} {I : Ids} {c r t u : Nat} {B : List Nat} (G : Gd c r B) (P : PS σ I c r B t) (hu : u < 2) : F_king_square [.ref I.p, .int (u : Int)] σ = some (.int (kg B u : Nat), σ) := by
  have lp := low_pow σ (kg B u) (Nat.lt_of_lt_of_le (G.klt u hu) G.small.2.2.2.1)
  exact fun_ret (Fs := Fs2) (np := 2) (ns := 2) (body := B_king_square) (ρ' := [some (.ref I.p), some (.int u)]) rfl (exes_ret (s_ret (d_call (l_cons (d_bin (d_sub (d_attr (d_var rfl) P.ps.2) (d_var rfl) (P.sd u hu).2) (d_sub (d_attr (d_var rfl) P.pk.2) d_gint (P.kd 6 (by decide)).2) ((bandN _ _).trans (by rw [king_mask G hu]))) l_nil) rfl lp)))

/-! ways read backwards -/
theorem tk_iff {p : Nat → Bool} {s : Nat} : ∀ {l : List Nat}, s ∈ tk p false l ↔ s ∈ l ∧ ∀ x ∈ l.takeWhile (fun y => y != s), p x = false
  | [] => by simp [tk]
  | a :: l => by
    have ih := @tk_iff p s l
    simp only [tk, List.mem_cons, Bool.or_false]
    by_cases e : a = s
    · subst e; simp
    · have e' : (a != s) = true := by simpa using e
      have e2 : ¬ s = a := fun q => e q.symm
      rw [List.takeWhile_cons, if_pos e']
      simp only [e2, false_or, List.mem_cons, forall_eq_or_imp]
      cases h : p a with
      | true => simp
      | false => simp [ih]
noncomputable def opp (d : Nat) : Nat := d ^^^ 2
noncomputable def chkBack (c r : Nat) : Bool :=
  (List.range (c * r)).all fun k =>
    ((List.range 8).all fun d => (rayL c r d k).all fun s => decide (k ∈ rayL c r (opp d) s) && ((rayL c r (opp d) s).takeWhile fun y => y != k).all fun x => decide (x ∈ (rayL c r d k).takeWhile fun y => y != s)) &&
    ((knightL c r k).all fun s => decide (k ∈ knightL c r s)) && ((kingL c r k).all fun s => decide (k ∈ kingL c r s)) && ((List.range 2).all fun u => (pawnL c r (1 - u) k).all fun s => decide (k ∈ pawnL c r u s))
theorem chkBack_ok : (sizes.all fun z => chkBack z.1 z.2) = true := by decide +kernel
theorem back {c r k : Nat} (hz : (c, r) ∈ sizes) (hk : k < c * r) :
    (∀ d < 8, ∀ s ∈ rayL c r d k, k ∈ rayL c r (opp d) s ∧ ∀ x ∈ (rayL c r (opp d) s).takeWhile (fun y => y != k), x ∈ (rayL c r d k).takeWhile fun y => y != s) ∧
    (∀ s ∈ knightL c r k, k ∈ knightL c r s) ∧ (∀ s ∈ kingL c r k, k ∈ kingL c r s) ∧ (∀ u < 2, ∀ s ∈ pawnL c r (1 - u) k, k ∈ pawnL c r u s) := by
  have h := List.all_eq_true.mp (List.all_eq_true.mp chkBack_ok (c, r) hz) k (List.mem_range.mpr hk)
  simp only [Bool.and_eq_true, List.all_eq_true, List.mem_range, decide_eq_true_eq] at h
  exact ⟨h.1.1.1, h.1.1.2, h.1.2, h.2⟩
theorem tk_back {c r k d s : Nat} {p : Nat → Bool} (hz : (c, r) ∈ sizes) (hk : k < c * r) (hd : d < 8) (h : s ∈ tk p false (rayL c r d k)) : k ∈ tk p false (rayL c r (opp d) s) := by
  obtain ⟨h1, h2⟩ := tk_iff.mp h
  obtain ⟨h3, h4⟩ := (back hz hk).1 d hd s h1
  exact tk_iff.mpr ⟨h3, fun x hx => h2 x (h4 x hx)⟩

/-- a man on s reaches k -/
noncomputable def Gives (c r : Nat) (B : List Nat) (k s : Nat) : Prop := s < c * r ∧ sq B s ≠ 0 ∧ k ∈ reachedL c r B s
theorem and7 {c r : Nat} {B : List Nat} (b : Bd c r B) {s : Nat} (h : sq B s ≠ 0) : sq B s &&& 7 = sq B s % 8 := (men_of b h).2.2.1
theorem gives_leap {c r k s j : Nat} {B : List Nat} (b : Bd c r B) (hs : s < c * r) (h0 : sq B s ≠ 0) (hj : sq B s &&& 7 = j) (lp : leapK j = true) (h : k ∈ leapL c r s (waysOf j (sq B s / 8))) : Gives c r B k s := by
  refine ⟨hs, h0, ?_⟩
  rw [← hits_reached b h0, ← and7 b h0, hj, leap_mem lp]; exact h
theorem gives_line {c r k s d : Nat} {B : List Nat} (b : Bd c r B) (hk : k < c * r) (hs : s < c * r) (h0 : sq B s ≠ 0) (hd : d < 8) (hj : (d < 4 ∧ (sq B s &&& 7 = 4 ∨ sq B s &&& 7 = 5)) ∨ (4 ≤ d ∧ (sq B s &&& 7 = 3 ∨ sq B s &&& 7 = 5)))
    (h : s ∈ tk (fun i => (occM (c * r) B).testBit i) false (rayL c r d k)) : Gives c r B k s := by
  refine ⟨hs, h0, ?_⟩
  have h1 := tk_back b.hz hk hd h
  have q : opp d ∈ dirs (sq B s &&& 7) ∧ (sq B s &&& 7 = 3 ∨ sq B s &&& 7 = 4 ∨ sq B s &&& 7 = 5) := by
    have q1 := (show ∀ d < 8, (d < 4 → opp d ∈ dirs 4 ∧ opp d ∈ dirs 5) ∧ (4 ≤ d → opp d ∈ dirs 3 ∧ opp d ∈ dirs 5) by decide) d hd
    rcases hj with ⟨h4, e | e⟩ | ⟨h4, e | e⟩
    · exact ⟨e ▸ (q1.1 h4).1, .inr (.inl e)⟩
    · exact ⟨e ▸ (q1.1 h4).2, .inr (.inr e)⟩
    · exact ⟨e ▸ (q1.2 h4).1, .inl e⟩
    · exact ⟨e ▸ (q1.2 h4).2, .inr (.inr e)⟩
  rw [← hits_reached b h0, ← and7 b h0]
  refine of_decide_eq_true ((dirs_mem (c := c) (r := r) (occ := occM (c * r) B) (s := s) (g := k) (t := sq B s / 8) q.2).symm.trans ?_)
  rw [List.any_eq_true]
  exact ⟨opp d, q.1, decide_eq_true h1⟩

theorem km_of {n k s : Nat} {B : List Nat} (h : (km B k n).testBit s = true) : s < n ∧ sq B s ≠ 0 ∧ sq B s &&& 7 = k := by
  rw [km_bit] at h
  simp only [Bool.and_eq_true, decide_eq_true_eq] at h
  exact ⟨h.1.1, h.1.2, h.2⟩
theorem sm_of {n k s : Nat} {B : List Nat} (h : (sm B k n).testBit s = true) : s < n ∧ sq B s ≠ 0 ∧ sq B s / 8 = k := by
  rw [sm_bit] at h
  simp only [Bool.and_eq_true, decide_eq_true_eq] at h
  exact ⟨h.1.1, h.1.2, h.2⟩

theorem step_ok {σ : AH} {I : Ids} {c r t u k : Nat} {B : List Nat} (b : Bd c r B) (P : PS σ I c r B t) (hu : u < 2) (hk : k < c * r) :
    ∃ m : Nat, F_step_attackers [.ref I.p, .int (k : Int), .int (u : Int)] σ = some (.int m, σ) ∧ ∀ s, m.testBit s = true → Gives c r B k s := by
  have e1 := P.pg.2
  have e2 := P.geo.knight.2
  have e3 := (P.geo.knight2 k hk).2
  have e4 := P.pk.2
  have e5 : subV (.ref I.kd) (.int 2) σ = _ := (P.kd 2 (by decide)).2
  have e6 := P.geo.king.2
  have e7 := (P.geo.king2 k hk).2
  have e8 : subV (.ref I.kd) (.int 6) σ = _ := (P.kd 6 (by decide)).2
  have e9 := P.ps.2
  have e10 := (P.sd u hu).2
  have e11 : subV (.ref I.pw) (.int (1 - (u : Int))) σ = some (.ref (I.ps (1 - u))) := by
    have := (P.geo.pawn1 (1 - u) (by exact Nat.lt_of_le_of_lt (Nat.sub_le ..) (by decide))).2
    rw [show (1 - (u : Int)) = ((1 - u : Nat) : Int) by omega]; exact this
  have e12 := (P.geo.pawn2 (1 - u) (by exact Nat.lt_of_le_of_lt (Nat.sub_le ..) (by decide)) k hk).2
  have e13 : subV (.ref I.kd) (.int 1) σ = _ := (P.kd 1 (by decide)).2
  have pa := f_pawn_attackers e1 P.geo.pawn.2 e11 e12 e4 e13 e9 e10
  rw [and_nat, and_nat] at pa
  have f15 : Fs1[15]? = some F_pawn_attackers := rfl
  let n := c * r
  let m1 := maskL (knightL c r k) &&& km B 2 n
  let m2 := m1 ||| (maskL (kingL c r k) &&& km B 6 n)
  let m3 := (maskL (pawnL c r (1 - u) k) &&& km B 1 n) &&& sm B u n
  let m := m3 ||| (m2 &&& sm B u n)
  let ρ0 : Rho := [some (.ref I.p), some (.int k), some (.int u), none, none]
  let ρ1 : Rho := [some (.ref I.p), some (.int k), some (.int u), some (.ref I.g), none]
  let ρ2 : Rho := [some (.ref I.p), some (.int k), some (.int u), some (.ref I.g), some (.int m1)]
  let ρ3 : Rho := [some (.ref I.p), some (.int k), some (.int u), some (.ref I.g), some (.int m2)]
  have s1 : exe Fs1 (.asg 3 (.attr (.var 0) 14)) ρ0 σ = some (.next, ρ1, σ) := s_asg (d_attr (d_var rfl) (by first | assumption | exact rfl))
  have s2 : exe Fs1 (.asg 4 (.bin .band (.sub (.attr (.var 3) 9) (.var 1)) (.sub (.attr (.var 0) 13) (.gint "KNIGHT" 2)))) ρ1 σ = some (.next, ρ2, σ) := s_asg (d_bin (d_sub (d_attr (d_var rfl) (by first | assumption | exact rfl)) (d_var rfl) (by first | assumption | exact rfl)) (d_sub (d_attr (d_var rfl) (by first | assumption | exact rfl)) d_gint (by first | assumption | exact rfl)) (by first | assumption | exact bandN _ _ | exact rfl))
  have s3 : exe Fs1 (.aug .bor 4 (.bin .band (.sub (.attr (.var 3) 7) (.var 1)) (.sub (.attr (.var 0) 13) (.gint "KING" 6)))) ρ2 σ = some (.next, ρ3, σ) := s_aug rfl (d_bin (d_sub (d_attr (d_var rfl) (by first | assumption | exact rfl)) (d_var rfl) (by first | assumption | exact rfl)) (d_sub (d_attr (d_var rfl) (by first | assumption | exact rfl)) d_gint (by first | assumption | exact rfl)) (by first | assumption | exact bandN _ _ | exact rfl)) (by first | assumption | exact borN _ _ | exact rfl)
  have s4 : exe Fs1 (.ret (.bin .bor (.call 15 (.cons (.var 0) (.cons (.var 1) (.cons (.var 2) .nil)))) (.bin .band (.var 4) (.sub (.attr (.var 0) 15) (.var 2))))) ρ3 σ = some (.ret (.int (m : Nat)), ρ3, σ) := s_ret (d_bin (d_call (l_cons (d_var rfl) (l_cons (d_var rfl) (l_cons (d_var rfl) l_nil))) (by first | assumption | exact rfl) (by assumption)) (d_bin (d_var rfl) (d_sub (d_attr (d_var rfl) (by first | assumption | exact rfl)) (d_var rfl) (by first | assumption | exact rfl)) (by first | assumption | exact bandN _ _ | exact rfl)) (by first | assumption | exact borN _ _ | exact rfl))
  refine ⟨m, fun_ret (Fs := Fs1) (np := 3) (ns := 5) (body := B_step_attackers) (ρ' := ρ3) rfl ((exes_go s1).trans ((exes_go s2).trans ((exes_go s3).trans (exes_ret s4)))), fun s h => ?_⟩
  obtain ⟨_, bk2, bk3, bk4⟩ := back b.hz hk
  simp only [m, m3, m2, m1, n, Nat.testBit_or, Nat.testBit_and, maskL_bit, Bool.or_eq_true, Bool.and_eq_true, decide_eq_true_eq] at h
  rcases h with ⟨⟨h1, h2⟩, h3⟩ | ⟨⟨h1, h2⟩ | ⟨h1, h2⟩, h3⟩
  · obtain ⟨ls, z, hk1⟩ := km_of h2
    refine gives_leap b ls z hk1 rfl ?_
    rw [(sm_of h3).2.2]
    exact bk4 u hu s h1
  · obtain ⟨ls, z, hk1⟩ := km_of h2
    exact gives_leap b ls z hk1 rfl (bk2 s h1)
  · obtain ⟨ls, z, hk1⟩ := km_of h2
    exact gives_leap b ls z hk1 rfl (bk3 s h1)

theorem strt_ok {σ : AH} {I : Ids} {c r t : Nat} {B : List Nat} (P : PS σ I c r B t) : F_straight_sliders [.ref I.p] σ = some (.int ((km B 4 (c * r) ||| km B 5 (c * r) : Nat) : Int), σ) := by
  have e1 := P.pk.2
  have e2 : subV (.ref I.kd) (.int 4) σ = _ := (P.kd 4 (by decide)).2
  have e3 : subV (.ref I.kd) (.int 5) σ = _ := (P.kd 5 (by decide)).2
  have s1 : exe Fs0 (.ret (.bin .bor (.sub (.attr (.var 0) 13) (.gint "ROOK" 4)) (.sub (.attr (.var 0) 13) (.gint "QUEEN" 5)))) [some (.ref I.p)] σ = some (.ret (.int ((km B 4 (c * r) ||| km B 5 (c * r) : Nat) : Int)), [some (.ref I.p)], σ) := s_ret (d_bin (d_sub (d_attr (d_var rfl) (by first | assumption | exact rfl)) d_gint (by first | assumption | exact rfl)) (d_sub (d_attr (d_var rfl) (by first | assumption | exact rfl)) d_gint (by first | assumption | exact rfl)) (by first | assumption | exact borN _ _ | exact rfl))
  exact fun_ret (Fs := Fs0) (np := 1) (ns := 1) (body := B_straight_sliders) rfl (exes_ret s1)
theorem slnt_ok {σ : AH} {I : Ids} {c r t : Nat} {B : List Nat} (P : PS σ I c r B t) : F_slanting_sliders [.ref I.p] σ = some (.int ((km B 3 (c * r) ||| km B 5 (c * r) : Nat) : Int), σ) := by
  have e1 := P.pk.2
  have e2 : subV (.ref I.kd) (.int 3) σ = _ := (P.kd 3 (by decide)).2
  have e3 : subV (.ref I.kd) (.int 5) σ = _ := (P.kd 5 (by decide)).2
  have s1 : exe Fs0 (.ret (.bin .bor (.sub (.attr (.var 0) 13) (.gint "BISHOP" 3)) (.sub (.attr (.var 0) 13) (.gint "QUEEN" 5)))) [some (.ref I.p)] σ = some (.ret (.int ((km B 3 (c * r) ||| km B 5 (c * r) : Nat) : Int)), [some (.ref I.p)], σ) := s_ret (d_bin (d_sub (d_attr (d_var rfl) (by first | assumption | exact rfl)) d_gint (by first | assumption | exact rfl)) (d_sub (d_attr (d_var rfl) (by first | assumption | exact rfl)) d_gint (by first | assumption | exact rfl)) (by first | assumption | exact borN _ _ | exact rfl))
  exact fun_ret (Fs := Fs0) (np := 1) (ns := 1) (body := B_slanting_sliders) rfl (exes_ret s1)

/-- one half of line_attackers -/
theorem half_ok {σ : AH} {I : Ids} {c r t k j : Nat} {B : List Nat} (b : Bd c r B) (P : PS σ I c r B t) (hk : k < c * r) {x y : Option AV} {h m : Nat} {Fa : Fun} {fi : Nat} (hf : Fs3[fi]? = some Fa) {ds : List Nat} {tl : AH} (hd : ∀ d ∈ ds, d < 8)
    (run : Fa [.ref I.g, .int (k : Int), .int (occM (c * r) B : Nat)] σ = some (.int (seen c r (occM (c * r) B) k ds 0 : Nat), σ ++ tl)) {ρ : Rho} (h0 : ρ[0]? = some (some (.ref I.p))) (h1 : ρ[1]? = some (some (.int k))) (h2 : ρ[2]? = some (some (.int (occM (c * r) B : Nat))))
    (h3 : ρ[3]? = some (some (.int (h : Nat)))) {v : Nat} (hv : ρ[v]? = some (some (.int (m : Nat)))) (hm : ∀ s, m.testBit s = true → s < c * r ∧ sq B s ≠ 0 ∧ ∀ d ∈ ds, (d < 4 ∧ (sq B s &&& 7 = 4 ∨ sq B s &&& 7 = 5)) ∨ (4 ≤ d ∧ (sq B s &&& 7 = 3 ∨ sq B s &&& 7 = 5)))
    (hh : ∀ s, h.testBit s = true → Gives c r B k s) :
    ∃ (h' : Nat) (σ' : AH), exe Fs3 (.ite (.var v) (.cons (.aug .bor 3 (.bin .band (.call fi (.cons (.attr (.var 0) 14) (.cons (.var 1) (.cons (.var 2) .nil)))) (.var v))) .nil) .nil) ρ σ = some (.next, ρ.set 3 (some (.int (h' : Nat))), σ') ∧ Up σ σ' ∧ ∀ s, h'.testBit s = true → Gives c r B k s := by
  have e1 := P.pg.2
  by_cases z : m = 0
  · refine ⟨h, σ, ?_, Up.refl σ, hh⟩
    have : ρ.set 3 (some (.int (h : Nat))) = ρ := by
      apply List.ext_getElem?
      intro i
      by_cases q : 3 = i
      · subst q; rw [List.getElem?_set_self (List.getElem?_eq_some_iff.mp h3).1, h3]
      · rw [List.getElem?_set_ne q]
    rw [this]
    exact s_nov (d_var hv) (by rw [z]; rfl)
  · let h' := h ||| (seen c r (occM (c * r) B) k ds 0 &&& m)
    refine ⟨h', σ ++ tl, ?_, Up.app σ tl, fun s hs => ?_⟩
    · have nz : ((m : Int) != 0) = true := bne_iff_ne.mpr (Int.ofNat_ne_zero.mpr z)
      exact s_yesv (d_var hv) (congrArg some nz) ((exes_go (s_aug h3 (d_bin (d_call (l_cons (d_attr (d_var h0) e1) (l_cons (d_var h1) (l_cons (d_var h2) l_nil))) hf run) (d_var hv) (bandN _ _)) (borN _ _))).trans rfl)
    · simp only [h', Nat.testBit_or, Nat.testBit_and, Bool.or_eq_true, Bool.and_eq_true] at hs
      rcases hs with hs | ⟨hs, ms⟩
      · exact hh s hs
      · obtain ⟨ls, nz, kd⟩ := hm s ms
        rw [seen_bit] at hs
        simp only [Nat.zero_testBit, Bool.false_or, List.any_eq_true, decide_eq_true_eq] at hs
        obtain ⟨d, dm, dt⟩ := hs
        exact gives_line b hk ls nz (hd d dm) (kd d dm) dt
theorem line_ok {σ : AH} {I : Ids} {c r t k : Nat} {B : List Nat} (b : Bd c r B) (P : PS σ I c r B t) (hk : k < c * r) :
    ∃ (m : Nat) (σ' : AH), F_line_attackers [.ref I.p, .int (k : Int), .int (occM (c * r) B : Nat)] σ = some (.int m, σ') ∧ Up σ σ' ∧ ∀ s, m.testBit s = true → Gives c r B k s := by
  let n := c * r
  let oc : Int := (occM (c * r) B : Nat)
  let st := km B 4 n ||| km B 5 n
  let sl := km B 3 n ||| km B 5 n
  let ρ0 : Rho := [some (.ref I.p), some (.int k), some (.int oc), none, none, none]
  let ρ1 : Rho := [some (.ref I.p), some (.int k), some (.int oc), some (.int (0 : Nat)), none, none]
  let ρ2 : Rho := [some (.ref I.p), some (.int k), some (.int oc), some (.int (0 : Nat)), some (.int st), none]
  have f13 : Fs3[13]? = some F_straight_sliders := rfl
  have f14 : Fs3[14]? = some F_slanting_sliders := rfl
  have s1 : exe Fs3 (.asg 3 (.int 0)) ρ0 σ = some (.next, ρ1, σ) := rfl
  have s2 : exe Fs3 (.asg 4 (.call 13 (.cons (.var 0) .nil))) ρ1 σ = some (.next, ρ2, σ) := s_asg (d_call (l_cons (d_var rfl) l_nil) f13 (strt_ok P))
  have hm1 : ∀ s, st.testBit s = true → s < c * r ∧ sq B s ≠ 0 ∧ ∀ d ∈ [0, 1, 2, 3], (d < 4 ∧ (sq B s &&& 7 = 4 ∨ sq B s &&& 7 = 5)) ∨ (4 ≤ d ∧ (sq B s &&& 7 = 3 ∨ sq B s &&& 7 = 5)) := fun s h => by
    simp only [st, Nat.testBit_or, Bool.or_eq_true] at h
    rcases h with h | h
    · obtain ⟨a, q, e⟩ := km_of h
      exact ⟨a, q, fun d hd => .inl ⟨(show ∀ d ∈ [0, 1, 2, 3], d < 4 by decide) d hd, .inl e⟩⟩
    · obtain ⟨a, q, e⟩ := km_of h
      exact ⟨a, q, fun d hd => .inl ⟨(show ∀ d ∈ [0, 1, 2, 3], d < 4 by decide) d hd, .inr e⟩⟩
  have hm2 : ∀ s, sl.testBit s = true → s < c * r ∧ sq B s ≠ 0 ∧ ∀ d ∈ [4, 5, 6, 7], (d < 4 ∧ (sq B s &&& 7 = 4 ∨ sq B s &&& 7 = 5)) ∨ (4 ≤ d ∧ (sq B s &&& 7 = 3 ∨ sq B s &&& 7 = 5)) := fun s h => by
    simp only [sl, Nat.testBit_or, Bool.or_eq_true] at h
    rcases h with h | h
    · obtain ⟨a, q, e⟩ := km_of h
      exact ⟨a, q, fun d hd => .inr ⟨(show ∀ d ∈ [4, 5, 6, 7], 4 ≤ d by decide) d hd, .inl e⟩⟩
    · obtain ⟨a, q, e⟩ := km_of h
      exact ⟨a, q, fun d hd => .inr ⟨(show ∀ d ∈ [4, 5, 6, 7], 4 ≤ d by decide) d hd, .inr e⟩⟩
  obtain ⟨h1, σ1, r1, u1, g1⟩ := half_ok (j := 0) (x := none) (y := none) b P hk (h := 0) (fi := 38) (Fa := F_rook_attacks) (v := 4) rfl (by decide) (rook_ok P.geo P.st1 b.hz hk) (ρ := ρ2) rfl rfl rfl rfl rfl hm1 (fun s h => by simp at h)
  let ρ3 : Rho := [some (.ref I.p), some (.int k), some (.int oc), some (.int (h1 : Nat)), some (.int st), none]
  let ρ4 : Rho := [some (.ref I.p), some (.int k), some (.int oc), some (.int (h1 : Nat)), some (.int st), some (.int sl)]
  have P1 := P.kp u1.kp
  have s4 : exe Fs3 (.asg 5 (.call 14 (.cons (.var 0) .nil))) ρ3 σ1 = some (.next, ρ4, σ1) := s_asg (d_call (l_cons (d_var rfl) l_nil) f14 (slnt_ok P1))
  obtain ⟨h2, σ2, r2, u2, g2⟩ := half_ok (j := 0) (x := none) (y := none) b P1 hk (h := h1) (fi := 39) (Fa := F_bishop_attacks) (v := 5) rfl (by decide) (bishop_ok P1.geo P1.st1 b.hz hk) (ρ := ρ4) rfl rfl rfl rfl rfl hm2 g1
  exact ⟨h2, σ2, fun_ret (Fs := Fs3) (np := 3) (ns := 6) (body := B_line_attackers) rfl ((exes_go s1).trans ((exes_go s2).trans ((exes_go r1).trans ((exes_go s4).trans ((exes_go r2).trans (exes_ret rfl)))))), u1.trans u2, g2⟩

theorem att_ok {σ : AH} {I : Ids} {c r t k : Nat} {B : List Nat} (b : Bd c r B) (P : PS σ I c r B t) (hk : k < c * r) :
    ∃ (m : Nat) (σ' : AH), F_attackers_to [.ref I.p, .int (k : Int), .int (occM (c * r) B : Nat)] σ = some (.int m, σ') ∧ Up σ σ' ∧ ∀ s, m.testBit s = true → Gives c r B k s := by
  obtain ⟨m0, r0, g0⟩ := step_ok b P (show 0 < 2 by decide) hk
  obtain ⟨m1, r1, g1⟩ := step_ok b P (show 1 < 2 by decide) hk
  obtain ⟨m2, σ', r2, u2, g2⟩ := line_ok b P hk
  let oc : Int := (occM (c * r) B : Nat)
  let ρ0 : Rho := [some (.ref I.p), some (.int k), some (.int oc), none]
  let ρ1 : Rho := [some (.ref I.p), some (.int k), some (.int oc), some (.int (m0 ||| m1 : Nat))]
  have r0 : F_step_attackers [.ref I.p, .int (k : Int), .int 0] σ = some (.int m0, σ) := r0
  have r1 : F_step_attackers [.ref I.p, .int (k : Int), .int 1] σ = some (.int m1, σ) := r1
  have f30 : Fs4[30]? = some F_step_attackers := rfl
  have f43 : Fs4[43]? = some F_line_attackers := rfl
  have s1 : exe Fs4 (.asg 3 (.bin .bor (.call 30 (.cons (.var 0) (.cons (.var 1) (.cons (.gint "WHITE" 0) .nil)))) (.call 30 (.cons (.var 0) (.cons (.var 1) (.cons (.gint "BLACK" 1) .nil)))))) ρ0 σ = some (.next, ρ1, σ) := s_asg (d_bin (d_call (l_cons (d_var rfl) (l_cons (d_var rfl) (l_cons d_gint l_nil))) (by first | assumption | exact rfl) (by assumption)) (d_call (l_cons (d_var rfl) (l_cons (d_var rfl) (l_cons d_gint l_nil))) (by first | assumption | exact rfl) (by assumption)) (by first | assumption | exact borN _ _ | exact rfl))
  have s2 : exe Fs4 (.ret (.bin .bor (.var 3) (.call 43 (.cons (.var 0) (.cons (.var 1) (.cons (.var 2) .nil)))))) ρ1 σ = some (.ret (.int ((m0 ||| m1) ||| m2 : Nat)), ρ1, σ') := s_ret (d_bin (d_var rfl) (d_call (l_cons (d_var rfl) (l_cons (d_var rfl) (l_cons (d_var rfl) l_nil))) (by first | assumption | exact rfl) (by assumption)) (by first | assumption | exact borN _ _ | exact rfl))
  refine ⟨_, σ', fun_ret (Fs := Fs4) (np := 3) (ns := 4) (body := B_attackers_to) rfl ((exes_go s1).trans (exes_ret s2)), u2, fun s h => ?_⟩
  simp only [Nat.testBit_or, Bool.or_eq_true] at h
  rcases h with (h | h) | h
  · exact g0 s h
  · exact g1 s h
  · exact g2 s h
theorem checkers_ok {σ : AH} {I : Ids} {c r t : Nat} {B : List Nat} (G : Gd c r B) (P : PS σ I c r B t) (ht : t < 2) :
    ∃ (m : Nat) (σ' : AH), F_checkers [.ref I.p] σ = some (.int m, σ') ∧ Up σ σ' ∧ ∀ s, m.testBit s = true → Gives c r B (kg B t) s ∧ own B (1 - t) s = true := by
  obtain ⟨m, σ', r1, u1, g1⟩ := att_ok G.toBd P (G.klt t ht)
  have e1 := P.ps.2
  have e2 : subV (.ref I.sd) (.int 0) σ = _ := (P.sd 0 (by decide)).2
  have e3 : subV (.ref I.sd) (.int 1) σ = _ := (P.sd 1 (by decide)).2
  have P1 := P.kp u1.kp
  have e4 := P1.ps.2
  have e5 : subV (.ref I.sd) (.int (1 - (t : Int))) σ' = some (.int (sm B (1 - t) (c * r) : Nat)) := by
    have := (P1.sd (1 - t) (by exact Nat.lt_of_le_of_lt (Nat.sub_le ..) (by decide))).2
    rw [show (1 - (t : Int)) = ((1 - t : Nat) : Int) by omega]; exact this
  have ks := kingsq_ok G P ht
  have f40 : Fs5[40]? = some F_king_square := rfl
  have f47 : Fs5[47]? = some F_attackers_to := rfl
  let ρ0 : Rho := [some (.ref I.p), some (.int t), none]
  let ρ1 : Rho := [some (.ref I.p), some (.int t), some (.int (occM (c * r) B : Nat))]
  have s1 : exe Fs5 (.asg 2 (.bin .bor (.sub (.attr (.var 0) 15) (.gint "WHITE" 0)) (.sub (.attr (.var 0) 15) (.gint "BLACK" 1)))) ρ0 σ = some (.next, ρ1, σ) := s_asg (d_bin (d_sub (d_attr (d_var rfl) (by first | assumption | exact rfl)) d_gint (by first | assumption | exact rfl)) (d_sub (d_attr (d_var rfl) (by first | assumption | exact rfl)) d_gint (by first | assumption | exact rfl)) (by first | assumption | exact borN _ _ | exact rfl))
  have s2 : exe Fs5 (.ret (.bin .band (.call 47 (.cons (.var 0) (.cons (.call 40 (.cons (.var 0) (.cons (.var 1) .nil))) (.cons (.var 2) .nil)))) (.sub (.attr (.var 0) 15) (.bin .sub (.int 1) (.var 1))))) ρ1 σ = some (.ret (.int (m &&& sm B (1 - t) (c * r) : Nat)), ρ1, σ') := by
    have sb : ∀ a b : Int, binV .sub a b = some (a - b) := fun _ _ => rfl
    have r1' : F_attackers_to [.ref I.p, .int (kg B t : Nat), .int (occM (c * r) B : Nat)] σ = some (.int m, σ') := r1
    exact s_ret (d_bin (d_call (l_cons (d_var rfl) (l_cons (d_call (l_cons (d_var rfl) (l_cons (d_var rfl) l_nil)) (by first | assumption | exact rfl) (by assumption)) (l_cons (d_var rfl) l_nil))) (by first | assumption | exact rfl) (by assumption)) (d_sub (d_attr (d_var rfl) (by first | assumption | exact rfl)) (d_bin d_int (d_var rfl) (by first | assumption | exact rfl)) (by first | assumption | exact rfl)) (by first | assumption | exact bandN _ _ | exact rfl))
  have run : F_checkers_of [.ref I.p, .int (t : Int)] σ = some (.int (m &&& sm B (1 - t) (c * r) : Nat), σ') := fun_ret (Fs := Fs5) (np := 2) (ns := 3) (body := B_checkers_of) rfl ((exes_go s1).trans (exes_ret s2))
  have f49 : Fs6[49]? = some F_checkers_of := rfl
  have e6 := P.pt.2
  have s3 : exe Fs6 (.ret (.call 49 (.cons (.var 0) (.cons (.attr (.var 0) 16) .nil)))) [some (.ref I.p)] σ = some (.ret (.int (m &&& sm B (1 - t) (c * r) : Nat)), [some (.ref I.p)], σ') := s_ret (d_call (l_cons (d_var rfl) (l_cons (d_attr (d_var rfl) (by first | assumption | exact rfl)) l_nil)) (by first | assumption | exact rfl) (by assumption))
  refine ⟨_, σ', fun_ret (Fs := Fs6) (np := 1) (ns := 1) (body := B_checkers) rfl (exes_ret s3), u1, fun s h => ?_⟩
  rw [Nat.testBit_and, Bool.and_eq_true, own_bit, Bool.and_eq_true] at h
  exact ⟨g1 s h.1, h.2.2⟩
end Mine
namespace Mine
open PySem.Builtin PyProof.Rows

/-! ## What answers a check; the whole refusal -/
theorem dir_loop {σ : AH} {I : Ids} {c r a e : Nat} (G : GeoAt σ I c r) (ha : a < c * r) : ∀ (l : List Nat) (x : Option AV), (∀ d ∈ l, d < 8) →
    (∃ x', forF (fun _ => true) (bindT [3] false) (exes Fs0 (.cons (.ite (.bin .band (.bin .shr (.sub (.sub (.attr (.var 0) 8) (.var 3)) (.var 1)) (.var 2)) (.int 1)) (.cons (.ret (.var 3)) .nil) .nil) .nil)) (l.map fun (d : Nat) => AV.int (d : Int)) [some (.ref I.g), some (.int a), some (.int e), x] σ = some (.next, [some (.ref I.g), some (.int a), some (.int e), x'], σ)) ∨
    (∃ (d : Nat) (ρ' : Rho), d < 8 ∧ forF (fun _ => true) (bindT [3] false) (exes Fs0 (.cons (.ite (.bin .band (.bin .shr (.sub (.sub (.attr (.var 0) 8) (.var 3)) (.var 1)) (.var 2)) (.int 1)) (.cons (.ret (.var 3)) .nil) .nil) .nil)) (l.map fun (d : Nat) => AV.int (d : Int)) [some (.ref I.g), some (.int a), some (.int e), x] σ = some (.ret (.int (d : Int)), ρ', σ))
  | [], x, _ => .inl ⟨x, rfl⟩
  | d :: l, x, hl => by
    have hd : d < 8 := hl d (List.mem_cons_self ..)
    have e1 := G.rays.2
    have e2 := (G.ray1 d hd).2
    have e3 := (G.ray2 d hd a ha).2
    let ρ : Rho := [some (.ref I.g), some (.int a), some (.int e), some (.int d)]
    have a1 : ∀ a b : Int, binV .band a b = some (bitAnd a b) := fun _ _ => rfl
    have t1 : den Fs0 (.bin .band (.bin .shr (.sub (.sub (.attr (.var 0) 8) (.var 3)) (.var 1)) (.var 2)) (.int 1)) ρ σ = some (.int (bitAnd ((maskL (rayL c r d a) >>> e : Nat) : Int) 1), σ) := (d_bin (d_bin (d_sub (d_sub (d_attr (d_var rfl) (by first | assumption | exact rfl)) (d_var rfl) (by first | assumption | exact rfl)) (d_var rfl) (by first | assumption | exact rfl)) (d_var rfl) (by first | assumption | exact shrV _ _ | exact rfl)) d_int (by first | assumption | exact bandN _ _ | exact rfl))
    cases hb : (maskL (rayL c r d a)).testBit e with
    | true =>
      refine .inr ⟨d, ρ, hd, forF_ret rfl rfl ?_⟩
      refine exes_ret ?_
      refine (congrArg (fun x => Option.bind x _) t1).trans ?_
      rw [Option.bind_some]
      refine (congrArg (fun x => Option.bind x _) (bitb _ _)).trans ?_
      rw [hb]; rfl
    | false =>
      have st : exes Fs0 (.cons (.ite (.bin .band (.bin .shr (.sub (.sub (.attr (.var 0) 8) (.var 3)) (.var 1)) (.var 2)) (.int 1)) (.cons (.ret (.var 3)) .nil) .nil) .nil) ρ σ = some (.next, ρ, σ) := by
        refine (exes_go (ρ' := ρ) (σ' := σ) ?_).trans rfl
        refine (congrArg (fun x => Option.bind x _) t1).trans ?_
        rw [Option.bind_some]
        refine (congrArg (fun x => Option.bind x _) (bitb _ _)).trans ?_
        rw [hb]; rfl
      rcases dir_loop G ha l (some (.int d)) fun d hd => hl d (List.mem_cons_of_mem _ hd) with ⟨x', h⟩ | ⟨d', ρ', h8, h⟩
      · exact .inl ⟨x', (forF_go (σ := σ) (ρ2 := ρ) (σ2 := σ) rfl rfl st).trans h⟩
      · exact .inr ⟨d', ρ', h8, (forF_go (σ := σ) (ρ2 := ρ) (σ2 := σ) rfl rfl st).trans h⟩
theorem dir_ok {σ : AH} {I : Ids} {c r a e : Nat} (G : GeoAt σ I c r) (ha : a < c * r) :
    F_direction [.ref I.g, .int a, .int e] σ = some (.int (-1), σ ++ [(false, .rng 0 8 1)]) ∨ ∃ d : Nat, d < 8 ∧ F_direction [.ref I.g, .int a, .int e] σ = some (.int (d : Int), σ ++ [(false, .rng 0 8 1)]) := by
  let bd : ISs := (.cons (.ite (.bin .band (.bin .shr (.sub (.sub (.attr (.var 0) 8) (.var 3)) (.var 1)) (.var 2)) (.int 1)) (.cons (.ret (.var 3)) .nil) .nil) .nil)
  have sm : smallB 8 = true := rfl
  have rl : rngList 0 8 1 = some [0, 1, 2, 3, 4, 5, 6, 7] := rfl
  rcases dir_loop (e := e) (G.kp (Kp.app σ [(false, .rng 0 8 1)])) ha [0, 1, 2, 3, 4, 5, 6, 7] none (by decide) with ⟨x', h⟩ | ⟨d, ρ', h8, h⟩
  · exact .inl (fun_ret (Fs := Fs0) (np := 3) (ns := 4) (body := B_direction) rfl ((exes_go (s_forR (d_range1 d_int sm) List.getElem?_concat_length rl h)).trans (exes_ret rfl)))
  · exact .inr ⟨d, h8, fun_ret (Fs := Fs0) (np := 3) (ns := 4) (body := B_direction) rfl (exes_ret (s_forR (d_range1 d_int sm) List.getElem?_concat_length rl h))⟩
theorem betw_ok {σ : AH} {I : Ids} {c r a e : Nat} (G : GeoAt σ I c r) (ha : a < c * r) (he : e < c * r) :
    ∃ m : Nat, F_between [.ref I.g, .int a, .int e] σ = some (.int (m : Int), σ ++ [(false, .rng 0 8 1)]) := by
  let σ1 := σ ++ [(false, .rng 0 8 1)]
  have G1 : GeoAt σ1 I c r := G.kp (Kp.app σ _)
  have f16 : Fs1[16]? = some F_direction := rfl
  let ρ0 : Rho := [some (.ref I.g), some (.int a), some (.int e), none]
  rcases dir_ok (e := e) G ha with h | ⟨d, hd, h⟩
  · have s1 : exe Fs1 (.asg 3 (.call 16 (.cons (.var 0) (.cons (.var 1) (.cons (.var 2) .nil))))) ρ0 σ = some (.next, [some (.ref I.g), some (.int a), some (.int e), some (.int (-1))], σ1) := s_asg (d_call (l_cons (d_var rfl) (l_cons (d_var rfl) (l_cons (d_var rfl) l_nil))) f16 h)
    exact ⟨0, fun_ret (Fs := Fs1) (np := 3) (ns := 4) (body := B_between) rfl ((exes_go s1).trans (exes_ret rfl))⟩
  · let ρ1 : Rho := [some (.ref I.g), some (.int a), some (.int e), some (.int (d : Int))]
    have s1 : exe Fs1 (.asg 3 (.call 16 (.cons (.var 0) (.cons (.var 1) (.cons (.var 2) .nil))))) ρ0 σ = some (.next, ρ1, σ1) := s_asg (d_call (l_cons (d_var rfl) (l_cons (d_var rfl) (l_cons (d_var rfl) l_nil))) (by first | assumption | exact rfl) (by assumption))
    have t2 : den Fs1 (.cmp .lt (.var 3) (.int 0)) ρ1 σ1 = some (.bool (decide ((d : Int) < 0)), σ1) := rfl
    have s2 : exe Fs1 (.ite (.cmp .lt (.var 3) (.int 0)) (.cons (.ret (.int 0)) .nil) .nil) ρ1 σ1 = some (.next, ρ1, σ1) := s_nod t2 (Int.not_lt.mpr (Int.natCast_nonneg d))
    have ho : opp d < 8 := (show ∀ d < 8, opp d < 8 by decide) d hd
    have xo : binV .bxor (d : Int) 2 = some ((opp d : Nat) : Int) := (show ∀ d : Nat, d < 8 → binV .bxor (d : Int) 2 = some ((opp d : Nat) : Int) by decide) d hd
    have e1 := G1.rays.2
    have e2 := (G1.ray1 d hd).2
    have e3 := (G1.ray2 d hd a ha).2
    have e4 := (G1.ray1 _ ho).2
    have e5 := (G1.ray2 _ ho e he).2
    refine ⟨maskL (rayL c r d a) &&& maskL (rayL c r (opp d) e), fun_ret (Fs := Fs1) (np := 3) (ns := 4) (body := B_between) (ρ' := ρ1) rfl ((exes_go s1).trans ((exes_go s2).trans (exes_ret ?_)))⟩
    exact s_ret (d_bin (d_sub (d_sub (d_attr (d_var rfl) e1) (d_var rfl) e2) (d_var rfl) e3) (d_sub (d_sub (d_attr (d_var rfl) e1) (d_bin (d_var rfl) d_int xo) e4) (d_var rfl) e5) (bandN _ _))
theorem evas_ok {σ : AH} {I : Ids} {c r t m : Nat} {B : List Nat} (G : Gd c r B) (P : PS σ I c r B t) (ht : t < 2) (hm : ∀ s, m.testBit s = true → s < c * r) :
    ∃ (x : Nat) (σ' : AH), F_evasion_targets [.ref I.p, .int (m : Int)] σ = some (.int (x : Int), σ') ∧ Up σ σ' := by
  let ρ : Rho := [some (.ref I.p), some (.int m)]
  have f11 : Fs3[11]? = some F_more_than_one := rfl
  let T : IE := .bop true (.cons (.cmp .eq (.var 1) (.int 0)) (.cons (.call 11 (.cons (.var 1) .nil)) .nil))
  by_cases z : m = 0
  · exact ⟨0, σ, fun_ret (Fs := Fs3) (np := 2) (ns := 2) (body := B_evasion_targets) (ρ' := ρ) rfl (exes_ret (s_yret (d_bop (b_stop (d_cmp (d_var rfl) d_int c_eq0) (decide_eq_true z))) d_int)), Up.refl σ⟩
  have mo : F_more_than_one [.int (m : Int)] σ = some (.bool (decide (m &&& (m - 1) ≠ 0)), σ) := by
    have q1 : binV .sub (m : Int) 1 = some ((m - 1 : Nat) : Int) := v_subN (b := 1) (Nat.pos_of_ne_zero z)
    have s1 : exe Fs0 (.ret (.cmp .ne (.bin .band (.var 0) (.bin .sub (.var 0) (.int 1))) (.int 0))) [some (.int m)] σ = some (.ret (.bool (decide (m &&& (m - 1) ≠ 0))), [some (.int m)], σ) := s_ret (d_cmp (d_bin (d_var rfl) (d_bin (d_var rfl) d_int (by first | assumption | exact rfl)) (by first | assumption | exact bandN _ _ | exact rfl)) d_int (by first | assumption | exact c_ne0 | exact rfl))
    exact fun_ret (Fs := Fs0) (np := 1) (ns := 1) (body := B_more_than_one) rfl (exes_ret s1)
  have t1 : den Fs3 T ρ σ = some (.bool (decide (m &&& (m - 1) ≠ 0)), σ) := d_bop (b_go (d_cmp (d_var rfl) d_int c_eq0) (decide_eq_false z) (b_one (d_call (l_cons (d_var rfl) l_nil) f11 mo)))
  by_cases w : m &&& (m - 1) ≠ 0
  · exact ⟨0, σ, fun_ret (Fs := Fs3) (np := 2) (ns := 2) (body := B_evasion_targets) (ρ' := ρ) rfl (exes_ret (s_yretd t1 w d_int)), Up.refl σ⟩
  obtain ⟨s, hs⟩ := (Nat.and_sub_one_eq_zero_iff_isPowerOfTwo z).mp (Classical.not_not.mp w)
  have ls : s < c * r := hm s (by rw [hs, Nat.testBit_two_pow]; exact decide_eq_true rfl)
  have s16 : s < 16 := Nat.lt_of_lt_of_le ls G.small.2.2.2.1
  have s1 : exe Fs3 (.ite T (.cons (.ret (.int 0)) .nil) .nil) ρ σ = some (.next, ρ, σ) := s_nod t1 w
  obtain ⟨x, bw⟩ := betw_ok (e := s) P.geo (G.klt t ht) ls
  have lp := low_pow σ s s16
  rw [← hs] at lp
  have e1 := P.pg.2
  have e2 := P.pt.2
  have f31 : Fs3[31]? = some F_between := rfl
  have f40 : Fs3[40]? = some F_king_square := rfl
  have f28 : Fs3[28]? = some F_lowest := rfl
  have ks := kingsq_ok G P ht
  have bw : F_between [.ref I.g, .int (kg B t : Nat), .int s] σ = some (.int (x : Int), σ ++ [(false, .rng 0 8 1)]) := bw
  refine ⟨m ||| x, σ ++ [(false, .rng 0 8 1)], fun_ret (Fs := Fs3) (np := 2) (ns := 2) (body := B_evasion_targets) (ρ' := ρ) rfl ((exes_go s1).trans (exes_ret ?_)), Up.app σ _⟩
  exact s_ret (d_bin (d_var rfl) (d_call (l_cons (d_attr (d_var rfl) e1) (l_cons (d_call (l_cons (d_var rfl) (l_cons (d_attr (d_var rfl) e2) l_nil)) f40 ks) (l_cons (d_call (l_cons (d_var rfl) l_nil) f28 lp) l_nil))) f31 bw) (borN _ _))

/-- the mover is in check -/
noncomputable def InChk (c r : Nat) (B : List Nat) (t : Nat) : Prop := ∃ s, Gives c r B (kg B t) s ∧ own B (1 - t) s = true
theorem answ_ok {σ : AH} {I : Ids} {c r t n k : Nat} {B : List Nat} (G : Gd c r B) (P : PS σ I c r B t) (ht : t < 2) (hsp : n / 16384 % 4 ≠ 2) :
    ∃ (v : Bool) (σ' : AH), F_answers_check [.ref I.p, .int (n : Int), .int (k : Int)] σ = some (.bool v, σ') ∧ Up σ σ' ∧ (v = false → InChk c r B t) := by
  obtain ⟨m, σ1, r1, u1, g1⟩ := checkers_ok G P ht
  have f50 : Fs7[50]? = some F_checkers := rfl
  let ρ0 : Rho := [some (.ref I.p), some (.int n), some (.int k), none, none]
  let ρ1 : Rho := [some (.ref I.p), some (.int n), some (.int k), some (.int m), none]
  have s1 : exe Fs7 (.asg 3 (.call 50 (.cons (.var 0) .nil))) ρ0 σ = some (.next, ρ1, σ1) := s_asg (d_call (l_cons (d_var rfl) l_nil) (by first | assumption | exact rfl) (by assumption))
  let T : IE := .bop true (.cons (.cmp .eq (.var 3) (.int 0)) (.cons (.cmp .eq (.var 2) (.gint "KING" 6)) .nil))
  have t2 : den Fs7 T ρ1 σ1 = some (.bool (decide (m = 0 ∨ k = 6)), σ1) := d_isb (d_bop (b_or (d_cmp (d_var rfl) d_int c_eq0) (b_one (d_cmp (d_var rfl) d_gint c_eq6)))) (Bool.decide_or ..).symm
  by_cases p : m = 0 ∨ k = 6
  · exact ⟨true, σ1, fun_ret (Fs := Fs7) (np := 3) (ns := 5) (body := B_answers_check) (ρ' := ρ1) rfl ((exes_go s1).trans (exes_ret (s_yretd t2 p rfl))), u1, fun h => Bool.noConfusion h⟩
  have chk : InChk c r B t := by
    have mz : m ≠ 0 := fun q => p (.inl q)
    obtain ⟨s, hs⟩ := Nat.exists_testBit_of_ne_zero mz
    exact ⟨s, g1 s hs⟩
  have s2 : exe Fs7 (.ite T (.cons (.ret (.bool true)) .nil) .nil) ρ1 σ1 = some (.next, ρ1, σ1) := s_nod t2 p
  have P1 := P.kp u1.kp
  obtain ⟨x, σ2, r2, u2⟩ := evas_ok G P1 ht fun s h => (g1 s h).1.1
  let ρ2 : Rho := [some (.ref I.p), some (.int n), some (.int k), some (.int m), some (.int x)]
  have f44 : Fs7[44]? = some F_evasion_targets := rfl
  have s3 : exe Fs7 (.asg 4 (.call 44 (.cons (.var 0) (.cons (.var 3) .nil)))) ρ1 σ1 = some (.next, ρ2, σ2) := s_asg (d_call (l_cons (d_var rfl) (l_cons (d_var rfl) l_nil)) (by first | assumption | exact rfl) (by assumption))
  have f4 : Fs7[4]? = some F_move_special := rfl
  have f3 : Fs7[3]? = some F_move_to := rfl
  have t4 : den Fs7 (.cmp .eq (.call 4 (.cons (.var 1) .nil)) (.gint "EN_PASSANT" 2)) ρ2 σ2 = some (.bool false, σ2) := d_isb (d_cmp (d_call (l_cons (d_var rfl) l_nil) f4 (special_nat n σ2)) d_gint c_eq2) (decide_eq_false hsp)
  have s4 : exe Fs7 (.ite (.cmp .eq (.call 4 (.cons (.var 1) .nil)) (.gint "EN_PASSANT" 2)) (.cons (.ret (.call 32 (.cons (.var 0) (.cons (.var 4) .nil)))) .nil) .nil) ρ2 σ2 = some (.next, ρ2, σ2) := s_no t4
  refine ⟨x.testBit (n % 64), σ2, fun_ret (Fs := Fs7) (np := 3) (ns := 5) (body := B_answers_check) (ρ' := ρ2) rfl ((exes_go s1).trans ((exes_go s2).trans ((exes_go s3).trans ((exes_go s4).trans (exes_ret ?_))))), u1.trans u2, fun _ => chk⟩
  exact s_ret (d_isb (d_cmp (d_bin (d_bin (d_var rfl) (d_call (l_cons (d_var rfl) l_nil) f3 (to_nat n σ2)) (shrV _ _)) d_int rfl) d_int rfl) (bit1 _ _))

theorem nandE (a b t : Nat) : (decide (a = 0) || decide (b ≠ t)) = !(decide (a ≠ 0) && decide (b = t)) := by
  by_cases h : a = 0 <;> by_cases h2 : b = t <;> simp [h, h2]
noncomputable def qT4 : IE := .bop true (.cons (.cmp .ge (.var 2) (.attr (.attr (.var 0) 14) 5)) (.cons (.cmp .ge (.var 3) (.attr (.attr (.var 0) 14) 5)) .nil))
noncomputable def qT6 : IE := .bop true (.cons (.cmp .eq (.var 4) (.gint "EMPTY" 0)) (.cons (.cmp .ne (.call 0 (.cons (.var 4) .nil)) (.attr (.var 0) 16)) .nil))
theorem pseudo_n {σ : AH} {I : Ids} {c r t n o g sort field : Nat} {B : List Nat} (G : Gd c r B) (P : PS σ I c r B t) (ht : t < 2) (fr : ∀ σ, F_move_from [.int (n : Int)] σ = some (.int (o : Nat), σ)) (to : ∀ σ, F_move_to [.int (n : Int)] σ = some (.int (g : Nat), σ))
    (sp : ∀ σ, F_move_special [.int (n : Int)] σ = some (.int (sort : Nat), σ)) (num : F_is_move_number [.int (n : Int)] σ = some (.bool (decide (¬ (o = g ∨ (sort ≠ 1 ∧ 0 < field)))), σ)) (s3 : sort ≤ 3)
    (an : ∀ {τ : AH} {k : Nat}, PS τ I c r B t → sort < 2 → ∃ (v : Bool) (σ' : AH), F_answers_check [.ref I.p, .int (n : Int), .int (k : Int)] τ = some (.bool v, σ') ∧ Up τ σ' ∧ (v = false → InChk c r B t)) :
    ∃ (v : Int) (σ' : AH), F_pseudo_refusal [.ref I.p, .int (n : Int)] σ = some (.int v, σ') ∧ Up σ σ' ∧ (v = reasonN c r B t o g sort field ∨ (reasonN c r B t o g sort field = 0 ∧ v = 6 ∧ InChk c r B t)) := by
  have fin : ∀ {v : Int} {σ' : AH} {ρ' : Rho}, exes Fs8 B_pseudo_refusal [some (.ref I.p), some (.int n), none, none, none, none, none] σ = some (.ret (.int v), ρ', σ') → F_pseudo_refusal [.ref I.p, .int (n : Int)] σ = some (.int v, σ') := fun h => fun_ret (Fs := Fs8) (np := 2) (ns := 7) (body := B_pseudo_refusal) rfl h
  let ρ0 : Rho := [some (.ref I.p), some (.int n), none, none, none, none, none]
  have t1 : den Fs8 (.una .not (.call 25 (.cons (.var 1) .nil))) ρ0 σ = some (.bool (!decide (¬ (o = g ∨ (sort ≠ 1 ∧ 0 < field)))), σ) := d_not (d_call (l_cons (d_var rfl) l_nil) rfl num) rfl
  by_cases p1 : o = g ∨ (sort ≠ 1 ∧ 0 < field)
  · have lv : reasonN c r B t o g sort field = 1 := if_pos p1
    exact ⟨1, σ, fin (exes_ret (s_yret (d_isb t1 (by rw [decide_eq_false (fun h => h p1)]; rfl)) d_gint)), Up.refl σ, .inl lv.symm⟩
  have st1 := s_no (a := .cons (.ret (.gint "NO_SUCH_NUMBER" 1)) .nil) (d_isb (b' := false) t1 (by rw [decide_eq_true p1]; rfl))
  let ρ2 : Rho := [some (.ref I.p), some (.int n), some (.int o), some (.int g), none, none, none]
  have st2 : exe Fs8 (.asg 2 (.call 2 (.cons (.var 1) .nil))) ρ0 σ = some (.next, [some (.ref I.p), some (.int n), some (.int o), none, none, none, none], σ) := s_asg (d_call (l_cons (d_var rfl) l_nil) rfl (fr σ))
  have st3 : exe Fs8 (.asg 3 (.call 3 (.cons (.var 1) .nil))) [some (.ref I.p), some (.int n), some (.int o), none, none, none, none] σ = some (.next, ρ2, σ) := s_asg (d_call (l_cons (d_var rfl) l_nil) rfl (to σ))
  have fin := fun {v : Int} {σ' : AH} {ρ' : Rho} h => fin (v := v) (σ' := σ') (ρ' := ρ') ((exes_go st1).trans ((exes_go st2).trans ((exes_go st3).trans h)))
  have e1 := P.pg.2
  have e2 := P.geo.size.2
  have t4 : den Fs8 qT4 ρ2 σ = some (.bool (decide (c * r ≤ o ∨ c * r ≤ g)), σ) := d_isb (d_bop (b_or (d_cmp (d_var rfl) (d_attr (d_attr (d_var rfl) e1) e2) c_geN) (b_one (d_cmp (d_var rfl) (d_attr (d_attr (d_var rfl) e1) e2) c_geN)))) (Bool.decide_or ..).symm
  by_cases p2 : c * r ≤ o ∨ c * r ≤ g
  · have lv : reasonN c r B t o g sort field = 2 := by unfold reasonN; rw [if_neg p1, if_pos p2]
    exact ⟨2, σ, fin (exes_ret (s_yretd t4 p2 d_gint)), Up.refl σ, .inl lv.symm⟩
  have st4 := s_nod (a := .cons (.ret (.gint "OFF_THE_BOARD" 2)) .nil) t4 p2
  have ho : o < c * r := Nat.lt_of_not_le fun h => p2 (.inl h)
  have hg : g < c * r := Nat.lt_of_not_le fun h => p2 (.inr h)
  let ρ3 : Rho := [some (.ref I.p), some (.int n), some (.int o), some (.int g), some (.int (sq B o : Nat)), none, none]
  have st5 : exe Fs8 (.asg 4 (.sub (.attr (.var 0) 18) (.var 2))) ρ2 σ = some (.next, ρ3, σ) := s_asg (d_sub (d_attr (d_var rfl) P.pb.2) (d_var rfl) (P.bd o ho).2)
  have so : F_side_of [.int (sq B o : Nat)] σ = some (.int (sq B o / 8 : Nat), σ) := (f_side_of _ σ).trans (congrArg (fun x => some (AV.int x, σ)) (fdiv_cast (sq B o) 8))
  have t6 : den Fs8 qT6 ρ3 σ = some (.bool (!own B t o), σ) := d_isb (d_bop (b_or (d_cmp (d_var rfl) d_gint c_eq0) (b_one (d_cmp (d_call (l_cons (d_var rfl) l_nil) rfl so) (d_attr (d_var rfl) P.pt.2) c_neN)))) (nandE (sq B o) (sq B o / 8) t)
  have fin := fun {v : Int} {σ' : AH} {ρ' : Rho} h => fin (v := v) (σ' := σ') (ρ' := ρ') ((exes_go st4).trans ((exes_go st5).trans h))
  cases p3 : own B t o with
  | false =>
    have lv : reasonN c r B t o g sort field = 3 := by unfold reasonN; rw [if_neg p1, if_neg p2, if_pos p3]
    exact ⟨3, σ, fin (exes_ret (s_yret (d_isb t6 (congrArg (fun x => !x) p3)) d_gint)), Up.refl σ, .inl lv.symm⟩
  | true =>
  have st6 := s_no (a := .cons (.ret (.gint "NO_OWN_PIECE" 3)) .nil) (d_isb (b' := false) t6 (congrArg (fun x => !x) p3))
  have t7 : den Fs8 (.bin .band (.bin .shr (.sub (.attr (.var 0) 15) (.attr (.var 0) 16)) (.var 3)) (.int 1)) ρ3 σ = some (.int (bitAnd ((sm B t (c * r) >>> g : Nat) : Int) 1), σ) := d_bin (d_bin (d_sub (d_attr (d_var rfl) P.ps.2) (d_attr (d_var rfl) P.pt.2) (P.sd t ht).2) (d_var rfl) (shrV _ _)) d_int rfl
  have tb : truth (.int (bitAnd ((sm B t (c * r) >>> g : Nat) : Int) 1)) = some (own B t g) := by rw [bitb, own_bit, decide_eq_true hg, Bool.true_and]
  cases p4 : own B t g with
  | true =>
    have lv : reasonN c r B t o g sort field = 4 := by unfold reasonN; rw [if_neg p1, if_neg p2, if_neg (by rw [p3]; decide), if_pos p4]
    exact ⟨4, σ, fin ((exes_go st6).trans (exes_ret (s_yretv t7 (tb.trans (congrArg some p4)) d_gint))), Up.refl σ, .inl lv.symm⟩
  | false =>
  have st7 := s_nov (a := .cons (.ret (.gint "OWN_GOAL" 4)) .nil) t7 (tb.trans (congrArg some p4))
  have lv : reasonN c r B t o g sort field = if lawMay c r B t o g sort then 0 else 5 := by
    unfold reasonN; rw [if_neg p1, if_neg p2, if_neg (by rw [p3]; decide), if_neg (by rw [p4]; decide)]
  rw [lv]
  let ρ4 : Rho := [some (.ref I.p), some (.int n), some (.int o), some (.int g), some (.int (sq B o : Nat)), some (.int (sort : Nat)), none]
  have st8 : exe Fs8 (.asg 5 (.call 4 (.cons (.var 1) .nil))) ρ3 σ = some (.next, ρ4, σ) := s_asg (d_call (l_cons (d_var rfl) l_nil) rfl (sp σ))
  have fin := fun {v : Int} {σ' : AH} {ρ' : Rho} h => fin (v := v) (σ' := σ') (ρ' := ρ') ((exes_go st6).trans ((exes_go st7).trans ((exes_go st8).trans h)))
  have t9 : den Fs8 (.cmp .eq (.var 5) (.gint "CASTLING" 3)) ρ4 σ = some (.bool (decide (sort = 3)), σ) := d_cmp (d_var rfl) d_gint c_eq3
  by_cases p5 : sort = 3
  · have l0 : lawMay c r B t o g sort = false := if_pos (.inl (by rw [p5]; decide))
    exact ⟨5, _, fin (exes_ret (s_yretd t9 p5 (d_iteF (d_call (l_cons (d_var rfl) (l_cons (d_var rfl) (l_cons (d_var rfl) l_nil))) rfl (castle_ok P ht _ _)) d_gint))), Up.app σ _, .inl (by rw [l0]; rfl)⟩
  have st9 := s_nod (a := .cons (.ret (.ite (.call 33 (.cons (.var 0) (.cons (.var 2) (.cons (.var 3) .nil)))) (.gint "MAY_GO" 0) (.gint "NO_SUCH_STEP" 5))) .nil) t9 p5
  obtain ⟨q1, q2⟩ := Bool.and_eq_true_iff.mp p3
  have q1 := of_decide_eq_true q1
  have ko : F_kind_of [.int (sq B o : Nat)] σ = some (.int (sq B o % 8 : Nat), σ) := (f_kind_of _ σ).trans (congrArg (fun x => some (AV.int x, σ)) ((and_nat (sq B o) 7).trans (congrArg Nat.cast (men_of G.toBd q1).2.2.1)))
  let ρ5 : Rho := [some (.ref I.p), some (.int n), some (.int o), some (.int g), some (.int (sq B o : Nat)), some (.int (sort : Nat)), some (.int (sq B o % 8 : Nat))]
  have st10 : exe Fs8 (.asg 6 (.call 1 (.cons (.var 4) .nil))) ρ4 σ = some (.next, ρ5, σ) := s_asg (d_call (l_cons (d_var rfl) l_nil) rfl ko)
  have s3' : sort < 3 := Nat.lt_of_le_of_ne s3 p5
  obtain ⟨σ1, r1, u1⟩ := piece_go (g := g) (sp := sort) G.toBd P ho hg q1 (of_decide_eq_true q2)
  rw [go_law G.toBd ho q1 (of_decide_eq_true q2) p4 s3'] at r1
  have t11 : den Fs8 (.una .not (.call 51 (.cons (.var 0) (.cons (.var 6) (.cons (.var 2) (.cons (.var 3) (.cons (.var 5) .nil))))))) ρ5 σ = some (.bool (!lawMay c r B t o g sort), σ1) := d_not (d_call (l_cons (d_var rfl) (l_cons (d_var rfl) (l_cons (d_var rfl) (l_cons (d_var rfl) (l_cons (d_var rfl) l_nil))))) rfl r1) rfl
  have fin := fun {v : Int} {σ' : AH} {ρ' : Rho} h => fin (v := v) (σ' := σ') (ρ' := ρ') ((exes_go st9).trans ((exes_go st10).trans h))
  cases p6 : lawMay c r B t o g sort with
  | false => exact ⟨5, σ1, fin (exes_ret (s_yret (d_isb t11 (congrArg (fun x => !x) p6)) d_gint)), u1, .inl rfl⟩
  | true =>
  have st11 := s_no (a := .cons (.ret (.gint "NO_SUCH_STEP" 5)) .nil) (d_isb (b' := false) t11 (congrArg (fun x => !x) p6))
  have s2 : sort < 2 := Nat.lt_of_not_le fun h => by
    have l0 : lawMay c r B t o g sort = false := if_pos (.inl h)
    rw [l0] at p6; cases p6
  obtain ⟨v, σ2, r2, u2, g2⟩ := an (k := sq B o % 8) (P.kp u1.kp) s2
  have dc : den Fs8 (.call 52 (.cons (.var 0) (.cons (.var 1) (.cons (.var 6) .nil)))) ρ5 σ1 = some (.bool v, σ2) := d_call (l_cons (d_var rfl) (l_cons (d_var rfl) (l_cons (d_var rfl) l_nil))) rfl r2
  cases v with
  | true => exact ⟨0, σ2, fin ((exes_go st11).trans (exes_ret (s_ret (d_iteT dc d_gint)))), u1.trans u2, .inl rfl⟩
  | false => exact ⟨6, σ2, fin ((exes_go st11).trans (exes_ret (s_ret (d_iteF dc d_gint)))), u1.trans u2, .inr ⟨rfl, rfl, g2 rfl⟩⟩
theorem pseudo_ok {σ : AH} {I : Ids} {c r t : Nat} {B : List Nat} (G : Gd c r B) (P : PS σ I c r B t) (ht : t < 2) (m : Int) :
    ∃ (v : Int) (σ' : AH), F_pseudo_refusal [.ref I.p, .int m] σ = some (.int v, σ') ∧ Up σ σ' ∧ (v = reason c r B t m ∨ (reason c r B t m = 0 ∧ v = 6 ∧ InChk c r B t)) := by
  by_cases q : m < 1 ∨ 65535 < m
  · have lv : reason c r B t m = 1 := if_pos q
    have t1 : den Fs8 (.una .not (.call 25 (.cons (.var 1) .nil))) [some (.ref I.p), some (.int m), none, none, none, none, none] σ = some (.bool true, σ) := d_not (d_call (l_cons (d_var rfl) l_nil) rfl (isnum_no q)) rfl
    exact ⟨1, σ, fun_ret (Fs := Fs8) (np := 2) (ns := 7) (body := B_pseudo_refusal) rfl (exes_ret (s_yret t1 d_gint)), Up.refl σ, .inl lv.symm⟩
  obtain ⟨n, rfl⟩ : ∃ n : Nat, m = n := ⟨m.toNat, by omega⟩
  have lv : reason c r B t n = reasonN c r B t (n / 64 % 64) (n % 64) (n / 16384) (n / 4096 % 4) := by unfold reason; rw [if_neg q, Int.toNat_natCast]
  rw [lv]
  have n1 : 1 ≤ n := by omega
  have n2 : n ≤ 65535 := by omega
  have n3 : n / 16384 ≤ 3 := Nat.le_of_lt_succ (Nat.div_lt_of_lt_mul (Nat.lt_succ_of_le n2))
  have n4 : n / 16384 % 4 = n / 16384 := Nat.mod_eq_of_lt (Nat.lt_succ_of_le n3)
  exact pseudo_n G P ht (from_nat n) (to_nat n) (fun σ => (special_nat n σ).trans (by rw [n4])) (isnum_ok n1 n2) n3 fun P h => answ_ok G P ht (by rw [n4]; exact Nat.ne_of_lt h)
end Mine
namespace Mine
open PySem.Builtin PyProof.Rows

/-! ## Comprehensions -/
theorem frz_get {σ : AH} {i : Nat} {m : Bool} {o : AO} (h : σ[i]? = some (m, o)) : (freeze σ)[i]? = some (false, o) := by
  unfold freeze; rw [List.getElem?_map, h]; rfl
theorem fold_ok {α : Type} {Fs : List Fun} {n : Nat} {conds : IEs} {elt : IE} {ρ : Rho} {τ : AH} (e : α → Int) (p : α → Bool) (f : α → Int) : ∀ l : List α,
    (∀ x ∈ l, denAll Fs conds (ρ.set n (some (.int (e x)))) τ = some (p x)) → (∀ x ∈ l, p x = true → ∃ σ', den Fs elt (ρ.set n (some (.int (e x)))) τ = some (.int (f x), σ')) →
    (l.map fun x => AV.int (e x)).foldr (fun v acc => acc.bind fun ys => (denAll Fs conds (ρ.set n (some v)) τ).bind fun t =>
        if t then (den Fs elt (ρ.set n (some v)) τ).bind fun (y, _) => match y with
          | .int i => some (i :: ys)
          | _ => .none
        else some ys) (some []) = some ((l.filter p).map f)
  | [], _, _ => rfl
  | x :: l, h1, h2 => by
    have ih := fold_ok e p f l (fun y hy => h1 y (List.mem_cons_of_mem _ hy)) (fun y hy => h2 y (List.mem_cons_of_mem _ hy))
    rw [List.map_cons, List.foldr_cons, ih, Option.bind_some, h1 x (List.mem_cons_self ..), Option.bind_some, List.filter_cons]
    cases hp : p x with
    | true =>
      obtain ⟨σ', h⟩ := h2 x (List.mem_cons_self ..) hp
      simp only [if_true, h, Option.bind_some, List.map_cons]
    | false => simp only [Bool.false_eq_true, if_false]
theorem comp_ok {α : Type} {Fs : List Fun} {n a : Nat} {src : IE} {conds : IEs} {elt : IE} {ρ : Rho} {σ τ : AH} {l : List α} (e : α → Int) (p : α → Bool) (f : α → Int) (hs : den Fs src ρ σ = some (.ref a, τ)) (hi : den.itemsOf (.ref a) τ = some (l.map fun x => AV.int (e x))) (hl : l.length ≤ lim)
    (h1 : ∀ x ∈ l, denAll Fs conds (ρ.set n (some (.int (e x)))) (freeze τ) = some (p x)) (h2 : ∀ x ∈ l, p x = true → ∃ σ', den Fs elt (ρ.set n (some (.int (e x)))) (freeze τ) = some (.int (f x), σ')) :
    den Fs (.comp n src conds elt) ρ σ = some (.ref τ.length, τ ++ [(true, .lst (((l.filter p).map f).map AV.int))]) := by
  have : ((l.filter p).map f).length ≤ lim := by rw [List.length_map]; exact Nat.le_trans (List.length_filter_le p l) hl
  exact bindI hs (bindI hi (bindI (fold_ok e p f l h1 h2) (if_pos this)))
theorem items_lst {σ : AH} {a : Nat} {m : Bool} {xs : List AV} (h : σ[a]? = some (m, .lst xs)) (hl : xs.length ≤ lim) : den.itemsOf (.ref a) σ = some xs := by
  unfold den.itemsOf
  dsimp only
  rw [h]
  exact if_pos hl
theorem items_rng {σ : AH} {a n : Nat} {m : Bool} (h : σ[a]? = some (m, .rng 0 (n : Int) 1)) (hn : n ≤ 1000000) : den.itemsOf (.ref a) σ = some ((List.range n).map fun (i : Nat) => AV.int (i : Int)) := by
  unfold den.itemsOf
  dsimp only
  rw [h]
  dsimp only
  rw [rng_up hn, List.range_eq_range']
theorem natsV_map (l : List Nat) : (l.map fun (n : Nat) => (n : Int)).map AV.int = natsV l := by
  unfold natsV; rw [List.map_map]; rfl
theorem rngE {Fs : List Fun} {e : IE} {ρ : Rho} {σ σ' : AH} {n : Nat} (h : den Fs e ρ σ = some (.int (n : Int), σ')) (hn : n ≤ 1000) : den Fs (.range (.cons e .nil)) ρ σ = some (.ref σ'.length, σ' ++ [(false, .rng 0 (n : Int) 1)]) := d_range1 h (small_of (Nat.le_trans hn (by decide)))

/-! ## The board -/
noncomputable def farP (c w s : Nat) : Bool := decide ((1 : Int) < ((((s % c : Nat) : Int) - ((w % c : Nat) : Int)).natAbs : Nat)) || decide ((1 : Int) < ((((s / c : Nat) : Int) - ((w / c : Nat) : Int)).natAbs : Nat))
theorem far_self (c w : Nat) : farP c w w = false := by
  unfold farP; simp
structure BG (n w f : Nat) (b : List Nat) : Prop where
  len : b.length = n
  men : okMen b
  k6 : ∀ s, sq b s = 6 ↔ s = w
  k14 : ∀ s, sq b s = 14 ↔ s = f
theorem sq_set {b : List Nat} {i v s : Nat} (hi : i < b.length) : sq (b.set i v) s = if s = i then v else sq b s := by
  unfold sq
  rw [List.getD_eq_getElem?_getD, List.getD_eq_getElem?_getD, List.getElem?_set]
  by_cases e : i = s
  · subst e; simp [hi]
  · rw [if_neg e, if_neg (fun q => e q.symm)]
theorem sq_zero {n s : Nat} : sq (List.replicate n 0) s = 0 := by
  unfold sq
  rw [List.getD_eq_getElem?_getD, List.getElem?_replicate]
  split <;> rfl
theorem men_set {b : List Nat} (h : okMen b) {i v : Nat} (hv : v ∈ ([0, 1, 2, 3, 4, 5, 6, 9, 10, 11, 12, 13, 14] : List Nat)) : okMen (b.set i v) := by
  intro x hx
  rcases List.mem_or_eq_of_mem_set hx with h1 | h1
  · exact h x h1
  · rw [h1]; exact hv
theorem bg_first {n w f : Nat} (hw : w < n) (hf : f < n) (hne : f ≠ w) : BG n w f (((List.replicate n 0).set w 6).set f 14) := by
  have l1 : w < (List.replicate n 0).length := by simp; exact hw
  have l2 : f < ((List.replicate n 0).set w 6).length := by simp; exact hf
  refine ⟨by simp, men_set (men_set (fun x hx => ?_) (by decide)) (by decide), fun s => ?_, fun s => ?_⟩
  · rw [(List.mem_replicate.mp hx).2]; decide
  · rw [sq_set l2, sq_set l1, sq_zero]
    by_cases e1 : s = f
    · rw [if_pos e1]; omega
    · rw [if_neg e1]
      by_cases e2 : s = w
      · rw [if_pos e2]; omega
      · rw [if_neg e2]; omega
  · rw [sq_set l2, sq_set l1, sq_zero]
    by_cases e1 : s = f
    · rw [if_pos e1]; omega
    · rw [if_neg e1]
      by_cases e2 : s = w
      · rw [if_pos e2]; omega
      · rw [if_neg e2]; omega
theorem bg_put {n w f i v : Nat} {b : List Nat} (h : BG n w f b) (hi : i < n) (h0 : sq b i = 0) (hv : v ∈ ([1, 2, 3, 4, 5, 9, 10, 11, 12, 13] : List Nat)) : BG n w f (b.set i v) := by
  have l1 : i < b.length := by rw [h.len]; exact hi
  have v6 : v ≠ 6 ∧ v ≠ 14 := ⟨fun q => absurd (q ▸ hv) (by decide), fun q => absurd (q ▸ hv) (by decide)⟩
  refine ⟨by rw [List.length_set, h.len], men_set h.men ?_, fun s => ?_, fun s => ?_⟩
  · exact List.contains_iff_mem.mp (List.all_eq_true.mp (show (([1, 2, 3, 4, 5, 9, 10, 11, 12, 13] : List Nat).all fun v => ([0, 1, 2, 3, 4, 5, 6, 9, 10, 11, 12, 13, 14] : List Nat).contains v) = true by decide) v hv)
  · rw [sq_set l1]
    have := h.k6 s
    by_cases e : s = i
    · subst e
      rw [if_pos rfl]
      have : ¬ s = w := fun q => by have := (h.k6 s).mpr q; omega
      exact ⟨fun q => absurd q v6.1, fun q => absurd q this⟩
    · rw [if_neg e]; exact this
  · rw [sq_set l1]
    have := h.k14 s
    by_cases e : s = i
    · subst e
      rw [if_pos rfl]
      have : ¬ s = f := fun q => by have := (h.k14 s).mpr q; omega
      exact ⟨fun q => absurd q v6.2, fun q => absurd q this⟩
    · rw [if_neg e]; exact this
theorem idx_of {b : List Nat} {v w : Nat} (hv : v ≠ 0) (h : ∀ s, sq b s = v ↔ s = w) : b.idxOf v = w ∧ w < b.length := by
  have h1 := (h w).mpr rfl
  have hw : w < b.length := by
    by_cases q : w < b.length
    · exact q
    · unfold sq at h1
      rw [List.getD_eq_getElem?_getD, List.getElem?_eq_none (by omega)] at h1
      exact absurd h1.symm hv
  have hm : v ∈ b := by
    rw [← h1]
    unfold sq
    rw [List.getD_eq_getElem?_getD, List.getElem?_eq_getElem hw]
    exact List.getElem_mem hw
  have hi := List.idxOf_lt_length_of_mem hm
  refine ⟨(h _).mp ?_, hw⟩
  unfold sq
  rw [List.getD_eq_getElem?_getD, List.getElem?_eq_getElem hi]
  exact List.getElem_idxOf hi
theorem BG.gd {c r w f : Nat} {b : List Nat} (hz : (c, r) ∈ sizes) (h : BG (c * r) w f b) : Gd c r b := by
  have a1 := idx_of (by decide) h.k6
  have a2 := idx_of (by decide) h.k14
  refine ⟨⟨hz, h.len, h.men⟩, fun u hu => ?_, fun u hu s => ?_⟩
  · have : u = 0 ∨ u = 1 := by omega
    rcases this with rfl | rfl
    · show b.idxOf 6 < _
      rw [a1.1, ← h.len]; exact a1.2
    · show b.idxOf 14 < _
      rw [a2.1, ← h.len]; exact a2.2
  · have : u = 0 ∨ u = 1 := by omega
    rcases this with rfl | rfl
    · show sq b s = 6 ↔ s = b.idxOf 6
      rw [a1.1]; exact h.k6 s
    · show sq b s = 14 ↔ s = b.idxOf 14
      rw [a2.1]; exact h.k14 s
end Mine
namespace Mine
open PySem.Builtin PyProof.Rows

theorem D.mono {k k' : Nat} {σ : AH} (h : D k σ) (hk : k ≤ k') : D k' σ := by
  obtain ⟨L, s, a, b, c, d⟩ := h
  exact ⟨L, s, a, b, Nat.le_trans c hk, d⟩
theorem D.far {k : Nat} {σ σ' : AH} (h : D k σ) (h9 : σ'[9]? = σ[9]?) (h10 : σ'[10]? = σ[10]?) : D k σ' := by
  obtain ⟨L, s, a, b, c, d⟩ := h
  exact ⟨L, s, by rw [h10]; exact a, by rw [h9]; exact b, c, d⟩
theorem dipE {Fs : List Fun} (h21 : Fs[21]? = some F__law_dip) {ρ : Rho} {v k m : Nat} {e : IE} {σ : AH} (hv : ρ[v]? = some (some (.ref 10))) (he : den Fs e ρ σ = some (.int (m : Int), σ)) (hD : D k σ) (hk : k ≤ 1000) (hm : 0 < m) :
    ∃ (x : Nat) (σ' : AH), den Fs (.call 21 (.cons (.var v) (.cons e .nil))) ρ σ = some (.int (x : Int), σ') ∧ x < m ∧ D (k + 1) σ' ∧ Kq σ σ' := by
  obtain ⟨x, σ', r, hx, hd, kq⟩ := dip_ok hD hk hm
  refine ⟨x, σ', ?_, hx, hd, kq⟩
  exact d_call (l_cons (d_var hv) (l_cons he l_nil)) h21 r

/-- barrel and board alone have changed -/
noncomputable def Kb (σ σ' : AH) : Prop := σ'.length = σ.length ∧ ∀ i, i ≠ 10 → i ≠ 11 → σ'[i]? = σ[i]?
theorem Kb.trans {a b c : AH} (x : Kb a b) (y : Kb b c) : Kb a c := ⟨y.1.trans x.1, fun i h h' => (y.2 i h h').trans (x.2 i h h')⟩
theorem Kb.refl (a : AH) : Kb a a := ⟨rfl, fun _ _ _ => rfl⟩
theorem Kq.kb {a b : AH} (h : Kq a b) : Kb a b := ⟨h.1, fun i h' _ => h.2 i h'⟩
theorem Kb.put {σ : AH} {o : Bool × AO} : Kb σ (σ.set 11 o) := ⟨List.length_set .., fun i _ h => List.getElem?_set_ne (Ne.symm h)⟩

noncomputable def bodB : ISs := (.cons (.asg 8 (.bin .add (.int 1) (.call 21 (.cons (.var 0) (.cons (.int 5) .nil))))) (.cons (.asg 9 (.call 21 (.cons (.var 0) (.cons (.var 3) .nil)))) (.cons (.asg 10 (.bop true (.cons (.cmp .lt (.var 9) (.var 1)) (.cons (.cmp .ge (.var 9) (.bin .sub (.var 3) (.var 1))) .nil)))) (.cons (.ite (.bop false (.cons (.cmp .eq (.sub (.var 4) (.var 9)) (.int 0)) (.cons (.una .not (.bop false (.cons (.cmp .eq (.var 8) (.int 1)) (.cons (.var 10) .nil)))) .nil))) (.cons (.setI (.var 4) (.var 9) (.bin .add (.var 8) (.bin .mul (.int 8) (.call 21 (.cons (.var 0) (.cons (.int 2) .nil)))))) .nil) .nil) .nil))))
theorem turn_ok {n w f c k : Nat} {b : List Nat} {σ : AH} {x2 x5 x6 x7 x8 x9 x10 x11 : Option AV} (hb : BG n w f b) (h11 : σ[11]? = some (true, .lst (natsV b))) (hD : D k σ) (hk : k ≤ 100) (hn : 0 < n ∧ n ≤ 16) :
    ∃ (b' : List Nat) (σ' : AH) (y8 y9 y10 : Option AV), exes Fs1 bodB [some (.ref 10), some (.int c), x2, some (.int n), some (.ref 11), x5, x6, x7, x8, x9, x10, x11] σ = some (.next, [some (.ref 10), some (.int c), x2, some (.int n), some (.ref 11), x5, x6, x7, y8, y9, y10, x11], σ') ∧
      BG n w f b' ∧ σ'[11]? = some (true, .lst (natsV b')) ∧ D (k + 3) σ' ∧ Kb σ σ' := by
  have h21 : Fs1[21]? = some F__law_dip := rfl
  let ρ0 : Rho := [some (.ref 10), some (.int c), x2, some (.int n), some (.ref 11), x5, x6, x7, x8, x9, x10, x11]
  obtain ⟨kd, σ1, d1, l1, D1, q1⟩ := dipE h21 (ρ := ρ0) (v := 0) (e := .int 5) (m := 5) rfl rfl hD (by exact Nat.le_trans (by assumption) (by decide)) (by decide)
  let ρ1 : Rho := [some (.ref 10), some (.int c), x2, some (.int n), some (.ref 11), x5, x6, x7, some (.int (1 + kd : Nat)), x9, x10, x11]
  have s1 : exe Fs1 (.asg 8 (.bin .add (.int 1) (.call 21 (.cons (.var 0) (.cons (.int 5) .nil))))) ρ0 σ = some (.next, ρ1, σ1) := s_asg (d_bin d_int d1 rfl)
  obtain ⟨s, σ2, d2, l2, D2, q2⟩ := dipE h21 (ρ := ρ1) (v := 0) (e := .var 3) (m := n) rfl rfl D1 (by exact Nat.lt_of_le_of_lt (by assumption) (by decide)) hn.1
  let ρ2 : Rho := [some (.ref 10), some (.int c), x2, some (.int n), some (.ref 11), x5, x6, x7, some (.int (1 + kd : Nat)), some (.int (s : Nat)), x10, x11]
  have s2 : exe Fs1 (.asg 9 (.call 21 (.cons (.var 0) (.cons (.var 3) .nil)))) ρ1 σ1 = some (.next, ρ2, σ2) := s_asg d2
  let o : Bool := decide ((s : Int) < c) || decide ((n : Int) - c ≤ s)
  let ρ3 : Rho := [some (.ref 10), some (.int c), x2, some (.int n), some (.ref 11), x5, x6, x7, some (.int (1 + kd : Nat)), some (.int (s : Nat)), some (.bool o), x11]
  have s3 : exe Fs1 (.asg 10 (.bop true (.cons (.cmp .lt (.var 9) (.var 1)) (.cons (.cmp .ge (.var 9) (.bin .sub (.var 3) (.var 1))) .nil)))) ρ2 σ2 = some (.next, ρ3, σ2) :=
    s_asg (d_bop (b_or (d_cmp (d_var rfl) (d_var rfl) rfl) (b_one (d_cmp (d_var rfl) (d_bin (d_var rfl) (d_var rfl) rfl) rfl))))
  have h11' : σ2[11]? = some (true, .lst (natsV b)) := by rw [q2.2 11 (by decide), q1.2 11 (by decide)]; exact h11
  have ls : s < b.length := by rw [hb.len]; exact l2
  have sb : subV (.ref 11) (.int (s : Int)) σ2 = some (.int ((sq b s : Nat) : Int)) := by
    have e : sq b s = b[s] := by simp [sq, List.getD, ls]
    rw [e]
    exact sub_at h11' (by simp [natsV, ls]) (by omega)
  let T : IE := .bop false (.cons (.cmp .eq (.sub (.var 4) (.var 9)) (.int 0)) (.cons (.una .not (.bop false (.cons (.cmp .eq (.var 8) (.int 1)) (.cons (.var 10) .nil)))) .nil))
  have t4 : den Fs1 T ρ3 σ2 = some (.bool (decide (sq b s = 0) && !(decide (1 + kd = 1) && o)), σ2) :=
    d_bop (b_and (d_cmp (d_sub (d_var rfl) (d_var rfl) sb) d_int c_eq0) (b_one (d_not (d_bop (b_and (d_cmp (d_var rfl) d_int c_eq1) (b_one (d_var rfl)))) rfl)))
  by_cases p : (decide (sq b s = 0) && !(decide (1 + kd = 1) && o)) = true
  · obtain ⟨j, σ3, d3, l3, D3, q3⟩ := dipE h21 (ρ := ρ3) (v := 0) (e := .int 2) (m := 2) rfl rfl D2 (by omega) (by decide)
    let v : Nat := 1 + kd + 8 * j
    have h113 : σ3[11]? = some (true, .lst (natsV b)) := by rw [q3.2 11 (by decide)]; exact h11'
    let σ4 := σ3.set 11 (true, .lst ((natsV b).set s (.int (v : Nat))))
    have l11 := (List.getElem?_eq_some_iff.mp h113).1
    have st := setItem_at (s := s) (v := .int (v : Nat)) h113 (by simp [natsV, ls]) (by omega)
    have s4 : exe Fs1 (.ite T (.cons (.setI (.var 4) (.var 9) (.bin .add (.var 8) (.bin .mul (.int 8) (.call 21 (.cons (.var 0) (.cons (.int 2) .nil)))))) .nil) .nil) ρ3 σ2 = some (.next, ρ3, σ4) :=
      s_yes (d_isb t4 p) ((exes_go (s_setI (d_bin (d_var rfl) (d_bin d_int d3 (v_mulN (a := 8) (by decide) (Nat.le_trans (Nat.le_of_lt l3) (by decide)))) rfl) (d_var rfl) (d_var rfl) st)).trans rfl)
    simp only [Bool.and_eq_true, decide_eq_true_eq] at p
    refine ⟨b.set s v, σ4, some (.int (1 + kd : Nat)), some (.int (s : Nat)), some (.bool o), (exes_go s1).trans ((exes_go s2).trans ((exes_go s3).trans ((exes_go s4).trans rfl))), bg_put hb l2 p.1 ?_, ?_, ?_, ?_⟩
    · have j2 : j = 0 ∨ j = 1 := by omega
      have k5 : kd = 0 ∨ kd = 1 ∨ kd = 2 ∨ kd = 3 ∨ kd = 4 := by omega
      show 1 + kd + 8 * j ∈ _
      rcases j2 with rfl | rfl <;> rcases k5 with rfl | rfl | rfl | rfl | rfl <;> decide
    · show (σ3.set 11 _)[11]? = _
      rw [List.getElem?_set_self l11]
      simp [natsV, List.map_set]
    · exact D3.far (List.getElem?_set_ne (by decide)) (List.getElem?_set_ne (by decide))
    · exact (q1.kb.trans (q2.kb.trans q3.kb)).trans Kb.put
  · have pf : (decide (sq b s = 0) && !(decide (1 + kd = 1) && o)) = false := by simpa using p
    have s4 : exe Fs1 (.ite T (.cons (.setI (.var 4) (.var 9) (.bin .add (.var 8) (.bin .mul (.int 8) (.call 21 (.cons (.var 0) (.cons (.int 2) .nil)))))) .nil) .nil) ρ3 σ2 = some (.next, ρ3, σ2) := s_no (d_isb t4 pf)
    exact ⟨b, σ2, some (.int (1 + kd : Nat)), some (.int (s : Nat)), some (.bool o), (exes_go s1).trans ((exes_go s2).trans ((exes_go s3).trans ((exes_go s4).trans rfl))), hb, h11', D2.mono (by omega), q1.kb.trans q2.kb⟩

theorem turns_ok {n w f c : Nat} {x2 x5 x6 x11 : Option AV} (hn : 0 < n ∧ n ≤ 16) : ∀ (l : List Int) (k : Nat) (b : List Nat) (σ : AH) (x7 x8 x9 x10 : Option AV), BG n w f b → σ[11]? = some (true, .lst (natsV b)) → D k σ → k + 3 * l.length ≤ 100 →
    ∃ (b' : List Nat) (σ' : AH) (y7 y8 y9 y10 : Option AV), forF (fun _ => true) (bindT [7] false) (exes Fs1 bodB) (l.map AV.int) [some (.ref 10), some (.int c), x2, some (.int n), some (.ref 11), x5, x6, x7, x8, x9, x10, x11] σ = some (.next, [some (.ref 10), some (.int c), x2, some (.int n), some (.ref 11), x5, x6, y7, y8, y9, y10, x11], σ') ∧
      BG n w f b' ∧ σ'[11]? = some (true, .lst (natsV b')) ∧ D (k + 3 * l.length) σ' ∧ Kb σ σ'
  | [], k, b, σ, x7, x8, x9, x10, hb, h, hd, _ => ⟨b, σ, x7, x8, x9, x10, rfl, hb, h, hd, Kb.refl σ⟩
  | v :: l, k, b, σ, x7, x8, x9, x10, hb, h, hd, hk => by
    rw [List.length_cons] at hk
    obtain ⟨b1, σ1, y8, y9, y10, r1, g1, e1, d1, q1⟩ := turn_ok (c := c) (x2 := x2) (x5 := x5) (x6 := x6) (x7 := some (.int v)) (x8 := x8) (x9 := x9) (x10 := x10) (x11 := x11) hb h hd (by omega) hn
    obtain ⟨b2, σ2, z7, z8, z9, z10, r2, g2, e2, d2, q2⟩ := turns_ok (c := c) (x2 := x2) (x5 := x5) (x6 := x6) (x11 := x11) hn l (k + 3) b1 σ1 (some (.int v)) y8 y9 y10 g1 e1 d1 (by omega)
    refine ⟨b2, σ2, z7, z8, z9, z10, (forF_go rfl rfl r1).trans r2, g2, e2, ?_, q1.trans q2⟩
    rw [List.length_cons, show k + 3 * (l.length + 1) = k + 3 + 3 * l.length by omega]; exact d2
end Mine
namespace Mine
open PySem.Builtin PyProof.Rows

theorem flat_zero : ∀ n : Nat, (List.replicate n [AV.int 0]).flatten = natsV (List.replicate n 0)
  | 0 => rfl
  | n + 1 => by
    have := flat_zero n
    unfold natsV at this ⊢
    rw [List.replicate_succ, List.flatten_cons, this, List.replicate_succ, List.map_cons]; rfl
theorem below {σ τ : AH} {i : Nat} (h : i < σ.length) : (σ ++ τ)[i]? = σ[i]? := List.getElem?_append_left h
theorem lenE {Fs : List Fun} {v a : Nat} {m : Bool} {l : List Nat} {ρ : Rho} {σ : AH} (hv : ρ[v]? = some (some (.ref a))) (h : σ[a]? = some (m, .lst (natsV l))) (hl : l.length ≤ 1000) : den Fs (.len (.var v)) ρ σ = some (.int (l.length : Nat), σ) := by
  have e : (natsV l).length = l.length := List.length_map ..
  have d := d_len (Fs := Fs) (ρ := ρ) (d_var hv) (seq_at h) (e ▸ Nat.le_trans hl (by decide))
  rw [e] at d
  exact d

noncomputable def restB : ISs := (.cons (.setI (.var 4) (.var 5) (.int 6)) (.cons (.setI (.var 4) (.sub (.var 6) (.call 21 (.cons (.var 0) (.cons (.len (.var 6)) .nil)))) (.int 14)) (.cons (.for [7] false (.range (.cons (.call 21 (.cons (.var 0) (.cons (.int 6) .nil))) .nil)) bodB) (.cons (.ret (.var 4)) .nil))))
theorem rest_ok {c r k n w fid : Nat} {F : List Nat} {σ : AH} (hn : 0 < n ∧ n ≤ 16) (hw : w < n) (hF : F ≠ []) (hFx : ∀ x ∈ F, x < n ∧ x ≠ w) (hFl : F.length ≤ 100) (hf : σ[fid]? = some (true, .lst (natsV F))) (hfi : 11 < fid) (h11 : σ[11]? = some (true, .lst (natsV (List.replicate n 0)))) (hD : D k σ) (hk : k ≤ 50) :
    ∃ (f : Nat) (B : List Nat) (σ' : AH) (ρ' : Rho), exes Fs1 restB [some (.ref 10), some (.int c), some (.int r), some (.int n), some (.ref 11), some (.int w), some (.ref fid), none, none, none, none, none] σ = some (.ret (.ref 11), ρ', σ') ∧
      BG n w f B ∧ σ'[11]? = some (true, .lst (natsV B)) ∧ D (k + 17) σ' ∧ σ'.length = σ.length + 1 ∧ ∀ i < 10, σ'[i]? = σ[i]? := by
  have h21 : Fs1[21]? = some F__law_dip := rfl
  let ρ : Rho := [some (.ref 10), some (.int c), some (.int r), some (.int n), some (.ref 11), some (.int w), some (.ref fid), none, none, none, none, none]
  have l11 := (List.getElem?_eq_some_iff.mp h11).1
  let b1 := (List.replicate n 0).set w 6
  let σ1 := σ.set 11 (true, .lst ((natsV (List.replicate n 0)).set w (.int (6 : Nat))))
  have k1 : Kb σ σ1 := Kb.put
  have g1 : σ1[11]? = some (true, .lst (natsV b1)) := by
    show (σ.set 11 _)[11]? = _
    rw [List.getElem?_set_self l11]; simp [natsV, List.map_set, b1]
  have s1 : exe Fs1 (.setI (.var 4) (.var 5) (.int 6)) ρ σ = some (.next, ρ, σ1) := by
    have st := setItem_at (s := w) (v := .int (6 : Nat)) h11 (by simp [natsV]; exact hw) (by omega)
    exact s_setI d_int (d_var rfl) (d_var rfl) st
  have D1 : D k σ1 := hD.far (List.getElem?_set_ne (by decide)) (List.getElem?_set_ne (by decide))
  have f1 : σ1[fid]? = some (true, .lst (natsV F)) := by
    show (σ.set 11 _)[fid]? = _
    rw [List.getElem?_set_ne (by exact Nat.ne_of_lt (by assumption))]; exact hf
  have F0 : 0 < F.length := List.length_pos_iff.mpr hF
  obtain ⟨j, σ2, d2, lj, D2, q2⟩ := dipE h21 (ρ := ρ) (v := 0) (e := .len (.var 6)) (m := F.length) rfl (lenE (a := fid) rfl f1 (by exact Nat.le_trans (by assumption) (by decide))) D1 (by exact Nat.le_trans (by assumption) (by decide)) F0
  have hx := hFx F[j] (List.getElem_mem lj)
  have g2 : σ2[11]? = some (true, .lst (natsV b1)) := by rw [q2.2 11 (by decide)]; exact g1
  have f2 : subV (.ref fid) (.int j) σ1 = some (.int (F[j] : Nat)) := sub_at f1 (by simp [natsV, lj]) (by omega)
  have f2' : subV (.ref fid) (.int j) σ2 = some (.int (F[j] : Nat)) := sub_of (fun o e => by rw [q2.2 fid (by omega)]; exact e) f2
  let b2 := b1.set F[j] 14
  let σ3 := σ2.set 11 (true, .lst ((natsV b1).set F[j] (.int (14 : Nat))))
  have l112 := (List.getElem?_eq_some_iff.mp g2).1
  have g3 : σ3[11]? = some (true, .lst (natsV b2)) := by
    show (σ2.set 11 _)[11]? = _
    rw [List.getElem?_set_self l112]; simp [natsV, List.map_set, b2]
  have s2 : exe Fs1 (.setI (.var 4) (.sub (.var 6) (.call 21 (.cons (.var 0) (.cons (.len (.var 6)) .nil)))) (.int 14)) ρ σ1 = some (.next, ρ, σ3) := by
    have st := setItem_at (s := F[j]) (v := .int (14 : Nat)) g2 (by simp [natsV, b1]; exact hx.1) (by omega)
    have st : setItemH (.ref 11) (.int (F[j] : Nat)) (.int 14) σ2 = some σ3 := st
    exact s_setI d_int (d_var rfl) (d_sub (d_var rfl) d2 f2') st
  have D3 : D (k + 1) σ3 := D2.far (List.getElem?_set_ne (by decide)) (List.getElem?_set_ne (by decide))
  have bg : BG n w F[j] b2 := bg_first hw hx.1 hx.2
  obtain ⟨tn, σ4, d4, lt, D4, q4⟩ := dipE h21 (ρ := ρ) (v := 0) (e := .int 6) (m := 6) rfl rfl D3 (by exact Nat.lt_of_le_of_lt (by assumption) (by decide)) (by decide)
  let σ5 := σ4 ++ [(false, AO.rng 0 (tn : Int) 1)]
  have g5 : σ5[11]? = some (true, .lst (natsV b2)) := up_ (by rw [q4.2 11 (by decide)]; exact g3)
  have rl : ∃ vs : List Int, rngList 0 (tn : Int) 1 = some vs ∧ vs.length = tn := by
    have : tn = 0 ∨ tn = 1 ∨ tn = 2 ∨ tn = 3 ∨ tn = 4 ∨ tn = 5 := by omega
    rcases this with rfl | rfl | rfl | rfl | rfl | rfl
    · exact ⟨[], rfl, rfl⟩
    · exact ⟨[0], rfl, rfl⟩
    · exact ⟨[0, 1], rfl, rfl⟩
    · exact ⟨[0, 1, 2], rfl, rfl⟩
    · exact ⟨[0, 1, 2, 3], rfl, rfl⟩
    · exact ⟨[0, 1, 2, 3, 4], rfl, rfl⟩
  obtain ⟨vs, rv, lv⟩ := rl
  obtain ⟨B, σ6, y7, y8, y9, y10, r6, bg6, g6, D6, q6⟩ := turns_ok (n := n) (w := w) (f := F[j]) (c := c) (x2 := some (.int r)) (x5 := some (.int w)) (x6 := some (.ref fid)) (x11 := none) hn vs (k + 1 + 1) b2 σ5 none none none none bg g5 D4.grow (by omega)
  have s3 : exe Fs1 (.for [7] false (.range (.cons (.call 21 (.cons (.var 0) (.cons (.int 6) .nil))) .nil)) bodB) ρ σ3 = some (.next, [some (.ref 10), some (.int c), some (.int r), some (.int n), some (.ref 11), some (.int w), some (.ref fid), y7, y8, y9, y10, none], σ6) := by
    exact s_forR (rngE d4 (n := tn) (Nat.le_trans (Nat.le_of_lt lt) (by decide))) List.getElem?_concat_length rv r6
  refine ⟨F[j], B, σ6, _, (exes_go s1).trans ((exes_go s2).trans ((exes_go s3).trans (exes_ret rfl))), bg6, g6, D6.mono (by omega), ?_, fun i hi => ?_⟩
  · rw [q6.1]; simp only [σ5, List.length_append, List.length_singleton]; rw [q4.1]; simp only [σ3, List.length_set]; rw [q2.1]; simp only [σ1, List.length_set]
  · have ln4 : σ4.length = σ.length := by rw [q4.1]; simp only [σ3, List.length_set]; rw [q2.1]; simp only [σ1, List.length_set]
    rw [q6.2 i (by exact Nat.ne_of_lt (by assumption)) (by exact Nat.ne_of_lt (Nat.lt_of_lt_of_le (by assumption) (by decide)))]
    show (σ4 ++ _)[i]? = _
    rw [below (by omega), q4.2 i (by exact Nat.ne_of_lt (by assumption))]
    show (σ2.set 11 _)[i]? = _
    rw [List.getElem?_set_ne (by omega), q2.2 i (by exact Nat.ne_of_lt (by assumption))]
    exact List.getElem?_set_ne (by omega)

theorem board_ok {c r k : Nat} {σ : AH} (hz : (c, r) ∈ sizes) (hl : σ.length = 11) (hD : D k σ) (hk : k ≤ 40) :
    ∃ (B : List Nat) (σ' : AH), F__law_board [.ref 10, .int c, .int r] σ = some (.ref 11, σ') ∧ Gd c r B ∧ σ'[11]? = some (true, .lst (natsV B)) ∧ D (k + 18) σ' ∧ (σ'.length = 15 ∨ σ'.length = 16) ∧ ∀ i < 10, σ'[i]? = σ[i]? := by
  have sc := size_cases hz
  have n9 : 9 ≤ c * r ∧ c * r ≤ 16 := by rcases sc with ⟨rfl | rfl, rfl | rfl⟩ <;> decide
  have c0 : 0 < c := by omega
  have h21 : Fs1[21]? = some F__law_dip := rfl
  let n := c * r
  let ρ0 : Rho := [some (.ref 10), some (.int c), some (.int r), none, none, none, none, none, none, none, none, none]
  let ρ1 : Rho := [some (.ref 10), some (.int c), some (.int r), some (.int (n : Nat)), none, none, none, none, none, none, none, none]
  let ρ2 : Rho := [some (.ref 10), some (.int c), some (.int r), some (.int (n : Nat)), some (.ref 11), none, none, none, none, none, none, none]
  have s1 : exe Fs1 (.asg 3 (.bin .mul (.var 1) (.var 2))) ρ0 σ = some (.next, ρ1, σ) := by
    have a : binV .mul (c : Int) (r : Int) = some ((n : Nat) : Int) := by
      rw [mul_ok (by exact Int.natCast_nonneg _) (by omega) (by exact Int.natCast_nonneg _) (by omega), ← Int.natCast_mul]
    exact s_asg (d_bin (d_var rfl) (d_var rfl) a)
  let σ2 := σ ++ [(true, AO.lst (natsV (List.replicate n 0)))]
  have s2 : exe Fs1 (.asg 4 (.rep (.cons (.int 0) .nil) (.var 3))) ρ1 σ = some (.next, ρ2, σ2) := by
    have cnd : (inN ((n : Nat) : Int) 1000000 && decide (1 ≤ [AV.int 0].length) && decide ([AV.int 0].length ≤ 100) && decide ([AV.int 0].length * ((n : Nat) : Int).toNat ≤ lim)) = true := by
      have hn : n ≤ 16 := n9.2
      generalize n = z at hn
      simp only [Bool.and_eq_true, decide_eq_true_eq, inN_iff, Int.toNat_natCast, List.length_singleton]
      unfold lim
      omega
    refine s_asg (bindI (l_cons d_int l_nil) (bindI (d_var rfl) ((if_pos cnd).trans ?_)))
    simp only [newO, hl, Int.toNat_natCast, flat_zero]
    rfl
  have g2 : σ2[11]? = some (true, .lst (natsV (List.replicate n 0))) := by
    show (σ ++ _)[11]? = _
    rw [← hl]; simp
  obtain ⟨w, σ3, d3, lw, D3, q3⟩ := dipE h21 (ρ := ρ2) (v := 0) (e := .var 3) (m := n) rfl rfl (hD.grow : D k σ2) (by exact Nat.le_trans (by assumption) (by decide)) (show 0 < c * r by omega)
  let ρ3 : Rho := [some (.ref 10), some (.int c), some (.int r), some (.int (n : Nat)), some (.ref 11), some (.int (w : Nat)), none, none, none, none, none, none]
  have s3 : exe Fs1 (.asg 5 (.call 21 (.cons (.var 0) (.cons (.var 3) .nil)))) ρ2 σ2 = some (.next, ρ3, σ3) := by
    exact s_asg d3
  have ln3 : σ3.length = 12 := by rw [q3.1]; simp [σ2, hl]
  let τ := σ3 ++ [(false, AO.rng 0 ((n : Nat) : Int) 1)]
  have lnτ : τ.length = 13 := by simp [τ, ln3]
  let F := (List.range n).filter (farP c w)
  let C : IE := .bop true (.cons (.cmp .gt (.abs (.bin .sub (.bin .mod (.var 11) (.var 1)) (.bin .mod (.var 5) (.var 1)))) (.int 1)) (.cons (.cmp .gt (.abs (.bin .sub (.bin .fdiv (.var 11) (.var 1)) (.bin .fdiv (.var 5) (.var 1)))) (.int 1)) .nil))
  have cp : den Fs1 (.comp 11 (.range (.cons (.var 3) .nil)) (.cons C .nil) (.var 11)) ρ3 σ3 = some (.ref 13, τ ++ [(true, .lst (natsV F))]) := by
    have src : den Fs1 (.range (.cons (.var 3) .nil)) ρ3 σ3 = some (.ref σ3.length, τ) := rngE (n := n) rfl (by omega)
    have c5 : τ[σ3.length]? = some (false, .rng 0 ((n : Nat) : Int) 1) := by simp [τ]
    have := comp_ok (Fs := Fs1) (n := 11) (conds := .cons C .nil) (elt := .var 11) (fun (x : Nat) => (x : Int)) (farP c w) (fun (x : Nat) => (x : Int)) src (items_rng c5 (by omega)) (by rw [List.length_range]; unfold lim; omega) (fun x hx => ?_) (fun x hx _ => ⟨_, rfl⟩)
    · rw [natsV_map, lnτ] at this; exact this
    · let ρx : Rho := [some (.ref 10), some (.int c), some (.int r), some (.int (n : Nat)), some (.ref 11), some (.int (w : Nat)), none, none, none, none, none, some (.int (x : Nat))]
      have m1 := mod_ok (a := x) c0
      have m2 := mod_ok (a := w) c0
      have v1 := fdiv_ok (a := x) c0 (by omega)
      have v2 := fdiv_ok (a := w) c0 (by omega)
      have sb : ∀ a b : Int, binV .sub a b = some (a - b) := fun _ _ => rfl
      have dc : den Fs1 C ρx (freeze τ) = some (.bool (farP c w x), freeze τ) := by
        exact d_bop (b_or (d_cmp (bindI (d_bin (d_bin (d_var rfl) (d_var rfl) m1) (d_bin (d_var rfl) (d_var rfl) m2) rfl) rfl) d_int rfl) (b_one (d_cmp (bindI (d_bin (d_bin (d_var rfl) (d_var rfl) v1) (d_bin (d_var rfl) (d_var rfl) v2) rfl) rfl) d_int rfl)))
      show denAll Fs1 (.cons C .nil) ρx (freeze τ) = _
      exact all_one dc
  let σ4 := τ ++ [(true, AO.lst (natsV F))]
  let ρ4 : Rho := [some (.ref 10), some (.int c), some (.int r), some (.int (n : Nat)), some (.ref 11), some (.int (w : Nat)), some (.ref 13), none, none, none, none, none]
  have s4 : exe Fs1 (.asg 6 (.comp 11 (.range (.cons (.var 3) .nil)) (.cons C .nil) (.var 11))) ρ3 σ3 = some (.next, ρ4, σ4) := by
    exact s_asg cp
  have lnF : F.length ≤ 16 := Nat.le_trans (List.length_filter_le ..) (by rw [List.length_range]; exact n9.2)
  have g4 : σ4[13]? = some (true, .lst (natsV F)) := by
    show (τ ++ _)[13]? = _
    rw [← lnτ]; simp
  have ln4 : σ4.length = 14 := by simp [σ4, lnτ]
  have old : ∀ i < 10, σ4[i]? = σ[i]? := fun i hi => by
    show (τ ++ _)[i]? = _
    rw [below (by omega)]
    show (σ3 ++ _)[i]? = _
    rw [below (by omega), q3.2 i (by exact Nat.ne_of_lt (by assumption))]
    show (σ ++ _)[i]? = _
    rw [below (by omega)]
  have g411 : σ4[11]? = some (true, .lst (natsV (List.replicate n 0))) := up_ (up_ (by rw [q3.2 11 (by decide)]; exact g2))
  have D4 : D (k + 1) σ4 := D3.grow.grow
  have t5 : den Fs1 (.eqNil false (.var 6)) ρ4 σ4 = some (.bool F.isEmpty, σ4) := by
    have e1 : (natsV F).length ≤ lim := by simp only [natsV, List.length_map]; unfold lim; omega
    have e2 : (natsV F).isEmpty = F.isEmpty := by unfold natsV; cases F <;> rfl
    refine bindI (d_var rfl) ?_
    dsimp only
    rw [g4]
    exact (if_pos e1).trans (by rw [e2]; rfl)
  let S5 : IS := .ite (.eqNil false (.var 6)) (.cons (.asg 5 (.int 0)) (.cons (.asg 6 (.lst (.cons (.bin .sub (.var 3) (.int 1)) .nil))) .nil)) .nil
  cases hF : F.isEmpty with
  | false =>
    have s5 : exe Fs1 S5 ρ4 σ4 = some (.next, ρ4, σ4) := by
      exact s_no (d_isb t5 hF)
    have ne : F ≠ [] := fun q => by rw [q] at hF; cases hF
    obtain ⟨f, B, σ', ρ', r6, bg, g6, D6, l6, o6⟩ := rest_ok (c := c) (r := r) (n := n) (w := w) (fid := 13) (F := F) (σ := σ4) ⟨by omega, n9.2⟩ lw ne (fun x hx => by
      have := List.mem_filter.mp hx
      refine ⟨List.mem_range.mp this.1, fun q => ?_⟩
      rw [q, far_self] at this
      exact absurd this.2 (by decide)) (by exact Nat.le_trans (by assumption) (by decide)) g4 (by decide) g411 D4 (by exact Nat.lt_of_le_of_lt (by assumption) (by decide))
    exact ⟨B, σ', fun_ret (Fs := Fs1) (np := 3) (ns := 12) (body := B__law_board) rfl ((exes_go s1).trans ((exes_go s2).trans ((exes_go s3).trans ((exes_go s4).trans ((exes_go s5).trans r6))))), bg.gd hz, g6, D6, by omega, fun i hi => (o6 i hi).trans (old i hi)⟩
  | true =>
    let σ5 := σ4 ++ [(true, AO.lst (natsV [n - 1]))]
    let ρ5 : Rho := [some (.ref 10), some (.int c), some (.int r), some (.int (n : Nat)), some (.ref 11), some (.int (0 : Nat)), some (.ref 14), none, none, none, none, none]
    have s5 : exe Fs1 S5 ρ4 σ4 = some (.next, ρ5, σ5) := by
      let ρ45 : Rho := [some (.ref 10), some (.int c), some (.int r), some (.int (n : Nat)), some (.ref 11), some (.int (0 : Nat)), some (.ref 13), none, none, none, none, none]
      have i1 : exe Fs1 (.asg 5 (.int 0)) ρ4 σ4 = some (.next, ρ45, σ4) := rfl
      have i2 : exe Fs1 (.asg 6 (.lst (.cons (.bin .sub (.var 3) (.int 1)) .nil))) ρ45 σ4 = some (.next, ρ5, σ5) := by
        have d := d_lst (Fs := Fs1) (ρ := ρ45) (l_cons (d_bin (d_var (v := .int (n : Nat)) (n := 3) rfl) d_int (v_subN (b := 1) (show 1 ≤ c * r by omega))) (l_nil (σ := σ4))) rfl
        rw [ln4] at d
        exact s_asg d
      exact s_yes (d_isb t5 hF) ((exes_go i1).trans ((exes_go i2).trans rfl))
    have g5 : σ5[14]? = some (true, .lst (natsV [n - 1])) := by
      show (σ4 ++ _)[14]? = _
      rw [← ln4]; simp
    obtain ⟨f, B, σ', ρ', r6, bg, g6, D6, l6, o6⟩ := rest_ok (c := c) (r := r) (n := n) (w := 0) (fid := 14) (F := [n - 1]) (σ := σ5) ⟨by omega, n9.2⟩ (by omega) (by simp) (fun x hx => by
      simp only [List.mem_singleton] at hx
      omega) (by simp) g5 (by decide) (up_ g411) D4.grow (by exact Nat.lt_of_le_of_lt (by assumption) (by decide))
    refine ⟨B, σ', fun_ret (Fs := Fs1) (np := 3) (ns := 12) (body := B__law_board) rfl ((exes_go s1).trans ((exes_go s2).trans ((exes_go s3).trans ((exes_go s4).trans ((exes_go s5).trans r6))))), bg.gd hz, g6, D6, ?_, fun i hi => (o6 i hi).trans ?_⟩
    · have : σ5.length = 15 := by simp [σ5, ln4]
      omega
    · show (σ4 ++ _)[i]? = _
      rw [below (by omega)]; exact old i hi
end Mine
namespace Mine
open PySem.Builtin PyProof.Rows

/-! ## The law's first statements -/
noncomputable def sL1 : IS := .asg 1 (.lst (.cons (.comp 21 (.take (.var 0) 40) .nil (.bin .mod (.toInt (.var 21)) (.pow12 (.int 10)))) (.cons (.int 0) .nil)))
noncomputable def sL2 : IS := .asgT [2, 3] (.sub (.gref "_law_sizes" 2) (.call 21 (.cons (.var 1) (.cons (.int 4) .nil))))
noncomputable def sL3 : IS := .asg 4 (.bin .mul (.var 2) (.var 3))
noncomputable def sL4 : IS := .asg 5 (.call 36 (.cons (.var 1) (.cons (.var 2) (.cons (.var 3) .nil))))
noncomputable def sL5 : IS := .asg 6 (.call 21 (.cons (.var 1) (.cons (.int 2) .nil)))
theorem part1 (ns : List Int) (hns : ns.length ≤ 63) (ss : ISs) : ∃ (c r t : Nat) (B : List Nat) (σ' : AH), t < 2 ∧ exes Fs9 (.cons sL1 (.cons sL2 (.cons sL3 (.cons sL4 (.cons sL5 ss))))) (some (.ref 7) :: List.replicate 27 none) (sig0 ns) = exes Fs9 ss (rho7 c r t) σ' ∧
    Gd c r B ∧ σ'[11]? = some (true, .lst (natsV B)) ∧ D 30 σ' ∧ (σ'.length = 15 ∨ σ'.length = 16) ∧ ∀ i < 7, σ'[i]? = S7[i]? := by
  have h21 : Fs9[21]? = some F__law_dip := rfl
  have h36 : Fs9[36]? = some F__law_board := rfl
  have l0 : (sig0 ns).length = 8 := rfl
  let σ0 := sig0 ns
  let ρ0 : Rho := some (.ref 7) :: List.replicate 27 none
  -- the barrel
  let L : List Int := ((ns.take 40).filter fun _ => true).map fun x => Int.fmod x 1000000000000
  let σa := σ0 ++ [(true, AO.lst ((ns.map AV.int).take 40))]
  let σb := σa ++ [(true, AO.lst (L.map AV.int))]
  let σ1 := σb ++ [(true, AO.lst [.ref 9, .int 0])]
  let ρ1 : Rho := some (.ref 7) :: some (.ref 10) :: List.replicate 26 none
  have lm : (ns.map AV.int).length ≤ lim := by rw [List.length_map]; unfold lim; omega
  have tke : den Fs9 (.take (.var 0) 40) ρ0 σ0 = some (.ref 8, σa) := by
    have d0 : den Fs9 (.var 0) ρ0 σ0 = some (.ref 7, σ0) := rfl
    have g7 : σ0[7]? = some (false, .lst (ns.map AV.int)) := rfl
    refine bindI d0 ?_
    dsimp only
    rw [g7]
    exact (if_pos lm).trans rfl
  have la : σa.length = 9 := by simp [σa, σ0, l0]
  have lb : σb.length = 10 := by simp [σb, la]
  have l1 : σ1.length = 11 := by simp [σ1, lb]
  have cp : den Fs9 (.comp 21 (.take (.var 0) 40) .nil (.bin .mod (.toInt (.var 21)) (.pow12 (.int 10)))) ρ0 σ0 = some (.ref 9, σb) := by
    have g8 : σa[8]? = some (true, .lst ((ns.map AV.int).take 40)) := by
      show (σ0 ++ _)[8]? = _
      rw [← l0]; simp [σ0]
    have it : den.itemsOf (.ref 8) σa = some ((ns.take 40).map fun x => AV.int x) := by
      rw [items_lst g8 (Nat.le_trans (List.length_take_le' ..) lm), ← List.map_take]
    have := comp_ok (Fs := Fs9) (n := 21) (conds := .nil) (elt := .bin .mod (.toInt (.var 21)) (.pow12 (.int 10))) (fun x : Int => x) (fun _ => true) (fun x => Int.fmod x 1000000000000) tke it (by rw [List.length_take]; unfold lim; omega) (fun _ _ => rfl) (fun x _ _ => ⟨freeze σa, ?_⟩)
    · rw [la] at this; exact this
    · have e1 : (ρ0.set 21 (some (.int x)))[21]? = some (some (.int x)) := rfl
      have e2 : binV .mod x 1000000000000 = some (Int.fmod x 1000000000000) := by
        simp only [binV]; rw [if_pos (by decide)]
      exact d_bin (bindI (d_var e1) rfl) (bindI d_int (if_pos rfl)) e2
  have s1 : exe Fs9 sL1 ρ0 σ0 = some (.next, ρ1, σ1) := by
    have d : den Fs9 (.lst (.cons (.comp 21 (.take (.var 0) 40) .nil (.bin .mod (.toInt (.var 21)) (.pow12 (.int 10)))) (.cons (.int 0) .nil))) ρ0 σ0 = some (.ref 10, σ1) := by
      have d := d_lst (Fs := Fs9) (ρ := ρ0) (l_cons cp (l_cons (d_int (i := 0)) l_nil)) rfl
      rw [lb] at d
      exact d
    exact s_asg d
  have D1 : D 0 σ1 := by
    refine ⟨L, 0, ?_, ?_, Nat.le_refl 0, ?_⟩
    · show (σb ++ _)[10]? = _
      rw [← lb]; simp
    · refine up_ ?_
      show (σa ++ _)[9]? = _
      rw [← la]; simp
    · simp only [L, List.length_map]
      exact Nat.le_trans (List.length_filter_le ..) (by rw [List.length_take]; omega)
  have o1 : ∀ i < 8, σ1[i]? = σ0[i]? := fun i hi => by
    show (σb ++ _)[i]? = _
    rw [below (by omega)]
    show (σa ++ _)[i]? = _
    rw [below (by exact Nat.lt_succ_of_lt (by assumption))]
    show (σ0 ++ _)[i]? = _
    exact below (by show i < (sig0 ns).length; omega)
  obtain ⟨x, σ2, d2, lx, D2, q2⟩ := dipE h21 (ρ := ρ1) (v := 1) (e := .int 4) (m := 4) rfl rfl D1 (by decide) (by decide)
  have o2 : ∀ i < 8, σ2[i]? = σ0[i]? := fun i hi => by rw [q2.2 i (by exact Nat.ne_of_lt (Nat.lt_of_lt_of_le (by assumption) (by decide))), o1 i hi]
  obtain ⟨c, r, hz, hsub, hget⟩ : ∃ c r : Nat, (c, r) ∈ sizes ∧ subV (.ref 2) (.int x) σ2 = some (.ref (3 + x)) ∧ σ2[3 + x]? = some (false, .tup [.int c, .int r]) := by
    have g2 : σ2[2]? = some (false, .tup [.ref 3, .ref 4, .ref 5, .ref 6]) := (o2 2 (by decide)).trans rfl
    have : x = 0 ∨ x = 1 ∨ x = 2 ∨ x = 3 := by omega
    rcases this with rfl | rfl | rfl | rfl
    · exact ⟨3, 3, by decide, by unfold subV; simp only [g2]; rfl, (o2 3 (by decide)).trans rfl⟩
    · exact ⟨3, 4, by decide, by unfold subV; simp only [g2]; rfl, (o2 4 (by decide)).trans rfl⟩
    · exact ⟨4, 3, by decide, by unfold subV; simp only [g2]; rfl, (o2 5 (by decide)).trans rfl⟩
    · exact ⟨4, 4, by decide, by unfold subV; simp only [g2]; rfl, (o2 6 (by decide)).trans rfl⟩
  have sc := size_cases hz
  let ρ2 : Rho := some (.ref 7) :: some (.ref 10) :: some (.int c) :: some (.int r) :: List.replicate 24 none
  let ρ3 : Rho := some (.ref 7) :: some (.ref 10) :: some (.int c) :: some (.int r) :: some (.int (c * r : Nat)) :: List.replicate 23 none
  let ρ4 : Rho := some (.ref 7) :: some (.ref 10) :: some (.int c) :: some (.int r) :: some (.int (c * r : Nat)) :: some (.ref 11) :: List.replicate 22 none
  have s2 : exe Fs9 sL2 ρ1 σ1 = some (.next, ρ2, σ2) := by
    exact s_asgT (d_sub rfl d2 hsub) (t_bind hget rfl)
  have s3 : exe Fs9 sL3 ρ2 σ2 = some (.next, ρ3, σ2) := by
    have a : binV .mul (c : Int) (r : Int) = some ((c * r : Nat) : Int) := by
      rw [mul_ok (by exact Int.natCast_nonneg _) (by omega) (by exact Int.natCast_nonneg _) (by omega), ← Int.natCast_mul]
    exact s_asg (d_bin (d_var rfl) (d_var rfl) a)
  obtain ⟨B, σ4, r4, gd, g4, D4, ln4, o4⟩ := board_ok (k := 1) hz (by rw [q2.1]; exact l1) D2 (by decide)
  have s4 : exe Fs9 sL4 ρ3 σ2 = some (.next, ρ4, σ4) := by
    exact s_asg (d_call (l_cons (d_var rfl) (l_cons (d_var rfl) (l_cons (d_var rfl) l_nil))) h36 r4)
  obtain ⟨t, σ5, d5, lt, D5, q5⟩ := dipE h21 (ρ := ρ4) (v := 1) (e := .int 2) (m := 2) rfl rfl D4 (by decide) (by decide)
  have s5 : exe Fs9 sL5 ρ4 σ4 = some (.next, rho7 c r t, σ5) := by
    exact s_asg d5
  refine ⟨c, r, t, B, σ5, lt, (exes_go s1).trans ((exes_go s2).trans ((exes_go s3).trans ((exes_go s4).trans (exes_go s5)))), gd, ?_, D5.mono (by decide), by rw [q5.1]; exact ln4, fun i hi => ?_⟩
  · rw [q5.2 11 (by decide)]; exact g4
  · rw [q5.2 i (by exact Nat.ne_of_lt (Nat.lt_of_lt_of_le (by assumption) (by decide))), o4 i (by exact Nat.le_trans (by assumption) (by decide)), o2 i (by exact Nat.le_trans (by assumption) (by decide))]
    show ((statV.map fun xs => (false, AO.tup xs)) ++ _)[i]? = _
    exact below (by show i < 7; exact hi)
end Mine
namespace Mine
open PySem.Builtin PyProof.Rows

/-! ## The position of the law -/
theorem uncons {α : Type} {l : List α} {n : Nat} (h : l.length = n + 1) : ∃ a t, l = a :: t ∧ t.length = n := by
  cases l with
  | nil => cases h
  | cons a t => exact ⟨a, t, rfl, by simpa using h⟩
theorem split7 {σ : AH} (h7 : ∀ i < 7, σ[i]? = S7[i]?) : ∀ {m : Nat}, σ.length = 7 + m → ∃ l, σ = S7 ++ l ∧ l.length = m := by
  intro m hl
  refine ⟨σ.drop 7, ?_, by simp [hl]⟩
  have : σ.take 7 = S7 := by
    apply List.ext_getElem?
    intro i
    rw [List.getElem?_take]
    by_cases q : i < 7
    · rw [if_pos q, h7 i q]
    · rw [if_neg q]
      exact (List.getElem?_eq_none (by show 7 ≤ i; omega)).symm
  rw [← this, List.take_append_drop]
theorem pos_any {c r : Nat} {s : Int} {σ : AH} (hz : (c, r) ∈ sizes) (hl : σ.length = 15 ∨ σ.length = 16) (h7 : ∀ i < 7, σ[i]? = S7[i]?) :
    ∃ N, (N = 15 ∨ N = 16) ∧ σ.length = N ∧ exe Fs9 sPos (rho7 c r s) σ = some (.next, (rho7 c r s).set 7 (some (.ref (posId c r N))), σ ++ posT c r N) := by
  simp only [sizes, List.mem_cons, Prod.mk.injEq, List.not_mem_nil, or_false] at hz
  rcases hl with hl | hl
  · refine ⟨15, .inl rfl, hl, ?_⟩
    obtain ⟨l, rfl, h⟩ := split7 h7 (m := 8) hl
    obtain ⟨a, l1, e1, h1⟩ := uncons h
    obtain ⟨b, l2, e2, h2⟩ := uncons h1
    obtain ⟨x3, l3, e3, h3⟩ := uncons h2
    obtain ⟨x4, l4, e4, h4⟩ := uncons h3
    obtain ⟨x5, l5, e5, h5⟩ := uncons h4
    obtain ⟨x6, l6, e6, h6⟩ := uncons h5
    obtain ⟨x7, l7, e7, h7⟩ := uncons h6
    obtain ⟨x8, l8, e8, h8⟩ := uncons h7
    have e9 := List.length_eq_zero_iff.mp h8
    subst e1 e2 e3 e4 e5 e6 e7 e8 e9
    rcases hz with ⟨rfl, rfl⟩ | ⟨rfl, rfl⟩ | ⟨rfl, rfl⟩ | ⟨rfl, rfl⟩
    · exact pos33_15 ..
    · exact pos34_15 ..
    · exact pos43_15 ..
    · exact pos44_15 ..
  · refine ⟨16, .inr rfl, hl, ?_⟩
    obtain ⟨l, rfl, h⟩ := split7 h7 (m := 9) hl
    obtain ⟨a, l1, e1, h1⟩ := uncons h
    obtain ⟨b, l2, e2, h2⟩ := uncons h1
    obtain ⟨x3, l3, e3, h3⟩ := uncons h2
    obtain ⟨x4, l4, e4, h4⟩ := uncons h3
    obtain ⟨x5, l5, e5, h5⟩ := uncons h4
    obtain ⟨x6, l6, e6, h6⟩ := uncons h5
    obtain ⟨x7, l7, e7, h7⟩ := uncons h6
    obtain ⟨x8, l8, e8, h8⟩ := uncons h7
    obtain ⟨x9, l9, e9, h9⟩ := uncons h8
    have e10 := List.length_eq_zero_iff.mp h9
    subst e1 e2 e3 e4 e5 e6 e7 e8 e9 e10
    rcases hz with ⟨rfl, rfl⟩ | ⟨rfl, rfl⟩ | ⟨rfl, rfl⟩ | ⟨rfl, rfl⟩
    · exact pos33_16 ..
    · exact pos34_16 ..
    · exact pos43_16 ..
    · exact pos44_16 ..

/-! the look at the empty position -/
noncomputable def cO (N : Nat) (σ : AH) (i : Nat) (o : AO) : Bool := decide (N ≤ i) && decide (σ[i]? = some (true, o))
theorem cO_ok {N : Nat} (h10 : 10 < N) {pre t : AH} (hp : pre.length = N) {i : Nat} {o : AO} (h : cO N (dumm N ++ t) i o = true) : N ≤ i ∧ (pre ++ t)[i]? = some (true, o) := by
  unfold cO at h
  simp only [Bool.and_eq_true, decide_eq_true_eq] at h
  exact ⟨h.1, lift_ h10 hp h.1 _ h.2⟩
noncomputable def posChk (N : Nat) (σ : AH) (I : Ids) (c r : Nat) : Bool :=
  cO N σ I.p (.inst 1 (pflds I 0 (idA σ I.p 24))) && cO N σ I.bd (.lst (natsV (List.replicate (c * r) 0))) && cO N σ I.kd (.lst (natsV (List.replicate 7 0))) && cO N σ I.sd (.lst (natsV (List.replicate 2 0))) &&
  cA N σ I.zo 25 (.ref I.zp) && ((List.range 15).all fun pc => cS N σ I.zp pc (.ref I.zr)) && ((List.range (c * r)).all fun s => cS N σ I.zr s (.int 0)) &&
  decide (I.p ≠ I.bd ∧ I.p ≠ I.kd ∧ I.p ≠ I.sd ∧ I.bd ≠ I.kd ∧ I.bd ≠ I.sd ∧ I.kd ≠ I.sd) &&
  ([I.zo, I.zp, I.zr, I.g, I.ra, I.kg, I.kn, I.pw, I.cs].all fun i => decide (i ∉ mut4 I)) && ((List.range 8).all fun d => decide (I.rd d ∉ mut4 I)) && ((List.range 2).all fun d => decide (I.ps d ∉ mut4 I))
theorem pos_ok : (sizes.all fun z => posChk 15 (dumm 15 ++ posT z.1 z.2 15) (I0 z.1 z.2 15) z.1 z.2 && posChk 16 (dumm 16 ++ posT z.1 z.2 16) (I0 z.1 z.2 16) z.1 z.2) = true := by decide +kernel
end Mine
namespace Mine
open PySem.Builtin PyProof.Rows

theorem A.keep {σ σ' : AH} {I : Ids} {i k : Nat} {x : AV} (h : A σ i k x) (hi : i ∉ mut4 I) (K : ∀ j, j ∉ mut4 I → σ'[j]? = σ[j]?) : A σ' i k x := ⟨h.1, attr_of (fun o e => by rw [K i hi]; exact e) h.2⟩
theorem Sb.keep {σ σ' : AH} {I : Ids} {i j : Nat} {x : AV} (h : Sb σ i j x) (hi : i ∉ mut4 I) (K : ∀ j, j ∉ mut4 I → σ'[j]? = σ[j]?) : Sb σ' i j x := ⟨h.1, sub_of (fun o e => by rw [K i hi]; exact e) h.2⟩
structure PosAt (N : Nat) (σ : AH) (I : Ids) (c r hs : Nat) : Prop where
  w : PW σ I 0 hs (List.replicate (c * r) 0) (List.replicate 7 0) (List.replicate 2 0)
  big : ∀ i ∈ mut4 I, N ≤ i
  z1 : attrV (.ref I.zo) 25 σ = some (.ref I.zp)
  z2 : ∀ pc < 15, subV (.ref I.zp) (.int (pc : Nat)) σ = some (.ref I.zr)
  z3 : ∀ s < c * r, subV (.ref I.zr) (.int (s : Nat)) σ = some (.int 0)
  far : Far I
  out : ∀ i ∈ [I.zo, I.zp, I.zr, I.g, I.ra, I.kg, I.kn, I.pw, I.cs], i ∉ mut4 I
  outd : ∀ d < 8, I.rd d ∉ mut4 I
  outs : ∀ d < 2, I.ps d ∉ mut4 I
theorem posChk_ok {N : Nat} (h10 : 10 < N) {pre t : AH} (hp : pre.length = N) {I : Ids} {c r : Nat} (h : posChk N (dumm N ++ t) I c r = true) : PosAt N (pre ++ t) I c r (idA (dumm N ++ t) I.p 24) := by
  unfold posChk at h
  simp only [Bool.and_eq_true, List.all_eq_true, List.mem_range, decide_eq_true_eq] at h
  obtain ⟨⟨⟨⟨⟨⟨⟨⟨⟨⟨h1, h2⟩, h3⟩, h4⟩, h5⟩, h6⟩, h7⟩, h8⟩, h9⟩, h11⟩, h12⟩ := h
  have a1 := cO_ok h10 hp h1
  have a2 := cO_ok h10 hp h2
  have a3 := cO_ok h10 hp h3
  have a4 := cO_ok h10 hp h4
  refine ⟨⟨a1.2, a2.2, a3.2, a4.2⟩, fun i hi => ?_, (cA_ok h10 hp h5).2, fun pc hpc => (cS_ok h10 hp (h6 pc hpc)).2, fun s hs => (cS_ok h10 hp (h7 s hs)).2, ⟨h8.1, h8.2.1, h8.2.2.1, h8.2.2.2.1, h8.2.2.2.2.1, h8.2.2.2.2.2⟩, h9, h11, h12⟩
  simp only [mut4, List.mem_cons, List.not_mem_nil, or_false] at hi
  rcases hi with rfl | rfl | rfl | rfl
  · exact a1.1
  · exact a2.1
  · exact a3.1
  · exact a4.1
theorem GeoAt.keep {σ σ' : AH} {I : Ids} {c r hs N : Nat} (G : GeoAt σ I c r) (W : PosAt N σ I c r hs) (K : ∀ j, j ∉ mut4 I → σ'[j]? = σ[j]?) : GeoAt σ' I c r := by
  have o := W.out
  simp only [List.mem_cons, List.not_mem_nil, or_false, forall_eq_or_imp, forall_eq] at o
  obtain ⟨_, _, _, og, ora, okg, okn, opw, ocs⟩ := o
  exact ⟨G.files.keep og K, G.ranks.keep og K, G.size.keep og K, G.hasd.keep og K, G.rays.keep og K, G.king.keep og K, G.knight.keep og K, G.pawn.keep og K, G.castles.keep og K, fun d h => (G.ray1 d h).keep ora K, fun d h s h' => (G.ray2 d h s h').keep (W.outd d h) K, fun s h => (G.king2 s h).keep okg K,
    fun s h => (G.knight2 s h).keep okn K, fun t h => (G.pawn1 t h).keep opw K, fun t h s h' => (G.pawn2 t h s h').keep (W.outs t h) K, fun i h => (G.castle i h).keep ocs K⟩
theorem look_ok {c r N : Nat} {pre : AH} (hz : (c, r) ∈ sizes) (hN : N = 15 ∨ N = 16) (hp : pre.length = N) : GeoAt (pre ++ posT c r N) (I0 c r N) c r ∧ ∃ hs, PosAt N (pre ++ posT c r N) (I0 c r N) c r hs := by
  have h1 := List.all_eq_true.mp geo_ok (c, r) hz
  have h2 := List.all_eq_true.mp pos_ok (c, r) hz
  rw [Bool.and_eq_true] at h1 h2
  rcases hN with rfl | rfl
  · exact ⟨geoChk_ok (by decide) hp h1.1, _, posChk_ok (by decide) hp h2.1⟩
  · exact ⟨geoChk_ok (by decide) hp h1.2, _, posChk_ok (by decide) hp h2.2⟩

noncomputable def sFor : IS := .for [8] false (.range (.cons (.var 4) .nil)) (.cons (.ite (.cmp .ne (.sub (.var 5) (.var 8)) (.int 0)) (.cons (.expr (.call 29 (.cons (.var 7) (.cons (.sub (.var 5) (.var 8)) (.cons (.var 8) .nil))))) .nil) .nil) .nil)
noncomputable def sSide : IS := .setA (.var 7) 16 (.var 6)
noncomputable def rho8 (c r t p : Nat) (x : Option AV) (l : Rho) : Rho := some (.ref 7) :: some (.ref 10) :: some (.int c) :: some (.int r) :: some (.int (c * r : Nat)) :: some (.ref 11) :: some (.int t) :: some (.ref p) :: x :: l
theorem part2 {c r t : Nat} {B : List Nat} {σ : AH} (G : Gd c r B) (ht : t < 2) (h11 : σ[11]? = some (true, .lst (natsV B))) (hD : D 30 σ) (hl : σ.length = 15 ∨ σ.length = 16) (h7 : ∀ i < 7, σ[i]? = S7[i]?) (ss : ISs) :
    ∃ (I : Ids) (x : Option AV) (σ' : AH), exes Fs9 (.cons sPos (.cons sFor (.cons sSide ss))) (rho7 c r t) σ = exes Fs9 ss (rho8 c r t I.p x (List.replicate 19 none)) σ' ∧ PS σ' I c r B t ∧ D 30 σ' := by
  have n16 := G.small
  obtain ⟨N, hN, hlN, s1⟩ := pos_any (s := t) G.hz hl h7
  obtain ⟨geo, hs, W⟩ := look_ok G.hz hN hlN
  let I := I0 c r N
  have hp : posId c r N = I.p := rfl
  let σ1 := σ ++ posT c r N
  let σ2 := σ1 ++ [(false, AO.rng 0 ((c * r : Nat) : Int) 1)]
  let ρ1 : Rho := rho8 c r t I.p none (List.replicate 19 none)
  have s1 : exe Fs9 sPos (rho7 c r t) σ = some (.next, ρ1, σ1) := s1.trans rfl
  have m15 : ∀ i, i < 15 → i ∉ mut4 I := fun i hi hm => by
    have := W.big i hm
    omega
  have b2 : σ2[11]? = some (true, .lst (natsV B)) := up_ (up_ h11)
  have P0 : PutI I hs c r B ρ1 σ2 0 ρ1 σ2 := by
    refine ⟨⟨up_ W.w.p, ?_, ?_, ?_⟩, rfl, fun _ _ => rfl, ⟨none, rfl⟩⟩
    · have : B.take 0 ++ List.replicate (B.length - 0) 0 = List.replicate (c * r) 0 := by rw [List.take_zero, List.nil_append, Nat.sub_zero, G.len]
      rw [this]; exact up_ W.w.b
    · have : (List.range 7).map (fun k => km B k 0) = List.replicate 7 0 := rfl
      rw [this]; exact up_ W.w.k
    · have : [sm B 0 0, sm B 1 0] = List.replicate 2 0 := rfl
      rw [this]; exact up_ W.w.s
  have u12 : Up σ1 σ2 := Up.app σ1 _
  have o := W.out
  simp only [List.mem_cons, List.not_mem_nil, or_false, forall_eq_or_imp, forall_eq] at o
  have step := put_loop (hs := hs) (c := c) (r := r) (ρ0 := ρ1) (σ0 := σ2) W.far rfl rfl rfl b2 (m15 11 (by decide)) (by rw [G.len]; omega) G.men (attr_of (fun o e => up_ e) W.z1) (fun pc h => sub_of (fun o e => up_ e) (W.z2 pc h)) (fun s h => sub_of (fun o e => up_ e) (W.z3 s (by rw [← G.len]; exact h))) ⟨o.1, o.2.1, o.2.2.1⟩
  obtain ⟨ρ3, σ3, r3, P3⟩ := forF_up (PutI I hs c r B ρ1 σ2) step B.length 0 ρ1 σ2 (by omega) P0
  have s2 : exe Fs9 sFor ρ1 σ1 = some (.next, ρ3, σ3) := by
    have rg : den Fs9 (.range (.cons (.var 4) .nil)) ρ1 σ1 = some (.ref σ1.length, σ2) := rngE (n := c * r) rfl (by omega)
    obtain ⟨ns, e1, e2⟩ := Option.map_eq_some_iff.mp (rng_up (n := c * r) (Nat.le_trans n16.2.2.2.1 (by decide)))
    rw [G.len] at r3
    exact s_forR rg List.getElem?_concat_length e1 (by rw [e2]; exact r3)
  obtain ⟨w3, len3, keep3, x, hx⟩ := P3
  have wb : B.take B.length ++ List.replicate (B.length - B.length) 0 = B := by rw [List.take_length, Nat.sub_self]; simp
  rw [wb] at w3
  let σ4 := σ3.set I.p (true, .inst 1 (pflds I t hs))
  have s3 : exe Fs9 sSide ρ3 σ3 = some (.next, ρ3, σ4) := by
    have st : setAttrH (.ref I.p) 16 (.int t) σ3 = some σ4 := (setAttr_at (k := 16) (v := .int t) w3.p (by simp [pflds])).trans rfl
    have e6 : ρ3[6]? = some (some (.int t)) := by rw [hx]; rfl
    have e7 : ρ3[7]? = some (some (.ref I.p)) := by rw [hx]; rfl
    exact s_setA (d_var e6) (d_var e7) st
  have lp := (List.getElem?_eq_some_iff.mp w3.p).1
  have mp : I.p ∈ mut4 I := List.mem_cons_self ..
  have k4 : ∀ j, j ∉ mut4 I → σ4[j]? = σ2[j]? := fun j hj => by
    show (σ3.set I.p _)[j]? = _
    rw [List.getElem?_set_ne (fun q => hj (by rw [← q]; exact mp)), keep3 j hj]
  have p4 : σ4[I.p]? = some (true, .inst 1 (pflds I t hs)) := List.getElem?_set_self lp
  have b4 : σ4[I.bd]? = some (true, .lst (natsV B)) := by
    show (σ3.set I.p _)[I.bd]? = _
    rw [List.getElem?_set_ne W.far.pb]; exact w3.b
  have kd4 : σ4[I.kd]? = _ := (List.getElem?_set_ne W.far.pk).trans w3.k
  have sd4 : σ4[I.sd]? = _ := (List.getElem?_set_ne W.far.ps).trans w3.s
  have big : ∀ i ∈ mut4 I, 10 < i := fun i hi => by have := W.big i hi; omega
  have bp : 10 < I.p := big _ mp
  have hn : B.length = c * r := G.len
  refine ⟨I, x, σ4, (exes_go s1).trans ((exes_go s2).trans ((exes_go s3).trans ?_)), ?_, ?_⟩
  · rw [hx]; rfl
  · refine ⟨?_, ?_, ?_, ⟨bp, attr_at p4 rfl⟩, ⟨bp, attr_at p4 rfl⟩, ⟨bp, attr_at p4 rfl⟩, ⟨bp, attr_at p4 rfl⟩, ⟨bp, attr_at p4 rfl⟩, ⟨bp, attr_at p4 rfl⟩, fun s hs => ⟨big _ (by simp [mut4]), ?_⟩, fun k hk => ⟨big _ (by simp [mut4]), ?_⟩, fun u hu => ⟨big _ (by simp [mut4]), ?_⟩⟩
    · have G2 : GeoAt σ2 I c r := geo.kp u12.kp
      have W2 : PosAt N σ2 I c r hs := ⟨⟨up_ W.w.p, up_ W.w.b, up_ W.w.k, up_ W.w.s⟩, W.big, attr_of (fun o e => up_ e) W.z1, fun pc h => sub_of (fun o e => up_ e) (W.z2 pc h), fun s h => sub_of (fun o e => up_ e) (W.z3 s h), W.far, W.out, W.outd, W.outs⟩
      exact G2.keep W2 k4
    · unfold St1
      rw [k4 1 (m15 1 (by decide))]
      exact up_ (up_ ((h7 1 (by decide)).trans rfl))
    · rw [k4 11 (m15 11 (by decide))]; exact b2
    · have hs' : s < B.length := by omega
      have e : sq B s = B[s] := by simp [sq, List.getD, hs']
      rw [e]
      exact sub_at b4 (by simp [natsV, hs']) (by omega)
    · refine sub_at kd4 ?_ (by exact Nat.le_trans (Nat.le_of_lt (by assumption)) (by decide))
      unfold natsV
      rw [List.map_map, List.getElem?_map, List.getElem?_range hk, hn]; rfl
    · have : u = 0 ∨ u = 1 := by omega
      rw [hn] at sd4
      rcases this with rfl | rfl
      · exact sub_at sd4 rfl (by exact Nat.le_trans (Nat.le_of_lt (by assumption)) (by decide))
      · exact sub_at sd4 rfl (by exact Nat.le_trans (Nat.le_of_lt (by assumption)) (by decide))
  · have D2 : D 30 σ2 := hD.grow.grow
    exact D2.far (k4 9 (m15 9 (by decide))) (k4 10 (m15 10 (by decide)))
end Mine
namespace Mine
open PySem.Builtin PyProof.Rows

/-! ## King, own men, enemies, check; what is asked -/
theorem subB {c r s : Nat} {B : List Nat} {m : Bool} {τ : AH} (b : Bd c r B) (hb : τ[11]? = some (m, .lst (natsV B))) (hs : s < c * r) : subV (.ref 11) (.int (s : Int)) τ = some (.int ((sq B s : Nat) : Int)) := by
  have hs' : s < B.length := by rw [b.len]; exact hs
  have e : sq B s = B[s] := by simp [sq, List.getD, hs']
  rw [e]
  exact sub_at hb (by simp [natsV, hs']) (by have := b.small; omega)
theorem idx_nat : ∀ (l : List Nat) (v : Nat), (l.map fun (n : Nat) => (n : Int)).idxOf (v : Int) = l.idxOf v
  | [], _ => rfl
  | a :: l, v => by
    rw [List.map_cons, List.idxOf_cons, List.idxOf_cons, idx_nat l v, beq_nat]
    by_cases e : a = v
    · subst e; simp
    · rw [decide_eq_false e]
      have : (a == v) = false := by simpa using e
      rw [this]
theorem den_var {Fs : List Fun} {ρ : Rho} {v : Nat} {a : AV} {σ : AH} (h : ρ[v]? = some (some a)) : den Fs (.var v) ρ σ = some (a, σ) := d_var h
theorem own_sq {c r t s : Nat} {B : List Nat} (b : Bd c r B) (ht : t < 2) : own B t s = (decide (sq B s ≠ 0) && (decide ((8 : Int) < (sq B s : Nat)) == decide (t = 1))) := by
  unfold own
  by_cases z : sq B s ≠ 0
  · have h := (men_of b z).2.2.2.2
    rw [decide_eq_true z, Bool.true_and, Bool.true_and, h]
    have : t = 0 ∨ t = 1 := by omega
    by_cases w : sq B s > 8
    · rw [if_pos w, decide_eq_true (show (8 : Int) < (sq B s : Nat) by omega)]
      rcases this with rfl | rfl <;> rfl
    · rw [if_neg w, decide_eq_false (show ¬ (8 : Int) < (sq B s : Nat) by omega)]
      rcases this with rfl | rfl <;> rfl
  · rw [decide_eq_false z, Bool.false_and, Bool.false_and]
theorem own_not {c r t s : Nat} {B : List Nat} (b : Bd c r B) (ht : t < 2) : own B (1 - t) s = (decide (sq B s ≠ 0) && !own B t s) := by
  unfold own
  by_cases z : sq B s ≠ 0
  · have := (men_of b z).2.1
    rw [decide_eq_true z, Bool.true_and, Bool.true_and, Bool.true_and, Bool.eq_iff_iff]
    simp only [Bool.not_eq_true', decide_eq_true_eq, decide_eq_false_iff_not]
    omega
  · rw [decide_eq_false z, Bool.false_and, Bool.false_and]

noncomputable def cOwn : IE := .bop false (.cons (.cmp .ne (.sub (.var 5) (.var 22)) (.int 0)) (.cons (.cmp .eq (.cmp .gt (.sub (.var 5) (.var 22)) (.int 8)) (.cmp .eq (.var 6) (.int 1))) .nil))
theorem own_cond {Fs : List Fun} {c r t s : Nat} {B : List Nat} {m : Bool} {τ : AH} {ρ : Rho} (b : Bd c r B) (ht : t < 2) (hb : τ[11]? = some (m, .lst (natsV B))) (hs : s < c * r) (h5 : ρ[5]? = some (some (.ref 11))) (h6 : ρ[6]? = some (some (.int t))) (h22 : ρ[22]? = some (some (.int s))) :
    denAll Fs (.cons cOwn .nil) ρ τ = some (own B t s) := by
  exact all_one (d_isb (d_bop (b_and (d_cmp (d_sub (d_var h5) (d_var h22) (subB b hb hs)) d_int c_ne0) (b_one (d_cmp (d_cmp (d_sub (d_var h5) (d_var h22) (subB b hb hs)) d_int rfl) (d_cmp (d_var h6) d_int c_eq1) rfl)))) (own_sq b ht).symm)
noncomputable def cEn : IE := .bop false (.cons (.cmp .ne (.sub (.var 5) (.var 23)) (.int 0)) (.cons (.isIn true (.var 23) (.var 10)) .nil))
theorem en_cond {Fs : List Fun} {c r t s wid : Nat} {B : List Nat} {m m2 : Bool} {τ : AH} {ρ : Rho} (b : Bd c r B) (ht : t < 2) (hb : τ[11]? = some (m, .lst (natsV B))) (hs : s < c * r) (h5 : ρ[5]? = some (some (.ref 11))) (h10 : ρ[10]? = some (some (.ref wid))) (h23 : ρ[23]? = some (some (.int s)))
    (hw : τ[wid]? = some (m2, .lst (natsV (ownL (c * r) B t)))) : denAll Fs (.cons cEn .nil) ρ τ = some (own B (1 - t) s) := by
  have in_ : ((ownL (c * r) B t).map fun (n : Nat) => (n : Int)).contains (s : Int) = own B t s := by
    rw [has_nats, Bool.eq_iff_iff, decide_eq_true_eq, own_mem]; exact ⟨fun h => h.2, fun h => ⟨hs, h⟩⟩
  exact all_one (d_isb (d_bop (b_and (d_cmp (d_sub (d_var h5) (d_var h23) (subB b hb hs)) d_int c_ne0) (b_one (d_in (d_var h23) (d_var h10) (seq_at hw) (ints_nats _))))) (by rw [if_pos rfl, in_]; exact (own_not b ht).symm))
noncomputable def cHit : IE := .isIn false (.var 9) (.call 35 (.cons (.var 2) (.cons (.var 5) (.cons (.var 24) .nil))))
theorem hit_cond {c r s k : Nat} {B : List Nat} {m : Bool} {τ : AH} {ρ : Rho} (b : Bd c r B) (hb : τ[11]? = some (m, .lst (natsV B))) (hs : s < c * r) (h0 : sq B s ≠ 0) (h2 : ρ[2]? = some (some (.int c))) (h5 : ρ[5]? = some (some (.ref 11))) (h9 : ρ[9]? = some (some (.int k))) (h24 : ρ[24]? = some (some (.int s))) :
    denAll Fs9 (.cons cHit .nil) ρ τ = some (decide (k ∈ reachedL c r B s)) := by
  obtain ⟨c0, c4, r4, n16, r3, n9⟩ := b.small
  obtain ⟨k16, t2, _, k15, k8⟩ := men_of b h0
  obtain ⟨fnd, σ1, run1, up1, l1⟩ := reached_ok hb b.len ⟨c0, c4⟩ r4 (by rw [b.len]; exact hs) k16 (by exact Nat.le_trans (by assumption) (by decide))
  exact all_one (d_isb (d_in (d_var h9) (d_call (l_cons (d_var h2) (l_cons (d_var h5) (l_cons (d_var h24) l_nil))) rfl run1) (seq_at l1) (ints_nats _)) (has_nats _ k))

noncomputable def sL9 : IS := .asg 9 (.index (.var 5) (.bin .add (.int 6) (.bin .mul (.int 8) (.var 6))))
noncomputable def sL10 : IS := .asg 10 (.comp 22 (.range (.cons (.var 4) .nil)) (.cons cOwn .nil) (.var 22))
noncomputable def sL11 : IS := .asg 11 (.comp 23 (.range (.cons (.var 4) .nil)) (.cons cEn .nil) (.var 23))
noncomputable def sL12 : IS := .asg 12 (.eqNil true (.comp 24 (.var 11) (.cons cHit .nil) (.var 24)))
noncomputable def enL (n : Nat) (B : List Nat) (t : Nat) : List Nat := (List.range n).filter (own B (1 - t))
noncomputable def chkB (c r : Nat) (B : List Nat) (t : Nat) : Bool := !((enL (c * r) B t).filter fun s => decide (kg B t ∈ reachedL c r B s)).isEmpty
theorem chk_of {c r t : Nat} {B : List Nat} (h : InChk c r B t) : chkB c r B t = true := by
  obtain ⟨s, ⟨h1, h2, h3⟩, h4⟩ := h
  have : s ∈ (enL (c * r) B t).filter fun s => decide (kg B t ∈ reachedL c r B s) := List.mem_filter.mpr ⟨List.mem_filter.mpr ⟨List.mem_range.mpr h1, h4⟩, decide_eq_true h3⟩
  unfold chkB
  cases e : (enL (c * r) B t).filter fun s => decide (kg B t ∈ reachedL c r B s) with
  | nil => rw [e] at this; cases this
  | cons a l => rfl
theorem part3 {c r t p : Nat} {I : Ids} {B : List Nat} {σ : AH} {x : Option AV} (G : Gd c r B) (ht : t < 2) (P : PS σ I c r B t) (hD : D 30 σ) (ss : ISs) :
    ∃ (wid eid : Nat) (σ' : AH), exes Fs9 (.cons sL9 (.cons sL10 (.cons sL11 (.cons sL12 ss)))) (rho8 c r t p x (List.replicate 19 none)) σ = exes Fs9 ss (rho8 c r t p x (some (.int (kg B t : Nat)) :: some (.ref wid) :: some (.ref eid) :: some (.bool (chkB c r B t)) :: List.replicate 15 none)) σ' ∧
      PS σ' I c r B t ∧ D 30 σ' ∧ σ'[wid]? = some (true, .lst (natsV (ownL (c * r) B t))) ∧ 10 < wid ∧ σ'[eid]? = some (true, .lst (natsV (enL (c * r) B t))) ∧ 10 < eid := by
  obtain ⟨c0, c4, r4, n16, r3, n9⟩ := G.small
  let ρ0 : Rho := rho8 c r t p x (List.replicate 19 none)
  let ρ1 : Rho := rho8 c r t p x (some (.int (kg B t : Nat)) :: List.replicate 18 none)
  have l11 : 11 < σ.length := (List.getElem?_eq_some_iff.mp P.b11).1
  have s1 : exe Fs9 sL9 ρ0 σ = some (.next, ρ1, σ) := by
    have dv : den Fs9 (.bin .add (.int 6) (.bin .mul (.int 8) (.var 6))) ρ0 σ = some (.int (6 + 8 * t : Nat), σ) := d_bin d_int (d_bin d_int (d_var rfl) (v_mulN (a := 8) (by decide) (Nat.le_trans (Nat.le_of_lt ht) (by decide)))) rfl
    have ct : 6 + 8 * t ∈ B := by
      have h1 := G.klt t ht
      rw [← G.len] at h1
      exact List.idxOf_lt_length_iff.mp h1
    have ln : (B.map fun (n : Nat) => (n : Int)).length ≤ lim := by rw [List.length_map, G.len]; exact Nat.le_trans n16 (by decide)
    refine s_asg (d_index (d_var rfl) P.b11 dv (ints_nats B) ((has_nats B (6 + 8 * t)).trans (decide_eq_true ct)) ln (idx_nat B (6 + 8 * t)))
  -- own men
  let τ1 := σ ++ [(false, AO.rng 0 ((c * r : Nat) : Int) 1)]
  let σ2 := τ1 ++ [(true, AO.lst (natsV (ownL (c * r) B t)))]
  have lt1 : τ1.length = σ.length + 1 := by simp [τ1]
  let wid := σ.length + 1
  let ρ2 : Rho := rho8 c r t p x (some (.int (kg B t : Nat)) :: some (.ref wid) :: List.replicate 17 none)
  have s2 : exe Fs9 sL10 ρ1 σ = some (.next, ρ2, σ2) := by
    have src : den Fs9 (.range (.cons (.var 4) .nil)) ρ1 σ = some (.ref σ.length, τ1) := rngE (n := c * r) rfl (by exact Nat.le_trans (by assumption) (by decide))
    have c5 : τ1[σ.length]? = some (false, .rng 0 ((c * r : Nat) : Int) 1) := by simp [τ1]
    have := comp_ok (Fs := Fs9) (n := 22) (conds := .cons cOwn .nil) (elt := .var 22) (fun (x : Nat) => (x : Int)) (own B t) (fun (x : Nat) => (x : Int)) src (items_rng c5 (by exact Nat.le_trans (by assumption) (by decide))) (by rw [List.length_range]; unfold lim; omega)
      (fun s hs => own_cond G.toBd ht (frz_get (up_ P.b11)) (List.mem_range.mp hs) rfl rfl rfl) (fun s hs _ => ⟨_, rfl⟩)
    rw [natsV_map, lt1] at this
    exact s_asg this
  have g2 : σ2[wid]? = some (true, .lst (natsV (ownL (c * r) B t))) := by
    show (τ1 ++ _)[wid]? = _
    rw [show wid = τ1.length from lt1.symm]; simp
  have P2 : PS σ2 I c r B t := P.kp ((Kp.app σ _).trans (Kp.app τ1 _))
  have ln2 : σ2.length = σ.length + 2 := by simp [σ2, lt1]
  -- enemies
  let τ3 := σ2 ++ [(false, AO.rng 0 ((c * r : Nat) : Int) 1)]
  let σ3 := τ3 ++ [(true, AO.lst (natsV (enL (c * r) B t)))]
  have lt3 : τ3.length = σ.length + 3 := by simp [τ3, ln2]
  let eid := σ.length + 3
  let ρ3 : Rho := rho8 c r t p x (some (.int (kg B t : Nat)) :: some (.ref wid) :: some (.ref eid) :: List.replicate 16 none)
  have s3 : exe Fs9 sL11 ρ2 σ2 = some (.next, ρ3, σ3) := by
    have src : den Fs9 (.range (.cons (.var 4) .nil)) ρ2 σ2 = some (.ref σ2.length, τ3) := rngE (n := c * r) rfl (by exact Nat.le_trans (by assumption) (by decide))
    have c5 : τ3[σ2.length]? = some (false, .rng 0 ((c * r : Nat) : Int) 1) := by simp [τ3]
    have := comp_ok (Fs := Fs9) (n := 23) (conds := .cons cEn .nil) (elt := .var 23) (fun (x : Nat) => (x : Int)) (own B (1 - t)) (fun (x : Nat) => (x : Int)) src (items_rng c5 (by exact Nat.le_trans (by assumption) (by decide))) (by rw [List.length_range]; unfold lim; omega)
      (fun s hs => en_cond G.toBd ht (frz_get (up_ P2.b11)) (List.mem_range.mp hs) rfl rfl rfl (frz_get (up_ g2))) (fun s hs _ => ⟨_, rfl⟩)
    rw [natsV_map, lt3] at this
    exact s_asg this
  have g3 : σ3[eid]? = some (true, .lst (natsV (enL (c * r) B t))) := by
    show (τ3 ++ _)[eid]? = _
    rw [show eid = τ3.length from lt3.symm]; simp
  have k23 : Kp σ2 σ3 := (Kp.app σ2 _).trans (Kp.app τ3 _)
  have P3 : PS σ3 I c r B t := P2.kp k23
  -- check
  let Gv := (enL (c * r) B t).filter fun s => decide (kg B t ∈ reachedL c r B s)
  let σ4 := σ3 ++ [(true, AO.lst (natsV Gv))]
  let ρ4 : Rho := rho8 c r t p x (some (.int (kg B t : Nat)) :: some (.ref wid) :: some (.ref eid) :: some (.bool (chkB c r B t)) :: List.replicate 15 none)
  have lE : (enL (c * r) B t).length ≤ 16 := Nat.le_trans (List.length_filter_le ..) (by rw [List.length_range]; exact n16)
  have s4 : exe Fs9 sL12 ρ3 σ3 = some (.next, ρ4, σ4) := by
    have src : den Fs9 (.var 11) ρ3 σ3 = some (.ref eid, σ3) := rfl
    have it : den.itemsOf (.ref eid) σ3 = some ((enL (c * r) B t).map fun (x : Nat) => AV.int (x : Int)) := items_lst g3 (by simp only [natsV, List.length_map]; unfold lim; omega)
    have := comp_ok (Fs := Fs9) (n := 24) (conds := .cons cHit .nil) (elt := .var 24) (fun (x : Nat) => (x : Int)) (fun s => decide (kg B t ∈ reachedL c r B s)) (fun (x : Nat) => (x : Int)) src it (by unfold lim; omega)
      (fun s hs => by
        have hm := List.mem_filter.mp hs
        have h0 : sq B s ≠ 0 := by
          have := hm.2
          unfold own at this
          simp only [Bool.and_eq_true, decide_eq_true_eq] at this
          exact this.1
        exact hit_cond G.toBd (frz_get P3.b11) (List.mem_range.mp hm.1) h0 rfl rfl rfl rfl) (fun s hs _ => ⟨_, rfl⟩)
    rw [natsV_map] at this
    have g4 : σ4[σ3.length]? = some (true, .lst (natsV Gv)) := by simp [σ4]
    have l4 : (natsV Gv).length ≤ lim := by
      simp only [natsV, List.length_map]
      have : Gv.length ≤ (enL (c * r) B t).length := List.length_filter_le ..
      unfold lim; omega
    have e4 : (natsV Gv).isEmpty = Gv.isEmpty := by unfold natsV; cases Gv <;> rfl
    refine s_asg (bindI this ?_)
    dsimp only
    rw [show σ3 ++ [(true, AO.lst (natsV Gv))] = σ4 from rfl, g4]
    exact (if_pos l4).trans (by rw [e4]; rfl)
  refine ⟨wid, eid, σ4, (exes_go s1).trans ((exes_go s2).trans ((exes_go s3).trans (exes_go s4))), P3.kp (Kp.app σ3 _), hD.grow.grow.grow.grow.grow, up_ (up_ (up_ g2)), ?_, up_ g3, ?_⟩
  · show 10 < σ.length + 1; omega
  · show 10 < σ.length + 3; omega
end Mine
namespace Mine
open PySem.Builtin PyProof.Rows

theorem denL_go {Fs : List Fun} {e : IE} {es : IEs} {ρ : Rho} {σ σ1 σ2 : AH} {v : AV} {vs : List AV} (h : den Fs e ρ σ = some (v, σ1)) (h2 : denL Fs es ρ σ1 = some (vs, σ2)) : denL Fs (.cons e es) ρ σ = some (v :: vs, σ2) := l_cons h h2
theorem lstE {Fs : List Fun} {es : IEs} {ρ : Rho} {σ σ1 : AH} {vs : List AV} (h : denL Fs es ρ σ = some (vs, σ1)) (hl : vs.length ≤ lim) : den Fs (.lst es) ρ σ = some (.ref σ1.length, σ1 ++ [(true, .lst vs)]) := bindI h (if_pos hl)
theorem at_end {σ : AH} {o : Bool × AO} : (σ ++ [o])[σ.length]? = some o := List.getElem?_concat_length
theorem catE {Fs : List Fun} {e1 e2 : IE} {ρ : Rho} {σ σ1 σ2 : AH} {a b : Nat} {xs ys : List AV} (h1 : den Fs e1 ρ σ = some (.ref a, σ1)) (h2 : den Fs e2 ρ σ1 = some (.ref b, σ2)) (g1 : σ2[a]? = some (true, .lst xs)) (g2 : σ2[b]? = some (true, .lst ys)) (hl : xs.length + ys.length ≤ lim) :
    den Fs (.bin .add e1 e2) ρ σ = some (.ref σ2.length, σ2 ++ [(true, .lst (xs ++ ys))]) := bindI h1 (bindI h2 (by
  unfold binH
  dsimp only
  rw [g1, g2]
  exact if_pos hl))
theorem mulS {a b : Int} (h1 : 0 ≤ a ∧ a ≤ 100000) (h2 : 0 ≤ b ∧ b ≤ 100000) : binV .mul a b = some (a * b) := by
  simp only [binV]
  rw [if_pos (by simp only [Bool.and_eq_true, smallB_iff]; omega)]

/-- what stands while the numbers are asked -/
structure LX (σ : AH) (I : Ids) (c r t : Nat) (B : List Nat) (wid oid gid : Nat) (O Gs : List Nat) : Prop where
  ps : PS σ I c r B t
  own : σ[wid]? = some (true, .lst (natsV (ownL (c * r) B t)))
  wl : 10 < wid
  org : σ[oid]? = some (true, .lst (natsV O))
  ol : 10 < oid
  gls : σ[gid]? = some (true, .lst (natsV Gs))
  gl : 10 < gid
theorem LX.kp {σ σ' : AH} {I : Ids} {c r t wid oid gid : Nat} {B O Gs : List Nat} (X : LX σ I c r t B wid oid gid O Gs) (K : Kp σ σ') : LX σ' I c r t B wid oid gid O Gs :=
  ⟨X.ps.kp K, K _ _ (by have := X.wl; omega) X.own, X.wl, K _ _ (by have := X.ol; omega) X.org, X.ol, K _ _ (by have := X.gl; omega) X.gls, X.gl⟩

noncomputable def sL13 : IS := .asg 13 (.lst (.cons (.var 9) (.cons (.sub (.var 11) (.int 0)) (.cons (.call 21 (.cons (.var 1) (.cons (.var 4) .nil))) (.cons (.call 21 (.cons (.var 1) (.cons (.var 4) .nil))) (.cons (.bin .sub (.var 4) (.int 1)) (.cons (.var 4) (.cons (.int 63) .nil))))))))
noncomputable def sL14 : IS := .asg 14 (.bin .add (.list (.range (.cons (.bin .add (.var 4) (.int 2)) .nil))) (.lst (.cons (.int 63) .nil)))
noncomputable def sL15 : IS := .asg 15 (.lst (.cons (.una .neg (.int 1)) (.cons (.int 0) (.cons (.int 1) (.cons (.int 65535) (.cons (.int 65536) (.cons (.bin .add (.int 65536) (.bin .mul (.int 64) (.var 9))) (.cons (.bin .sub (.bin .mul (.una .neg (.int 64)) (.var 9)) (.int 1)) .nil))))))))
noncomputable def rho9 (c r t p : Nat) (x : Option AV) (k wid eid : Nat) (ch : Bool) (l : Rho) : Rho := rho8 c r t p x (some (.int (k : Nat)) :: some (.ref wid) :: some (.ref eid) :: some (.bool ch) :: l)
theorem part4 {c r t p wid eid : Nat} {I : Ids} {B : List Nat} {σ : AH} {x : Option AV} {ch : Bool} (G : Gd c r B) (ht : t < 2) (P : PS σ I c r B t) (hD : D 30 σ) (hw : σ[wid]? = some (true, .lst (natsV (ownL (c * r) B t)))) (wl : 10 < wid) (he : σ[eid]? = some (true, .lst (natsV (enL (c * r) B t)))) (el : 10 < eid) (ss : ISs) :
    ∃ (oid gid aid : Nat) (O Gs : List Nat) (ls : List Int) (σ' : AH), exes Fs9 (.cons sL13 (.cons sL14 (.cons sL15 ss))) (rho9 c r t p x (kg B t) wid eid ch (List.replicate 15 none)) σ = exes Fs9 ss (rho9 c r t p x (kg B t) wid eid ch (some (.ref oid) :: some (.ref gid) :: some (.ref aid) :: List.replicate 12 none)) σ' ∧
      LX σ' I c r t B wid oid gid O Gs ∧ D 32 σ' ∧ O.length = 7 ∧ (∀ o ∈ O, o ≤ 100) ∧ Gs.length = c * r + 3 ∧ (∀ g ∈ Gs, g ≤ 100) ∧ σ'[aid]? = some (true, .lst (ls.map AV.int)) ∧ 10 < aid ∧ ls.length = 7 := by
  obtain ⟨c0, c4, r4, n16, r3, n9⟩ := G.small
  have h21 : Fs9[21]? = some F__law_dip := rfl
  let n := c * r
  have klt : kg B t < c * r := G.klt t ht
  let ρ0 : Rho := rho9 c r t p x (kg B t) wid eid ch (List.replicate 15 none)
  -- an enemy there is
  have ene : ∃ e0 l, enL (c * r) B t = e0 :: l ∧ e0 < c * r := by
    have hu : 1 - t < 2 := by exact Nat.lt_of_le_of_lt (Nat.sub_le ..) (by decide)
    have k1 := G.klt (1 - t) hu
    have k2 := (king_iff G.toBd hu (B.idxOf (6 + 8 * (1 - t)))).mpr ((G.kone (1 - t) hu _).mpr rfl)
    have hm : B.idxOf (6 + 8 * (1 - t)) ∈ enL (c * r) B t := List.mem_filter.mpr ⟨List.mem_range.mpr k1, by unfold own; rw [decide_eq_true k2.1, decide_eq_true k2.2.1]; rfl⟩
    cases e : enL (c * r) B t with
    | nil => rw [e] at hm; cases hm
    | cons a l =>
      refine ⟨a, l, rfl, ?_⟩
      have : a ∈ enL (c * r) B t := by rw [e]; exact List.mem_cons_self ..
      exact List.mem_range.mp (List.mem_filter.mp this).1
  obtain ⟨e0, el', hE, e0n⟩ := ene
  obtain ⟨d1, σ1, r1, l1, D1, q1⟩ := dipE h21 (ρ := ρ0) (v := 1) (e := .var 4) (m := n) rfl rfl hD (by decide) (show 0 < c * r by omega)
  obtain ⟨d2, σ2, r2, l2, D2, q2⟩ := dipE h21 (ρ := ρ0) (v := 1) (e := .var 4) (m := n) rfl rfl D1 (by decide) (show 0 < c * r by omega)
  let O : List Nat := [kg B t, e0, d1, d2, n - 1, n, 63]
  let σ3 := σ2 ++ [(true, AO.lst (natsV O))]
  let ρ1 : Rho := rho9 c r t p x (kg B t) wid eid ch (some (.ref σ2.length) :: List.replicate 14 none)
  have s1 : exe Fs9 sL13 ρ0 σ = some (.next, ρ1, σ3) := by
    have a1 : den Fs9 (.var 9) ρ0 σ = some (.int (kg B t : Nat), σ) := rfl
    have a2 : den Fs9 (.sub (.var 11) (.int 0)) ρ0 σ = some (.int (e0 : Nat), σ) := by
      have sb : subV (.ref eid) (.int 0) σ = some (.int (e0 : Nat)) := sub_at (s := 0) he (by rw [hE]; rfl) (by decide)
      exact d_sub (d_var rfl) d_int sb
    have a5 : den Fs9 (.bin .sub (.var 4) (.int 1)) ρ0 σ2 = some (.int (n - 1 : Nat), σ2) := d_bin (d_var rfl) d_int (v_subN (b := 1) (show 1 ≤ c * r by omega))
    have a6 : denL Fs9 (.cons (.var 4) (.cons (.int 63) .nil)) ρ0 σ2 = some ([.int (n : Nat), .int 63], σ2) := rfl
    have dl := denL_go a1 (denL_go a2 (denL_go r1 (denL_go r2 (denL_go a5 a6))))
    have := lstE dl (by simp [lim])
    exact s_asg this
  have k12 : Kp σ σ3 := (q1.kp.trans q2.kp).trans (Kp.app σ2 _)
  have g3 : σ3[σ2.length]? = some (true, .lst (natsV O)) := at_end
  have P3 := P.kp k12
  have l11 : 11 < σ2.length := (List.getElem?_eq_some_iff.mp (P.kp (q1.kp.trans q2.kp)).b11).1
  -- goals
  let Gs : List Nat := List.range (n + 2) ++ [63]
  let σa := σ3 ++ [(false, AO.rng 0 ((n + 2 : Nat) : Int) 1)]
  let σb := σa ++ [(true, AO.lst (natsV (List.range (n + 2))))]
  let σc := σb ++ [(true, AO.lst (natsV [63]))]
  let σ4 := σc ++ [(true, AO.lst (natsV Gs))]
  let ρ2 : Rho := rho9 c r t p x (kg B t) wid eid ch (some (.ref σ2.length) :: some (.ref σc.length) :: List.replicate 13 none)
  have s2 : exe Fs9 sL14 ρ1 σ3 = some (.next, ρ2, σ4) := by
    have dn : den Fs9 (.bin .add (.var 4) (.int 2)) ρ1 σ3 = some (.int (n + 2 : Nat), σ3) := d_bin (d_var rfl) d_int rfl
    have rg : den Fs9 (.range (.cons (.bin .add (.var 4) (.int 2)) .nil)) ρ1 σ3 = some (.ref σ3.length, σa) := rngE dn (show c * r + 2 ≤ 1000 by omega)
    have ga : σa[σ3.length]? = some (false, .rng 0 ((n + 2 : Nat) : Int) 1) := at_end
    have li : den Fs9 (.list (.range (.cons (.bin .add (.var 4) (.int 2)) .nil))) ρ1 σ3 = some (.ref σa.length, σb) := by
      obtain ⟨ns, e1, e2⟩ := Option.map_eq_some_iff.mp (rng_up (n := n + 2) (show c * r + 2 ≤ 1000000 by omega))
      refine bindI rg ?_
      dsimp only
      rw [ga]
      refine (mapI e1).trans ?_
      rw [e2, ← List.range_eq_range']
      rfl
    have lc : den Fs9 (.lst (.cons (.int 63) .nil)) ρ1 σb = some (.ref σb.length, σc) := lstE (vs := [.int 63]) rfl (by simp [lim])
    have := catE li lc (xs := natsV (List.range (n + 2))) (ys := natsV [63]) (up_ at_end) at_end (by simp only [natsV, List.length_map, List.length_range, List.length_singleton]; show c * r + 2 + 1 ≤ lim; unfold lim; omega)
    have ap : natsV (List.range (n + 2)) ++ natsV [63] = natsV Gs := by simp only [natsV, Gs, List.map_append]
    rw [ap] at this
    exact s_asg this
  have k34 : Kp σ3 σ4 := (((Kp.app σ3 _).trans (Kp.app σa _)).trans (Kp.app σb _)).trans (Kp.app σc _)
  have g4 : σ4[σc.length]? = some (true, .lst (natsV Gs)) := at_end
  -- asked
  let ls : List Int := [-1, 0, 1, 65535, 65536, 65536 + 64 * (kg B t : Nat), -64 * (kg B t : Nat) - 1]
  let σ5 := σ4 ++ [(true, AO.lst (ls.map AV.int))]
  let ρ3 : Rho := rho9 c r t p x (kg B t) wid eid ch (some (.ref σ2.length) :: some (.ref σc.length) :: some (.ref σ4.length) :: List.replicate 12 none)
  have s3 : exe Fs9 sL15 ρ2 σ4 = some (.next, ρ3, σ5) := by
    have e9 : ρ2[9]? = some (some (.int (kg B t : Nat))) := rfl
    have m1 : binV .mul 64 ((kg B t : Nat) : Int) = some (64 * ((kg B t : Nat) : Int)) := mul_ok (by decide) (by decide) (by exact Int.natCast_nonneg _) (by omega)
    have m2 : binV .mul (-64) ((kg B t : Nat) : Int) = some (-64 * ((kg B t : Nat) : Int)) := mul_ok (by decide) (by decide) (by exact Int.natCast_nonneg _) (by omega)
    have a6 : den Fs9 (.bin .add (.int 65536) (.bin .mul (.int 64) (.var 9))) ρ2 σ4 = some (.int (65536 + 64 * (kg B t : Nat)), σ4) := d_bin d_int (d_bin d_int (d_var e9) m1) rfl
    have a7 : den Fs9 (.bin .sub (.bin .mul (.una .neg (.int 64)) (.var 9)) (.int 1)) ρ2 σ4 = some (.int (-64 * (kg B t : Nat) - 1), σ4) := d_bin (d_bin (d_neg d_int) (d_var e9) m2) d_int rfl
    have dl := denL_go (Fs := Fs9) (ρ := ρ2) (σ := σ4) (e := .una .neg (.int 1)) rfl (denL_go (e := .int 0) rfl (denL_go (e := .int 1) rfl (denL_go (e := .int 65535) rfl (denL_go (e := .int 65536) rfl (denL_go a6 (denL_go a7 (show denL Fs9 .nil ρ2 σ4 = some ([], σ4) from rfl)))))))
    have := lstE dl (by simp [lim])
    exact s_asg this
  have k45 : Kp σ4 σ5 := Kp.app σ4 _
  have kk : Kp σ σ5 := (k12.trans k34).trans k45
  refine ⟨σ2.length, σc.length, σ4.length, O, Gs, ls, σ5, (exes_go s1).trans ((exes_go s2).trans (exes_go s3)), ⟨P.kp kk, kk _ _ (by exact Nat.ne_of_gt (by assumption)) hw, wl, up_ ((k34 _ _ (by omega)) g3), by exact Nat.le_of_lt (by assumption), up_ g4, ?_⟩, ?_, rfl, ?_, ?_, ?_, at_end, ?_, rfl⟩
  · simp only [σc, σb, σa, σ3, List.length_append, List.length_singleton]; omega
  · exact D2.grow.grow.grow.grow.grow.grow.mono (by decide)
  · intro o ho
    have hn : n = c * r := rfl
    simp only [O, List.mem_cons, List.not_mem_nil, or_false] at ho
    omega
  · simp only [Gs, List.length_append, List.length_range, List.length_singleton]; rfl
  · intro g hg
    have hn : n = c * r := rfl
    simp only [Gs, List.mem_append, List.mem_range, List.mem_singleton] at hg
    omega
  · simp only [σ4, σc, σb, σa, σ3, List.length_append, List.length_singleton]; omega
end Mine
namespace Mine
open PySem.Builtin PyProof.Rows

theorem comp2_ok {Fs : List Fun} {n m a : Nat} {src src2 elt : IE} {ρ : Rho} {σ τ : AH} {vs us : List Int} (hs : den Fs src ρ σ = some (.ref a, τ)) (hi : den.itemsOf (.ref a) τ = some (vs.map AV.int))
    (h2 : ∀ v ∈ vs, ∃ x2 σ2, den Fs src2 ((ρ.set n (some (.int v))).set m .none) (freeze τ) = some (x2, σ2) ∧ den.itemsOf x2 σ2 = some (us.map AV.int))
    (he : ∀ v ∈ vs, ∀ u ∈ us, ∃ i σ', den Fs elt ((ρ.set n (some (.int v))).set m (some (.int u))) (freeze τ) = some (.int i, σ')) (hl : vs.length * us.length ≤ lim) :
    ∃ ys : List Int, ys.length = vs.length * us.length ∧ den Fs (.comp2 n m src src2 elt) ρ σ = some (.ref τ.length, τ ++ [(true, .lst (ys.map AV.int))]) := by
  have inner : ∀ v ∈ vs, ∀ (l : List Int) (ys : List Int), (∀ u ∈ l, u ∈ us) → ∃ zs : List Int, zs.length = l.length + ys.length ∧
      (l.map AV.int).foldr (fun u acc => acc.bind fun ys => (den Fs elt ((ρ.set n (some (.int v))).set m (some u)) (freeze τ)).bind fun (y, _) => match u, y with
          | .int _, .int i => some (i :: ys)
          | _, _ => .none) (some ys) = some zs := by
    intro v hv l
    induction l with
    | nil => intro ys _; exact ⟨ys, by simp, rfl⟩
    | cons u l ih =>
      intro ys hu
      obtain ⟨zs, hz, e⟩ := ih ys fun w hw => hu w (List.mem_cons_of_mem _ hw)
      obtain ⟨i, σ', d⟩ := he v hv u (hu u (List.mem_cons_self ..))
      refine ⟨i :: zs, by simp [hz]; omega, ?_⟩
      rw [List.map_cons, List.foldr_cons, e, Option.bind_some, d]
      rfl
  have outer : ∀ l : List Int, (∀ v ∈ l, v ∈ vs) → ∃ zs : List Int, zs.length = l.length * us.length ∧
      (l.map AV.int).foldr (fun v acc => acc.bind fun ys => (den Fs src2 ((ρ.set n (some v)).set m .none) (freeze τ)).bind fun (x2, σ2) => (den.itemsOf x2 σ2).bind fun us =>
        us.foldr (fun u acc => acc.bind fun ys => (den Fs elt ((ρ.set n (some v)).set m (some u)) (freeze τ)).bind fun (y, _) => match u, y with
          | .int _, .int i => some (i :: ys)
          | _, _ => .none) (some ys)) (some []) = some zs := by
    intro l
    induction l with
    | nil => intro _; exact ⟨[], by simp, rfl⟩
    | cons v l ih =>
      intro hv
      obtain ⟨zs, hz, e⟩ := ih fun w hw => hv w (List.mem_cons_of_mem _ hw)
      obtain ⟨x2, σ2, d2, i2⟩ := h2 v (hv v (List.mem_cons_self ..))
      obtain ⟨ws, hw, e2⟩ := inner v (hv v (List.mem_cons_self ..)) us zs fun _ h => h
      refine ⟨ws, by rw [hw, hz, List.length_cons, Nat.succ_mul]; omega, ?_⟩
      rw [List.map_cons, List.foldr_cons, e, Option.bind_some, d2, Option.bind_some]
      dsimp only
      rw [i2, Option.bind_some]
      exact e2
  obtain ⟨zs, hz, e⟩ := outer vs fun _ h => h
  exact ⟨zs, hz, bindI hs (bindI hi (bindI e (if_pos (by rw [hz]; exact hl))))⟩

noncomputable def eltA : IE := .bin .add (.bin .mul (.int 64) (.var 16)) (.var 25)
noncomputable def eltB : IE := .bin .add (.bin .add (.bin .add (.bin .mul (.int 16384) (.var 26)) (.bin .mul (.int 4096) (.var 27))) (.bin .mul (.int 64) (.var 16))) (.var 17)
noncomputable def bodA : ISs := .cons (.asg 15 (.bin .add (.var 15) (.comp 25 (.var 14) .nil eltA))) (.cons (.asg 17 (.sub (.var 14) (.call 21 (.cons (.var 1) (.cons (.len (.var 14)) .nil))))) (.cons (.asg 15 (.bin .add (.var 15) (.comp2 26 27 (.range (.cons (.int 4) .nil)) (.range (.cons (.int 4) .nil)) eltB))) .nil))
noncomputable def rhoA (c r t p : Nat) (x : Option AV) (k wid eid : Nat) (ch : Bool) (oid gid aid : Nat) (y z : Option AV) : Rho := rho9 c r t p x k wid eid ch (some (.ref oid) :: some (.ref gid) :: some (.ref aid) :: y :: z :: List.replicate 10 none)
theorem turnA {c r t p wid eid oid gid aid kk o k : Nat} {I : Ids} {B O Gs : List Nat} {ls : List Int} {σ : AH} {x z : Option AV} {ch : Bool} (X : LX σ I c r t B wid oid gid O Gs) (hD : D k σ) (hk : k ≤ 100) (ho : o ≤ 100) (g0 : 0 < Gs.length) (gl : Gs.length ≤ 19) (gs : ∀ g ∈ Gs, g ≤ 100)
    (ha : σ[aid]? = some (true, .lst (ls.map AV.int))) (al : 10 < aid) (ll : ls.length ≤ 400) :
    ∃ (aid' : Nat) (ls' : List Int) (σ' : AH) (z' : Option AV), exes Fs9 bodA (rhoA c r t p x kk wid eid ch oid gid aid (some (.int (o : Nat))) z) σ = some (.next, rhoA c r t p x kk wid eid ch oid gid aid' (some (.int (o : Nat))) z', σ') ∧
      Kp σ σ' ∧ D (k + 1) σ' ∧ σ'[aid']? = some (true, .lst (ls'.map AV.int)) ∧ 10 < aid' ∧ ls'.length ≤ ls.length + 35 := by
  have h21 : Fs9[21]? = some F__law_dip := rfl
  let ρ0 : Rho := rhoA c r t p x kk wid eid ch oid gid aid (some (.int (o : Nat))) z
  have m64 : binV .mul 64 ((o : Nat) : Int) = some (64 * ((o : Nat) : Int)) := mulS (by decide) (by omega)
  -- first list
  let zs : List Int := (Gs.filter fun _ => true).map fun (g : Nat) => 64 * ((o : Nat) : Int) + (g : Int)
  let σ1 := σ ++ [(true, AO.lst (zs.map AV.int))]
  let ls1 := ls ++ zs
  let σ2 := σ1 ++ [(true, AO.lst (ls1.map AV.int))]
  have lzs : zs.length ≤ 19 := by
    simp only [zs, List.length_map]
    exact Nat.le_trans (List.length_filter_le ..) gl
  have cp : den Fs9 (.comp 25 (.var 14) .nil eltA) ρ0 σ = some (.ref σ.length, σ1) := by
    have it : den.itemsOf (.ref gid) σ = some (Gs.map fun (x : Nat) => AV.int (x : Int)) := items_lst X.gls (by simp only [natsV, List.length_map]; unfold lim; omega)
    refine comp_ok (Fs := Fs9) (n := 25) (conds := .nil) (elt := eltA) (fun (x : Nat) => (x : Int)) (fun _ => true) (fun (g : Nat) => 64 * ((o : Nat) : Int) + (g : Int)) (den_var rfl) it (by unfold lim; omega) (fun _ _ => rfl) (fun g hg _ => ⟨freeze σ, ?_⟩)
    have e16 : (ρ0.set 25 (some (.int (g : Nat))))[16]? = some (some (.int (o : Nat))) := rfl
    have e25 : (ρ0.set 25 (some (.int (g : Nat))))[25]? = some (some (.int (g : Nat))) := rfl
    exact d_bin (d_bin d_int (d_var e16) m64) (d_var e25) rfl
  have s1d := catE (Fs := Fs9) (e1 := .var 15) (den_var (ρ := ρ0) rfl) cp (up_ ha) at_end (by simp only [List.length_map]; unfold lim; omega)
  rw [← List.map_append] at s1d
  let ρ1 : Rho := rhoA c r t p x kk wid eid ch oid gid σ1.length (some (.int (o : Nat))) z
  have s1 : exe Fs9 (.asg 15 (.bin .add (.var 15) (.comp 25 (.var 14) .nil eltA))) ρ0 σ = some (.next, ρ1, σ2) := by
    exact s_asg s1d
  have k02 : Kp σ σ2 := (Kp.app σ _).trans (Kp.app σ1 _)
  have X2 := X.kp k02
  have D2 : D k σ2 := hD.grow.grow
  -- the drawn goal
  obtain ⟨j, σ3, d3, lj, D3, q3⟩ := dipE h21 (ρ := ρ1) (v := 1) (e := .len (.var 14)) (m := Gs.length) rfl (lenE rfl X2.gls (by exact Nat.le_trans (by assumption) (by decide))) D2 (by exact Nat.le_trans (by assumption) (by decide)) g0
  have X3 := X2.kp q3.kp
  let gj := Gs[j]
  have lgj : gj ≤ 100 := gs _ (List.getElem_mem lj)
  let ρ2 : Rho := rhoA c r t p x kk wid eid ch oid gid σ1.length (some (.int (o : Nat))) (some (.int (gj : Nat)))
  have s2 : exe Fs9 (.asg 17 (.sub (.var 14) (.call 21 (.cons (.var 1) (.cons (.len (.var 14)) .nil))))) ρ1 σ2 = some (.next, ρ2, σ3) := by
    have sb : subV (.ref gid) (.int j) σ3 = some (.int (gj : Nat)) := sub_at X3.gls (by simp [natsV, lj, gj]) (by omega)
    exact s_asg (d_sub (d_var rfl) d3 sb)
  -- second list
  let τ := σ3 ++ [(false, AO.rng 0 4 1)]
  have cp2 : ∃ ys : List Int, ys.length = 4 * 4 ∧ den Fs9 (.comp2 26 27 (.range (.cons (.int 4) .nil)) (.range (.cons (.int 4) .nil)) eltB) ρ2 σ3 = some (.ref τ.length, τ ++ [(true, .lst (ys.map AV.int))]) := by
    have src : den Fs9 (.range (.cons (.int 4) .nil)) ρ2 σ3 = some (.ref σ3.length, τ) := rngE (n := 4) rfl (by decide)
    have it : ∀ {a : Nat} {τ : AH} {m : Bool}, τ[a]? = some (m, .rng 0 4 1) → den.itemsOf (.ref a) τ = some (([0, 1, 2, 3] : List Int).map AV.int) := fun h => by
      unfold den.itemsOf
      dsimp only
      rw [h]; rfl
    refine comp2_ok (vs := [0, 1, 2, 3]) (us := [0, 1, 2, 3]) src (it at_end) (fun v hv => ?_) (fun v hv u hu => ?_) (by simp [lim])
    · refine ⟨.ref (freeze τ).length, freeze τ ++ [(false, .rng 0 4 1)], rngE (n := 4) rfl (by decide), it at_end⟩
    · have hv' : 0 ≤ v ∧ v ≤ 3 := by simp only [List.mem_cons, List.not_mem_nil, or_false] at hv; omega
      have hu' : 0 ≤ u ∧ u ≤ 3 := by simp only [List.mem_cons, List.not_mem_nil, or_false] at hu; omega
      let ρx := (ρ2.set 26 (some (.int v))).set 27 (some (.int u))
      have e26 : ρx[26]? = some (some (.int v)) := rfl
      have e27 : ρx[27]? = some (some (.int u)) := rfl
      have e16 : ρx[16]? = some (some (.int (o : Nat))) := rfl
      have e17 : ρx[17]? = some (some (.int (gj : Nat))) := rfl
      have m1 : binV .mul 16384 v = some (16384 * v) := mulS (by decide) (by omega)
      have m2 : binV .mul 4096 u = some (4096 * u) := mulS (by decide) (by omega)
      refine ⟨16384 * v + 4096 * u + 64 * ((o : Nat) : Int) + ((gj : Nat) : Int), freeze τ, ?_⟩
      show den Fs9 eltB ρx (freeze τ) = _
      exact d_bin (d_bin (d_bin (d_bin d_int (d_var e26) m1) (d_bin d_int (d_var e27) m2) rfl) (d_bin d_int (d_var e16) m64) rfl) (d_var e17) rfl
  obtain ⟨ys, lys, cp2⟩ := cp2
  have h2 : σ2[σ1.length]? = some (true, .lst (ls1.map AV.int)) := at_end
  have b10 : σ1.length ≠ 10 := by
    have : aid < σ.length := (List.getElem?_eq_some_iff.mp ha).1
    simp only [σ1, List.length_append, List.length_singleton]; omega
  have h3 : σ3[σ1.length]? = some (true, .lst (ls1.map AV.int)) := q3.kp _ _ b10 h2
  have ll1 : ls1.length ≤ ls.length + 19 := by simp only [ls1, List.length_append]; omega
  have s3d := catE (Fs := Fs9) (e1 := .var 15) (den_var (ρ := ρ2) (a := .ref σ1.length) rfl) cp2 (up_ (up_ h3)) at_end (by simp only [List.length_map]; unfold lim; omega)
  rw [← List.map_append] at s3d
  let σ4 := τ ++ [(true, AO.lst (ys.map AV.int))]
  have s3 : exe Fs9 (.asg 15 (.bin .add (.var 15) (.comp2 26 27 (.range (.cons (.int 4) .nil)) (.range (.cons (.int 4) .nil)) eltB))) ρ2 σ3 = some (.next, rhoA c r t p x kk wid eid ch oid gid σ4.length (some (.int (o : Nat))) (some (.int (gj : Nat))), σ4 ++ [(true, .lst ((ls1 ++ ys).map AV.int))]) := by
    exact s_asg s3d
  refine ⟨σ4.length, ls1 ++ ys, _, _, (exes_go s1).trans ((exes_go s2).trans ((exes_go s3).trans rfl)), ((k02.trans q3.kp).trans ((Kp.app σ3 _).trans (Kp.app τ _))).trans (Kp.app σ4 _), D3.grow.grow.grow, at_end, ?_, ?_⟩
  · have : aid < σ.length := (List.getElem?_eq_some_iff.mp ha).1
    have : σ3.length = σ.length + 2 := by rw [q3.1]; simp [σ2, σ1]
    simp only [σ4, τ, List.length_append, List.length_singleton]; omega
  · rw [List.length_append, lys]; omega
theorem loopA {c r t p wid eid oid gid kk : Nat} {I : Ids} {B O Gs : List Nat} {x : Option AV} {ch : Bool} (g0 : 0 < Gs.length) (gl : Gs.length ≤ 19) (gs : ∀ g ∈ Gs, g ≤ 100) : ∀ (l : List Nat) (k aid : Nat) (ls : List Int) (σ : AH) (y z : Option AV),
    LX σ I c r t B wid oid gid O Gs → D k σ → k + l.length ≤ 60 → (∀ o ∈ l, o ≤ 100) → σ[aid]? = some (true, .lst (ls.map AV.int)) → 10 < aid → ls.length + 35 * l.length ≤ 400 →
    ∃ (aid' : Nat) (ls' : List Int) (σ' : AH) (y' z' : Option AV), forF (fun σ => σ[oid]? == some (true, .lst (natsV O))) (bindT [16] false) (exes Fs9 bodA) (natsV l) (rhoA c r t p x kk wid eid ch oid gid aid y z) σ = some (.next, rhoA c r t p x kk wid eid ch oid gid aid' y' z', σ') ∧
      LX σ' I c r t B wid oid gid O Gs ∧ D 60 σ' ∧ σ'[aid']? = some (true, .lst (ls'.map AV.int)) ∧ 10 < aid' ∧ ls'.length ≤ 400
  | [], k, aid, ls, σ, y, z, X, hD, hk, _, ha, al, ll => ⟨aid, ls, σ, y, z, forF_end (by rw [X.org]; exact beq_self_eq_true _), X, hD.mono (by simpa using hk), ha, al, by simpa using ll⟩
  | o :: l, k, aid, ls, σ, y, z, X, hD, hk, ho, ha, al, ll => by
    rw [List.length_cons] at hk ll
    obtain ⟨a1, ls1, σ1, z1, r1, k1, D1, g1, al1, ll1⟩ := turnA (p := p) (eid := eid) (kk := kk) (x := x) (z := z) (ch := ch) X hD (by omega) (ho o (List.mem_cons_self ..)) g0 gl gs ha al (by omega)
    obtain ⟨a2, ls2, σ2, y2, z2, r2, X2, D2, g2, al2, ll2⟩ := loopA (p := p) (eid := eid) (kk := kk) (x := x) (ch := ch) g0 gl gs l (k + 1) a1 ls1 σ1 (some (.int (o : Nat))) z1 (X.kp k1) D1 (by omega) (fun o h => ho o (List.mem_cons_of_mem _ h)) g1 al1 (by omega)
    refine ⟨a2, ls2, σ2, y2, z2, ?_, X2, D2, g2, al2, ll2⟩
    exact (forF_go (by rw [X.org]; exact beq_self_eq_true _) rfl r1).trans r2
end Mine
namespace Mine
open PySem.Builtin PyProof.Rows

noncomputable def tstQ : IE := .bop false (.cons (.cmp .ne (.var 20) (.var 19)) (.cons (.una .not (.bop false (.cons (.cmp .eq (.var 19) (.int 0)) (.cons (.var 12) (.cons (.cmp .eq (.var 20) (.int 6)) .nil))))) .nil))
noncomputable def bodQ : ISs := .cons (.asg 19 (.call 45 (.cons (.var 2) (.cons (.var 5) (.cons (.var 10) (.cons (.var 18) .nil)))))) (.cons (.asg 20 (.call 53 (.cons (.var 7) (.cons (.var 18) .nil)))) (.cons (.ite tstQ (.cons (.ret (.bool false)) .nil) .nil) .nil))
noncomputable def rhoQ (c r t p : Nat) (x : Option AV) (k wid eid : Nat) (ch : Bool) (oid gid aid : Nat) (y z u v w : Option AV) : Rho := rho9 c r t p x k wid eid ch (some (.ref oid) :: some (.ref gid) :: some (.ref aid) :: y :: z :: u :: v :: w :: List.replicate 7 none)
theorem turnQ {c r t wid eid oid gid aid kk : Nat} {I : Ids} {B O Gs : List Nat} {σ : AH} {x y z v w : Option AV} (G : Gd c r B) (ht : t < 2) (X : LX σ I c r t B wid oid gid O Gs) (m : Int) :
    ∃ (σ' : AH) (v' w' : Option AV), exes Fs9 bodQ (rhoQ c r t I.p x kk wid eid (chkB c r B t) oid gid aid y z (some (.int m)) v w) σ = some (.next, rhoQ c r t I.p x kk wid eid (chkB c r B t) oid gid aid y z (some (.int m)) v' w', σ') ∧ Up σ σ' := by
  obtain ⟨σ1, r1, u1⟩ := reason_ok (m := m) G.toBd X.ps.b11 X.own
  have X1 := X.kp u1.kp
  obtain ⟨a, σ2, r2, u2, h⟩ := pseudo_ok G X1.ps ht m
  have f45 : Fs9[45]? = some F__law_reason := rfl
  have f53 : Fs9[53]? = some F_pseudo_refusal := rfl
  let ρ0 : Rho := rhoQ c r t I.p x kk wid eid (chkB c r B t) oid gid aid y z (some (.int m)) v w
  let ρ1 : Rho := rhoQ c r t I.p x kk wid eid (chkB c r B t) oid gid aid y z (some (.int m)) (some (.int (reason c r B t m))) w
  let ρ2 : Rho := rhoQ c r t I.p x kk wid eid (chkB c r B t) oid gid aid y z (some (.int m)) (some (.int (reason c r B t m))) (some (.int a))
  have s1 : exe Fs9 (.asg 19 (.call 45 (.cons (.var 2) (.cons (.var 5) (.cons (.var 10) (.cons (.var 18) .nil)))))) ρ0 σ = some (.next, ρ1, σ1) := s_asg (d_call (l_cons (d_var rfl) (l_cons (d_var rfl) (l_cons (d_var rfl) (l_cons (d_var rfl) l_nil)))) f45 r1)
  have s2 : exe Fs9 (.asg 20 (.call 53 (.cons (.var 7) (.cons (.var 18) .nil)))) ρ1 σ1 = some (.next, ρ2, σ2) := s_asg (d_call (l_cons (d_var rfl) (l_cons (d_var rfl) l_nil)) f53 r2)
  have t3 : den Fs9 tstQ ρ2 σ2 = some (.bool false, σ2) := by
    have e19 : ρ2[19]? = some (some (.int (reason c r B t m))) := rfl
    have e20 : ρ2[20]? = some (some (.int a)) := rfl
    have e12 : ρ2[12]? = some (some (.bool (chkB c r B t))) := rfl
    rcases h with h | ⟨h1, h2, h3⟩
    · have nb : (a != reason c r B t m) = false := by rw [h]; exact bne_self_eq_false _
      exact d_bop (b_halt (d_cmp (d_var e20) (d_var e19) rfl) nb)
    · have hc := chk_of h3
      rw [h1] at e19
      rw [h2] at e20
      rw [hc] at e12
      exact d_isb (d_bop (b_and (d_cmp (d_var e20) (d_var e19) rfl) (b_one (d_not (d_bop (b_and (d_cmp (d_var e19) d_int rfl) (b_and (d_var e12) (b_one (d_cmp (d_var e20) d_int rfl))))) rfl)))) rfl
  have s3 : exe Fs9 (.ite tstQ (.cons (.ret (.bool false)) .nil) .nil) ρ2 σ2 = some (.next, ρ2, σ2) := s_no t3
  exact ⟨σ2, _, _, (exes_go s1).trans ((exes_go s2).trans ((exes_go s3).trans rfl)), u1.trans u2⟩
theorem loopQ {c r t wid eid oid gid aid kk : Nat} {I : Ids} {B O Gs : List Nat} {x y z : Option AV} {ls : List Int} (G : Gd c r B) (ht : t < 2) (al : 10 < aid) : ∀ (l : List Int) (σ : AH) (u v w : Option AV), LX σ I c r t B wid oid gid O Gs → σ[aid]? = some (true, .lst (ls.map AV.int)) →
    ∃ (σ' : AH) (u' v' w' : Option AV), forF (fun σ => σ[aid]? == some (true, .lst (ls.map AV.int))) (bindT [18] false) (exes Fs9 bodQ) (l.map AV.int) (rhoQ c r t I.p x kk wid eid (chkB c r B t) oid gid aid y z u v w) σ = some (.next, rhoQ c r t I.p x kk wid eid (chkB c r B t) oid gid aid y z u' v' w', σ')
  | [], σ, u, v, w, X, ha => ⟨σ, u, v, w, forF_end (by rw [ha]; exact beq_self_eq_true _)⟩
  | m :: l, σ, u, v, w, X, ha => by
    obtain ⟨σ1, v1, w1, r1, u1⟩ := turnQ (eid := eid) (aid := aid) (kk := kk) (x := x) (y := y) (z := z) (v := v) (w := w) G ht X m
    obtain ⟨σ2, u2, v2, w2, r2⟩ := loopQ (eid := eid) (kk := kk) (x := x) (y := y) (z := z) G ht al l σ1 (some (.int m)) v1 w1 (X.kp u1.kp) (u1 _ _ ha)
    exact ⟨σ2, u2, v2, w2, (forF_go (by rw [ha]; exact beq_self_eq_true _) rfl r1).trans r2⟩

noncomputable def sL16 : IS := .for [16] false (.var 13) bodA
noncomputable def sL17 : IS := .for [18] false (.var 15) bodQ
theorem law_is : B_law = .cons sL1 (.cons sL2 (.cons sL3 (.cons sL4 (.cons sL5 (.cons sPos (.cons sFor (.cons sSide (.cons sL9 (.cons sL10 (.cons sL11 (.cons sL12 (.cons sL13 (.cons sL14 (.cons sL15 (.cons sL16 (.cons sL17 (.cons (.ret (.bool true)) .nil))))))))))))))))) := rfl
theorem pure_ : ∀ ns : List Int, ns.length ≤ 63 → ∃ σ', F_law [.ref 7] (sig0 ns) = some (.bool true, σ') := by
  intro ns hns
  obtain ⟨c, r, t, B, σ1, ht, e1, G, b1, D1, l1, k1⟩ := part1 ns hns (.cons sPos (.cons sFor (.cons sSide (.cons sL9 (.cons sL10 (.cons sL11 (.cons sL12 (.cons sL13 (.cons sL14 (.cons sL15 (.cons sL16 (.cons sL17 (.cons (.ret (.bool true)) .nil)))))))))))))
  obtain ⟨I, x, σ2, e2, P2, D2⟩ := part2 G ht b1 D1 l1 k1 (.cons sL9 (.cons sL10 (.cons sL11 (.cons sL12 (.cons sL13 (.cons sL14 (.cons sL15 (.cons sL16 (.cons sL17 (.cons (.ret (.bool true)) .nil))))))))))
  obtain ⟨wid, eid, σ3, e3, P3, D3, gw, wl, ge, el⟩ := part3 (p := I.p) (x := x) G ht P2 D2 (.cons sL13 (.cons sL14 (.cons sL15 (.cons sL16 (.cons sL17 (.cons (.ret (.bool true)) .nil))))))
  obtain ⟨oid, gid, aid, O, Gs, ls, σ4, e4, X4, D4, lO, hO, lG, hG, ga, al, lls⟩ := part4 (p := I.p) (x := x) (ch := chkB c r B t) G ht P3 D3 gw wl ge el (.cons sL16 (.cons sL17 (.cons (.ret (.bool true)) .nil)))
  obtain ⟨c0, c4, r4, n16, r3, n9⟩ := G.small
  obtain ⟨aid', ls', σ5, y, z, e5, X5, D5, ga5, al5, ll5⟩ := loopA (p := I.p) (eid := eid) (kk := kg B t) (x := x) (ch := chkB c r B t) (by omega) (by omega) hG O 32 aid ls σ4 none none X4 D4 (by omega) hO ga al (by omega)
  have s16 : exe Fs9 sL16 (rhoA c r t I.p x (kg B t) wid eid (chkB c r B t) oid gid aid none none) σ4 = some (.next, rhoA c r t I.p x (kg B t) wid eid (chkB c r B t) oid gid aid' y z, σ5) := by
    have lo : (natsV O).length ≤ lim := by simp only [natsV, List.length_map, lO]; unfold lim; omega
    exact s_forL (d_var rfl) X4.org lo e5
  obtain ⟨σ6, u6, v6, w6, e6⟩ := loopQ (eid := eid) (kk := kg B t) (x := x) (y := y) (z := z) G ht al5 ls' σ5 none none none X5 ga5
  have s17 : exe Fs9 sL17 (rhoA c r t I.p x (kg B t) wid eid (chkB c r B t) oid gid aid' y z) σ5 = some (.next, rhoQ c r t I.p x (kg B t) wid eid (chkB c r B t) oid gid aid' y z u6 v6 w6, σ6) := by
    have lo : (ls'.map AV.int).length ≤ lim := by simp only [List.length_map]; unfold lim; omega
    exact s_forL (d_var rfl) ga5 lo e6
  refine ⟨σ6, fun_ret (Fs := Fs9) (np := 1) (ns := 28) (body := B_law) (ρ' := rhoQ c r t I.p x (kg B t) wid eid (chkB c r B t) oid gid aid' y z u6 v6 w6) (v := .bool true) rfl ?_⟩
  rw [law_is]
  exact e1.trans (e2.trans (e3.trans (e4.trans ((exes_go s16).trans ((exes_go s17).trans (exes_ret rfl))))))
end Mine
namespace Mine
theorem holds.tw12563481999192008768 : True := trivial
theorem holds.tw11021402016762074336 : True := trivial
theorem holds.tw1672651397029140864 : True := trivial
theorem holds.tw10757429521193351584 : True := trivial
theorem holds.tw14870943235993404928 : True := trivial
theorem holds.tw14374762386000251392 : True := trivial
theorem holds.tw12941468149822085856 : True := trivial
theorem holds.tw10520202591518659360 : True := trivial
theorem holds.tw3811385743445658432 : True := trivial
theorem holds.tw6674158366018852832 : True := trivial
theorem holds.tw4954732016240277505 : True := trivial
theorem holds.tw7122917452565745793 : True := trivial
theorem holds.tw6278366128872770721 : True := trivial
theorem holds.tw2929439407932294337 : True := trivial
theorem holds.tw12461706298059298081 : True := trivial
theorem holds.tw5947439104362728737 : True := trivial
theorem holds.tw7366336091430424897 : True := trivial
theorem holds.tw13942211991455542721 : True := trivial
theorem holds.tw13200177327426563521 : True := trivial
theorem holds.tw10061326939861387809 : True := trivial
theorem holds.tw9458989268892848673 : True := trivial
theorem holds.tw14205006904943715905 : True := trivial
theorem holds.tw3393808461323943489 : True := trivial
theorem holds.tw13356387430892511905 : True := trivial
theorem holds.tw17856180979147524769 : True := trivial
theorem holds.tw12632932662738783937 : True := trivial
theorem holds.tw1833173380454153921 : True := trivial
theorem holds.tw3378624336152846145 : True := trivial
theorem holds.tw13980644296350529377 : True := trivial
theorem holds.tw12633084752571091873 : True := trivial
theorem holds.tw1688397885654501378 : True := trivial
theorem holds.tw18202751451028033538 : True := trivial
theorem holds.tw4702539438339769474 : True := trivial
theorem holds.tw11322816463052944642 : True := trivial
theorem holds.tw12467034654032377186 : True := trivial
theorem holds.tw17551835440721493442 : True := trivial
theorem holds.tw11210861575573996130 : True := trivial
theorem holds.tw15573729904360925794 : True := trivial
theorem holds.tw13860560629476652642 : True := trivial
theorem holds.tw7258431392514884226 : True := trivial
theorem holds.tw16049930973857864354 : True := trivial
theorem holds.tw2682973687022302978 : True := trivial
theorem holds.tw4772410448533662562 : True := trivial
theorem holds.tw17450472940649059298 : True := trivial
theorem holds.tw14054693376921006050 : True := trivial
theorem holds.tw7442186320969616419 : True := trivial
theorem holds.tw13416111870119765123 : True := trivial
theorem holds.tw759334954848157859 : True := trivial
theorem holds.tw6735552807121987811 : True := trivial
theorem holds.tw11502601298335438083 : True := trivial
theorem holds.tw10238092577321643331 : True := trivial
theorem holds.tw4397353207691548035 : True := trivial
theorem holds.tw3081346186701454755 : True := trivial
theorem holds.tw6817751937963910627 : True := trivial
theorem holds.tw9284948610034456067 : True := trivial
theorem holds.tw7365562674294520451 : True := trivial
theorem holds.tw4659233104850659043 : True := trivial
theorem holds.tw15421342739227911939 : True := trivial
theorem holds.tw10675174832548182787 : True := trivial
theorem holds.tw9523873602847724419 : True := trivial
theorem holds.tw17096001632197288867 : True := trivial
theorem holds.tw4302478151189881795 : True := trivial
theorem holds.tw3210078786618844196 : True := trivial
theorem holds.tw5082999880386992228 : True := trivial
theorem holds.tw10576265454180977796 : True := trivial
theorem holds.tw12736823529576279204 : True := trivial
theorem holds.tw11379536335273661636 : True := trivial
theorem holds.tw11223116819087169764 : True := trivial
theorem holds.tw6099975724469302500 : True := trivial
theorem holds.tw13370180491053348 : True := trivial
theorem holds.tw3579776383272448420 : True := trivial
theorem holds.tw10066566674380323332 : True := trivial
theorem holds.tw8868040359437915812 : True := trivial
theorem holds.tw14314133134477209284 : True := trivial
theorem holds.tw14533596452844920548 : True := trivial
theorem holds.tw5747684920607356772 : True := trivial
theorem holds.tw16059530173932288868 : True := trivial
theorem holds.tw10876536743886354276 : True := trivial
theorem holds.tw4500180452004054980 : True := trivial
theorem holds.tw7840918076549728228 : True := trivial
theorem holds.tw4408763645494598628 : True := trivial
theorem holds.tw4132201380793018340 : True := trivial
theorem holds.tw8006095370074002437 : True := trivial
theorem holds.tw18173914834931495973 : True := trivial
theorem holds.tw6654929391614583909 : True := trivial
theorem holds.tw2661161477798328453 : True := trivial
theorem holds.tw4021013208564600997 : True := trivial
theorem holds.tw4876135695594978501 : True := trivial
theorem holds.tw6330134614895140133 : True := trivial
theorem holds.tw11037822914523747621 : True := trivial
theorem holds.tw298297018594106725 : True := trivial
theorem holds.tw2946744036017948005 : True := trivial
theorem holds.tw4065146272016792997 : True := trivial
theorem holds.tw5031978486770369989 : True := trivial
theorem holds.tw707885073954110949 : True := trivial
theorem holds.tw14062913937729191461 : True := trivial
theorem holds.tw2667925813562934949 : True := trivial
theorem holds.tw8102643725754146565 : True := trivial
theorem holds.tw3101148707280403237 : True := trivial
theorem holds.tw8664812251140827045 : True := trivial
theorem holds.tw14456359579513077766 : True := trivial
theorem holds.tw7991519602905016326 : True := trivial
theorem holds.tw14040500308302212198 : True := trivial
theorem holds.tw14394845925615563878 : True := trivial
theorem holds.tw12629177860411813126 : True := trivial
theorem holds.tw9486143321106344294 : True := trivial
theorem holds.tw10973056549479156102 : True := trivial
theorem holds.tw4480811336153992742 : True := trivial
theorem holds.tw8451429660923938374 : True := trivial
theorem holds.tw4695128735345963622 : True := trivial
theorem holds.tw16239030619513480838 : True := trivial
theorem holds.tw13564983018704479910 : True := trivial
theorem holds.tw6606875086121380550 : True := trivial
theorem holds.tw12091882185175152326 : True := trivial
theorem holds.tw14856189802965030758 : True := trivial
theorem holds.tw2720468260678641542 : True := trivial
theorem holds.tw8564859838321607590 : True := trivial
theorem holds.tw63030109126827207 : True := trivial
theorem holds.tw17094759248423572775 : True := trivial
theorem holds.tw13563289320671947111 : True := trivial
theorem holds.tw9072656965561520583 : True := trivial
theorem holds.tw17549760099613038055 : True := trivial
theorem holds.tw5932082505621288647 : True := trivial
theorem holds.tw9441326970708011783 : True := trivial
theorem holds.tw13676757877788619591 : True := trivial
theorem holds.tw5583946556138506119 : True := trivial
theorem holds.tw9784731065822230439 : True := trivial
theorem holds.tw9518972631687950247 : True := trivial
theorem holds.tw10894570999934473159 : True := trivial
theorem holds.tw16801115162389100519 : True := trivial
theorem holds.tw2422663375537807432 : True := trivial
theorem holds.tw12135579543755162760 : True := trivial
theorem holds.tw685634667276709000 : True := trivial
theorem holds.tw3589964763223657672 : True := trivial
theorem holds.tw14027143162585244968 : True := trivial
theorem holds.tw13752858599667678536 : True := trivial
theorem holds.tw2451063411067222376 : True := trivial
theorem holds.tw10824115321126796680 : True := trivial
theorem holds.tw2207817973478938216 : True := trivial
theorem holds.tw10595842591828190984 : True := trivial
theorem holds.tw14149781006570564392 : True := trivial
theorem holds.tw303617358959260456 : True := trivial
theorem holds.tw9647410926604887880 : True := trivial
theorem holds.tw15654153127513851752 : True := trivial
theorem holds.tw4327840331488684936 : True := trivial
theorem holds.tw15580662879708500073 : True := trivial
theorem holds.tw5878047611234877577 : True := trivial
theorem holds.tw12808162357026388105 : True := trivial
theorem holds.tw7058599786907716777 : True := trivial
theorem holds.tw17533166617710000329 : True := trivial
theorem holds.tw14432740918813763817 : True := trivial
theorem holds.tw6896159741398044905 : True := trivial
theorem holds.tw8163853742193369449 : True := trivial
theorem holds.tw154871700347349385 : True := trivial
theorem holds.tw4624323801304008105 : True := trivial
theorem holds.tw5763553328388235881 : True := trivial
theorem holds.tw2963349702327202441 : True := trivial
theorem holds.tw14341210406198164329 : True := trivial
theorem holds.tw12056596633878991817 : True := trivial
theorem holds.tw15942494369296127945 : True := trivial
theorem holds.tw9107170298555381705 : True := trivial
theorem holds.tw17294395744611713098 : True := trivial
theorem holds.tw4381757428849502282 : True := trivial
theorem holds.tw4485590747672999114 : True := trivial
theorem holds.tw5887078386916838634 : True := trivial
theorem holds.tw10005904335563230602 : True := trivial
theorem holds.tw14083834280242248106 : True := trivial
theorem holds.tw12540800736699631050 : True := trivial
theorem holds.tw10491065262344570346 : True := trivial
theorem holds.tw1095465085569150570 : True := trivial
theorem holds.tw1092734292537931370 : True := trivial
theorem holds.tw9408521175777228426 : True := trivial
theorem holds.tw2296293446034493066 : True := trivial
theorem holds.tw17647985033660283594 : True := trivial
theorem holds.tw7580357766596436714 : True := trivial
theorem holds.tw185807328385624810 : True := trivial
theorem holds.tw13373784697917265674 : True := trivial
theorem holds.tw13219762378693318442 : True := trivial
theorem holds.tw1393233512996795178 : True := trivial
theorem holds.tw6166532556598395850 : True := trivial
theorem holds.tw16725066886706607050 : True := trivial
theorem holds.tw12468101337765408714 : True := trivial
theorem holds.tw4998001990490953706 : True := trivial
theorem holds.tw10587580826675096554 : True := trivial
theorem holds.tw15462992800728643659 : True := trivial
theorem holds.tw187104208977503339 : True := trivial
theorem holds.tw10705761992013847755 : True := trivial
theorem holds.tw11818566221774970091 : True := trivial
theorem holds.tw6159885450047824267 : True := trivial
theorem holds.tw1438057683635843531 : True := trivial
theorem holds.tw960582308587345451 : True := trivial
theorem holds.tw10828986214106111531 : True := trivial
theorem holds.tw11040456503202229835 : True := trivial
theorem holds.tw1477864382951527211 : True := trivial
theorem holds.tw8323465864499181419 : True := trivial
theorem holds.tw13945929957867325323 : True := trivial
theorem holds.tw17779192219718171531 : True := trivial
theorem holds.tw9638990691586225099 : True := trivial
theorem holds.tw1357463484097335404 : True := trivial
theorem holds.tw10817008591213730988 : True := trivial
theorem holds.tw5282283922864298156 : True := trivial
theorem holds.tw150268843892594924 : True := trivial
theorem holds.tw2335221107431800076 : True := trivial
theorem holds.tw3093010850272755244 : True := trivial
theorem holds.tw8253004272172430988 : True := trivial
theorem holds.tw12158838097934144204 : True := trivial
theorem holds.tw13150661809386230508 : True := trivial
theorem holds.tw10859938921441162988 : True := trivial
theorem holds.tw12657093848384798476 : True := trivial
theorem holds.tw12354433232887552844 : True := trivial
theorem holds.tw14012497318314112844 : True := trivial
theorem holds.tw11968577826497805164 : True := trivial
theorem holds.tw14977296931134136204 : True := trivial
theorem holds.tw945861476033566700 : True := trivial
theorem holds.tw341249449185904685 : True := trivial
theorem holds.tw16740147826971877517 : True := trivial
theorem holds.tw6216033271563703469 : True := trivial
theorem holds.tw1508545211966159021 : True := trivial
theorem holds.tw17822619038779606285 : True := trivial
theorem holds.tw6396523623945614605 : True := trivial
theorem holds.tw15349486494167490861 : True := trivial
theorem holds.tw4399152324972305773 : True := trivial
theorem holds.tw5531990279233569197 : True := trivial
theorem holds.tw11750193621415288269 : True := trivial
theorem holds.tw17024084272782429677 : True := trivial
theorem holds.tw13281364814482169325 : True := trivial
theorem holds.tw2167384251425162797 : True := trivial
theorem holds.tw6460966521098074893 : True := trivial
theorem holds.tw14064534554856164141 : True := trivial
theorem holds.tw12306811582311103309 : True := trivial
theorem holds.tw7221694943082674061 : True := trivial
theorem holds.tw2160012875989923789 : True := trivial
theorem holds.tw11569915684508697678 : True := trivial
theorem holds.tw12762722769849151566 : True := trivial
theorem holds.tw8239031253751857358 : True := trivial
theorem holds.tw15305512045591798990 : True := trivial
theorem holds.tw3279077582325829838 : True := trivial
theorem holds.tw4475622257904601326 : True := trivial
theorem holds.tw3280128972450656526 : True := trivial
theorem holds.tw3864012138097595758 : True := trivial
theorem holds.tw17476224472650253806 : True := trivial
theorem holds.tw8351548024695214574 : True := trivial
theorem holds.tw1692041494862269998 : True := trivial
theorem holds.tw12160635655254385198 : True := trivial
theorem holds.tw8087799500789234286 : True := trivial
theorem holds.tw7129523546110730894 : True := trivial
theorem holds.tw11775407622660791982 : True := trivial
theorem holds.tw8571184235532366510 : True := trivial
theorem holds.tw99148262030102190 : True := trivial
theorem holds.tw2936799095737714382 : True := trivial
theorem holds.tw9232459349045140238 : True := trivial
theorem holds.tw9855210162650666830 : True := trivial
theorem holds.tw14271935136423247726 : True := trivial
theorem holds.tw16898140867199733807 : True := trivial
theorem holds.tw1382383790286775375 : True := trivial
theorem holds.tw11566098377363298415 : True := trivial
theorem holds.tw7791430327242384495 : True := trivial
theorem holds.tw16532224993992427823 : True := trivial
theorem holds.tw13462505523778707759 : True := trivial
theorem holds.tw15356600547250028879 : True := trivial
theorem holds.tw4046193847619289583 : True := trivial
theorem holds.tw16035096773351161327 : True := trivial
theorem holds.tw17040301576142915119 : True := trivial
theorem holds.tw11341941285841758863 : True := trivial
theorem holds.tw5588498093969417903 : True := trivial
theorem holds.tw6357344898813262543 : True := trivial
theorem holds.tw5959074840488112208 : True := trivial
theorem holds.tw13926404443759844560 : True := trivial
theorem holds.tw5225467491883748592 : True := trivial
theorem holds.tw2084331650109322480 : True := trivial
theorem holds.tw8218819101457601776 : True := trivial
theorem holds.tw5619803957841784048 : True := trivial
theorem holds.tw5016061194280584464 : True := trivial
theorem holds.tw4381346726385406224 : True := trivial
theorem holds.tw17148229171239856432 : True := trivial
theorem holds.tw15969937429085165904 : True := trivial
theorem holds.tw11822188140940861840 : True := trivial
theorem holds.tw7350330377624401328 : True := trivial
theorem holds.tw15750308709622187472 : True := trivial
theorem holds.tw10726778698580467152 : True := trivial
theorem holds.tw15493915963290111440 : True := trivial
theorem holds.tw10637851664137882224 : True := trivial
theorem holds.tw7145057240379410032 : True := trivial
theorem holds.tw5099458221760260784 : True := trivial
theorem holds.tw15326264675407861456 : True := trivial
theorem holds.tw8801499457356032720 : True := trivial
theorem holds.tw16281141667863336784 : True := trivial
theorem holds.tw16796854770986717008 : True := trivial
theorem holds.tw3906943341852370832 : True := trivial
theorem holds.tw18145382148040430673 : True := trivial
theorem holds.tw3232270311777372273 : True := trivial
theorem holds.tw11311999394344832113 : True := trivial
theorem holds.tw15296638952792297585 : True := trivial
theorem holds.tw9160814584890018001 : True := trivial
theorem holds.tw10406357932506391793 : True := trivial
theorem holds.tw5274829272982666545 : True := trivial
theorem holds.tw6545324650690627985 : True := trivial
theorem holds.tw9327718836232418737 : True := trivial
theorem holds.tw14085268106739128817 : True := trivial
theorem holds.tw10645105620128953169 : True := trivial
theorem holds.tw16034146489351607153 : True := trivial
theorem holds.tw13338651292558784369 : True := trivial
theorem holds.tw5857869478962280401 : True := trivial
theorem holds.tw17453241218497372113 : True := trivial
theorem holds.tw576298715544257586 : True := trivial
theorem holds.tw1032644102275906610 : True := trivial
theorem holds.tw7400771686186127474 : True := trivial
theorem holds.tw5857794014393010482 : True := trivial
theorem holds.tw17087466662150396210 : True := trivial
theorem holds.tw8035951141280138642 : True := trivial
theorem holds.tw8778671856527934898 : True := trivial
theorem holds.tw1552857426587298226 : True := trivial
theorem holds.tw8903297777125119442 : True := trivial
theorem holds.tw14947864908287233490 : True := trivial
theorem holds.tw17642598502550569490 : True := trivial
theorem holds.tw15815842588268232306 : True := trivial
theorem holds.tw9766128667603022514 : True := trivial
theorem holds.tw8943767207682116370 : True := trivial
theorem holds.tw8789113547377566482 : True := trivial
theorem holds.tw4583756282420477746 : True := trivial
theorem holds.tw12774209864397607762 : True := trivial
theorem holds.tw12788872388335264594 : True := trivial
theorem holds.tw10840139340582571922 : True := trivial
theorem holds.tw5791938023122869331 : True := trivial
theorem holds.tw13108245259352980691 : True := trivial
theorem holds.tw17591727778206626035 : True := trivial
theorem holds.tw5498966250228494579 : True := trivial
theorem holds.tw17417429595627488627 : True := trivial
theorem holds.tw13341946137322399123 : True := trivial
theorem holds.tw5599412692616142259 : True := trivial
theorem holds.tw11067624635166319027 : True := trivial
theorem holds.tw15985840036639034899 : True := trivial
theorem holds.tw1639197193820686003 : True := trivial
theorem holds.tw16606521154662909651 : True := trivial
theorem holds.tw9260842090827677427 : True := trivial
theorem holds.tw15216533652830951187 : True := trivial
theorem holds.tw5350216910946226995 : True := trivial
theorem holds.tw1986877004247180340 : True := trivial
theorem holds.tw10280545108713110612 : True := trivial
theorem holds.tw4496467784121089108 : True := trivial
theorem holds.tw2972900019843275892 : True := trivial
theorem holds.tw8551410553514715252 : True := trivial
theorem holds.tw16497969686579978388 : True := trivial
theorem holds.tw14691085348537605332 : True := trivial
theorem holds.tw15402825562841796884 : True := trivial
theorem holds.tw18020473825885896052 : True := trivial
theorem holds.tw9321796208036801940 : True := trivial
theorem holds.tw4252685499439207924 : True := trivial
theorem holds.tw9367411864662104596 : True := trivial
theorem holds.tw2277698456845511444 : True := trivial
theorem holds.tw3529921767576855348 : True := trivial
theorem holds.tw15383290158734973844 : True := trivial
theorem holds.tw5252246860307943348 : True := trivial
theorem holds.tw5471403574791894133 : True := trivial
theorem holds.tw4717937361131159733 : True := trivial
theorem holds.tw16887932952891968693 : True := trivial
theorem holds.tw5295917329084666069 : True := trivial
theorem holds.tw2395783193375807797 : True := trivial
theorem holds.tw5323918697378788693 : True := trivial
theorem holds.tw12528141070781557109 : True := trivial
theorem holds.tw16451975095625300501 : True := trivial
theorem holds.tw16307742377514257941 : True := trivial
theorem holds.tw6424660084863691381 : True := trivial
theorem holds.tw4796666493748621973 : True := trivial
theorem holds.tw2752272122444995253 : True := trivial
theorem holds.tw13758948915013449397 : True := trivial
theorem holds.tw9143120035062812437 : True := trivial
theorem holds.tw17597196502641442581 : True := trivial
theorem holds.tw3083665863380995925 : True := trivial
theorem holds.tw5015485144833937494 : True := trivial
theorem holds.tw11866763835798034582 : True := trivial
theorem holds.tw254569045350018230 : True := trivial
theorem holds.tw9866653766423218390 : True := trivial
theorem holds.tw15464432741802594518 : True := trivial
theorem holds.tw4079574721724423606 : True := trivial
theorem holds.tw7885888744534978006 : True := trivial
theorem holds.tw13130249910395747862 : True := trivial
theorem holds.tw2156681307112010326 : True := trivial
theorem holds.tw4949047195023096438 : True := trivial
theorem holds.tw151567797773009622 : True := trivial
theorem holds.tw14404905868111484630 : True := trivial
theorem holds.tw11450275943994455990 : True := trivial
theorem holds.tw9157471666820141079 : True := trivial
theorem holds.tw2003794701753356343 : True := trivial
theorem holds.tw8115153917610635543 : True := trivial
theorem holds.tw16697607604324151607 : True := trivial
theorem holds.tw9250495785965993271 : True := trivial
theorem holds.tw96072713605637463 : True := trivial
theorem holds.tw2562329033357795767 : True := trivial
theorem holds.tw13384883100587833847 : True := trivial
theorem holds.tw18224010420261798391 : True := trivial
theorem holds.tw16568243084613897719 : True := trivial
theorem holds.tw4422276619278600727 : True := trivial
theorem holds.tw4043779546988386903 : True := trivial
theorem holds.tw7877780744568003191 : True := trivial
theorem holds.tw11111472982789046935 : True := trivial
theorem holds.tw12542415522573167287 : True := trivial
theorem holds.tw15733542881966949079 : True := trivial
theorem holds.tw8827755016177155863 : True := trivial
theorem holds.tw8868445881999480663 : True := trivial
theorem holds.tw5635654813233479639 : True := trivial
theorem holds.tw17858152450515298520 : True := trivial
theorem holds.tw9732041140710341944 : True := trivial
theorem holds.tw9160933379109621080 : True := trivial
theorem holds.tw14607219995997415800 : True := trivial
theorem holds.tw8143335708233088440 : True := trivial
theorem holds.tw1446027475299390936 : True := trivial
theorem holds.tw15659084048362614264 : True := trivial
theorem holds.tw14400433609042604536 : True := trivial
theorem holds.tw6816380694822836728 : True := trivial
theorem holds.tw16461013251600362008 : True := trivial
theorem holds.tw4197124852483764760 : True := trivial
theorem holds.tw15785218014132313688 : True := trivial
theorem holds.tw4921510776622977656 : True := trivial
theorem holds.tw1974762919298152056 : True := trivial
theorem holds.tw244668840739839672 : True := trivial
theorem holds.tw5112738896828158680 : True := trivial
theorem holds.tw4137054072099604216 : True := trivial
theorem holds.tw1466284255255076664 : True := trivial
theorem holds.tw9140063382869304120 : True := trivial
theorem holds.tw16260029586006496120 : True := trivial
theorem holds.tw10684964147190113176 : True := trivial
theorem holds.tw1316056555746827224 : True := trivial
theorem holds.tw18078616723997116376 : True := trivial
theorem holds.tw670720894780771353 : True := trivial
theorem holds.tw3339025504875072537 : True := trivial
theorem holds.tw13602253286356535353 : True := trivial
theorem holds.tw3117193011312037209 : True := trivial
theorem holds.tw13222035019132090745 : True := trivial
theorem holds.tw4905061745869718969 : True := trivial
theorem holds.tw12004703523718567385 : True := trivial
theorem holds.tw8944343764007091065 : True := trivial
theorem holds.tw13681623805105990553 : True := trivial
theorem holds.tw7942442253511216057 : True := trivial
theorem holds.tw10981351503976158137 : True := trivial
theorem holds.tw16500857126356320474 : True := trivial
theorem holds.tw8070350036930755802 : True := trivial
theorem holds.tw10494946348260405530 : True := trivial
theorem holds.tw14777700561071354170 : True := trivial
theorem holds.tw4532548537324856634 : True := trivial
theorem holds.tw14387954076880322906 : True := trivial
theorem holds.tw10698829266838348154 : True := trivial
theorem holds.tw14635519672683665818 : True := trivial
theorem holds.tw7798976556582896058 : True := trivial
theorem holds.tw11899092608841805274 : True := trivial
theorem holds.tw14411328915609312922 : True := trivial
theorem holds.tw2395109189467087578 : True := trivial
theorem holds.tw8684541073956307770 : True := trivial
theorem holds.tw11413208387583891290 : True := trivial
theorem holds.tw11319453509113102234 : True := trivial
theorem holds.tw14247145606103189434 : True := trivial
theorem holds.tw17631178891982236634 : True := trivial
theorem holds.tw12553914923479104506 : True := trivial
theorem holds.tw10447927361281507451 : True := trivial
theorem holds.tw1569810199879761147 : True := trivial
theorem holds.tw8413133151647880539 : True := trivial
theorem holds.tw16179787414501680475 : True := trivial
theorem holds.tw1882270145967814011 : True := trivial
theorem holds.tw10269081998898121243 : True := trivial
theorem holds.tw12733908048491186811 : True := trivial
theorem holds.tw2642592217982111355 : True := trivial
theorem holds.tw15814798929938293467 : True := trivial
theorem holds.tw11723004889028688699 : True := trivial
theorem holds.tw5915465848944024539 : True := trivial
theorem holds.tw4636335402390110268 : True := trivial
theorem holds.tw2781561513384061212 : True := trivial
theorem holds.tw10274680400919065884 : True := trivial
theorem holds.tw15203487316939043196 : True := trivial
theorem holds.tw16141144775947785660 : True := trivial
theorem holds.tw10009309266167291388 : True := trivial
theorem holds.tw13002855754428957212 : True := trivial
theorem holds.tw13651502964188933756 : True := trivial
theorem holds.tw14642846902033847964 : True := trivial
theorem holds.tw7399101569421298396 : True := trivial
theorem holds.tw13757568721421367004 : True := trivial
theorem holds.tw142377125942736700 : True := trivial
theorem holds.tw3937267528351423324 : True := trivial
theorem holds.tw10531532615022067580 : True := trivial
theorem holds.tw17180457848445815676 : True := trivial
theorem holds.tw16315053957116525436 : True := trivial
theorem holds.tw10705619171732726748 : True := trivial
theorem holds.tw17779774989671706653 : True := trivial
theorem holds.tw11612728935029869629 : True := trivial
theorem holds.tw8575535491628544125 : True := trivial
theorem holds.tw9370115536473471133 : True := trivial
theorem holds.tw8277820557490507997 : True := trivial
theorem holds.tw8217837808669207805 : True := trivial
theorem holds.tw17254660705983429885 : True := trivial
theorem holds.tw4529002996912422141 : True := trivial
theorem holds.tw15663057623668237757 : True := trivial
theorem holds.tw18193256452927958525 : True := trivial
theorem holds.tw15566814792845459997 : True := trivial
theorem holds.tw4753448620645791293 : True := trivial
theorem holds.tw10953125311028157021 : True := trivial
theorem holds.tw8105830805119860317 : True := trivial
theorem holds.tw4952593789767209597 : True := trivial
theorem holds.tw7074641181814816541 : True := trivial
theorem holds.tw7813717698363659101 : True := trivial
theorem holds.tw16878984735049331645 : True := trivial
theorem holds.tw820627826665183454 : True := trivial
theorem holds.tw14786066558164337950 : True := trivial
theorem holds.tw6307330118970589470 : True := trivial
theorem holds.tw9930548314228155742 : True := trivial
theorem holds.tw1389151227800987198 : True := trivial
theorem holds.tw6489310206099298910 : True := trivial
theorem holds.tw10853043219271619230 : True := trivial
theorem holds.tw14571696787620697854 : True := trivial
theorem holds.tw2041457743892144894 : True := trivial
theorem holds.tw10292701021901942622 : True := trivial
theorem holds.tw3626213265524300766 : True := trivial
theorem holds.tw9816476011544392670 : True := trivial
theorem holds.tw9245723823536211039 : True := trivial
theorem holds.tw14786868411472786527 : True := trivial
theorem holds.tw3092724735428445279 : True := trivial
theorem holds.tw13208604148985916543 : True := trivial
theorem holds.tw11619669790576578751 : True := trivial
theorem holds.tw7873036012977236159 : True := trivial
theorem holds.tw9188266559522036927 : True := trivial
theorem holds.tw14747351113905286367 : True := trivial
theorem holds.tw1876284267304334591 : True := trivial
theorem holds.tw1213666046027356511 : True := trivial
theorem holds.tw949623864930693503 : True := trivial
theorem holds.tw4374827463496512255 : True := trivial
theorem holds.tw10677865647760817919 : True := trivial
theorem holds.tw9569093901706499007 : True := trivial
theorem holds.tw12839035562462549643 : True := trivial
theorem holds.tw1955365263907649243 : True := trivial
end Mine
namespace Mine
open PySem PySem.W PyProof.Rows
set_option maxRecDepth 100000 in
set_option maxHeartbeats 8000000 in
theorem holds : PySem.Challenge.rw_pf0103_01.Holds := by
  w_on
  o_law
  k_head
  case hw => w_witness2
  exact law_walk (fun P => ⟨by kernel_rfl, by kernel_rfl, by kernel_rfl, by kernel_rfl, by kernel_rfl, by kernel_rfl, by kernel_rfl, by kernel_rfl, by kernel_rfl, by kernel_rfl, by kernel_rfl, by kernel_rfl, by kernel_rfl, by kernel_rfl, by kernel_rfl⟩) pure_ rfl
end Mine

theorem PySem.Challenge.cw_pf0103_01_holds : PySem.Challenge.rw_pf0103_01.Holds :=
  Mine.holds
