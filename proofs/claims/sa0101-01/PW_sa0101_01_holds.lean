import PyProof.Rows.All
import Wide.All
import Open.Line
import Wide.FinOn
import PySem.Challenge.RW_sa0101_01

set_option Elab.async false
set_option bootstrap.genMatcherCode false

namespace Mine
open PySem

/-- what a value of the program stands for -/
inductive V where
  | int (i : Int)
  | bool (b : Bool)
  | none
  | list (xs : List V)
  | tup (xs : List V)
  | rng (lo hi : Int)
  | ref (k : Nat)
  | unb

abbrev Store := List (List V)

inductive Op2 where
  | add | sub | mul | fdiv | fmod | pow
  deriving DecidableEq

inductive Cm where
  | eq | ne | lt | le | gt | ge
  deriving DecidableEq

/-- what a for goes over: a list or a range, enumerate(..), zip(.., ..) -/
inductive Sk where
  | plain | enum | zip
  deriving DecidableEq

inductive E where
  | int (i : Int)
  | none
  | bool (b : Bool)
  | var (i : Nat)
  | bin (op : Op2) (a b : E)
  | neg (a : E)
  | cmp (op : Cm) (a b : E)
  | isNone (a : E)
  | and (a b : E)
  | or (a b : E)
  | ite (c a b : E)
  | nil
  | single (a : E)
  | mpair (a b : E)
  | tup2 (a b : E)
  | tup3 (a b c : E)
  | tup4 (a b c d : E)
  | len (a : E)
  | abs (a : E)
  | max (a b : E)
  | lst (a : E)
  | mlst (a : E)
  | toInt (a : E)
  | range1 (a : E)
  | range2 (a b : E)
  | call1 (f : String) (a : E)
  | call2 (f : String) (a b : E)
  | call3 (f : String) (a b c : E)
  | item (a i : E)
  | upto (a i : E)
  | from1 (a : E)
  | comp (mu : Bool) (two : Bool) (sk : Sk) (caps : List Nat) (src src2 cond elt : E)
  | pop0 (a : E)

inductive S where
  | skip
  | seq (a b : S)
  | asg (i : Nat) (e : E)
  | asgC (i : Nat) (e : E)
  | asgT (is : List Nat) (e : E)
  | asgR (is : List Nat) (e : E)
  | setI (o i e : E)
  | swap (o i o' i' e : E)
  | aug (i : Nat) (op : Op2) (e : E)
  | expr (e : E)
  | ret (e : E)
  | ifS (c : E) (a b : S)
  | forS (tgt : List Nat) (sk : Sk) (src src2 : E) (body : S)
  | whileS (c : E) (body : S)
  | stop

inductive Fl where
  | next
  | ret (v : V)

noncomputable def lim : Nat := 1000000
noncomputable def fits (i : Int) : Bool := decide (i.natAbs < 2 ^ 2000)

abbrev Orc := String → List V → Store → Option (V × Store)

noncomputable def binV (op : Op2) (a b : V) : Option V :=
  match op, a, b with
  | .add, .int x, .int y => some (.int (x + y))
  | .add, .list xs, .list ys => if xs.length + ys.length ≤ lim then some (.list (xs ++ ys)) else Option.none
  | .sub, .int x, .int y => some (.int (x - y))
  | .mul, .int x, .int y => if fits x && fits y then some (.int (x * y)) else Option.none
  | .mul, .list xs, .int k => if xs.length = 1 ∧ k ≤ (lim : Int) ∧ -(lim : Int) ≤ k then some (.list (List.replicate k.toNat (xs.getD 0 .unb))) else Option.none
  | .fdiv, .int x, .int y => if y ≠ 0 ∧ fits x = true ∧ fits y = true then some (.int (x.fdiv y)) else Option.none
  | .fmod, .int x, .int y => if y ≠ 0 then some (.int (x.fmod y)) else Option.none
  | .pow, .int x, .int n => if 0 ≤ n ∧ n ≤ 1000 ∧ fits x = true then some (.int (x ^ n.toNat)) else Option.none
  | _, _, _ => Option.none

noncomputable def cmI (op : Cm) (x y : Int) : Bool :=
  match op with
  | .eq => x == y
  | .ne => x != y
  | .lt => decide (x < y)
  | .le => decide (x ≤ y)
  | .gt => decide (x > y)
  | .ge => decide (x ≥ y)

noncomputable def items? (μ : Store) : V → Option (List V)
  | .list xs => some xs
  | .ref k => μ[k]?
  | _ => Option.none

noncomputable def cmV (μ : Store) (op : Cm) (a b : V) : Option Bool :=
  match op, a, b with
  | op, .int x, .int y => some (cmI op x y)
  | .eq, a, .list [] => (items? μ a).map List.isEmpty
  | .ne, a, .list [] => (items? μ a).map fun xs => !xs.isEmpty
  | _, _, _ => Option.none

noncomputable def isNoneV : V → Option Bool
  | .none => some true
  | .int _ => some false
  | _ => Option.none

noncomputable def itemV (xs : List V) (i : Int) : Option V :=
  if xs.length ≤ lim then
    if 0 ≤ i then xs[i.toNat]?
    else if -(xs.length : Int) ≤ i then xs[(i + xs.length).toNat]?
    else Option.none
  else Option.none

/-- what a for takes in turn -/
noncomputable def turns? : V → Option (List V)
  | .list xs => if xs.length ≤ lim then some xs else Option.none
  | .rng lo hi => if -(lim : Int) ≤ lo ∧ lo ≤ (lim : Int) ∧ -(lim : Int) ≤ hi ∧ hi ≤ (lim : Int) then some ((List.range (hi - lo).toNat).map fun i : Nat => V.int (lo + (i : Int))) else Option.none
  | _ => Option.none

noncomputable def compL (f : V → Store → Option (Option V × Store)) : List V → Store → Option (List V × Store)
  | [], μ => some ([], μ)
  | x :: r, μ => do
    let (y, μ₁) ← f x μ
    let (ys, μ₂) ← compL f r μ₁
    some (y.toList ++ ys, μ₂)

noncomputable def tgtV (two : Bool) (x : V) : Option (List V) :=
  if two then (match x with | .tup [a, b] => some [a, b] | _ => Option.none) else some [x]

noncomputable def mkL (mu : Bool) (xs : List V) (μ : Store) : Option (V × Store) :=
  if mu then some (.ref μ.length, μ ++ [xs]) else some (.list xs, μ)

noncomputable def zipV : List V → List V → List V
  | a :: r, b :: q => .tup [a, b] :: zipV r q
  | _, _ => []
noncomputable def enumV (n : Int) : List V → List V
  | [] => []
  | a :: r => .tup [.int n, a] :: enumV (n + 1) r

noncomputable def srcV (sk : Sk) (x y : V) : Option (List V) :=
  match sk with
  | .plain => turns? x
  | .enum => (match x with
    | .list xs => if xs.length ≤ lim then some (enumV 0 xs) else Option.none
    | _ => Option.none)
  | .zip => (match x, y with
    | .list xs, .list ys => if xs.length ≤ lim ∧ ys.length ≤ lim then some (zipV xs ys) else Option.none
    | _, _ => Option.none)

noncomputable def ev (orc : Orc) : E → List V → Store → Option (V × Store)
  | .int i, _, μ => some (.int i, μ)
  | .none, _, μ => some (.none, μ)
  | .bool b, _, μ => some (.bool b, μ)
  | .var i, σ, μ => (match σ[i]? with
      | some .unb => Option.none
      | some v => some (v, μ)
      | Option.none => Option.none)
  | .bin op a b, σ, μ => do
    let (x, μ) ← ev orc a σ μ
    let (y, μ) ← ev orc b σ μ
    let r ← binV op x y
    some (r, μ)
  | .neg a, σ, μ => do
    let (x, μ) ← ev orc a σ μ
    match x with
    | .int i => some (.int (-i), μ)
    | _ => Option.none
  | .cmp op a b, σ, μ => do
    let (x, μ) ← ev orc a σ μ
    let (y, μ) ← ev orc b σ μ
    let r ← cmV μ op x y
    some (.bool r, μ)
  | .isNone a, σ, μ => do
    let (x, μ) ← ev orc a σ μ
    let r ← isNoneV x
    some (.bool r, μ)
  | .and a b, σ, μ => do
    let (x, μ) ← ev orc a σ μ
    match x with
    | .bool true => ev orc b σ μ
    | .bool false => some (.bool false, μ)
    | _ => Option.none
  | .or a b, σ, μ => do
    let (x, μ) ← ev orc a σ μ
    match x with
    | .bool true => some (.bool true, μ)
    | .bool false => ev orc b σ μ
    | _ => Option.none
  | .ite c a b, σ, μ => do
    let (x, μ) ← ev orc c σ μ
    match x with
    | .bool true => ev orc a σ μ
    | .bool false => ev orc b σ μ
    | _ => Option.none
  | .nil, _, μ => some (.list [], μ)
  | .single a, σ, μ => do
    let (x, μ) ← ev orc a σ μ
    some (.list [x], μ)
  | .mpair a b, σ, μ => do
    let (x, μ) ← ev orc a σ μ
    let (y, μ) ← ev orc b σ μ
    mkL true [x, y] μ
  | .tup2 a b, σ, μ => do
    let (x, μ) ← ev orc a σ μ
    let (y, μ) ← ev orc b σ μ
    some (.tup [x, y], μ)
  | .tup3 a b c, σ, μ => do
    let (x, μ) ← ev orc a σ μ
    let (y, μ) ← ev orc b σ μ
    let (z, μ) ← ev orc c σ μ
    some (.tup [x, y, z], μ)
  | .tup4 a b c d, σ, μ => do
    let (x, μ) ← ev orc a σ μ
    let (y, μ) ← ev orc b σ μ
    let (z, μ) ← ev orc c σ μ
    let (u, μ) ← ev orc d σ μ
    some (.tup [x, y, z, u], μ)
  | .len a, σ, μ => do
    let (x, μ) ← ev orc a σ μ
    let xs ← items? μ x
    if xs.length ≤ lim then some (.int xs.length, μ) else Option.none
  | .abs a, σ, μ => do
    let (x, μ) ← ev orc a σ μ
    match x with
    | .int i => some (.int (if i < 0 then -i else i), μ)
    | _ => Option.none
  | .max a b, σ, μ => do
    let (x, μ) ← ev orc a σ μ
    let (y, μ) ← ev orc b σ μ
    match x, y with
    | .int i, .int j => some (.int (if j > i then j else i), μ)
    | _, _ => Option.none
  | .lst a, σ, μ => do
    let (x, μ) ← ev orc a σ μ
    match x with
    | .list xs => if xs.length ≤ lim then some (.list xs, μ) else Option.none
    | _ => Option.none
  | .mlst a, σ, μ => do
    let (x, μ) ← ev orc a σ μ
    match x with
    | .list xs => if xs.length ≤ lim then mkL true xs μ else Option.none
    | _ => Option.none
  | .toInt a, σ, μ => do
    let (x, μ) ← ev orc a σ μ
    match x with
    | .int i => some (.int i, μ)
    | _ => Option.none
  | .range1 a, σ, μ => do
    let (x, μ) ← ev orc a σ μ
    match x with
    | .int i => some (.rng 0 i, μ)
    | _ => Option.none
  | .range2 a b, σ, μ => do
    let (x, μ) ← ev orc a σ μ
    let (y, μ) ← ev orc b σ μ
    match x, y with
    | .int i, .int j => some (.rng i j, μ)
    | _, _ => Option.none
  | .call1 f a, σ, μ => do
    let (x, μ) ← ev orc a σ μ
    orc f [x] μ
  | .call2 f a b, σ, μ => do
    let (x, μ) ← ev orc a σ μ
    let (y, μ) ← ev orc b σ μ
    orc f [x, y] μ
  | .call3 f a b c, σ, μ => do
    let (x, μ) ← ev orc a σ μ
    let (y, μ) ← ev orc b σ μ
    let (z, μ) ← ev orc c σ μ
    orc f [x, y, z] μ
  | .item a i, σ, μ => do
    let (x, μ) ← ev orc a σ μ
    let (y, μ) ← ev orc i σ μ
    match y with
    | .int k => do
      let xs ← items? μ x
      let r ← itemV xs k
      some (r, μ)
    | _ => Option.none
  | .upto a i, σ, μ => do
    let (x, μ) ← ev orc a σ μ
    let (y, μ) ← ev orc i σ μ
    match x, y with
    | .list xs, .int k => if 0 ≤ k ∧ k ≤ (lim : Int) ∧ xs.length ≤ lim then some (.list (xs.take k.toNat), μ) else Option.none
    | _, _ => Option.none
  | .from1 a, σ, μ => do
    let (x, μ) ← ev orc a σ μ
    match x with
    | .list xs => if xs.length ≤ lim then some (.list (xs.drop 1), μ) else Option.none
    | _ => Option.none
  | .comp mu two sk caps src src2 cond elt, σ, μ => do
    let (x, μ) ← ev orc src σ μ
    let (x', μ) ← ev orc src2 σ μ
    let its ← srcV sk x x'
    let base := caps.map fun i => σ.getD i .unb
    let (ys, μ) ← compL (fun it μ => do
      let t ← tgtV two it
      let (c, μ) ← ev orc cond (base ++ t) μ
      match c with
      | .bool true => do
        let (y, μ) ← ev orc elt (base ++ t) μ
        some (some y, μ)
      | .bool false => some (Option.none, μ)
      | _ => Option.none) its μ
    mkL mu ys μ
  | .pop0 a, σ, μ => do
    let (x, μ) ← ev orc a σ μ
    match x with
    | .ref k => (match μ[k]? with
      | some (y :: ys) => if ys.length ≤ lim then some (y, μ.set k ys) else Option.none
      | _ => Option.none)
    | _ => Option.none

noncomputable def setAll : List Nat → List V → List V → Option (List V)
  | [], [], σ => some σ
  | i :: is, v :: vs, σ => if i < σ.length then setAll is vs (σ.set i v) else Option.none
  | _, _, _ => Option.none

noncomputable def setSt (μ : Store) (o i v : V) : Option Store :=
  match o, i with
  | .ref k, .int n => (match μ[k]? with
    | some xs => if 0 ≤ n ∧ n < xs.length ∧ xs.length ≤ lim then some (μ.set k (xs.set n.toNat v)) else Option.none
    | _ => Option.none)
  | _, _ => Option.none

noncomputable def tgtS (tgt : List Nat) (x : V) (σ : List V) : Option (List V) :=
  match tgt, x with
  | [i], x => setAll [i] [x] σ
  | [i, j], .tup [a, b] => setAll [i, j] [a, b] σ
  | _, _ => Option.none

noncomputable def forL (tgt : List Nat) (f : List V → Store → Option (List V × Store × Fl)) : List V → List V → Store → Option (List V × Store × Fl)
  | [], σ, μ => some (σ, μ, .next)
  | x :: r, σ, μ => do
    let σ₁ ← tgtS tgt x σ
    let (σ₂, μ₂, fl) ← f σ₁ μ
    match fl with
    | .next => forL tgt f r σ₂ μ₂
    | .ret v => some (σ₂, μ₂, .ret v)

noncomputable def whileL (t : List V → Store → Option (V × Store)) (f : List V → Store → Option (List V × Store × Fl)) : Nat → List V → Store → Option (List V × Store × Fl)
  | 0, _, _ => Option.none
  | n + 1, σ, μ => do
    let (c, μ₁) ← t σ μ
    match c with
    | .bool true => do
      let (σ₂, μ₂, fl) ← f σ μ₁
      match fl with
      | .next => whileL t f n σ₂ μ₂
      | .ret v => some (σ₂, μ₂, .ret v)
    | .bool false => some (σ, μ₁, .next)
    | _ => Option.none

noncomputable def ex (orc : Orc) (fuel : Nat) : S → List V → Store → Option (List V × Store × Fl)
  | .skip, σ, μ => some (σ, μ, .next)
  | .seq a b, σ, μ => do
    let (σ, μ, fl) ← ex orc fuel a σ μ
    match fl with
    | .next => ex orc fuel b σ μ
    | .ret v => some (σ, μ, .ret v)
  | .asg i e, σ, μ => do
    let (v, μ) ← ev orc e σ μ
    let σ ← setAll [i] [v] σ
    some (σ, μ, .next)
  | .asgC i e, σ, μ => do
    let (v, μ) ← ev orc e σ μ
    let σ ← setAll [i] [v] σ
    some (σ, μ, .next)
  | .asgT is e, σ, μ => do
    let (v, μ) ← ev orc e σ μ
    match v with
    | .tup vs => do
      let σ ← setAll is vs σ
      some (σ, μ, .next)
    | _ => Option.none
  | .asgR is e, σ, μ => do
    let (v, μ) ← ev orc e σ μ
    match v with
    | .tup vs => do
      let σ ← setAll is.reverse vs.reverse σ
      some (σ, μ, .next)
    | _ => Option.none
  | .setI o i e, σ, μ => do
    let (v, μ) ← ev orc e σ μ
    let (x, μ) ← ev orc o σ μ
    let (y, μ) ← ev orc i σ μ
    let μ ← setSt μ x y v
    some (σ, μ, .next)
  | .swap o i o' i' e, σ, μ => do
    let (v, μ) ← ev orc e σ μ
    match v with
    | .tup [a, b] => do
      let (x, μ) ← ev orc o σ μ
      let (y, μ) ← ev orc i σ μ
      let μ ← setSt μ x y a
      let (x, μ) ← ev orc o' σ μ
      let (y, μ) ← ev orc i' σ μ
      let μ ← setSt μ x y b
      some (σ, μ, .next)
    | _ => Option.none
  | .aug i op e, σ, μ => do
    let (x, μ) ← ev orc (.var i) σ μ
    let (y, μ) ← ev orc e σ μ
    match x, y with
    | .int _, .int _ => do
      let r ← binV op x y
      let σ ← setAll [i] [r] σ
      some (σ, μ, .next)
    | _, _ => Option.none
  | .expr e, σ, μ => do
    let (v, μ) ← ev orc e σ μ
    match v with
    | .none => some (σ, μ, .next)
    | _ => Option.none
  | .ret e, σ, μ => do
    let (v, μ) ← ev orc e σ μ
    some (σ, μ, .ret v)
  | .ifS c a b, σ, μ => do
    let (v, μ) ← ev orc c σ μ
    match v with
    | .bool true => ex orc fuel a σ μ
    | .bool false => ex orc fuel b σ μ
    | _ => Option.none
  | .forS tgt sk src src2 body, σ, μ => do
    let (x, μ) ← ev orc src σ μ
    let (x', μ) ← ev orc src2 σ μ
    let its ← srcV sk x x'
    forL tgt (fun σ μ => ex orc fuel body σ μ) its σ μ
  | .whileS c body, σ, μ => whileL (fun σ μ => ev orc c σ μ) (fun σ μ => ex orc fuel body σ μ) fuel σ μ
  | .stop, _, _ => Option.none

/-- a def: how many parameters, how many names in all, its body -/
structure Fn where
  name : String
  params : List String
  locals : List String
  body : S

noncomputable def retOf : Fl → V
  | .next => .none
  | .ret v => v

noncomputable def runFn (orc : Orc) (fuel : Nat) (f : Fn) (args : List V) (μ : Store) : Option (V × Store) := do
  if args.length = f.params.length then
    let (_, μ, fl) ← ex orc fuel f.body (args ++ f.locals.map fun _ => .unb) μ
    some (retOf fl, μ)
  else Option.none

end Mine

namespace Mine
open PySem PySem.Calls PyProof.Rows PySem.W
set_option maxRecDepth 100000
set_option autoImplicit false

/-- objects that no frame turns -/
noncomputable def ValObj (o : Obj) : Prop := (∀ es n, o.data ≠ .dict es n) ∧ ∀ v, o.data ≠ .cell v

/-- the store's places, and places that no value may hold -/
structure Pl where
  l : List Addr
  hd : List Addr
noncomputable def Pl.off (M : Pl) (a : Addr) : Prop := a ∉ M.l ∧ a ∉ M.hd

mutual
noncomputable def VR (mt : Pl) (h : Heap) : V → Value → Prop
  | .int i, v => ∃ t, v = .int i t
  | .bool b, v => v = .bool b
  | .none, v => v = .none
  | .list xs, v => ∃ (a : Addr) (vs : List Value), v = .ref a ∧ mt.off a ∧ h.PlainList a vs.toArray ∧ VRs mt h xs vs
  | .tup xs, v => ∃ (a : Addr) (vs : List Value), v = .ref a ∧ mt.off a ∧ h.IsTuple a vs.toArray ∧ VRs mt h xs vs
  | .rng lo hi, v => ∃ (a : Addr) (t u w : Tok), v = .ref a ∧ mt.off a ∧ IsRange h a lo hi 1 t u w
  | .ref k, v => ∃ a : Addr, v = .ref a ∧ mt.l[k]? = some a
  | .unb, _ => False
noncomputable def VRs (mt : Pl) (h : Heap) : List V → List Value → Prop
  | [], vs => vs = []
  | x :: xs, vs => ∃ (v : Value) (r : List Value), vs = v :: r ∧ VR mt h x v ∧ VRs mt h xs r
end

theorem VRs.length {mt : Pl} {h : Heap} : ∀ {xs : List V} {vs : List Value}, VRs mt h xs vs → vs.length = xs.length
  | [], _, e => by rw [VRs] at e; subst e; rfl
  | x :: xs, _, e => by
    rw [VRs] at e
    obtain ⟨v, r, rfl, _, h2⟩ := e
    rw [List.length_cons, List.length_cons, VRs.length h2]
theorem VRs.cons {mt : Pl} {h : Heap} {x : V} {xs : List V} {v : Value} {vs : List Value} (a : VR mt h x v) (b : VRs mt h xs vs) : VRs mt h (x :: xs) (v :: vs) := by
  rw [VRs]; exact ⟨v, vs, rfl, a, b⟩
theorem VRs.nil {mt : Pl} {h : Heap} : VRs mt h [] [] := by rw [VRs]
theorem VRs.uncons {mt : Pl} {h : Heap} {x : V} {xs : List V} {vs : List Value} (a : VRs mt h (x :: xs) vs) : ∃ v r, vs = v :: r ∧ VR mt h x v ∧ VRs mt h xs r := by
  rw [VRs] at a; exact a
theorem VRs.unnil {mt : Pl} {h : Heap} {vs : List Value} (a : VRs mt h [] vs) : vs = [] := by rw [VRs] at a; exact a
theorem VRs.append {mt : Pl} {h : Heap} : ∀ {xs ys : List V} {vs ws : List Value}, VRs mt h xs vs → VRs mt h ys ws → VRs mt h (xs ++ ys) (vs ++ ws)
  | [], _, _, _, a, b => by rw [a.unnil]; exact b
  | x :: xs, _, _, _, a, b => by
    obtain ⟨v, r, rfl, h1, h2⟩ := a.uncons
    exact VRs.cons h1 (VRs.append h2 b)
theorem VRs.get {mt : Pl} {h : Heap} : ∀ {xs : List V} {vs : List Value} {i : Nat} {x : V}, VRs mt h xs vs → xs[i]? = some x → ∃ v, vs[i]? = some v ∧ VR mt h x v
  | [], _, _, _, _, e => by simp at e
  | y :: xs, _, 0, x, a, e => by
    obtain ⟨v, r, rfl, h1, _⟩ := a.uncons
    simp at e; subst e
    exact ⟨v, rfl, h1⟩
  | y :: xs, _, i + 1, x, a, e => by
    obtain ⟨v, r, rfl, _, h2⟩ := a.uncons
    simp at e
    obtain ⟨w, e1, e2⟩ := VRs.get h2 e
    exact ⟨w, by simpa using e1, e2⟩
theorem VRs.take {mt : Pl} {h : Heap} : ∀ {xs : List V} {vs : List Value} (n : Nat), VRs mt h xs vs → VRs mt h (xs.take n) (vs.take n)
  | _, _, 0, _ => VRs.nil
  | [], _, n + 1, a => by rw [a.unnil]; exact VRs.nil
  | x :: xs, _, n + 1, a => by
    obtain ⟨v, r, rfl, h1, h2⟩ := a.uncons
    exact VRs.cons h1 (VRs.take n h2)
theorem VRs.drop {mt : Pl} {h : Heap} : ∀ {xs : List V} {vs : List Value} (n : Nat), VRs mt h xs vs → VRs mt h (xs.drop n) (vs.drop n)
  | _, _, 0, a => a
  | [], _, n + 1, a => by rw [a.unnil]; exact VRs.nil
  | x :: xs, _, n + 1, a => by
    obtain ⟨v, r, rfl, h1, h2⟩ := a.uncons
    exact VRs.drop n h2
theorem VRs.set {mt : Pl} {h : Heap} {y : V} {w : Value} (b : VR mt h y w) : ∀ {xs : List V} {vs : List Value} (n : Nat), VRs mt h xs vs → VRs mt h (xs.set n y) (vs.set n w)
  | [], _, n, a => by rw [a.unnil]; exact VRs.nil
  | x :: xs, _, 0, a => by
    obtain ⟨v, r, rfl, h1, h2⟩ := a.uncons
    exact VRs.cons b h2
  | x :: xs, _, n + 1, a => by
    obtain ⟨v, r, rfl, h1, h2⟩ := a.uncons
    exact VRs.cons h1 (VRs.set b n h2)
theorem VRs.one {mt : Pl} {h : Heap} {x : V} {v : Value} (a : VR mt h x v) : VRs mt h [x] [v] := VRs.cons a VRs.nil
theorem VRs.replicate {mt : Pl} {h : Heap} {x : V} {v : Value} (a : VR mt h x v) : ∀ n, VRs mt h (List.replicate n x) (List.replicate n v)
  | 0 => VRs.nil
  | n + 1 => VRs.cons a (VRs.replicate a n)

abbrev None₀ : Addr → Prop := fun _ => False
/-- what a step leaves of the heap: X are the frame's own places -/
structure Ext (X : Addr → Prop) (mt : Pl) (h : Heap) (mt' : Pl) (h' : Heap) : Prop where
  keep : ∀ b o, h.get? b = some o → b ∉ mt.l → ¬ X b → h'.get? b = some o
  dom : ∀ b, h.get? b ≠ none → h'.get? b ≠ none
  idx : ∀ (k : Nat) (a : Addr), mt.l[k]? = some a → mt'.l[k]? = some a
  fresh : ∀ a ∈ mt'.l, a ∈ mt.l ∨ h.get? a = none
  hide : mt'.hd = mt.hd

/-- the places X are no values' places -/
noncomputable def Apart (X : Addr → Prop) (mt : Pl) (h : Heap) : Prop := ∀ b, X b → b ∈ mt.hd ∨ ∀ o, h.get? b = some o → ¬ ValObj o

theorem Ext.refl {X : Addr → Prop} {mt : Pl} {h : Heap} : Ext X mt h mt h := ⟨fun _ _ e _ _ => e, fun _ e => e, fun _ _ e => e, fun _ e => .inl e, rfl⟩
theorem Ext.mono {X Y : Addr → Prop} {mt mt' : Pl} {h h' : Heap} (x : Ext X mt h mt' h') (s : ∀ a, X a → Y a) : Ext Y mt h mt' h' :=
  ⟨fun b o e n m => x.keep b o e n fun q => m (s b q), x.dom, x.idx, x.fresh, x.hide⟩
theorem mem_of_idx {mt mt' : Pl} (h : ∀ (k : Nat) (a : Addr), mt.l[k]? = some a → mt'.l[k]? = some a) {a : Addr} (ha : a ∈ mt.l) : a ∈ mt'.l := by
  obtain ⟨k, hk⟩ := List.mem_iff_getElem?.mp ha
  exact List.mem_of_getElem? (h k a hk)
theorem Ext.nmem {X : Addr → Prop} {mt mt' : Pl} {h h' : Heap} (x : Ext X mt h mt' h') {b : Addr} {o : Obj} (e : h.get? b = some o) (n : b ∉ mt.l) : b ∉ mt'.l := fun q => by
  rcases x.fresh b q with q | q
  · exact n q
  · rw [e] at q; cases q
theorem Ext.offs {X : Addr → Prop} {mt mt' : Pl} {h h' : Heap} (x : Ext X mt h mt' h') {b : Addr} {o : Obj} (e : h.get? b = some o) (n : mt.off b) : mt'.off b := ⟨x.nmem e n.1, by rw [x.hide]; exact n.2⟩
theorem Ext.trans {X : Addr → Prop} {mt mt' mt'' : Pl} {h h' h'' : Heap} (x : Ext X mt h mt' h') (y : Ext X mt' h' mt'' h'') : Ext X mt h mt'' h'' where
  keep b o e n m := y.keep b o (x.keep b o e n m) (x.nmem e n) m
  dom b e := y.dom b (x.dom b e)
  idx k a e := y.idx k a (x.idx k a e)
  fresh a ha := by
    rcases y.fresh a ha with q | q
    · exact x.fresh a q
    · refine .inr ?_
      cases e : h.get? a with
      | none => rfl
      | some o => exact absurd q (x.dom a (by rw [e]; exact fun q => by cases q))
  hide := y.hide.trans x.hide
/-- a full keeping of the heap -/
theorem Ext.of_keep {X : Addr → Prop} {mt : Pl} {h h' : Heap} (k : ∀ b o, h.get? b = some o → h'.get? b = some o) : Ext X mt h mt h' where
  keep b o e _ _ := k b o e
  dom b e q := by
    cases e' : h.get? b with
    | none => exact e e'
    | some o => rw [k b o e'] at q; cases q
  idx _ _ e := e
  fresh _ e := .inl e
  hide := rfl
theorem Ext.of_same {X : Addr → Prop} {mt : Pl} {h h' : Heap} {a : Addr} (hs : Heap.SameBut a h h') (ha : X a ∨ a ∈ mt.l) (hd : h'.get? a ≠ none) : Ext X mt h mt h' where
  keep b o e n m := (hs.2 b fun q => by subst q; rcases ha with q | q; exact m q; exact n q).trans e
  dom b e := by
    by_cases q : b = a
    · rw [q]; exact hd
    · rw [hs.2 b q]; exact e
  idx _ _ e := e
  fresh _ e := .inl e
  hide := rfl

theorem plain_val {h : Heap} {a : Addr} {its : Array Value} (x : h.PlainList a its) : ∃ o, h.get? a = some o ∧ ValObj o := by
  obtain ⟨n, e⟩ := x
  exact ⟨_, e, ⟨(fun _ _ q => by cases q), (fun _ q => by cases q)⟩⟩
theorem list_val {h : Heap} {a : Addr} {its : Array Value} (x : h.IsList a its) : ∃ o, h.get? a = some o ∧ ValObj o := by
  obtain ⟨o, e, _, n, d⟩ := x
  exact ⟨_, e, ⟨(fun _ _ q => by rw [d] at q; cases q), (fun _ q => by rw [d] at q; cases q)⟩⟩
theorem tuple_val {h : Heap} {a : Addr} {its : Array Value} (x : h.IsTuple a its) : ∃ o, h.get? a = some o ∧ ValObj o := by
  obtain ⟨o, e, _, n, d⟩ := x
  exact ⟨_, e, ⟨(fun _ _ q => by rw [d] at q; cases q), (fun _ q => by rw [d] at q; cases q)⟩⟩

mutual
theorem VR.ext {X : Addr → Prop} {mt mt' : Pl} {h h' : Heap} (x : Ext X mt h mt' h') (ap : Apart X mt h) : ∀ (v : V) {w : Value}, VR mt h v w → VR mt' h' v w
  | .int _, _, e => by rw [VR] at e ⊢; exact e
  | .bool _, _, e => by rw [VR] at e ⊢; exact e
  | .none, _, e => by rw [VR] at e ⊢; exact e
  | .list xs, _, e => by
    rw [VR] at e ⊢
    obtain ⟨a, vs, e1, e2, e3, e4⟩ := e
    obtain ⟨o, q1, q2⟩ := plain_val e3
    exact ⟨a, vs, e1, x.offs q1 e2, e3.at fun o' q => x.keep a o' q e2.1 fun m => (ap a m).elim e2.2 fun z => z o q1 q2, VRs.ext x ap xs e4⟩
  | .tup xs, _, e => by
    rw [VR] at e ⊢
    obtain ⟨a, vs, e1, e2, e3, e4⟩ := e
    obtain ⟨o, q1, q2⟩ := tuple_val e3
    exact ⟨a, vs, e1, x.offs q1 e2, e3.at fun o' q => x.keep a o' q e2.1 fun m => (ap a m).elim e2.2 fun z => z o q1 q2, VRs.ext x ap xs e4⟩
  | .rng lo n, _, e => by
    rw [VR] at e ⊢
    obtain ⟨a, t, u, w, e1, e2, e3⟩ := e
    exact ⟨a, t, u, w, e1, x.offs e3 e2, x.keep a _ e3 e2.1 (fun m => (ap a m).elim e2.2 fun z => z _ e3 ⟨(fun _ _ q => by cases q), (fun _ q => by cases q)⟩)⟩
  | .ref k, _, e => by
    rw [VR] at e ⊢
    obtain ⟨a, e1, e2⟩ := e
    exact ⟨a, e1, x.idx k a e2⟩
  | .unb, _, e => by rw [VR] at e; exact e.elim
theorem VRs.ext {X : Addr → Prop} {mt mt' : Pl} {h h' : Heap} (x : Ext X mt h mt' h') (ap : Apart X mt h) : ∀ (vs : List V) {ws : List Value}, VRs mt h vs ws → VRs mt' h' vs ws
  | [], _, e => by rw [VRs] at e ⊢; exact e
  | v :: vs, _, e => by
    rw [VRs] at e ⊢
    obtain ⟨w, r, e1, e2, e3⟩ := e
    exact ⟨w, r, e1, VR.ext x ap v e2, VRs.ext x ap vs e3⟩
end
theorem apart_nil {mt : Pl} {h : Heap} : Apart None₀ mt h := fun _ m => m.elim
theorem VR.up {mt mt' : Pl} {h h' : Heap} {v : V} {w : Value} (r : VR mt h v w) (x : Ext None₀ mt h mt' h') : VR mt' h' v w := VR.ext x apart_nil v r
theorem VRs.up {mt mt' : Pl} {h h' : Heap} {v : List V} {w : List Value} (r : VRs mt h v w) (x : Ext None₀ mt h mt' h') : VRs mt' h' v w := VRs.ext x apart_nil v r

theorem VRs.map {mt mt' : Pl} {h h' : Heap} (f : ∀ (v : V) (w : Value), VR mt h v w → VR mt' h' v w) : ∀ {vs : List V} {ws : List Value}, VRs mt h vs ws → VRs mt' h' vs ws
  | [], _, e => by rw [e.unnil]; exact VRs.nil
  | v :: vs, _, e => by
    obtain ⟨w, r, rfl, h1, h2⟩ := e.uncons
    exact VRs.cons (f _ _ h1) (VRs.map f h2)

/-- the store: the lists that may be turned -/
structure SR (ht : Heap) (mt : Pl) (μ : Store) (h : Heap) : Prop where
  top : ∀ b o, ht.get? b = some o → h.get? b = some o
  nodup : mt.l.Nodup
  len : mt.l.length = μ.length
  st : ∀ (k : Nat) (a : Addr) (xs : List V), mt.l[k]? = some a → μ[k]? = some xs → ∃ vs : List Value, h.PlainList a vs.toArray ∧ VRs mt h xs vs
  new : ∀ a ∈ mt.l, ht.get? a = none
  hid : ∀ a ∈ mt.hd, (∃ o, h.get? a = some o) ∧ a ∉ mt.l ∧ ht.get? a = none

/-- nothing turned, things made -/
theorem SR.up {ht : Heap} {mt : Pl} {μ : Store} {h h' : Heap} (r : SR ht mt μ h) (k : ∀ b o, h.get? b = some o → h'.get? b = some o) : SR ht mt μ h' where
  top b o e := k b o (r.top b o e)
  nodup := r.nodup
  len := r.len
  st i a xs e1 e2 := by
    obtain ⟨vs, p, q⟩ := r.st i a xs e1 e2
    exact ⟨vs, p.at fun o e => k a o e, q.up (.of_keep k)⟩
  new := r.new
  hid a ha := let ⟨⟨o, e⟩, z⟩ := r.hid a ha; ⟨⟨o, k a o e⟩, z⟩
/-- a frame's place turned -/
theorem SR.same {ht : Heap} {mt : Pl} {μ : Store} {h h' : Heap} {a : Addr} (r : SR ht mt μ h) (hs : Heap.SameBut a h h') (ap : Apart (· = a) mt h) (hd : h'.get? a ≠ none) (hn : ht.get? a = none) : SR ht mt μ h' where
  top b o e := (hs.2 b fun q => by rw [q, hn] at e; cases e).trans (r.top b o e)
  nodup := r.nodup
  len := r.len
  st i b xs e1 e2 := by
    obtain ⟨vs, p, q⟩ := r.st i b xs e1 e2
    obtain ⟨o, o1, o2⟩ := plain_val p
    refine ⟨vs, p.at fun o' e => (hs.2 b fun e' => ?_).trans e, VRs.ext (X := (· = a)) (.of_same hs (.inl rfl) hd) ap xs q⟩
    subst e'
    rcases ap b rfl with z | z
    · exact (r.hid b z).2.1 (List.mem_of_getElem? e1)
    · exact z o o1 o2
  new := r.new
  hid b hb := by
    obtain ⟨⟨o, e⟩, z⟩ := r.hid b hb
    by_cases q : b = a
    · subst q
      cases e' : h'.get? b with
      | none => exact absurd e' hd
      | some o' => exact ⟨⟨o', rfl⟩, z⟩
    · exact ⟨⟨o, (hs.2 b q).trans e⟩, z⟩

/-- a frame's names and what they hold -/
structure FR (nm : List Str) (env : Env) (mt : Pl) (σ : List V) (h : Heap) : Prop where
  len : σ.length = nm.length
  ns : ∃ m, h.Ns env.locals m ∧ ∀ (i : Nat) (x : Str) (v : V), nm[i]? = some x → σ[i]? = some v → env.kindOf x = some .local → v = .unb ∨ ∃ mv, m x = some mv ∧ VR mt h v mv
  cl : ∀ (i : Nat) (x : Str) (v : V), nm[i]? = some x → σ[i]? = some v → env.kindOf x ≠ some .local → v = .unb ∨ ∃ c mv, env.cells.lookup x = some c ∧ h.IsCell c (some mv) ∧ VR mt h v mv
  cs : ∀ x c, env.cells.lookup x = some c → ∃ v, h.IsCell c v

noncomputable def Own (env : Env) (a : Addr) : Prop := a = env.locals ∨ ∃ x, env.cells.lookup x = some a

/-- what is known of a frame whatever it holds -/
structure EOk (ht : Heap) (sc : Scope) (nm : List Str) (env : Env) : Prop where
  scope : env.scope = sc
  kind : sc.kind = .function
  glob : env.globals = mainGlobals
  bi : env.builtins = builtinsNs
  nodup : nm.Nodup
  kinds : ∀ x ∈ nm, sc.names.lookup x = some .local ∨ ((sc.names.lookup x = some .cell ∨ sc.names.lookup x = some .free) ∧ (env.cells.lookup x).isSome = true)
  inj : ∀ x y c, env.cells.lookup x = some c → env.cells.lookup y = some c → x = y
  new : ∀ a, Own env a → ht.get? a = none

theorem EOk.kindOf {ht : Heap} {sc : Scope} {nm : List Str} {env : Env} (e : EOk ht sc nm env) (x : Str) : env.kindOf x = sc.names.lookup x := by
  unfold Env.kindOf; rw [e.scope]
theorem EOk.fn {ht : Heap} {sc : Scope} {nm : List Str} {env : Env} (e : EOk ht sc nm env) : env.scope.kind = .function := by rw [e.scope]; exact e.kind
theorem EOk.plain {ht : Heap} {sc : Scope} {nm : List Str} {env : Env} (e : EOk ht sc nm env) : (env.scope.kind == .class || (env.scope.kind == .module && env.locals != env.globals)) = false := by rw [e.fn]; rfl

theorem ns_not_val {h : Heap} {a : Addr} {m : Str → Option Value} (n : h.Ns a m) {o : Obj} (e : h.get? a = some o) : ¬ ValObj o := fun v => by
  obtain ⟨o', es, ep, e', d, _⟩ := n
  rw [e] at e'; cases e'
  exact v.1 _ _ d
theorem cell_not_val {h : Heap} {a : Addr} {m : Option Value} (n : h.IsCell a m) {o : Obj} (e : h.get? a = some o) : ¬ ValObj o := fun v => by
  obtain ⟨o', e', d⟩ := n
  rw [e] at e'; cases e'
  exact v.2 _ d

theorem FR.apartL {nm : List Str} {env : Env} {mt : Pl} {σ : List V} {h : Heap} (f : FR nm env mt σ h) : Apart (· = env.locals) mt h := fun b hb => .inr fun o e => by
  subst hb
  obtain ⟨m, n, _⟩ := f.ns
  exact ns_not_val n e
theorem FR.apartC {nm : List Str} {env : Env} {mt : Pl} {σ : List V} {h : Heap} (f : FR nm env mt σ h) {x : Str} {c : Addr} (hc : env.cells.lookup x = some c) : Apart (· = c) mt h := fun b hb => .inr fun o e => by
  subst hb
  obtain ⟨v, n⟩ := f.cs x b hc
  exact cell_not_val n e
theorem FR.notVal {nm : List Str} {env : Env} {mt : Pl} {σ : List V} {h : Heap} (f : FR nm env mt σ h) {b : Addr} (hb : Own env b) {o : Obj} (e : h.get? b = some o) : ¬ ValObj o := by
  rcases hb with rfl | ⟨x, hx⟩
  · obtain ⟨m, n, _⟩ := f.ns
    exact ns_not_val n e
  · obtain ⟨v, n⟩ := f.cs x b hx
    exact cell_not_val n e
theorem FR.apart {nm : List Str} {env : Env} {mt : Pl} {σ : List V} {h : Heap} (f : FR nm env mt σ h) : Apart (Own env) mt h := fun b hb => .inr fun o e => f.notVal hb e
theorem FR.there {nm : List Str} {env : Env} {mt : Pl} {σ : List V} {h : Heap} (f : FR nm env mt σ h) {a : Addr} (ha : Own env a) : ∃ o, h.get? a = some o := by
  rcases ha with rfl | ⟨x, hx⟩
  · obtain ⟨m, ⟨o, _, _, e, _⟩, _⟩ := f.ns
    exact ⟨o, e⟩
  · obtain ⟨v, o, e, _⟩ := f.cs x a hx
    exact ⟨o, e⟩
theorem SR.val {ht : Heap} {mt : Pl} {μ : Store} {h : Heap} (r : SR ht mt μ h) {a : Addr} (ha : a ∈ mt.l) : ∃ o, h.get? a = some o ∧ ValObj o := by
  obtain ⟨k, hk⟩ := List.mem_iff_getElem?.mp ha
  have hlt : k < μ.length := by
    rw [← r.len]
    exact (List.getElem?_eq_some_iff.mp hk).1
  obtain ⟨vs, p, _⟩ := r.st k a _ hk (List.getElem?_eq_getElem hlt)
  exact plain_val p
/-- the frame's places are not in the store -/
theorem FR.off {ht : Heap} {nm : List Str} {env : Env} {mt : Pl} {σ : List V} {μ : Store} {h : Heap} (f : FR nm env mt σ h) (r : SR ht mt μ h) {a : Addr} (ha : Own env a) : a ∉ mt.l := fun q => by
  obtain ⟨o, e, v⟩ := r.val q
  exact f.notVal ha e v

theorem FR.up {nm : List Str} {env : Env} {mt mt' : Pl} {σ : List V} {h h' : Heap} (f : FR nm env mt σ h) (x : Ext None₀ mt h mt' h') (hm : ∀ a, Own env a → a ∉ mt.l) : FR nm env mt' σ h' where
  len := f.len
  ns := by
    obtain ⟨m, n, r⟩ := f.ns
    exact ⟨m, n.at' fun o e => x.keep _ o e (hm _ (.inl rfl)) id, fun i y v e1 e2 e3 => (r i y v e1 e2 e3).imp id fun ⟨mv, a, b⟩ => ⟨mv, a, b.up x⟩⟩
  cl i y v e1 e2 e3 := (f.cl i y v e1 e2 e3).imp id fun ⟨c, mv, a, b, d⟩ => ⟨c, mv, a, (let ⟨o, ho, hd⟩ := b; ⟨o, x.keep c o ho (hm c (.inr ⟨_, a⟩)) id, hd⟩), d.up x⟩
  cs y c e := let ⟨v, o, ho, hd⟩ := f.cs y c e; ⟨v, o, x.keep c o ho (hm c (.inr ⟨_, e⟩)) id, hd⟩

/-- things turned that no value holds -/
theorem Ext.but {F : Addr → Prop} {M : Pl} {h h' : Heap} (k : ∀ b o, ¬ F b → h.get? b = some o → h'.get? b = some o) (al : ∀ b, F b → ∃ o, h'.get? b = some o) : Ext F M h M h' where
  keep b o e _ m := k b o m e
  dom b e q := by
    by_cases hb : F b
    · obtain ⟨o, e'⟩ := al b hb
      rw [e'] at q; cases q
    · cases e' : h.get? b with
      | none => exact e e'
      | some o => rw [k b o hb e'] at q; cases q
  idx _ _ e := e
  fresh _ e := .inl e
  hide := rfl
theorem SR.but {ht : Heap} {F : Addr → Prop} {M : Pl} {μ : Store} {h h' : Heap} (r : SR ht M μ h) (k : ∀ b o, ¬ F b → h.get? b = some o → h'.get? b = some o) (hF : ∀ b, F b → b ∈ M.hd) (al : ∀ b, F b → ∃ o, h'.get? b = some o) : SR ht M μ h' where
  top b o e := k b o (fun q => by rw [(r.hid b (hF b q)).2.2] at e; cases e) (r.top b o e)
  nodup := r.nodup
  len := r.len
  st i a xs e1 e2 := by
    obtain ⟨vs, p, q⟩ := r.st i a xs e1 e2
    exact ⟨vs, p.at fun o e => k a o (fun z => (r.hid a (hF a z)).2.1 (List.mem_of_getElem? e1)) e, VRs.ext (Ext.but k al) (fun b hb => .inl (hF b hb)) xs q⟩
  new := r.new
  hid b hb := by
    obtain ⟨⟨o, e⟩, z⟩ := r.hid b hb
    by_cases q : F b
    · exact ⟨al b q, z⟩
    · exact ⟨⟨o, k b o q e⟩, z⟩
theorem FR.but {F : Addr → Prop} {nm : List Str} {env : Env} {M : Pl} {σ : List V} {h h' : Heap} (f : FR nm env M σ h) (k : ∀ b o, ¬ F b → h.get? b = some o → h'.get? b = some o) (hF : ∀ b, F b → b ∈ M.hd) (al : ∀ b, F b → ∃ o, h'.get? b = some o) (ho : ∀ a, Own env a → ¬ F a) : FR nm env M σ h' where
  len := f.len
  ns := by
    obtain ⟨m, n, r⟩ := f.ns
    exact ⟨m, n.at' fun o e => k _ o (ho _ (.inl rfl)) e, fun i y v e1 e2 e3 => (r i y v e1 e2 e3).imp id fun ⟨mv, a, b⟩ => ⟨mv, a, VR.ext (Ext.but k al) (fun b hb => .inl (hF b hb)) v b⟩⟩
  cl i y v e1 e2 e3 := (f.cl i y v e1 e2 e3).imp id fun ⟨c, mv, a, b, d⟩ => ⟨c, mv, a, (let ⟨o, e, z⟩ := b; ⟨o, k c o (ho c (.inr ⟨_, a⟩)) e, z⟩), VR.ext (Ext.but k al) (fun b hb => .inl (hF b hb)) v d⟩
  cs y c e := let ⟨v, o, e', z⟩ := f.cs y c e; ⟨v, o, k c o (ho c (.inr ⟨_, e⟩)) e', z⟩
theorem Ext.after {F : Addr → Prop} {M₁ M M' : Pl} {h₁ h h' : Heap} (E : Ext None₀ M₁ h₁ M h) (x : Ext F M h M' h') (hF : ∀ b, F b → h₁.get? b = none) : Ext None₀ M₁ h₁ M' h' where
  keep b o e n _ := x.keep b o (E.keep b o e n id) (E.nmem e n) fun q => by rw [hF b q] at e; cases e
  dom b e := x.dom b (E.dom b e)
  idx k a e := x.idx k a (E.idx k a e)
  fresh a ha := by
    rcases x.fresh a ha with q | q
    · exact E.fresh a q
    · refine .inr ?_
      cases e : h₁.get? a with
      | none => rfl
      | some o => exact absurd q (E.dom a (by rw [e]; exact fun q => by cases q))
  hide := x.hide.trans E.hide
theorem Ext.afterK {F : Addr → Prop} {M₁ M : Pl} {h₁ h h' : Heap} (E : Ext None₀ M₁ h₁ M h) (k : ∀ b o, ¬ F b → h.get? b = some o → h'.get? b = some o) (hF : ∀ b, F b → h₁.get? b = none) : Ext None₀ M₁ h₁ M h' where
  keep b o e n _ := k b o (fun q => by rw [hF b q] at e; cases e) (E.keep b o e n id)
  dom b e q := by
    cases e' : h.get? b with
    | none => exact E.dom b e e'
    | some o => rw [k b o (fun z => e (hF b z)) e'] at q; cases q
  idx := E.idx
  fresh := E.fresh
  hide := E.hide

mutual
theorem VR.lift {M M' : Pl} {h h' : Heap} (k : ∀ b o, M.off b → h.get? b = some o → h'.get? b = some o) (of : ∀ b, M.off b → M'.off b) (ix : ∀ (i : Nat) (a : Addr), M.l[i]? = some a → M'.l[i]? = some a) : ∀ (v : V) {w : Value}, VR M h v w → VR M' h' v w
  | .int _, _, e => by rw [VR] at e ⊢; exact e
  | .bool _, _, e => by rw [VR] at e ⊢; exact e
  | .none, _, e => by rw [VR] at e ⊢; exact e
  | .list xs, _, e => by
    rw [VR] at e ⊢
    obtain ⟨a, vs, e1, e2, e3, e4⟩ := e
    exact ⟨a, vs, e1, of a e2, e3.at fun o q => k a o e2 q, VRs.lift k of ix xs e4⟩
  | .tup xs, _, e => by
    rw [VR] at e ⊢
    obtain ⟨a, vs, e1, e2, e3, e4⟩ := e
    exact ⟨a, vs, e1, of a e2, e3.at fun o q => k a o e2 q, VRs.lift k of ix xs e4⟩
  | .rng lo hi, _, e => by
    rw [VR] at e ⊢
    obtain ⟨a, t, u, w, e1, e2, e3⟩ := e
    exact ⟨a, t, u, w, e1, of a e2, k a _ e2 e3⟩
  | .ref i, _, e => by
    rw [VR] at e ⊢
    obtain ⟨a, e1, e2⟩ := e
    exact ⟨a, e1, ix i a e2⟩
  | .unb, _, e => by rw [VR] at e; exact e.elim
theorem VRs.lift {M M' : Pl} {h h' : Heap} (k : ∀ b o, M.off b → h.get? b = some o → h'.get? b = some o) (of : ∀ b, M.off b → M'.off b) (ix : ∀ (i : Nat) (a : Addr), M.l[i]? = some a → M'.l[i]? = some a) : ∀ (vs : List V) {ws : List Value}, VRs M h vs ws → VRs M' h' vs ws
  | [], _, e => by rw [VRs] at e ⊢; exact e
  | v :: vs, _, e => by
    rw [VRs] at e ⊢
    obtain ⟨w, r, e1, e2, e3⟩ := e
    exact ⟨w, r, e1, VR.lift k of ix v e2, VRs.lift k of ix vs e3⟩
end
theorem SR.drop {ht : Heap} {F : Addr → Prop} {l hd hd' : List Addr} {μ : Store} {h h' : Heap} (r : SR ht ⟨l, hd⟩ μ h) (k : ∀ b o, ¬ F b → h.get? b = some o → h'.get? b = some o) (hF : ∀ b, F b → b ∈ hd) (sub : ∀ b ∈ hd', b ∈ hd) (dis : ∀ b ∈ hd', ¬ F b) : SR ht ⟨l, hd'⟩ μ h' where
  top b o e := k b o (fun q => by rw [(r.hid b (hF b q)).2.2] at e; cases e) (r.top b o e)
  nodup := r.nodup
  len := r.len
  st i a xs e1 e2 := by
    obtain ⟨vs, p, q⟩ := r.st i a xs e1 e2
    exact ⟨vs, p.at fun o e => k a o (fun z => (r.hid a (hF a z)).2.1 (List.mem_of_getElem? e1)) e, VRs.lift (M := ⟨l, hd⟩) (M' := ⟨l, hd'⟩) (fun b o z => k b o fun y => z.2 (hF b y)) (fun b z => ⟨z.1, fun y => z.2 (sub b y)⟩) (fun _ _ e => e) xs q⟩
  new := r.new
  hid b hb := by
    obtain ⟨⟨o, e⟩, z⟩ := r.hid b (sub b hb)
    exact ⟨⟨o, k b o (dis b hb) e⟩, z⟩

end Mine

namespace Mine
open PySem PySem.Calls PyProof.Rows PySem.W
set_option maxRecDepth 100000
set_option autoImplicit false

/-- what is wanted behind an expression -/
noncomputable def Nx (ht : Heap) (s : Shared) (mt : Pl) (μ : Store) (v : V) (Q : Value → Shared → Prop) : Prop :=
  ∀ w h' tk mt', Ext None₀ mt s.heap mt' h' → SR ht mt' μ h' → VR mt' h' v w → Q w { s with heap := h', toks := tk }

section
variable {prog : Program} {w : World} {A : Around} {ht : Heap} {s : Shared} {mt : Pl} {μ : Store} {Q : Value → Shared → Prop} {Er : Value → Shared → Prop}

theorem Nx.now {v : V} {wv : Value} (k : Nx ht s mt μ v Q) (r : SR ht mt μ s.heap) (h : VR mt s.heap v wv) (tk : Nat) : Q wv { s with toks := tk } :=
  k wv s.heap tk mt .refl r h
/-- a made object -/
theorem Nx.made {v : V} {wv : Value} (k : Nx ht s mt μ v Q) (r : SR ht mt μ s.heap) {h' : Heap} {tk : Nat} (e : ∀ b o, s.heap.get? b = some o → h'.get? b = some o) (h : VR mt h' v wv) : Q wv { s with heap := h', toks := tk } :=
  k wv h' tk mt (.of_keep e) (r.up e) h
theorem Nx.on {v : V} {h₁ : Heap} {tk₁ : Nat} {mt₁ : Pl} (k : Nx ht s mt μ v Q) (x : Ext None₀ mt s.heap mt₁ h₁) : Nx ht { s with heap := h₁, toks := tk₁ } mt₁ μ v Q :=
  fun w h' tk mt' x' r' v' => k w h' tk mt' (x.trans x') r' v'

theorem fits_bits {i : Int} (h : fits i = true) : Builtin.Int.intBits i ≤ 2000 := by
  have hn : i.natAbs < 2 ^ 2000 := of_decide_eq_true h
  unfold Builtin.Int.intBits
  split
  · exact Nat.zero_le _
  · rcases Nat.eq_zero_or_pos i.natAbs with h0 | hp
    · rw [h0]; decide
    · exact (Nat.log2_lt (Nat.ne_of_gt hp)).mpr hn
theorem fits_mul {a b : Int} (ha : fits a = true) (hb : fits b = true) : IntMulOk a b := by
  have h1 := fits_bits ha
  have h2 := fits_bits hb
  unfold IntMulOk
  intro h
  simp only [Bool.and_eq_true, decide_eq_true_eq] at h
  have := h.2
  unfold Builtin.Int.intTooBig at this
  have := of_decide_eq_true this
  have hb : bitsLine = 134217728 := by decide
  rw [hb] at this
  omega
theorem fits_div {a b : Int} (hb : fits b = true) : Builtin.divisionGoesByPylong a b = false := by
  have hn : b.natAbs < 2 ^ 2000 := of_decide_eq_true hb
  unfold Builtin.divisionGoesByPylong
  have : ¬ ((if (b == 0) = true then 0 else b.natAbs.log2 / 30 + 1) > 300) := by
    split
    · omega
    · rcases Nat.eq_zero_or_pos b.natAbs with h0 | hp
      · rw [h0]; decide
      · have := (Nat.log2_lt (Nat.ne_of_gt hp)).mpr hn
        omega
  simp only [this, decide_false, Bool.false_and]

theorem lim_line : lim ≤ sizeLine := by decide
theorem lim_62 : (lim : Int) < 2 ^ 62 := by decide

theorem foldl_rep1 (x : Value) : ∀ (n : Nat) (acc : Array Value), (List.replicate n #[x]).foldl (fun a b => a ++ b) acc = acc ++ (List.replicate n x).toArray
  | 0, acc => by simp
  | n + 1, acc => by
    rw [List.replicate_succ, List.foldl_cons, foldl_rep1 x n, List.replicate_succ]
    apply Array.toList_inj.mp
    simp

theorem VRs.single {h : Heap} {xs : List V} {vs : List Value} (a : VRs mt h xs vs) (e : xs.length = 1) : ∃ v, vs = [v] ∧ VR mt h (xs.getD 0 .unb) v := by
  match xs, e with
  | [x], _ =>
    obtain ⟨v, r, rfl, h1, h2⟩ := a.uncons
    rw [h2.unnil]
    exact ⟨v, rfl, h1⟩

noncomputable def opOf : Op2 → Operator
  | .add => .Add
  | .sub => .Sub
  | .mul => .Mult
  | .fdiv => .FloorDiv
  | .fmod => .Mod
  | .pow => .Pow

theorem fresh_size {h : Heap} : h.get? h.objs.size = none := by
  cases e : h.get? h.objs.size with
  | none => rfl
  | some o => exact absurd (Heap.lt_size e) (Nat.lt_irrefl _)
theorem SR.off_of {h : Heap} (r : SR ht mt μ h) {a : Addr} (ha : h.get? a = none) : mt.off a := by
  constructor
  · intro q
    obtain ⟨o, e, _⟩ := r.val q
    rw [ha] at e; cases e
  · intro q
    obtain ⟨⟨o, e⟩, _⟩ := r.hid a q
    rw [ha] at e; cases e
theorem SR.off_new {h : Heap} (r : SR ht mt μ h) : mt.off h.objs.size := r.off_of fresh_size

/-- a list made: at the next place -/
theorem vr_new {h : Heap} {vs : List Value} {xs : List V} (r : SR ht mt μ h) (h1 : VRs mt h xs vs) :
    VR mt (h.push { cls := .type "list", data := .seq vs.toArray }) (.list xs) (.ref h.objs.size) := by
  rw [VR]
  exact ⟨_, vs, rfl, r.off_new, ⟨_, Heap.get?_push_size _ rfl⟩, h1.up (.of_keep fun _ _ e => Heap.get?_push_of_some _ e)⟩

theorem keep_push {h : Heap} (o : Obj) : ∀ b o', h.get? b = some o' → (h.push o).get? b = some o' := fun _ _ e => Heap.get?_push_of_some _ e


theorem bin_ok (hh : A.handled = none) {op : Op2} {a b v : V} {wa wb : Value} (e : binV op a b = some v) (r : SR ht mt μ s.heap) (ha : VR mt s.heap a wa) (hb : VR mt s.heap b wb) (k : Nx ht s mt μ v Q) :
    wpAny (model prog w) A (binaryOp (opOf op) wa wb) Q Er s := by
  unfold binV at e
  split at e
  · rw [VR] at ha; rw [VR] at hb; obtain ⟨t, rfl⟩ := ha; obtain ⟨u, rfl⟩ := hb; cases e
    exact PyProof.Rows.add_int (k.now r (by rw [VR]; exact ⟨_, rfl⟩) _)
  · rw [VR] at ha; rw [VR] at hb
    obtain ⟨la, vs, rfl, na, pa, ra⟩ := ha
    obtain ⟨lb, ws, rfl, nb, pb, rb⟩ := hb
    split at e
    · rename_i hl
      cases e
      have e1 := ra.length
      have e2 := rb.length
      have hz : vs.length + ws.length ≤ sizeLine := by have := lim_line; omega
      have hl' := pa.isList
      have hb' := pb.isList
      obtain ⟨⟨cls, dd, data, sl⟩, ho, hc, n, hd⟩ := id hl'
      obtain ⟨⟨cls2, dd2, data2, sl2⟩, ho2, hc2, n2, hd2⟩ := id hb'
      simp only at hc hd hc2 hd2
      subst hc hd hc2 hd2
      have e : vs.toArray ++ ws.toArray = (vs ++ ws).toArray := by simp
      refine PySem.concat_meets ⟨_, ho, rfl⟩ ⟨_, ho2, rfl⟩ noFill_list_add seq_list_add PySem.F.slot_list_add PySem.F.entry_list_add (PySem.F.args_list_add_2 _ _) (PyProof.Rows.list_addW la lb vs.toArray ws.toArray n n2 dd dd2 sl sl2 (by simpa using hz)) ⟨ho, ho2, ?_⟩
      rw [e]
      exact k.made r (keep_push _) (vr_new r (ra.append rb))
    · cases e
  · rw [VR] at ha; rw [VR] at hb; obtain ⟨t, rfl⟩ := ha; obtain ⟨u, rfl⟩ := hb; cases e
    exact PyProof.Rows.sub_int (k.now r (by rw [VR]; exact ⟨_, rfl⟩) _)
  · rw [VR] at ha; rw [VR] at hb; obtain ⟨t, rfl⟩ := ha; obtain ⟨u, rfl⟩ := hb
    split at e
    · rename_i hf
      cases e
      obtain ⟨f1, f2⟩ := Bool.and_eq_true_iff.mp hf
      exact PyProof.Rows.mul_int (k.now r (by rw [VR]; exact ⟨_, rfl⟩) _) (fits_mul f1 f2)
    · cases e
  · rename_i xs kk
    rw [VR] at ha; rw [VR] at hb
    obtain ⟨la, vs, rfl, na, pa, ra⟩ := ha
    obtain ⟨u, rfl⟩ := hb
    split at e
    · rename_i hc
      cases e
      obtain ⟨v, rfl, hv⟩ := ra.single hc.1
      obtain ⟨n, ho⟩ := pa
      have b1 := lim_62
      have b2 : (lim : Int) = 1000000 := rfl
      have h1 := hc.2.1
      have h2 := hc.2.2
      refine wpAny_binaryOp_repeat_ref (T := "list") (U := "int") (by decide) ⟨_, ho, rfl⟩ (fun s' => typeIs_int s' kk u) noFill_list_mul PySem.F.fills_int_mul PySem.F.slot_int_rmul repeat_list PySem.F.slot_int_index.lookup
        (call_meets PySem.F.slot_int_rmul (typeIs_int s kk u) PySem.F.entry_int_rmul (PySem.F.args_int_rmul_2 _ _) (int___rmul___int_list kk u la _ n)
          ⟨ho, rfl, ⟨_, ho, rfl⟩, call_meets PySem.F.slot_list_mul ⟨_, ho, rfl⟩ PySem.F.entry_list_mul (PySem.F.args_list_mul_2 _ _)
            (PySem.AutoListH.list___mul___list_int_3 la _ n kk u (by simp [Builtin.List.listFitsIndex]; omega) (by rw [show ([v].toArray : Array Value).size = 1 from rfl]; omega) (by rw [show ([v].toArray : Array Value).size = 1 from rfl]; simp [Builtin.List.listTooLong, sizeLine]; omega))
            ⟨ho, ?_⟩⟩)
      have e : List.foldl (fun x1 x2 : Array Value => x1 ++ x2) #[] (List.replicate (if (#[v] : Array Value).isEmpty = true then 0 else kk.toNat) #[v]) = (List.replicate kk.toNat v).toArray := by
        rw [if_neg (by simp), foldl_rep1]
        simp
      have e' : List.foldl (fun x1 x2 : Array Value => x1 ++ x2) #[] (List.replicate (if ([v].toArray : Array Value).isEmpty = true then 0 else kk.toNat) [v].toArray) = (List.replicate kk.toNat v).toArray := e
      rw [e']
      exact k.made r (keep_push _) (vr_new r (VRs.replicate hv _))
    · cases e
  · rw [VR] at ha; rw [VR] at hb; obtain ⟨t, rfl⟩ := ha; obtain ⟨u, rfl⟩ := hb
    split at e
    · rename_i hc
      cases e
      exact PyProof.Rows.floordiv_int_or hh (fun q => absurd q hc.1) (fun _ => k.now r (by rw [VR]; exact ⟨_, rfl⟩) _) (fun _ => .inl (fits_div hc.2.2))
    · cases e
  · rw [VR] at ha; rw [VR] at hb; obtain ⟨t, rfl⟩ := ha; obtain ⟨u, rfl⟩ := hb
    split at e
    · rename_i hc
      cases e
      exact PyProof.Rows.mod_int' hc (k.now r (by rw [VR]; exact ⟨_, rfl⟩) _)
    · cases e
  · rename_i x n
    rw [VR] at ha; rw [VR] at hb; obtain ⟨t, rfl⟩ := ha; obtain ⟨u, rfl⟩ := hb
    split at e
    · rename_i hc
      cases e
      refine PyProof.Rows.pow_int hc.1 ?_ (k.now r (by rw [VR]; exact ⟨_, rfl⟩) _)
      have h1 := fits_bits hc.2.2
      have h2 : (Builtin.Int.intBits x : Int) * n ≤ 2000 * 1000 := Int.mul_le_mul (by omega) hc.2.1 hc.1 (by decide)
      exact Int.le_trans h2 (by decide)
    · cases e
  · cases e

noncomputable def cmOf : Cm → CmpOp
  | .eq => .Eq
  | .ne => .NotEq
  | .lt => .Lt
  | .le => .LtE
  | .gt => .Gt
  | .ge => .GtE

theorem items_list {v : V} {wv : Value} {xs : List V} (e : items? μ v = some xs) (r : SR ht mt μ s.heap) (h : VR mt s.heap v wv) : ∃ (a : Addr) (vs : List Value), wv = .ref a ∧ s.heap.PlainList a vs.toArray ∧ VRs mt s.heap xs vs := by
  unfold items? at e
  split at e
  · cases e
    rw [VR] at h
    obtain ⟨a, vs, e1, _, e3, e4⟩ := h
    exact ⟨a, vs, e1, e3, e4⟩
  · rw [VR] at h
    obtain ⟨a, e1, e2⟩ := h
    obtain ⟨vs, p, q⟩ := r.st _ _ _ e2 e
    exact ⟨a, vs, e1, p, q⟩
  · cases e

theorem eq_empty {a b : Addr} {vs : List Value} (ha : s.heap.PlainList a vs.toArray) (hb : s.heap.PlainList b #[]) (hu : A.units < cLine) (h : Q (.bool vs.isEmpty) s) : wpAny (model prog w) A (compareOp .Eq (.ref a) (.ref b)) Q Er s := by
  cases vs with
  | nil =>
    exact SeqAt.RcAt.lists (e := fun _ => true) ha.isList hb.isList rfl hu (fun j h1 _ => absurd h1 (by simp)) prog w Er Q (by simpa using h)
  | cons x r => exact SeqAt.RcAt.lists_lengths ha.isList hb.isList (by simp) hu prog w Er Q h
theorem ne_empty {a b : Addr} {vs : List Value} (ha : s.heap.PlainList a vs.toArray) (hb : s.heap.PlainList b #[]) (hu : A.units < cLine) (h : Q (.bool (!vs.isEmpty)) s) : wpAny (model prog w) A (compareOp .NotEq (.ref a) (.ref b)) Q Er s := by
  cases vs with
  | nil =>
    exact SeqAt.RcNeAt.lists (e := fun _ => true) ha.isList hb.isList rfl hu (fun j h1 _ => absurd h1 (by simp)) prog w Er Q (by simpa using h)
  | cons x r => exact SeqAt.RcNeAt.lists_lengths ha.isList hb.isList (by simp) hu prog w Er Q h

theorem isEmpty_of {h : Heap} {xs : List V} {vs : List Value} (x : VRs mt h xs vs) : vs.isEmpty = xs.isEmpty := by
  have := x.length
  cases xs <;> cases vs <;> simp_all

theorem cm_ok (hu : A.units < cLine) {op : Cm} {a b : V} {c : Bool} {wa wb : Value} (e : cmV μ op a b = some c) (r : SR ht mt μ s.heap) (ha : VR mt s.heap a wa) (hb : VR mt s.heap b wb) (k : ∀ tk, Q (.bool c) { s with toks := tk }) :
    wpAny (model prog w) A (compareOp (cmOf op) wa wb) Q Er s := by
  unfold cmV at e
  split at e
  · rw [VR] at ha; rw [VR] at hb; obtain ⟨t, rfl⟩ := ha; obtain ⟨u, rfl⟩ := hb; cases e
    have k := k s.toks
    cases op
    · exact PySem.P.eq_int k
    · exact PySem.P.ne_int k
    · exact PySem.P.lt_int k
    · exact PySem.P.le_int k
    · exact PySem.P.gt_int k
    · exact PySem.P.ge_int k
  · obtain ⟨xs, e1, rfl⟩ := Option.map_eq_some_iff.mp e
    obtain ⟨l, vs, rfl, p, q⟩ := items_list e1 r ha
    rw [VR] at hb
    obtain ⟨lb, ws, rfl, nb, pb, rb⟩ := hb
    rw [rb.unnil] at pb
    exact eq_empty p pb hu (by rw [isEmpty_of q]; exact k s.toks)
  · obtain ⟨xs, e1, rfl⟩ := Option.map_eq_some_iff.mp e
    obtain ⟨l, vs, rfl, p, q⟩ := items_list e1 r ha
    rw [VR] at hb
    obtain ⟨lb, ws, rfl, nb, pb, rb⟩ := hb
    rw [rb.unnil] at pb
    exact ne_empty p pb hu (by rw [isEmpty_of q]; exact k s.toks)
  · cases e

theorem none_ok {a : V} {c : Bool} {wa : Value} (e : isNoneV a = some c) (ha : VR mt s.heap a wa) (k : Q (.bool c) s) : wpAny (model prog w) A (compareOp .Is wa .none) Q Er s := by
  unfold isNoneV at e
  split at e
  · cases e; rw [VR] at ha; subst ha
    exact wpAny_is_plain rfl k
  · cases e; rw [VR] at ha; obtain ⟨t, rfl⟩ := ha
    exact wpAny_is_plain rfl k
  · cases e

theorem getItem_ok {xs : List V} {i : Int} {x : V} {a : Addr} {vs : List Value} {t : Tok} (e : itemV xs i = some x) (p : s.heap.PlainList a vs.toArray) (q : VRs mt s.heap xs vs) (k : ∀ wv, VR mt s.heap x wv → Q wv s) :
    wpAny (model prog w) A (getItem (.ref a) (.int i t)) Q Er s := by
  unfold itemV at e
  have hl := q.length
  have b1 := lim_62
  split at e
  · rename_i hlim
    split at e
    · rename_i h0
      obtain ⟨wv, e1, e2⟩ := q.get e
      have hlt : i.toNat < xs.length := (List.getElem?_eq_some_iff.mp e).1
      exact wpAny_getItem_list p.isList h0 (by omega) (by simpa using e1) (k wv e2)
    · split at e
      · rename_i h0 h1
        obtain ⟨wv, e1, e2⟩ := q.get e
        refine wpAny_getItem_list_neg p.isList (by omega) (by simp; omega) (by omega) ?_ (k wv e2)
        simp only [List.size_toArray, hl]
        simpa using e1
      · cases e
  · cases e

end
end Mine

namespace Mine
open PySem PySem.Calls PyProof.Rows PySem.W
set_option maxRecDepth 100000
set_option autoImplicit false

section
variable {prog : Program} {w : World} {A : Around} {ht : Heap} {s : Shared} {mt : Pl} {μ : Store} {Q : Value → Shared → Prop} {Er : Value → Shared → Prop}

theorem len_ok {v : V} {wv : Value} {xs : List V} (e : items? μ v = some xs) (hl : xs.length ≤ lim) (r : SR ht mt μ s.heap) (h : VR mt s.heap v wv) (k : Nx ht s mt μ (.int xs.length) Q) :
    wpAny (model prog w) A (call (.builtin "len") [wv]) Q Er s := by
  obtain ⟨a, vs, rfl, p, q⟩ := items_list e r h
  have e1 := q.length
  have b1 := lim_62
  refine call_len_list p.isList (by simp only [List.size_toArray]; omega) (k.now r ?_ _)
  rw [VR, List.size_toArray, e1]
  exact ⟨_, rfl⟩

theorem abs_ok {i : Int} {t : Tok} (r : SR ht mt μ s.heap) (k : Nx ht s mt μ (.int (if i < 0 then -i else i)) Q) :
    wpAny (model prog w) A (call (.builtin "abs") [.int i t]) Q Er s :=
  call_abs_int fun u tk => k.now r (by rw [VR]; exact ⟨_, rfl⟩) _

theorem max_ok (hh : A.handled = none) {i j : Int} {t u : Tok} (r : SR ht mt μ s.heap) (k : Nx ht s mt μ (.int (if j > i then j else i)) Q) :
    wpAny (model prog w) A (call (.builtin "max") [.int i t, .int j u]) Q Er s :=
  max_two_ints hh fun h' tk hk => by
    have : (if j > i then Value.int j u else Value.int i t) = Value.int (if j > i then j else i) (if j > i then u else t) := by split <;> rfl
    rw [this]
    exact k.made r hk (by rw [VR]; exact ⟨_, rfl⟩)

theorem toInt_ok {i : Int} {t : Tok} (r : SR ht mt μ s.heap) (k : Nx ht s mt μ (.int i) Q) :
    wpAny (model prog w) A (call (.type "int") [.int i t]) Q Er s := call_int_int (k.now (tk := s.toks) r (by rw [VR]; exact ⟨_, rfl⟩))

/-- list(x): what is made, and where -/
theorem lst_at {a : Addr} {vs : List Value} (p : s.heap.PlainList a vs.toArray) (hz : vs.length ≤ lim)
    (k : ∀ h', (∀ b o, s.heap.get? b = some o → h'.get? b = some o) → h'.PlainList s.heap.objs.size vs.toArray → Q (.ref s.heap.objs.size) { s with heap := h' }) :
    wpAny (model prog w) A (call (.type "list") [.ref a]) Q Er s := by
  obtain ⟨n, e⟩ := p
  exact call_list_seq (hsz := by simp only [List.size_toArray]; exact Nat.le_trans hz lim_line) a (.inl rfl) e rfl rfl fun h' c' hk hD => k h' hk ⟨c', hD⟩

theorem lst_ok {xs : List V} {wv : Value} (hl : xs.length ≤ lim) (r : SR ht mt μ s.heap) (h : VR mt s.heap (.list xs) wv) (k : Nx ht s mt μ (.list xs) Q) :
    wpAny (model prog w) A (call (.type "list") [wv]) Q Er s := by
  rw [VR] at h
  obtain ⟨a, vs, rfl, na, p, q⟩ := h
  refine lst_at p (by rw [q.length]; exact hl) fun h' hk hp => k.made r hk ?_
  rw [VR]
  exact ⟨_, vs, rfl, r.off_new, hp, q.up (.of_keep hk)⟩

/-- one more place -/
noncomputable def Pl.add (M : Pl) (a : Addr) : Pl := ⟨M.l ++ [a], M.hd⟩
theorem add_idx (M : Pl) (a : Addr) (k : Nat) (b : Addr) (e : M.l[k]? = some b) : (M.add a).l[k]? = some b := by
  show (M.l ++ [a])[k]? = some b
  rw [List.getElem?_append_left]
  · exact e
  · exact (List.getElem?_eq_some_iff.mp e).1
/-- a value that does not hold the place -/
noncomputable def VRn (M : Pl) (a : Addr) (h : Heap) (v : V) (w : Value) : Prop := VR ⟨M.l, a :: M.hd⟩ h v w

mutual
theorem VR.toAdd {M : Pl} {a : Addr} {h : Heap} : ∀ (v : V) {w : Value}, VR ⟨M.l, a :: M.hd⟩ h v w → VR (M.add a) h v w
  | .int _, _, e => by rw [VR] at e ⊢; exact e
  | .bool _, _, e => by rw [VR] at e ⊢; exact e
  | .none, _, e => by rw [VR] at e ⊢; exact e
  | .list xs, _, e => by
    rw [VR] at e ⊢
    obtain ⟨b, vs, e1, e2, e3, e4⟩ := e
    refine ⟨b, vs, e1, ⟨fun q => ?_, fun q => e2.2 (List.mem_cons_of_mem _ q)⟩, e3, VRs.toAdd xs e4⟩
    rcases List.mem_append.mp q with q | q
    · exact e2.1 q
    · exact e2.2 (List.mem_cons.mpr (.inl (List.mem_singleton.mp q)))
  | .tup xs, _, e => by
    rw [VR] at e ⊢
    obtain ⟨b, vs, e1, e2, e3, e4⟩ := e
    refine ⟨b, vs, e1, ⟨fun q => ?_, fun q => e2.2 (List.mem_cons_of_mem _ q)⟩, e3, VRs.toAdd xs e4⟩
    rcases List.mem_append.mp q with q | q
    · exact e2.1 q
    · exact e2.2 (List.mem_cons.mpr (.inl (List.mem_singleton.mp q)))
  | .rng lo n, _, e => by
    rw [VR] at e ⊢
    obtain ⟨b, t, u, w, e1, e2, e3⟩ := e
    refine ⟨b, t, u, w, e1, ⟨fun q => ?_, fun q => e2.2 (List.mem_cons_of_mem _ q)⟩, e3⟩
    rcases List.mem_append.mp q with q | q
    · exact e2.1 q
    · exact e2.2 (List.mem_cons.mpr (.inl (List.mem_singleton.mp q)))
  | .ref k, _, e => by
    rw [VR] at e ⊢
    obtain ⟨b, e1, e2⟩ := e
    exact ⟨b, e1, add_idx M a k b e2⟩
  | .unb, _, e => by rw [VR] at e; exact e.elim
theorem VRs.toAdd {M : Pl} {a : Addr} {h : Heap} : ∀ (vs : List V) {ws : List Value}, VRs ⟨M.l, a :: M.hd⟩ h vs ws → VRs (M.add a) h vs ws
  | [], _, e => by rw [VRs] at e ⊢; exact e
  | v :: vs, _, e => by
    rw [VRs] at e ⊢
    obtain ⟨w, r, e1, e2, e3⟩ := e
    exact ⟨w, r, e1, VR.toAdd v e2, VRs.toAdd vs e3⟩
end
mutual
theorem VR.unhide {l hd hd' : List Addr} {h : Heap} (sub : ∀ a ∈ hd', a ∈ hd) : ∀ (v : V) {w : Value}, VR ⟨l, hd⟩ h v w → VR ⟨l, hd'⟩ h v w
  | .int _, _, e => by rw [VR] at e ⊢; exact e
  | .bool _, _, e => by rw [VR] at e ⊢; exact e
  | .none, _, e => by rw [VR] at e ⊢; exact e
  | .list xs, _, e => by
    rw [VR] at e ⊢
    obtain ⟨b, vs, e1, e2, e3, e4⟩ := e
    exact ⟨b, vs, e1, ⟨e2.1, fun q => e2.2 (sub _ q)⟩, e3, VRs.unhide sub xs e4⟩
  | .tup xs, _, e => by
    rw [VR] at e ⊢
    obtain ⟨b, vs, e1, e2, e3, e4⟩ := e
    exact ⟨b, vs, e1, ⟨e2.1, fun q => e2.2 (sub _ q)⟩, e3, VRs.unhide sub xs e4⟩
  | .rng lo n, _, e => by
    rw [VR] at e ⊢
    obtain ⟨b, t, u, w, e1, e2, e3⟩ := e
    exact ⟨b, t, u, w, e1, ⟨e2.1, fun q => e2.2 (sub _ q)⟩, e3⟩
  | .ref k, _, e => by
    rw [VR] at e ⊢
    obtain ⟨b, e1, e2⟩ := e
    exact ⟨b, e1, e2⟩
  | .unb, _, e => by rw [VR] at e; exact e.elim
theorem VRs.unhide {l hd hd' : List Addr} {h : Heap} (sub : ∀ a ∈ hd', a ∈ hd) : ∀ (vs : List V) {ws : List Value}, VRs ⟨l, hd⟩ h vs ws → VRs ⟨l, hd'⟩ h vs ws
  | [], _, e => by rw [VRs] at e ⊢; exact e
  | v :: vs, _, e => by
    rw [VRs] at e ⊢
    obtain ⟨w, r, e1, e2, e3⟩ := e
    exact ⟨w, r, e1, VR.unhide sub v e2, VRs.unhide sub vs e3⟩
end
mutual
/-- new places may be hidden -/
theorem VR.hide {l hd as : List Addr} {h h' : Heap} (k : ∀ b o, h.get? b = some o → h'.get? b = some o) (ha : ∀ a ∈ as, h.get? a = none) : ∀ (v : V) {w : Value}, VR ⟨l, hd⟩ h v w → VR ⟨l, as ++ hd⟩ h' v w
  | .int _, _, e => by rw [VR] at e ⊢; exact e
  | .bool _, _, e => by rw [VR] at e ⊢; exact e
  | .none, _, e => by rw [VR] at e ⊢; exact e
  | .list xs, _, e => by
    rw [VR] at e ⊢
    obtain ⟨b, vs, e1, e2, e3, e4⟩ := e
    refine ⟨b, vs, e1, ⟨e2.1, fun q => ?_⟩, e3.at fun o e => k b o e, VRs.hide k ha xs e4⟩
    rcases List.mem_append.mp q with q | q
    · obtain ⟨n, e⟩ := e3; rw [ha b q] at e; cases e
    · exact e2.2 q
  | .tup xs, _, e => by
    rw [VR] at e ⊢
    obtain ⟨b, vs, e1, e2, e3, e4⟩ := e
    refine ⟨b, vs, e1, ⟨e2.1, fun q => ?_⟩, e3.at fun o e => k b o e, VRs.hide k ha xs e4⟩
    rcases List.mem_append.mp q with q | q
    · obtain ⟨o, e, _⟩ := e3; rw [ha b q] at e; cases e
    · exact e2.2 q
  | .rng lo n, _, e => by
    rw [VR] at e ⊢
    obtain ⟨b, t, u, w, e1, e2, e3⟩ := e
    refine ⟨b, t, u, w, e1, ⟨e2.1, fun q => ?_⟩, k b _ e3⟩
    rcases List.mem_append.mp q with q | q
    · have e3 : h.get? b = _ := e3; rw [ha b q] at e3; cases e3
    · exact e2.2 q
  | .ref i, _, e => by
    rw [VR] at e ⊢
    obtain ⟨b, e1, e2⟩ := e
    exact ⟨b, e1, e2⟩
  | .unb, _, e => by rw [VR] at e; exact e.elim
theorem VRs.hide {l hd as : List Addr} {h h' : Heap} (k : ∀ b o, h.get? b = some o → h'.get? b = some o) (ha : ∀ a ∈ as, h.get? a = none) : ∀ (vs : List V) {ws : List Value}, VRs ⟨l, hd⟩ h vs ws → VRs ⟨l, as ++ hd⟩ h' vs ws
  | [], _, e => by rw [VRs] at e ⊢; exact e
  | v :: vs, _, e => by
    rw [VRs] at e ⊢
    obtain ⟨w, r, e1, e2, e3⟩ := e
    exact ⟨w, r, e1, VR.hide k ha v e2, VRs.hide k ha vs e3⟩
end

/-- hide new places -/
theorem SR.hide {l hd as : List Addr} {h h' : Heap} (r : SR ht ⟨l, hd⟩ μ h) (k : ∀ b o, h.get? b = some o → h'.get? b = some o) (ha : ∀ a ∈ as, h.get? a = none) (hp : ∀ a ∈ as, ∃ o, h'.get? a = some o) : SR ht ⟨l, as ++ hd⟩ μ h' where
  top b o e := k b o (r.top b o e)
  nodup := r.nodup
  len := r.len
  st i b xs e1 e2 := by
    obtain ⟨vs, p, q⟩ := r.st i b xs e1 e2
    exact ⟨vs, p.at fun o e => k b o e, VRs.hide k ha xs q⟩
  new := r.new
  hid b hb := by
    rcases List.mem_append.mp hb with q | q
    · refine ⟨hp b q, (r.off_of (ha b q)).1, ?_⟩
      cases e : ht.get? b with
      | none => rfl
      | some o => have := r.top b o e; rw [ha b q] at this; cases this
    · obtain ⟨⟨o, e⟩, z⟩ := r.hid b q
      exact ⟨⟨o, k b o e⟩, z⟩
theorem SR.unhide {l hd hd' : List Addr} {h : Heap} (sub : ∀ a ∈ hd', a ∈ hd) (r : SR ht ⟨l, hd⟩ μ h) : SR ht ⟨l, hd'⟩ μ h where
  top := r.top
  nodup := r.nodup
  len := r.len
  st i b xs e1 e2 := by
    obtain ⟨vs, p, q⟩ := r.st i b xs e1 e2
    exact ⟨vs, p, VRs.unhide sub xs q⟩
  new := r.new
  hid b hb := r.hid b (sub b hb)
/-- what was hidden is a list of the store now -/
theorem SR.add {M : Pl} {h : Heap} {xs : List V} {vs : List Value} {a : Addr} (r : SR ht ⟨M.l, a :: M.hd⟩ μ h) (hh : a ∉ M.hd) (hp : h.PlainList a vs.toArray) (q : VRs ⟨M.l, a :: M.hd⟩ h xs vs) :
    SR ht (M.add a) (μ ++ [xs]) h ∧ VR (M.add a) h (.ref μ.length) (.ref a) := by
  obtain ⟨_, hm, hn⟩ := r.hid a (List.mem_cons_self ..)
  have hl : M.l.length = μ.length := r.len
  refine ⟨⟨r.top, ?_, ?_, ?_, ?_, ?_⟩, ?_⟩
  · show (M.l ++ [a]).Nodup
    rw [List.nodup_append]
    exact ⟨r.nodup, List.pairwise_singleton _ _, fun b hb c hc e => hm (by rw [List.mem_singleton.mp hc] at e; exact e ▸ hb)⟩
  · show (M.l ++ [a]).length = _
    rw [List.length_append, List.length_append, hl]; rfl
  · intro k b ys e1 e2
    replace e1 : (M.l ++ [a])[k]? = some b := e1
    by_cases hk' : k < M.l.length
    · rw [List.getElem?_append_left hk'] at e1
      rw [List.getElem?_append_left (by rw [← hl]; exact hk')] at e2
      obtain ⟨us, p, z⟩ := r.st k b ys e1 e2
      exact ⟨us, p, VRs.toAdd ys z⟩
    · have hk2 : k = M.l.length := by
        have := (List.getElem?_eq_some_iff.mp e1).1
        rw [List.length_append, List.length_singleton] at this
        omega
      subst hk2
      rw [List.getElem?_append_right (Nat.le_refl _)] at e1
      rw [hl, List.getElem?_append_right (Nat.le_refl _)] at e2
      simp at e1 e2
      subst e1; subst e2
      exact ⟨vs, hp, VRs.toAdd xs q⟩
  · intro b hb
    rcases List.mem_append.mp hb with q | q
    · exact r.new b q
    · rw [List.mem_singleton.mp q]; exact hn
  · intro b hb
    obtain ⟨h1, h2, h3⟩ := r.hid b (List.mem_cons_of_mem _ hb)
    refine ⟨h1, fun q => ?_, h3⟩
    rcases List.mem_append.mp q with q | q
    · exact h2 q
    · rw [List.mem_singleton.mp q] at hb; exact hh hb
  · rw [VR]
    refine ⟨a, rfl, ?_⟩
    show (M.l ++ [a])[μ.length]? = some a
    rw [← hl, List.getElem?_append_right (Nat.le_refl _)]
    simp

theorem ext_add {N M : Pl} {h h' : Heap} {a : Addr} (x : Ext None₀ N h M h') (ha : h.get? a = none) : Ext None₀ N h (M.add a) h' :=
  ⟨x.keep, x.dom, fun k b e => add_idx M a k b (x.idx k b e), fun b hb => by
      rcases List.mem_append.mp hb with q | q
      · exact x.fresh b q
      · rw [List.mem_singleton.mp q]; exact .inr ha, x.hide⟩

/-- a list made just now, kept or to be turned -/
theorem Nx.list {mu : Bool} {xs : List V} {v : V} {μ' : Store} {h' : Heap} {tk : Nat} {a : Addr} {vs : List Value} (e : mkL mu xs μ = some (v, μ')) (k : Nx ht s mt μ' v Q) (r : SR ht mt μ s.heap)
    (hk : ∀ b o, s.heap.get? b = some o → h'.get? b = some o) (ha : s.heap.get? a = none) (hp : h'.PlainList a vs.toArray) (q : VRs mt s.heap xs vs) : Q (.ref a) { s with heap := h', toks := tk } := by
  have off := r.off_of ha
  unfold mkL at e
  split at e
  · cases e
    have ha' : ∀ b ∈ [a], s.heap.get? b = none := fun b hb => by rw [List.mem_singleton.mp hb]; exact ha
    obtain ⟨r', v'⟩ := (SR.hide (as := [a]) r hk ha' (fun b hb => by rw [List.mem_singleton.mp hb]; obtain ⟨n, e⟩ := hp; exact ⟨_, e⟩)).add off.2 hp (VRs.hide (as := [a]) hk ha' xs q)
    exact k _ h' tk _ (ext_add (.of_keep hk) ha) r' v'
  · cases e
    refine k.made r hk ?_
    rw [VR]
    exact ⟨a, vs, rfl, off, hp, q.up (.of_keep hk)⟩

theorem mlst_ok {xs : List V} {wv : Value} {v : V} {μ' : Store} (hl : xs.length ≤ lim) (r : SR ht mt μ s.heap) (h : VR mt s.heap (.list xs) wv) (e : mkL true xs μ = some (v, μ')) (k : Nx ht s mt μ' v Q) :
    wpAny (model prog w) A (call (.type "list") [wv]) Q Er s := by
  rw [VR] at h
  obtain ⟨a, vs, rfl, na, p, q⟩ := h
  exact lst_at p (by rw [q.length]; exact hl) fun h' hk hp => k.list (tk := s.toks) e r hk fresh_size hp q

theorem newList_ok {mu : Bool} {xs : List V} {vs : List Value} {v : V} {μ' : Store} (hl : xs.length ≤ lim) (r : SR ht mt μ s.heap) (q : VRs mt s.heap xs vs) (e : mkL mu xs μ = some (v, μ')) (k : Nx ht s mt μ' v Q) :
    wpAny (model prog w) A (newList vs) Q Er s := by
  refine wpAny_newObj_type (k.list (tk := s.toks) e r (keep_push _) fresh_size ⟨_, Heap.get?_push_size _ rfl⟩ q) ?_
  show vs.toArray.size ≤ sizeLine
  rw [List.size_toArray, q.length]
  exact Nat.le_trans hl lim_line

theorem newTuple_ok {xs : List V} {vs : List Value} (hl : xs.length ≤ lim) (r : SR ht mt μ s.heap) (q : VRs mt s.heap xs vs) (k : Nx ht s mt μ (.tup xs) Q) :
    wpAny (model prog w) A (newTuple vs) Q Er s := by
  refine wpAny_newObj_type (k.made r (keep_push _) (tk := s.toks) ?_) ?_
  · rw [VR]
    exact ⟨_, vs, rfl, r.off_new, ⟨_, Heap.get?_push_size _ rfl, rfl, _, rfl⟩, q.up (.of_keep (keep_push _))⟩
  · show vs.toArray.size ≤ sizeLine
    rw [List.size_toArray, q.length]
    exact Nat.le_trans hl lim_line

theorem range1_ok {i : Int} {t : Tok} (r : SR ht mt μ s.heap) (k : Nx ht s mt μ (.rng 0 i) Q) :
    wpAny (model prog w) A (call (.type "range") [.int i t]) Q Er s := by
  refine call_range_1 (k.made r (keep_push _) ?_)
  rw [VR]
  exact ⟨_, _, t, _, rfl, r.off_new, IsRange.new ..⟩
theorem range2_ok {i j : Int} {t u : Tok} (r : SR ht mt μ s.heap) (k : Nx ht s mt μ (.rng i j) Q) :
    wpAny (model prog w) A (call (.type "range") [.int i t, .int j u]) Q Er s := by
  refine call_range_2 (k.made r (keep_push _) ?_)
  rw [VR]
  exact ⟨_, t, u, _, rfl, r.off_new, IsRange.new ..⟩

/-- an item of a store's list turned -/
theorem setPlain {l : Addr} {items : Array Value} {k : Int} {t : Tok} {v : Value} {Q : Unit → Shared → Prop} (hl : s.heap.PlainList l items)
    (h0 : 0 ≤ k) (hfit : k < 2 ^ 63) (hn : k < items.size)
    (hQ : ∀ h', h'.PlainList l (items.setIfInBounds k.toNat v) → Heap.SameBut l s.heap h' → Q () { s with heap := h' }) :
    wpAny (model prog w) A (setItem (.ref l) (.int k t) v) Q Er s := by
  obtain ⟨ne, ho⟩ := id hl
  have hl' := hl.isList
  unfold setItem
  try with_reducible refine wpAny_holding ?_
  first | refine wpAny_bind (wpAny_pure ?_) | skip
  refine wpAny_bind (wpAny_sequenceKey hl'.typeIs (by decide) ?_)
  refine wpAny_bind (wpAny_callSpecial?_slot (name := Str.ofString "__setitem__") hl'.typeIs slot_list_setitem
    (wpAny_call_entry slot_list_setitem hl'.typeIs entry_list_setitem ?_ (args_list_setitem _ _ _)))
  show wpAny _ _ (Builtin.List.listSubscript? (.int k t) >>= _) _ _ s
  refine wpAny_bind (wpAny_listSubscript_int (fitsIndex_of h0 hfit) ?_)
  clear hfit
  obtain ⟨j, rfl⟩ := Int.eq_ofNat_of_zero_le h0
  have hj : j < items.size := by omega
  have hx' : items[j]? = some items[j] := Array.getElem?_eq_getElem hj
  show wpAny _ _ ((seqItemAt l j >>= fun r => pure (r.map (j, ·))) >>= _) _ _ s
  refine wpAny_bind (wpAny_bind (wpAny_seqItemAt ho rfl (wpAny_pure ?_)))
  rw [hx']
  show wpAny _ _ (setSeqItemAt l j v >>= _) _ _ s
  have hfin : (s.heap.update l (Obj.mapSeq (·.setIfInBounds j v))).PlainList l (items.setIfInBounds j v) := ⟨_, PySem.IsL.update ho _⟩
  refine wpAny_bind (wpAny_setSeqItemAt ho rfl ?_)
  first
    | exact wpAny_bind (wpAny_pure (wpAny_pure ⟨.none, rfl, wpAny_pure (hQ _ hfin (Heap.SameBut.update ..))⟩))
    | exact wpAny_pure ⟨.none, rfl, wpAny_pure (hQ _ hfin (Heap.SameBut.update ..))⟩

/-- one list of the store is another now -/
theorem SR.turn {h h' : Heap} {k : Nat} {a : Addr} {ys : List V} {ws : List Value} (r : SR ht mt μ h) (hm : mt.l[k]? = some a) (hk : k < μ.length) (hs : Heap.SameBut a h h') (hp : h'.PlainList a ws.toArray) (q : VRs mt h ys ws) :
    SR ht mt (μ.set k ys) h' := by
  have hd : h'.get? a ≠ none := by obtain ⟨n, e⟩ := hp; rw [e]; exact fun q => by cases q
  have X : Ext None₀ mt h mt h' := .of_same hs (.inr (List.mem_of_getElem? hm)) hd
  exact {
    top := fun b o e => (hs.2 b fun q => by
      subst q
      have := r.new b (List.mem_of_getElem? hm)
      rw [this] at e; cases e).trans (r.top b o e)
    nodup := r.nodup
    len := by rw [List.length_set]; exact r.len
    st := fun i b xs e1 e2 => by
      by_cases e : i = k
      · subst e
        rw [hm] at e1; cases e1
        rw [List.getElem?_set_self hk] at e2; cases e2
        exact ⟨ws, hp, q.up X⟩
      · rw [List.getElem?_set_ne (Ne.symm e)] at e2
        obtain ⟨vs, p, z⟩ := r.st i b xs e1 e2
        have hba : b ≠ a := fun q => by
          subst q
          obtain ⟨l1, g1⟩ := List.getElem?_eq_some_iff.mp e1
          obtain ⟨l2, g2⟩ := List.getElem?_eq_some_iff.mp hm
          exact e ((List.getElem_inj r.nodup).mp (g1.trans g2.symm))
        exact ⟨vs, p.at fun o e => (hs.2 b hba).trans e, z.up X⟩
    new := r.new
    hid := fun b hb => by
      obtain ⟨⟨o, e⟩, z⟩ := r.hid b hb
      exact ⟨⟨o, (hs.2 b fun q => z.1 (q ▸ List.mem_of_getElem? hm)).trans e⟩, z⟩ }

theorem set_ok {o i v : V} {wo wi wv : Value} {μ' : Store} {Q : Unit → Shared → Prop} (e : setSt μ o i v = some μ') (r : SR ht mt μ s.heap) (ho : VR mt s.heap o wo) (hi : VR mt s.heap i wi) (hv : VR mt s.heap v wv)
    (k : ∀ h', Ext None₀ mt s.heap mt h' → SR ht mt μ' h' → Q () { s with heap := h' }) : wpAny (model prog w) A (setItem wo wi wv) Q Er s := by
  unfold setSt at e
  split at e
  · rename_i k' n
    rw [VR] at ho; rw [VR] at hi
    obtain ⟨a, rfl, hm⟩ := ho
    obtain ⟨t, rfl⟩ := hi
    split at e
    · rename_i xs hx
      split at e
      · rename_i hc
        cases e
        obtain ⟨vs, p, q⟩ := r.st _ _ _ hm hx
        have hl := q.length
        have b1 := lim_62
        have hkl : k' < μ.length := (List.getElem?_eq_some_iff.mp hx).1
        refine setPlain p hc.1 (by omega) (by simp only [List.size_toArray]; omega) fun h' hp hs => k h' (.of_same hs (.inr (List.mem_of_getElem? hm)) ?_) (r.turn hm hkl hs (ws := vs.set n.toNat wv) ?_ (VRs.set hv _ q))
        · obtain ⟨n, e⟩ := hp; rw [e]; exact fun q => by cases q
        · simpa using hp
      · cases e
    · cases e
  · cases e

theorem pop_ok {k' : Nat} {y : V} {ys : List V} {wo : Value} {t : Tok} (hx : μ[k']? = some (y :: ys)) (hl : ys.length ≤ lim) (r : SR ht mt μ s.heap) (ho : VR mt s.heap (.ref k') wo) (k : Nx ht s mt (μ.set k' ys) y Q) :
    wpAny (model prog w) A (call (.builtin "list.pop") [wo, .int 0 t]) Q Er s := by
  rw [VR] at ho
  obtain ⟨a, rfl, hm⟩ := ho
  obtain ⟨vs, ⟨n, p⟩, q⟩ := r.st _ _ _ hm hx
  obtain ⟨v, us, rfl, q1, q2⟩ := q.uncons
  have hz : (v :: us).toArray.size ≤ sizeLine := by
    rw [List.size_toArray, List.length_cons, q2.length]
    have : lim + 1 ≤ sizeLine := by decide
    omega
  have hkl : k' < μ.length := (List.getElem?_eq_some_iff.mp hx).1
  refine call_meets PySem.F.slot_list_pop ⟨_, p, rfl⟩ PySem.F.entry_list_pop (PySem.F.args_list_pop_2 _ _) (PySem.MeetsSeq.list_pop_at a (v :: us).toArray n 0 t 0 v (by decide) (by simp [seqIndex?]) (by simp) hz) ⟨p, ?_⟩
  have hp : (s.heap.update a (Obj.mapSeq fun xs => xs.eraseIdxIfInBounds 0)).PlainList a us.toArray := by
    have := PySem.IsL.update p fun xs => xs.eraseIdxIfInBounds 0
    have e : ((v :: us).toArray).eraseIdxIfInBounds 0 = us.toArray := by
      unfold Array.eraseIdxIfInBounds
      rw [dif_pos (by simp)]
      apply Array.toList_inj.mp
      rw [Array.toList_eraseIdx]
      rfl
    rw [e] at this
    exact ⟨_, this⟩
  have hs := Heap.SameBut.update s.heap a (Obj.mapSeq fun xs => xs.eraseIdxIfInBounds 0)
  have X : Ext None₀ mt s.heap mt (s.heap.update a (Obj.mapSeq fun xs => xs.eraseIdxIfInBounds 0)) := .of_same hs (.inr (List.mem_of_getElem? hm)) (by obtain ⟨n, e⟩ := hp; rw [e]; exact fun q => by cases q)
  exact k v _ s.toks mt X (r.turn hm hkl hs hp q2) (q1.up X)

end
end Mine

namespace Mine
open PySem PySem.Calls PyProof.Rows PySem.W
set_option maxRecDepth 100000
set_option autoImplicit false

noncomputable def biV (f : String) : Value := if f = "len" ∨ f = "abs" ∨ f = "max" then .builtin f else .type f
noncomputable def biNames : List String := ["len", "abs", "max", "list", "int", "range", "enumerate", "zip"]

/-- a name of the top -/
noncomputable def isG (sc : Scope) (x : Str) (f : String) : Bool := x == Str.ofString f && sc.names.lookup x == some NameKind.globalImplicit && x != Str.ofString "__debug__"
noncomputable def isB (sc : Scope) (x : Str) (f : String) : Bool := isG sc x f && biNames.contains f

/-- the scope of a comprehension's block within a frame -/
noncomputable def inner (sc csc : Scope) : Scope := { csc with names := csc.names.map fun (n, k) => if (k == .free && sc.kind == .function && sc.names.lookup n == some .cell) then (n, .cell) else (n, k) }

theorem bnd {α β : Type} {o : Option α} {f : α → Option β} {b : β} (h : (o >>= f) = some b) : ∃ a, o = some a ∧ f a = some b := Option.bind_eq_some_iff.mp h
theorem and2 {a b : Bool} (h : (a && b) = true) : a = true ∧ b = true := Bool.and_eq_true_iff.mp h
noncomputable def anyO {α : Type} (o : Option α) (f : α → Bool) : Bool := match o with | some a => f a | Option.none => false
theorem anyO_eq {α : Type} {o : Option α} {f : α → Bool} (h : anyO o f = true) : ∃ a, f a = true := by
  cases o with
  | none => cases h
  | some a => exact ⟨a, h⟩

/- an expression's parts, and that it is made of them -/
noncomputable def wInt (e : Expr) : Option { q : Int × Nat × Pos // e = .Constant (.int q.1) q.2.1 q.2.2 } := match e with | .Constant (.int i) k p => some ⟨(i, k, p), rfl⟩ | _ => Option.none
noncomputable def wNone (e : Expr) : Option { q : Nat × Pos // e = .Constant .none q.1 q.2 } := match e with | .Constant .none k p => some ⟨(k, p), rfl⟩ | _ => Option.none
noncomputable def wBoolC (e : Expr) : Option { q : Bool × Nat × Pos // e = .Constant (.bool q.1) q.2.1 q.2.2 } := match e with | .Constant (.bool i) k p => some ⟨(i, k, p), rfl⟩ | _ => Option.none
noncomputable def wName (e : Expr) : Option { q : Str × Pos // e = .Name q.1 q.2 } := match e with | .Name x p => some ⟨(x, p), rfl⟩ | _ => Option.none
noncomputable def wBin (e : Expr) : Option { q : Expr × Operator × Expr × Pos // e = .BinOp q.1 q.2.1 q.2.2.1 q.2.2.2 } := match e with | .BinOp l o r p => some ⟨(l, o, r, p), rfl⟩ | _ => Option.none
noncomputable def wNeg (e : Expr) : Option { q : Expr × Pos // e = .UnaryOp .USub q.1 q.2 } := match e with | .UnaryOp .USub x p => some ⟨(x, p), rfl⟩ | _ => Option.none
noncomputable def wCmp (e : Expr) : Option { q : Expr × CmpOp × Expr × Pos // e = .Compare q.1 [q.2.1] [q.2.2.1] q.2.2.2 } := match e with | .Compare l [o] [r] p => some ⟨(l, o, r, p), rfl⟩ | _ => Option.none
noncomputable def wBool (e : Expr) : Option { q : BoolOp × Expr × Expr × Pos // e = .BoolOp q.1 [q.2.1, q.2.2.1] q.2.2.2 } := match e with | .BoolOp o [x, y] p => some ⟨(o, x, y, p), rfl⟩ | _ => Option.none
noncomputable def wIf (e : Expr) : Option { q : Expr × Expr × Expr × Pos // e = .IfExp q.1 q.2.1 q.2.2.1 q.2.2.2 } := match e with | .IfExp x y z p => some ⟨(x, y, z, p), rfl⟩ | _ => Option.none
noncomputable def wL0 (e : Expr) : Option { q : Pos // e = .List [] q } := match e with | .List [] p => some ⟨p, rfl⟩ | _ => Option.none
noncomputable def wL1 (e : Expr) : Option { q : Expr × Pos // e = .List [q.1] q.2 } := match e with | .List [x] p => some ⟨(x, p), rfl⟩ | _ => Option.none
noncomputable def wL2 (e : Expr) : Option { q : Expr × Expr × Pos // e = .List [q.1, q.2.1] q.2.2 } := match e with | .List [x, y] p => some ⟨(x, y, p), rfl⟩ | _ => Option.none
noncomputable def wT2 (e : Expr) : Option { q : Expr × Expr × Nat × Pos // e = .Tuple [q.1, q.2.1] q.2.2.1 q.2.2.2 } := match e with | .Tuple [x, y] k p => some ⟨(x, y, k, p), rfl⟩ | _ => Option.none
noncomputable def wT3 (e : Expr) : Option { q : Expr × Expr × Expr × Nat × Pos // e = .Tuple [q.1, q.2.1, q.2.2.1] q.2.2.2.1 q.2.2.2.2 } := match e with | .Tuple [x, y, z] k p => some ⟨(x, y, z, k, p), rfl⟩ | _ => Option.none
noncomputable def wT4 (e : Expr) : Option { q : Expr × Expr × Expr × Expr × Nat × Pos // e = .Tuple [q.1, q.2.1, q.2.2.1, q.2.2.2.1] q.2.2.2.2.1 q.2.2.2.2.2 } := match e with | .Tuple [x, y, z, u] k p => some ⟨(x, y, z, u, k, p), rfl⟩ | _ => Option.none
noncomputable def wC1 (e : Expr) : Option { q : Str × Pos × Expr × Pos // e = .Call (.Name q.1 q.2.1) [q.2.2.1] [] q.2.2.2 } := match e with | .Call (.Name f p) [x] [] q => some ⟨(f, p, x, q), rfl⟩ | _ => Option.none
noncomputable def wC2 (e : Expr) : Option { q : Str × Pos × Expr × Expr × Pos // e = .Call (.Name q.1 q.2.1) [q.2.2.1, q.2.2.2.1] [] q.2.2.2.2 } := match e with | .Call (.Name f p) [x, y] [] q => some ⟨(f, p, x, y, q), rfl⟩ | _ => Option.none
noncomputable def wC3 (e : Expr) : Option { q : Str × Pos × Expr × Expr × Expr × Pos // e = .Call (.Name q.1 q.2.1) [q.2.2.1, q.2.2.2.1, q.2.2.2.2.1] [] q.2.2.2.2.2 } := match e with | .Call (.Name f p) [x, y, z] [] q => some ⟨(f, p, x, y, z, q), rfl⟩ | _ => Option.none
noncomputable def wSub (e : Expr) : Option { q : Expr × Expr × Pos // e = .Subscript q.1 q.2.1 q.2.2 } := match e with | .Subscript v k p => some ⟨(v, k, p), rfl⟩ | _ => Option.none
noncomputable def wUpto (e : Expr) : Option { q : Expr × Expr × Pos × Pos // e = .Subscript q.1 (.Slice Option.none (some q.2.1) Option.none q.2.2.1) q.2.2.2 } := match e with | .Subscript v (.Slice Option.none (some k) Option.none p) r => some ⟨(v, k, p, r), rfl⟩ | _ => Option.none
noncomputable def wFrom (e : Expr) : Option { q : Expr × Int × Nat × Pos × Pos × Pos // e = .Subscript q.1 (.Slice (some (.Constant (.int q.2.1) q.2.2.1 q.2.2.2.1)) Option.none Option.none q.2.2.2.2.1) q.2.2.2.2.2 } := match e with | .Subscript v (.Slice (some (.Constant (.int j) k c)) Option.none Option.none p) r => some ⟨(v, j, k, c, p, r), rfl⟩ | _ => Option.none
noncomputable def wPop (e : Expr) : Option { q : Expr × Expr × Pos × Str × Pos × Int × Nat × Pos × Pos // e = .Call (.Attribute (.Subscript q.1 q.2.1 q.2.2.1) q.2.2.2.1 q.2.2.2.2.1) [.Constant (.int q.2.2.2.2.2.1) q.2.2.2.2.2.2.1 q.2.2.2.2.2.2.2.1] [] q.2.2.2.2.2.2.2.2 } :=
  match e with | .Call (.Attribute (.Subscript v k p) x a) [.Constant (.int j) n c] [] r => some ⟨(v, k, p, x, a, j, n, c, r), rfl⟩ | _ => Option.none
noncomputable def wComp (e : Expr) : Option { q : Expr × Expr × Expr × List Expr × Int × Scope × Pos // e = .ListComp q.1 [⟨q.2.1, q.2.2.1, q.2.2.2.1, q.2.2.2.2.1⟩] q.2.2.2.2.2.1 q.2.2.2.2.2.2 } := match e with | .ListComp x [⟨t, i, f, a⟩] s p => some ⟨(x, t, i, f, a, s, p), rfl⟩ | _ => Option.none
noncomputable def wTN (e : Expr) : Option { q : Str × Pos × Str × Pos × Nat × Pos // e = .Tuple [.Name q.1 q.2.1, .Name q.2.2.1 q.2.2.2.1] q.2.2.2.2.1 q.2.2.2.2.2 } := match e with | .Tuple [.Name x px, .Name y py] k p => some ⟨(x, px, y, py, k, p), rfl⟩ | _ => Option.none

noncomputable def tgtNames (two : Bool) (t : Expr) : Option (List Str) := if two = true then (wTN t).map fun q => [q.1.1, q.1.2.2.1] else (wName t).map fun q => [q.1.1]
theorem tgtNames_one {t : Expr} {tg : List Str} (h : tgtNames false t = some tg) : ∃ x p, t = .Name x p ∧ tg = [x] := by
  obtain ⟨⟨⟨x, p⟩, e⟩, _, h⟩ := Option.map_eq_some_iff.mp (show (wName t).map _ = some tg from h)
  exact ⟨x, p, e, h.symm⟩
theorem tgtNames_two {t : Expr} {tg : List Str} (h : tgtNames true t = some tg) : ∃ x px y py k p, t = .Tuple [.Name x px, .Name y py] k p ∧ tg = [x, y] := by
  obtain ⟨⟨⟨x, px, y, py, k, p⟩, e⟩, _, h⟩ := Option.map_eq_some_iff.mp (show (wTN t).map _ = some tg from h)
  exact ⟨x, px, y, py, k, p, e, h.symm⟩

noncomputable def wNilE (e : E) : Option (PLift (e = .nil)) := match e with | .nil => some ⟨rfl⟩ | _ => Option.none
noncomputable def wTrueE (e : E) : Option (PLift (e = .bool true)) := match e with | .bool true => some ⟨rfl⟩ | _ => Option.none
noncomputable def isSet (e : Expr) : Bool := match e with | .Set .. => true | _ => false
noncomputable def isStar (e : Expr) : Bool := match e with | .Starred .. => true | _ => false
noncomputable def isSlice (e : Expr) : Bool := match e with | .Slice .. => true | _ => false

/-- what a comprehension's block must be like -/
noncomputable def compOk (sc csc : Scope) (nm caps tgts : List Str) : Bool :=
  decide (csc.kind = .function) && decide ((caps ++ tgts).Nodup) &&
  (csc.names.all fun y => (y.2 != .local || csc.names.lookup y.1 == some .local) && (y.2 != .free || caps.contains y.1) && (y.2 != .cell || tgts.contains y.1)) &&
  (caps.all fun c => csc.names.lookup c == some .free && sc.names.lookup c != some .local && nm.contains c) && (tgts.all fun t => csc.names.lookup t == some .local || csc.names.lookup t == some .cell)

noncomputable def capNames (nm : List Str) (caps : List Nat) : Option (List Str) := caps.mapM fun i => nm[i]?

noncomputable def m : E → Bool → Scope → List Str → Expr → Bool
  | .int i, t, _, _, pe => !t && anyO (wInt pe) fun q => i == q.1.1
  | .none, t, _, _, pe => !t && anyO (wNone pe) fun _ => true
  | .bool b, t, _, _, pe => !t && anyO (wBoolC pe) fun q => b == q.1.1
  | .var i, t, _, nm, pe => !t && anyO (wName pe) fun q => nm[i]? == some q.1.1 && q.1.1 != Str.ofString "__debug__" && q.1.1 != Str.ofString "__classdict__"
  | .bin op a b, t, sc, nm, pe => !t && anyO (wBin pe) fun q => q.1.2.1 == opOf op && m a false sc nm q.1.1 && m b false sc nm q.1.2.2.1
  | .neg a, t, sc, nm, pe => !t && anyO (wNeg pe) fun q => m a false sc nm q.1.1
  | .cmp op a b, _, sc, nm, pe => anyO (wCmp pe) fun q => q.1.2.1 == cmOf op && m a false sc nm q.1.1 && m b false sc nm q.1.2.2.1 && !behindInMarks q.1.2.1 q.1.2.2.1
  | .isNone a, _, sc, nm, pe => anyO (wCmp pe) fun q => q.1.2.1 == .Is && (wNone q.1.2.2.1).isSome && m a false sc nm q.1.1
  | .and a b, t, sc, nm, pe => t && anyO (wBool pe) fun q => q.1.1 == .And && m a true sc nm q.1.2.1 && m b true sc nm q.1.2.2.1
  | .or a b, t, sc, nm, pe => t && anyO (wBool pe) fun q => q.1.1 == .Or && m a true sc nm q.1.2.1 && m b true sc nm q.1.2.2.1
  | .ite c a b, t, sc, nm, pe => !t && anyO (wIf pe) fun q => m c true sc nm q.1.1 && m a false sc nm q.1.2.1 && m b false sc nm q.1.2.2.1
  | .nil, t, _, _, pe => !t && anyO (wL0 pe) fun _ => true
  | .single a, t, sc, nm, pe => !t && anyO (wL1 pe) fun q => m a false sc nm q.1.1 && !isStar q.1.1
  | .mpair a b, t, sc, nm, pe => !t && anyO (wL2 pe) fun q => m a false sc nm q.1.1 && m b false sc nm q.1.2.1 && !isStar q.1.1 && !isStar q.1.2.1
  | .tup2 a b, t, sc, nm, pe => !t && anyO (wT2 pe) fun q => m a false sc nm q.1.1 && m b false sc nm q.1.2.1 && !isStar q.1.1 && !isStar q.1.2.1
  | .tup3 a b c, t, sc, nm, pe => !t && anyO (wT3 pe) fun q => m a false sc nm q.1.1 && m b false sc nm q.1.2.1 && m c false sc nm q.1.2.2.1 && !isStar q.1.1 && !isStar q.1.2.1 && !isStar q.1.2.2.1
  | .tup4 a b c d, t, sc, nm, pe => !t && anyO (wT4 pe) fun q => m a false sc nm q.1.1 && m b false sc nm q.1.2.1 && m c false sc nm q.1.2.2.1 && m d false sc nm q.1.2.2.2.1 && !isStar q.1.1 && !isStar q.1.2.1 && !isStar q.1.2.2.1 && !isStar q.1.2.2.2.1
  | .len a, t, sc, nm, pe => !t && anyO (wC1 pe) fun q => isB sc q.1.1 "len" && m a false sc nm q.1.2.2.1 && !isStar q.1.2.2.1
  | .abs a, t, sc, nm, pe => !t && anyO (wC1 pe) fun q => isB sc q.1.1 "abs" && m a false sc nm q.1.2.2.1 && !isStar q.1.2.2.1
  | .max a b, t, sc, nm, pe => !t && anyO (wC2 pe) fun q => isB sc q.1.1 "max" && m a false sc nm q.1.2.2.1 && m b false sc nm q.1.2.2.2.1 && !isStar q.1.2.2.1 && !isStar q.1.2.2.2.1
  | .lst a, t, sc, nm, pe => !t && anyO (wC1 pe) fun q => isB sc q.1.1 "list" && m a false sc nm q.1.2.2.1 && !isStar q.1.2.2.1
  | .mlst a, t, sc, nm, pe => !t && anyO (wC1 pe) fun q => isB sc q.1.1 "list" && m a false sc nm q.1.2.2.1 && !isStar q.1.2.2.1
  | .toInt a, t, sc, nm, pe => !t && anyO (wC1 pe) fun q => isB sc q.1.1 "int" && m a false sc nm q.1.2.2.1 && !isStar q.1.2.2.1
  | .range1 a, t, sc, nm, pe => !t && anyO (wC1 pe) fun q => isB sc q.1.1 "range" && m a false sc nm q.1.2.2.1 && !isStar q.1.2.2.1
  | .range2 a b, t, sc, nm, pe => !t && anyO (wC2 pe) fun q => isB sc q.1.1 "range" && m a false sc nm q.1.2.2.1 && m b false sc nm q.1.2.2.2.1 && !isStar q.1.2.2.1 && !isStar q.1.2.2.2.1
  | .call1 g a, t, sc, nm, pe => !t && anyO (wC1 pe) fun q => isG sc q.1.1 g && m a false sc nm q.1.2.2.1 && !isStar q.1.2.2.1
  | .call2 g a b, t, sc, nm, pe => !t && anyO (wC2 pe) fun q => isG sc q.1.1 g && m a false sc nm q.1.2.2.1 && m b false sc nm q.1.2.2.2.1 && !isStar q.1.2.2.1 && !isStar q.1.2.2.2.1
  | .call3 g a b c, t, sc, nm, pe => !t && anyO (wC3 pe) fun q => isG sc q.1.1 g && m a false sc nm q.1.2.2.1 && m b false sc nm q.1.2.2.2.1 && m c false sc nm q.1.2.2.2.2.1 && !isStar q.1.2.2.1 && !isStar q.1.2.2.2.1 && !isStar q.1.2.2.2.2.1
  | .item a i, t, sc, nm, pe => !t && anyO (wSub pe) fun q => m a false sc nm q.1.1 && m i false sc nm q.1.2.1 && !isSlice q.1.2.1
  | .upto a i, t, sc, nm, pe => !t && anyO (wUpto pe) fun q => m a false sc nm q.1.1 && m i false sc nm q.1.2.1
  | .from1 a, t, sc, nm, pe => !t && anyO (wFrom pe) fun q => q.1.2.1 == 1 && m a false sc nm q.1.1
  | .comp _ two sk caps src src2 cond elt, t, sc, nm, pe => !t && anyO (wComp pe) fun q => q.1.2.2.2.2.1 == 0 &&
      (anyO (tgtNames two q.1.2.1) fun tg => anyO (capNames nm caps) fun cp => true) && compOk sc q.1.2.2.2.2.2.1 nm ((capNames nm caps).getD []) ((tgtNames two q.1.2.1).getD []) && (two || sk == .plain) && (!two || sk != .plain) &&
      m elt false (inner sc q.1.2.2.2.2.2.1) ((capNames nm caps).getD [] ++ (tgtNames two q.1.2.1).getD []) q.1.1 &&
      (match q.1.2.2.2.1 with
        | [] => (wTrueE cond).isSome
        | [c] => !two && m cond true (inner sc q.1.2.2.2.2.2.1) ((capNames nm caps).getD [] ++ (tgtNames two q.1.2.1).getD []) c
        | _ => false) &&
      (match sk with
        | .plain => m src false sc nm q.1.2.2.1 && (wNilE src2).isSome && !isSet q.1.2.2.1
        | .enum => (wNilE src2).isSome && anyO (wC1 q.1.2.2.1) fun z => isB sc z.1.1 "enumerate" && m src false sc nm z.1.2.2.1 && !isStar z.1.2.2.1
        | .zip => anyO (wC2 q.1.2.2.1) fun z => isB sc z.1.1 "zip" && m src false sc nm z.1.2.2.1 && m src2 false sc nm z.1.2.2.2.1 && !isStar z.1.2.2.1 && !isStar z.1.2.2.2.1)
  | .pop0 a, t, sc, nm, pe => !t && anyO (wPop pe) fun q => q.1.2.2.2.1 == Str.ofString "pop" && q.1.2.2.2.2.2.1 == 0 && q.1.2.2.2.2.1.endLine == q.1.2.2.2.2.2.2.2.2.line && m a false sc nm (.Subscript q.1.1 q.1.2.1 q.1.2.2.1)

/-- the names of the top that the frame's code reads -/
structure Cx (ht : Heap) (mg mb : Str → Option Value) : Prop where
  g : ht.Ns mainGlobals mg
  b : ht.Ns builtinsNs mb
  nolimit : ht.NoLimit
  bi : ∀ f ∈ biNames, mg (Str.ofString f) = none ∧ mb (Str.ofString f) = some (biV f)

noncomputable def OkA (n : Nat) (A : Around) : Prop := A.handled = none ∧ A.depth + n < recursionLimit ∧ A.units + 8 * n + 100 < cLine
theorem OkA.units {n : Nat} {A : Around} (h : OkA n A) : A.units < cLine := by have := h.2.2; omega

section
variable (prog : Program) (w : World) (ht : Heap) (mg mb : Str → Option Value) (n : Nat) (orc : Orc)

/-- a call of a def of the top, as it was foreseen -/
noncomputable def CallOk (f : String) (args : List V) (μ : Store) (v : V) (μ' : Store) : Prop :=
  ∀ (A : Around) (s : Shared) (mt : Pl) (ws : List Value) (Q Er : Value → Shared → Prop) (a : Addr), OkA n A → mg (Str.ofString f) = some (.ref a) → SR ht mt μ s.heap → VRs mt s.heap args ws → Nx ht s mt μ' v Q →
    wpAny (model prog w) A (call (.ref a) ws) Q Er s

noncomputable def OrcOk : Prop := ∀ f args μ v μ', orc f args μ = some (v, μ') → (∃ a o fd, mg (Str.ofString f) = some (.ref a) ∧ ht.get? a = some o ∧ o.data = .func fd) ∧ CallOk prog w ht mg n f args μ v μ'

/-- an expression's value, as it was foreseen -/
noncomputable def VOk (e : E) : Prop :=
  ∀ (sc : Scope) (nm : List Str) (pe : Expr) (env : Env) (A : Around) (σ : List V) (μ : Store) (v : V) (μ' : Store) (s : Shared) (mt : Pl) (Q Er : Value → Shared → Prop),
    m e false sc nm pe = true → EOk ht sc nm env → OkA n A → ev orc e σ μ = some (v, μ') → SR ht mt μ s.heap → FR nm env mt σ s.heap → Nx ht s mt μ' v Q → wpAny (model prog w) A (eval pe env) Q Er s

/-- a test's -/
noncomputable def TOk (e : E) : Prop :=
  ∀ (sc : Scope) (nm : List Str) (pe : Expr) (env : Env) (A : Around) (σ : List V) (μ : Store) (v : V) (μ' : Store) (s : Shared) (mt : Pl) (Q : Bool → Shared → Prop) (Er : Value → Shared → Prop) (whole : Sem Value),
    m e true sc nm pe = true → EOk ht sc nm env → OkA n A → ev orc e σ μ = some (v, μ') → SR ht mt μ s.heap → FR nm env mt σ s.heap →
    (∀ b h' tk mt', v = .bool b → Ext None₀ mt s.heap mt' h' → SR ht mt' μ' h' → Q b { s with heap := h', toks := tk }) → wpAny (model prog w) A (isTrue pe env whole) Q Er s
end

section
variable {prog : Program} {w : World} {ht : Heap} {mg mb : Str → Option Value} {n : Nat} {orc : Orc}

theorem FR.nx {nm : List Str} {env : Env} {mt mt' : Pl} {σ : List V} {μ : Store} {h h' : Heap} (f : FR nm env mt σ h) (r : SR ht mt μ h) (x : Ext None₀ mt h mt' h') : FR nm env mt' σ h' := f.up x fun _ ha => f.off r ha

theorem vok_int {i : Int} : VOk prog w ht n orc (.int i) := by
  intro sc nm pe env A σ μ v μ' s mt Q Er hm he hA hv r f k
  rw [ev] at hv; cases hv
  obtain ⟨⟨⟨j, kk, p⟩, rfl⟩, hm⟩ := anyO_eq (and2 hm).2
  obtain rfl : i = j := of_decide_eq_true hm
  · exact wpAny_Constant_int (k.now r (by rw [VR]; exact ⟨_, rfl⟩) _)
theorem vok_none : VOk prog w ht n orc .none := by
  intro sc nm pe env A σ μ v μ' s mt Q Er hm he hA hv r f k
  rw [ev] at hv; cases hv
  obtain ⟨⟨⟨kk, p⟩, rfl⟩, hm⟩ := anyO_eq (and2 hm).2
  · exact wpAny_pure (k.now r (by rw [VR]) s.toks)
theorem vok_bool {b : Bool} : VOk prog w ht n orc (.bool b) := by
  intro sc nm pe env A σ μ v μ' s mt Q Er hm he hA hv r f k
  rw [ev] at hv; cases hv
  obtain ⟨⟨⟨c, kk, p⟩, rfl⟩, hm⟩ := anyO_eq (and2 hm).2
  obtain rfl : b = c := beq_iff_eq.mp hm
  · exact wpAny_pure (k.now r (by rw [VR]) s.toks)

theorem vok_var {i : Nat} : VOk prog w ht n orc (.var i) := by
  intro sc nm pe env A σ μ v μ' s mt Q Er hm he hA hv r f k
  rw [ev] at hv
  obtain ⟨⟨⟨x, p⟩, rfl⟩, hm'⟩ := anyO_eq (and2 hm).2
  · obtain ⟨hm, hc⟩ := and2 hm'
    obtain ⟨hx, hd⟩ := and2 hm
    have hx : nm[i]? = some x := by simpa using hx
    have hd : (x == Str.ofString "__debug__") = false := by simpa using hd
    have hc : (x == Str.ofString "__classdict__") = false := by simpa using hc
    have hv' : σ[i]? = some v ∧ v ≠ .unb ∧ μ' = μ := by
      split at hv
      · cases hv
      · rename_i u hu _; cases hv; exact ⟨by assumption, by intro q; subst q; simp_all, rfl⟩
      · cases hv
    obtain ⟨hs, hu, rfl⟩ := hv'
    refine wpAny_Name ?_ hd
    have hk := he.kindOf x
    rcases he.kinds x (List.mem_of_getElem? hx) with q | ⟨q, _⟩
    · obtain ⟨mm, hn, hh⟩ := f.ns
      rcases hh i x v hx hs (by rw [hk]; exact q) with e | ⟨mv, e1, e2⟩
      · exact absurd e hu
      · exact wpAny_loadName_local he.fn (by rw [hk]; exact q) hn e1 (k.now (tk := s.toks) r e2)
    · rcases f.cl i x v hx hs (by rw [hk]; rcases q with q | q <;> rw [q] <;> decide) with e | ⟨c, mv, e1, e2, e3⟩
      · exact absurd e hu
      · rcases q with q | q
        · exact wpAny_loadName_cell he.fn (by rw [hk]; exact q) e1 e2 (k.now (tk := s.toks) r e3)
        · exact wpAny_loadName_free he.fn (by rw [hk]; exact q) e1 e2 (k.now (tk := s.toks) r e3) hc

theorem vok_bin {op : Op2} {a b : E} (ha : VOk prog w ht n orc a) (hb : VOk prog w ht n orc b) : VOk prog w ht n orc (.bin op a b) := by
  intro sc nm pe env A σ μ v μ' s mt Q Er hm he hA hv r f k
  rw [ev] at hv
  obtain ⟨⟨⟨l, o, rr, p⟩, rfl⟩, hm⟩ := anyO_eq (and2 hm).2
  · obtain ⟨hm, m2⟩ := and2 hm
    obtain ⟨mo, m1⟩ := and2 hm
    obtain rfl : o = opOf op := by simpa using mo
    obtain ⟨⟨x, μ₁⟩, h1, hv⟩ := bnd hv
    obtain ⟨⟨y, μ₂⟩, h2, hv⟩ := bnd hv
    obtain ⟨z, h3, hv⟩ := bnd hv
    cases hv
    refine wpAny_BinOp (ha sc nm _ env A σ μ x μ₁ s mt _ _ m1 he hA h1 r f fun wa h₁ t₁ mt₁ x₁ r₁ v₁ => ?_)
    refine hb sc nm _ env A σ μ₁ y μ' _ mt₁ _ _ m2 he hA h2 r₁ (f.nx r x₁) fun wb h₂ t₂ mt₂ x₂ r₂ v₂ => ?_
    exact bin_ok hA.1 h3 r₂ (v₁.up x₂) v₂ ((k.on x₁).on x₂)

theorem vok_neg {a : E} (ha : VOk prog w ht n orc a) : VOk prog w ht n orc (.neg a) := by
  intro sc nm pe env A σ μ v μ' s mt Q Er hm he hA hv r f k
  rw [ev] at hv
  obtain ⟨⟨⟨x, p⟩, rfl⟩, hm⟩ := anyO_eq (and2 hm).2
  · obtain ⟨⟨y, μ₁⟩, h1, hv⟩ := bnd hv
    dsimp only at hv
    split at hv
    · cases hv
      refine PyProof.Rows.UnaryOp_ (ha sc nm _ env A σ μ _ μ' s mt _ _ hm he hA h1 r f fun wa h₁ t₁ mt₁ x₁ r₁ v₁ => ?_)
      rw [VR] at v₁
      obtain ⟨t, rfl⟩ := v₁
      exact PyProof.Rows.neg_int ((k.on x₁).now r₁ (by rw [VR]; exact ⟨_, rfl⟩) _)
    · cases hv

end
end Mine

namespace Mine
open PySem PySem.Calls PyProof.Rows PySem.W
set_option maxRecDepth 100000
set_option autoImplicit false

section
variable {prog : Program} {w : World} {ht : Heap} {mg mb : Str → Option Value} {n : Nat} {orc : Orc}

theorem star_eq {x : Expr} (h : (!isStar x) = true) (rest : List Expr) (env : Env) : starEach (x :: rest) env = (false, eval x env) :: starEach rest env := by
  cases x <;> first | rfl | cases h

theorem plain_nil (pos : Pos) (env : Env) : (backTo pos (starEach [] env)).any (·.1) = false := rfl
theorem plain_one {x : Expr} (h : (!isStar x) = true) (pos : Pos) (env : Env) : (backTo pos (starEach [x] env)).any (·.1) = false := by
  rw [star_eq h]; rfl
theorem plain_two {x y : Expr} (h : (!isStar x) = true) (h' : (!isStar y) = true) (pos : Pos) (env : Env) : (backTo pos (starEach [x, y] env)).any (·.1) = false := by
  rw [star_eq h, star_eq h']; rfl

section
variable {sc : Scope} {nm : List Str} {env : Env} {A : Around} {σ : List V} {μ μ' : Store} {s : Shared} {mt : Pl} {pos : Pos} {Er : Value → Shared → Prop}
/-- what the arguments come to -/
noncomputable def NxL (ht : Heap) (s : Shared) (mt : Pl) (μ : Store) (vs : List V) (Q : List Value → Shared → Prop) : Prop :=
  ∀ ws h' tk mt', Ext None₀ mt s.heap mt' h' → SR ht mt' μ h' → VRs mt' h' vs ws → Q ws { s with heap := h', toks := tk }

theorem args1 {a : E} {x : Expr} {va : V} {Q : List Value → Shared → Prop} (ha : VOk prog w ht n orc a) (ma : m a false sc nm x = true) (sa : (!isStar x) = true) (he : EOk ht sc nm env) (hA : OkA n A)
    (ea : ev orc a σ μ = some (va, μ')) (r : SR ht mt μ s.heap) (f : FR nm env mt σ s.heap) (k : NxL ht s mt μ' [va] Q) : wpAny (model prog w) A (spliced (backTo pos (starEach [x] env))) Q Er s := by
  refine spliced_more (ha sc nm _ env A σ μ va μ' s mt _ _ ma he hA ea r f fun wa h₁ t₁ mt₁ x₁ r₁ v₁ => ?_) (star_eq sa _ _)
  exact spliced_none (k _ h₁ t₁ mt₁ x₁ r₁ (VRs.one v₁))

theorem args2 {a b : E} {x y : Expr} {va vb : V} {μ₁ : Store} {Q : List Value → Shared → Prop} (ha : VOk prog w ht n orc a) (hb : VOk prog w ht n orc b) (ma : m a false sc nm x = true) (mb : m b false sc nm y = true) (sa : (!isStar x) = true) (sb : (!isStar y) = true) (he : EOk ht sc nm env) (hA : OkA n A)
    (ea : ev orc a σ μ = some (va, μ₁)) (eb : ev orc b σ μ₁ = some (vb, μ')) (r : SR ht mt μ s.heap) (f : FR nm env mt σ s.heap) (k : NxL ht s mt μ' [va, vb] Q) : wpAny (model prog w) A (spliced (backTo pos (starEach [x, y] env))) Q Er s := by
  refine spliced_more (ha sc nm _ env A σ μ va μ₁ s mt _ _ ma he hA ea r f fun wa h₁ t₁ mt₁ x₁ r₁ v₁ => ?_) (star_eq sa _ _)
  refine spliced_more (hb sc nm _ env A σ μ₁ vb μ' _ mt₁ _ _ mb he hA eb r₁ (f.nx r x₁) fun wb h₂ t₂ mt₂ x₂ r₂ v₂ => ?_) (star_eq sb _ _)
  exact spliced_none (k _ h₂ t₂ mt₂ (x₁.trans x₂) r₂ (VRs.cons (v₁.up x₂) (VRs.one v₂)))

theorem args3 {a b c : E} {x y z : Expr} {va vb vc : V} {μ₁ μ₂ : Store} {Q : List Value → Shared → Prop} (ha : VOk prog w ht n orc a) (hb : VOk prog w ht n orc b) (hc : VOk prog w ht n orc c) (ma : m a false sc nm x = true) (mb : m b false sc nm y = true) (mc : m c false sc nm z = true) (sa : (!isStar x) = true) (sb : (!isStar y) = true) (sc' : (!isStar z) = true) (he : EOk ht sc nm env) (hA : OkA n A)
    (ea : ev orc a σ μ = some (va, μ₁)) (eb : ev orc b σ μ₁ = some (vb, μ₂)) (ec : ev orc c σ μ₂ = some (vc, μ')) (r : SR ht mt μ s.heap) (f : FR nm env mt σ s.heap) (k : NxL ht s mt μ' [va, vb, vc] Q) : wpAny (model prog w) A (spliced (backTo pos (starEach [x, y, z] env))) Q Er s := by
  refine spliced_more (ha sc nm _ env A σ μ va μ₁ s mt _ _ ma he hA ea r f fun wa h₁ t₁ mt₁ x₁ r₁ v₁ => ?_) (star_eq sa _ _)
  have f₁ := f.nx r x₁
  refine spliced_more (hb sc nm _ env A σ μ₁ vb μ₂ _ mt₁ _ _ mb he hA eb r₁ f₁ fun wb h₂ t₂ mt₂ x₂ r₂ v₂ => ?_) (star_eq sb _ _)
  have f₂ := f₁.nx r₁ x₂
  refine spliced_more (hc sc nm _ env A σ μ₂ vc μ' _ mt₂ _ _ mc he hA ec r₂ f₂ fun wc h₃ t₃ mt₃ x₃ r₃ v₃ => ?_) (star_eq sc' _ _)
  exact spliced_none (k _ h₃ t₃ mt₃ ((x₁.trans x₂).trans x₃) r₃ (VRs.cons (v₁.up (x₂.trans x₃)) (VRs.cons (v₂.up x₃) (VRs.one v₃))))

theorem args4 {a b c d : E} {x y z u : Expr} {va vb vc vd : V} {μ₁ μ₂ μ₃ : Store} {Q : List Value → Shared → Prop} (ha : VOk prog w ht n orc a) (hb : VOk prog w ht n orc b) (hc : VOk prog w ht n orc c) (hd : VOk prog w ht n orc d)
    (ma : m a false sc nm x = true) (mb : m b false sc nm y = true) (mc : m c false sc nm z = true) (md : m d false sc nm u = true) (sa : (!isStar x) = true) (sb : (!isStar y) = true) (sc' : (!isStar z) = true) (sd : (!isStar u) = true) (he : EOk ht sc nm env) (hA : OkA n A)
    (ea : ev orc a σ μ = some (va, μ₁)) (eb : ev orc b σ μ₁ = some (vb, μ₂)) (ec : ev orc c σ μ₂ = some (vc, μ₃)) (ed : ev orc d σ μ₃ = some (vd, μ')) (r : SR ht mt μ s.heap) (f : FR nm env mt σ s.heap) (k : NxL ht s mt μ' [va, vb, vc, vd] Q) : wpAny (model prog w) A (spliced (backTo pos (starEach [x, y, z, u] env))) Q Er s := by
  refine spliced_more (ha sc nm _ env A σ μ va μ₁ s mt _ _ ma he hA ea r f fun wa h₁ t₁ mt₁ x₁ r₁ v₁ => ?_) (star_eq sa _ _)
  have f₁ := f.nx r x₁
  refine spliced_more (hb sc nm _ env A σ μ₁ vb μ₂ _ mt₁ _ _ mb he hA eb r₁ f₁ fun wb h₂ t₂ mt₂ x₂ r₂ v₂ => ?_) (star_eq sb _ _)
  have f₂ := f₁.nx r₁ x₂
  refine spliced_more (hc sc nm _ env A σ μ₂ vc μ₃ _ mt₂ _ _ mc he hA ec r₂ f₂ fun wc h₃ t₃ mt₃ x₃ r₃ v₃ => ?_) (star_eq sc' _ _)
  have f₃ := f₂.nx r₂ x₃
  refine spliced_more (hd sc nm _ env A σ μ₃ vd μ' _ mt₃ _ _ md he hA ed r₃ f₃ fun wd h₄ t₄ mt₄ x₄ r₄ v₄ => ?_) (star_eq sd _ _)
  exact spliced_none (k _ h₄ t₄ mt₄ (((x₁.trans x₂).trans x₃).trans x₄) r₄ (VRs.cons (v₁.up ((x₂.trans x₃).trans x₄)) (VRs.cons (v₂.up (x₃.trans x₄)) (VRs.cons (v₃.up x₄) (VRs.one v₄)))))

theorem NxL.from {vs : List V} {h₁ : Heap} {tk₁ : Nat} {mt₁ : Pl} {Q : List Value → Shared → Prop} (k : NxL ht s mt μ vs Q) (x : Ext None₀ mt s.heap mt₁ h₁) : NxL ht { s with heap := h₁, toks := tk₁ } mt₁ μ vs Q :=
  fun w h' tk mt' x' r' v' => k w h' tk mt' (x.trans x') r' v'

/-- a name of the top -/
theorem nameG (C : Cx ht mg mb) {x : Str} {g : String} {p : Pos} {wv : Value} {Q : Value → Shared → Prop} (hi : isG sc x g = true) (he : EOk ht sc nm env) (r : SR ht mt μ s.heap) (hg : mg (Str.ofString g) = some wv) (k : Q wv s) :
    wpAny (model prog w) A (eval (.Name x p) env) Q Er s := by
  obtain ⟨hi, hd⟩ := and2 hi
  obtain ⟨hx, hk⟩ := and2 hi
  obtain rfl : x = Str.ofString g := by simpa using hx
  have hk : sc.names.lookup (Str.ofString g) = some .globalImplicit := by simpa using hk
  have hd : (Str.ofString g == Str.ofString "__debug__") = false := by simpa using hd
  exact Name_function_global he.fn (by rw [he.kindOf]; exact hk) (loadGlobal_global (by rw [he.glob]; exact C.g.keeps r.top) hg k) hd

theorem nameB (C : Cx ht mg mb) {x : Str} {g : String} {p : Pos} {Q : Value → Shared → Prop} (hi : isB sc x g = true) (he : EOk ht sc nm env) (r : SR ht mt μ s.heap) (k : Q (biV g) s) :
    wpAny (model prog w) A (eval (.Name x p) env) Q Er s := by
  obtain ⟨hi, hc⟩ := and2 hi
  have hc : g ∈ biNames := by simpa using hc
  obtain ⟨hi, hd⟩ := and2 hi
  obtain ⟨hx, hk⟩ := and2 hi
  obtain rfl : x = Str.ofString g := by simpa using hx
  have hk : sc.names.lookup (Str.ofString g) = some .globalImplicit := by simpa using hk
  have hd : (Str.ofString g == Str.ofString "__debug__") = false := by simpa using hd
  obtain ⟨b1, b2⟩ := C.bi g hc
  exact Name_function_global he.fn (by rw [he.kindOf]; exact hk) (loadGlobal_builtin (by rw [he.glob]; exact C.g.keeps r.top) b1 (by rw [he.bi]; exact C.b.keeps r.top) b2 k) hd

end

theorem vok_cmp {op : Cm} {a b : E} (ha : VOk prog w ht n orc a) (hb : VOk prog w ht n orc b) : VOk prog w ht n orc (.cmp op a b) := by
  intro sc nm pe env A σ μ v μ' s mt Q Er hm he hA hv r f k
  rw [ev] at hv
  obtain ⟨⟨⟨l, o, rr, p⟩, rfl⟩, hm⟩ := anyO_eq hm
  · obtain ⟨hm, m3⟩ := and2 hm
    obtain ⟨hm, m2⟩ := and2 hm
    obtain ⟨mo, m1⟩ := and2 hm
    obtain rfl : o = cmOf op := by simpa using mo
    obtain ⟨⟨x, μ₁⟩, h1, hv⟩ := bnd hv
    obtain ⟨⟨y, μ₂⟩, h2, hv⟩ := bnd hv
    obtain ⟨z, h3, hv⟩ := bnd hv
    cases hv
    refine wpAny_Compare1 (ha sc nm _ env A σ μ x μ₁ s mt _ _ m1 he hA h1 r f fun wa h₁ t₁ mt₁ x₁ r₁ v₁ => ?_) (by simpa using m3)
    refine hb sc nm _ env A σ μ₁ y μ' _ mt₁ _ _ m2 he hA h2 r₁ (f.nx r x₁) fun wb h₂ t₂ mt₂ x₂ r₂ v₂ => ?_
    exact cm_ok hA.units h3 r₂ (v₁.up x₂) v₂ fun tk => ((k.on x₁).on x₂).now r₂ (by rw [VR]) tk
theorem tok_cmp {op : Cm} {a b : E} (ha : VOk prog w ht n orc a) (hb : VOk prog w ht n orc b) : TOk prog w ht n orc (.cmp op a b) := by
  intro sc nm pe env A σ μ v μ' s mt Q Er whole hm he hA hv r f k
  rw [ev] at hv
  obtain ⟨⟨⟨l, o, rr, p⟩, rfl⟩, hm⟩ := anyO_eq hm
  · obtain ⟨hm, m3⟩ := and2 hm
    obtain ⟨hm, m2⟩ := and2 hm
    obtain ⟨mo, m1⟩ := and2 hm
    obtain rfl : o = cmOf op := by simpa using mo
    obtain ⟨⟨x, μ₁⟩, h1, hv⟩ := bnd hv
    obtain ⟨⟨y, μ₂⟩, h2, hv⟩ := bnd hv
    obtain ⟨z, h3, hv⟩ := bnd hv
    cases hv
    refine wpAny_isTrue_Compare1 (ha sc nm _ env A σ μ x μ₁ s mt _ _ m1 he hA h1 r f fun wa h₁ t₁ mt₁ x₁ r₁ v₁ => ?_) (by simpa using m3)
    refine hb sc nm _ env A σ μ₁ y μ' _ mt₁ _ _ m2 he hA h2 r₁ (f.nx r x₁) fun wb h₂ t₂ mt₂ x₂ r₂ v₂ => ?_
    exact cm_ok hA.units h3 r₂ (v₁.up x₂) v₂ fun tk => wpAny_truthy_bool (k z h₂ tk mt₂ rfl (x₁.trans x₂) r₂)

theorem vok_isNone {a : E} (ha : VOk prog w ht n orc a) : VOk prog w ht n orc (.isNone a) := by
  intro sc nm pe env A σ μ v μ' s mt Q Er hm he hA hv r f k
  rw [ev] at hv
  obtain ⟨⟨⟨l, o, rr, p⟩, rfl⟩, hm⟩ := anyO_eq hm
  obtain ⟨hm, m3⟩ := and2 hm
  obtain ⟨m1, m2⟩ := and2 hm
  obtain rfl : o = .Is := by simpa using m1
  have hr : ∃ kk cp, rr = .Constant .none kk cp := by obtain ⟨⟨⟨kk, cp⟩, h⟩, _⟩ := Option.isSome_iff_exists.mp m2; exact ⟨kk, cp, h⟩
  obtain ⟨kk, cp, rfl⟩ := hr
  · obtain ⟨⟨x, μ₁⟩, h1, hv⟩ := bnd hv
    obtain ⟨z, h3, hv⟩ := bnd hv
    cases hv
    refine wpAny_Compare1 (ha sc nm _ env A σ μ x μ' s mt _ _ m3 he hA h1 r f fun wa h₁ t₁ mt₁ x₁ r₁ v₁ => ?_) rfl
    exact wpAny_pure (none_ok h3 v₁ ((k.on (tk₁ := t₁) x₁).now r₁ (by rw [VR]) t₁))
theorem tok_isNone {a : E} (ha : VOk prog w ht n orc a) : TOk prog w ht n orc (.isNone a) := by
  intro sc nm pe env A σ μ v μ' s mt Q Er whole hm he hA hv r f k
  rw [ev] at hv
  obtain ⟨⟨⟨l, o, rr, p⟩, rfl⟩, hm⟩ := anyO_eq hm
  obtain ⟨hm, m3⟩ := and2 hm
  obtain ⟨m1, m2⟩ := and2 hm
  obtain rfl : o = .Is := by simpa using m1
  have hr : ∃ kk cp, rr = .Constant .none kk cp := by obtain ⟨⟨⟨kk, cp⟩, h⟩, _⟩ := Option.isSome_iff_exists.mp m2; exact ⟨kk, cp, h⟩
  obtain ⟨kk, cp, rfl⟩ := hr
  · obtain ⟨⟨x, μ₁⟩, h1, hv⟩ := bnd hv
    obtain ⟨z, h3, hv⟩ := bnd hv
    cases hv
    refine wpAny_isTrue_Compare1 (ha sc nm _ env A σ μ x μ' s mt _ _ m3 he hA h1 r f fun wa h₁ t₁ mt₁ x₁ r₁ v₁ => ?_) rfl
    exact wpAny_pure (none_ok h3 v₁ (wpAny_truthy_bool (k z h₁ t₁ mt₁ rfl x₁ r₁)))

theorem tok_and {a b : E} (ha : TOk prog w ht n orc a) (hb : TOk prog w ht n orc b) : TOk prog w ht n orc (.and a b) := by
  intro sc nm pe env A σ μ v μ' s mt Q Er whole hm he hA hv r f k
  rw [ev] at hv
  obtain ⟨⟨⟨oo, x, y, p⟩, rfl⟩, hm⟩ := anyO_eq (and2 hm).2
  obtain ⟨hm, m2⟩ := and2 hm
  obtain ⟨m0, m1⟩ := and2 hm
  obtain rfl : oo = .And := by simpa using m0
  · obtain ⟨⟨x, μ₁⟩, h1, hv⟩ := bnd hv
    dsimp only at hv
    refine isTrue_and (ha sc nm _ env A σ μ x μ₁ s mt _ _ _ m1 he hA h1 r f fun c h₁ t₁ mt₁ e x₁ r₁ => ?_)
    subst e
    cases c with
    | false =>
      cases hv
      exact k false h₁ t₁ mt₁ rfl x₁ r₁
    | true =>
      refine isTrue_and (hb sc nm _ env A σ μ₁ v μ' _ mt₁ _ _ _ m2 he hA hv r₁ (f.nx r x₁) fun c h₂ t₂ mt₂ e x₂ r₂ => ?_)
      cases c with
      | false => exact k false h₂ t₂ mt₂ e (x₁.trans x₂) r₂
      | true => exact isTrue_and_nil (k true h₂ t₂ mt₂ e (x₁.trans x₂) r₂)
theorem tok_or {a b : E} (ha : TOk prog w ht n orc a) (hb : TOk prog w ht n orc b) : TOk prog w ht n orc (.or a b) := by
  intro sc nm pe env A σ μ v μ' s mt Q Er whole hm he hA hv r f k
  rw [ev] at hv
  obtain ⟨⟨⟨oo, x, y, p⟩, rfl⟩, hm⟩ := anyO_eq (and2 hm).2
  obtain ⟨hm, m2⟩ := and2 hm
  obtain ⟨m0, m1⟩ := and2 hm
  obtain rfl : oo = .Or := by simpa using m0
  · obtain ⟨⟨x, μ₁⟩, h1, hv⟩ := bnd hv
    dsimp only at hv
    refine isTrue_or (ha sc nm _ env A σ μ x μ₁ s mt _ _ _ m1 he hA h1 r f fun c h₁ t₁ mt₁ e x₁ r₁ => ?_)
    subst e
    cases c with
    | true =>
      cases hv
      exact k true h₁ t₁ mt₁ rfl x₁ r₁
    | false =>
      refine isTrue_or (hb sc nm _ env A σ μ₁ v μ' _ mt₁ _ _ _ m2 he hA hv r₁ (f.nx r x₁) fun c h₂ t₂ mt₂ e x₂ r₂ => ?_)
      cases c with
      | true => exact k true h₂ t₂ mt₂ e (x₁.trans x₂) r₂
      | false => exact isTrue_or_nil (k false h₂ t₂ mt₂ e (x₁.trans x₂) r₂)

theorem vok_ite {c a b : E} (hc : TOk prog w ht n orc c) (ha : VOk prog w ht n orc a) (hb : VOk prog w ht n orc b) : VOk prog w ht n orc (.ite c a b) := by
  intro sc nm pe env A σ μ v μ' s mt Q Er hm he hA hv r f k
  rw [ev] at hv
  obtain ⟨⟨⟨x, y, z, p⟩, rfl⟩, hm⟩ := anyO_eq (and2 hm).2
  · obtain ⟨hm, m3⟩ := and2 hm
    obtain ⟨m1, m2⟩ := and2 hm
    obtain ⟨⟨x, μ₁⟩, h1, hv⟩ := bnd hv
    dsimp only at hv
    refine IfExp_ (hc sc nm _ env A σ μ x μ₁ s mt _ _ _ m1 he hA h1 r f fun c h₁ t₁ mt₁ e x₁ r₁ => ?_)
    subst e
    cases c with
    | true => exact ha sc nm _ env A σ μ₁ v μ' _ mt₁ _ _ m2 he hA hv r₁ (f.nx r x₁) (k.on x₁)
    | false => exact hb sc nm _ env A σ μ₁ v μ' _ mt₁ _ _ m3 he hA hv r₁ (f.nx r x₁) (k.on x₁)

theorem vok_nil : VOk prog w ht n orc .nil := by
  intro sc nm pe env A σ μ v μ' s mt Q Er hm he hA hv r f k
  rw [ev] at hv; cases hv
  obtain ⟨⟨p, rfl⟩, _⟩ := anyO_eq (and2 hm).2
  · exact List_ (spliced_none (newList_ok (mu := false) (xs := []) (by decide) r VRs.nil rfl k))
theorem vok_single {a : E} (ha : VOk prog w ht n orc a) : VOk prog w ht n orc (.single a) := by
  intro sc nm pe env A σ μ v μ' s mt Q Er hm he hA hv r f k
  rw [ev] at hv
  obtain ⟨⟨⟨x, p⟩, rfl⟩, hm⟩ := anyO_eq (and2 hm).2
  obtain ⟨hm, s1⟩ := and2 hm
  · obtain ⟨⟨x, μ₁⟩, h1, hv⟩ := bnd hv
    cases hv
    exact List_ (args1 ha hm s1 he hA h1 r f fun ws h₁ t₁ mt₁ x₁ r₁ v₁ => newList_ok (mu := false) (by simp only [List.length_cons, List.length_nil]; decide) r₁ v₁ rfl (k.on x₁))
theorem vok_mpair {a b : E} (ha : VOk prog w ht n orc a) (hb : VOk prog w ht n orc b) : VOk prog w ht n orc (.mpair a b) := by
  intro sc nm pe env A σ μ v μ' s mt Q Er hm he hA hv r f k
  rw [ev] at hv
  obtain ⟨⟨⟨x, y, p⟩, rfl⟩, hm⟩ := anyO_eq (and2 hm).2
  obtain ⟨hm, s2⟩ := and2 hm
  obtain ⟨hm, s1⟩ := and2 hm
  · obtain ⟨m1, m2⟩ := and2 hm
    obtain ⟨⟨x, μ₁⟩, h1, hv⟩ := bnd hv
    obtain ⟨⟨y, μ₂⟩, h2, hv⟩ := bnd hv
    exact List_ (args2 ha hb m1 m2 s1 s2 he hA h1 h2 r f fun ws h₁ t₁ mt₁ x₁ r₁ v₁ => newList_ok (by simp only [List.length_cons, List.length_nil]; decide) r₁ v₁ hv (k.on x₁))
theorem vok_tup2 {a b : E} (ha : VOk prog w ht n orc a) (hb : VOk prog w ht n orc b) : VOk prog w ht n orc (.tup2 a b) := by
  intro sc nm pe env A σ μ v μ' s mt Q Er hm he hA hv r f k
  rw [ev] at hv
  obtain ⟨⟨⟨x, y, kk, p⟩, rfl⟩, hm⟩ := anyO_eq (and2 hm).2
  obtain ⟨hm, s2⟩ := and2 hm
  obtain ⟨hm, s1⟩ := and2 hm
  · obtain ⟨m1, m2⟩ := and2 hm
    obtain ⟨⟨x, μ₁⟩, h1, hv⟩ := bnd hv
    obtain ⟨⟨y, μ₂⟩, h2, hv⟩ := bnd hv
    cases hv
    exact Tuple_ (args2 ha hb m1 m2 s1 s2 he hA h1 h2 r f fun ws h₁ t₁ mt₁ x₁ r₁ v₁ => newTuple_ok (by simp only [List.length_cons, List.length_nil]; decide) r₁ v₁ (k.on x₁))
theorem vok_tup3 {a b c : E} (ha : VOk prog w ht n orc a) (hb : VOk prog w ht n orc b) (hc : VOk prog w ht n orc c) : VOk prog w ht n orc (.tup3 a b c) := by
  intro sc nm pe env A σ μ v μ' s mt Q Er hm he hA hv r f k
  rw [ev] at hv
  obtain ⟨⟨⟨x, y, z, kk, p⟩, rfl⟩, hm⟩ := anyO_eq (and2 hm).2
  obtain ⟨hm, s3⟩ := and2 hm
  obtain ⟨hm, s2⟩ := and2 hm
  obtain ⟨hm, s1⟩ := and2 hm
  · obtain ⟨hm, m3⟩ := and2 hm
    obtain ⟨m1, m2⟩ := and2 hm
    obtain ⟨⟨x, μ₁⟩, h1, hv⟩ := bnd hv
    obtain ⟨⟨y, μ₂⟩, h2, hv⟩ := bnd hv
    obtain ⟨⟨z, μ₃⟩, h3, hv⟩ := bnd hv
    cases hv
    exact Tuple_ (args3 ha hb hc m1 m2 m3 s1 s2 s3 he hA h1 h2 h3 r f fun ws h₁ t₁ mt₁ x₁ r₁ v₁ => newTuple_ok (by simp only [List.length_cons, List.length_nil]; decide) r₁ v₁ (k.on x₁))
theorem vok_tup4 {a b c d : E} (ha : VOk prog w ht n orc a) (hb : VOk prog w ht n orc b) (hc : VOk prog w ht n orc c) (hd : VOk prog w ht n orc d) : VOk prog w ht n orc (.tup4 a b c d) := by
  intro sc nm pe env A σ μ v μ' s mt Q Er hm he hA hv r f k
  rw [ev] at hv
  obtain ⟨⟨⟨x, y, z, u, kk, p⟩, rfl⟩, hm⟩ := anyO_eq (and2 hm).2
  obtain ⟨hm, s4⟩ := and2 hm
  obtain ⟨hm, s3⟩ := and2 hm
  obtain ⟨hm, s2⟩ := and2 hm
  obtain ⟨hm, s1⟩ := and2 hm
  · obtain ⟨hm, m4⟩ := and2 hm
    obtain ⟨hm, m3⟩ := and2 hm
    obtain ⟨m1, m2⟩ := and2 hm
    obtain ⟨⟨x, μ₁⟩, h1, hv⟩ := bnd hv
    obtain ⟨⟨y, μ₂⟩, h2, hv⟩ := bnd hv
    obtain ⟨⟨z, μ₃⟩, h3, hv⟩ := bnd hv
    obtain ⟨⟨u, μ₄⟩, h4, hv⟩ := bnd hv
    cases hv
    exact Tuple_ (args4 ha hb hc hd m1 m2 m3 m4 s1 s2 s3 s4 he hA h1 h2 h3 h4 r f fun ws h₁ t₁ mt₁ x₁ r₁ v₁ => newTuple_ok (by simp only [List.length_cons, List.length_nil]; decide) r₁ v₁ (k.on x₁))

end
end Mine

namespace Mine
open PySem PySem.Calls PyProof.Rows PySem.W
set_option maxRecDepth 100000
set_option autoImplicit false

section
variable {prog : Program} {w : World} {ht : Heap} {mg mb : Str → Option Value} {n : Nat} {orc : Orc}

theorem vok_len (C : Cx ht mg mb) {a : E} (ha : VOk prog w ht n orc a) : VOk prog w ht n orc (.len a) := by
  intro sc nm pe env A σ μ v μ' s mt Q Er hm he hA hv r f k
  rw [ev] at hv
  obtain ⟨⟨⟨f₀, p, x₀, q⟩, rfl⟩, hm⟩ := anyO_eq (and2 hm).2
  obtain ⟨hm, s1⟩ := and2 hm
  · obtain ⟨m1, m2⟩ := and2 hm
    obtain ⟨⟨x, μ₁⟩, h1, hv⟩ := bnd hv
    obtain ⟨xs, h2, hv⟩ := bnd hv
    split at hv
    · rename_i hl
      cases hv
      refine Call_ (nameB C m1 he r (callWith_builtin1 (args1 ha m2 s1 he hA h1 r f fun ws h₁ t₁ mt₁ x₁ r₁ v₁ => ?_) (star_eq s1 _ _) (plain_nil _ _)))
      obtain ⟨wv, rr, rfl, q1, q2⟩ := v₁.uncons
      rw [q2.unnil]
      exact len_ok h2 hl r₁ q1 (k.on x₁)
    · cases hv

theorem vok_abs (C : Cx ht mg mb) {a : E} (ha : VOk prog w ht n orc a) : VOk prog w ht n orc (.abs a) := by
  intro sc nm pe env A σ μ v μ' s mt Q Er hm he hA hv r f k
  rw [ev] at hv
  obtain ⟨⟨⟨f₀, p, x₀, q⟩, rfl⟩, hm⟩ := anyO_eq (and2 hm).2
  obtain ⟨hm, s1⟩ := and2 hm
  · obtain ⟨m1, m2⟩ := and2 hm
    obtain ⟨⟨x, μ₁⟩, h1, hv⟩ := bnd hv
    dsimp only at hv
    split at hv
    · cases hv
      refine Call_ (nameB C m1 he r (callWith_builtin1 (args1 ha m2 s1 he hA h1 r f fun ws h₁ t₁ mt₁ x₁ r₁ v₁ => ?_) (star_eq s1 _ _) (plain_nil _ _)))
      obtain ⟨wv, rr, rfl, q1, q2⟩ := v₁.uncons
      rw [q2.unnil]
      rw [VR] at q1
      obtain ⟨t, rfl⟩ := q1
      exact abs_ok r₁ (k.on x₁)
    · cases hv

theorem vok_max (C : Cx ht mg mb) {a b : E} (ha : VOk prog w ht n orc a) (hb : VOk prog w ht n orc b) : VOk prog w ht n orc (.max a b) := by
  intro sc nm pe env A σ μ v μ' s mt Q Er hm he hA hv r f k
  rw [ev] at hv
  obtain ⟨⟨⟨f₀, p, x₀, y₀, q⟩, rfl⟩, hm⟩ := anyO_eq (and2 hm).2
  obtain ⟨hm, s2⟩ := and2 hm
  obtain ⟨hm, s1⟩ := and2 hm
  · obtain ⟨hm, m3⟩ := and2 hm
    obtain ⟨m1, m2⟩ := and2 hm
    obtain ⟨⟨x, μ₁⟩, h1, hv⟩ := bnd hv
    obtain ⟨⟨y, μ₂⟩, h2, hv⟩ := bnd hv
    dsimp only at hv
    split at hv
    · cases hv
      refine Call_ (nameB C m1 he r (callWith_builtin1 (args2 ha hb m2 m3 s1 s2 he hA h1 h2 r f fun ws h₁ t₁ mt₁ x₁ r₁ v₁ => ?_) (star_eq s1 _ _) (plain_one s2 _ _)))
      obtain ⟨wv, rr, rfl, q1, q2⟩ := v₁.uncons
      obtain ⟨wu, rr, rfl, q2, q3⟩ := q2.uncons
      rw [q3.unnil]
      rw [VR] at q1; rw [VR] at q2
      obtain ⟨t, rfl⟩ := q1
      obtain ⟨u, rfl⟩ := q2
      exact max_ok hA.1 r₁ (k.on x₁)
    · cases hv

theorem vok_lst (C : Cx ht mg mb) {a : E} (ha : VOk prog w ht n orc a) : VOk prog w ht n orc (.lst a) := by
  intro sc nm pe env A σ μ v μ' s mt Q Er hm he hA hv r f k
  rw [ev] at hv
  obtain ⟨⟨⟨f₀, p, x₀, q⟩, rfl⟩, hm⟩ := anyO_eq (and2 hm).2
  obtain ⟨hm, s1⟩ := and2 hm
  · obtain ⟨m1, m2⟩ := and2 hm
    obtain ⟨⟨x, μ₁⟩, h1, hv⟩ := bnd hv
    dsimp only at hv
    split at hv
    · split at hv
      · rename_i hl
        cases hv
        refine Call_ (nameB C m1 he r (callWith_type1 (args1 ha m2 s1 he hA h1 r f fun ws h₁ t₁ mt₁ x₁ r₁ v₁ => ?_) (star_eq s1 _ _) (plain_nil _ _)))
        obtain ⟨wv, rr, rfl, q1, q2⟩ := v₁.uncons
        rw [q2.unnil]
        exact lst_ok hl r₁ q1 (k.on x₁)
      · cases hv
    · cases hv

theorem vok_mlst (C : Cx ht mg mb) {a : E} (ha : VOk prog w ht n orc a) : VOk prog w ht n orc (.mlst a) := by
  intro sc nm pe env A σ μ v μ' s mt Q Er hm he hA hv r f k
  rw [ev] at hv
  obtain ⟨⟨⟨f₀, p, x₀, q⟩, rfl⟩, hm⟩ := anyO_eq (and2 hm).2
  obtain ⟨hm, s1⟩ := and2 hm
  · obtain ⟨m1, m2⟩ := and2 hm
    obtain ⟨⟨x, μ₁⟩, h1, hv⟩ := bnd hv
    dsimp only at hv
    split at hv
    · split at hv
      · rename_i hl
        refine Call_ (nameB C m1 he r (callWith_type1 (args1 ha m2 s1 he hA h1 r f fun ws h₁ t₁ mt₁ x₁ r₁ v₁ => ?_) (star_eq s1 _ _) (plain_nil _ _)))
        obtain ⟨wv, rr, rfl, q1, q2⟩ := v₁.uncons
        rw [q2.unnil]
        exact mlst_ok hl r₁ q1 hv (k.on x₁)
      · cases hv
    · cases hv

theorem vok_toInt (C : Cx ht mg mb) {a : E} (ha : VOk prog w ht n orc a) : VOk prog w ht n orc (.toInt a) := by
  intro sc nm pe env A σ μ v μ' s mt Q Er hm he hA hv r f k
  rw [ev] at hv
  obtain ⟨⟨⟨f₀, p, x₀, q⟩, rfl⟩, hm⟩ := anyO_eq (and2 hm).2
  obtain ⟨hm, s1⟩ := and2 hm
  · obtain ⟨m1, m2⟩ := and2 hm
    obtain ⟨⟨x, μ₁⟩, h1, hv⟩ := bnd hv
    dsimp only at hv
    split at hv
    · cases hv
      refine Call_ (nameB C m1 he r (callWith_type1 (args1 ha m2 s1 he hA h1 r f fun ws h₁ t₁ mt₁ x₁ r₁ v₁ => ?_) (star_eq s1 _ _) (plain_nil _ _)))
      obtain ⟨wv, rr, rfl, q1, q2⟩ := v₁.uncons
      rw [q2.unnil]
      rw [VR] at q1
      obtain ⟨t, rfl⟩ := q1
      exact toInt_ok r₁ (k.on x₁)
    · cases hv

theorem vok_range1 (C : Cx ht mg mb) {a : E} (ha : VOk prog w ht n orc a) : VOk prog w ht n orc (.range1 a) := by
  intro sc nm pe env A σ μ v μ' s mt Q Er hm he hA hv r f k
  rw [ev] at hv
  obtain ⟨⟨⟨f₀, p, x₀, q⟩, rfl⟩, hm⟩ := anyO_eq (and2 hm).2
  obtain ⟨hm, s1⟩ := and2 hm
  · obtain ⟨m1, m2⟩ := and2 hm
    obtain ⟨⟨x, μ₁⟩, h1, hv⟩ := bnd hv
    dsimp only at hv
    split at hv
    · cases hv
      refine Call_ (nameB C m1 he r (callWith_type1 (args1 ha m2 s1 he hA h1 r f fun ws h₁ t₁ mt₁ x₁ r₁ v₁ => ?_) (star_eq s1 _ _) (plain_nil _ _)))
      obtain ⟨wv, rr, rfl, q1, q2⟩ := v₁.uncons
      rw [q2.unnil]
      rw [VR] at q1
      obtain ⟨t, rfl⟩ := q1
      exact range1_ok r₁ (k.on x₁)
    · cases hv

theorem vok_range2 (C : Cx ht mg mb) {a b : E} (ha : VOk prog w ht n orc a) (hb : VOk prog w ht n orc b) : VOk prog w ht n orc (.range2 a b) := by
  intro sc nm pe env A σ μ v μ' s mt Q Er hm he hA hv r f k
  rw [ev] at hv
  obtain ⟨⟨⟨f₀, p, x₀, y₀, q⟩, rfl⟩, hm⟩ := anyO_eq (and2 hm).2
  obtain ⟨hm, s2⟩ := and2 hm
  obtain ⟨hm, s1⟩ := and2 hm
  · obtain ⟨hm, m3⟩ := and2 hm
    obtain ⟨m1, m2⟩ := and2 hm
    obtain ⟨⟨x, μ₁⟩, h1, hv⟩ := bnd hv
    obtain ⟨⟨y, μ₂⟩, h2, hv⟩ := bnd hv
    dsimp only at hv
    split at hv
    · cases hv
      refine Call_ (nameB C m1 he r (callWith_type1 (args2 ha hb m2 m3 s1 s2 he hA h1 h2 r f fun ws h₁ t₁ mt₁ x₁ r₁ v₁ => ?_) (star_eq s1 _ _) (plain_one s2 _ _)))
      obtain ⟨wv, rr, rfl, q1, q2⟩ := v₁.uncons
      obtain ⟨wu, rr, rfl, q2, q3⟩ := q2.uncons
      rw [q3.unnil]
      rw [VR] at q1; rw [VR] at q2
      obtain ⟨t, rfl⟩ := q1
      obtain ⟨u, rfl⟩ := q2
      exact range2_ok r₁ (k.on x₁)
    · cases hv

theorem vok_call1 (C : Cx ht mg mb) (O : OrcOk prog w ht mg n orc) {g : String} {a : E} (ha : VOk prog w ht n orc a) : VOk prog w ht n orc (.call1 g a) := by
  intro sc nm pe env A σ μ v μ' s mt Q Er hm he hA hv r f k
  rw [ev] at hv
  obtain ⟨⟨⟨f₀, p, x₀, q⟩, rfl⟩, hm⟩ := anyO_eq (and2 hm).2
  obtain ⟨hm, s1⟩ := and2 hm
  · obtain ⟨m1, m2⟩ := and2 hm
    obtain ⟨⟨x, μ₁⟩, h1, hv⟩ := bnd hv
    obtain ⟨⟨d, o, fd, g1, g2, g3⟩, ok⟩ := O _ _ _ _ _ hv
    refine Call_ (nameG C m1 he r g1 (callWith_def g3 (args1 ha m2 s1 he hA h1 r f fun ws h₁ t₁ mt₁ x₁ r₁ v₁ => ⟨r₁.top _ _ g2, ?_⟩) (star_eq s1 _ _)))
    exact ok A _ mt₁ ws _ _ d hA g1 r₁ v₁ (k.on x₁)
theorem vok_call2 (C : Cx ht mg mb) (O : OrcOk prog w ht mg n orc) {g : String} {a b : E} (ha : VOk prog w ht n orc a) (hb : VOk prog w ht n orc b) : VOk prog w ht n orc (.call2 g a b) := by
  intro sc nm pe env A σ μ v μ' s mt Q Er hm he hA hv r f k
  rw [ev] at hv
  obtain ⟨⟨⟨f₀, p, x₀, y₀, q⟩, rfl⟩, hm⟩ := anyO_eq (and2 hm).2
  obtain ⟨hm, s2⟩ := and2 hm
  obtain ⟨hm, s1⟩ := and2 hm
  · obtain ⟨hm, m3⟩ := and2 hm
    obtain ⟨m1, m2⟩ := and2 hm
    obtain ⟨⟨x, μ₁⟩, h1, hv⟩ := bnd hv
    obtain ⟨⟨y, μ₂⟩, h2, hv⟩ := bnd hv
    obtain ⟨⟨d, o, fd, g1, g2, g3⟩, ok⟩ := O _ _ _ _ _ hv
    refine Call_ (nameG C m1 he r g1 (callWith_def g3 (args2 ha hb m2 m3 s1 s2 he hA h1 h2 r f fun ws h₁ t₁ mt₁ x₁ r₁ v₁ => ⟨r₁.top _ _ g2, ?_⟩) (star_eq s1 _ _)))
    exact ok A _ mt₁ ws _ _ d hA g1 r₁ v₁ (k.on x₁)
theorem vok_call3 (C : Cx ht mg mb) (O : OrcOk prog w ht mg n orc) {g : String} {a b c : E} (ha : VOk prog w ht n orc a) (hb : VOk prog w ht n orc b) (hc : VOk prog w ht n orc c) : VOk prog w ht n orc (.call3 g a b c) := by
  intro sc nm pe env A σ μ v μ' s mt Q Er hm he hA hv r f k
  rw [ev] at hv
  obtain ⟨⟨⟨f₀, p, x₀, y₀, z₀, q⟩, rfl⟩, hm⟩ := anyO_eq (and2 hm).2
  obtain ⟨hm, s3⟩ := and2 hm
  obtain ⟨hm, s2⟩ := and2 hm
  obtain ⟨hm, s1⟩ := and2 hm
  · obtain ⟨hm, m4⟩ := and2 hm
    obtain ⟨hm, m3⟩ := and2 hm
    obtain ⟨m1, m2⟩ := and2 hm
    obtain ⟨⟨x, μ₁⟩, h1, hv⟩ := bnd hv
    obtain ⟨⟨y, μ₂⟩, h2, hv⟩ := bnd hv
    obtain ⟨⟨z, μ₃⟩, h3, hv⟩ := bnd hv
    obtain ⟨⟨d, o, fd, g1, g2, g3⟩, ok⟩ := O _ _ _ _ _ hv
    refine Call_ (nameG C m1 he r g1 (callWith_def g3 (args3 ha hb hc m2 m3 m4 s1 s2 s3 he hA h1 h2 h3 r f fun ws h₁ t₁ mt₁ x₁ r₁ v₁ => ⟨r₁.top _ _ g2, ?_⟩) (star_eq s1 _ _)))
    exact ok A _ mt₁ ws _ _ d hA g1 r₁ v₁ (k.on x₁)

theorem sub_eq {x : Expr} (h : (!isSlice x) = true) (o i : Value) : subscripted x false o i = operate [o, i] (getItem o i) := by
  cases x <;> first | rfl | cases h

theorem vok_item {a i : E} (ha : VOk prog w ht n orc a) (hi : VOk prog w ht n orc i) : VOk prog w ht n orc (.item a i) := by
  intro sc nm pe env A σ μ v μ' s mt Q Er hm he hA hv r f k
  rw [ev] at hv
  obtain ⟨⟨⟨v₀, k₀, p⟩, rfl⟩, hm⟩ := anyO_eq (and2 hm).2
  obtain ⟨hm, s1⟩ := and2 hm
  · obtain ⟨m1, m2⟩ := and2 hm
    obtain ⟨⟨x, μ₁⟩, h1, hv⟩ := bnd hv
    obtain ⟨⟨y, μ₂⟩, h2, hv⟩ := bnd hv
    dsimp only at hv
    split at hv
    · obtain ⟨xs, h3, hv⟩ := bnd hv
      obtain ⟨z, h4, hv⟩ := bnd hv
      cases hv
      refine Subscript_ (ha sc nm _ env A σ μ x μ₁ s mt _ _ m1 he hA h1 r f fun wa h₁ t₁ mt₁ x₁ r₁ v₁ => ?_)
      refine hi sc nm _ env A σ μ₁ _ μ' _ mt₁ _ _ m2 he hA h2 r₁ (f.nx r x₁) fun wb h₂ t₂ mt₂ x₂ r₂ v₂ => ?_
      rw [VR] at v₂
      obtain ⟨t, rfl⟩ := v₂
      obtain ⟨l, vs, rfl, p, q⟩ := items_list (s := { s with heap := h₂, toks := t₂ }) h3 r₂ (v₁.up x₂)
      exact tail_any p.isList.typeIs slot_list_getitem.lookup (getItem_ok h4 p q fun wv hw => ((k.on (tk₁ := t₁) x₁).on (tk₁ := t₂) x₂).now r₂ hw t₂) (sub_eq s1 _ _)
    · cases hv

theorem vok_upto {a i : E} (ha : VOk prog w ht n orc a) (hi : VOk prog w ht n orc i) : VOk prog w ht n orc (.upto a i) := by
  intro sc nm pe env A σ μ v μ' s mt Q Er hm he hA hv r f k
  rw [ev] at hv
  obtain ⟨⟨⟨v₀, k₀, p, q⟩, rfl⟩, hm⟩ := anyO_eq (and2 hm).2
  · obtain ⟨m1, m2⟩ := and2 hm
    obtain ⟨⟨x, μ₁⟩, h1, hv⟩ := bnd hv
    obtain ⟨⟨y, μ₂⟩, h2, hv⟩ := bnd hv
    dsimp only at hv
    split at hv
    · rename_i xs kk _
      split at hv
      · rename_i hc
        cases hv
        refine Subscript_ (ha sc nm _ env A σ μ _ μ₁ s mt _ _ m1 he hA h1 r f fun wa h₁ t₁ mt₁ x₁ r₁ v₁ => ?_)
        refine wpAny_Slice ?_
        rw [evalPart_none]
        refine wpAny_pure ?_
        rw [evalPart_some]
        refine hi sc nm _ env A σ μ₁ _ μ' _ mt₁ _ _ m2 he hA h2 r₁ (f.nx r x₁) fun wb h₂ t₂ mt₂ x₂ r₂ v₂ => ?_
        refine wpAny_pure ?_
        rw [VR] at v₂
        obtain ⟨t, rfl⟩ := v₂
        have v₁ := v₁.up x₂
        rw [VR] at v₁
        obtain ⟨l, vs, rfl, nl, p, q⟩ := v₁
        have hl := q.length
        have e1 : kk = ((kk.toNat : Nat) : Int) := by omega
        refine tail_any (ops := [.ref _, .ref l]) (p.isList.push _).typeIs slot_list_getitem.lookup (wpAny_getItem_list_slice (lo := none) (hi := some ((kk.toNat : Nat) : Int)) (st := none) (p.isList.push _) (Heap.IsSliceOf.new ..) .none (by rw [← e1]; exact .int _ _) .none (by simp) ?_ (by rw [List.size_toArray, hl]; exact Nat.le_trans hc.2.2 lim_line)) rfl
        rw [slicePick_upto']
        have := ((k.on (tk₁ := t₁) x₁).on (tk₁ := t₂) x₂)
        refine this.made r₂ (tk := t₂) (fun b o e => keep_push _ _ _ (keep_push _ _ _ e)) ?_
        have r₃ := r₂.up (keep_push (h := h₂) { cls := .type "slice", data := .fields #[.none, .int kk t, .none] })
        exact vr_new r₃ (VRs.take _ (q.up (.of_keep (keep_push _))))
      · cases hv
    · cases hv

theorem vok_from1 {a : E} (ha : VOk prog w ht n orc a) : VOk prog w ht n orc (.from1 a) := by
  intro sc nm pe env A σ μ v μ' s mt Q Er hm he hA hv r f k
  rw [ev] at hv
  obtain ⟨⟨⟨v₀, j, kk, cp, p, q⟩, rfl⟩, hm⟩ := anyO_eq (and2 hm).2
  dsimp only at hm
  · obtain ⟨mj, m1⟩ := and2 hm
    obtain ⟨⟨x, μ₁⟩, h1, hv⟩ := bnd hv
    dsimp only at hv
    split at hv
    · rename_i xs
      obtain rfl : j = 1 := by simpa using mj
      split at hv
      · rename_i hc
        cases hv
        refine Subscript_ (ha sc nm _ env A σ μ _ μ' s mt _ _ m1 he hA h1 r f fun wa h₁ t₁ mt₁ x₁ r₁ v₁ => ?_)
        refine wpAny_Slice ?_
        rw [evalPart_some]
        refine wpAny_Constant_int ?_
        rw [evalPart_none]
        refine wpAny_pure ?_
        refine wpAny_pure ?_
        rw [VR] at v₁
        obtain ⟨l, vs, rfl, nl, p, q⟩ := v₁
        have hl := q.length
        refine tail_any (ops := [.ref _, .ref l]) (p.isList.push _).typeIs slot_list_getitem.lookup (wpAny_getItem_list_slice (lo := some ((1 : Nat) : Int)) (hi := none) (st := none) (p.isList.push _) (Heap.IsSliceOf.new ..) (.int _ _) .none .none (by simp) ?_ (by rw [List.size_toArray, hl]; exact Nat.le_trans hc lim_line)) rfl
        rw [slicePick_from']
        have := k.on (tk₁ := t₁) x₁
        refine this.made r₁ (tk := t₁ + 1) (fun b o e => keep_push _ _ _ (keep_push _ _ _ e)) ?_
        have r₃ := r₁.up (keep_push (h := h₁) { cls := .type "slice", data := .fields #[.int 1 t₁, .none, .none] })
        exact vr_new r₃ (VRs.drop _ (q.up (.of_keep (keep_push _))))
      · cases hv
    · cases hv

end
end Mine

namespace Mine
open PySem PySem.Calls PyProof.Rows PySem.W
set_option maxRecDepth 100000
set_option autoImplicit false

theorem same_cell {h h' : Heap} {L c : Addr} {v : Option Value} (hs : Heap.SameBut L h h') (x : h.IsCell c v) (hL : ∃ m, h.Ns L m) : h'.IsCell c v := by
  refine x.sameBut hs fun e => ?_
  subst e
  obtain ⟨m, o, es, ep, e1, e2, _⟩ := hL
  obtain ⟨o', e3, e4⟩ := x
  rw [e1] at e3; cases e3
  rw [e2] at e4; cases e4

section
variable {prog : Program} {w : World} {ht : Heap} {mg mb : Str → Option Value} {n : Nat} {orc : Orc}

/-- the place of a name -/
noncomputable def At (env : Env) (x : Str) (a : Addr) : Prop := (env.kindOf x = some .local ∧ a = env.locals) ∨ (env.kindOf x ≠ some .local ∧ env.cells.lookup x = some a)
theorem At.own {env : Env} {x : Str} {a : Addr} (h : At env x a) : Own env a := h.imp (fun q => q.2) fun q => ⟨x, q.2⟩

/-- a name's turn -/
theorem store_ok {A : Around} {sc : Scope} {nm : List Str} {env : Env} {mt : Pl} {μ : Store} {σ : List V} {s : Shared} {i : Nat} {x : Str} {v : V} {wv : Value} {Q : Unit → Shared → Prop} {Er : Value → Shared → Prop}
    (he : EOk ht sc nm env) (r : SR ht mt μ s.heap) (f : FR nm env mt σ s.heap) (hx : nm[i]? = some x) (hf : sc.names.lookup x ≠ some .free) (hv : VR mt s.heap v wv)
    (k : ∀ h' tk, Ext (At env x) mt s.heap mt h' → SR ht mt μ h' → FR nm env mt (σ.set i v) h' → Q () { s with heap := h', toks := tk }) :
    wpAny (model prog w) A (storeName env x wv) Q Er s := by
  have hxm := List.mem_of_getElem? hx
  have uniq : ∀ j, nm[j]? = some x → j = i := fun j hj => by
    obtain ⟨l1, g1⟩ := List.getElem?_eq_some_iff.mp hj
    obtain ⟨l2, g2⟩ := List.getElem?_eq_some_iff.mp hx
    exact (List.getElem_inj he.nodup).mp (g1.trans g2.symm)
  have setj : ∀ j u, (σ.set i v)[j]? = some u → j ≠ i → σ[j]? = some u := fun j u e ne => by rwa [List.getElem?_set_ne (Ne.symm ne)] at e
  have seti : ∀ u, (σ.set i v)[i]? = some u → u = v := fun u e => by
    by_cases hi : i < σ.length
    · rw [List.getElem?_set_self hi] at e; cases e; rfl
    · rw [List.getElem?_eq_none (by rw [List.length_set]; omega)] at e; cases e
  rcases he.kinds x hxm with q | ⟨q, hl⟩
  · obtain ⟨m₀, hn, hh⟩ := f.ns
    refine wpAny_storeName_local (by rw [he.kindOf]; exact q) hn (fun h' hn' hs => ?_) he.plain
    have hd : h'.get? env.locals ≠ none := by obtain ⟨o, _, _, e, _⟩ := hn'; rw [e]; exact fun q => by cases q
    have X : Ext (· = env.locals) mt s.heap mt h' := .of_same hs (.inl rfl) hd
    refine k h' _ (X.mono fun a e => .inl ⟨by rw [he.kindOf]; exact q, e⟩) (r.same hs f.apartL hd (he.new _ (.inl rfl))) ?_
    refine ⟨by rw [List.length_set]; exact f.len, ⟨_, hn', fun j y u e1 e2 e3 => ?_⟩, fun j y u e1 e2 e3 => ?_, fun y c e => ?_⟩
    · by_cases hj : j = i
      · subst hj
        rw [hx] at e1; cases e1
        rw [seti u e2]
        exact .inr ⟨wv, by simp, VR.ext X f.apartL v hv⟩
      · have hy : y ≠ x := fun e => hj (uniq j (e ▸ e1))
        refine (hh j y u e1 (setj j u e2 hj) e3).imp id fun ⟨mv, a, b⟩ => ⟨mv, ?_, VR.ext X f.apartL u b⟩
        rw [if_neg hy]; exact a
    · have hj : j ≠ i := fun e => by
        subst e
        rw [hx] at e1; cases e1
        exact e3 (by rw [he.kindOf]; exact q)
      exact (f.cl j y u e1 (setj j u e2 hj) e3).imp id fun ⟨c, mv, a, b, d⟩ => ⟨c, mv, a, same_cell hs b ⟨_, hn⟩, VR.ext X f.apartL u d⟩
    · obtain ⟨u, hu⟩ := f.cs y c e
      exact ⟨u, same_cell hs hu ⟨_, hn⟩⟩
  · have qc : sc.names.lookup x = some .cell := q.resolve_right hf
    obtain ⟨c, hc⟩ := Option.isSome_iff_exists.mp hl
    obtain ⟨v₀, hv₀⟩ := f.cs x c hc
    refine wpAny_storeName_cell he.fn (by rw [he.kindOf]; exact qc) hc hv₀ fun h' hc' hs => ?_
    have hd : h'.get? c ≠ none := by obtain ⟨o, e, _⟩ := hc'; rw [e]; exact fun q => by cases q
    have X : Ext (· = c) mt s.heap mt h' := .of_same hs (.inl rfl) hd
    obtain ⟨m₀, hn, hh⟩ := f.ns
    have hLc : env.locals ≠ c := fun e => by
      subst e
      obtain ⟨o, es, ep, e1, e2, _⟩ := hn
      obtain ⟨o', e3, e4⟩ := hv₀
      rw [e1] at e3; cases e3
      rw [e2] at e4; cases e4
    refine k h' s.toks (X.mono fun a e => .inr ⟨by rw [he.kindOf, qc]; decide, e ▸ hc⟩) (r.same hs (f.apartC hc) hd (he.new _ (.inr ⟨x, hc⟩))) ?_
    refine ⟨by rw [List.length_set]; exact f.len, ⟨m₀, hn.sameBut hs hLc, fun j y u e1 e2 e3 => ?_⟩, fun j y u e1 e2 e3 => ?_, fun y c' e => ?_⟩
    · have hj : j ≠ i := fun e => by
        subst e
        rw [hx] at e1; cases e1
        rw [he.kindOf, qc] at e3; cases e3
      exact (hh j y u e1 (setj j u e2 hj) e3).imp id fun ⟨mv, a, b⟩ => ⟨mv, a, VR.ext X (f.apartC hc) u b⟩
    · by_cases hj : j = i
      · subst hj
        rw [hx] at e1; cases e1
        rw [seti u e2]
        exact .inr ⟨c, wv, hc, hc', VR.ext X (f.apartC hc) v hv⟩
      · have hy : y ≠ x := fun e => hj (uniq j (e ▸ e1))
        exact (f.cl j y u e1 (setj j u e2 hj) e3).imp id fun ⟨c', mv, a, b, d⟩ => ⟨c', mv, a, b.sameBut hs fun e => hy (he.inj y x c (e ▸ a) hc), VR.ext X (f.apartC hc) u d⟩
    · by_cases e' : c' = c
      · subst e'; exact ⟨_, hc'⟩
      · obtain ⟨u, hu⟩ := f.cs y c' e
        exact ⟨u, hu.sameBut hs e'⟩

/-- names turned one after the other -/
noncomputable def stores (prog : Program) (w : World) (A : Around) (env : Env) : List (Str × Value) → (Shared → Prop) → (Value → Shared → Prop) → Shared → Prop
  | [], Q, _, s => Q s
  | (x, v) :: r, Q, Er, s => wpAny (model prog w) A (storeName env x v) (fun _ s' => stores prog w A env r Q Er s') Er s

/-- slots that may be stored -/
noncomputable def slotsOk (sc : Scope) (nm : List Str) (is : List Nat) (xs : List Str) : Bool :=
  is.mapM (fun i => nm[i]?) == some xs && xs.all fun x => sc.names.lookup x != some .free

theorem stores_ok {A : Around} {sc : Scope} {nm : List Str} {env : Env} {mt : Pl} {μ : Store} {Q : Shared → Prop} {Er : Value → Shared → Prop} (he : EOk ht sc nm env) :
    ∀ (is : List Nat) (xs : List Str) (vs : List V) (ws : List Value) (σ σ' : List V) (s : Shared), is.mapM (fun i => nm[i]?) = some xs → (∀ x ∈ xs, sc.names.lookup x ≠ some .free) → setAll is vs σ = some σ' → SR ht mt μ s.heap → FR nm env mt σ s.heap → VRs mt s.heap vs ws →
    (∀ h' tk, Ext (fun a => ∃ x ∈ xs, At env x a) mt s.heap mt h' → SR ht mt μ h' → FR nm env mt σ' h' → Q { s with heap := h', toks := tk }) → stores prog w A env (xs.zip ws) Q Er s
  | [], xs, vs, ws, σ, σ', s, hi, _, e, r, f, hv, k => by
    simp at hi; subst hi
    cases vs with
    | nil =>
      rw [setAll] at e; cases e
      exact k s.heap s.toks .refl r f
    | cons _ _ => simp [setAll] at e
  | i :: is, xs, vs, ws, σ, σ', s, hi, hf, e, r, f, hv, k => by
    rw [List.mapM_cons] at hi
    obtain ⟨x, h1, hi⟩ := bnd hi
    obtain ⟨xs', h2, hi⟩ := bnd hi
    cases hi
    cases vs with
    | nil => simp [setAll] at e
    | cons v vs =>
      rw [setAll] at e
      split at e
      · obtain ⟨wv, ws', rfl, q1, q2⟩ := hv.uncons
        show wpAny _ _ (storeName env x wv) _ _ s
        refine store_ok he r f h1 (hf x (List.mem_cons_self ..)) q1 fun h' tk x₁ r₁ f₁ => ?_
        refine stores_ok he is xs' vs ws' (σ.set i v) σ' _ h2 (fun y hy => hf y (List.mem_cons_of_mem _ hy)) e r₁ f₁ (VRs.ext x₁ (fun b hb => f.apart b hb.own) vs q2) fun h'' tk' x₂ r₂ f₂ => ?_
        exact k h'' tk' ((x₁.mono fun a q => ⟨x, List.mem_cons_self .., q⟩).trans (x₂.mono fun a ⟨y, hy, q⟩ => ⟨y, List.mem_cons_of_mem _ hy, q⟩)) r₂ f₂
      · cases e

/-- what is taken in turn -/
structure Tk (prog : Program) (w : World) (A : Around) (two : Bool) (it : Value) (fp wr : List Addr) (len : Nat) (St : Nat → Heap → Prop) (val : Nat → List Value → Prop) : Prop where
  sub : ∀ b ∈ wr, b ∈ fp
  there : ∀ i h, St i h → ∀ b ∈ fp, ∃ o, h.get? b = some o ∧ ValObj o
  frame : ∀ i h h', St i h → (∀ b ∈ fp, ∀ o, h.get? b = some o → h'.get? b = some o) → St i h'
  turn : ∀ (i : Nat) (s : Shared) (env : Env) (tg : Expr) (names : List Str) (Q : Shared → Prop) (Er : Value → Shared → Prop) (P : Option Value → Shared → Prop), i < len → tgtNames two tg = some names → St i s.heap →
    (∀ v s₁, wpAny (model prog w) A (letOwnedTupleGo tg it v) (fun _ s₂ => wpAny (model prog w) A (assign tg env v) (fun _ s₃ => Q s₃) Er s₂) Er s₁ → P (some v) s₁) →
    (∀ ws h' tk, val i ws → St (i + 1) h' → (∀ b o, b ∉ wr → s.heap.get? b = some o → h'.get? b = some o) → stores prog w A env (names.zip ws) Q Er { s with heap := h', toks := tk }) →
    wpAny (model prog w) A (pyNext it) P Er s
  done : ∀ (s : Shared) (Q : Option Value → Shared → Prop) (Er : Value → Shared → Prop), St len s.heap → (∀ h' tk, (∀ b o, b ∉ wr → s.heap.get? b = some o → h'.get? b = some o) → Q none { s with heap := h', toks := tk }) →
    wpAny (model prog w) A (pyNext it) Q Er s
  self : ∀ i (s : Shared) (Q : Value → Shared → Prop) (Er : Value → Shared → Prop), St i s.heap → Q it s → wpAny (model prog w) A (pyIter it) Q Er s

theorem iter_val {h : Heap} {I l : Addr} {i : Nat} (x : h.IsListIter I l i) : ∃ o, h.get? I = some o ∧ ValObj o := by
  obtain ⟨o, e, _, d⟩ := x
  exact ⟨o, e, (fun _ _ q => by rw [d] at q; cases q), (fun _ q => by rw [d] at q; cases q)⟩

theorem Tk.one {A : Around} {I : Addr} {fp wr : List Addr} {len : Nat} {P : Nat → Value → Prop} {St : Nat → Heap → Prop} (W : Walks prog w A I fp wr len P St) (th : ∀ i h, St i h → ∀ b ∈ fp, ∃ o, h.get? b = some o ∧ ValObj o) :
    Tk prog w A false (.ref I) fp wr len St (fun i ws => ∃ v, ws = [v] ∧ P i v) where
  sub := W.sub
  there := th
  frame := W.frame
  turn i s env tg names Q Er P hi ht hst hPP k := by
    obtain ⟨x, p, rfl, rfl⟩ := tgtNames_one ht
    · refine W.item i s _ _ hi hst fun v h' tk hP hst' hk => hPP v _ ?_
      refine wpAny_pure (wpAny_assign_Name ?_)
      exact k [v] h' tk ⟨v, rfl, hP⟩ hst' hk
  done := W.done
  self := W.self

theorem Tk.pair {A : Around} (hh : A.handled = none) {I : Addr} {fp wr : List Addr} {len : Nat} {Pt : Nat → Array Value → Prop} {St : Nat → Heap → Prop} {Mid : Nat → Addr → Heap → Prop} (W : WalksU prog w A I fp wr len Pt St Mid)
    (th : ∀ i h, St i h → ∀ b ∈ fp, ∃ o, h.get? b = some o ∧ ValObj o) (two : ∀ i vals, Pt i vals → ∃ a b, vals = #[a, b]) :
    Tk prog w A true (.ref I) fp wr len St (fun i ws => ∃ a b, ws = [a, b] ∧ Pt i #[a, b]) where
  sub := W.sub
  there := th
  frame := W.frame
  turn i s env tg names Q Er P hi ht hst hPP k := by
    obtain ⟨x, px, y, py, kk, tp, rfl, rfl⟩ := tgtNames_two ht
    · refine W.item i s _ _ hi hst fun T vals h' tk hP hT hM hk => hPP _ _ ?_
      obtain ⟨a, b, rfl⟩ := two i vals hP
      refine W.go _ _ _ i T _ _ _ hM fun h'' hst'' hk'' => ?_
      have hT' : h''.IsTuple T #[a, b] := hT.at fun o e => hk'' T o (W.apart i T h' hM) e
      refine assign_Tuple_tuple hh hT' rfl rfl fun h₃ he => ?_
      have he' : ∀ c o, h''.get? c = some o → h₃.get? c = some o := fun c o e => he c o (Nat.ne_of_lt (Heap.lt_size e)) e
      have := k [a, b] h₃ tk ⟨a, b, rfl, hP⟩ (W.frame _ _ _ hst'' fun c _ o e => he' c o e) fun c o hc e => he' c o (hk'' c o hc (hk c o hc e))
      exact assignInOrder_cons (wpAny_assign_Name (wpAny_mono this (fun _ s₄ h₄ => assignInOrder_cons (wpAny_assign_Name (wpAny_mono h₄ (fun _ s₅ h₅ => assignInOrder_nil h₅) fun _ _ e => e))) fun _ _ e => e))
  done := W.done
  self := W.self

end
end Mine

namespace Mine
open PySem PySem.Calls PyProof.Rows PySem.W
set_option maxRecDepth 100000
set_option autoImplicit false

noncomputable def srcM (sk : Sk) (sc : Scope) (nm : List Str) (src src2 : E) (iter : Expr) : Bool :=
  match sk with
  | .plain => m src false sc nm iter && (wNilE src2).isSome && !isSet iter
  | .enum => (wNilE src2).isSome && anyO (wC1 iter) fun z => isB sc z.1.1 "enumerate" && m src false sc nm z.1.2.2.1 && !isStar z.1.2.2.1
  | .zip => anyO (wC2 iter) fun z => isB sc z.1.1 "zip" && m src false sc nm z.1.2.2.1 && m src2 false sc nm z.1.2.2.2.1 && !isStar z.1.2.2.1 && !isStar z.1.2.2.2.1
theorem nilE_of {e : E} (h : (wNilE e).isSome = true) : e = .nil := by
  obtain ⟨⟨q⟩, _⟩ := Option.isSome_iff_exists.mp h
  exact q
theorem set_fold {iter : Expr} (h : (!isSet iter) = true) (env : Env) (x : Value) : foldedSetIterable iter env x = pure x := by
  cases iter <;> first | rfl | cases h

section
variable {prog : Program} {w : World} {ht : Heap} {mg mb : Str → Option Value} {n : Nat} {orc : Orc}

/-- an iterator that stands, and what it will give -/
noncomputable def SrcAt (prog : Program) (w : World) (A : Around) (two : Bool) (its : List V) (M : Pl) (h₁ : Heap) (it : Value) (h₂ : Heap) : Prop :=
  ∃ (fp wr : List Addr) (St : Nat → Heap → Prop) (val : Nat → List Value → Prop), Tk prog w A two it fp wr its.length St val ∧ St 0 h₂ ∧ (∀ b ∈ wr, h₁.get? b = none) ∧ (∀ b ∈ fp, b ∉ M.l) ∧
    (∀ b o, h₁.get? b = some o → h₂.get? b = some o) ∧
    ∀ (i : Nat) (x : V) (ws : List Value) (as : List Addr) (X : Addr → Prop) (M' : Pl) (h' : Heap), its[i]? = some x → val i ws → (∀ a ∈ as, h₁.get? a = none) → Apart X ⟨M.l, as ++ M.hd⟩ h₁ → Ext X ⟨M.l, as ++ M.hd⟩ h₁ M' h' → ∃ tv, tgtV two x = some tv ∧ VRs M' h' tv ws

theorem src_list {A : Around} (hh : A.handled = none) {M : Pl} {μ : Store} {h : Heap} {xs : List V} {vs : List Value} {a : Addr} (r : SR ht M μ h) (off : M.off a) (p : h.PlainList a vs.toArray) (q : VRs M h xs vs) :
    SrcAt prog w A false xs M h (.ref h.objs.size) (h.push { cls := .type "list_iterator", data := .fields #[.ref a, .int 0 0] }) := by
  have hl := q.length
  have hlt : a < h.objs.size := by obtain ⟨_, e⟩ := p; exact Heap.lt_size e
  have W := Walks.list (prog := prog) (w := w) (A := A) hh h.objs.size a (Nat.ne_of_lt hlt) vs.toArray
  rw [show vs.toArray.size = xs.length by simp [hl]] at W
  refine ⟨_, _, _, _, Tk.one W (fun i h' st b hb => ?_), ⟨⟨_, Heap.get?_push_size _ rfl, rfl, rfl⟩, p.isList.push _⟩, fun b hb => ?_, fun b hb => ?_, keep_push _, ?_⟩
  · rcases List.mem_cons.mp hb with rfl | hb
    · exact iter_val st.1
    · rw [List.mem_singleton.mp hb]; exact list_val st.2
  · rw [List.mem_singleton.mp hb]; exact fresh_size
  · rcases List.mem_cons.mp hb with rfl | hb
    · exact r.off_new.1
    · rw [List.mem_singleton.mp hb]; exact off.1
  · rintro i x ws as X M' h' hx ⟨v, rfl, hv⟩ has ap x'
    obtain ⟨wv, e1, e2⟩ := q.get hx
    have : wv = v := by
      have hv : vs[i]? = some v := by simpa using hv
      rw [e1] at hv; cases hv; rfl
    subst this
    exact ⟨[x], rfl, VRs.one (VR.ext x' ap x (VR.hide (fun _ _ e => e) has x e2))⟩

theorem lim2 {lo hi : Int} (h : -(lim : Int) ≤ lo ∧ lo ≤ (lim : Int) ∧ -(lim : Int) ≤ hi ∧ hi ≤ (lim : Int)) : (hi - lo).toNat ≤ 2 * lim := by
  have : (lim : Int) = 1000000 := rfl
  have : lim = 1000000 := rfl
  omega

theorem src_range {A : Around} (hh : A.handled = none) {M : Pl} {μ : Store} {h : Heap} {lo hi : Int} (r : SR ht M μ h) :
    SrcAt prog w A false ((List.range (hi - lo).toNat).map fun i : Nat => V.int (lo + (i : Int))) M h (.ref h.objs.size) (h.push { cls := .type "range_iterator", data := .fields #[rawInt lo, rawInt (Builtin.Range.rangeSize lo hi 1), rawInt 1] }) := by
  have W := Walks.range (prog := prog) (w := w) (A := A) hh h.objs.size lo 1 (hi - lo).toNat
  have hl : ((List.range (hi - lo).toNat).map fun i : Nat => V.int (lo + (i : Int))).length = (hi - lo).toNat := by simp
  unfold SrcAt
  rw [hl]
  refine ⟨_, _, _, _, Tk.one W (fun i h' st b hb => ?_), ?_, fun b hb => ?_, fun b hb => ?_, keep_push _, ?_⟩
  · rw [List.mem_singleton.mp hb]
    exact ⟨_, st, (fun _ _ q => by cases q), (fun _ q => by cases q)⟩
  · rw [rangeSize_nat]
    have : IsRangeIter (h.push { cls := .type "range_iterator", data := .fields #[rawInt lo, rawInt ((hi - lo).toNat : Int), rawInt 1] }) h.objs.size lo ((hi - lo).toNat : Int) 1 := Heap.get?_push_size _ rfl
    simpa using this
  · rw [List.mem_singleton.mp hb]; exact fresh_size
  · rw [List.mem_singleton.mp hb]; exact r.off_new.1
  · rintro i x ws as X M' h' hx ⟨v, rfl, t, rfl⟩ has ap x'
    obtain ⟨hi', e⟩ := List.getElem?_eq_some_iff.mp hx
    refine ⟨[x], rfl, VRs.one ?_⟩
    rw [← e]
    simp only [List.getElem_map, List.getElem_range]
    rw [VR]
    exact ⟨t, by rw [Int.mul_one]⟩

theorem enumV_len : ∀ (k : Int) (xs : List V), (enumV k xs).length = xs.length
  | _, [] => rfl
  | k, x :: xs => by rw [enumV, List.length_cons, List.length_cons, enumV_len]
theorem enumV_get : ∀ (k : Int) (xs : List V) (i : Nat) (y : V), (enumV k xs)[i]? = some y → ∃ x, xs[i]? = some x ∧ y = .tup [.int (k + (i : Int)), x]
  | _, [], _, _, e => by simp [enumV] at e
  | k, x :: xs, 0, y, e => by
    simp [enumV] at e
    exact ⟨x, rfl, by rw [← e]; simp⟩
  | k, x :: xs, i + 1, y, e => by
    simp [enumV] at e
    obtain ⟨z, e1, e2⟩ := enumV_get (k + 1) xs i y e
    refine ⟨z, by simpa using e1, ?_⟩
    rw [e2]
    have : k + 1 + (i : Int) = k + ((i + 1 : Nat) : Int) := by omega
    rw [this]
theorem zipV_len : ∀ (xs ys : List V), (zipV xs ys).length = min xs.length ys.length
  | [], ys => by simp [zipV]
  | x :: xs, [] => by simp [zipV]
  | x :: xs, y :: ys => by rw [zipV, List.length_cons, zipV_len]; simp
theorem zipV_get : ∀ (xs ys : List V) (i : Nat) (y : V), (zipV xs ys)[i]? = some y → ∃ a b, xs[i]? = some a ∧ ys[i]? = some b ∧ y = .tup [a, b]
  | [], ys, i, y, e => by simp [zipV] at e
  | x :: xs, [], i, y, e => by simp [zipV] at e
  | x :: xs, z :: ys, 0, y, e => by
    simp [zipV] at e
    exact ⟨x, z, rfl, rfl, e.symm⟩
  | x :: xs, z :: ys, i + 1, y, e => by
    simp [zipV] at e
    obtain ⟨a, b, e1, e2, e3⟩ := zipV_get xs ys i y e
    exact ⟨a, b, by simpa using e1, by simpa using e2, e3⟩

theorem src_fold {sk : Sk} {sc : Scope} {nm : List Str} {src src2 : E} {iter : Expr} (hm : srcM sk sc nm src src2 iter = true) (env : Env) : ∀ x, foldedSetIterable iter env x = pure x := by
  intro x
  cases sk with
  | plain => exact set_fold (and2 hm).2 env x
  | enum =>
    obtain ⟨⟨⟨f₀, p, x₀, q⟩, rfl⟩, _⟩ := anyO_eq (and2 hm).2
    rfl
  | zip =>
    obtain ⟨⟨⟨f₀, p, x₀, y₀, q⟩, rfl⟩, _⟩ := anyO_eq hm
    rfl

theorem src_ok (C : Cx ht mg mb) {sk : Sk} {src src2 : E} (hs : VOk prog w ht n orc src) (hs2 : VOk prog w ht n orc src2) {sc : Scope} {nm : List Str} {iter : Expr} {env : Env} {A : Around} {σ : List V} {μ μ₁ μ' : Store} {x y : V} {its : List V}
    {s : Shared} {mt : Pl} {Q : Value → Shared → Prop} {Er : Value → Shared → Prop}
    (hm : srcM sk sc nm src src2 iter = true) (he : EOk ht sc nm env) (hA : OkA n A) (e1 : ev orc src σ μ = some (x, μ₁)) (e2 : ev orc src2 σ μ₁ = some (y, μ')) (e3 : srcV sk x y = some its) (r : SR ht mt μ s.heap) (f : FR nm env mt σ s.heap)
    (k : ∀ it h₁ h₂ tk M, Ext None₀ mt s.heap M h₁ → SR ht M μ' h₁ → SrcAt prog w A (sk != .plain) its M h₁ it h₂ → its.length ≤ 2 * lim → Q it { s with heap := h₂, toks := tk }) :
    wpAny (model prog w) A (eval iter env) (fun xv s₁ => wpAny (model prog w) A (pyIter xv) Q Er s₁) Er s := by
  unfold srcV at e3
  cases sk
  · dsimp only at e3
    obtain ⟨hm, _⟩ := and2 hm
    obtain ⟨m1, m2⟩ := and2 hm
    obtain rfl := nilE_of m2
    · rw [ev] at e2; cases e2
      refine hs sc nm _ env A σ μ x _ s mt _ _ m1 he hA e1 r f fun wa h₁ t₁ mt₁ x₁ r₁ v₁ => ?_
      unfold turns? at e3
      split at e3
      · split at e3
        · rename_i hl
          cases e3
          rw [VR] at v₁
          obtain ⟨a, vs, rfl, off, p, q⟩ := v₁
          exact wpAny_pyIter_list p.isList (k _ h₁ _ t₁ mt₁ x₁ r₁ (src_list hA.1 r₁ off p q) (by omega))
        · cases e3
      · split at e3
        · rename_i hl
          cases e3
          rw [VR] at v₁
          obtain ⟨a, t, u, ww, rfl, off, p⟩ := v₁
          have b1 : (lim : Int) = 1000000 := rfl
          exact wpAny_pyIter_range p (small_one (by omega) (by omega) (by omega) (by omega)) (k _ h₁ _ t₁ mt₁ x₁ r₁ (src_range hA.1 r₁) (by simp only [List.length_map, List.length_range]; exact lim2 hl))
        · cases e3
      · cases e3
  · dsimp only at e3
    obtain ⟨m2, m3⟩ := and2 hm
    clear hm
    obtain rfl := nilE_of m2
    · rw [ev] at e2; cases e2
      obtain ⟨⟨⟨f₀, p₀, x₀, q₀⟩, rfl⟩, m3⟩ := anyO_eq m3
      obtain ⟨m3, s1⟩ := and2 m3
      · obtain ⟨mb, m1⟩ := and2 m3
        split at e3
        · split at e3
          · rename_i hl
            cases e3
            refine Call_ (nameB C mb he r (callWith_type1 (args1 hs m1 s1 he hA e1 r f fun ws h₁ t₁ mt₁ x₁ r₁ v₁ => ?_) (star_eq s1 _ _) (plain_nil _ _)))
            obtain ⟨wv, rr, rfl, q1, q2⟩ := v₁.uncons
            rw [q2.unnil]
            rw [VR] at q1
            obtain ⟨a, vs, rfl, off, ⟨nn, p⟩, q⟩ := q1
            have hlen := q.length
            refine call_enumerate_1 p fun h' he' hit hsz hk => ?_
            refine wpAny_pyIter_enum he' ?_
            have halt := Heap.lt_size p
            have W := (WalksT.enumerate (prog := prog) (w := w) (A := A) hA.1 (h₁.objs.size + 1) h₁.objs.size a (Nat.succ_ne_self _) (Nat.ne_of_lt (Nat.lt_succ_of_lt halt)) (Nat.ne_of_lt halt) vs.toArray).toU
            rw [show vs.toArray.size = (enumV 0 _).length by rw [enumV_len, List.size_toArray, hlen]] at W
            refine k _ h₁ h' _ mt₁ x₁ r₁ ⟨_, _, _, _, Tk.pair hA.1 W (fun i h'' st b hb => ?_) (fun i vals hp => ?_), ⟨⟨_, he'⟩, hit, ?_⟩, fun b hb => ?_, fun b hb => ?_, hk, ?_⟩ (by rw [enumV_len]; omega)
            · obtain ⟨⟨old, z1⟩, z2, z3⟩ := st
              rcases List.mem_cons.mp hb with rfl | hb
              · exact ⟨_, z1, (fun _ _ q => by cases q), (fun _ q => by cases q)⟩
              · rcases List.mem_cons.mp hb with rfl | hb
                · exact iter_val z2
                · rw [List.mem_singleton.mp hb]; exact list_val z3
            · obtain ⟨t, x, _, rfl⟩ := hp
              exact ⟨_, _, rfl⟩
            · exact (Heap.PlainList.isList ⟨nn, hk _ _ p⟩)
            · have hge : h₁.objs.size ≤ b := by
                rcases List.mem_cons.mp hb with rfl | hb
                · omega
                · rw [List.mem_singleton.mp hb]; exact Nat.le_refl _
              cases e : h₁.get? b with
              | none => rfl
              | some o => exact absurd (Heap.lt_size e) (Nat.not_lt.mpr hge)
            · have hnew : ∀ c, h₁.objs.size ≤ c → c ∉ mt₁.l := fun c hc => (r₁.off_of (by
                cases e : h₁.get? c with
                | none => rfl
                | some o => exact absurd (Heap.lt_size e) (Nat.not_lt.mpr hc))).1
              rcases List.mem_cons.mp hb with rfl | hb
              · exact hnew _ (by omega)
              · rcases List.mem_cons.mp hb with rfl | hb
                · exact hnew _ (Nat.le_refl _)
                · rw [List.mem_singleton.mp hb]; exact off.1
            · rintro i z ws as X M' h'' hz ⟨va, vb, rfl, t, xx, hxx, hpair⟩ has ap x'
              obtain ⟨zx, g1, rfl⟩ := enumV_get 0 _ i z hz
              obtain ⟨wv, g2, g3⟩ := q.get g1
              have hxx : vs[i]? = some xx := by simpa using hxx
              rw [g2] at hxx; cases hxx
              have hp2 : va = .int (i : Int) t ∧ vb = xx := by
                have := congrArg Array.toList hpair
                simpa using this
              obtain ⟨rfl, rfl⟩ := hp2
              exact ⟨_, rfl, VRs.cons (by rw [VR]; exact ⟨t, by rw [Int.zero_add]⟩) (VRs.one (VR.ext x' ap zx (VR.hide (fun _ _ e => e) has zx g3)))⟩
          · cases e3
        · cases e3
  · dsimp only at e3
    obtain ⟨⟨⟨f₀, p₀, x₀, y₀, q₀⟩, rfl⟩, hm⟩ := anyO_eq hm
    obtain ⟨hm, s2⟩ := and2 hm
    obtain ⟨hm, s1⟩ := and2 hm
    · obtain ⟨hm, m2⟩ := and2 hm
      obtain ⟨mb, m1⟩ := and2 hm
      split at e3
      · split at e3
        · rename_i hl
          cases e3
          refine Call_ (nameB C mb he r (callWith_type1 (args2 hs hs2 m1 m2 s1 s2 he hA e1 e2 r f fun ws h₁ t₁ mt₁ x₁ r₁ v₁ => ?_) (star_eq s1 _ _) (plain_one s2 _ _)))
          obtain ⟨wv, rr, rfl, q1, q2⟩ := v₁.uncons
          obtain ⟨wu, rr, rfl, q2, q3⟩ := q2.uncons
          rw [q3.unnil]
          rw [VR] at q1; rw [VR] at q2
          obtain ⟨a, vs, rfl, offa, pa, qa⟩ := q1
          obtain ⟨b, us, rfl, offb, pb, qb⟩ := q2
          have hla := qa.length
          have hlb := qb.length
          refine call_zip_2 pa.isList pb.isList fun h' hz hTI hTO hi1 hi2 hsz hk => ?_
          refine wpAny_pyIter_zip hz ?_
          have ha : a < h₁.objs.size := by obtain ⟨_, e⟩ := pa; exact Heap.lt_size e
          have hb : b < h₁.objs.size := by obtain ⟨_, e⟩ := pb; exact Heap.lt_size e
          have up : ∀ {c : Nat} (j : Nat), c < h₁.objs.size → c ≠ h₁.objs.size + j := fun j hc => by omega
          have D : ZipApart (h₁.objs.size + 4) (h₁.objs.size + 2) (h₁.objs.size + 3) h₁.objs.size (h₁.objs.size + 1) a b := by
            constructor <;> first | exact up _ ha | exact up 0 ha | exact up _ hb | exact up 0 hb | exact Nat.ne_of_lt (by omega) | exact Nat.ne_of_gt (by omega)
          have W := (WalksT.zip2 (prog := prog) (w := w) (A := A) hA.1 _ _ _ _ _ _ _ D vs.toArray us.toArray).toU
          rw [show min vs.toArray.size us.toArray.size = (zipV _ _).length by rw [zipV_len, List.size_toArray, List.size_toArray, hla, hlb]] at W
          have hnew : ∀ c : Nat, h₁.objs.size ≤ c → h₁.get? c = none := fun c hc => by
            cases e : h₁.get? c with
            | none => rfl
            | some o => exact absurd (Heap.lt_size e) (Nat.not_lt.mpr hc)
          refine k _ h₁ h' _ mt₁ x₁ r₁ ⟨_, _, _, _, Tk.pair hA.1 W (fun i h'' st c hc => ?_) (fun i vals hp => ?_), ⟨hz, hTI, ⟨_, _, hTO⟩, hi1, hi2, ?_, ?_⟩, fun c hc => ?_, fun c hc => ?_, hk, ?_⟩ (by rw [zipV_len]; omega)
          · obtain ⟨z1, z2, ⟨_, _, z3⟩, z4, z5, z6, z7⟩ := st
            simp only [List.mem_cons, List.not_mem_nil, or_false] at hc
            rcases hc with rfl | rfl | rfl | rfl | rfl | rfl | rfl
            · exact ⟨_, z1, (fun _ _ q => by cases q), (fun _ q => by cases q)⟩
            · exact ⟨_, z2, (fun _ _ q => by cases q), (fun _ q => by cases q)⟩
            · exact ⟨_, z3, (fun _ _ q => by cases q), (fun _ q => by cases q)⟩
            · exact iter_val z4
            · exact iter_val z5
            · exact list_val z6
            · exact list_val z7
          · obtain ⟨x, y, _, _, rfl⟩ := hp
            exact ⟨_, _, rfl⟩
          · exact (pa.at fun o e => hk _ o e).isList
          · exact (pb.at fun o e => hk _ o e).isList
          · simp only [List.mem_cons, List.not_mem_nil, or_false] at hc
            rcases hc with rfl | rfl | rfl | rfl
            · exact hnew _ (Nat.le_add_right _ _)
            · exact hnew _ (Nat.le_add_right _ _)
            · exact hnew _ (Nat.le_refl _)
            · exact hnew _ (Nat.le_add_right _ _)
          · simp only [List.mem_cons, List.not_mem_nil, or_false] at hc
            rcases hc with rfl | rfl | rfl | rfl | rfl | rfl | rfl
            · exact (r₁.off_of (hnew _ (Nat.le_add_right _ _))).1
            · exact (r₁.off_of (hnew _ (Nat.le_add_right _ _))).1
            · exact (r₁.off_of (hnew _ (Nat.le_add_right _ _))).1
            · exact (r₁.off_of (hnew _ (Nat.le_refl _))).1
            · exact (r₁.off_of (hnew _ (Nat.le_add_right _ _))).1
            · exact offa.1
            · exact offb.1
          · rintro i z ws as X M' h'' hz' ⟨va, vb, rfl, xx, yy, hxx, hyy, hpair⟩ has ap x'
            obtain ⟨za, zb, g1, g2, rfl⟩ := zipV_get _ _ i z hz'
            obtain ⟨wv, g3, g4⟩ := qa.get g1
            obtain ⟨wu, g5, g6⟩ := qb.get g2
            have hxx : vs[i]? = some xx := by simpa using hxx
            have hyy : us[i]? = some yy := by simpa using hyy
            rw [g3] at hxx; cases hxx
            rw [g5] at hyy; cases hyy
            have hp2 : va = xx ∧ vb = yy := by
              have := congrArg Array.toList hpair
              simpa using this
            obtain ⟨rfl, rfl⟩ := hp2
            exact ⟨_, rfl, VRs.cons (VR.ext x' ap za (VR.hide (fun _ _ e => e) has za g4)) (VRs.one (VR.ext x' ap zb (VR.hide (fun _ _ e => e) has zb g6)))⟩
        · cases e3
      · cases e3

end
end Mine

namespace Mine
open PySem PySem.Calls PyProof.Rows PySem.W
set_option maxRecDepth 100000
set_option autoImplicit false

/-- the cells a block takes along -/
noncomputable def clo (env : Env) : List (Str × NameKind) → List (Str × Addr) → List (Str × Addr)
  | [], acc => acc
  | (x, k) :: r, acc => if k == .free then clo env r ((x, (env.cells.lookup x).getD 0) :: acc) else clo env r acc

theorem clo_loop {env : Env} (g : Str × NameKind → List (Str × Addr) → Sem (ForInStep (List (Str × Addr))))
    (hg : ∀ x k acc, g (x, k) acc = if k == .free then (do let a ← cellOf env x; pure (.yield ((x, a) :: acc))) else pure (.yield acc)) :
    ∀ (names : List (Str × NameKind)) (acc : List (Str × Addr)), (∀ y ∈ names, y.2 = .free → (env.cells.lookup y.1).isSome = true) → forIn names acc g = pure (clo env names acc)
  | [], acc, _ => rfl
  | (x, k) :: r, acc, h => by
    have ih := fun acc => clo_loop g hg r acc fun y hy => h y (List.mem_cons_of_mem _ hy)
    rw [List.forIn_cons, hg, clo]
    split
    · rename_i hk
      have hk' : k = .free := by simpa using hk
      obtain ⟨c, hc⟩ := Option.isSome_iff_exists.mp (h (x, k) (List.mem_cons_self ..) hk')
      have : cellOf env x = pure c := by unfold cellOf; rw [hc]
      rw [this, hc]
      simp only [pure_bind]
      exact ih _
    · simp only [pure_bind]
      exact ih _

theorem clo_ok {csc : Scope} {env : Env} (h : ∀ y ∈ csc.names, y.2 = .free → (env.cells.lookup y.1).isSome = true) : closureFor csc env = pure (clo env csc.names []) := by
  simp only [closureFor]
  rw [clo_loop _ (fun x k acc => by cases k <;> rfl) csc.names [] h]
  rfl

theorem clo_sub {env : Env} : ∀ (names : List (Str × NameKind)) (acc : List (Str × Addr)), (∀ y ∈ names, y.2 = .free → (env.cells.lookup y.1).isSome = true) → (∀ x c, acc.lookup x = some c → env.cells.lookup x = some c) →
    ∀ x c, (clo env names acc).lookup x = some c → env.cells.lookup x = some c
  | [], acc, _, ha, x, c, e => ha x c e
  | (y, k) :: r, acc, h, ha, x, c, e => by
    rw [clo] at e
    split at e
    · rename_i hk
      have hk' : k = .free := by simpa using hk
      obtain ⟨d, hd⟩ := Option.isSome_iff_exists.mp (h (y, k) (List.mem_cons_self ..) hk')
      rw [hd] at e
      refine clo_sub r _ (fun y hy => h y (List.mem_cons_of_mem _ hy)) (fun z u ez => ?_) x c e
      rw [List.lookup_cons] at ez
      split at ez
      · rename_i q
        cases ez
        rw [beq_iff_eq.mp q]; exact hd
      · exact ha z u ez
    · exact clo_sub r _ (fun y hy => h y (List.mem_cons_of_mem _ hy)) ha x c e

theorem clo_some {env : Env} {x : Str} : ∀ (names : List (Str × NameKind)) (acc : List (Str × Addr)), ((x, NameKind.free) ∈ names ∨ (acc.lookup x).isSome = true) → ((clo env names acc).lookup x).isSome = true
  | [], acc, h => h.elim (fun q => nomatch q) id
  | (y, k) :: r, acc, h => by
    rw [clo]
    split
    · refine clo_some r _ ?_
      by_cases hy : (x == y) = true
      · exact .inr (by rw [List.lookup_cons, hy]; rfl)
      · rcases h with q | q
        · rcases List.mem_cons.mp q with q | q
          · cases q; exact absurd (beq_self_eq_true x) hy
          · exact .inl q
        · exact .inr (by rw [List.lookup_cons]; simpa only [hy] using q)
    · rename_i hk
      refine clo_some r _ (h.imp (fun q => ?_) id)
      rcases List.mem_cons.mp q with q | q
      · cases q; exact absurd rfl hk
      · exact q

theorem cells_app : ∀ (names : List (Str × NameKind)) (n : Nat) (acc : List (Str × Addr)), cellsFrom n names acc = cellsFrom n names [] ++ acc
  | [], _, _ => rfl
  | (x, k) :: r, n, acc => by
    unfold cellsFrom
    split
    · rw [cells_app r (n + 1) ((x, n) :: acc), cells_app r (n + 1) [(x, n)], List.append_assoc]; rfl
    · exact cells_app r n acc

theorem lookup_app {x : Str} : ∀ (l l' : List (Str × Addr)), (l ++ l').lookup x = (l.lookup x).or (l'.lookup x)
  | [], l' => by simp
  | (y, c) :: r, l' => by
    rw [List.cons_append, List.lookup_cons, List.lookup_cons]
    split
    · rfl
    · exact lookup_app r l'

theorem cells_none {x : Str} : ∀ (names : List (Str × NameKind)) (n : Nat), (∀ y ∈ names, y.2 = .cell → y.1 ≠ x) → (cellsFrom n names []).lookup x = none
  | [], _, _ => rfl
  | (y, k) :: r, n, h => by
    unfold cellsFrom
    split
    · rename_i hk
      have hk' : k = .cell := by simpa using hk
      rw [cells_app, lookup_app, cells_none r (n + 1) (fun z hz => h z (List.mem_cons_of_mem _ hz))]
      have : (x == y) = false := by
        have := h (y, k) (List.mem_cons_self ..) hk'
        simpa using fun e => this e.symm
      rw [Option.none_or, List.lookup_cons, this]; rfl
    · exact cells_none r n fun z hz => h z (List.mem_cons_of_mem _ hz)

theorem cells_some {x : Str} : ∀ (names : List (Str × NameKind)) (n : Nat), names.lookup x = some NameKind.cell → ((cellsFrom n names []).lookup x).isSome = true
  | [], _, h => by cases h
  | (y, k) :: r, n, h => by
    rw [List.lookup_cons] at h
    unfold cellsFrom
    by_cases e : (x == y) = true
    · rw [e] at h
      cases h
      rw [if_pos (show (NameKind.cell == NameKind.cell) = true from rfl), cells_app, lookup_app, List.lookup_cons, e]
      cases (cellsFrom (n + 1) r []).lookup x <;> rfl
    · have e' : (x == y) = false := by simpa using e
      rw [e'] at h
      split
      · rw [cells_app, lookup_app]
        have := cells_some r (n + 1) h
        cases q : (cellsFrom (n + 1) r []).lookup x with
        | none => rw [q] at this; cases this
        | some _ => rfl
      · exact cells_some r n h

theorem cells_mem {x : Str} {c : Addr} : ∀ (names : List (Str × NameKind)) (n : Nat), (x, c) ∈ cellsFrom n names [] → (x, NameKind.cell) ∈ names
  | [], _, h => nomatch h
  | (y, k) :: r, n, h => by
    unfold cellsFrom at h
    split at h
    · rename_i hk
      have hk' : k = .cell := by simpa using hk
      rw [cells_app] at h
      rcases List.mem_append.mp h with q | q
      · exact List.mem_cons_of_mem _ (cells_mem r (n + 1) q)
      · cases List.mem_singleton.mp q
        subst hk'
        exact List.mem_cons_self ..
    · exact List.mem_cons_of_mem _ (cells_mem r n h)

section
variable {prog : Program} {w : World} {ht : Heap} {mg mb : Str → Option Value} {n : Nat} {orc : Orc}

/-- the frame of a block -/
noncomputable def blockEnv (csc : Scope) (env : Env) (L : Addr) : Env :=
  { scope := relabel csc env, locals := L, globals := env.globals, cells := cellsFrom (L + 1) csc.names (clo env csc.names []), qual := env.qual, func := none, code := env.code, frame := env.frame, builtins := env.builtins }

theorem newBlock {M : Model} {A : Around} {csc : Scope} {env : Env} {cl : List (Str × Addr)} {s : Shared} {Q : Env → Shared → Prop} {Er : Value → Shared → Prop}
    (k : Q { scope := csc, locals := s.heap.objs.size, globals := env.globals, cells := cellsFrom (s.heap.objs.size + 1) csc.names cl, qual := env.qual, func := none, code := env.code, frame := env.frame, builtins := env.builtins }
      { s with heap := pushCells (s.heap.push { cls := .type "dict", data := .dict #[] }) csc.names }) :
    wpAny M A (newFunctionEnv csc env.globals cl [] env.qual none .none (some env)) Q Er s := by
  simp only [newFunctionEnv, Option.isSome_some, if_true]
  refine wpAny_bind (wpAny_alloc ?_)
  refine wpAny_bind (wpAny_layCells _ (fun name kind cells => by cases kind == NameKind.cell <;> simp) _ _ _ _ ?_)
  rw [show ({ s with heap := s.heap.push { cls := .type "dict", data := .dict #[] } } : Shared).heap.objs.size = s.heap.objs.size + 1 from Heap.size_push ..]
  refine wpAny_bind ?_
  rw [List.forIn_nil]
  exact wpAny_pure (wpAny_pure k)

theorem compLoop_any {A : Around} {R : Result → Shared → Prop} {s : Shared} {elt target iter : Expr} {ifs : List Expr} {csc : Scope} {pos : Pos} {it acc : Value} {env : Env} (I : Nat → Shared → Prop)
    (turn : ∀ k s, I k s → wpAny (model prog w) A (pyNext it) (fun r s₁ => match r with
      | none => R (.ok .next) s₁
      | some v => wpAny (model prog w) A (letOwnedTupleGo target it v) (fun _ s₂ => wpAny (model prog w) A (assign target env v) (fun _ s₃ =>
          wpAny (model prog w) A (forIn ifs true fun c r => if r = true then do let ok ← isTrue c env (eval c env); pure (ForInStep.yield ok) else pure (ForInStep.yield r)) (fun ok s₄ =>
            if ok = true then wpAny (model prog w) A (eval elt env) (fun x s₅ =>
              wpAny (model prog w) A (call (.builtin "list.append") [acc, x]) (fun _ s₆ => ∃ j, j < k ∧ I j s₆) (notedBy (model prog w) A env fun e s' => R (.error e) s') s₅) (notedBy (model prog w) A env fun e s' => R (.error e) s') s₄
            else ∃ j, j < k ∧ I j s₄) (notedBy (model prog w) A env fun e s' => R (.error e) s') s₃) (notedBy (model prog w) A env fun e s' => R (.error e) s') s₂) (notedBy (model prog w) A env fun e s' => R (.error e) s') s₁) (notedBy (model prog w) A env fun e s' => R (.error e) s') s)
    (k : Nat) (h : I k s) : codeAny (model prog w) A (.compLoop (.ListComp elt [⟨target, iter, ifs, 0⟩] csc pos) 0 it acc env) R s := by
  refine codeAny_loop rfl I (fun k s hI => ?_) k h
  show wpAny _ A ((compTurn (.ListComp elt [⟨target, iter, ifs, 0⟩] csc pos) 0 it acc env).onRaise (fun x => do noteFrame x env; theTreesLotGoes x)) _ _ s
  refine wpAny_noted ?_
  rw [compTurn_list]
  refine wpAny_bind (wpAny_standAt (wpAny_bind (wpAny_mono (turn k s hI) (fun r s₁ h₁ => ?_) fun _ _ z => z)))
  cases r with
  | none => exact wpAny_pure h₁
  | some v =>
    refine wpAny_bind (wpAny_mono h₁ (fun _ s₂ h₂ => wpAny_bind (wpAny_mono h₂ (fun _ s₃ h₃ => wpAny_bind (wpAny_mono h₃ (fun ok s₄ h₄ => ?_) fun _ _ z => z)) fun _ _ z => z)) fun _ _ z => z)
    cases ok with
    | false => exact wpAny_pure ⟨rfl, h₄⟩
    | true => exact wpAny_bind (wpAny_bind (wpAny_mono h₄ (fun x s₅ h₅ => wpAny_bind (wpAny_mono h₅ (fun _ s₆ h₆ => wpAny_pure (wpAny_pure ⟨rfl, h₆⟩)) fun _ _ z => z)) fun _ _ z => z))

end
end Mine

namespace Mine
open PySem PySem.Calls PyProof.Rows PySem.W
set_option maxRecDepth 100000
set_option autoImplicit false

theorem inner_lookup {sc : Scope} {x : Str} : ∀ (l : List (Str × NameKind)), (l.map fun (y, k) => if (k == .free && sc.kind == .function && sc.names.lookup y == some .cell) then (y, NameKind.cell) else (y, k)).lookup x =
    (l.lookup x).map fun k => if (k == .free && sc.kind == .function && sc.names.lookup x == some .cell) then NameKind.cell else k
  | [] => rfl
  | (y, k) :: r => by
    have ih := inner_lookup (sc := sc) (x := x) r
    rw [List.map_cons, List.lookup_cons, List.lookup_cons]
    by_cases hx : (x == y) = true
    · obtain rfl : x = y := by simpa using hx
      by_cases hc : (k == .free && sc.kind == .function && sc.names.lookup x == some .cell) = true
      · simp only [hc, if_true, beq_self_eq_true, Option.map_some]
      · simp only [hc, if_false, beq_self_eq_true, Option.map_some, Bool.false_eq_true]
    · have hx' : (x == y) = false := by simpa using hx
      by_cases hc : (k == .free && sc.kind == .function && sc.names.lookup y == some .cell) = true
      · simp only [hc, if_true, hx', ih]
      · simp only [hc, if_false, hx', ih, Bool.false_eq_true]

theorem cells_ge : ∀ (names : List (Str × NameKind)) (n : Nat) (x : Str) (c : Addr), (x, c) ∈ cellsFrom n names [] → @LE.le Nat _ n c
  | [], _, _, _, h => nomatch h
  | (y, k) :: r, n, x, c, h => by
    unfold cellsFrom at h
    split at h
    · rw [cells_app] at h
      rcases List.mem_append.mp h with q | q
      · exact Nat.le_of_succ_le (cells_ge r (n + 1) x c q)
      · cases List.mem_singleton.mp q
        exact Nat.le_refl _
    · exact cells_ge r n x c h
theorem cells_inj : ∀ (names : List (Str × NameKind)) (n : Nat) (x y : Str) (c : Addr), (x, c) ∈ cellsFrom n names [] → (y, c) ∈ cellsFrom n names [] → x = y
  | [], _, _, _, _, h, _ => nomatch h
  | (z, k) :: r, n, x, y, c, h, h' => by
    unfold cellsFrom at h h'
    split at h
    · rename_i hk
      rw [if_pos hk] at h'
      rw [cells_app] at h h'
      rcases List.mem_append.mp h with q | q <;> rcases List.mem_append.mp h' with q' | q'
      · exact cells_inj r (n + 1) x y c q q'
      · cases List.mem_singleton.mp q'
        exact absurd (cells_ge r (n + 1) x _ q) (Nat.not_succ_le_self _)
      · cases List.mem_singleton.mp q
        exact absurd (cells_ge r (n + 1) y _ q') (Nat.not_succ_le_self _)
      · cases List.mem_singleton.mp q
        cases List.mem_singleton.mp q'
        rfl
    · rename_i hk
      rw [if_neg hk] at h'
      exact cells_inj r n x y c h h'

theorem innerL (sc csc : Scope) (x : Str) : (inner sc csc).names.lookup x = (csc.names.lookup x).map fun k => if (k == .free && sc.kind == .function && sc.names.lookup x == some .cell) then NameKind.cell else k := inner_lookup csc.names

section
variable {prog : Program} {w : World} {ht : Heap} {mg mb : Str → Option Value} {n : Nat} {orc : Orc}

/-- what compOk says -/
structure COk (sc csc : Scope) (nm cp tg : List Str) : Prop where
  kind : csc.kind = .function
  nodup : (cp ++ tg).Nodup
  loc : ∀ y ∈ csc.names, y.2 = .local → csc.names.lookup y.1 = some .local
  free : ∀ y ∈ csc.names, y.2 = .free → y.1 ∈ cp
  cell : ∀ y ∈ csc.names, y.2 = .cell → y.1 ∈ tg
  cap : ∀ c ∈ cp, csc.names.lookup c = some .free ∧ sc.names.lookup c ≠ some .local ∧ c ∈ nm
  tgt : ∀ t ∈ tg, csc.names.lookup t = some .local ∨ csc.names.lookup t = some .cell
theorem cok {sc csc : Scope} {nm cp tg : List Str} (h : compOk sc csc nm cp tg = true) : COk sc csc nm cp tg := by
  unfold compOk at h
  obtain ⟨h, h5⟩ := and2 h
  obtain ⟨h, h4⟩ := and2 h
  obtain ⟨h, h3⟩ := and2 h
  obtain ⟨h1, h2⟩ := and2 h
  rw [List.all_eq_true] at h3 h4 h5
  refine ⟨of_decide_eq_true h1, of_decide_eq_true h2, fun y hy e => ?_, fun y hy e => ?_, fun y hy e => ?_, fun c hc => ?_, fun t ht => ?_⟩
  · have := (and2 (and2 (h3 y hy)).1).1
    rw [e] at this; simpa using this
  · have := (and2 (and2 (h3 y hy)).1).2
    rw [e] at this; simpa using this
  · have := (and2 (h3 y hy)).2
    rw [e] at this; simpa using this
  · obtain ⟨a, b⟩ := and2 (h4 c hc)
    obtain ⟨a, d⟩ := and2 a
    exact ⟨by simpa using a, by simpa using d, by simpa using b⟩
  · simpa using h5 t ht

theorem COk.seen {sc csc : Scope} {nm cp tg : List Str} (k : COk sc csc nm cp tg) {env : Env} (he : EOk ht sc nm env) : ∀ y ∈ csc.names, y.2 = .free → (env.cells.lookup y.1).isSome = true := fun y hy e => by
  obtain ⟨_, h2, h3⟩ := k.cap y.1 (k.free y hy e)
  exact (he.kinds y.1 h3).elim (fun q => absurd q h2) fun q => q.2

theorem relabel_inner {sc csc : Scope} {nm : List Str} {env : Env} (he : EOk ht sc nm env) : relabel csc env = inner sc csc := by
  unfold relabel inner Env.kindOf
  rw [he.scope]

theorem COk.newNone {sc csc : Scope} {nm cp tg : List Str} (k : COk sc csc nm cp tg) {c : Str} (hc : c ∈ cp) (i : Nat) : (cellsFrom i csc.names []).lookup c = none := by
  refine cells_none _ _ fun y hy e q => ?_
  have h1 := k.cell y hy e
  rw [q] at h1
  exact (List.nodup_append.mp k.nodup).2.2 c hc c h1 rfl
theorem COk.capCell {sc csc : Scope} {nm cp tg : List Str} (k : COk sc csc nm cp tg) {env : Env} (he : EOk ht sc nm env) {c : Str} (hc : c ∈ cp) (i : Nat) : (cellsFrom i csc.names (clo env csc.names [])).lookup c = env.cells.lookup c := by
  rw [cells_app, lookup_app, k.newNone hc, Option.none_or]
  obtain ⟨h1, h2, h3⟩ := k.cap c hc
  have := clo_some (env := env) (x := c) csc.names [] (.inl (mem_of_lookup h1))
  obtain ⟨d, hd⟩ := Option.isSome_iff_exists.mp this
  rw [hd, clo_sub csc.names [] (k.seen he) (fun _ _ e => by cases e) c d hd]

theorem block_eok {sc csc : Scope} {nm cp tg : List Str} (k : COk sc csc nm cp tg) {env : Env} (he : EOk ht sc nm env) {L : Addr} (hf : ∀ a : Nat, L ≤ a → ht.get? a = none) (hl : ∀ x c, env.cells.lookup x = some c → @LT.lt Nat _ c L) :
    EOk ht (inner sc csc) (cp ++ tg) (blockEnv csc env L) where
  scope := relabel_inner he
  kind := k.kind
  glob := he.glob
  bi := he.bi
  nodup := k.nodup
  kinds x hx := by
    rw [innerL]
    rcases List.mem_append.mp hx with hc | ht'
    · obtain ⟨h1, h2, h3⟩ := k.cap x hc
      refine .inr ⟨?_, ?_⟩
      · rw [h1]
        simp only [Option.map_some]
        split
        · exact .inl rfl
        · exact .inr rfl
      · show ((cellsFrom (L + 1) csc.names (clo env csc.names [])).lookup x).isSome = true
        rw [k.capCell he hc]
        exact (he.kinds x h3).elim (fun q => absurd q h2) fun q => q.2
    · rcases k.tgt x ht' with q | q
      · rw [q]; exact .inl rfl
      · refine .inr ⟨.inl ?_, ?_⟩
        · rw [q]; rfl
        · exact by show ((cellsFrom (L + 1) csc.names (clo env csc.names [])).lookup x).isSome = true; rw [cells_app, lookup_app]; have := cells_some csc.names (L + 1) q; cases z : (cellsFrom (L + 1) csc.names []).lookup x with
          | none => rw [z] at this; cases this
          | some _ => rfl
  inj x y c hx hy := by
    replace hx : (cellsFrom (L + 1) csc.names (clo env csc.names [])).lookup x = some c := hx
    replace hy : (cellsFrom (L + 1) csc.names (clo env csc.names [])).lookup y = some c := hy
    rw [cells_app, lookup_app, Option.or_eq_some_iff] at hx hy
    have old : ∀ z, (clo env csc.names []).lookup z = some c → env.cells.lookup z = some c := fun z e => clo_sub csc.names [] (k.seen he) (fun _ _ e => by cases e) z c e
    rcases hx with hx | ⟨_, hx⟩ <;> rcases hy with hy | ⟨_, hy⟩
    · exact cells_inj _ _ x y c (mem_of_lookup hx) (mem_of_lookup hy)
    · have h1 := cells_ge _ _ _ _ (mem_of_lookup hx)
      have h2 := hl _ _ (old y hy)
      exact absurd h2 (Nat.not_lt.mpr (Nat.le_of_succ_le h1))
    · have h1 := cells_ge _ _ _ _ (mem_of_lookup hy)
      have h2 := hl _ _ (old x hx)
      exact absurd h2 (Nat.not_lt.mpr (Nat.le_of_succ_le h1))
    · exact he.inj x y c (old x hx) (old y hy)
  new a ha := by
    rcases ha with rfl | ⟨x, hx⟩
    · exact hf _ (Nat.le_refl _)
    · replace hx : (cellsFrom (L + 1) csc.names (clo env csc.names [])).lookup x = some a := hx
      rw [cells_app, lookup_app, Option.or_eq_some_iff] at hx
      rcases hx with hx | ⟨_, hx⟩
      · exact hf _ (Nat.le_of_succ_le (cells_ge _ _ _ _ (mem_of_lookup hx)))
      · exact he.new a (.inr ⟨x, clo_sub csc.names [] (k.seen he) (fun _ _ e => by cases e) x a hx⟩)

theorem block_fr {sc csc : Scope} {nm cp tg : List Str} (k : COk sc csc nm cp tg) {env : Env} (he : EOk ht sc nm env) {L : Addr} {M : Pl} {base tp : List V} {h : Heap}
    (hbl : base.length = cp.length) (htl : tp.length = tg.length) (htu : ∀ v ∈ tp, v = .unb) (hns : ∃ m, h.Ns L m) (hnew : ∀ x c, (cellsFrom (L + 1) csc.names []).lookup x = some c → ∃ v, h.IsCell c v) (hold : ∀ x c, env.cells.lookup x = some c → ∃ v, h.IsCell c v)
    (hcap : ∀ (i : Nat) (x : Str) (v : V), cp[i]? = some x → base[i]? = some v → v = .unb ∨ ∃ c mv, env.cells.lookup x = some c ∧ h.IsCell c (some mv) ∧ VR M h v mv) :
    FR (cp ++ tg) (blockEnv csc env L) M (base ++ tp) h := by
  have kindIn : ∀ x, (blockEnv csc env L).kindOf x = (inner sc csc).names.lookup x := fun x => by
    unfold Env.kindOf blockEnv
    rw [relabel_inner he]
  have ofT : ∀ (i : Nat) (v : V), ¬ i < cp.length → (base ++ tp)[i]? = some v → v = .unb := fun i v hi e => by
    rw [List.getElem?_append_right (by omega)] at e
    exact htu v (List.mem_of_getElem? e)
  refine ⟨by rw [List.length_append, List.length_append, hbl, htl], ?_, ?_, ?_⟩
  · obtain ⟨m, hm⟩ := hns
    refine ⟨m, hm, fun i x v e1 e2 e3 => ?_⟩
    by_cases hi : i < cp.length
    · rw [List.getElem?_append_left hi] at e1
      exfalso
      rw [kindIn, innerL, (k.cap x (List.mem_of_getElem? e1)).1] at e3
      simp only [Option.map_some] at e3
      split at e3 <;> cases e3
    · exact .inl (ofT i v hi e2)
  · intro i x v e1 e2 e3
    by_cases hi : i < cp.length
    · rw [List.getElem?_append_left hi] at e1
      rw [List.getElem?_append_left (by omega)] at e2
      refine (hcap i x v e1 e2).imp id fun ⟨c, mv, a, b, d⟩ => ⟨c, mv, ?_, b, d⟩
      show (cellsFrom (L + 1) csc.names (clo env csc.names [])).lookup x = some c
      rw [k.capCell he (List.mem_of_getElem? e1)]; exact a
    · exact .inl (ofT i v hi e2)
  · intro x c e
    replace e : (cellsFrom (L + 1) csc.names (clo env csc.names [])).lookup x = some c := e
    rw [cells_app, lookup_app, Option.or_eq_some_iff] at e
    rcases e with e | ⟨_, e⟩
    · exact hnew x c e
    · exact hold x c (clo_sub csc.names [] (k.seen he) (fun _ _ e => by cases e) x c e)

theorem capNames_get {nm : List Str} : ∀ {caps : List Nat} {cp : List Str}, capNames nm caps = some cp → cp.length = caps.length ∧ ∀ (i : Nat) (j : Nat), caps[i]? = some j → ∃ x, nm[j]? = some x ∧ cp[i]? = some x
  | [], cp, h => by
    unfold capNames at h
    simp at h; subst h
    exact ⟨rfl, fun i j e => by simp at e⟩
  | c :: r, cp, h => by
    unfold capNames at h
    rw [List.mapM_cons] at h
    obtain ⟨x, h1, h⟩ := bnd h
    obtain ⟨xs, h2, h⟩ := bnd h
    cases h
    obtain ⟨l, g⟩ := capNames_get (caps := r) (cp := xs) h2
    refine ⟨by rw [List.length_cons, List.length_cons, l], fun i j e => ?_⟩
    cases i with
    | zero => simp at e; subst e; exact ⟨x, h1, rfl⟩
    | succ i => simpa using g i j (by simpa using e)

end
end Mine

namespace Mine
open PySem PySem.Calls PyProof.Rows PySem.W
set_option maxRecDepth 100000
set_option autoImplicit false

noncomputable def condM (two : Bool) (cond : E) (isc : Scope) (inm : List Str) (ifs : List Expr) : Bool :=
  match ifs with
  | [] => (wTrueE cond).isSome
  | [c] => !two && m cond true isc inm c
  | _ => false
theorem trueE_of {e : E} (h : (wTrueE e).isSome = true) : e = .bool true := by
  obtain ⟨⟨q⟩, _⟩ := Option.isSome_iff_exists.mp h
  exact q

theorem tgt_len {two : Bool} {t : Expr} {tg : List Str} (h : tgtNames two t = some tg) : tg.length = if two then 2 else 1 := by
  cases two with
  | false => obtain ⟨x, p, _, rfl⟩ := tgtNames_one h; rfl
  | true => obtain ⟨x, px, y, py, k, p, _, rfl⟩ := tgtNames_two h; rfl
theorem tgtV_len {two : Bool} {x : V} {tv : List V} (h : tgtV two x = some tv) : tv.length = if two then 2 else 1 := by
  unfold tgtV at h
  split at h
  · rename_i e
    rw [if_pos e]
    split at h
    · cases h; rfl
    · cases h
  · rename_i e
    rw [if_neg e]
    cases h; rfl

/-- the slots of a block's targets -/
noncomputable def slots (k : Nat) : Nat → List Nat
  | 0 => []
  | n + 1 => k :: slots (k + 1) n
theorem slots_names {cp : List Str} : ∀ (tg pre : List Str), (slots (cp ++ pre).length tg.length).mapM (fun i => (cp ++ pre ++ tg)[i]?) = some tg
  | [], _ => rfl
  | t :: r, pre => by
    show (List.mapM _ ((cp ++ pre).length :: slots ((cp ++ pre).length + 1) r.length)) = _
    rw [List.mapM_cons]
    have h1 : (cp ++ pre ++ t :: r)[(cp ++ pre).length]? = some t := by
      rw [List.getElem?_append_right (Nat.le_refl _), Nat.sub_self]; rfl
    have h2 := slots_names (cp := cp) r (pre ++ [t])
    have e1 : cp ++ (pre ++ [t]) ++ r = cp ++ pre ++ t :: r := by simp
    have e2 : (cp ++ (pre ++ [t])).length = (cp ++ pre).length + 1 := by simp; omega
    rw [e1, e2] at h2
    rw [h1, h2]; rfl
theorem slots_set {base : List V} : ∀ (tv tp pre : List V), tp.length = tv.length → setAll (slots (base ++ pre).length tv.length) tv (base ++ pre ++ tp) = some (base ++ pre ++ tv)
  | [], tp, pre, h => by
    have : tp = [] := List.length_eq_zero_iff.mp h
    subst this; rfl
  | v :: r, [], pre, h => by simp at h
  | v :: r, t :: tp, pre, h => by
    show setAll ((base ++ pre).length :: slots ((base ++ pre).length + 1) r.length) (v :: r) (base ++ pre ++ t :: tp) = _
    rw [setAll, if_pos (by simp)]
    have e1 : (base ++ pre ++ t :: tp).set (base ++ pre).length v = base ++ (pre ++ [v]) ++ tp := by
      rw [List.set_append_right _ _ (Nat.le_refl _), Nat.sub_self]
      simp
    have h2 := slots_set (base := base) r tp (pre ++ [v]) (by simpa using h)
    have e2 : (base ++ (pre ++ [v])).length = (base ++ pre).length + 1 := by simp; omega
    rw [e2] at h2
    rw [e1, h2]
    simp

section
variable {prog : Program} {w : World} {ht : Heap} {mg mb : Str → Option Value} {n : Nat} {orc : Orc}

theorem cond_ok {two : Bool} {cond : E} {isc : Scope} {inm : List Str} {ifs : List Expr} {env : Env} {A : Around} {σ : List V} {μ μ' : Store} {v : V} {s : Shared} {mt : Pl} {Q : Bool → Shared → Prop} {Er : Value → Shared → Prop}
    (mc : condM two cond isc inm ifs = true) (hc : TOk prog w ht n orc cond) (he : EOk ht isc inm env) (hA : OkA n A) (hv : ev orc cond σ μ = some (v, μ')) (r : SR ht mt μ s.heap) (f : FR inm env mt σ s.heap)
    (k : ∀ b h' tk mt', v = .bool b → Ext None₀ mt s.heap mt' h' → SR ht mt' μ' h' → Q b { s with heap := h', toks := tk }) :
    wpAny (model prog w) A (forIn ifs true fun c r => if r = true then do let ok ← isTrue c env (eval c env); pure (ForInStep.yield ok) else pure (ForInStep.yield r)) Q Er s := by
  unfold condM at mc
  split at mc
  · obtain rfl := trueE_of mc
    rw [ev] at hv; cases hv
    exact wpAny_tests_nil (k true s.heap s.toks mt rfl .refl r)
  · exact wpAny_tests_one (hc isc inm _ env A σ μ v μ' s mt _ _ _ (and2 mc).2 he hA hv r f k)
  · cases mc

/-- at a comprehension's turn -/
inductive CI (ht : Heap) (nm : List Str) (env : Env) (s : Shared) (mt : Pl) (h₁ : Heap) (D : Addr) (base : List V) (tl : Nat) (fp : List Addr) (N : Nat) (St : Nat → Heap → Prop) (P : Nat → Store → List V → List V → Prop) : Nat → Shared → Prop
  | mk {h' : Heap} {tk i : Nat} {M : Pl} {μi : Store} {ys : List V} {ws : List Value} {rest tp : List V} (hi : i ≤ N) (rI : SR ht M μi h') (stI : St i h') (fI : FR nm env M (base ++ tp) h') (htp : tp.length = tl) (pD : h'.PlainList D ws.toArray) (vys : VRs M h' ys ws)
      (hyl : ys.length ≤ i) (hE : Ext None₀ mt h₁ M h') (hoff : ∀ b ∈ fp, b ∉ M.l) (p : P i μi ys rest) : CI ht nm env s mt h₁ D base tl fp N St P (N + 1 - i) { s with heap := h', toks := tk }

theorem comp_ok (C : Cx ht mg mb) {mu two : Bool} {sk : Sk} {caps : List Nat} {src src2 cond elt : E} (hs : VOk prog w ht n orc src) (hs2 : VOk prog w ht n orc src2) (hc : TOk prog w ht n orc cond) (hel : VOk prog w ht n orc elt)
    {sc csc : Scope} {nm cp tg : List Str} {env : Env} {A : Around} {σ : List V} {μ μ' : Store} {v : V} {s : Shared} {mt : Pl} {target iter pelt : Expr} {ifs : List Expr} {pos pos' : Pos} {use : Option (Value → Sem Unit)} {Q : Value → Shared → Prop} {Er : Value → Shared → Prop}
    (htg : tgtNames two target = some tg) (hcp : capNames nm caps = some cp) (K : COk sc csc nm cp tg) (h2 : two = (sk != .plain)) (me : m elt false (inner sc csc) (cp ++ tg) pelt = true) (mc : condM two cond (inner sc csc) (cp ++ tg) ifs = true) (ms : srcM sk sc nm src src2 iter = true)
    (he : EOk ht sc nm env) (hA : OkA n A) (hv : ev orc (.comp mu two sk caps src src2 cond elt) σ μ = some (v, μ')) (r : SR ht mt μ s.heap) (f : FR nm env mt σ s.heap)
    (k : ∀ (D L : Addr) h' tk M, Ext None₀ mt s.heap M h' → SR ht M μ' h' → VR M h' v (.ref D) → (∃ m, h'.Ns L m) → s.heap.get? L = none → compPost (model prog w) A Er use Q (.ref D) L (.ok .next) { s with heap := h', toks := tk }) :
    wpAny (model prog w) A (comprehension (.ListComp pelt [⟨target, iter, ifs, 0⟩] csc pos) csc env pos' (newList []) false (eval iter env) use) Q Er s := by
  rw [ev] at hv
  obtain ⟨⟨x, μ₁⟩, e1, hv⟩ := bnd hv
  obtain ⟨⟨y, μ₂⟩, e2, hv⟩ := bnd hv
  obtain ⟨its, e3, hv⟩ := bnd hv
  dsimp only at hv
  obtain ⟨⟨all, μ₃⟩, e4, hv⟩ := bnd hv
  dsimp only at hv
  generalize hbase : caps.map (fun i => σ.getD i .unb) = base at e4
  refine wpAny_comprehension_free (cl := clo env csc.names []) rfl (src_fold ms env) (clo_ok (K.seen he)) K.kind K.loc ?_
  refine src_ok C hs hs2 ms he hA e1 e2 e3 r f fun it h₁ h₂ tk₂ M₁ x₁ r₁ S hlen => ?_
  obtain ⟨fp, wr, St, val, W, st0, wnew, foff, keep12, vr⟩ := S
  rw [← h2] at W
  rw [← h2] at vr
  refine wpAny_newObj_type ?_ (by size_fits)
  refine newBlock ?_
  have f₁ := f.nx r x₁
  -- the new places
  have hD2 : h₂.get? h₂.objs.size = none := fresh_size
  have old1 : ∀ a : Nat, h₂.objs.size ≤ a → h₁.get? a = none := fun a ha => by
    cases e : h₁.get? a with
    | none => rfl
    | some o => exact absurd (Heap.lt_size (keep12 a o e)) (Nat.not_lt.mpr ha)
  have oldt : ∀ a : Nat, h₂.objs.size ≤ a → ht.get? a = none := fun a ha => by
    cases e : ht.get? a with
    | none => rfl
    | some o => have := r₁.top a o e; rw [old1 a ha] at this; cases this
  generalize hlst : ({ cls := .type "list", dict := none, data := .seq ([] : List Value).toArray } : Obj) = lst
  have hsz3 : (h₂.push lst).objs.size = h₂.objs.size + 1 := Heap.size_push ..
  generalize hH4 : pushCells ((h₂.push lst).push { cls := .type "dict", data := .dict #[] }) csc.names = H4
  have keep24 : ∀ b o, h₂.get? b = some o → H4.get? b = some o := fun b o e => by
    rw [← hH4]
    exact pushCells_keeps _ _ b o (Heap.get?_push_of_some _ (Heap.get?_push_of_some _ e))
  have keep14 : ∀ b o, h₁.get? b = some o → H4.get? b = some o := fun b o e => keep24 b o (keep12 b o e)
  have hD4 : H4.PlainList h₂.objs.size #[] := ⟨0, by
    rw [← hH4]
    refine pushCells_keeps _ _ _ _ (Heap.get?_push_of_some _ ?_)
    rw [Heap.get?_push_size _ (by rw [← hlst]; rfl), ← hlst]⟩
  have hNs4 : H4.Ns (h₂.objs.size + 1) (fun _ => none) := by
    have := (Heap.Ns.new (h₂.push lst) (.type "dict")).keeps (pushCells_keeps csc.names _)
    rw [hH4, hsz3] at this
    exact this
  have cells4 : ∀ x c, (cellsFrom (h₂.objs.size + 1 + 1) csc.names []).lookup x = some c → ∃ v, H4.IsCell c v := fun x c e => by
    have ok := cellsFrom_ok csc.names ((h₂.push lst).push { cls := .type "dict", data := .dict #[] }) 0 [] ⟨fun _ _ hm => (nomatch hm), List.Pairwise.nil⟩ (Nat.zero_le _)
    rw [hH4, Heap.size_push, hsz3] at ok
    exact ⟨_, (ok.empty x c (mem_of_lookup e)).1⟩
  have hEnv : ({ ({ scope := csc, locals := (h₂.push lst).objs.size, globals := env.globals, cells := cellsFrom ((h₂.push lst).objs.size + 1) csc.names (clo env csc.names []), qual := env.qual, func := none, code := env.code, frame := env.frame, builtins := env.builtins } : Env) with scope := relabel csc env }) = blockEnv csc env (h₂.objs.size + 1) := by
    rw [hsz3]; rfl
  show codeAny _ _ (.compStart _ 0 it (.ref h₂.objs.size) ({ ({ scope := csc, locals := (h₂.push lst).objs.size, globals := env.globals, cells := cellsFrom ((h₂.push lst).objs.size + 1) csc.names (clo env csc.names []), qual := env.qual, func := none, code := env.code, frame := env.frame, builtins := env.builtins } : Env) with scope := relabel csc env })) (compPost (model prog w) A Er use Q (.ref h₂.objs.size) (h₂.push lst).objs.size) _
  rw [hEnv, hsz3]
  generalize hD : h₂.objs.size = D at *
  have eok : EOk ht (inner sc csc) (cp ++ tg) (blockEnv csc env (D + 1)) := block_eok K he (fun a ha => oldt a (Nat.le_of_succ_le ha)) fun x c e => by
    obtain ⟨u, o, ho, _⟩ := f₁.cs x c e
    have := Heap.lt_size (keep12 c o ho)
    rw [hD] at this
    exact Nat.lt_succ_of_lt this
  have fresh1 : ∀ a ∈ D :: wr, h₁.get? a = none := fun a ha => by
    rcases List.mem_cons.mp ha with rfl | ha
    · exact old1 _ (Nat.le_refl _)
    · exact wnew a ha
  have wlt : ∀ b ∈ fp, @LT.lt Nat _ b D := fun b hb => by
    obtain ⟨o, e, _⟩ := W.there 0 h₂ st0 b hb
    have := Heap.lt_size e
    rwa [hD] at this
  have r4 : SR ht ⟨M₁.l, (D :: wr) ++ M₁.hd⟩ μ₂ H4 := SR.hide (as := D :: wr) r₁ keep14 fresh1 fun a ha => by
    rcases List.mem_cons.mp ha with rfl | ha
    · obtain ⟨j, e⟩ := hD4; exact ⟨_, e⟩
    · obtain ⟨o, e, _⟩ := W.there 0 h₂ st0 a (W.sub a ha)
      exact ⟨o, keep24 a o e⟩
  obtain ⟨hcl, hcg⟩ := capNames_get hcp
  have hbl : base.length = cp.length := by rw [← hbase, List.length_map, hcl]
  have hcap : ∀ (i : Nat) (x : Str) (u : V), cp[i]? = some x → base[i]? = some u → u = .unb ∨ ∃ c mv, env.cells.lookup x = some c ∧ H4.IsCell c (some mv) ∧ VR ⟨M₁.l, (D :: wr) ++ M₁.hd⟩ H4 u mv := by
    intro i x u g1 g2
    rw [← hbase, List.getElem?_map] at g2
    obtain ⟨j, g3, g4⟩ := Option.map_eq_some_iff.mp g2
    obtain ⟨x', g5, g6⟩ := hcg i j g3
    rw [g1] at g6; cases g6
    have hlt : j < σ.length := by rw [f.len]; exact (List.getElem?_eq_some_iff.mp g5).1
    have g7 : σ[j]? = some u := by
      rw [← g4, List.getD_eq_getElem?_getD, List.getElem?_eq_getElem hlt]; rfl
    have hk : env.kindOf x ≠ some .local := by rw [he.kindOf]; exact (K.cap x (List.mem_of_getElem? g1)).2.1
    exact (f₁.cl j x u g5 g7 hk).imp id fun ⟨c, mv, a, b, d⟩ => ⟨c, mv, a, b.keeps keep14, VR.hide (as := D :: wr) keep14 fresh1 u d⟩
  have f4 : FR (cp ++ tg) (blockEnv csc env (D + 1)) ⟨M₁.l, (D :: wr) ++ M₁.hd⟩ (base ++ tg.map fun _ => .unb) H4 :=
    block_fr K he hbl (by rw [List.length_map]) (fun v hv => by obtain ⟨_, _, e⟩ := List.mem_map.mp hv; exact e.symm) ⟨_, hNs4⟩ cells4 (fun x c e => by
      obtain ⟨u, hu⟩ := f₁.cs x c e
      exact ⟨u, hu.keeps keep14⟩) hcap
  have E4 : Ext None₀ ⟨M₁.l, (D :: wr) ++ M₁.hd⟩ h₁ ⟨M₁.l, (D :: wr) ++ M₁.hd⟩ H4 := .of_keep keep14
  have st4 : St 0 H4 := W.frame _ _ _ st0 fun b _ o e => keep24 b o e
  -- where a target lies
  have tfree : ∀ x ∈ tg, (inner sc csc).names.lookup x ≠ some .free := fun x hx => by
    rw [innerL]
    rcases K.tgt x hx with q | q
    · rw [q]; simp
    · rw [q]; simp
  have tnew : ∀ b, (∃ x ∈ tg, At (blockEnv csc env (D + 1)) x b) → @LT.lt Nat _ D b := by
    rintro b ⟨x, hx, ⟨_, rfl⟩ | ⟨hk, hl⟩⟩
    · exact Nat.lt_succ_self _
    · replace hl : (cellsFrom (D + 1 + 1) csc.names (clo env csc.names [])).lookup x = some b := hl
      rw [eok.kindOf, innerL] at hk
      have hcell : csc.names.lookup x = some .cell := (K.tgt x hx).resolve_left fun q => by rw [q] at hk; exact hk rfl
      have hs := cells_some (x := x) csc.names (D + 1 + 1) hcell
      obtain ⟨c, hc⟩ := Option.isSome_iff_exists.mp hs
      rw [cells_app, lookup_app, hc] at hl
      cases hl
      exact Nat.lt_of_lt_of_le (Nat.lt_succ_of_lt (Nat.lt_succ_self _)) (cells_ge _ _ _ _ (mem_of_lookup hc))
  have slotsN : (slots cp.length tg.length).mapM (fun i => (cp ++ tg)[i]?) = some tg := by
    have := slots_names (cp := cp) tg []
    simpa using this
  have slotsS : ∀ tv tp : List V, tp.length = tg.length → tv.length = tg.length → setAll (slots cp.length tg.length) tv (base ++ tp) = some (base ++ tv) := fun tv tp q1 q2 => by
    have := slots_set (base := base) tv tp [] (by rw [q1, q2])
    rw [List.append_nil, hbl, q2] at this
    exact this
  have loop : ∀ tk, codeAny (model prog w) A (.compLoop (.ListComp pelt [⟨target, iter, ifs, 0⟩] csc pos) 0 it (.ref D) (blockEnv csc env (D + 1))) (compPost (model prog w) A Er use Q (.ref D) (D + 1)) { s with heap := H4, toks := tk } := by
    intro tk₀
    refine compLoop_any (CI ht (cp ++ tg) (blockEnv csc env (D + 1)) s ⟨M₁.l, (D :: wr) ++ M₁.hd⟩ h₁ D base tg.length fp its.length St fun i μi ys rest =>
        compL (fun it μ => do
          let t ← tgtV two it
          let (c, μ) ← ev orc cond (base ++ t) μ
          match c with
          | .bool true => do
            let (y, μ) ← ev orc elt (base ++ t) μ
            some (some y, μ)
          | .bool false => some (Option.none, μ)
          | _ => Option.none) (its.drop i) μi = some (rest, μ₃) ∧ ys ++ rest = all) ?_ (its.length + 1)
      (CI.mk (i := 0) (Nat.zero_le _) r4 st4 f4 (by rw [List.length_map]) hD4 VRs.nil (Nat.zero_le _) E4 foff ⟨e4, rfl⟩)
    rintro k' s' ⟨hi, rI, stI, fI, htp, pD, vys, hyl, hE, hoff, hcomp, hall⟩
    rename_i h' tk i M μi ys ws rest tp
    have hMhd : M.hd = (D :: wr) ++ M₁.hd := hE.hide
    have Dhd : D ∈ M.hd := by rw [hMhd]; exact List.mem_append_left _ (List.mem_cons_self ..)
    have whd : ∀ b, b ∈ wr → b ∈ M.hd := fun b hb => by rw [hMhd]; exact List.mem_append_left _ (List.mem_cons_of_mem _ hb)
    have Dw : D ∉ wr := fun q => Nat.lt_irrefl _ (wlt D (W.sub D q))
    by_cases hlt : i < its.length
    · have hx : its[i]? = some its[i] := List.getElem?_eq_getElem hlt
      rw [List.drop_eq_getElem_cons hlt, compL] at hcomp
      obtain ⟨⟨yo, μa⟩, c1, hcomp⟩ := bnd hcomp
      obtain ⟨⟨yr, μb⟩, c2, hcomp⟩ := bnd hcomp
      cases hcomp
      obtain ⟨tv, t1, c1⟩ := bnd c1
      obtain ⟨⟨cv, μc⟩, t2, c1⟩ := bnd c1
      dsimp only at c1
      have htv : tv.length = tg.length := by rw [tgtV_len t1, tgt_len htg]
      refine W.turn i _ (blockEnv csc env (D + 1)) target tg _ _ _ hlt htg stI (fun v s₁ z => z) fun ws' ha tka hval sta keepa => ?_
      have ala : ∀ b, b ∈ wr → ∃ o, ha.get? b = some o := fun b hb => let ⟨o, e, _⟩ := W.there _ _ sta b (W.sub b hb); ⟨o, e⟩
      have ra : SR ht M μi ha := rI.but (F := (· ∈ wr)) keepa whd ala
      have fa : FR (cp ++ tg) (blockEnv csc env (D + 1)) M (base ++ tp) ha := fI.but (F := (· ∈ wr)) keepa whd ala fun a hown hw => by
        obtain ⟨o, e, z⟩ := W.there _ _ stI a (W.sub a hw)
        exact fI.notVal hown e z
      have Xa : Ext (· ∈ wr) M h' M ha := Ext.but keepa ala
      have Ea : Ext None₀ ⟨M₁.l, (D :: wr) ++ M₁.hd⟩ h₁ M ha := hE.after Xa wnew
      have pDa : ha.PlainList D ws.toArray := pD.at fun o e => keepa D o Dw e
      have vysa : VRs M ha ys ws := VRs.ext Xa (fun b hb => .inl (whd b hb)) ys vys
      obtain ⟨tv', t1', q⟩ := vr i _ ws' (D :: wr) None₀ M ha hx hval fresh1 apart_nil Ea
      rw [t1] at t1'; cases t1'
      refine stores_ok eok _ tg tv ws' (base ++ tp) (base ++ tv) _ slotsN tfree (slotsS tv tp htp htv) ra fa q fun hb tkb xb rb fb => ?_
      have notF : ∀ b o, ha.get? b = some o → ValObj o → ¬ ∃ x ∈ tg, At (blockEnv csc env (D + 1)) x b := fun b o e z ⟨x, _, q⟩ => fa.notVal q.own e z
      have Eb : Ext None₀ ⟨M₁.l, (D :: wr) ++ M₁.hd⟩ h₁ M hb := Ea.after xb fun b z => old1 b (Nat.le_of_lt (tnew b z))
      have stb : St (i + 1) hb := W.frame _ _ _ sta fun b hbf o e => xb.keep b o e (hoff b hbf) fun z => Nat.lt_asymm (wlt b hbf) (tnew b z)
      have pDb : hb.PlainList D ws.toArray := pDa.at fun o e => xb.keep D o e (rI.hid D Dhd).2.1 fun z => Nat.lt_irrefl _ (tnew D z)
      have vysb : VRs M hb ys ws := VRs.ext xb (fun b ⟨x, _, z⟩ => fa.apart b z.own) ys vysa
      refine cond_ok mc hc eok hA t2 rb fb fun b hc' tkc Mc ec xc rc => ?_
      subst ec
      have fc := fb.nx rb xc
      have Ec := Eb.trans xc
      have stc : St (i + 1) hc' := W.frame _ _ _ stb fun b hbf o e => xc.keep b o e (hoff b hbf) id
      have offc : ∀ b ∈ fp, b ∉ Mc.l := fun b hbf => by
        obtain ⟨o, e, _⟩ := W.there _ _ stb b hbf
        exact xc.nmem e (hoff b hbf)
      have pDc : hc'.PlainList D ws.toArray := pDb.at fun o e => xc.keep D o e (rb.hid D Dhd).2.1 id
      have vysc := vysb.up xc
      cases b with
      | false =>
        cases c1
        exact ⟨its.length + 1 - (i + 1), by omega, CI.mk hlt rc stc fc htv pDc vysc (Nat.le_succ_of_le hyl) Ec offc ⟨c2, hall⟩⟩
      | true =>
        obtain ⟨⟨yv, μd⟩, t3, c1⟩ := bnd c1
        cases c1
        refine hel _ _ _ _ A (base ++ tv) μc yv _ _ Mc _ _ me eok hA t3 rc fc fun wy hd tkd Md xd rd vd => ?_
        have Ed := Ec.trans xd
        have std : St (i + 1) hd := W.frame _ _ _ stc fun b hbf o e => xd.keep b o e (offc b hbf) id
        have offd : ∀ b ∈ fp, b ∉ Md.l := fun b hbf => by
          obtain ⟨o, e, _⟩ := W.there _ _ stc b hbf
          exact xd.nmem e (offc b hbf)
        have Dhc : D ∈ Mc.hd := by rw [xc.hide]; exact Dhd
        have Dhd' : D ∈ Md.hd := by rw [xd.hide]; exact Dhc
        have pDd : hd.PlainList D ws.toArray := pDc.at fun o e => xd.keep D o e (rc.hid D Dhc).2.1 id
        have vysd := vysc.up xd
        have fd := fc.nx rc xd
        have hsz : ws.toArray.size ≤ sizeLine := by
          rw [List.size_toArray, vysd.length]
          have : 2 * lim ≤ sizeLine := by decide
          omega
        refine wpAny_list_append_plain pDd (fun he' pe se => ?_) hsz
        have kE : ∀ b o, ¬ b = D → hd.get? b = some o → he'.get? b = some o := fun b o q e => (se.2 b q).trans e
        have aE : ∀ b, b = D → ∃ o, he'.get? b = some o := fun b q => by subst q; obtain ⟨j, e⟩ := pe; exact ⟨_, e⟩
        have hF : ∀ b, b = D → b ∈ Md.hd := fun b q => by rw [q]; exact Dhd'
        have Xe : Ext (· = D) Md hd Md he' := Ext.but kE aE
        refine ⟨its.length + 1 - (i + 1), by omega, CI.mk (ys := ys ++ [yv]) (ws := ws ++ [wy]) (rest := yr) hlt (rd.but (F := (· = D)) kE hF aE) ?_ (fd.but (F := (· = D)) kE hF aE fun a ho q => ?_) htv ?_ ?_ ?_ (Ed.after Xe fun b q => ?_) offd ⟨c2, ?_⟩⟩
        · exact W.frame _ _ _ std fun b hbf o e => kE b o (fun q => Nat.lt_irrefl _ (q ▸ wlt b hbf)) e
        · obtain ⟨o, e, z⟩ := plain_val pDd
          subst q
          exact fd.notVal ho e z
        · simpa using pe
        · exact VRs.append (VRs.ext Xe (fun b q => .inl (hF b q)) ys vysd) (VRs.one (VR.ext Xe (fun b q => .inl (hF b q)) yv vd))
        · rw [List.length_append, List.length_singleton]; omega
        · rw [q]; exact fresh1 D (List.mem_cons_self ..)
        · simpa using hall
    · have hin : i = its.length := by omega
      subst hin
      rw [List.drop_length, compL] at hcomp
      cases hcomp
      rw [List.append_nil] at hall
      subst hall
      refine W.done _ _ _ stI fun hz tkz keepz => ?_
      have offL : @Ne Nat (D + 1) D := Nat.succ_ne_self _
      have rz : SR ht ⟨M.l, D :: M₁.hd⟩ μ₃ hz := SR.drop (F := (· ∈ wr)) (l := M.l) (hd := M.hd) rI keepz whd (fun b hb => by
          rw [hMhd]
          rcases List.mem_cons.mp hb with q | q
          · rw [q]; exact List.mem_append_left _ (List.mem_cons_self ..)
          · exact List.mem_append_right _ q) fun b hb hw => by
          rcases List.mem_cons.mp hb with q | q
          · rw [q] at hw; exact Dw hw
          · obtain ⟨⟨o, e⟩, _⟩ := r₁.hid b q
            rw [wnew b hw] at e; cases e
      have vz : VRs ⟨M.l, D :: M₁.hd⟩ hz ys ws := VRs.lift (M := M) (M' := ⟨M.l, D :: M₁.hd⟩) (fun b o z => keepz b o fun q => z.2 (whd b q)) (fun b z => ⟨z.1, fun q => z.2 (by
          rw [hMhd]
          rcases List.mem_cons.mp q with q | q
          · rw [q]; exact List.mem_append_left _ (List.mem_cons_self ..)
          · exact List.mem_append_right _ q)⟩) (fun _ _ e => e) ys vys
      have pz : hz.PlainList D ws.toArray := pD.at fun o e => keepz D o Dw e
      have Ez' := hE.afterK (F := (· ∈ wr)) keepz wnew
      have Ez : Ext None₀ mt s.heap ⟨M.l, M₁.hd⟩ hz := x₁.trans ⟨Ez'.keep, Ez'.dom, Ez'.idx, Ez'.fresh, rfl⟩
      have nsz : ∃ m, hz.Ns (D + 1) m := by
        obtain ⟨m, hm, _⟩ := fI.ns
        exact ⟨m, hm.at' fun o e => keepz _ o (fun q => Nat.lt_asymm (wlt _ (W.sub _ q)) (Nat.lt_succ_self _)) e⟩
      have sold : ∀ a : Nat, D ≤ a → s.heap.get? a = none := fun a ha => by
        cases e : s.heap.get? a with
        | none => rfl
        | some o =>
          exfalso
          have := x₁.dom a (by rw [e]; exact fun q => by cases q)
          exact this (old1 a ha)
      have hDm : D ∉ M₁.hd := fun q => by
        obtain ⟨⟨o, e⟩, _⟩ := r₁.hid D q
        rw [fresh1 D (List.mem_cons_self ..)] at e; cases e
      unfold mkL at hv
      split at hv
      · cases hv
        obtain ⟨ra, va⟩ := SR.add (M := ⟨M.l, M₁.hd⟩) rz hDm pz vz
        exact k D (D + 1) hz tkz _ (ext_add Ez (sold D (Nat.le_refl _))) ra va nsz (sold (D + 1) (Nat.le_succ _))
      · cases hv
        refine k D (D + 1) hz tkz ⟨M.l, M₁.hd⟩ Ez (rz.unhide fun b hb => List.mem_cons_of_mem _ hb) ?_ nsz (sold (D + 1) (Nat.le_succ _))
        rw [VR]
        exact ⟨D, ws, rfl, ⟨(rz.hid D (List.mem_cons_self ..)).2.1, hDm⟩, pz, VRs.unhide (fun b hb => List.mem_cons_of_mem _ hb) ys vz⟩
  exact codeAny_compStart_list (loop _) (W.self 0 _ _ _ st4 (loop _))

end
end Mine

namespace Mine
open PySem PySem.Calls PyProof.Rows PySem.W
set_option maxRecDepth 100000
set_option autoImplicit false

mutual
theorem VR.keepV {M M' : Pl} {h h' : Heap} (k : ∀ b o, M.off b → ValObj o → h.get? b = some o → h'.get? b = some o) (of : ∀ b, M.off b → M'.off b) (ix : ∀ (i : Nat) (a : Addr), M.l[i]? = some a → M'.l[i]? = some a) : ∀ (v : V) {w : Value}, VR M h v w → VR M' h' v w
  | .int _, _, e => by rw [VR] at e ⊢; exact e
  | .bool _, _, e => by rw [VR] at e ⊢; exact e
  | .none, _, e => by rw [VR] at e ⊢; exact e
  | .list xs, _, e => by
    rw [VR] at e ⊢
    obtain ⟨a, vs, e1, e2, e3, e4⟩ := e
    obtain ⟨o, q1, q2⟩ := plain_val e3
    exact ⟨a, vs, e1, of a e2, e3.at fun o' q => k a o' e2 (by rw [q1] at q; cases q; exact q2) q, VRs.keepV k of ix xs e4⟩
  | .tup xs, _, e => by
    rw [VR] at e ⊢
    obtain ⟨a, vs, e1, e2, e3, e4⟩ := e
    obtain ⟨o, q1, q2⟩ := tuple_val e3
    exact ⟨a, vs, e1, of a e2, e3.at fun o' q => k a o' e2 (by rw [q1] at q; cases q; exact q2) q, VRs.keepV k of ix xs e4⟩
  | .rng lo hi, _, e => by
    rw [VR] at e ⊢
    obtain ⟨a, t, u, w, e1, e2, e3⟩ := e
    exact ⟨a, t, u, w, e1, of a e2, k a _ e2 ⟨(fun _ _ q => by cases q), (fun _ q => by cases q)⟩ e3⟩
  | .ref i, _, e => by
    rw [VR] at e ⊢
    obtain ⟨a, e1, e2⟩ := e
    exact ⟨a, e1, ix i a e2⟩
  | .unb, _, e => by rw [VR] at e; exact e.elim
theorem VRs.keepV {M M' : Pl} {h h' : Heap} (k : ∀ b o, M.off b → ValObj o → h.get? b = some o → h'.get? b = some o) (of : ∀ b, M.off b → M'.off b) (ix : ∀ (i : Nat) (a : Addr), M.l[i]? = some a → M'.l[i]? = some a) : ∀ (vs : List V) {ws : List Value}, VRs M h vs ws → VRs M' h' vs ws
  | [], _, e => by rw [VRs] at e ⊢; exact e
  | v :: vs, _, e => by
    rw [VRs] at e ⊢
    obtain ⟨w, r, e1, e2, e3⟩ := e
    exact ⟨w, r, e1, VR.keepV k of ix v e2, VRs.keepV k of ix vs e3⟩
end

theorem lost_keep {h h' : Heap} {L : Addr} (hs : Heap.SameBut L h h') (hL : ∃ m, h.Ns L m) : ∀ b o, ValObj o → h.get? b = some o → h'.get? b = some o := fun b o v e => (hs.2 b fun q => by
  subst q
  obtain ⟨m, hm⟩ := hL
  exact ns_not_val hm e v).trans e

/-- a block's frame let go -/
theorem SR.lost {ht : Heap} {M : Pl} {μ : Store} {h h' : Heap} {L : Addr} (r : SR ht M μ h) (hs : Heap.SameBut L h h') (hL : ∃ m, h.Ns L m) (hn : ht.get? L = none) (hh : L ∉ M.hd) : SR ht M μ h' where
  top b o e := (hs.2 b fun q => by rw [q, hn] at e; cases e).trans (r.top b o e)
  nodup := r.nodup
  len := r.len
  st i a xs e1 e2 := by
    obtain ⟨vs, p, q⟩ := r.st i a xs e1 e2
    obtain ⟨o, o1, o2⟩ := plain_val p
    exact ⟨vs, p.at fun o' e => lost_keep hs hL a o' (by rw [o1] at e; cases e; exact o2) e, VRs.keepV (fun b o _ v e => lost_keep hs hL b o v e) (fun _ e => e) (fun _ _ e => e) xs q⟩
  new := r.new
  hid b hb := by
    obtain ⟨⟨o, e⟩, z⟩ := r.hid b hb
    exact ⟨⟨o, (hs.2 b fun q => hh (q ▸ hb)).trans e⟩, z⟩
theorem VR.lost {M : Pl} {h h' : Heap} {L : Addr} {v : V} {wv : Value} (hs : Heap.SameBut L h h') (hL : ∃ m, h.Ns L m) (e : VR M h v wv) : VR M h' v wv :=
  VR.keepV (fun b o _ v e => lost_keep hs hL b o v e) (fun _ e => e) (fun _ _ e => e) v e
theorem Ext.lost {X : Addr → Prop} {N M : Pl} {h₀ h h' : Heap} {L : Addr} (x : Ext X N h₀ M h) (hs : Heap.SameBut L h h') (hn : h₀.get? L = none) : Ext X N h₀ M h' where
  keep b o e n m := (hs.2 b fun q => by rw [q, hn] at e; cases e).trans (x.keep b o e n m)
  dom b e := by
    rw [hs.2 b fun q => e (by rw [q]; exact hn)]
    exact x.dom b e
  idx := x.idx
  fresh := x.fresh
  hide := x.hide

section
variable {prog : Program} {w : World} {ht : Heap} {mg mb : Str → Option Value} {n : Nat} {orc : Orc}

theorem SR.top_none {M : Pl} {μ : Store} {h : Heap} {a : Addr} (r : SR ht M μ h) (e : h.get? a = none) : ht.get? a = none := by
  cases q : ht.get? a with
  | none => rfl
  | some o => have := r.top a o q; rw [e] at this; cases this
theorem SR.not_hd {M : Pl} {μ : Store} {h : Heap} {a : Addr} (r : SR ht M μ h) (e : h.get? a = none) : a ∉ M.hd := (r.off_of e).2

/-- what m asks of a comprehension -/
structure CM (sk : Sk) (two : Bool) (caps : List Nat) (src src2 cond elt : E) (sc csc : Scope) (nm : List Str) (pelt target iter : Expr) (ifs : List Expr) (cp tg : List Str) : Prop where
  htg : tgtNames two target = some tg
  hcp : capNames nm caps = some cp
  ok : COk sc csc nm cp tg
  htwo : two = (sk != .plain)
  helt : m elt false (inner sc csc) (cp ++ tg) pelt = true
  hcond : condM two cond (inner sc csc) (cp ++ tg) ifs = true
  hsrc : srcM sk sc nm src src2 iter = true

theorem cm_of {mu two : Bool} {sk : Sk} {caps : List Nat} {src src2 cond elt : E} {sc : Scope} {nm : List Str} {pe : Expr} (h : m (.comp mu two sk caps src src2 cond elt) false sc nm pe = true) :
    ∃ pelt target iter ifs csc pos cp tg, pe = .ListComp pelt [⟨target, iter, ifs, 0⟩] csc pos ∧ CM sk two caps src src2 cond elt sc csc nm pelt target iter ifs cp tg := by
  obtain ⟨⟨⟨pelt, target, iter, ifs, as, csc, pos⟩, rfl⟩, h⟩ := anyO_eq (and2 h).2
  obtain ⟨h, a7⟩ := and2 h
  obtain ⟨h, a6⟩ := and2 h
  obtain ⟨h, a5⟩ := and2 h
  obtain ⟨h, a4⟩ := and2 h
  obtain ⟨h, a3⟩ := and2 h
  obtain ⟨h, a2⟩ := and2 h
  obtain ⟨a0, a1⟩ := and2 h
  dsimp only at a0 a1 a2 a3 a4 a5 a6 a7
  obtain rfl : as = 0 := by simpa using a0
  cases e1 : tgtNames two target with
  | none => rw [e1] at a1; cases a1
  | some tg =>
    cases e2 : capNames nm caps with
    | none => rw [e1, e2] at a1; cases a1
    | some cp =>
      rw [e1, e2] at a2 a5 a6
      refine ⟨pelt, target, iter, ifs, csc, pos, cp, tg, rfl, e1, e2, cok a2, ?_, a5, a6, a7⟩
      cases two <;> cases sk <;> first | rfl | (cases a3; done) | (cases a4; done)

theorem vok_comp (C : Cx ht mg mb) {mu two : Bool} {sk : Sk} {caps : List Nat} {src src2 cond elt : E} (hs : VOk prog w ht n orc src) (hs2 : VOk prog w ht n orc src2) (hc : TOk prog w ht n orc cond) (hel : VOk prog w ht n orc elt) :
    VOk prog w ht n orc (.comp mu two sk caps src src2 cond elt) := by
  intro sc nm pe env A σ μ v μ' s mt Q Er hm he hA hv r f k
  obtain ⟨pelt, target, iter, ifs, csc, pos, cp, tg, rfl, c⟩ := cm_of hm
  rw [eval_ListComp]
  refine comp_ok C (use := none) hs hs2 hc hel c.htg c.hcp c.ok c.htwo c.helt c.hcond c.hsrc he hA hv r f fun D L h' tk M x r' v' hL hn => ?_
  obtain ⟨m', hm'⟩ := hL
  refine ⟨m', hm', fun h'' hs => ?_⟩
  exact k (.ref D) h'' tk M (x.lost hs hn) (r'.lost hs ⟨_, hm'⟩ (r.top_none hn) (by rw [x.hide]; exact r.not_hd hn)) (v'.lost hs ⟨_, hm'⟩)

theorem vok_pop0 {a : E} (ha : VOk prog w ht n orc a) : VOk prog w ht n orc (.pop0 a) := by
  intro sc nm pe env A σ μ v μ' s mt Q Er hm he hA hv r f k
  rw [ev] at hv
  obtain ⟨⟨⟨pv, pk, pp, name, apos, j, kk, cpos, pos⟩, rfl⟩, hm⟩ := anyO_eq (and2 hm).2
  dsimp only at hm
  · obtain ⟨hm, m4⟩ := and2 hm
    obtain ⟨hm, m3⟩ := and2 hm
    obtain ⟨m1, m2⟩ := and2 hm
    obtain rfl : name = Str.ofString "pop" := by simpa using m1
    obtain rfl : j = 0 := by simpa using m2
    obtain ⟨⟨x, μ₁⟩, h1, hv⟩ := bnd hv
    dsimp only at hv
    split at hv
    · rename_i k'
      split at hv
      · rename_i y ys hx
        split at hv
        · rename_i hl
          cases hv
          have hp : methodCallPos true (.Subscript pv pk pp) env apos pos = pure pos := by
            unfold methodCallPos
            rw [m3]
            rfl
          obtain ⟨pl, e0⟩ : ∃ pl : Sem Bool, eval (.Call (.Attribute (.Subscript pv pk pp) (Str.ofString "pop") apos) [.Constant (.int 0) kk cpos] [] pos) env = (do
              let ov ← eval (.Subscript pv pk pp) env
              standAt apos.atName
              let (f, first) ← holding [ov] (getMethod ov (Str.ofString "pop") pl)
              let callPos ← methodCallPos true (.Subscript pv pk pp) env apos pos
              callWith callPos f first (backTo pos (starEach [.Constant (.int 0) kk cpos] env)) []) := ⟨_, rfl⟩
          rw [hp] at e0
          refine MethodCall_ (pl := pl) ?_ e0
          refine ha sc nm _ env A σ μ _ μ₁ s mt _ _ m4 he hA h1 r f fun wa h₁ t₁ mt₁ x₁ r₁ v₁ => ?_
          have v₂ := v₁
          rw [VR] at v₂
          obtain ⟨l, rfl, hl'⟩ := v₂
          obtain ⟨vs, p, q⟩ := r₁.st _ _ _ hl' hx
          obtain ⟨ne, ho⟩ := p
          refine getMethod_builtin ⟨_, ho, rfl⟩ PySem.F.plainAttrs_list PySem.F.slot_list_pop PySem.F.type_list_pop (fun a e => by cases e; exact ⟨_, ho, rfl⟩) ?_
          refine callWith_method1 (spliced_more (wpAny_Constant_int (spliced_none ?_)))
          exact pop_ok hx hl r₁ v₁ ((k.on x₁))
        · cases hv
      · cases hv
    · cases hv

/-- every expression -/
theorem sound (C : Cx ht mg mb) (O : OrcOk prog w ht mg n orc) : ∀ e : E, VOk prog w ht n orc e ∧ TOk prog w ht n orc e := by
  have no : ∀ e : E, (∀ sc nm pe, m e true sc nm pe = false) → TOk prog w ht n orc e := fun e h sc nm pe env A σ μ v μ' s mt Q Er whole hm => by rw [h] at hm; cases hm
  have nv : ∀ e : E, (∀ sc nm pe, m e false sc nm pe = false) → VOk prog w ht n orc e := fun e h sc nm pe env A σ μ v μ' s mt Q Er hm => by rw [h] at hm; cases hm
  intro e
  induction e with
  | int i => exact ⟨vok_int, no _ fun _ _ _ => rfl⟩
  | none => exact ⟨vok_none, no _ fun _ _ _ => rfl⟩
  | bool b => exact ⟨vok_bool, no _ fun _ _ _ => rfl⟩
  | var i => exact ⟨vok_var, no _ fun _ _ _ => rfl⟩
  | bin op a b iha ihb => exact ⟨vok_bin iha.1 ihb.1, no _ fun _ _ _ => rfl⟩
  | neg a iha => exact ⟨vok_neg iha.1, no _ fun _ _ _ => rfl⟩
  | cmp op a b iha ihb => exact ⟨vok_cmp iha.1 ihb.1, tok_cmp iha.1 ihb.1⟩
  | isNone a iha => exact ⟨vok_isNone iha.1, tok_isNone iha.1⟩
  | and a b iha ihb => exact ⟨nv _ fun _ _ _ => rfl, tok_and iha.2 ihb.2⟩
  | or a b iha ihb => exact ⟨nv _ fun _ _ _ => rfl, tok_or iha.2 ihb.2⟩
  | ite c a b ihc iha ihb => exact ⟨vok_ite ihc.2 iha.1 ihb.1, no _ fun _ _ _ => rfl⟩
  | nil => exact ⟨vok_nil, no _ fun _ _ _ => rfl⟩
  | single a iha => exact ⟨vok_single iha.1, no _ fun _ _ _ => rfl⟩
  | mpair a b iha ihb => exact ⟨vok_mpair iha.1 ihb.1, no _ fun _ _ _ => rfl⟩
  | tup2 a b iha ihb => exact ⟨vok_tup2 iha.1 ihb.1, no _ fun _ _ _ => rfl⟩
  | tup3 a b c iha ihb ihc => exact ⟨vok_tup3 iha.1 ihb.1 ihc.1, no _ fun _ _ _ => rfl⟩
  | tup4 a b c d iha ihb ihc ihd => exact ⟨vok_tup4 iha.1 ihb.1 ihc.1 ihd.1, no _ fun _ _ _ => rfl⟩
  | len a iha => exact ⟨vok_len C iha.1, no _ fun _ _ _ => rfl⟩
  | abs a iha => exact ⟨vok_abs C iha.1, no _ fun _ _ _ => rfl⟩
  | max a b iha ihb => exact ⟨vok_max C iha.1 ihb.1, no _ fun _ _ _ => rfl⟩
  | lst a iha => exact ⟨vok_lst C iha.1, no _ fun _ _ _ => rfl⟩
  | mlst a iha => exact ⟨vok_mlst C iha.1, no _ fun _ _ _ => rfl⟩
  | toInt a iha => exact ⟨vok_toInt C iha.1, no _ fun _ _ _ => rfl⟩
  | range1 a iha => exact ⟨vok_range1 C iha.1, no _ fun _ _ _ => rfl⟩
  | range2 a b iha ihb => exact ⟨vok_range2 C iha.1 ihb.1, no _ fun _ _ _ => rfl⟩
  | call1 g a iha => exact ⟨vok_call1 C O iha.1, no _ fun _ _ _ => rfl⟩
  | call2 g a b iha ihb => exact ⟨vok_call2 C O iha.1 ihb.1, no _ fun _ _ _ => rfl⟩
  | call3 g a b c iha ihb ihc => exact ⟨vok_call3 C O iha.1 ihb.1 ihc.1, no _ fun _ _ _ => rfl⟩
  | item a i iha ihi => exact ⟨vok_item iha.1 ihi.1, no _ fun _ _ _ => rfl⟩
  | upto a i iha ihi => exact ⟨vok_upto iha.1 ihi.1, no _ fun _ _ _ => rfl⟩
  | from1 a iha => exact ⟨vok_from1 iha.1, no _ fun _ _ _ => rfl⟩
  | comp mu two sk caps src src2 cond elt h1 h2 h3 h4 =>
    exact ⟨vok_comp C h1.1 h2.1 h3.2 h4.1, no _ fun _ _ _ => rfl⟩
  | pop0 a iha => exact ⟨vok_pop0 iha.1, no _ fun _ _ _ => rfl⟩

end
end Mine

namespace Mine
open PySem PySem.Calls PyProof.Rows PySem.W
set_option maxRecDepth 100000
set_option autoImplicit false

noncomputable def plainExpr (e : Expr) : Bool := match e with | .ListComp .. | .SetComp .. | .DictComp .. => false | _ => true
noncomputable def nameOf (e : Expr) : Option Str := (wName e).map fun q => q.1.1
theorem nameOf_eq {e : Expr} {x : Str} (h : nameOf e = some x) : ∃ p, e = .Name x p := by
  obtain ⟨⟨⟨y, p⟩, e'⟩, _, h⟩ := Option.map_eq_some_iff.mp h
  subst h
  exact ⟨p, e'⟩
abbrev X := Stmt ⊕ List Stmt
noncomputable def wAsg (x : X) : Option { q : Str × Pos × Expr × Pos // x = .inl (.Assign [.Name q.1 q.2.1] q.2.2.1 q.2.2.2) } := match x with | .inl (.Assign [.Name y p] v r) => some ⟨(y, p, v, r), rfl⟩ | _ => Option.none
noncomputable def wAsgT (x : X) : Option { q : List Expr × Nat × Pos × Expr × Pos // x = .inl (.Assign [.Tuple q.1 q.2.1 q.2.2.1] q.2.2.2.1 q.2.2.2.2) } := match x with | .inl (.Assign [.Tuple ts k p] v r) => some ⟨(ts, k, p, v, r), rfl⟩ | _ => Option.none
noncomputable def wAsgS (x : X) : Option { q : Expr × Expr × Pos × Expr × Pos // x = .inl (.Assign [.Subscript q.1 q.2.1 q.2.2.1] q.2.2.2.1 q.2.2.2.2) } := match x with | .inl (.Assign [.Subscript o i p] v r) => some ⟨(o, i, p, v, r), rfl⟩ | _ => Option.none
noncomputable def wAug (x : X) : Option { q : Str × Pos × Expr × Pos // x = .inl (.AugAssign (.Name q.1 q.2.1) .Sub q.2.2.1 q.2.2.2) } := match x with | .inl (.AugAssign (.Name y p) .Sub v r) => some ⟨(y, p, v, r), rfl⟩ | _ => Option.none
noncomputable def wExpr (x : X) : Option { q : Expr × Pos // x = .inl (.Expr q.1 q.2) } := match x with | .inl (.Expr v r) => some ⟨(v, r), rfl⟩ | _ => Option.none
noncomputable def wRet (x : X) : Option { q : Expr × Pos // x = .inl (.Return (some q.1) q.2) } := match x with | .inl (.Return (some v) r) => some ⟨(v, r), rfl⟩ | _ => Option.none
noncomputable def wIfS (x : X) : Option { q : Expr × List Stmt × List Stmt × Pos // x = .inl (.If q.1 q.2.1 q.2.2.1 q.2.2.2) } := match x with | .inl (.If c a b r) => some ⟨(c, a, b, r), rfl⟩ | _ => Option.none
noncomputable def wFor (x : X) : Option { q : Expr × Expr × List Stmt × Pos // x = .inl (.For q.1 q.2.1 q.2.2.1 [] q.2.2.2) } := match x with | .inl (.For t i b [] r) => some ⟨(t, i, b, r), rfl⟩ | _ => Option.none
noncomputable def wWhile (x : X) : Option { q : Expr × List Stmt × Pos // x = .inl (.While q.1 q.2.1 [] q.2.2) } := match x with | .inl (.While c b [] r) => some ⟨(c, b, r), rfl⟩ | _ => Option.none
noncomputable def wSeq (x : X) : Option { q : Stmt × List Stmt // x = .inr (q.1 :: q.2) } := match x with | .inr (p :: r) => some ⟨(p, r), rfl⟩ | _ => Option.none
noncomputable def wSkip (x : X) : Option (PLift (x = .inr [])) := match x with | .inr [] => some ⟨rfl⟩ | _ => Option.none
noncomputable def wN2 (l : List Expr) : Option { q : Str × Pos × Str × Pos // l = [.Name q.1 q.2.1, .Name q.2.2.1 q.2.2.2] } := match l with | [.Name a pa, .Name b pb] => some ⟨(a, pa, b, pb), rfl⟩ | _ => Option.none
noncomputable def wN3 (l : List Expr) : Option { q : Str × Pos × Str × Pos × Str × Pos // l = [.Name q.1 q.2.1, .Name q.2.2.1 q.2.2.2.1, .Name q.2.2.2.2.1 q.2.2.2.2.2] } := match l with | [.Name a pa, .Name b pb, .Name c pc] => some ⟨(a, pa, b, pb, c, pc), rfl⟩ | _ => Option.none
noncomputable def wS2 (l : List Expr) : Option { q : Expr × Expr × Pos × Expr × Expr × Pos // l = [.Subscript q.1 q.2.1 q.2.2.1, .Subscript q.2.2.2.1 q.2.2.2.2.1 q.2.2.2.2.2] } := match l with | [.Subscript a b p, .Subscript c d r] => some ⟨(a, b, p, c, d, r), rfl⟩ | _ => Option.none
noncomputable def wCallE (e : Expr) : Option { q : Expr × List Expr × List Keyword × Pos // e = .Call q.1 q.2.1 q.2.2.1 q.2.2.2 } := match e with | .Call f a k p => some ⟨(f, a, k, p), rfl⟩ | _ => Option.none
noncomputable def wTC2 (e : Expr) : Option { q : Const × Nat × Pos × Const × Nat × Pos × Nat × Pos // e = .Tuple [.Constant q.1 q.2.1 q.2.2.1, .Constant q.2.2.2.1 q.2.2.2.2.1 q.2.2.2.2.2.1] q.2.2.2.2.2.2.1 q.2.2.2.2.2.2.2 } := match e with | .Tuple [.Constant a b c, .Constant d e f] k p => some ⟨(a, b, c, d, e, f, k, p), rfl⟩ | _ => Option.none
noncomputable def wLC (e : Expr) : Option { q : Expr × List Comprehension × Scope × Pos // e = .ListComp q.1 q.2.1 q.2.2.1 q.2.2.2 } := match e with | .ListComp x g s p => some ⟨(x, g, s, p), rfl⟩ | _ => Option.none
noncomputable def wCompE (e : E) : Option { q : Bool × Bool × Sk × List Nat × E × E × E × E // e = .comp q.1 q.2.1 q.2.2.1 q.2.2.2.1 q.2.2.2.2.1 q.2.2.2.2.2.1 q.2.2.2.2.2.2.1 q.2.2.2.2.2.2.2 } := match e with | .comp a b c d e f g h => some ⟨(a, b, c, d, e, f, g, h), rfl⟩ | _ => Option.none

noncomputable def asgR2 (sc : Scope) (nm : List Str) (is : List Nat) (ts : List Expr) (value : Expr) : Bool :=
  anyO (wN2 ts) fun z => anyO (wT2 value) fun u => slotsOk sc nm is [z.1.1, z.1.2.2.1] && sc.names.lookup z.1.1 == some .local && sc.names.lookup z.1.2.2.1 == some .local && z.1.2.2.2.line == z.1.2.1.line && z.1.1 != z.1.2.2.1 &&
    !(foldedForSure 8 u.1.1 && foldedForSure 8 u.1.2.1) && !(constantsAlone 8 u.1.1 && constantsAlone 8 u.1.2.1) && !isStar u.1.1 && !isStar u.1.2.1
noncomputable def asgR3 (sc : Scope) (nm : List Str) (is : List Nat) (ts : List Expr) (value : Expr) : Bool :=
  anyO (wN3 ts) fun z => anyO (wT3 value) fun u => slotsOk sc nm is [z.1.1, z.1.2.2.1, z.1.2.2.2.2.1] && sc.names.lookup z.1.1 == some .local && sc.names.lookup z.1.2.2.1 == some .local && sc.names.lookup z.1.2.2.2.2.1 == some .local &&
    z.1.2.2.2.1.line == z.1.2.1.line && z.1.2.2.2.2.2.line == z.1.2.1.line && z.1.1 != z.1.2.2.1 && z.1.1 != z.1.2.2.2.2.1 && z.1.2.2.1 != z.1.2.2.2.2.1 &&
    !(foldedForSure 8 u.1.1 && foldedForSure 8 u.1.2.1 && foldedForSure 8 u.1.2.2.1) && !(constantsAlone 8 u.1.1 && constantsAlone 8 u.1.2.1 && constantsAlone 8 u.1.2.2.1) && !isStar u.1.1 && !isStar u.1.2.1 && !isStar u.1.2.2.1

/-- a statement, or a block -/
noncomputable def ms : S → Scope → List Str → X → Bool
  | .skip, _, _, x => (wSkip x).isSome
  | .stop, _, _, x => x.isRight
  | .seq a b, sc, nm, x => anyO (wSeq x) fun q => ms a sc nm (.inl q.1.1) && ms b sc nm (.inr q.1.2)
  | .asg i e, sc, nm, x => anyO (wAsg x) fun q => plainExpr q.1.2.2.1 && nm[i]? == some q.1.1 && sc.names.lookup q.1.1 != some .free && m e false sc nm q.1.2.2.1
  | .asgC i e, sc, nm, x => anyO (wAsg x) fun q => anyO (wLC q.1.2.2.1) fun l => (wCompE e).isSome &&
      nm[i]? == some q.1.1 && sc.names.lookup q.1.1 == some .local && q.1.2.1.line == l.1.2.2.2.line && !(l.1.2.2.1.names.any fun z => z.1 == q.1.1 && (z.2 == .local || z.2 == .cell)) && m e false sc nm q.1.2.2.1
  | .asgT is e, sc, nm, x => anyO (wAsgT x) fun q => (anyO (q.1.1.mapM nameOf) fun xs => slotsOk sc nm is xs) && m e false sc nm q.1.2.2.2.1 &&
      ((wCallE q.1.2.2.2.1).isSome || ((wT4 q.1.2.2.2.1).isSome && q.1.1.length == 4) || (wTC2 q.1.2.2.2.1).isSome)
  | .asgR is e, sc, nm, x => anyO (wAsgT x) fun q => m e false sc nm q.1.2.2.2.1 && (asgR2 sc nm is q.1.1 q.1.2.2.2.1 || asgR3 sc nm is q.1.1 q.1.2.2.2.1)
  | .setI o i e, sc, nm, x => anyO (wAsgS x) fun q => plainExpr q.1.2.2.2.1 && m o false sc nm q.1.1 && m i false sc nm q.1.2.1 && m e false sc nm q.1.2.2.2.1
  | .swap o i o' i' e, sc, nm, x => anyO (wAsgT x) fun q => anyO (wS2 q.1.1) fun z => (wT2 q.1.2.2.2.1).isSome && m o false sc nm z.1.1 && m i false sc nm z.1.2.1 && m o' false sc nm z.1.2.2.2.1 && m i' false sc nm z.1.2.2.2.2.1 && m e false sc nm q.1.2.2.2.1
  | .aug i op e, sc, nm, x => anyO (wAug x) fun q => op == .sub && nm[i]? == some q.1.1 && sc.names.lookup q.1.1 == some .local && m e false sc nm q.1.2.2.1
  | .expr e, sc, nm, x => anyO (wExpr x) fun q => (wCallE q.1.1).isSome && m e false sc nm q.1.1
  | .ret e, sc, nm, x => anyO (wRet x) fun q => m e false sc nm q.1.1
  | .ifS c a b, sc, nm, x => anyO (wIfS x) fun q => m c true sc nm q.1.1 && ms a sc nm (.inr q.1.2.1) && ms b sc nm (.inr q.1.2.2.1)
  | .forS tgt sk src src2 b, sc, nm, x => anyO (wFor x) fun q => (anyO (tgtNames (sk != .plain) q.1.1) fun tg => true) && slotsOk sc nm tgt ((tgtNames (sk != .plain) q.1.1).getD []) && srcM sk sc nm src src2 q.1.2.1 && ms b sc nm (.inr q.1.2.2.1)
  | .whileS c b, sc, nm, x => anyO (wWhile x) fun q => m c true sc nm q.1.1 && ms b sc nm (.inr q.1.2.1)

noncomputable def FlR (M : Pl) (h : Heap) : Fl → Flow → Prop
  | .next, f => f = .next
  | .ret v, f => ∃ w, f = .ret w ∧ VR M h v w

/-- what is wanted behind a statement -/
noncomputable def NxS (ht : Heap) (s : Shared) (mt : Pl) (nm : List Str) (env : Env) (σ : List V) (μ : Store) (fl : Fl) (Q : Flow → Shared → Prop) : Prop :=
  ∀ fv h' tk mt', FlR mt' h' fl fv → Ext (Own env) mt s.heap mt' h' → SR ht mt' μ h' → FR nm env mt' σ h' → Q fv { s with heap := h', toks := tk }

section
variable {prog : Program} {w : World} {ht : Heap} {mg mb : Str → Option Value} {n : Nat} {orc : Orc}

theorem NxS.on {s : Shared} {mt mt₁ : Pl} {nm : List Str} {env : Env} {σ : List V} {μ : Store} {fl : Fl} {Q : Flow → Shared → Prop} {h₁ : Heap} {tk₁ : Nat} (k : NxS ht s mt nm env σ μ fl Q) (x : Ext (Own env) mt s.heap mt₁ h₁) :
    NxS ht { s with heap := h₁, toks := tk₁ } mt₁ nm env σ μ fl Q := fun fv h' tk mt' z x' r f => k fv h' tk mt' z (x.trans x') r f
theorem Ext.none {X : Addr → Prop} {M M' : Pl} {h h' : Heap} (x : Ext None₀ M h M' h') : Ext X M h M' h' := x.mono fun _ q => q.elim

variable (prog w ht n orc) in
noncomputable def SOk (fuel : Nat) (S : S) : Prop :=
  ∀ (sc : Scope) (nm : List Str) (env : Env) (A : Around) (σ : List V) (μ : Store) (σ' : List V) (μ' : Store) (fl : Fl) (s : Shared) (mt : Pl) (Q : Flow → Shared → Prop) (Er : Value → Shared → Prop),
    EOk ht sc nm env → OkA n A → ex orc fuel S σ μ = some (σ', μ', fl) → SR ht mt μ s.heap → FR nm env mt σ s.heap → NxS ht s mt nm env σ' μ' fl Q →
    (∀ p, ms S sc nm (.inl p) = true → wpAny (model prog w) A (exec p env) Q Er s) ∧ (∀ ps, ms S sc nm (.inr ps) = true → wpAny (model prog w) A (execs ps env) Q Er s)

theorem blockK {sc : Scope} {nm : List Str} {env : Env} (he : EOk ht sc nm env) : env.blockKind = .function := by
  unfold Env.blockKind; rw [he.fn]; rfl

theorem sok_skip {fuel : Nat} : SOk prog w ht n orc fuel .skip := by
  intro sc nm env A σ μ σ' μ' fl s mt Q Er he hA hx r f k
  rw [ex] at hx; cases hx
  refine ⟨fun p hm => (by cases hm), fun ps hm => ?_⟩
  obtain ⟨⟨e⟩, _⟩ := Option.isSome_iff_exists.mp (show (wSkip _).isSome = true from hm)
  cases e
  exact wpAny_execs_nil (k .next s.heap s.toks mt rfl .refl r f)
theorem sok_stop {fuel : Nat} : SOk prog w ht n orc fuel .stop := by
  intro sc nm env A σ μ σ' μ' fl s mt Q Er he hA hx r f k
  rw [ex] at hx; cases hx

theorem sok_seq {fuel : Nat} {a b : S} (ha : SOk prog w ht n orc fuel a) (hb : SOk prog w ht n orc fuel b) : SOk prog w ht n orc fuel (.seq a b) := by
  intro sc nm env A σ μ σ' μ' fl s mt Q Er he hA hx r f k
  rw [ex] at hx
  obtain ⟨⟨σ₁, μ₁, fl₁⟩, h1, hx⟩ := bnd hx
  refine ⟨fun p hm => (by cases hm), fun ps hm => ?_⟩
  obtain ⟨⟨⟨p, r'⟩, e⟩, hm⟩ := anyO_eq hm
  cases e
  · obtain ⟨m1, m2⟩ := and2 hm
    refine wpAny_execs_cons ((ha sc nm env A σ μ σ₁ μ₁ fl₁ s mt _ Er he hA h1 r f fun fv h₁ t₁ mt₁ z x₁ r₁ f₁ => ?_).1 p m1)
    cases fl₁ with
    | next =>
      obtain rfl : fv = .next := z
      exact (hb sc nm env A σ₁ μ₁ σ' μ' fl _ mt₁ Q Er he hA hx r₁ f₁ (k.on x₁)).2 r' m2
    | ret v =>
      cases hx
      obtain ⟨wv, rfl, hv⟩ := z
      exact k _ h₁ t₁ mt₁ ⟨wv, rfl, hv⟩ x₁ r₁ f₁

theorem plain_swaps {value : Expr} (h : plainExpr value = true) (t : Option Expr) (line : Nat) (env : Env) : swapsWith value t line env = pure false := by
  cases value <;> first | rfl | cases h

theorem sok_asg {fuel : Nat} {i : Nat} {e : E} (he' : VOk prog w ht n orc e) : SOk prog w ht n orc fuel (.asg i e) := by
  intro sc nm env A σ μ σ' μ' fl s mt Q Er he hA hx r f k
  rw [ex] at hx
  obtain ⟨⟨v, μ₁⟩, h1, hx⟩ := bnd hx
  obtain ⟨σ₁, h2, hx⟩ := bnd hx
  cases hx
  refine ⟨fun p hm => ?_, fun ps hm => (by cases hm)⟩
  obtain ⟨⟨⟨y, py, value, pos⟩, e⟩, hm⟩ := anyO_eq hm
  cases e
  · obtain ⟨hm, m4⟩ := and2 hm
    obtain ⟨hm, m3⟩ := and2 hm
    obtain ⟨m1, m2⟩ := and2 hm
    refine wpAny_Assign_Name (he' sc nm _ env A σ μ v _ s mt _ _ m4 he hA h1 r f fun wv h₁ t₁ mt₁ x₁ r₁ v₁ => ?_) (plain_swaps m1 _ _ _)
    have f₁ := f.nx r x₁
    refine store_ok (s := { s with heap := h₁, toks := t₁ }) he r₁ f₁ (by simpa using m2) (by simpa using m3) v₁ fun h' tk x₂ r₂ f₂ => ?_
    have hs : σ' = σ.set i v := by
      rw [setAll] at h2
      split at h2
      · rw [setAll] at h2; cases h2; rfl
      · cases h2
    rw [← hs] at f₂
    exact k .next h' tk mt₁ rfl (x₁.none.trans (x₂.mono fun _ q => q.own)) r₂ f₂

theorem sok_asgC (C : Cx ht mg mb) (O : OrcOk prog w ht mg n orc) {fuel : Nat} {i : Nat} {e : E} : SOk prog w ht n orc fuel (.asgC i e) := by
  intro sc nm env A σ μ σ' μ' fl s mt Q Er he hA hx r f k
  rw [ex] at hx
  obtain ⟨⟨v, μ₁⟩, h1, hx⟩ := bnd hx
  obtain ⟨σ₁, h2, hx⟩ := bnd hx
  cases hx
  refine ⟨fun p hm => ?_, fun ps hm => (by cases hm)⟩
  obtain ⟨⟨⟨y, py, value, pos⟩, e'⟩, hm⟩ := anyO_eq hm
  cases e'
  obtain ⟨⟨⟨elt, gens, csc, cpos⟩, e2⟩, hm⟩ := anyO_eq hm
  dsimp only at hm e2
  subst e2
  · obtain ⟨hm, m5⟩ := and2 hm
    obtain ⟨hm, m4⟩ := and2 hm
    obtain ⟨hm, m3⟩ := and2 hm
    obtain ⟨hm, m2⟩ := and2 hm
    obtain ⟨m0, m1⟩ := and2 hm
    have hcomp : ∃ mu two sk caps src src2 cond el, e = .comp mu two sk caps src src2 cond el := by
      obtain ⟨⟨⟨mu, two, sk, caps, src, src2, cond, el⟩, q⟩, _⟩ := Option.isSome_iff_exists.mp m0
      exact ⟨mu, two, sk, caps, src, src2, cond, el, q⟩
    obtain ⟨mu, two, sk, caps, src, src2, cond, el, rfl⟩ := hcomp
    have m1 : nm[i]? = some y := by simpa using m1
    have m2 : sc.names.lookup y = some .local := by simpa using m2
    obtain ⟨pelt, target, iter, ifs, csc', pos', cp, tg, q, c⟩ := cm_of m5
    cases q
    have hsw : swapsWith (.ListComp elt [⟨target, iter, ifs, 0⟩] csc cpos) (some (.Name y py)) pos.line env = pure true := by
      show (pure (env.blockKind == .function && env.kindOf y == some .local && py.line == cpos.line && !(csc.names.any fun (n, k) => n == y && (k == .local || k == .cell))) : Sem Bool) = pure true
      have m4 : (!(csc.names.any fun (n, k) => n == y && (k == .local || k == .cell))) = true := m4
      rw [blockK he, he.kindOf, m2, m3, m4]; rfl
    rw [exec_Assign_Name_used _ _ _ _ hsw]
    refine wpAny_bind (wpAny_standAt (wpAny_bind ?_))
    show wpAny _ A (do let _ ← comprehension (.ListComp elt [⟨target, iter, ifs, 0⟩] csc cpos) csc env _ (newList []) false (eval iter env) (some (assign (.Name y py) env))) _ _ s
    refine wpAny_bind (wpAny_mono (comp_ok C (use := some (assign (.Name y py) env)) (Q := fun _ s' => Q .next s') (Er := Er) (sound C O src).1 (sound C O src2).1 (sound C O cond).2 (sound C O el).1 c.htg c.hcp c.ok c.htwo c.helt c.hcond c.hsrc he hA h1 r f fun D L h' tk M x r' v' hL hn => ?_) (fun _ s' hq => wpAny_pure (wpAny_pure hq)) fun _ _ e => e)
    show wpAny _ A (assign (.Name y py) env (.ref D)) _ _ _
    have f' := f.nx r x
    refine assign_Name (store_ok he r' f' m1 (by rw [m2]; simp) v' fun h₂ tk₂ x₂ r₂ f₂ => ?_)
    obtain ⟨m', hm'⟩ := hL
    have hLe : ∀ a, Own env a → a ≠ L := fun a ha q => by
      obtain ⟨o, e⟩ := f.there ha
      rw [q, hn] at e; cases e
    have hL2 : h₂.Ns L m' := hm'.at' fun o e => x₂.keep L o e (fun q => by
      obtain ⟨o', e', z⟩ := r'.val q
      exact ns_not_val hm' e' z) fun q => hLe L q.own rfl
    refine ⟨m', hL2, fun h₃ hs => ?_⟩
    have hs' : σ' = σ.set i v := by
      rw [setAll] at h2
      split at h2
      · rw [setAll] at h2; cases h2; rfl
      · cases h2
    rw [← hs'] at f₂
    have X : Ext (Own env) mt s.heap M h₂ := x.none.trans (x₂.mono fun _ q => q.own)
    refine k .next h₃ tk₂ M rfl (X.lost hs hn) (r₂.lost hs ⟨_, hL2⟩ (r.top_none hn) (by rw [x.hide]; exact r.not_hd hn)) ?_
    refine ⟨f₂.len, ?_, fun j z u e1 e2 e3 => ?_, fun z a e => ?_⟩
    · obtain ⟨mm, hmm, hh⟩ := f₂.ns
      exact ⟨mm, hmm.at' fun o e => (hs.2 _ (hLe _ (.inl rfl))).trans e, fun j z u e1 e2 e3 => (hh j z u e1 e2 e3).imp id fun ⟨mv, a, b⟩ => ⟨mv, a, b.lost hs ⟨_, hL2⟩⟩⟩
    · exact (f₂.cl j z u e1 e2 e3).imp id fun ⟨a, mv, b, d, g⟩ => ⟨a, mv, b, (let ⟨o, ho, hd⟩ := d; ⟨o, (hs.2 a (hLe a (.inr ⟨_, b⟩))).trans ho, hd⟩), g.lost hs ⟨_, hL2⟩⟩
    · obtain ⟨u, o, ho, hd⟩ := f₂.cs z a e
      exact ⟨u, o, (hs.2 a (hLe a (.inr ⟨_, e⟩))).trans ho, hd⟩

end
end Mine

namespace Mine
open PySem PySem.Calls PyProof.Rows PySem.W
set_option maxRecDepth 100000
set_option autoImplicit false

theorem mapM_map {α β : Type} {f : α → Option β} : ∀ {xs : List α} {ys : List β}, xs.mapM f = some ys → xs.map f = ys.map some
  | [], ys, h => by simp at h; subst h; rfl
  | x :: xs, ys, h => by
    rw [List.mapM_cons] at h
    obtain ⟨y, h1, h⟩ := bnd h
    obtain ⟨r, h2, h⟩ := bnd h
    cases h
    rw [List.map_cons, List.map_cons, h1, mapM_map h2]
theorem map_mapM {α β : Type} {f : α → Option β} : ∀ {xs : List α} {ys : List β}, xs.map f = ys.map some → xs.mapM f = some ys
  | [], [], _ => rfl
  | [], _ :: _, h => by simp at h
  | _ :: _, [], h => by simp at h
  | x :: xs, y :: ys, h => by
    rw [List.map_cons, List.map_cons] at h
    injection h with h1 h2
    rw [List.mapM_cons, h1, map_mapM h2]; rfl
theorem mapM_rev {α β : Type} {f : α → Option β} {xs : List α} {ys : List β} (h : xs.mapM f = some ys) : xs.reverse.mapM f = some ys.reverse :=
  map_mapM (by rw [List.map_reverse, List.map_reverse, mapM_map h])

theorem VRs.reverse {M : Pl} {h : Heap} : ∀ {xs : List V} {vs : List Value}, VRs M h xs vs → VRs M h xs.reverse vs.reverse
  | [], _, e => by rw [e.unnil]; exact VRs.nil
  | x :: xs, _, e => by
    obtain ⟨v, r, rfl, h1, h2⟩ := e.uncons
    rw [List.reverse_cons, List.reverse_cons]
    exact VRs.append (VRs.reverse h2) (VRs.one h1)

section
variable {prog : Program} {w : World} {ht : Heap} {mg mb : Str → Option Value} {n : Nat} {orc : Orc}

theorem slots_of {sc : Scope} {nm : List Str} {is : List Nat} {xs : List Str} (h : slotsOk sc nm is xs = true) : is.mapM (fun i => nm[i]?) = some xs ∧ ∀ x ∈ xs, sc.names.lookup x ≠ some .free := by
  unfold slotsOk at h
  obtain ⟨h1, h2⟩ := and2 h
  refine ⟨by simpa using h1, fun x hx => ?_⟩
  rw [List.all_eq_true] at h2
  simpa using h2 x hx

theorem inOrder_names {A : Around} {env : Env} {Q : Shared → Prop} {Er : Value → Shared → Prop} : ∀ (ts : List Expr) (xs : List Str) (ws : List Value) (s : Shared), ts.mapM nameOf = some xs → ws.length = xs.length →
    stores prog w A env (xs.zip ws) Q Er s → wpAny (model prog w) A (assignInOrder ((assignEach ts env).map (·.2)) ws) (fun _ s => Q s) Er s
  | [], xs, ws, s, h, hl, k => by
    simp at h; subst h
    exact assignInOrder_nil k
  | t :: ts, xs, ws, s, h, hl, k => by
    rw [List.mapM_cons] at h
    obtain ⟨x, h1, h⟩ := bnd h
    obtain ⟨r, h2, h⟩ := bnd h
    cases h
    cases ws with
    | nil => simp at hl
    | cons v ws =>
      obtain ⟨p, rfl⟩ := nameOf_eq h1
      · have k : wpAny (model prog w) A (storeName env x v) (fun _ s' => stores prog w A env (r.zip ws) Q Er s') Er s := k
        show wpAny _ A (assignInOrder (assign (.Name x p) env :: (assignEach ts env).map (·.2)) (v :: ws)) _ Er s
        refine assignInOrder_cons (assign_Name (wpAny_mono k (fun _ s' h' => ?_) fun _ _ e => e))
        exact inOrder_names ts r ws s' h2 (by simpa using hl) h'
theorem inOrder_binds {A : Around} {env : Env} {Q : Shared → Prop} {Er : Value → Shared → Prop} : ∀ (xs : List Str) (ws : List Value) (s : Shared), ws.length = xs.length →
    stores prog w A env (xs.zip ws) Q Er s → wpAny (model prog w) A (assignInOrder (xs.map fun n => bindName env n) ws) (fun _ s => Q s) Er s
  | [], ws, s, hl, k => by
    exact assignInOrder_nil (by simpa [stores] using k)
  | x :: xs, [], s, hl, k => by simp at hl
  | x :: xs, v :: ws, s, hl, k => by
    have k : wpAny (model prog w) A (storeName env x v) (fun _ s' => stores prog w A env (xs.zip ws) Q Er s') Er s := k
    refine assignInOrder_cons (bindName_ (wpAny_mono k (fun _ s' h' => ?_) fun _ _ e => e))
    exact inOrder_binds xs ws s' (by simpa using hl) h'

theorem star_none {env : Env} : ∀ {ts : List Expr} {xs : List Str}, ts.mapM nameOf = some xs → (assignEach ts env).findIdx? (·.1) = none ∧ (assignEach ts env).length = xs.length
  | [], xs, h => by simp at h; subst h; exact ⟨rfl, rfl⟩
  | t :: ts, xs, h => by
    rw [List.mapM_cons] at h
    obtain ⟨x, h1, h⟩ := bnd h
    obtain ⟨r, h2, h⟩ := bnd h
    cases h
    obtain ⟨p, rfl⟩ := nameOf_eq h1
    · obtain ⟨a, b⟩ := star_none (env := env) h2
      show (((false, assign (.Name x p) env) :: assignEach ts env).findIdx? (·.1) = none) ∧ ((false, assign (.Name x p) env) :: assignEach ts env).length = _
      refine ⟨?_, by rw [List.length_cons, List.length_cons, b]⟩
      rw [List.findIdx?_cons, a]; rfl

theorem extb_keep {h h' : Heap} (x : Heap.ExtBut h.objs.size h h') : ∀ b o, h.get? b = some o → h'.get? b = some o := fun b o e => x b o (Nat.ne_of_lt (Heap.lt_size e)) e

theorem setAll_len {is : List Nat} {vs σ σ' : List V} (h : setAll is vs σ = some σ') : is.length = vs.length := by
  induction is generalizing vs σ with
  | nil => cases vs with
    | nil => rfl
    | cons _ _ => simp [setAll] at h
  | cons i is ih => cases vs with
    | nil => simp [setAll] at h
    | cons v vs =>
      rw [setAll] at h
      split at h
      · rw [List.length_cons, List.length_cons, ih h]
      · cases h

theorem ts_names_two {env : Env} {a b : Str} {pa pb : Pos} {k k' : Nat} {tp vp : Pos} {v u : Expr} {sc : Scope} {nm : List Str} (he : EOk ht sc nm env) (ha : sc.names.lookup a = some .local) (hb : sc.names.lookup b = some .local) (hl : (pb.line == pa.line) = true) (hne : (a != b) = true)
    (h1 : (foldedForSure 8 v && foldedForSure 8 u) = false) (h2 : (constantsAlone 8 v && constantsAlone 8 u) = false) (h3 : isStar v = false) (h4 : isStar u = false) :
    swappedStores [.Tuple [.Name a pa, .Name b pb] k tp] (.Tuple [v, u] k' vp) env = pure (some [a, b]) := by
  have e1 : ([v, u].any isStar) = false := by
    rw [List.any_cons, List.any_cons, h3, h4]; rfl
  have e2 : ([v, u].all (foldedForSure 8)) = false := by rw [List.all_cons, List.all_cons, List.all_nil, Bool.and_true, h1]
  have e3 : ([v, u].all (constantsAlone 8)) = false := by rw [List.all_cons, List.all_cons, List.all_nil, Bool.and_true, h2]
  have e5 : [a, b].eraseDups.length = 2 := by
    have : (b == a) = false := by simpa using fun e => (bne_iff_ne.mp hne) e.symm
    have h : (b != a) = true := by rw [bne, this]; rfl
    simp [List.eraseDups_cons, List.filter, this]
  have e4 : ∀ f : Expr → Option Str, f (.Name a pa) = some a → f (.Name b pb) = some b → [Expr.Name a pa, .Name b pb].filterMap f = [a, b] := fun f h h' => by
    simp [List.filterMap, h, h']
  unfold swappedStores
  simp only [blockK he]
  rw [e4 _ (by show (if (env.kindOf a == some .local && pa.line == pa.line) = true then some a else none) = some a; rw [he.kindOf, ha]; simp) (by show (if (env.kindOf b == some .local && pb.line == pa.line) = true then some b else none) = some b; rw [he.kindOf, hb, hl]; rfl)]
  refine (if_neg fun q => Bool.noConfusion (show false = true from q)).trans ?_
  refine (if_neg fun q => by have q' : [v, u].any isStar = true := q; rw [e1] at q'; cases q').trans ?_
  rw [e2, e3, e5]
  rfl

theorem ts_names_three {env : Env} {a b c : Str} {pa pb pc : Pos} {k k' : Nat} {tp vp : Pos} {v u z : Expr} {sc : Scope} {nm : List Str} (he : EOk ht sc nm env) (ha : sc.names.lookup a = some .local) (hb : sc.names.lookup b = some .local) (hc : sc.names.lookup c = some .local) (hl : (pb.line == pa.line) = true) (hl' : (pc.line == pa.line) = true)
    (hne : (a != b) = true) (hne' : (a != c) = true) (hne'' : (b != c) = true)
    (h1 : (foldedForSure 8 v && foldedForSure 8 u && foldedForSure 8 z) = false) (h2 : (constantsAlone 8 v && constantsAlone 8 u && constantsAlone 8 z) = false) (h3 : isStar v = false) (h4 : isStar u = false) (h5 : isStar z = false) :
    swappedStores [.Tuple [.Name a pa, .Name b pb, .Name c pc] k tp] (.Tuple [v, u, z] k' vp) env = pure (some [a, b, c]) := by
  have e1 : ([v, u, z].any isStar) = false := by
    rw [List.any_cons, List.any_cons, List.any_cons, h3, h4, h5]; rfl
  have e2 : ([v, u, z].all (foldedForSure 8)) = false := by rw [List.all_cons, List.all_cons, List.all_cons, List.all_nil, Bool.and_true, ← Bool.and_assoc, h1]
  have e3 : ([v, u, z].all (constantsAlone 8)) = false := by rw [List.all_cons, List.all_cons, List.all_cons, List.all_nil, Bool.and_true, ← Bool.and_assoc, h2]
  have e5 : [a, b, c].eraseDups.length = 3 := by
    have h : (b == a) = false := by simpa using fun e => (bne_iff_ne.mp hne) e.symm
    have h' : (c == a) = false := by simpa using fun e => (bne_iff_ne.mp hne') e.symm
    have h'' : (c == b) = false := by simpa using fun e => (bne_iff_ne.mp hne'') e.symm
    simp [List.eraseDups_cons, List.filter, h, h', h'']
  have e4 : ∀ f : Expr → Option Str, f (.Name a pa) = some a → f (.Name b pb) = some b → f (.Name c pc) = some c → [Expr.Name a pa, .Name b pb, .Name c pc].filterMap f = [a, b, c] := fun f h h' h'' => by
    simp [List.filterMap, h, h', h'']
  unfold swappedStores
  simp only [blockK he]
  rw [e4 _ (by show (if (env.kindOf a == some .local && pa.line == pa.line) = true then some a else none) = some a; rw [he.kindOf, ha]; simp) (by show (if (env.kindOf b == some .local && pb.line == pa.line) = true then some b else none) = some b; rw [he.kindOf, hb, hl]; rfl)
    (by show (if (env.kindOf c == some .local && pc.line == pa.line) = true then some c else none) = some c; rw [he.kindOf, hc, hl']; rfl)]
  refine (if_neg fun q => Bool.noConfusion (show false = true from q)).trans ?_
  refine (if_neg fun q => by have q' : [v, u, z].any isStar = true := q; rw [e1] at q'; cases q').trans ?_
  rw [e2, e3, e5]
  rfl

theorem asgR2_ok {sc : Scope} {nm : List Str} {is : List Nat} {ts : List Expr} {value : Expr} {env : Env} {kk : Nat} {tp : Pos} (he : EOk ht sc nm env) (hm : asgR2 sc nm is ts value = true) :
    ∃ xs, slotsOk sc nm is xs = true ∧ plainExpr value = true ∧ swappedStores [.Tuple ts kk tp] value env = pure (some xs) := by
  obtain ⟨⟨⟨a, pa, b, pb⟩, rfl⟩, hm⟩ := anyO_eq hm
  obtain ⟨⟨⟨v₀, u₀, k₀, p₀⟩, rfl⟩, hm⟩ := anyO_eq hm
  dsimp only at hm
  obtain ⟨hm, g2⟩ := and2 hm
  obtain ⟨hm, g1⟩ := and2 hm
  obtain ⟨hm, m7⟩ := and2 hm
  obtain ⟨hm, m6⟩ := and2 hm
  obtain ⟨hm, m5⟩ := and2 hm
  obtain ⟨hm, m4⟩ := and2 hm
  obtain ⟨hm, m3⟩ := and2 hm
  obtain ⟨m1, m2⟩ := and2 hm
  exact ⟨_, m1, rfl, ts_names_two he (beq_iff_eq.mp m2) (beq_iff_eq.mp m3) m4 m5 ((Bool.not_eq_true' _).mp m6) ((Bool.not_eq_true' _).mp m7) ((Bool.not_eq_true' _).mp g1) ((Bool.not_eq_true' _).mp g2)⟩
theorem asgR3_ok {sc : Scope} {nm : List Str} {is : List Nat} {ts : List Expr} {value : Expr} {env : Env} {kk : Nat} {tp : Pos} (he : EOk ht sc nm env) (hm : asgR3 sc nm is ts value = true) :
    ∃ xs, slotsOk sc nm is xs = true ∧ plainExpr value = true ∧ swappedStores [.Tuple ts kk tp] value env = pure (some xs) := by
  obtain ⟨⟨⟨a, pa, b, pb, c, pc⟩, rfl⟩, hm⟩ := anyO_eq hm
  obtain ⟨⟨⟨v₀, u₀, z₀, k₀, p₀⟩, rfl⟩, hm⟩ := anyO_eq hm
  dsimp only at hm
  obtain ⟨hm, g3⟩ := and2 hm
  obtain ⟨hm, g2⟩ := and2 hm
  obtain ⟨hm, g1⟩ := and2 hm
  obtain ⟨hm, m11⟩ := and2 hm
  obtain ⟨hm, m10⟩ := and2 hm
  obtain ⟨hm, m9⟩ := and2 hm
  obtain ⟨hm, m8⟩ := and2 hm
  obtain ⟨hm, m7⟩ := and2 hm
  obtain ⟨hm, m6⟩ := and2 hm
  obtain ⟨hm, m5⟩ := and2 hm
  obtain ⟨hm, m4⟩ := and2 hm
  obtain ⟨hm, m3⟩ := and2 hm
  obtain ⟨m1, m2⟩ := and2 hm
  exact ⟨_, m1, rfl, ts_names_three he (beq_iff_eq.mp m2) (beq_iff_eq.mp m3) (beq_iff_eq.mp m4) m5 m6 m7 m8 m9 ((Bool.not_eq_true' _).mp m10) ((Bool.not_eq_true' _).mp m11) ((Bool.not_eq_true' _).mp g1) ((Bool.not_eq_true' _).mp g2) ((Bool.not_eq_true' _).mp g3)⟩

theorem swaps_sole_tuple {elts : List Expr} {k : Nat} {tp : Pos} {value : Expr} {line : Nat} {env : Env} (h : plainExpr value = true) : swapsWithSole [.Tuple elts k tp] value line env = pure false := by
  cases value <;> first | rfl | cases h

theorem sok_asgR {fuel : Nat} {is : List Nat} {e : E} (he' : VOk prog w ht n orc e) : SOk prog w ht n orc fuel (.asgR is e) := by
  intro sc nm env A σ μ σ' μ' fl s mt Q Er he hA hx r f k
  rw [ex] at hx
  obtain ⟨⟨v, μ₁⟩, h1, hx⟩ := bnd hx
  dsimp only at hx
  have core : ∀ (vs : List V) (xs : List Str) (elts : List Expr) (kk : Nat) (tp : Pos) (value : Expr) (pos : Pos), v = .tup vs → setAll is.reverse vs.reverse σ = some σ' → μ₁ = μ' → fl = .next → slotsOk sc nm is xs = true → m e false sc nm value = true → plainExpr value = true →
      swappedStores [.Tuple elts kk tp] value env = pure (some xs) → wpAny (model prog w) A (exec (.Assign [.Tuple elts kk tp] value pos) env) Q Er s := by
    intro vs xs elts kk tp value pos e1 e2 e3 e4 hs hm hp hw
    subst e1 e3 e4
    obtain ⟨s1, s2⟩ := slots_of hs
    refine Assign_Tuple_swapped (he' sc nm _ env A σ μ _ _ s mt _ _ hm he hA h1 r f fun wv h₁ t₁ mt₁ x₁ r₁ v₁ => ?_) (swaps_sole_tuple hp) hw
    rw [VR] at v₁
    obtain ⟨a, ws, rfl, off, ht', vr⟩ := v₁
    have hl : xs.length = ws.toArray.size := by
      have l1 := setAll_len e2
      have l2 := congrArg List.length (mapM_map s1)
      rw [List.length_reverse, List.length_reverse] at l1
      rw [List.length_map, List.length_map] at l2
      rw [List.size_toArray, vr.length, ← l1, l2]
    rw [hl]
    refine unpackItems_tuple hA.1 ht' fun h₂ hb => ?_
    have kp := extb_keep hb
    refine wpAny_mono (inOrder_binds (Q := fun s' => Q .next s') xs.reverse ws.reverse _ (by rw [List.length_reverse, List.length_reverse, hl, List.size_toArray]) ?_) (fun _ _ z => z) fun _ _ z => z
    have X₁ : Ext None₀ mt₁ h₁ mt₁ h₂ := .of_keep kp
    have f₁ := f.nx r x₁
    refine stores_ok he is.reverse xs.reverse vs.reverse ws.reverse σ σ' _ (mapM_rev s1) (fun x hx => s2 x (List.mem_reverse.mp hx)) e2 (r₁.up kp) (f₁.nx r₁ X₁) (VRs.reverse (vr.up X₁)) fun h₃ tk x₂ r₂ f₂ => ?_
    exact k .next h₃ tk mt₁ rfl (x₁.none.trans (X₁.none.trans (x₂.mono fun _ ⟨_, _, q⟩ => q.own))) r₂ f₂
  refine ⟨fun p hm => ?_, fun ps hm => (by cases hm)⟩
  split at hx
  · rename_i vs
    obtain ⟨σ₁, h2, hx⟩ := bnd hx
    cases hx
    obtain ⟨⟨⟨ts, kk, tp, value, pos⟩, e'⟩, hm⟩ := anyO_eq hm
    cases e'
    obtain ⟨mm, hm⟩ := and2 hm
    dsimp only at mm hm
    rcases Bool.or_eq_true_iff.mp hm with hm | hm
    · obtain ⟨xs, z1, z2, z3⟩ := asgR2_ok (kk := kk) (tp := tp) he hm
      exact core vs xs _ _ _ _ _ rfl h2 rfl rfl z1 mm z2 z3
    · obtain ⟨xs, z1, z2, z3⟩ := asgR3_ok (kk := kk) (tp := tp) he hm
      exact core vs xs _ _ _ _ _ rfl h2 rfl rfl z1 mm z2 z3
  · cases hx

theorem sok_asgT {fuel : Nat} {is : List Nat} {e : E} (he' : VOk prog w ht n orc e) : SOk prog w ht n orc fuel (.asgT is e) := by
  intro sc nm env A σ μ σ' μ' fl s mt Q Er he hA hx r f k
  rw [ex] at hx
  obtain ⟨⟨v, μ₁⟩, h1, hx⟩ := bnd hx
  dsimp only at hx
  refine ⟨fun p hm => ?_, fun ps hm => (by cases hm)⟩
  split at hx
  · rename_i vs
    obtain ⟨σ₁, h2, hx⟩ := bnd hx
    cases hx
    obtain ⟨⟨⟨ts, kk, tp, value, pos⟩, e'⟩, hm⟩ := anyO_eq hm
    cases e'
    · obtain ⟨hm, m3⟩ := and2 hm
      obtain ⟨m1, m2⟩ := and2 hm
      dsimp only at m1 m2 m3
      cases hxs : ts.mapM nameOf with
      | none => rw [hxs] at m1; cases m1
      | some xs =>
        rw [hxs] at m1
        obtain ⟨s1, s2⟩ := slots_of (show slotsOk sc nm is xs = true from m1)
        have hw : plainExpr value = true ∧ swappedStores [.Tuple ts kk tp] value env = pure none := by
          rcases Bool.or_eq_true_iff.mp m3 with m3 | m3
          · rcases Bool.or_eq_true_iff.mp m3 with m3 | m3
            · have hq : ∃ a b c d, value = .Call a b c d := by
                obtain ⟨⟨⟨a, b, c, d⟩, q⟩, _⟩ := Option.isSome_iff_exists.mp m3
                exact ⟨a, b, c, d, q⟩
              obtain ⟨a, b, c, d, rfl⟩ := hq
              exact ⟨rfl, rfl⟩
            obtain ⟨m3, l4⟩ := and2 m3
            have l4 : ts.length = 4 := by simpa using l4
            have hq : ∃ a b c d k p, value = .Tuple [a, b, c, d] k p := by
              obtain ⟨⟨⟨a, b, c, d, k, p⟩, q⟩, _⟩ := Option.isSome_iff_exists.mp m3
              exact ⟨a, b, c, d, k, p, q⟩
            obtain ⟨a, b, c, d, k', p', rfl⟩ := hq
            refine ⟨rfl, ?_⟩
            unfold swappedStores
            refine (if_pos ?_).trans rfl
            rw [l4]; rfl
          · have hq : ∃ a b c d e f k p, value = .Tuple [.Constant a b c, .Constant d e f] k p := by
              obtain ⟨⟨⟨a, b, c, d, e, f, k, p⟩, q⟩, _⟩ := Option.isSome_iff_exists.mp m3
              exact ⟨a, b, c, d, e, f, k, p, q⟩
            obtain ⟨a, b, c, d, e₁, f₁, k', p', rfl⟩ := hq
            refine ⟨rfl, ?_⟩
            unfold swappedStores
            have q : ∀ (c1 c2 c3 : Prop) [Decidable c1] [Decidable c2] [Decidable c3] (z : Sem (Option (List Str))), (if c1 then pure none else if c2 then pure none else if c3 then pure none else if true = true then pure none else z) = pure none := by
              intro c1 c2 c3 _ _ _ z
              split
              · rfl
              · split
                · rfl
                · split
                  · rfl
                  · rfl
            exact q _ _ _ _
        obtain ⟨hp, hw⟩ := hw
        obtain ⟨n1, n2⟩ := star_none (env := env) hxs
        refine Assign_Tuple (he' sc nm _ env A σ μ _ _ s mt _ _ m2 he hA h1 r f fun wv h₁ t₁ mt₁ x₁ r₁ v₁ => ?_) (swaps_sole_tuple hp) hw
        rw [VR] at v₁
        obtain ⟨a, ws, rfl, off, ht', vr⟩ := v₁
        have hl : xs.length = ws.length := by
          have l1 := setAll_len h2
          have l2 := congrArg List.length (mapM_map s1)
          rw [List.length_map, List.length_map] at l2
          rw [vr.length, ← l1, l2]
        refine assign_Tuple_tuple hA.1 ht' (by rw [n2, hl, List.size_toArray]) n1 fun h₂ hb => ?_
        have kp := extb_keep hb
        have X₁ : Ext None₀ mt₁ h₁ mt₁ h₂ := .of_keep kp
        have f₁ := f.nx r x₁
        refine wpAny_mono (inOrder_names (Q := fun s' => Q .next s') ts xs ws _ hxs hl.symm ?_) (fun _ _ z => z) fun _ _ z => z
        refine stores_ok he is xs vs ws σ σ' _ s1 s2 h2 (r₁.up kp) (f₁.nx r₁ X₁) (vr.up X₁) fun h₃ tk x₂ r₂ f₂ => ?_
        exact k .next h₃ tk mt₁ rfl (x₁.none.trans (X₁.none.trans (x₂.mono fun _ ⟨_, _, q⟩ => q.own))) r₂ f₂
  · cases hx

theorem sok_setI {fuel : Nat} {o i e : E} (ho : VOk prog w ht n orc o) (hi : VOk prog w ht n orc i) (he' : VOk prog w ht n orc e) : SOk prog w ht n orc fuel (.setI o i e) := by
  intro sc nm env A σ μ σ' μ' fl s mt Q Er he hA hx r f k
  rw [ex] at hx
  obtain ⟨⟨v, μ₁⟩, h1, hx⟩ := bnd hx
  obtain ⟨⟨x, μ₂⟩, h2, hx⟩ := bnd hx
  obtain ⟨⟨y, μ₃⟩, h3, hx⟩ := bnd hx
  obtain ⟨μ₄, h4, hx⟩ := bnd hx
  cases hx
  refine ⟨fun p hm => ?_, fun ps hm => (by cases hm)⟩
  obtain ⟨⟨⟨po, pi, pp, value, pos⟩, e'⟩, hm⟩ := anyO_eq hm
  cases e'
  · obtain ⟨hm, m4⟩ := and2 hm
    obtain ⟨hm, m3⟩ := and2 hm
    obtain ⟨m1, m2⟩ := and2 hm
    refine wpAny_Assign_Subscript (he' sc nm _ env A σ μ v _ s mt _ _ m4 he hA h1 r f fun wv h₁ t₁ mt₁ x₁ r₁ v₁ => ?_) (plain_swaps m1 _ _ _)
    have f₁ := f.nx r x₁
    refine ho sc nm _ env A σ _ x _ _ mt₁ _ _ m2 he hA h2 r₁ f₁ fun wo h₂ t₂ mt₂ x₂ r₂ v₂ => ?_
    have f₂ := f₁.nx r₁ x₂
    refine hi sc nm _ env A σ _ y _ _ mt₂ _ _ m3 he hA h3 r₂ f₂ fun wi h₃ t₃ mt₃ x₃ r₃ v₃ => ?_
    have f₃ := f₂.nx r₂ x₃
    refine set_ok h4 r₃ (v₂.up x₃) v₃ (v₁.up (x₂.trans x₃)) fun h₄ x₄ r₄ => ?_
    exact k .next h₄ t₃ mt₃ rfl ((x₁.trans (x₂.trans (x₃.trans x₄))).none) r₄ (f₃.nx r₃ x₄)

end
end Mine

namespace Mine
open PySem PySem.Calls PyProof.Rows PySem.W
set_option maxRecDepth 100000
set_option autoImplicit false

theorem wpAny_assign_Subscript {M : Model} {A : Around} {E : Value → Shared → Prop} {s : Shared} {env : Env} {o i : Expr} {pos : Pos} {v : Value} {Q : Unit → Shared → Prop}
    (h : wpAny M A (eval o env) (fun ov s₂ => wpAny M A (eval i env) (fun iv s₃ => wpAny M A (setItem ov iv v) Q E s₃) E s₂) E s) : wpAny M A (assign (.Subscript o i pos) env v) Q E s := by
  rw [assign_Subscript]
  refine wpAny_bind (wpAny_holding (wpAny_mono h (fun ov s₂ h₂ => wpAny_bind (wpAny_holding (wpAny_mono h₂ (fun iv s₃ h₃ => wpAny_bind (wpAny_standAt (wpAny_bind (wpAny_holding (wpAny_mono h₃ (fun _ s₄ h₄ => wpAny_release h₄) fun _ _ e => e))))) fun _ _ e => e))) fun _ _ e => e))

section
variable {prog : Program} {w : World} {ht : Heap} {mg mb : Str → Option Value} {n : Nat} {orc : Orc}

theorem sok_swap {fuel : Nat} {o i o' i' e : E} (ho : VOk prog w ht n orc o) (hi : VOk prog w ht n orc i) (ho' : VOk prog w ht n orc o') (hi' : VOk prog w ht n orc i') (he' : VOk prog w ht n orc e) : SOk prog w ht n orc fuel (.swap o i o' i' e) := by
  intro sc nm env A σ μ σ' μ' fl s mt Q Er he hA hx r f k
  rw [ex] at hx
  obtain ⟨⟨v, μ₁⟩, h1, hx⟩ := bnd hx
  dsimp only at hx
  refine ⟨fun p hm => ?_, fun ps hm => (by cases hm)⟩
  split at hx
  · obtain ⟨⟨x, μ₂⟩, h2, hx⟩ := bnd hx
    obtain ⟨⟨y, μ₃⟩, h3, hx⟩ := bnd hx
    obtain ⟨μ₄, h4, hx⟩ := bnd hx
    obtain ⟨⟨x', μ₅⟩, h5, hx⟩ := bnd hx
    obtain ⟨⟨y', μ₆⟩, h6, hx⟩ := bnd hx
    obtain ⟨μ₇, h7, hx⟩ := bnd hx
    cases hx
    obtain ⟨⟨⟨ts, kk, tp, value, pos⟩, e'⟩, hm⟩ := anyO_eq hm
    cases e'
    obtain ⟨⟨⟨pa, pb, pp, pc, pd, pq⟩, e1⟩, hm⟩ := anyO_eq hm
    dsimp only at hm e1
    subst e1
    · obtain ⟨hm, m5⟩ := and2 hm
      obtain ⟨hm, m4⟩ := and2 hm
      obtain ⟨hm, m3⟩ := and2 hm
      obtain ⟨hm, m2⟩ := and2 hm
      obtain ⟨m0, m1⟩ := and2 hm
      have hq : ∃ a b k p, value = .Tuple [a, b] k p := by
        obtain ⟨⟨⟨a, b, k, p⟩, q⟩, _⟩ := Option.isSome_iff_exists.mp m0
        exact ⟨a, b, k, p, q⟩
      obtain ⟨v₀, u₀, k₀, p₀, rfl⟩ := hq
      refine Assign_Tuple (he' sc nm _ env A σ μ _ _ s mt _ _ m5 he hA h1 r f fun wv h₁ t₁ mt₁ x₁ r₁ v₁ => ?_) (swaps_sole_tuple rfl) ?_
      · have f₁ := f.nx r x₁
        rw [VR] at v₁
        obtain ⟨a, ws, rfl, off, ht', vr⟩ := v₁
        obtain ⟨wa, rr, rfl, q1, q2⟩ := vr.uncons
        obtain ⟨wb, rr, rfl, q4, q3⟩ := q2.uncons
        obtain rfl := q3.unnil
        refine assign_Tuple_tuple hA.1 ht' rfl rfl fun hz hb => ?_
        have kp := extb_keep hb
        have X : Ext None₀ mt₁ h₁ mt₁ hz := .of_keep kp
        have rz := r₁.up kp
        have fz := f₁.nx r₁ X
        refine assignInOrder_cons (wpAny_assign_Subscript ?_)
        refine ho sc nm _ env A σ _ x _ _ mt₁ _ _ m1 he hA h2 rz fz fun wo h₂ t₂ mt₂ x₂ r₂ v₂ => ?_
        have f₂ := fz.nx rz x₂
        refine hi sc nm _ env A σ _ y _ _ mt₂ _ _ m2 he hA h3 r₂ f₂ fun wi h₃ t₃ mt₃ x₃ r₃ v₃ => ?_
        have f₃ := f₂.nx r₂ x₃
        refine set_ok h4 r₃ (v₂.up x₃) v₃ (q1.up (X.trans (x₂.trans x₃))) fun h₄ x₄ r₄ => ?_
        have f₄ := f₃.nx r₃ x₄
        refine assignInOrder_cons (wpAny_assign_Subscript ?_)
        refine ho' sc nm _ env A σ _ x' _ _ mt₃ _ _ m3 he hA h5 r₄ f₄ fun wo h₅ t₅ mt₅ x₅ r₅ v₅ => ?_
        have f₅ := f₄.nx r₄ x₅
        refine hi' sc nm _ env A σ _ y' _ _ mt₅ _ _ m4 he hA h6 r₅ f₅ fun wi h₆ t₆ mt₆ x₆ r₆ v₆ => ?_
        have f₆ := f₅.nx r₅ x₆
        refine set_ok h7 r₆ (v₅.up x₆) v₆ (q4.up (X.trans (x₂.trans (x₃.trans (x₄.trans (x₅.trans x₆)))))) fun h₇ x₇ r₇ => ?_
        refine assignInOrder_nil ?_
        exact k .next h₇ t₆ mt₆ rfl ((x₁.trans (X.trans (x₂.trans (x₃.trans (x₄.trans (x₅.trans (x₆.trans x₇))))))).none) r₇ (f₆.nx r₆ x₇)
      · unfold swappedStores
        simp only [blockK he]
        have q : ∀ (c1 c2 : Prop) [Decidable c1] [Decidable c2] (z : Sem (Option (List Str))), (if c1 then pure none else if c2 then pure none else if true = true then pure none else z) = pure none := by
          intro c1 c2 _ _ z
          split
          · rfl
          · split
            · rfl
            · rfl
        exact q _ _ _
  · cases hx

theorem sok_aug {fuel : Nat} {i : Nat} {op : Op2} {e : E} (hi : VOk prog w ht n orc (.var i)) (he' : VOk prog w ht n orc e) : SOk prog w ht n orc fuel (.aug i op e) := by
  intro sc nm env A σ μ σ' μ' fl s mt Q Er he hA hx r f k
  rw [ex] at hx
  obtain ⟨⟨x, μ₁⟩, h1, hx⟩ := bnd hx
  obtain ⟨⟨y, μ₂⟩, h2, hx⟩ := bnd hx
  dsimp only at hx
  refine ⟨fun p hm => ?_, fun ps hm => (by cases hm)⟩
  split at hx
  · rename_i xi yi _
    obtain ⟨z, h3, hx⟩ := bnd hx
    obtain ⟨σ₁, h4, hx⟩ := bnd hx
    cases hx
    obtain ⟨⟨⟨nm', pp, value, pos⟩, e'⟩, hm⟩ := anyO_eq hm
    cases e'
    · obtain ⟨hm, m4⟩ := and2 hm
      obtain ⟨hm, m3⟩ := and2 hm
      obtain ⟨m1, m2⟩ := and2 hm
      obtain rfl : op = .sub := by simpa using m1
      have m2 : nm[i]? = some nm' := by simpa using m2
      have m3 : sc.names.lookup nm' = some .local := by simpa using m3
      cases h3
      rw [ev] at h1
      have hv : σ[i]? = some (.int xi) ∧ μ₁ = μ := by
        split at h1
        · cases h1
        · rename_i u hu _; cases h1; exact ⟨by assumption, rfl⟩
        · cases h1
      obtain ⟨hs, rfl⟩ := hv
      obtain ⟨mm, hn, hh⟩ := f.ns
      obtain ⟨mv, e1, e2⟩ := (hh i nm' _ m2 hs (by rw [he.kindOf]; exact m3)).resolve_left (by intro q; cases q)
      refine wpAny_AugAssign_Name (wpAny_loadName_local he.fn (by rw [he.kindOf]; exact m3) hn e1 ?_)
      refine he' sc nm _ env A σ _ _ _ s mt _ _ m4 he hA h2 r f fun wv h₁ t₁ mt₁ x₁ r₁ v₁ => ?_
      rw [VR] at e2 v₁
      obtain ⟨t, rfl⟩ := e2
      obtain ⟨u, rfl⟩ := v₁
      have f₁ := f.nx r x₁
      refine PyProof.Rows.isub_int ?_
      refine store_ok (v := .int (xi - yi)) (s := { s with heap := h₁, toks := t₁ + 1 }) he r₁ f₁ m2 (by rw [m3]; simp) (by rw [VR]; exact ⟨_, rfl⟩) fun h' tk x₂ r₂ f₂ => ?_
      have hs : σ' = σ.set i (.int (xi - yi)) := by
        rw [setAll] at h4
        split at h4
        · rw [setAll] at h4; cases h4; rfl
        · cases h4
      rw [← hs] at f₂
      exact k .next h' tk mt₁ rfl (x₁.none.trans (x₂.mono fun _ q => q.own)) r₂ f₂
  · cases hx

theorem sok_expr {fuel : Nat} {e : E} (he' : VOk prog w ht n orc e) : SOk prog w ht n orc fuel (.expr e) := by
  intro sc nm env A σ μ σ' μ' fl s mt Q Er he hA hx r f k
  rw [ex] at hx
  obtain ⟨⟨v, μ₁⟩, h1, hx⟩ := bnd hx
  dsimp only at hx
  refine ⟨fun p hm => ?_, fun ps hm => (by cases hm)⟩
  split at hx
  · cases hx
    obtain ⟨⟨⟨value, pos⟩, e'⟩, hm⟩ := anyO_eq hm
    cases e'
    · obtain ⟨m1, m2⟩ := and2 hm
      have hq : ∃ a b c d, value = .Call a b c d := by
        obtain ⟨⟨⟨a, b, c, d⟩, q⟩, _⟩ := Option.isSome_iff_exists.mp m1
        exact ⟨a, b, c, d, q⟩
      obtain ⟨a₀, b₀, c₀, d₀, rfl⟩ := hq
      refine wpAny_Expr (he' sc nm _ env A σ μ _ _ s mt _ _ m2 he hA h1 r f fun wv h₁ t₁ mt₁ x₁ r₁ v₁ => ?_) ?_ ?_
      · rw [VR] at v₁
        subst v₁
        exact k .next h₁ t₁ mt₁ rfl x₁.none r₁ (f.nx r x₁)
      · unfold interactive; rw [he.fn]; rfl
      · rfl
  · cases hx

theorem sok_ret {fuel : Nat} {e : E} (he' : VOk prog w ht n orc e) : SOk prog w ht n orc fuel (.ret e) := by
  intro sc nm env A σ μ σ' μ' fl s mt Q Er he hA hx r f k
  rw [ex] at hx
  obtain ⟨⟨v, μ₁⟩, h1, hx⟩ := bnd hx
  cases hx
  refine ⟨fun p hm => ?_, fun ps hm => (by cases hm)⟩
  obtain ⟨⟨⟨value, pos⟩, e'⟩, hm⟩ := anyO_eq hm
  cases e'
  · exact wpAny_Return_some (he' sc nm _ env A σ μ _ _ s mt _ _ hm he hA h1 r f fun wv h₁ t₁ mt₁ x₁ r₁ v₁ => k _ h₁ t₁ mt₁ ⟨wv, rfl, v₁⟩ x₁.none r₁ (f.nx r x₁))

theorem sok_if {fuel : Nat} {c : E} {a b : S} (hc : TOk prog w ht n orc c) (ha : SOk prog w ht n orc fuel a) (hb : SOk prog w ht n orc fuel b) : SOk prog w ht n orc fuel (.ifS c a b) := by
  intro sc nm env A σ μ σ' μ' fl s mt Q Er he hA hx r f k
  rw [ex] at hx
  obtain ⟨⟨v, μ₁⟩, h1, hx⟩ := bnd hx
  dsimp only at hx
  refine ⟨fun p hm => ?_, fun ps hm => (by cases hm)⟩
  obtain ⟨⟨⟨test, body, orelse, pos⟩, e'⟩, hm⟩ := anyO_eq hm
  cases e'
  · obtain ⟨hm, m3⟩ := and2 hm
    obtain ⟨m1, m2⟩ := and2 hm
    refine wpAny_If (hc sc nm _ env A σ μ v _ s mt _ _ _ m1 he hA h1 r f fun bb h₁ t₁ mt₁ e x₁ r₁ => ?_)
    subst e
    have f₁ := f.nx r x₁
    cases bb with
    | true => exact (ha sc nm env A σ μ₁ σ' μ' fl _ mt₁ Q Er he hA hx r₁ f₁ (k.on x₁.none)).2 _ m2
    | false => exact (hb sc nm env A σ μ₁ σ' μ' fl _ mt₁ Q Er he hA hx r₁ f₁ (k.on x₁.none)).2 _ m3

/-- at a while's test -/
inductive WI (ht : Heap) (nm : List Str) (env : Env) (s : Shared) (mt : Pl) (P : Nat → List V → Store → Prop) : Nat → Shared → Prop
  | mk {h' : Heap} {tk : Nat} {M : Pl} {μi : Store} {σi : List V} {j : Nat} (X : Ext (Own env) mt s.heap M h') (rI : SR ht M μi h') (fI : FR nm env M σi h') (p : P j σi μi) : WI ht nm env s mt P j { s with heap := h', toks := tk }

theorem sok_while {fuel : Nat} {c : E} {b : S} (hc : TOk prog w ht n orc c) (hb : SOk prog w ht n orc fuel b) : SOk prog w ht n orc fuel (.whileS c b) := by
  intro sc nm env A σ μ σ' μ' fl s mt Q Er he hA hx r f k
  rw [ex] at hx
  refine ⟨fun p hm => ?_, fun ps hm => (by cases hm)⟩
  obtain ⟨⟨⟨test, body, pos⟩, e'⟩, hm⟩ := anyO_eq hm
  cases e'
  · obtain ⟨m1, m2⟩ := and2 hm
    refine wpAny_While (codeAny_whileLoop (WI ht nm env s mt fun j σi μi => whileL (fun σ μ => ev orc c σ μ) (fun σ μ => ex orc fuel b σ μ) j σi μi = some (σ', μ', fl)) ?_ fuel (WI.mk .refl r f hx))
    rintro j s' ⟨X, rI, fI, hw⟩
    rename_i h' tk M μi σi
    cases j with
    | zero => simp [whileL] at hw
    | succ j =>
      rw [whileL] at hw
      obtain ⟨⟨cv, μ₁⟩, h1, hw⟩ := bnd hw
      dsimp only at hw
      refine hc sc nm _ env A σi μi cv _ _ M _ _ _ m1 he hA h1 rI fI fun bb h₁ t₁ mt₁ e x₁ r₁ => ?_
      subst e
      have f₁ := fI.nx rI x₁
      cases bb with
      | false =>
        cases hw
        exact wpAny_execs_nil (k .next h₁ t₁ mt₁ rfl (X.trans x₁.none) r₁ f₁)
      | true =>
        obtain ⟨⟨σ₂, μ₂, fl₂⟩, h2, hw⟩ := bnd hw
        refine (hb sc nm env A σi μ₁ σ₂ μ₂ fl₂ _ mt₁ _ _ he hA h2 r₁ f₁ fun fv h₂ t₂ mt₂ z x₂ r₂ f₂ => ?_).2 _ m2
        cases fl₂ with
        | next =>
          obtain rfl : fv = .next := z
          exact ⟨j, Nat.lt_succ_self j, WI.mk (X.trans (x₁.none.trans x₂)) r₂ f₂ hw⟩
        | ret v =>
          cases hw
          obtain ⟨wv, rfl, hv⟩ := z
          exact k _ h₂ t₂ mt₂ ⟨wv, rfl, hv⟩ (X.trans (x₁.none.trans x₂)) r₂ f₂

end
end Mine

namespace Mine
open PySem PySem.Calls PyProof.Rows PySem.W
set_option maxRecDepth 100000
set_option autoImplicit false

theorem FR.hide {nm : List Str} {env : Env} {l hd as : List Addr} {σ : List V} {h h' : Heap} (f : FR nm env ⟨l, hd⟩ σ h) (k : ∀ b o, h.get? b = some o → h'.get? b = some o) (ha : ∀ a ∈ as, h.get? a = none) : FR nm env ⟨l, as ++ hd⟩ σ h' where
  len := f.len
  ns := by
    obtain ⟨m, n, r⟩ := f.ns
    exact ⟨m, n.at' fun o e => k _ o e, fun i y v e1 e2 e3 => (r i y v e1 e2 e3).imp id fun ⟨mv, a, b⟩ => ⟨mv, a, VR.hide k ha v b⟩⟩
  cl i y v e1 e2 e3 := (f.cl i y v e1 e2 e3).imp id fun ⟨c, mv, a, b, d⟩ => ⟨c, mv, a, b.keeps k, VR.hide k ha v d⟩
  cs y c e := let ⟨v, hv⟩ := f.cs y c e; ⟨v, hv.keeps k⟩
theorem FR.drop {F : Addr → Prop} {nm : List Str} {env : Env} {l hd hd' : List Addr} {σ : List V} {h h' : Heap} (f : FR nm env ⟨l, hd⟩ σ h) (k : ∀ b o, ¬ F b → h.get? b = some o → h'.get? b = some o) (hF : ∀ b, F b → b ∈ hd) (sub : ∀ b ∈ hd', b ∈ hd) (ho : ∀ a, Own env a → ¬ F a) : FR nm env ⟨l, hd'⟩ σ h' := by
  have lift : ∀ (v : V) (w : Value), VR ⟨l, hd⟩ h v w → VR ⟨l, hd'⟩ h' v w := fun v w e => VR.lift (M := ⟨l, hd⟩) (M' := ⟨l, hd'⟩) (fun b o z => k b o fun y => z.2 (hF b y)) (fun b z => ⟨z.1, fun y => z.2 (sub b y)⟩) (fun _ _ e => e) v e
  refine ⟨f.len, ?_, fun i y v e1 e2 e3 => ?_, fun y c e => ?_⟩
  · obtain ⟨m, n, r⟩ := f.ns
    exact ⟨m, n.at' fun o e => k _ o (ho _ (.inl rfl)) e, fun i y v e1 e2 e3 => (r i y v e1 e2 e3).imp id fun ⟨mv, a, b⟩ => ⟨mv, a, lift _ _ b⟩⟩
  · exact (f.cl i y v e1 e2 e3).imp id fun ⟨c, mv, a, b, d⟩ => ⟨c, mv, a, (let ⟨o, e, z⟩ := b; ⟨o, k c o (ho c (.inr ⟨_, a⟩)) e, z⟩), lift _ _ d⟩
  · obtain ⟨v, o, e', z⟩ := f.cs y c e
    exact ⟨v, o, k c o (ho c (.inr ⟨_, e⟩)) e', z⟩

theorem tgtS_of {tgt : List Nat} {two : Bool} {x : V} {tv σ : List V} (h : tgtV two x = some tv) (hl : tgt.length = if two then 2 else 1) : tgtS tgt x σ = setAll tgt tv σ := by
  unfold tgtV at h
  split at h
  · rename_i e
    rw [if_pos e] at hl
    split at h
    · cases h
      match tgt, hl with
      | [i, j], _ => rfl
    · cases h
  · rename_i e
    rw [if_neg e] at hl
    cases h
    match tgt, hl with
    | [i], _ => rfl

section
variable {prog : Program} {w : World} {ht : Heap} {mg mb : Str → Option Value} {n : Nat} {orc : Orc}

/-- at a for's turn -/
inductive FI (ht : Heap) (nm : List Str) (env : Env) (s : Shared) (mt : Pl) (h₁ : Heap) (fp : List Addr) (N : Nat) (St : Nat → Heap → Prop) (P : Nat → List V → Store → Prop) : Nat → Shared → Prop
  | mk {h' : Heap} {tk i : Nat} {M : Pl} {μi : Store} {σi : List V} (hi : i ≤ N) (rI : SR ht M μi h') (stI : St i h') (fI : FR nm env M σi h') (hE : Ext (Own env) mt h₁ M h') (hoff : ∀ b ∈ fp, b ∉ M.l) (p : P i σi μi) : FI ht nm env s mt h₁ fp N St P (N + 1 - i) { s with heap := h', toks := tk }

theorem sok_for (C : Cx ht mg mb) {fuel : Nat} {tgt : List Nat} {sk : Sk} {src src2 : E} {b : S} (hs : VOk prog w ht n orc src) (hs2 : VOk prog w ht n orc src2) (hb : SOk prog w ht n orc fuel b) : SOk prog w ht n orc fuel (.forS tgt sk src src2 b) := by
  intro sc nm env A σ μ σ' μ' fl s mt Q Er he hA hx r f k
  rw [ex] at hx
  obtain ⟨⟨x, μ₁⟩, e1, hx⟩ := bnd hx
  obtain ⟨⟨y, μ₂⟩, e2, hx⟩ := bnd hx
  obtain ⟨its, e3, hx⟩ := bnd hx
  refine ⟨fun p hm => ?_, fun ps hm => (by cases hm)⟩
  obtain ⟨⟨⟨target, iter, body, pos⟩, e'⟩, hm⟩ := anyO_eq hm
  cases e'
  · obtain ⟨hm, m3⟩ := and2 hm
    obtain ⟨hm, m2⟩ := and2 hm
    obtain ⟨m0, m1⟩ := and2 hm
    dsimp only at m0 m1 m2 m3
    cases htg : tgtNames (sk != .plain) target with
    | none => rw [htg] at m0; cases m0
    | some tg =>
      rw [htg] at m1
      obtain ⟨s1, s2⟩ := slots_of (show slotsOk sc nm tgt tg = true from m1)
      have htl : tgt.length = if (sk != .plain) = true then 2 else 1 := by
        have l2 := congrArg List.length (mapM_map s1)
        rw [List.length_map, List.length_map] at l2
        rw [l2, tgt_len htg]
      refine wpAny_For ?_ (src_fold m2 env)
      refine src_ok C hs hs2 m2 he hA e1 e2 e3 r f fun it h₁ h₂ tk₂ M₁ x₁ r₁ S hlen => ?_
      obtain ⟨fp, wr, St, val, W, st0, wnew, foff, keep12, vr⟩ := S
      have f₁ := f.nx r x₁
      have there2 : ∀ a ∈ wr, ∃ o, h₂.get? a = some o := fun a ha => let ⟨o, e, _⟩ := W.there 0 _ st0 a (W.sub a ha); ⟨o, e⟩
      have r2 : SR ht ⟨M₁.l, wr ++ M₁.hd⟩ μ₂ h₂ := SR.hide (as := wr) r₁ keep12 wnew there2
      have f2 : FR nm env ⟨M₁.l, wr ++ M₁.hd⟩ σ h₂ := FR.hide f₁ keep12 wnew
      have ownOff : ∀ i hh, St i hh → ∀ (M : Pl) (σ : List V), FR nm env M σ hh → ∀ a, Own env a → a ∉ fp := fun i hh st M σ ff a ho hf => by
        obtain ⟨o, e, z⟩ := W.there i hh st a hf
        exact ff.notVal ho e z
      refine codeAny_forLoop_any (FI ht nm env s ⟨M₁.l, wr ++ M₁.hd⟩ h₁ fp its.length St fun i σi μi => forL tgt (fun σ μ => ex orc fuel b σ μ) (its.drop i) σi μi = some (σ', μ', fl)) ?_ (its.length + 1)
        (FI.mk (i := 0) (Nat.zero_le _) r2 st0 f2 (.of_keep keep12) foff hx)
      rintro k' s' ⟨hi, rI, stI, fI, hE, hoff, hfor⟩
      rename_i h' tk i M μi σi
      have hMhd : M.hd = wr ++ M₁.hd := hE.hide
      have whd : ∀ b, b ∈ wr → b ∈ M.hd := fun b hb => by rw [hMhd]; exact List.mem_append_left _ hb
      have ap1 : Apart (Own env) ⟨M₁.l, wr ++ M₁.hd⟩ h₁ := fun a ha => (f₁.apart a ha).imp (fun q => List.mem_append_right _ q) id
      -- what is left when the loop is left
      have back : ∀ (M' : Pl) (hz : Heap), Ext (Own env) ⟨M₁.l, wr ++ M₁.hd⟩ h₁ M' hz → Ext (Own env) mt s.heap ⟨M'.l, M₁.hd⟩ hz := fun M' hz E => x₁.none.trans ⟨E.keep, E.dom, E.idx, E.fresh, rfl⟩
      by_cases hlt : i < its.length
      · have hxi : its[i]? = some its[i] := List.getElem?_eq_getElem hlt
        rw [List.drop_eq_getElem_cons hlt, forL] at hfor
        obtain ⟨σ₁, c1, hfor⟩ := bnd hfor
        obtain ⟨⟨σ₂, μ₃, fl₂⟩, c2, hfor⟩ := bnd hfor
        dsimp only at hfor
        refine W.turn i _ env target tg _ _ _ hlt htg stI (fun v s₁ z => z) fun ws' ha tka hval sta keepa => ?_
        have ala : ∀ b, b ∈ wr → ∃ o, ha.get? b = some o := fun b hb => let ⟨o, e, _⟩ := W.there _ _ sta b (W.sub b hb); ⟨o, e⟩
        have oF : ∀ a, Own env a → ¬ a ∈ wr := fun a ho q => ownOff i _ stI M σi fI a ho (W.sub a q)
        have ra : SR ht M μi ha := rI.but (F := (· ∈ wr)) keepa whd ala
        have fa : FR nm env M σi ha := fI.but (F := (· ∈ wr)) keepa whd ala oF
        have Xa : Ext (· ∈ wr) M h' M ha := Ext.but keepa ala
        have Ea : Ext (Own env) ⟨M₁.l, wr ++ M₁.hd⟩ h₁ M ha := {
          keep := fun b o e nl no => keepa b o (fun q => by rw [wnew b q] at e; cases e) (hE.keep b o e nl no)
          dom := fun b e => Xa.dom b (hE.dom b e)
          idx := hE.idx
          fresh := hE.fresh
          hide := hE.hide }
        obtain ⟨tv, t1, q⟩ := vr i _ ws' wr (Own env) M ha hxi hval wnew ap1 Ea
        rw [tgtS_of t1 htl] at c1
        refine stores_ok he tgt tg tv ws' σi σ₁ _ s1 s2 c1 ra fa q fun hb' tkb xb rb fb => ?_
        have xb' : Ext (Own env) M ha M hb' := xb.mono fun _ ⟨_, _, q⟩ => q.own
        have Eb := Ea.trans xb'
        have stb : St (i + 1) hb' := W.frame _ _ _ sta fun b hbf o e => xb'.keep b o e (hoff b hbf) fun z => ownOff _ _ sta M σi fa b z hbf
        refine (hb sc nm env A σ₁ μi σ₂ μ₃ fl₂ _ M _ _ he hA c2 rb fb fun fv h₃ t₃ M₃ z x₃ r₃ f₃ => ?_).2 _ m3
        have E3 := Eb.trans x₃
        have st3 : St (i + 1) h₃ := W.frame _ _ _ stb fun b hbf o e => x₃.keep b o e (hoff b hbf) fun z => ownOff _ _ stb M σ₁ fb b z hbf
        have off3 : ∀ b ∈ fp, b ∉ M₃.l := fun b hbf => by
          obtain ⟨o, e, _⟩ := W.there _ _ stb b hbf
          exact x₃.nmem e (hoff b hbf)
        cases fl₂ with
        | next =>
          obtain rfl : fv = .next := z
          exact ⟨its.length + 1 - (i + 1), by omega, FI.mk hlt r₃ st3 f₃ E3 off3 hfor⟩
        | ret v =>
          cases hfor
          obtain ⟨wv, rfl, hv⟩ := z
          have h3hd : M₃.hd = wr ++ M₁.hd := E3.hide
          have sub : ∀ b ∈ M₁.hd, b ∈ M₃.hd := fun b hb => by rw [h3hd]; exact List.mem_append_right _ hb
          have hv' : VR ⟨M₃.l, M₁.hd⟩ h₃ v wv := VR.unhide (l := M₃.l) (hd := M₃.hd) sub v hv
          have f' : FR nm env ⟨M₃.l, M₁.hd⟩ σ' h₃ := FR.drop (F := None₀) (l := M₃.l) (hd := M₃.hd) f₃ (fun _ _ _ e => e) (fun _ q => q.elim) sub fun _ _ q => q
          exact k _ h₃ t₃ ⟨M₃.l, M₁.hd⟩ ⟨wv, rfl, hv'⟩ (back M₃ h₃ E3) (SR.unhide (l := M₃.l) (hd := M₃.hd) sub r₃) f'
      · have hin : i = its.length := by omega
        subst hin
        rw [List.drop_length, forL] at hfor
        cases hfor
        refine W.done _ _ _ stI fun hz tkz keepz => ?_
        have sub : ∀ b ∈ M₁.hd, b ∈ M.hd := fun b hb => by rw [hMhd]; exact List.mem_append_right _ hb
        have oF : ∀ a, Own env a → ¬ a ∈ wr := fun a ho q => ownOff _ _ stI M σ' fI a ho (W.sub a q)
        have rz : SR ht ⟨M.l, M₁.hd⟩ μ' hz := SR.drop (F := (· ∈ wr)) (l := M.l) (hd := M.hd) rI keepz whd sub fun b hb hw => by
          obtain ⟨⟨o, e⟩, _⟩ := r₁.hid b hb
          rw [wnew b hw] at e; cases e
        have fz : FR nm env ⟨M.l, M₁.hd⟩ σ' hz := FR.drop (F := (· ∈ wr)) (l := M.l) (hd := M.hd) fI keepz whd sub oF
        have Ez : Ext (Own env) ⟨M₁.l, wr ++ M₁.hd⟩ h₁ M hz := {
          keep := fun b o e nl no => keepz b o (fun q => by rw [wnew b q] at e; cases e) (hE.keep b o e nl no)
          dom := fun b e q => by
            cases e' : h'.get? b with
            | none => exact hE.dom b e e'
            | some o => rw [keepz b o (fun z => e (wnew b z)) e'] at q; cases q
          idx := hE.idx
          fresh := hE.fresh
          hide := hE.hide }
        exact wpAny_execs_nil (k .next hz tkz ⟨M.l, M₁.hd⟩ rfl (back M hz Ez) rz fz)

/-- every statement -/
theorem soundS (C : Cx ht mg mb) (O : OrcOk prog w ht mg n orc) (fuel : Nat) : ∀ S : S, SOk prog w ht n orc fuel S := by
  intro S
  induction S with
  | skip => exact sok_skip
  | seq a b ha hb => exact sok_seq ha hb
  | asg i e => exact sok_asg (sound C O e).1
  | asgC i e => exact sok_asgC C O
  | asgT is e => exact sok_asgT (sound C O e).1
  | asgR is e => exact sok_asgR (sound C O e).1
  | setI o i e => exact sok_setI (sound C O o).1 (sound C O i).1 (sound C O e).1
  | swap o i o' i' e => exact sok_swap (sound C O o).1 (sound C O i).1 (sound C O o').1 (sound C O i').1 (sound C O e).1
  | aug i op e => exact sok_aug (sound C O _).1 (sound C O e).1
  | expr e => exact sok_expr (sound C O e).1
  | ret e => exact sok_ret (sound C O e).1
  | ifS c a b ha hb => exact sok_if (sound C O c).2 ha hb
  | forS tgt sk src src2 body hb => exact sok_for C (sound C O src).1 (sound C O src2).1 hb
  | whileS c body hb => exact sok_while (sound C O c).2 hb
  | stop => exact sok_stop

end
end Mine

namespace Mine
open PySem PySem.Calls PyProof.Rows PySem.W
set_option maxRecDepth 100000
set_option autoImplicit false

noncomputable def Fn.nm (f : Fn) : List Str := (f.params ++ f.locals).map Str.ofString

/-- a def is the one foreseen -/
noncomputable def chkFn (f : Fn) (d : DefRec) : Bool :=
  d.name == Str.ofString f.name && (match d.params with | ⟨[], ps, Option.none, [], _, Option.none, _⟩ => ps.map (·.arg) == f.params.map Str.ofString | _ => false) &&
  decide (d.scope.kind = .function) && !d.scope.isCoroutine && !d.scope.isGenerator && decide (f.nm.Nodup) &&
  (f.nm.all fun x => d.scope.names.lookup x == some .local || d.scope.names.lookup x == some .cell) && decide (1 ≤ f.params.length ∧ f.params.length ≤ 3) && ms f.body d.scope f.nm (.inr d.body)

theorem bind_gen {name : Str} {ps : List Arg} {kd : List (Option Expr)} {df : List Expr} {body : List Stmt} {scope : Scope} {pm cd doc : Value} {xs : List Str} {ws : List Value} (h : ps.map (·.arg) = xs) (hl : ws.length = xs.length)
    (h1 : (xs.filterMap fun n => ((xs.zip ws).lookup n).map fun v => (n, v)) = xs.zip ws) (h2 : (xs.filter fun n => ((xs.zip ws).lookup n).isNone) = []) :
    bindArgs (docDef name ⟨[], ps, none, [], kd, none, df⟩ body scope pm cd doc) ⟨ws, []⟩ = pure (xs.zip ws) := by
  simp [bindArgs, docDef, h, seqItems?, hl, h1, h2, -List.filterMap_eq_map, -List.filter_eq_nil_iff]
  rfl
theorem fm_congr {f g : Str → Option (Str × Value)} : ∀ {l : List Str}, (∀ n ∈ l, f n = g n) → l.filterMap f = l.filterMap g
  | [], _ => rfl
  | x :: l, h => by rw [List.filterMap_cons, List.filterMap_cons, h x (List.mem_cons_self ..), fm_congr fun n hn => h n (List.mem_cons_of_mem _ hn)]
theorem zip_look : ∀ {xs : List Str} {ws : List Value}, xs.Nodup → ws.length = xs.length → (xs.filterMap fun n => ((xs.zip ws).lookup n).map fun v => (n, v)) = xs.zip ws ∧ (xs.filter fun n => ((xs.zip ws).lookup n).isNone) = []
  | [], ws, _, _ => ⟨rfl, rfl⟩
  | x :: xs, [], _, h => by cases h
  | x :: xs, w :: ws, hn, hl => by
    obtain ⟨h1, h2⟩ := zip_look (xs := xs) (ws := ws) (List.nodup_cons.mp hn).2 (by simpa using hl)
    have e : ∀ n ∈ xs, ((x :: xs).zip (w :: ws)).lookup n = (xs.zip ws).lookup n := fun n hx => by
      have : (n == x) = false := beq_eq_false_iff_ne.mpr fun q => (List.nodup_cons.mp hn).1 (q ▸ hx)
      rw [List.zip_cons_cons, List.lookup_cons, this]
    have e0 : ((x :: xs).zip (w :: ws)).lookup x = some w := by rw [List.zip_cons_cons, List.lookup_cons, beq_self_eq_true]
    refine ⟨?_, ?_⟩
    · rw [List.filterMap_cons, e0]
      show (x, w) :: _ = (x, w) :: xs.zip ws
      rw [← h1]
      congr 1
      exact fm_congr fun n hx => by rw [e n hx]
    · rw [List.filter_cons, e0]
      show List.filter _ xs = []
      rw [← h2]
      exact List.filter_congr fun n hx => by rw [e n hx]
theorem bind_zip {name : Str} {ps : List Arg} {kd : List (Option Expr)} {df : List Expr} {body : List Stmt} {scope : Scope} {pm cd doc : Value} {xs : List Str} {ws : List Value} (h : ps.map (·.arg) = xs) (hn : xs.Nodup) (hl : ws.length = xs.length) :
    bindArgs (docDef name ⟨[], ps, none, [], kd, none, df⟩ body scope pm cd doc) ⟨ws, []⟩ = pure (xs.zip ws) :=
  bind_gen h hl (zip_look hn hl).1 (zip_look hn hl).2

theorem bindL_other {kind : Str → Option NameKind} {x : Str} : ∀ (xs : List Str) (ws : List Value) (m : Str → Option Value), x ∉ xs → bindL kind (xs.zip ws) m x = m x
  | [], _, _, _ => by simp [bindL]
  | y :: xs, [], _, _ => by simp [bindL]
  | y :: xs, w :: ws, m, h => by
    rw [List.zip_cons_cons, bindL, bindL_other xs ws _ fun q => h (List.mem_cons_of_mem _ q)]
    have : x ≠ y := fun e => h (e ▸ List.mem_cons_self ..)
    split
    · simp [this]
    · rfl
theorem bindL_get {kind : Str → Option NameKind} : ∀ (xs : List Str) (ws : List Value) (m : Str → Option Value) (i : Nat) (x : Str) (v : Value), xs.Nodup → xs[i]? = some x → ws[i]? = some v → kind x = some .local → bindL kind (xs.zip ws) m x = some v
  | [], _, _, _, _, _, _, e, _, _ => by simp at e
  | y :: xs, [], _, i, _, _, _, _, e, _ => by simp at e
  | y :: xs, w :: ws, m, 0, x, v, hn, e1, e2, hk => by
    simp at e1 e2; subst e1; subst e2
    rw [List.zip_cons_cons, bindL, bindL_other xs ws _ (List.nodup_cons.mp hn).1, if_pos hk]
    simp
  | y :: xs, w :: ws, m, i + 1, x, v, hn, e1, e2, hk => by
    rw [List.zip_cons_cons, bindL]
    exact bindL_get xs ws _ i x v (List.nodup_cons.mp hn).2 (by simpa using e1) (by simpa using e2) hk
theorem bindC_other {kind : Str → Option NameKind} {x : Str} : ∀ (xs : List Str) (ws : List Value) (m : Str → Option Value), x ∉ xs → bindC kind (xs.zip ws) m x = m x
  | [], _, _, _ => by simp [bindC]
  | y :: xs, [], _, _ => by simp [bindC]
  | y :: xs, w :: ws, m, h => by
    rw [List.zip_cons_cons, bindC, bindC_other xs ws _ fun q => h (List.mem_cons_of_mem _ q)]
    have : x ≠ y := fun e => h (e ▸ List.mem_cons_self ..)
    split
    · rfl
    · simp [this]
theorem bindC_get {kind : Str → Option NameKind} : ∀ (xs : List Str) (ws : List Value) (m : Str → Option Value) (i : Nat) (x : Str) (v : Value), xs.Nodup → xs[i]? = some x → ws[i]? = some v → kind x ≠ some .local → bindC kind (xs.zip ws) m x = some v
  | [], _, _, _, _, _, _, e, _, _ => by simp at e
  | y :: xs, [], _, i, _, _, _, _, e, _ => by simp at e
  | y :: xs, w :: ws, m, 0, x, v, hn, e1, e2, hk => by
    simp at e1 e2; subst e1; subst e2
    rw [List.zip_cons_cons, bindC, bindC_other xs ws _ (List.nodup_cons.mp hn).1, if_neg hk]
    simp
  | y :: xs, w :: ws, m, i + 1, x, v, hn, e1, e2, hk => by
    rw [List.zip_cons_cons, bindC]
    exact bindC_get xs ws _ i x v (List.nodup_cons.mp hn).2 (by simpa using e1) (by simpa using e2) hk

section
variable {prog : Program} {w : World} {ht : Heap} {mg mb : Str → Option Value} {n : Nat} {orc : Orc}

/-- a def of the top stands -/
noncomputable def Stands (ht : Heap) (mg : Str → Option Value) (d : DefRec) : Prop :=
  ∃ a o pm code doc, mg d.name = some (.ref a) ∧ ht.get? a = some o ∧ o.data = .func (docDef d.name d.params d.body d.scope pm code doc) ∧ ht.CodeRec code d.name

theorem call_okC (C : Cx ht mg mb) {f : Fn} {d : DefRec} {fuel : Nat} {args : List V} {μ μ' : Store} {v : V} (T : Stands ht mg d) (chk : chkFn f d = true) (O : OrcOk prog w ht mg n orc) (hr : runFn orc fuel f args μ = some (v, μ')) :
    ∀ (A : Around) (s : Shared) (mt : Pl) (ws : List Value) (R : Result → Shared → Prop) (a : Addr), OkA (n + 1) A → mg (Str.ofString f.name) = some (.ref a) → SR ht mt μ s.heap → VRs mt s.heap args ws → Nx ht s mt μ' v (fun wv s' => R (.ok (.ret wv)) s') →
      codeAny (model prog w) A (.call (.ref a) ⟨ws, []⟩) R s := by
  intro A s mt ws R a' hA hg r va k
  obtain ⟨a, o, pm, code, doc, t1, t2, t3, t4⟩ := T
  unfold chkFn at chk
  obtain ⟨chk, c9⟩ := and2 chk
  obtain ⟨chk, c8⟩ := and2 chk
  obtain ⟨chk, c7⟩ := and2 chk
  obtain ⟨chk, c6⟩ := and2 chk
  obtain ⟨chk, c5⟩ := and2 chk
  obtain ⟨chk, c4⟩ := and2 chk
  obtain ⟨chk, c3⟩ := and2 chk
  obtain ⟨c1, c2⟩ := and2 chk
  have c1 : d.name = Str.ofString f.name := by simpa using c1
  have c3 : d.scope.kind = .function := of_decide_eq_true c3
  have c4 : d.scope.isCoroutine = false := by simpa using c4
  have c5 : d.scope.isGenerator = false := by simpa using c5
  have c6 : f.nm.Nodup := of_decide_eq_true c6
  have c8 : 1 ≤ f.params.length ∧ f.params.length ≤ 3 := of_decide_eq_true c8
  rw [List.all_eq_true] at c7
  have c7 : ∀ x ∈ f.nm, d.scope.names.lookup x = some .local ∨ d.scope.names.lookup x = some .cell := fun x hx => by simpa using c7 x hx
  obtain rfl : a = a' := by rw [c1, hg] at t1; cases t1; rfl
  unfold runFn at hr
  split at hr
  · rename_i hlen
    obtain ⟨⟨σ', μ₁, fl⟩, hx, hr⟩ := bnd hr
    cases hr
    have hws : ws.length = f.params.length := by rw [va.length, hlen]
    have hps : ∃ ps kd df, d.params = ⟨[], ps, none, [], kd, none, df⟩ ∧ ps.map (·.arg) = f.params.map Str.ofString := by
      split at c2
      · rename_i ps kd df e
        exact ⟨ps, kd, df, e, by simpa using c2⟩
      · cases c2
    obtain ⟨ps, kd, df, hps, hnames⟩ := hps
    have nmE : f.nm = f.params.map Str.ofString ++ f.locals.map Str.ofString := by unfold Fn.nm; rw [List.map_append]
    have hnd : (f.params.map Str.ofString).Nodup := by rw [nmE] at c6; exact (List.nodup_append.mp c6).1
    have hbind : bindArgs (docDef d.name d.params d.body d.scope pm code doc) ⟨ws, []⟩ = pure ((f.params.map Str.ofString).zip ws) := by
      rw [hps]
      exact bind_zip hnames hnd (by rw [List.length_map, hws])
    refine codeAny_call_cells (fd := docDef d.name d.params d.body d.scope pm code doc) (by have := hA.2.1; omega) (r.top _ _ t2) t3 (C.nolimit.keeps r.top) (t4.keeps r.top) rfl hbind rfl ?_ (fun s₁ X => ?_) c4 c5 c3
    · intro x hx
      have hm : x.1 ∈ f.nm := by
        rw [nmE]
        exact List.mem_append_left _ (List.of_mem_zip (a := x.1) (b := x.2) hx).1
      rcases c7 x.1 hm with q | q
      · exact .inl q
      · exact .inr ⟨q, cells_some _ _ q⟩
    · generalize hE : callEnvC (docDef d.name d.params d.body d.scope pm code doc) s.heap.objs.size a = env at X
      have eL : env.locals = s.heap.objs.size := by rw [← hE]; rfl
      have eC : env.cells = cellsFrom (s.heap.objs.size + 1) d.scope.names [] := by rw [← hE]; rfl
      have eS : env.scope = d.scope := by rw [← hE]; rfl
      have hnew : ∀ b : Nat, s.heap.objs.size ≤ b → s.heap.get? b = none := fun b hb => by
        cases e : s.heap.get? b with
        | none => rfl
        | some o => exact absurd (Heap.lt_size e) (Nat.not_lt.mpr hb)
      have ownNew : ∀ b, Own env b → s.heap.get? b = none := fun b hb => by
        rcases hb with q | ⟨x, q⟩
        · rw [q, eL]; exact hnew _ (Nat.le_refl _)
        · rw [eC] at q
          exact hnew _ (Nat.le_of_succ_le (cells_ge _ _ _ _ (mem_of_lookup q)))
      have he : EOk ht d.scope f.nm env := {
        scope := eS
        kind := c3
        glob := by rw [← hE]; rfl
        bi := by rw [← hE]; rfl
        nodup := c6
        kinds := fun x hx => (c7 x hx).imp id fun q => ⟨.inl q, by rw [eC]; exact cells_some _ _ q⟩
        inj := fun x y c h1 h2 => by
          rw [eC] at h1 h2
          exact cells_inj _ _ x y c (mem_of_lookup h1) (mem_of_lookup h2)
        new := fun b hb => r.top_none (ownNew b hb) }
      have keep := X.toInCall.keep
      obtain ⟨h₁, tk₁, rfl⟩ := X.toInCall.same
      have kOf : ∀ x, env.kindOf x = d.scope.names.lookup x := he.kindOf
      have X₀ : Ext None₀ mt s.heap mt h₁ := .of_keep keep
      have va₁ := va.up X₀
      have atArg : ∀ (i : Nat) (x : Str) (u : V), f.nm[i]? = some x → (args ++ f.locals.map fun _ => V.unb)[i]? = some u → u = .unb ∨ ∃ mv, (f.params.map Str.ofString)[i]? = some x ∧ ws[i]? = some mv ∧ VR mt h₁ u mv := fun i x u g1 g2 => by
        by_cases hi : i < args.length
        · rw [List.getElem?_append_left hi] at g2
          rw [nmE, List.getElem?_append_left (by rw [List.length_map, ← hlen]; exact hi)] at g1
          obtain ⟨mv, q1, q2⟩ := va₁.get g2
          exact .inr ⟨mv, g1, q1, q2⟩
        · rw [List.getElem?_append_right (by omega)] at g2
          obtain ⟨_, _, q⟩ := List.mem_map.mp (List.mem_of_getElem? g2)
          exact .inl q.symm
      have fr : FR f.nm env mt (args ++ f.locals.map fun _ => V.unb) h₁ := {
        len := by rw [nmE, List.length_append, List.length_append, List.length_map, List.length_map, List.length_map, hlen]
        ns := ⟨_, X.toInCall.ns, fun i x u g1 g2 g3 => (atArg i x u g1 g2).imp id fun ⟨mv, q1, q2, q3⟩ => ⟨mv, bindL_get _ _ _ i x mv hnd q1 q2 g3, q3⟩⟩
        cl := fun i x u g1 g2 g3 => (atArg i x u g1 g2).imp id fun ⟨mv, q1, q2, q3⟩ => by
          have hc : d.scope.names.lookup x = some .cell := (c7 x (List.mem_of_getElem? g1)).resolve_left fun q => g3 (by rw [kOf]; exact q)
          have hs : (env.cells.lookup x).isSome = true := by rw [eC]; exact cells_some _ _ hc
          obtain ⟨c, hc⟩ := Option.isSome_iff_exists.mp hs
          have := X.cell x c hc
          rw [bindC_get _ _ _ i x mv hnd q1 q2 g3] at this
          exact ⟨c, mv, hc, this, q3⟩
        cs := fun x c e => ⟨_, X.cell x c e⟩ }
      have hA' : OkA n (A.deeper env) := ⟨hA.1, by show A.depth + 1 + n < recursionLimit; have := hA.2.1; omega, by show A.units + 3 + 8 * n + 100 < cLine; have := hA.2.2; omega⟩
      refine (soundS C O fuel f.body d.scope f.nm env (A.deeper env) _ μ σ' _ fl _ mt _ _ he hA' hx (r.up keep) fr fun fv h' tk mt' z x' r' f' => ?_).2 d.body c9
      have E' : Ext None₀ mt s.heap mt' h' := X₀.after x' ownNew
      cases fl with
      | next =>
        obtain rfl : fv = .next := z
        exact k .none h' tk mt' E' r' (by rw [retOf, VR])
      | ret u =>
        obtain ⟨wv, rfl, hv⟩ := z
        exact k wv h' tk mt' E' r' hv
  · cases hr

theorem call_ok (C : Cx ht mg mb) {f : Fn} {d : DefRec} {fuel : Nat} {args : List V} {μ μ' : Store} {v : V} (T : Stands ht mg d) (chk : chkFn f d = true) (O : OrcOk prog w ht mg n orc) (hr : runFn orc fuel f args μ = some (v, μ')) :
    CallOk prog w ht mg (n + 1) f.name args μ v μ' := by
  intro A s mt ws Q Er a hA hg r va k
  exact wpAny_call (call_okC C T chk O hr A s mt ws _ a hA hg r va k)

/-- what is foreseen of the calls, level by level -/
noncomputable def orcN (fns : List Fn) (fuel : Nat) : Nat → Orc
  | 0 => fun _ _ _ => none
  | n + 1 => fun f args μ => match fns.find? (fun g => g.name == f) with
    | some g => runFn (orcN fns fuel n) fuel g args μ
    | none => none

theorem orcN_ok (C : Cx ht mg mb) {fns : List Fn} {fuel : Nat} {ds : List DefRec} (T : ∀ d ∈ ds, Stands ht mg d) (chk : (fns.all fun f => ds.any fun d => chkFn f d) = true) : ∀ n, OrcOk prog w ht mg n (orcN fns fuel n)
  | 0 => fun f args μ v μ' h => by cases h
  | n + 1 => fun f args μ v μ' h => by
    unfold orcN at h
    split at h
    · rename_i g hg
      have hn : g.name = f := by simpa using List.find?_some hg
      rw [List.all_eq_true] at chk
      have := chk g (List.mem_of_find?_eq_some hg)
      rw [List.any_eq_true] at this
      obtain ⟨d, hd, c⟩ := this
      subst hn
      refine ⟨?_, call_ok C (T d hd) c (orcN_ok C T (by rw [List.all_eq_true]; exact chk) n) h⟩
      obtain ⟨a, o, pm, code, doc, t1, t2, t3, t4⟩ := T d hd
      have c1 : d.name = Str.ofString g.name := by
        unfold chkFn at c
        simp only [Bool.and_eq_true] at c
        simpa using c.1.1.1.1.1.1.1.1
      exact ⟨a, o, _, by rw [← c1]; exact t1, t2, t3⟩
    · cases h

end
end Mine

namespace Mine
open PySem
set_option maxRecDepth 100000
set_option autoImplicit false

noncomputable def fgcd : Fn where
  name := "gcd"
  params := ["a", "b"]
  locals := []
  body := (.seq (.asgR [0, 1] (.tup2 (.abs (.var 0)) (.abs (.var 1)))) (.seq (.whileS (.cmp .ne (.var 1) (.int 0)) (.seq (.asgR [0, 1] (.tup2 (.var 1) (.bin .fmod (.var 0) (.var 1)))) .skip)) (.seq (.ret (.var 0)) .skip)))
noncomputable def fgcd_all : Fn where
  name := "gcd_all"
  params := ["numbers"]
  locals := ["found", "number"]
  body := (.seq (.asg 1 (.int 0)) (.seq (.forS [2] .plain (.var 0) .nil (.seq (.asg 1 (.call2 "gcd" (.var 1) (.var 2))) .skip)) (.seq (.ret (.var 1)) .skip)))
noncomputable def fztrim : Fn where
  name := "ztrim"
  params := ["row"]
  locals := ["size"]
  body := (.seq (.asg 1 (.len (.var 0))) (.seq (.whileS (.and (.cmp .gt (.var 1) (.int 0)) (.cmp .eq (.item (.var 0) (.bin .sub (.var 1) (.int 1))) (.int 0))) (.seq (.aug 1 .sub (.int 1)) .skip)) (.seq (.ret (.lst (.upto (.var 0) (.var 1)))) .skip)))
noncomputable def fzdegree : Fn where
  name := "zdegree"
  params := ["p"]
  locals := []
  body := (.seq (.ret (.bin .sub (.len (.var 0)) (.int 1))) .skip)
noncomputable def fzlead : Fn where
  name := "zlead"
  params := ["p"]
  locals := []
  body := (.seq (.ret (.ite (.cmp .gt (.len (.var 0)) (.int 0)) (.item (.var 0) (.neg (.int 1))) (.int 0))) .skip)
noncomputable def fzadd : Fn where
  name := "zadd"
  params := ["a", "b"]
  locals := ["size"]
  body := (.seq (.asg 2 (.max (.len (.var 0)) (.len (.var 1)))) (.seq (.ret (.call1 "ztrim" (.comp false false .plain [0, 1] (.range1 (.var 2)) .nil (.bool true) (.bin .add (.ite (.cmp .lt (.var 2) (.len (.var 0))) (.item (.var 0) (.var 2)) (.int 0)) (.ite (.cmp .lt (.var 2) (.len (.var 1))) (.item (.var 1) (.var 2)) (.int 0)))))) .skip))
noncomputable def fzneg : Fn where
  name := "zneg"
  params := ["p"]
  locals := []
  body := (.seq (.ret (.comp false false .plain [] (.var 0) .nil (.bool true) (.neg (.var 0)))) .skip)
noncomputable def fzsub : Fn where
  name := "zsub"
  params := ["a", "b"]
  locals := []
  body := (.seq (.ret (.call2 "zadd" (.var 0) (.call1 "zneg" (.var 1)))) .skip)
noncomputable def fzscale : Fn where
  name := "zscale"
  params := ["p", "k"]
  locals := []
  body := (.seq (.ret (.ite (.cmp .ne (.var 1) (.int 0)) (.comp false false .plain [1] (.var 0) .nil (.bool true) (.bin .mul (.var 1) (.var 0))) .nil)) .skip)
noncomputable def fzraise : Fn where
  name := "zraise"
  params := ["p", "many"]
  locals := []
  body := (.seq (.ret (.ite (.cmp .gt (.len (.var 0)) (.int 0)) (.bin .add (.bin .mul (.single (.int 0)) (.var 1)) (.lst (.var 0))) .nil)) .skip)
noncomputable def fzcontent : Fn where
  name := "zcontent"
  params := ["p"]
  locals := []
  body := (.seq (.ret (.call1 "gcd_all" (.var 0))) .skip)
noncomputable def fzderive : Fn where
  name := "zderive"
  params := ["p"]
  locals := []
  body := (.seq (.ret (.from1 (.comp false true .enum [] (.var 0) .nil (.bool true) (.bin .mul (.var 1) (.var 0))))) .skip)
noncomputable def fcheck_bottom : Fn where
  name := "check_bottom"
  params := ["p"]
  locals := []
  body := (.seq (.ifS (.cmp .eq (.len (.var 0)) (.int 0)) .stop .skip) .skip)
noncomputable def fpseudo : Fn where
  name := "pseudo"
  params := ["a", "b"]
  locals := ["many", "rest", "found", "left", "first", "number", "power", "more"]
  body := (.seq (.expr (.call1 "check_bottom" (.var 1))) (.seq (.asg 2 (.max (.int 0) (.bin .add (.bin .sub (.len (.var 0)) (.len (.var 1))) (.int 1)))) (.seq (.asgT [3, 4, 5, 6] (.tup4 (.lst (.var 0)) .nil (.var 2) (.call1 "zlead" (.var 1)))) (.seq (.whileS (.cmp .ge (.len (.var 3)) (.len (.var 1))) (.seq (.asgR [7, 8] (.tup2 (.item (.var 3) (.neg (.int 1))) (.bin .sub (.len (.var 3)) (.len (.var 1))))) (.seq (.asg 4 (.call2 "zsub" (.call2 "zscale" (.var 4) (.var 6)) (.call2 "zraise" (.single (.neg (.var 7))) (.var 8)))) (.seq (.asg 3 (.call2 "zsub" (.call2 "zscale" (.var 3) (.var 6)) (.call2 "zraise" (.call2 "zscale" (.var 1) (.var 7)) (.var 8)))) (.seq (.aug 5 .sub (.int 1)) .skip))))) (.seq (.asg 9 (.bin .pow (.var 6) (.var 5))) (.seq (.ret (.tup3 (.call2 "zscale" (.var 4) (.var 9)) (.call2 "zscale" (.var 3) (.var 9)) (.var 2))) .skip))))))
noncomputable def fdivided : Fn where
  name := "divided"
  params := ["p", "number"]
  locals := []
  body := (.seq (.ret (.comp false false .plain [1] (.var 0) .nil (.bool true) (.bin .fdiv (.var 1) (.var 0)))) .skip)
noncomputable def ffull_rest : Fn where
  name := "full_rest"
  params := ["a", "b"]
  locals := ["quotient", "rest", "power", "lacking"]
  body := (.seq (.asgT [2, 3, 4] (.call2 "pseudo" (.var 0) (.var 1))) (.seq (.asg 5 (.bin .sub (.bin .add (.bin .sub (.call1 "zdegree" (.var 0)) (.call1 "zdegree" (.var 1))) (.int 1)) (.var 4))) (.seq (.ret (.comp false false .plain [1, 5] (.var 3) .nil (.bool true) (.bin .mul (.var 2) (.bin .pow (.call1 "zlead" (.var 0)) (.var 1))))) .skip)))
noncomputable def frow_resultant : Fn where
  name := "row_resultant"
  params := ["a", "b", "sign"]
  locals := ["g", "h", "gap", "rest", "many"]
  body := (.seq (.asgT [3, 4] (.tup2 (.int 1) (.int 1))) (.seq (.whileS (.cmp .gt (.call1 "zdegree" (.var 1)) (.int 0)) (.seq (.asg 5 (.bin .sub (.call1 "zdegree" (.var 0)) (.call1 "zdegree" (.var 1)))) (.seq (.ifS (.and (.cmp .eq (.bin .fmod (.call1 "zdegree" (.var 0)) (.int 2)) (.int 1)) (.cmp .eq (.bin .fmod (.call1 "zdegree" (.var 1)) (.int 2)) (.int 1))) (.seq (.asg 2 (.neg (.var 2))) .skip) .skip) (.seq (.asg 6 (.call2 "full_rest" (.var 0) (.var 1))) (.seq (.asgR [0, 1] (.tup2 (.var 1) (.call2 "divided" (.var 6) (.bin .mul (.var 3) (.bin .pow (.var 4) (.var 5)))))) (.seq (.asg 3 (.call1 "zlead" (.var 0))) (.seq (.ifS (.cmp .gt (.var 5) (.int 0)) (.seq (.asg 4 (.bin .fdiv (.bin .pow (.var 3) (.var 5)) (.bin .pow (.var 4) (.bin .sub (.var 5) (.int 1))))) .skip) .skip) .skip))))))) (.seq (.ifS (.cmp .eq (.var 1) .nil) (.seq (.ret (.int 0)) .skip) .skip) (.seq (.asg 7 (.call1 "zdegree" (.var 0))) (.seq (.ret (.bin .mul (.var 2) (.ite (.cmp .gt (.var 7) (.int 0)) (.bin .fdiv (.bin .pow (.item (.var 1) (.int 0)) (.var 7)) (.bin .pow (.var 4) (.bin .sub (.var 7) (.int 1)))) (.int 1)))) .skip)))))
noncomputable def fresultant : Fn where
  name := "resultant"
  params := ["a", "b"]
  locals := ["sign", "one", "other", "shared"]
  body := (.seq (.ifS (.or (.cmp .eq (.var 0) .nil) (.cmp .eq (.var 1) .nil)) (.seq (.ret (.int 0)) .skip) .skip) (.seq (.asg 2 (.int 1)) (.seq (.ifS (.cmp .lt (.call1 "zdegree" (.var 0)) (.call1 "zdegree" (.var 1))) (.seq (.asgR [0, 1] (.tup2 (.var 1) (.var 0))) (.seq (.asg 2 (.ite (.and (.cmp .eq (.bin .fmod (.call1 "zdegree" (.var 0)) (.int 2)) (.int 1)) (.cmp .eq (.bin .fmod (.call1 "zdegree" (.var 1)) (.int 2)) (.int 1))) (.neg (.int 1)) (.int 1))) .skip)) .skip) (.seq (.asgR [3, 4] (.tup2 (.call1 "zcontent" (.var 0)) (.call1 "zcontent" (.var 1)))) (.seq (.asg 5 (.bin .mul (.bin .pow (.var 3) (.call1 "zdegree" (.var 1))) (.bin .pow (.var 4) (.call1 "zdegree" (.var 0))))) (.seq (.ret (.bin .mul (.var 5) (.call3 "row_resultant" (.call2 "divided" (.var 0) (.var 3)) (.call2 "divided" (.var 1) (.var 4)) (.var 2)))) .skip))))))
noncomputable def fdiscriminant : Fn where
  name := "discriminant"
  params := ["f"]
  locals := ["many", "found"]
  body := (.seq (.asg 1 (.call1 "zdegree" (.var 0))) (.seq (.ifS (.cmp .lt (.var 1) (.int 1)) .stop .skip) (.seq (.asg 2 (.bin .fdiv (.call2 "resultant" (.var 0) (.call1 "zderive" (.var 0))) (.call1 "zlead" (.var 0)))) (.seq (.ret (.ite (.cmp .eq (.bin .fmod (.bin .fdiv (.bin .mul (.var 1) (.bin .sub (.var 1) (.int 1))) (.int 2)) (.int 2)) (.int 1)) (.neg (.var 2)) (.var 2))) .skip))))
noncomputable def fpivot_row : Fn where
  name := "pivot_row"
  params := ["a", "step"]
  locals := ["row"]
  body := (.seq (.forS [2] .plain (.range2 (.var 1) (.len (.var 0))) .nil (.seq (.ifS (.cmp .ne (.item (.item (.var 0) (.var 2)) (.var 1)) (.int 0)) (.seq (.ret (.var 2)) .skip) .skip) .skip)) (.seq (.ret .none) .skip))
noncomputable def fbareiss_step : Fn where
  name := "bareiss_step"
  params := ["a", "step", "ahead"]
  locals := ["lead", "row", "first", "column"]
  body := (.seq (.asg 3 (.item (.item (.var 0) (.var 1)) (.var 1))) (.seq (.forS [4] .plain (.range2 (.bin .add (.var 1) (.int 1)) (.len (.var 0))) .nil (.seq (.asg 5 (.item (.item (.var 0) (.var 4)) (.var 1))) (.seq (.forS [6] .plain (.range2 (.bin .add (.var 1) (.int 1)) (.len (.var 0))) .nil (.seq (.setI (.item (.var 0) (.var 4)) (.var 6) (.bin .fdiv (.bin .sub (.bin .mul (.item (.item (.var 0) (.var 4)) (.var 6)) (.var 3)) (.bin .mul (.var 5) (.item (.item (.var 0) (.var 1)) (.var 6)))) (.var 2))) .skip)) (.seq (.setI (.item (.var 0) (.var 4)) (.var 1) (.int 0)) .skip)))) .skip))
noncomputable def fdeterminant : Fn where
  name := "determinant"
  params := ["a"]
  locals := ["found", "sign", "ahead", "step", "row"]
  body := (.seq (.ifS (.cmp .ne (.comp false false .plain [0] (.var 0) .nil (.cmp .ne (.len (.var 1)) (.len (.var 0))) (.var 1)) .nil) .stop .skip) (.seq (.asgR [1, 2, 3] (.tup3 (.comp true false .plain [] (.var 0) .nil (.bool true) (.mlst (.var 0))) (.int 1) (.int 1))) (.seq (.forS [4] .plain (.range1 (.len (.var 0))) .nil (.seq (.asg 5 (.call2 "pivot_row" (.var 1) (.var 4))) (.seq (.ifS (.isNone (.var 5)) (.seq (.ret (.int 0)) .skip) .skip) (.seq (.ifS (.cmp .ne (.var 5) (.var 4)) (.seq (.swap (.var 1) (.var 5) (.var 1) (.var 4) (.tup2 (.item (.var 1) (.var 4)) (.item (.var 1) (.var 5)))) (.seq (.asg 2 (.neg (.var 2))) .skip)) .skip) (.seq (.expr (.call3 "bareiss_step" (.var 1) (.var 4) (.var 3))) (.seq (.asg 3 (.item (.item (.var 1) (.var 4)) (.var 4))) .skip)))))) (.seq (.ret (.bin .mul (.var 2) (.var 3))) .skip))))
noncomputable def f_law_take : Fn where
  name := "_law_take"
  params := ["box", "many"]
  locals := []
  body := (.seq (.setI (.var 0) (.int 1) (.bin .add (.item (.var 0) (.int 1)) (.int 1))) (.seq (.ifS (.cmp .ne (.item (.var 0) (.int 0)) .nil) (.seq (.ret (.bin .fmod (.pop0 (.item (.var 0) (.int 0))) (.var 1))) .skip) .skip) (.seq (.ret (.bin .fmod (.bin .add (.bin .mul (.int 5) (.item (.var 0) (.int 1))) (.bin .fdiv (.item (.var 0) (.int 1)) (.int 3))) (.var 1))) .skip)))
noncomputable def f_law_spread : Fn where
  name := "_law_spread"
  params := ["numbers"]
  locals := ["found", "at", "one", "other"]
  body := (.seq (.asg 1 (.int 1)) (.seq (.forS [2, 3] .enum (.var 0) .nil (.seq (.forS [4] .plain (.upto (.var 0) (.var 2)) .nil (.seq (.asg 1 (.bin .mul (.var 1) (.bin .sub (.var 3) (.var 4)))) .skip)) .skip)) (.seq (.ret (.var 1)) .skip)))
noncomputable def f_law_rooted : Fn where
  name := "_law_rooted"
  params := ["numbers"]
  locals := ["found", "number"]
  body := (.seq (.asg 1 (.single (.int 1))) (.seq (.forS [2] .plain (.var 0) .nil (.seq (.asgC 1 (.comp false true .zip [2] (.bin .add (.single (.int 0)) (.var 1)) (.bin .add (.var 1) (.single (.int 0))) (.bool true) (.bin .sub (.var 1) (.bin .mul (.var 0) (.var 2))))) .skip)) (.seq (.ret (.var 1)) .skip)))
noncomputable def f_law_powers : Fn where
  name := "_law_powers"
  params := ["numbers", "powers"]
  locals := []
  body := (.seq (.ret (.call1 "determinant" (.comp false false .plain [1] (.var 0) .nil (.bool true) (.comp false false .plain [1] (.var 0) .nil (.bool true) (.bin .pow (.var 0) (.var 1)))))) .skip)
noncomputable def flaw : Fn where
  name := "law"
  params := ["script"]
  locals := ["box", "many", "some", "gone", "others", "f", "due", "sign", "whole"]
  body := (.seq (.asg 1 (.mpair (.comp true false .plain [] (.upto (.var 0) (.int 10)) .nil (.bool true) (.toInt (.var 0))) (.int 0))) (.seq (.asg 2 (.bin .sub (.int 4) (.call2 "_law_take" (.var 1) (.int 2)))) (.seq (.asgC 3 (.comp false false .plain [1] (.range1 (.var 2)) .nil (.bool true) (.bin .sub (.call2 "_law_take" (.var 0) (.int 9)) (.int 4)))) (.seq (.asg 4 (.call2 "_law_take" (.var 1) (.bin .add (.var 2) (.int 1)))) (.seq (.asgC 5 (.comp false false .plain [1] (.range1 (.int 2)) .nil (.bool true) (.bin .sub (.call2 "_law_take" (.var 0) (.int 13)) (.int 6)))) (.seq (.asgR [6, 7] (.tup2 (.call1 "_law_rooted" (.var 3)) (.call1 "_law_spread" (.var 3)))) (.seq (.ifS (.or (.cmp .ne (.call2 "_law_powers" (.var 3) (.range1 (.var 2))) (.var 7)) (.cmp .ne (.call1 "discriminant" (.var 6)) (.bin .mul (.var 7) (.var 7)))) (.seq (.ret (.bool false)) .skip) .skip) (.seq (.asg 8 (.bin .sub (.int 1) (.bin .mul (.int 2) (.bin .fmod (.bin .sub (.var 2) (.var 4)) (.int 2))))) (.seq (.ifS (.cmp .ne (.call2 "_law_powers" (.var 3) (.comp false false .plain [4] (.range1 (.bin .add (.var 2) (.int 1))) .nil (.cmp .ne (.var 1) (.var 0)) (.var 1))) (.bin .mul (.bin .mul (.var 7) (.var 8)) (.item (.var 6) (.var 4)))) (.seq (.ret (.bool false)) .skip) .skip) (.seq (.asg 9 (.call2 "_law_powers" (.bin .add (.var 3) (.var 5)) (.range1 (.bin .add (.var 2) (.int 2))))) (.seq (.ret (.cmp .eq (.var 9) (.bin .mul (.bin .mul (.var 7) (.call2 "_law_powers" (.var 5) (.range1 (.int 2)))) (.call2 "resultant" (.var 6) (.call1 "_law_rooted" (.var 5)))))) .skip)))))))))))
noncomputable def fns : List Fn := [fgcd, fgcd_all, fztrim, fzdegree, fzlead, fzadd, fzneg, fzsub, fzscale, fzraise, fzcontent, fzderive, fcheck_bottom, fpseudo, fdivided, ffull_rest, frow_resultant, fresultant, fdiscriminant, fpivot_row, fbareiss_step, fdeterminant, f_law_take, f_law_spread, f_law_rooted, f_law_powers, flaw]

end Mine

namespace Mine
open PySem PySem.Calls PyProof.Rows PySem.W
set_option maxRecDepth 100000
set_option autoImplicit false

noncomputable def fuel : Nat := 1000
/-- what is left to show: plain Lean -/
noncomputable def LawTrue (l : List Int) : Prop := ∃ μ', runFn (orcN fns fuel 12) fuel flaw [.list (l.map V.int)] [] = some (.bool true, μ')

theorem vrs_ints {M : Pl} {h : Heap} : ∀ {ws : List Value} {l : List Int}, IntsAre ws l → VRs M h (l.map V.int) ws
  | _, _, .nil => VRs.nil
  | _, _, .cons n t r => VRs.cons (by rw [VR]; exact ⟨t, rfl⟩) (vrs_ints r)

theorem law_walk {prog : Program} {w : World} {s : Shared} {mg mb : Str → Option Value} {ds : List DefRec} {l : List Int} {ws : List Value} {a fa : Addr} {R : Result → Shared → Prop}
    (C : Cx s.heap mg mb) (T : ∀ d ∈ ds, Stands s.heap mg d) (chk : (fns.all fun f => ds.any fun d => chkFn f d) = true) (hg : mg (Str.ofString "law") = some (.ref fa)) (hp : s.heap.PlainList a ws.toArray) (hI : IntsAre ws l) (L : LawTrue l)
    (k : ∀ h' tk, (∀ b o, s.heap.get? b = some o → h'.get? b = some o) → R (.ok (.ret (.bool true))) { s with heap := h', toks := tk }) : codeAny (model prog w) callerA (.call (.ref fa) ⟨[.ref a], []⟩) R s := by
  obtain ⟨μ', hr⟩ := L
  have chk' := chk
  rw [List.all_eq_true] at chk'
  have := chk' flaw (by simp [fns])
  rw [List.any_eq_true] at this
  obtain ⟨d, hd, c⟩ := this
  refine call_okC (n := 12) (f := flaw) C (T d hd) c (orcN_ok C T chk 12) hr callerA s ⟨[], []⟩ _ R fa ⟨rfl, by decide, by decide⟩ hg ?_ (VRs.one ?_) ?_
  · exact ⟨fun _ _ e => e, List.Pairwise.nil, rfl, fun k a xs e => by simp at e, fun a ha => by simp at ha, fun a ha => by simp at ha⟩
  · rw [VR]
    exact ⟨a, ws, rfl, ⟨by simp, by simp⟩, hp, vrs_ints hI⟩
  · intro wv h' tk mt' x r' v'
    rw [VR] at v'
    subst v'
    exact k h' tk fun b o e => x.keep b o e (by simp) id

end Mine

namespace Mine
open PySem
set_option maxRecDepth 100000
set_option autoImplicit false

noncomputable def zl (l : List Int) : V := .list (l.map V.int)
noncomputable abbrev O : Nat → Orc := orcN fns fuel

theorem lim_eq : lim = 1000000 := rfl
theorem fuel_eq : fuel = 1000 := rfl

theorem itemV_last {l : List Int} {x : Int} (h : l.length < 1000) : itemV ((l ++ [x]).map V.int) (-1) = some (.int x) := by
  have h' : (l ++ [x]).length ≤ lim := by rw [lim_eq]; simp; omega
  unfold itemV
  rw [if_pos (by simpa using h'), if_neg (by decide), if_pos (by simp; omega)]
  have : (-1 + (((l ++ [x]).map V.int).length : Int)).toNat = l.length := by simp; omega
  rw [this]
  simp
theorem itemV_get {l : List Int} {i : Nat} (h : i < l.length) (hl : l.length ≤ 1000) : itemV (l.map V.int) (i : Int) = some (.int (l.getD i 0)) := by
  unfold itemV
  rw [if_pos (by simp [lim_eq]; omega), if_pos (by omega)]
  simp [h]

noncomputable def lead (l : List Int) : Int := l.getLastD 0

noncomputable def trimL : List Int → List Int
  | [] => []
  | x :: r => match trimL r with
    | [] => if x = 0 then [] else [x]
    | y :: s => x :: y :: s

theorem trimL_append (x : Int) : ∀ l : List Int, trimL (l ++ [x]) = if x = 0 then trimL l else l ++ [x]
  | [] => by simp [trimL]
  | y :: l => by
    have ih := trimL_append x l
    rw [List.cons_append, trimL, ih]
    by_cases h : x = 0
    · simp [h, trimL]
    · simp only [h, if_false]
      cases l with
      | nil => rfl
      | cons z r => rfl

/-- where the zeros at the end begin -/
noncomputable def tsz (l : List Int) : Nat → Nat
  | 0 => 0
  | k + 1 => if l.getD k 0 = 0 then tsz l k else k + 1

theorem tsz_le (l : List Int) : ∀ k, tsz l k ≤ k
  | 0 => Nat.le_refl _
  | k + 1 => by
    rw [tsz]
    split
    · exact Nat.le_succ_of_le (tsz_le l k)
    · exact Nat.le_refl _
theorem tsz_take (l : List Int) : ∀ k, k ≤ l.length → l.take (tsz l k) = trimL (l.take k)
  | 0, _ => by simp [tsz, trimL]
  | k + 1, h => by
    have ih := tsz_take l k (by omega)
    have e : l.take (k + 1) = l.take k ++ [l.getD k 0] := by
      rw [List.take_succ_eq_append_getElem (by omega)]
      simp [List.getElem?_eq_getElem (show k < l.length by omega)]
    rw [e, trimL_append, tsz]
    split
    · exact ih
    · exact e

noncomputable def addL : List Int → List Int → List Int
  | [], b => b
  | a, [] => a
  | x :: a, y :: b => (x + y) :: addL a b
theorem addL_len : ∀ a b : List Int, (addL a b).length = max a.length b.length
  | [], b => by simp [addL]
  | x :: a, [] => by simp [addL]
  | x :: a, y :: b => by simp only [addL, List.length_cons, addL_len a b]; omega
theorem addL_get : ∀ (a b : List Int) (i : Nat), (addL a b).getD i 0 = a.getD i 0 + b.getD i 0
  | [], b, i => by simp [addL]
  | x :: a, [], i => by simp [addL]
  | x :: a, y :: b, 0 => by simp [addL]
  | x :: a, y :: b, i + 1 => by simpa [addL] using addL_get a b i
theorem addL_range (a b : List Int) : (List.range (max a.length b.length)).map (fun i => a.getD i 0 + b.getD i 0) = addL a b := by
  apply List.ext_getElem
  · simp [addL_len]
  · intro i h1 h2
    have := addL_get a b i
    rw [List.getD_eq_getElem?_getD, List.getElem?_eq_getElem h2] at this
    simp only [List.getElem_map, List.getElem_range]
    exact this.symm

/-- a comprehension's turn -/
noncomputable def compF (orc : Orc) (two : Bool) (caps : List Nat) (cond elt : E) (σ : List V) : V → Store → Option (Option V × Store) := fun it μ => do
  let t ← tgtV two it
  let (c, μ) ← ev orc cond ((caps.map fun i => σ.getD i .unb) ++ t) μ
  match c with
  | .bool true => do
    let (y, μ) ← ev orc elt ((caps.map fun i => σ.getD i .unb) ++ t) μ
    some (some y, μ)
  | .bool false => some (Option.none, μ)
  | _ => Option.none

theorem ev_comp_eq {orc : Orc} {mu two : Bool} {sk : Sk} {caps : List Nat} {src src2 cond elt : E} {σ : List V} {μ : Store} : ev orc (.comp mu two sk caps src src2 cond elt) σ μ = (do
    let (x, μ) ← ev orc src σ μ
    let (x', μ) ← ev orc src2 σ μ
    let its ← srcV sk x x'
    let (ys, μ) ← compL (compF orc two caps cond elt σ) its μ
    mkL mu ys μ) := by rw [ev]; rfl

theorem compL_mapM {α : Type} {f : V → Store → Option (Option V × Store)} {μ : Store} {g : α → Option Int} {inj : α → V} (hf : ∀ x y, g x = some y → f (inj x) μ = some (some (.int y), μ)) :
    ∀ (l : List α) (r : List Int), l.mapM g = some r → compL f (l.map inj) μ = some (r.map V.int, μ)
  | [], r, h => by simp at h; subst h; rfl
  | x :: l, r, h => by
    rw [List.mapM_cons] at h
    obtain ⟨y, h1, h⟩ := bnd h
    obtain ⟨s, h2, h⟩ := bnd h
    cases h
    rw [List.map_cons, compL, hf x y h1]
    simp [compL_mapM hf l s h2]

theorem mapM_some {α β : Type} (g : α → β) : ∀ l : List α, l.mapM (fun x => some (g x)) = some (l.map g)
  | [] => rfl
  | x :: l => by rw [List.mapM_cons, mapM_some g l]; rfl

theorem turns_ints {l : List Int} (h : l.length ≤ 1000) : srcV .plain (zl l) (.list []) = some (l.map V.int) := by
  simp [srcV, turns?, zl, lim_eq]; omega
theorem turns_rng {m : Nat} (h : m ≤ 1000) (lo : Int) (hl : -1000 ≤ lo ∧ lo ≤ 1000) : srcV .plain (.rng lo (lo + m)) (.list []) = some ((List.range m).map fun i : Nat => V.int (lo + (i : Int))) := by
  have : (lo + (m : Int) - lo).toNat = m := by omega
  simp only [srcV, turns?, this]
  rw [if_pos (by rw [lim_eq]; omega)]

section
variable {orc : Orc} {F : Nat} {σ σ₁ σ' : List V} {μ μ₁ μ' : Store} {fl : Fl} {v : V}
theorem ex_seq {a b : S} (h : ex orc F a σ μ = some (σ₁, μ₁, .next)) : ex orc F (.seq a b) σ μ = ex orc F b σ₁ μ₁ := by
  rw [ex, h]; rfl
theorem ex_seq_ret {a b : S} (h : ex orc F a σ μ = some (σ₁, μ₁, .ret v)) : ex orc F (.seq a b) σ μ = some (σ₁, μ₁, .ret v) := by
  rw [ex, h]; rfl
theorem ex_skip : ex orc F .skip σ μ = some (σ, μ, .next) := by rw [ex]
theorem ex_asg {i : Nat} {e : E} (h : ev orc e σ μ = some (v, μ₁)) (hi : i < σ.length) : ex orc F (.asg i e) σ μ = some (σ.set i v, μ₁, .next) := by
  rw [ex, h]; simp [setAll, hi]
theorem ex_asgC {i : Nat} {e : E} (h : ev orc e σ μ = some (v, μ₁)) (hi : i < σ.length) : ex orc F (.asgC i e) σ μ = some (σ.set i v, μ₁, .next) := by
  rw [ex, h]; simp [setAll, hi]
theorem ex_asgT {is : List Nat} {e : E} {vs : List V} (h : ev orc e σ μ = some (.tup vs, μ₁)) (hs : setAll is vs σ = some σ₁) : ex orc F (.asgT is e) σ μ = some (σ₁, μ₁, .next) := by
  rw [ex, h]; simp [hs]
theorem ex_asgR {is : List Nat} {e : E} {vs : List V} (h : ev orc e σ μ = some (.tup vs, μ₁)) (hs : setAll is.reverse vs.reverse σ = some σ₁) : ex orc F (.asgR is e) σ μ = some (σ₁, μ₁, .next) := by
  rw [ex, h]; simp [hs]
theorem ex_ret {e : E} (h : ev orc e σ μ = some (v, μ₁)) : ex orc F (.ret e) σ μ = some (σ, μ₁, .ret v) := by
  rw [ex, h]; rfl
theorem ex_expr {e : E} (h : ev orc e σ μ = some (.none, μ₁)) : ex orc F (.expr e) σ μ = some (σ, μ₁, .next) := by
  rw [ex, h]; rfl
theorem ex_if {c : E} {a b : S} {t : Bool} (h : ev orc c σ μ = some (.bool t, μ₁)) : ex orc F (.ifS c a b) σ μ = if t then ex orc F a σ μ₁ else ex orc F b σ μ₁ := by
  rw [ex, h]; cases t <;> rfl
theorem ex_if_t {c : E} {a b : S} {t : Bool} (h : ev orc c σ μ = some (.bool t, μ₁)) (ht : t = true) : ex orc F (.ifS c a b) σ μ = ex orc F a σ μ₁ := by
  rw [ex_if h, ht]; rfl
theorem ex_if_f {c : E} {a b : S} {t : Bool} (h : ev orc c σ μ = some (.bool t, μ₁)) (ht : t = false) : ex orc F (.ifS c a b) σ μ = ex orc F b σ μ₁ := by
  rw [ex_if h, ht]; rfl
theorem ex_while {c : E} {b : S} {r : Option (List V × Store × Fl)} (h : whileL (fun σ μ => ev orc c σ μ) (fun σ μ => ex orc F b σ μ) F σ μ = r) : ex orc F (.whileS c b) σ μ = r := by
  rw [ex, h]
theorem ex_for {tgt : List Nat} {sk : Sk} {src src2 : E} {b : S} {x x' : V} {μ₂ : Store} {its : List V} (h1 : ev orc src σ μ = some (x, μ₁)) (h2 : ev orc src2 σ μ₁ = some (x', μ₂)) (h3 : srcV sk x x' = some its) :
    ex orc F (.forS tgt sk src src2 b) σ μ = forL tgt (fun σ μ => ex orc F b σ μ) its σ μ₂ := by
  rw [ex, h1]; simp [h2, h3]
theorem run_of {f : Fn} {args : List V} (hl : args.length = f.params.length) (h : ex orc F f.body (args ++ f.locals.map fun _ => .unb) μ = some (σ', μ', fl)) : runFn orc F f args μ = some (retOf fl, μ') := by
  rw [runFn, if_pos hl, h]; rfl
end

noncomputable def V.ok : V → Bool
  | .unb => false
  | _ => true
section
variable {orc : Orc} {σ : List V} {μ μ₁ μ₂ μ₃ μ₄ : Store} {v x y z u : V}
theorem ev_int {i : Int} : ev orc (.int i) σ μ = some (.int i, μ) := by rw [ev]
theorem ev_none : ev orc .none σ μ = some (.none, μ) := by rw [ev]
theorem ev_bool {b : Bool} : ev orc (.bool b) σ μ = some (.bool b, μ) := by rw [ev]
theorem ev_nil : ev orc .nil σ μ = some (.list [], μ) := by rw [ev]
theorem ev_var {i : Nat} (h : σ[i]? = some v) (hv : v.ok = true) : ev orc (.var i) σ μ = some (v, μ) := by
  rw [ev, h]
  cases v <;> first | rfl | cases hv
theorem ev_bin {op : Op2} {a b : E} (ha : ev orc a σ μ = some (x, μ₁)) (hb : ev orc b σ μ₁ = some (y, μ₂)) (h : binV op x y = some v) : ev orc (.bin op a b) σ μ = some (v, μ₂) := by
  rw [ev, ha]; simp [hb, h]
theorem ev_neg {a : E} {i : Int} (ha : ev orc a σ μ = some (.int i, μ₁)) : ev orc (.neg a) σ μ = some (.int (-i), μ₁) := by
  rw [ev, ha]; rfl
theorem ev_cmp {op : Cm} {a b : E} {c : Bool} (ha : ev orc a σ μ = some (x, μ₁)) (hb : ev orc b σ μ₁ = some (y, μ₂)) (h : cmV μ₂ op x y = some c) : ev orc (.cmp op a b) σ μ = some (.bool c, μ₂) := by
  rw [ev, ha]; simp [hb, h]
theorem ev_cmpI {op : Cm} {a b : E} {i j : Int} (ha : ev orc a σ μ = some (.int i, μ₁)) (hb : ev orc b σ μ₁ = some (.int j, μ₂)) : ev orc (.cmp op a b) σ μ = some (.bool (cmI op i j), μ₂) :=
  ev_cmp ha hb (by simp [cmV])
theorem ev_isNone {a : E} {c : Bool} (ha : ev orc a σ μ = some (x, μ₁)) (h : isNoneV x = some c) : ev orc (.isNone a) σ μ = some (.bool c, μ₁) := by
  rw [ev, ha]; simp [h]
theorem ev_and {a b : E} {c : Bool} (ha : ev orc a σ μ = some (.bool c, μ₁)) : ev orc (.and a b) σ μ = if c then ev orc b σ μ₁ else some (.bool false, μ₁) := by
  rw [ev, ha]; cases c <;> rfl
theorem ev_or {a b : E} {c : Bool} (ha : ev orc a σ μ = some (.bool c, μ₁)) : ev orc (.or a b) σ μ = if c then some (.bool true, μ₁) else ev orc b σ μ₁ := by
  rw [ev, ha]; cases c <;> rfl
theorem ev_or_f {a b : E} {c : Bool} (ha : ev orc a σ μ = some (.bool c, μ₁)) (hc : c = false) : ev orc (.or a b) σ μ = ev orc b σ μ₁ := by
  rw [ev_or ha, hc]; rfl
theorem ev_or_t {a b : E} {c : Bool} (ha : ev orc a σ μ = some (.bool c, μ₁)) (hc : c = true) : ev orc (.or a b) σ μ = some (.bool true, μ₁) := by
  rw [ev_or ha, hc]; rfl
theorem ev_ite {c a b : E} {t : Bool} (hc : ev orc c σ μ = some (.bool t, μ₁)) : ev orc (.ite c a b) σ μ = if t then ev orc a σ μ₁ else ev orc b σ μ₁ := by
  rw [ev, hc]; cases t <;> rfl
theorem ev_ite_t {c a b : E} {t : Bool} (hc : ev orc c σ μ = some (.bool t, μ₁)) (ht : t = true) : ev orc (.ite c a b) σ μ = ev orc a σ μ₁ := by
  rw [ev_ite hc, ht]; rfl
theorem ev_ite_f {c a b : E} {t : Bool} (hc : ev orc c σ μ = some (.bool t, μ₁)) (ht : t = false) : ev orc (.ite c a b) σ μ = ev orc b σ μ₁ := by
  rw [ev_ite hc, ht]; rfl
theorem ev_single {a : E} (ha : ev orc a σ μ = some (x, μ₁)) : ev orc (.single a) σ μ = some (.list [x], μ₁) := by
  rw [ev, ha]; rfl
theorem ev_mpair {a b : E} (ha : ev orc a σ μ = some (x, μ₁)) (hb : ev orc b σ μ₁ = some (y, μ₂)) : ev orc (.mpair a b) σ μ = some (.ref μ₂.length, μ₂ ++ [[x, y]]) := by
  rw [ev, ha]; simp [hb, mkL]
theorem ev_tup2 {a b : E} (ha : ev orc a σ μ = some (x, μ₁)) (hb : ev orc b σ μ₁ = some (y, μ₂)) : ev orc (.tup2 a b) σ μ = some (.tup [x, y], μ₂) := by
  rw [ev, ha]; simp [hb]
theorem ev_tup3 {a b c : E} (ha : ev orc a σ μ = some (x, μ₁)) (hb : ev orc b σ μ₁ = some (y, μ₂)) (hc : ev orc c σ μ₂ = some (z, μ₃)) : ev orc (.tup3 a b c) σ μ = some (.tup [x, y, z], μ₃) := by
  rw [ev, ha]; simp [hb, hc]
theorem ev_tup4 {a b c d : E} (ha : ev orc a σ μ = some (x, μ₁)) (hb : ev orc b σ μ₁ = some (y, μ₂)) (hc : ev orc c σ μ₂ = some (z, μ₃)) (hd : ev orc d σ μ₃ = some (u, μ₄)) : ev orc (.tup4 a b c d) σ μ = some (.tup [x, y, z, u], μ₄) := by
  rw [ev, ha]; simp [hb, hc, hd]
theorem ev_lenL {a : E} {l : List Int} (ha : ev orc a σ μ = some (zl l, μ₁)) (h : l.length ≤ 1000) : ev orc (.len a) σ μ = some (.int l.length, μ₁) := by
  have h' : l.length ≤ lim := by rw [lim_eq]; omega
  rw [ev, ha]; simp [zl, items?, h']
theorem ev_len {a : E} {xs : List V} (ha : ev orc a σ μ = some (x, μ₁)) (hx : items? μ₁ x = some xs) (h : xs.length ≤ 1000) : ev orc (.len a) σ μ = some (.int xs.length, μ₁) := by
  have h' : xs.length ≤ lim := by rw [lim_eq]; omega
  rw [ev, ha]; simp [hx, h']
theorem ev_max {a b : E} {i j : Int} (ha : ev orc a σ μ = some (.int i, μ₁)) (hb : ev orc b σ μ₁ = some (.int j, μ₂)) : ev orc (.max a b) σ μ = some (.int (if j > i then j else i), μ₂) := by
  rw [ev, ha]; simp [hb]
theorem ev_lst {a : E} {l : List Int} (ha : ev orc a σ μ = some (zl l, μ₁)) (h : l.length ≤ 1000) : ev orc (.lst a) σ μ = some (zl l, μ₁) := by
  have h' : l.length ≤ lim := by rw [lim_eq]; omega
  rw [ev, ha]; simp [zl, h']
theorem ev_range1 {a : E} {i : Int} (ha : ev orc a σ μ = some (.int i, μ₁)) : ev orc (.range1 a) σ μ = some (.rng 0 i, μ₁) := by
  rw [ev, ha]; rfl
theorem ev_range2 {a b : E} {i j : Int} (ha : ev orc a σ μ = some (.int i, μ₁)) (hb : ev orc b σ μ₁ = some (.int j, μ₂)) : ev orc (.range2 a b) σ μ = some (.rng i j, μ₂) := by
  rw [ev, ha]; simp [hb]
theorem ev_call1 {f : String} {a : E} {r : Option (V × Store)} (ha : ev orc a σ μ = some (x, μ₁)) (h : orc f [x] μ₁ = r) : ev orc (.call1 f a) σ μ = r := by
  rw [ev, ha]; exact h
theorem ev_call2 {f : String} {a b : E} {r : Option (V × Store)} (ha : ev orc a σ μ = some (x, μ₁)) (hb : ev orc b σ μ₁ = some (y, μ₂)) (h : orc f [x, y] μ₂ = r) : ev orc (.call2 f a b) σ μ = r := by
  rw [ev, ha]; simp [hb, h]
theorem ev_call3 {f : String} {a b c : E} {r : Option (V × Store)} (ha : ev orc a σ μ = some (x, μ₁)) (hb : ev orc b σ μ₁ = some (y, μ₂)) (hc : ev orc c σ μ₂ = some (z, μ₃)) (h : orc f [x, y, z] μ₃ = r) : ev orc (.call3 f a b c) σ μ = r := by
  rw [ev, ha]; simp [hb, hc, h]
theorem ev_item {a i : E} {k : Int} {xs : List V} (ha : ev orc a σ μ = some (x, μ₁)) (hi : ev orc i σ μ₁ = some (.int k, μ₂)) (hx : items? μ₂ x = some xs) (h : itemV xs k = some v) : ev orc (.item a i) σ μ = some (v, μ₂) := by
  rw [ev, ha]; simp [hi, hx, h]
end

section
variable {n : Nat} {μ : Store}

theorem O_zdegree {l : List Int} (h : l.length ≤ 1000) : O (n + 1) "zdegree" [zl l] μ = some (.int ((l.length : Int) - 1), μ) := by
  have h' : l.length ≤ lim := by rw [lim_eq]; omega
  show runFn (O n) fuel fzdegree [zl l] μ = _
  simp [runFn, fzdegree, ex, ev, zl, items?, binV, h', retOf]

theorem O_zlead {l : List Int} (h : l.length ≤ 1000) : O (n + 1) "zlead" [zl l] μ = some (.int (lead l), μ) := by
  have h' : l.length ≤ lim := by rw [lim_eq]; omega
  show runFn (O n) fuel fzlead [zl l] μ = _
  rcases List.eq_nil_or_concat l with rfl | ⟨r, x, rfl⟩
  · simp [runFn, fzlead, ex, ev, zl, items?, retOf, cmV, cmI, lead]
  · have e := itemV_last (l := r) (x := x) (by simp at h; omega)
    have h'' : (r.length + 1) ≤ lim := by simpa using h'
    simp at e
    have h0 : (0 : Int) < (r.length : Int) + 1 := by omega
    simp [runFn, fzlead, ex, ev, zl, items?, retOf, cmV, cmI, lead, h'', h0]
    rw [e]
    rfl

theorem ztrim_loop {orc : Orc} {l : List Int} (hl : l.length ≤ 900) : ∀ (k F : Nat), k ≤ l.length → k < F →
    whileL (fun σ μ => ev orc (.and (.cmp .gt (.var 1) (.int 0)) (.cmp .eq (.item (.var 0) (.bin .sub (.var 1) (.int 1))) (.int 0))) σ μ)
      (fun σ μ => ex orc fuel (.seq (.aug 1 .sub (.int 1)) .skip) σ μ) F [zl l, .int k] μ = some ([zl l, .int (tsz l k)], μ, .next)
  | 0, F + 1, _, _ => by simp [whileL, ev, zl, cmV, cmI, tsz]
  | k + 1, F + 1, h, hF => by
    have e := itemV_get (l := l) (i := k) (by omega) (by omega)
    have e0 : (0 : Int) < (k : Int) + 1 := by omega
    have e1 : ((k : Int) + 1) - 1 = (k : Int) := by omega
    rw [tsz]
    generalize l.getD k 0 = z at e ⊢
    by_cases hz : z = 0
    · have ih := ztrim_loop (orc := orc) hl k F (by omega) (by omega)
      rw [whileL]
      rw [if_pos hz, ← ih]
      rw [hz] at e
      simp [ev, zl, cmV, cmI, e0, e1, binV, items?, e, ex, setAll]
    · rw [whileL]
      rw [if_neg hz]
      have hz' : (z == 0) = false := by simpa using hz
      simp [ev, zl, cmV, cmI, e0, e1, binV, items?, e, hz']

theorem O_ztrim {l : List Int} (hl : l.length ≤ 900) : O (n + 1) "ztrim" [zl l] μ = some (zl (trimL l), μ) := by
  have h' : l.length ≤ lim := by rw [lim_eq]; omega
  have e := ztrim_loop (μ := μ) (orc := O n) (l := l) hl l.length fuel (Nat.le_refl _) (by rw [fuel_eq]; omega)
  have e2 := tsz_take l l.length (Nat.le_refl _)
  rw [List.take_length] at e2
  have e3 := tsz_le l l.length
  have e4 : ev (O n) (.len (.var 0)) [zl l, .unb] μ = some (.int l.length, μ) := by simp [ev, zl, items?, h']
  have e5 : ((tsz l l.length : Nat) : Int) ≤ (lim : Int) := by rw [lim_eq]; omega
  have e6 : List.take (tsz l l.length) (List.map V.int l) = (trimL l).map V.int := by rw [← List.map_take, e2]
  have e7 : (trimL l).length ≤ lim := by rw [← e2, List.length_take]; omega
  show runFn (O n) fuel fztrim [zl l] μ = _
  refine run_of (f := fztrim) (σ' := [zl l, .int (tsz l l.length)]) (fl := .ret (zl (trimL l))) rfl ?_
  refine (ex_seq (ex_asg e4 (by simp))).trans ((ex_seq (ex_while e)).trans (ex_seq_ret (ex_ret ?_)))
  simp [ev, zl, h', e5, e6, e7]

end
end Mine

namespace Mine
open PySem
set_option maxRecDepth 100000
set_option autoImplicit false

noncomputable def negL (l : List Int) : List Int := l.map fun x => -x
noncomputable def subL (a b : List Int) : List Int := trimL (addL a (negL b))
noncomputable def mulO (x y : Int) : Option Int := if fits x && fits y then some (x * y) else none
noncomputable def divO (x y : Int) : Option Int := if y ≠ 0 ∧ fits x = true ∧ fits y = true then some (x.fdiv y) else none
noncomputable def powO (x k : Int) : Option Int := if 0 ≤ k ∧ k ≤ 1000 ∧ fits x = true then some (x ^ k.toNat) else none
noncomputable def scaleO (p : List Int) (k : Int) : Option (List Int) := if k ≠ 0 then p.mapM fun x => mulO x k else some []
noncomputable def raiseL (p : List Int) (k : Nat) : List Int := if p.length > 0 then List.replicate k 0 ++ p else []
noncomputable def derL : Int → List Int → Option (List Int)
  | _, [] => some []
  | i, x :: r => do
    let y ← mulO x i
    let s ← derL (i + 1) r
    some (y :: s)

theorem trimL_len : ∀ l : List Int, (trimL l).length ≤ l.length
  | [] => Nat.le_refl _
  | x :: r => by
    have := trimL_len r
    rw [trimL]
    split
    · split <;> simp
    · rename_i e; rw [e] at this; simpa using this

theorem bin_mul {x y z : Int} (h : mulO x y = some z) : binV .mul (.int x) (.int y) = some (.int z) := by
  unfold mulO at h
  split at h
  · rename_i q; cases h
    simp only [binV, q, if_true]
  · cases h
theorem bin_div {x y z : Int} (h : divO x y = some z) : binV .fdiv (.int x) (.int y) = some (.int z) := by
  unfold divO at h
  split at h
  · rename_i q; cases h
    simp only [binV, if_pos q]
  · cases h
theorem bin_pow {x y z : Int} (h : powO x y = some z) : binV .pow (.int x) (.int y) = some (.int z) := by
  unfold powO at h
  split at h
  · rename_i q; cases h
    simp only [binV, if_pos q]
  · cases h
theorem mapM_len {α β : Type} {g : α → Option β} : ∀ {l : List α} {r : List β}, l.mapM g = some r → r.length = l.length
  | [], r, h => by simp at h; subst h; rfl
  | x :: l, r, h => by
    rw [List.mapM_cons] at h
    obtain ⟨y, h1, h⟩ := bnd h
    obtain ⟨s, h2, h⟩ := bnd h
    cases h
    rw [List.length_cons, List.length_cons, mapM_len h2]

section
variable {n : Nat} {μ : Store}

theorem compF_one {orc : Orc} {caps : List Nat} {elt : E} {σ b : List V} {it y : V} {μ₁ : Store} (hb : (caps.map fun i => σ.getD i .unb) ++ [it] = b) (h : ev orc elt b μ = some (y, μ₁)) :
    compF orc false caps (.bool true) elt σ it μ = some (some y, μ₁) := by
  unfold compF
  rw [show tgtV false it = some [it] from rfl]
  simp only [Option.bind_eq_bind, Option.bind_some, hb, ev_bool, h]

/-- a comprehension over a list of whole numbers -/
theorem ev_comp_ints {orc : Orc} {caps : List Nat} {src cond elt : E} {σ : List V} {l r : List Int} {g : Int → Option Int} (h1 : ev orc src σ μ = some (zl l, μ)) (hl : l.length ≤ 1000)
    (hf : ∀ x y, g x = some y → compF orc false caps cond elt σ (.int x) μ = some (some (.int y), μ)) (hr : l.mapM g = some r) : ev orc (.comp false false .plain caps src .nil cond elt) σ μ = some (zl r, μ) := by
  rw [ev_comp_eq, h1]
  simp only [ev, Option.bind_eq_bind, Option.bind_some, turns_ints hl, compL_mapM (inj := V.int) hf l r hr, mkL]
  rfl
theorem ev_comp_rng {orc : Orc} {caps : List Nat} {src cond elt : E} {σ : List V} {m : Nat} {r : List Int} {g : Nat → Option Int} (h1 : ev orc src σ μ = some (.rng 0 m, μ)) (hl : m ≤ 1000)
    (hf : ∀ x y, g x = some y → compF orc false caps cond elt σ (.int (x : Int)) μ = some (some (.int y), μ)) (hr : (List.range m).mapM g = some r) : ev orc (.comp false false .plain caps src .nil cond elt) σ μ = some (zl r, μ) := by
  have t := turns_rng hl 0 (by omega)
  rw [show (0 : Int) + (m : Int) = m by omega] at t
  rw [ev_comp_eq, h1]
  simp only [ev, Option.bind_eq_bind, Option.bind_some, t]
  have e : ((List.range m).map fun i : Nat => V.int (0 + (i : Int))) = (List.range m).map (fun i : Nat => V.int (i : Int)) := by simp
  rw [e, compL_mapM (inj := fun i : Nat => V.int (i : Int)) hf _ r hr]
  simp [mkL, zl]

theorem O_zadd {a b : List Int} (ha : a.length ≤ 900) (hb : b.length ≤ 900) : O (n + 2) "zadd" [zl a, zl b] μ = some (zl (trimL (addL a b)), μ) := by
  have ha' : a.length ≤ lim := by rw [lim_eq]; omega
  have hb' : b.length ≤ lim := by rw [lim_eq]; omega
  have hm : max a.length b.length ≤ 900 := by omega
  have e1 : ev (O (n + 1)) (.max (.len (.var 0)) (.len (.var 1))) [zl a, zl b, .unb] μ = some (.int (max a.length b.length : Nat), μ) := by
    simp [ev, zl, items?, ha', hb']
    split <;> omega
  have e2 : ev (O (n + 1)) (.comp false false .plain [0, 1] (.range1 (.var 2)) .nil (.bool true) (.bin .add (.ite (.cmp .lt (.var 2) (.len (.var 0))) (.item (.var 0) (.var 2)) (.int 0)) (.ite (.cmp .lt (.var 2) (.len (.var 1))) (.item (.var 1) (.var 2)) (.int 0)))) [zl a, zl b, .int (max a.length b.length : Nat)] μ = some (zl (addL a b), μ) := by
    refine ev_comp_rng (g := fun i => some (a.getD i 0 + b.getD i 0)) (m := max a.length b.length) (by simp [ev, zl]) (by omega) (fun i y hy => ?_) (by rw [mapM_some, addL_range])
    cases hy
    have half : ∀ (c : List Int) (k : Nat), c.length ≤ 900 → ∀ σ : List V, σ[k]? = some (zl c) → σ[2]? = some (.int i) → ev (O (n + 1)) (.ite (.cmp .lt (.var 2) (.len (.var k))) (.item (.var k) (.var 2)) (.int 0)) σ μ = some (.int (c.getD i 0), μ) := by
      intro c k hc σ h1 h2
      have hc' : c.length ≤ lim := by rw [lim_eq]; omega
      by_cases hi : i < c.length
      · have e := itemV_get hi (by omega)
        have hi' : ((i : Int) < (c.length : Int)) := by omega
        simp only [ev, h1, h2, zl, Option.bind_eq_bind, Option.bind_some, items?, List.length_map, hc', if_true, cmV, cmI, hi', decide_true, e]
      · have hi' : ¬ ((i : Int) < (c.length : Int)) := by omega
        simp only [ev, h1, h2, zl, Option.bind_eq_bind, Option.bind_some, items?, List.length_map, hc', if_true, cmV, cmI, hi', decide_false]
        rw [List.getD_eq_getElem?_getD, List.getElem?_eq_none (by omega)]
        rfl
    have q1 := half a 0 ha [zl a, zl b, .int i] rfl rfl
    have q2 := half b 1 hb [zl a, zl b, .int i] rfl rfl
    exact compF_one rfl (ev_bin q1 q2 rfl)
  show runFn (O (n + 1)) fuel fzadd [zl a, zl b] μ = _
  refine run_of (f := fzadd) (σ' := [zl a, zl b, .int (max a.length b.length : Nat)]) (fl := .ret (zl (trimL (addL a b)))) rfl ?_
  refine (ex_seq (ex_asg e1 (by simp))).trans (ex_seq_ret (ex_ret ?_))
  show ev (O (n + 1)) (.call1 "ztrim" _) [zl a, zl b, .int (max a.length b.length : Nat)] μ = _
  rw [ev, e2]
  exact O_ztrim (by rw [addL_len]; exact hm)

theorem O_zneg {p : List Int} (h : p.length ≤ 900) : O (n + 1) "zneg" [zl p] μ = some (zl (negL p), μ) := by
  show runFn (O n) fuel fzneg [zl p] μ = _
  refine run_of (f := fzneg) (σ' := [zl p]) (fl := .ret (zl (negL p))) rfl (ex_seq_ret (ex_ret ?_))
  refine ev_comp_ints (g := fun x => some (-x)) (l := p) (by simp [ev, zl]) (by omega) (fun x y hy => ?_) (mapM_some _ p)
  cases hy
  exact compF_one rfl (ev_neg (ev_var rfl rfl))

theorem O_zsub {a b : List Int} (ha : a.length ≤ 900) (hb : b.length ≤ 900) : O (n + 3) "zsub" [zl a, zl b] μ = some (zl (subL a b), μ) := by
  show runFn (O (n + 2)) fuel fzsub [zl a, zl b] μ = _
  refine run_of (f := fzsub) (σ' := [zl a, zl b]) (fl := .ret (zl (subL a b))) rfl (ex_seq_ret (ex_ret ?_))
  have e := O_zneg (n := n + 1) (μ := μ) hb
  have e2 := O_zadd (n := n) (μ := μ) ha (show (negL b).length ≤ 900 by simpa [negL] using hb)
  exact ev_call2 (ev_var rfl rfl) (ev_call1 (ev_var rfl rfl) e) e2

theorem O_zscale {p r : List Int} {k : Int} (h : p.length ≤ 900) (hr : scaleO p k = some r) : O (n + 1) "zscale" [zl p, .int k] μ = some (zl r, μ) := by
  show runFn (O n) fuel fzscale [zl p, .int k] μ = _
  refine run_of (f := fzscale) (σ' := [zl p, .int k]) (fl := .ret (zl r)) rfl (ex_seq_ret (ex_ret ?_))
  unfold scaleO at hr
  by_cases hk : k ≠ 0
  · rw [if_pos hk] at hr
    have e : ev (O n) (.comp false false .plain [1] (.var 0) .nil (.bool true) (.bin .mul (.var 1) (.var 0))) [zl p, .int k] μ = some (zl r, μ) := by
      refine ev_comp_ints (l := p) (by simp [ev, zl]) (by omega) (fun x y hy => ?_) hr
      exact compF_one rfl (ev_bin (ev_var rfl rfl) (ev_var rfl rfl) (bin_mul hy))
    have c : cmI .ne k 0 = true := by simpa [cmI] using hk
    exact (ev_ite_t (ev_cmpI (ev_var rfl rfl) ev_int) c).trans e
  · rw [if_neg hk] at hr
    cases hr
    have c : cmI .ne k 0 = false := by simpa [cmI] using hk
    exact (ev_ite_f (ev_cmpI (ev_var rfl rfl) ev_int) c).trans ev_nil

end
end Mine

namespace Mine
open PySem
set_option maxRecDepth 100000
set_option autoImplicit false

noncomputable def gcdA : Nat → List Int → Nat
  | a, [] => a
  | a, x :: r => gcdA (Nat.gcd a x.natAbs) r

theorem natAbs_if (i : Int) : (if i < 0 then -i else i) = (i.natAbs : Int) := by
  split <;> omega
theorem fmod_nat (x y : Nat) : ((x : Int).fmod (y : Int)) = ((x % y : Nat) : Int) := by
  rw [Int.fmod_eq_emod_of_nonneg _ (by omega)]; rfl

section
variable {orc : Orc} {σ : List V} {μ μ₁ μ₂ : Store}
theorem ev_abs {a : E} {i : Int} (ha : ev orc a σ μ = some (.int i, μ₁)) : ev orc (.abs a) σ μ = some (.int i.natAbs, μ₁) := by
  rw [ev, ha]
  show some (V.int (if i < 0 then -i else i), μ₁) = _
  rw [natAbs_if]
theorem ev_lastL {a : E} {l : List Int} (ha : ev orc a σ μ = some (zl l, μ₁)) (h0 : 0 < l.length) (h : l.length ≤ 900) : ev orc (.item a (.neg (.int 1))) σ μ = some (.int (lead l), μ₁) := by
  rcases List.eq_nil_or_concat l with rfl | ⟨r, x, rfl⟩
  · simp at h0
  · refine ev_item (k := -1) (xs := (r ++ [x]).map V.int) ha (ev_neg ev_int) (by simp [zl, items?]) ?_
    rw [itemV_last (by simp at h; omega)]
    simp [lead]
theorem ev_from1 {a : E} {l : List Int} (ha : ev orc a σ μ = some (zl l, μ₁)) (h : l.length ≤ 1000) : ev orc (.from1 a) σ μ = some (zl (l.drop 1), μ₁) := by
  have h' : l.length ≤ lim := by rw [lim_eq]; omega
  rw [ev, ha]
  simp only [zl, Option.bind_eq_bind, Option.bind_some, List.length_map, h', if_true, List.map_drop]
theorem compF_two {caps : List Nat} {elt : E} {b : List V} {x z y : V} (hb : (caps.map fun i => σ.getD i .unb) ++ [x, z] = b) (h : ev orc elt b μ = some (y, μ₁)) :
    compF orc true caps (.bool true) elt σ (.tup [x, z]) μ = some (some y, μ₁) := by
  unfold compF
  rw [show tgtV true (.tup [x, z]) = some [x, z] from rfl]
  simp only [Option.bind_eq_bind, Option.bind_some, hb, ev_bool, h]
end

section
variable {n : Nat} {μ : Store}

theorem O_zraise {p : List Int} {k : Nat} (h : p.length ≤ 900) (hk : k ≤ 900) : O (n + 1) "zraise" [zl p, .int k] μ = some (zl (raiseL p k), μ) := by
  show runFn (O n) fuel fzraise [zl p, .int k] μ = _
  refine run_of (f := fzraise) (σ' := [zl p, .int k]) (fl := .ret (zl (raiseL p k))) rfl (ex_seq_ret (ex_ret ?_))
  have hc := ev_cmpI (orc := O n) (op := .gt) (σ := [zl p, .int k]) (μ := μ) (ev_lenL (a := .var 0) (ev_var rfl rfl) (by omega)) (ev_int (i := 0))
  unfold raiseL
  by_cases h0 : p.length > 0
  · rw [if_pos h0]
    refine (ev_ite_t hc (decide_eq_true (by omega))).trans ?_
    refine ev_bin (x := .list (List.replicate k (.int 0))) (ev_bin (ev_single ev_int) (ev_var rfl rfl) ?_) (ev_lst (ev_var rfl rfl) (by omega)) ?_
    · simp only [binV]
      rw [if_pos (by refine ⟨rfl, ?_, ?_⟩ <;> rw [lim_eq] <;> omega)]
      simp
    · have : (List.replicate k (V.int 0)).length + (p.map V.int).length ≤ lim := by rw [lim_eq]; simp; omega
      simp only [binV, zl, this, if_true, List.map_append, List.map_replicate]
  · rw [if_neg h0]
    exact (ev_ite_f hc (decide_eq_false (by omega))).trans ev_nil

theorem gcd_loop {orc : Orc} : ∀ (y x F : Nat), y < F →
    whileL (fun σ μ => ev orc (.cmp .ne (.var 1) (.int 0)) σ μ) (fun σ μ => ex orc fuel (.seq (.asgR [0, 1] (.tup2 (.var 1) (.bin .fmod (.var 0) (.var 1)))) .skip) σ μ) F [.int x, .int y] μ = some ([.int (Nat.gcd x y : Nat), .int 0], μ, .next) := by
  intro y
  induction y using Nat.strongRecOn with
  | _ y ih =>
    intro x F hF
    cases F with
    | zero => omega
    | succ F =>
      rw [whileL]
      have hc : ev orc (.cmp .ne (.var 1) (.int 0)) [.int x, .int y] μ = some (.bool (cmI .ne (y : Int) 0), μ) := ev_cmpI (ev_var rfl rfl) ev_int
      simp only [Option.bind_eq_bind, hc, Option.bind_some]
      by_cases h0 : y = 0
      · subst h0
        simp [cmI]
      · have e : cmI .ne (y : Int) 0 = true := by simp [cmI, h0]
        have hb : ex orc fuel (.seq (.asgR [0, 1] (.tup2 (.var 1) (.bin .fmod (.var 0) (.var 1)))) .skip) [.int x, .int y] μ = some ([.int y, .int (x % y : Nat)], μ, .next) := by
          refine (ex_seq (ex_asgR (ev_tup2 (ev_var rfl rfl) (ev_bin (x := .int x) (y := .int y) (v := .int (x % y : Nat)) (ev_var rfl rfl) (ev_var rfl rfl) ?_)) rfl)).trans ex_skip
          simp only [binV]
          rw [if_pos (by omega), fmod_nat]
        rw [e]
        simp only [hb, Option.bind_some]
        rw [ih (x % y) (Nat.mod_lt _ (by omega)) y F (by have := Nat.mod_lt x (show 0 < y by omega); omega)]
        have : Nat.gcd y (x % y) = Nat.gcd x y := by rw [Nat.gcd_comm y, ← Nat.gcd_rec, Nat.gcd_comm]
        rw [this]

theorem O_gcd {a b : Int} (hb : b.natAbs < 1000) : O (n + 1) "gcd" [.int a, .int b] μ = some (.int (Nat.gcd a.natAbs b.natAbs : Nat), μ) := by
  show runFn (O n) fuel fgcd [.int a, .int b] μ = _
  refine run_of (f := fgcd) (σ' := [.int (Nat.gcd a.natAbs b.natAbs : Nat), .int 0]) (fl := .ret (.int (Nat.gcd a.natAbs b.natAbs : Nat))) rfl ?_
  refine (ex_seq (ex_asgR (ev_tup2 (ev_abs (ev_var rfl rfl)) (ev_abs (ev_var rfl rfl))) rfl)).trans ?_
  exact (ex_seq (ex_while (gcd_loop _ _ fuel (by rw [fuel_eq]; omega)))).trans (ex_seq_ret (ex_ret (ev_var rfl rfl)))

theorem gcd_all_loop : ∀ (l : List Int) (l0 : V) (a : Nat) (z : V), (∀ x ∈ l, x.natAbs < 1000) →
    ∃ z', forL [2] (fun σ μ => ex (O (n + 1)) fuel (.seq (.asg 1 (.call2 "gcd" (.var 1) (.var 2))) .skip) σ μ) (l.map V.int) [l0, .int a, z] μ = some ([l0, .int (gcdA a l), z'], μ, .next)
  | [], l0, a, z, _ => ⟨z, by simp [forL, gcdA]⟩
  | x :: l, l0, a, z, h => by
    obtain ⟨z', e⟩ := gcd_all_loop l l0 (Nat.gcd a x.natAbs) (.int x) fun y hy => h y (List.mem_cons_of_mem _ hy)
    refine ⟨z', ?_⟩
    rw [List.map_cons, forL]
    have t : tgtS [2] (V.int x) [l0, .int a, z] = some [l0, .int a, .int x] := rfl
    have b : ex (O (n + 1)) fuel (.seq (.asg 1 (.call2 "gcd" (.var 1) (.var 2))) .skip) [l0, .int a, .int x] μ = some ([l0, .int (Nat.gcd a x.natAbs : Nat), .int x], μ, .next) :=
      (ex_seq (ex_asg (ev_call2 (ev_var rfl rfl) (ev_var rfl rfl) (O_gcd (h x (List.mem_cons_self ..)))) (by simp))).trans ex_skip
    simp only [t, Option.bind_eq_bind, Option.bind_some, b, e, gcdA]

theorem O_gcd_all {l : List Int} (hl : l.length ≤ 900) (h : ∀ x ∈ l, x.natAbs < 1000) : O (n + 2) "gcd_all" [zl l] μ = some (.int (gcdA 0 l), μ) := by
  obtain ⟨z', e⟩ := gcd_all_loop (n := n) (μ := μ) l (zl l) 0 .unb h
  show runFn (O (n + 1)) fuel fgcd_all [zl l] μ = _
  refine run_of (f := fgcd_all) (σ' := [zl l, .int (gcdA 0 l), z']) (fl := .ret (.int (gcdA 0 l))) rfl ?_
  refine (ex_seq (ex_asg ev_int (Nat.le_of_ble_eq_true rfl))).trans ((ex_seq ((ex_for (ev_var rfl rfl) ev_nil (turns_ints (by omega))).trans e)).trans (ex_seq_ret (ex_ret (ev_var rfl rfl))))

theorem O_zcontent {l : List Int} (hl : l.length ≤ 900) (h : ∀ x ∈ l, x.natAbs < 1000) : O (n + 3) "zcontent" [zl l] μ = some (.int (gcdA 0 l), μ) := by
  show runFn (O (n + 2)) fuel fzcontent [zl l] μ = _
  exact run_of (f := fzcontent) (σ' := [zl l]) (fl := .ret (.int (gcdA 0 l))) rfl (ex_seq_ret (ex_ret (ev_call1 (ev_var rfl rfl) (O_gcd_all hl h))))

theorem zderive_comp {orc : Orc} {σ : List V} : ∀ (l r : List Int) (i : Int), derL i l = some r → compL (compF orc true [] (.bool true) (.bin .mul (.var 1) (.var 0)) σ) (enumV i (l.map V.int)) μ = some (r.map V.int, μ)
  | [], r, i, h => by
    rw [derL] at h; cases h; rfl
  | x :: l, r, i, h => by
    rw [derL] at h
    obtain ⟨y, h1, h⟩ := bnd h
    obtain ⟨s, h2, h⟩ := bnd h
    cases h
    rw [List.map_cons, enumV, compL, compF_two rfl (ev_bin (ev_var rfl rfl) (ev_var rfl rfl) (bin_mul h1))]
    simp [zderive_comp l s (i + 1) h2]

theorem derL_len : ∀ {l r : List Int} {i : Int}, derL i l = some r → r.length = l.length
  | [], r, i, h => by rw [derL] at h; cases h; rfl
  | x :: l, r, i, h => by
    rw [derL] at h
    obtain ⟨y, h1, h⟩ := bnd h
    obtain ⟨s, h2, h⟩ := bnd h
    cases h
    rw [List.length_cons, List.length_cons, derL_len h2]

theorem O_zderive {l r : List Int} (hl : l.length ≤ 900) (h : derL 0 l = some r) : O (n + 1) "zderive" [zl l] μ = some (zl (r.drop 1), μ) := by
  show runFn (O n) fuel fzderive [zl l] μ = _
  refine run_of (f := fzderive) (σ' := [zl l]) (fl := .ret (zl (r.drop 1))) rfl (ex_seq_ret (ex_ret ?_))
  refine ev_from1 ?_ (by rw [derL_len h]; omega)
  rw [ev_comp_eq, ev_var (v := zl l) rfl rfl]
  have h' : (l.map V.int).length ≤ lim := by rw [lim_eq]; simp; omega
  simp only [Option.bind_eq_bind, Option.bind_some, ev_nil, srcV, zl]
  rw [if_pos h']
  simp only [Option.bind_some, zderive_comp l r 0 h]
  rfl

theorem O_check_bottom {p : List Int} (h0 : 0 < p.length) (h : p.length ≤ 900) : O (n + 1) "check_bottom" [zl p] μ = some (.none, μ) := by
  show runFn (O n) fuel fcheck_bottom [zl p] μ = _
  refine run_of (f := fcheck_bottom) (σ' := [zl p]) (fl := .next) rfl ?_
  refine (ex_seq ((ex_if_f (ev_cmpI (ev_lenL (ev_var rfl rfl) (by omega)) ev_int) ?_).trans ex_skip)).trans ex_skip
  simp [cmI]
  rintro rfl
  simp at h0

end
end Mine

namespace Mine
open PySem
set_option maxRecDepth 100000
set_option autoImplicit false

noncomputable def pseudoL (b : List Int) (first : Int) : Nat → List Int → List Int → Int → Option (List Int × List Int × Int)
  | 0, _, _, _ => none
  | F + 1, rest, found, left =>
    if rest.length ≤ 100 ∧ found.length ≤ 100 then
      if b.length ≤ rest.length then do
        let f1 ← scaleO found first
        let r1 ← scaleO rest first
        let b1 ← scaleO b (lead rest)
        pseudoL b first F (subL r1 (raiseL b1 (rest.length - b.length))) (subL f1 (raiseL [-(lead rest)] (rest.length - b.length))) (left - 1)
      else some (rest, found, left)
    else none

noncomputable def manyI (a b : List Int) : Int := if ((a.length : Int) - (b.length : Int) + 1) > 0 then (a.length : Int) - (b.length : Int) + 1 else 0

noncomputable def pseudoP (a b : List Int) : Option (List Int × List Int × Int) :=
  if 0 < b.length ∧ b.length ≤ 100 ∧ a.length ≤ 100 then do
    let (r, f, left) ← pseudoL b (lead b) 1000 a [] (manyI a b)
    let more ← powO (lead b) left
    let f' ← scaleO f more
    let r' ← scaleO r more
    some (f', r', manyI a b)
  else none

noncomputable def divP (p : List Int) (k : Int) : Option (List Int) := p.mapM fun x => divO x k

noncomputable def fullP (a b : List Int) : Option (List Int) := do
  let (_, rest, power) ← pseudoP a b
  rest.mapM fun c => do
    let p ← powO (lead b) (((a.length : Int) - 1) - ((b.length : Int) - 1) + 1 - power)
    mulO c p

noncomputable def hNext (g gap h : Int) : Option Int :=
  if 0 < gap then do
    let p ← powO g gap
    let q ← powO h (gap - 1)
    divO p q
  else some h

noncomputable def rowL : Nat → List Int → List Int → Int → Int → Int → Option (List Int × List Int × Int × Int)
  | 0, _, _, _, _, _ => none
  | F + 1, a, b, s, g, h =>
    if a.length ≤ 100 ∧ b.length ≤ 100 then
      if 1 < b.length then do
        let gap : Int := ((a.length : Int) - 1) - ((b.length : Int) - 1)
        let rest ← fullP a b
        let hp ← powO h gap
        let d ← mulO g hp
        let b' ← divP rest d
        let h' ← hNext (lead b) gap h
        if rest.length ≤ 100 then
          rowL F b b' (if ((a.length : Int) - 1).fmod 2 = 1 ∧ ((b.length : Int) - 1).fmod 2 = 1 then -s else s) (lead b) h'
        else none
      else some (a, b, s, h)
    else none

noncomputable def rowP (a b : List Int) (s : Int) : Option Int := do
  let (a, b, s, h) ← rowL 1000 a b s 1 1
  match b with
  | [] => some 0
  | x :: _ =>
    if 0 < (a.length : Int) - 1 then do
      let p ← powO x ((a.length : Int) - 1)
      let q ← powO h ((a.length : Int) - 1 - 1)
      let d ← divO p q
      mulO s d
    else mulO s 1

noncomputable def small (l : List Int) : Bool := decide (l.length ≤ 100) && l.all fun x => decide (x.natAbs < 1000)

noncomputable def resP (a b : List Int) : Option Int :=
  if 0 < b.length ∧ b.length ≤ a.length ∧ small a = true ∧ small b = true then do
    let p ← powO (gcdA 0 a) ((b.length : Int) - 1)
    let q ← powO (gcdA 0 b) ((a.length : Int) - 1)
    let sh ← mulO p q
    let a' ← divP a (gcdA 0 a)
    let b' ← divP b (gcdA 0 b)
    let r ← rowP a' b' 1
    mulO sh r
  else none

noncomputable def discP (f : List Int) : Option Int :=
  if 2 ≤ f.length ∧ f.length ≤ 100 then do
    let d ← derL 0 f
    let r ← resP f (d.drop 1)
    let found ← divO r (lead f)
    let m2 ← mulO ((f.length : Int) - 1) ((f.length : Int) - 1 - 1)
    let m3 ← divO m2 2
    some (if m3.fmod 2 = 1 then -found else found)
  else none

section
variable {n : Nat} {μ : Store}

theorem subL_len {a b : List Int} : (subL a b).length ≤ max a.length b.length := by
  unfold subL
  refine Nat.le_trans (trimL_len _) ?_
  rw [addL_len]
  simp [negL]
theorem scaleO_len {p r : List Int} {k : Int} (h : scaleO p k = some r) : r.length ≤ p.length := by
  unfold scaleO at h
  split at h
  · rw [mapM_len h]; exact Nat.le_refl _
  · cases h; simp
theorem raiseL_len (p : List Int) (k : Nat) : (raiseL p k).length ≤ p.length + k := by
  unfold raiseL
  split
  · simp; omega
  · simp

noncomputable def pseudoTest : E := .cmp .ge (.len (.var 3)) (.len (.var 1))
noncomputable def pseudoBody : S := (.seq (.asgR [7, 8] (.tup2 (.item (.var 3) (.neg (.int 1))) (.bin .sub (.len (.var 3)) (.len (.var 1))))) (.seq (.asg 4 (.call2 "zsub" (.call2 "zscale" (.var 4) (.var 6)) (.call2 "zraise" (.single (.neg (.var 7))) (.var 8)))) (.seq (.asg 3 (.call2 "zsub" (.call2 "zscale" (.var 3) (.var 6)) (.call2 "zraise" (.call2 "zscale" (.var 1) (.var 7)) (.var 8)))) (.seq (.aug 5 .sub (.int 1)) .skip))))

theorem ex_aug {orc : Orc} {F : Nat} {σ : List V} {μ μ₁ : Store} {i : Nat} {e : E} {x y : Int} (h : σ[i]? = some (.int x)) (he : ev orc e σ μ = some (.int y, μ₁)) (hi : i < σ.length) : ex orc F (.aug i .sub e) σ μ = some (σ.set i (.int (x - y)), μ₁, .next) := by
  rw [ex, ev_var h rfl]
  simp [he, binV, setAll, hi]

theorem pseudo_loop {a : V} {b : List Int} {many : V} {first : Int} (hb : 0 < b.length ∧ b.length ≤ 100) : ∀ (F : Nat) (rest found : List Int) (left : Int) (r f : List Int) (lft : Int) (x7 x8 : V), pseudoL b first F rest found left = some (r, f, lft) →
    ∃ y7 y8, whileL (fun σ μ => ev (O (n + 3)) pseudoTest σ μ) (fun σ μ => ex (O (n + 3)) fuel pseudoBody σ μ) F [a, zl b, many, zl rest, zl found, .int left, .int first, x7, x8, .unb] μ =
      some ([a, zl b, many, zl r, zl f, .int lft, .int first, y7, y8, .unb], μ, .next)
  | 0, rest, found, left, r, f, lft, x7, x8, h => by rw [pseudoL] at h; cases h
  | F + 1, rest, found, left, r, f, lft, x7, x8, h => by
    rw [pseudoL] at h
    split at h
    · rename_i hg
      rw [whileL]
      have ht : ev (O (n + 3)) pseudoTest [a, zl b, many, zl rest, zl found, .int left, .int first, x7, x8, .unb] μ = some (.bool (cmI .ge rest.length b.length), μ) :=
        ev_cmpI (ev_lenL (ev_var rfl rfl) (by omega)) (ev_lenL (ev_var rfl rfl) (by omega))
      simp only [ht, Option.bind_eq_bind, Option.bind_some]
      split at h
      · rename_i hge
        obtain ⟨f1, h1, h⟩ := bnd h
        obtain ⟨r1, h2, h⟩ := bnd h
        obtain ⟨b1, h3, h⟩ := bnd h
        have hl1 := scaleO_len h1
        have hl2 := scaleO_len h2
        have hl3 := scaleO_len h3
        have hp : (rest.length : Int) - (b.length : Int) = ((rest.length - b.length : Nat) : Int) := by omega
        have e : cmI .ge (rest.length : Int) b.length = true := decide_eq_true (by omega)
        rw [e]
        obtain ⟨y7, y8, ih⟩ := pseudo_loop (a := a) (many := many) hb F _ _ _ r f lft (.int (lead rest)) (.int (rest.length - b.length : Nat)) h
        refine ⟨y7, y8, ?_⟩
        have hrl := raiseL_len [-(lead rest)] (rest.length - b.length)
        have hrb := raiseL_len b1 (rest.length - b.length)
        have hbody : ex (O (n + 3)) fuel pseudoBody [a, zl b, many, zl rest, zl found, .int left, .int first, x7, x8, .unb] μ =
            some ([a, zl b, many, zl (subL r1 (raiseL b1 (rest.length - b.length))), zl (subL f1 (raiseL [-(lead rest)] (rest.length - b.length))), .int (left - 1), .int first, .int (lead rest), .int (rest.length - b.length : Nat), .unb], μ, .next) := by
          refine (ex_seq (ex_asgR (ev_tup2 (ev_lastL (ev_var rfl rfl) (by omega) (by omega)) (ev_bin (v := .int (rest.length - b.length : Nat)) (ev_lenL (ev_var rfl rfl) (by omega)) (ev_lenL (ev_var rfl rfl) (by omega)) (by simp only [binV]; rw [hp]))) rfl)).trans ?_
          refine (ex_seq (ex_asg (ev_call2 (ev_call2 (ev_var (v := zl found) rfl rfl) (ev_var rfl rfl) (O_zscale (by omega) h1)) (ev_call2 (x := zl [-(lead rest)]) (ev_single (ev_neg (ev_var rfl rfl))) (ev_var rfl rfl) (O_zraise (by simp) (by omega))) (O_zsub (by omega) (by simp at hrl; omega))) (Nat.le_of_ble_eq_true rfl))).trans ?_
          refine (ex_seq (ex_asg (ev_call2 (ev_call2 (ev_var (v := zl rest) rfl rfl) (ev_var rfl rfl) (O_zscale (by omega) h2)) (ev_call2 (ev_call2 (ev_var (v := zl b) rfl rfl) (ev_var rfl rfl) (O_zscale (by omega) h3)) (ev_var rfl rfl) (O_zraise (by omega) (by omega))) (O_zsub (by omega) (by omega))) (Nat.le_of_ble_eq_true rfl))).trans ?_
          exact (ex_seq (ex_aug rfl ev_int (Nat.le_of_ble_eq_true rfl))).trans ex_skip
        simp only [hbody, Option.bind_some]
        exact ih
      · rename_i hge
        cases h
        have e : cmI .ge (rest.length : Int) b.length = false := decide_eq_false (by omega)
        rw [e]
        exact ⟨x7, x8, rfl⟩
    · cases h

theorem pseudoL_len {b : List Int} {first : Int} : ∀ {F : Nat} {rest found r f : List Int} {left lft : Int}, pseudoL b first F rest found left = some (r, f, lft) → r.length ≤ 100 ∧ f.length ≤ 100
  | 0, _, _, _, _, _, _, h => by rw [pseudoL] at h; cases h
  | F + 1, _, _, _, _, _, _, h => by
    rw [pseudoL] at h
    split at h
    · rename_i hg
      split at h
      · obtain ⟨f1, h1, h⟩ := bnd h
        obtain ⟨r1, h2, h⟩ := bnd h
        obtain ⟨b1, h3, h⟩ := bnd h
        exact pseudoL_len h
      · cases h; exact hg
    · cases h

theorem O_pseudo {a b q r : List Int} {k : Int} (h : pseudoP a b = some (q, r, k)) : O (n + 4) "pseudo" [zl a, zl b] μ = some (.tup [zl q, zl r, .int k], μ) := by
  unfold pseudoP at h
  split at h
  · rename_i hg
    obtain ⟨⟨r0, f0, lft⟩, h1, h⟩ := bnd h
    obtain ⟨more, h2, h⟩ := bnd h
    obtain ⟨f', h3, h⟩ := bnd h
    obtain ⟨r', h4, h⟩ := bnd h
    cases h
    obtain ⟨y7, y8, e⟩ := pseudo_loop (n := n) (μ := μ) (a := zl a) (many := .int (manyI a b)) ⟨hg.1, hg.2.1⟩ 1000 a [] (manyI a b) r0 f0 lft .unb .unb h1
    obtain ⟨l1, l2⟩ := pseudoL_len h1
    show runFn (O (n + 3)) fuel fpseudo [zl a, zl b] μ = _
    refine run_of (f := fpseudo) (σ' := [zl a, zl b, .int (manyI a b), zl r0, zl f0, .int lft, .int (lead b), y7, y8, .int more]) (fl := .ret (.tup [zl q, zl r, .int (manyI a b)])) rfl ?_
    refine (ex_seq (ex_expr (ev_call1 (ev_var (v := zl b) rfl rfl) (O_check_bottom hg.1 (by omega))))).trans ?_
    refine (ex_seq (ex_asg (v := .int (manyI a b)) (ev_max ev_int (ev_bin (ev_bin (ev_lenL (ev_var rfl rfl) (by omega)) (ev_lenL (ev_var rfl rfl) (by omega)) rfl) ev_int rfl)) (Nat.le_of_ble_eq_true rfl))).trans ?_
    refine (ex_seq (ex_asgT (ev_tup4 (ev_lst (ev_var rfl rfl) (by omega)) ev_nil (ev_var rfl rfl) (ev_call1 (ev_var (v := zl b) rfl rfl) (O_zlead (by omega)))) rfl)).trans ?_
    refine (ex_seq (ex_while e)).trans ?_
    refine (ex_seq (ex_asg (ev_bin (ev_var rfl rfl) (ev_var rfl rfl) (bin_pow h2)) (Nat.le_of_ble_eq_true rfl))).trans ?_
    exact ex_seq_ret (ex_ret (ev_tup3 (ev_call2 (ev_var (v := zl f0) rfl rfl) (ev_var rfl rfl) (O_zscale (by omega) h3)) (ev_call2 (ev_var (v := zl r0) rfl rfl) (ev_var rfl rfl) (O_zscale (by omega) h4)) (ev_var rfl rfl)))
  · cases h

theorem O_divided {p r : List Int} {k : Int} (hl : p.length ≤ 900) (h : divP p k = some r) : O (n + 1) "divided" [zl p, .int k] μ = some (zl r, μ) := by
  show runFn (O n) fuel fdivided [zl p, .int k] μ = _
  refine run_of (f := fdivided) (σ' := [zl p, .int k]) (fl := .ret (zl r)) rfl (ex_seq_ret (ex_ret ?_))
  exact ev_comp_ints (l := p) (ev_var rfl rfl) (by omega) (fun x y hy => compF_one rfl (ev_bin (ev_var rfl rfl) (ev_var rfl rfl) (bin_div hy))) h

theorem pseudoP_len {a b q r : List Int} {k : Int} (h : pseudoP a b = some (q, r, k)) : r.length ≤ 100 ∧ b.length ≤ 100 ∧ a.length ≤ 100 := by
  unfold pseudoP at h
  split at h
  · rename_i hg
    obtain ⟨⟨r0, f0, lft⟩, h1, h⟩ := bnd h
    obtain ⟨more, h2, h⟩ := bnd h
    obtain ⟨f', h3, h⟩ := bnd h
    obtain ⟨r', h4, h⟩ := bnd h
    cases h
    have := scaleO_len h4
    have := (pseudoL_len h1).1
    exact ⟨by omega, hg.2.1, hg.2.2⟩
  · cases h

theorem O_full_rest {a b r : List Int} (h : fullP a b = some r) : O (n + 5) "full_rest" [zl a, zl b] μ = some (zl r, μ) := by
  unfold fullP at h
  obtain ⟨⟨q, rest, power⟩, h1, h⟩ := bnd h
  obtain ⟨l1, l2, l3⟩ := pseudoP_len h1
  show runFn (O (n + 4)) fuel ffull_rest [zl a, zl b] μ = _
  refine run_of (f := ffull_rest) (σ' := [zl a, zl b, zl q, zl rest, .int power, .int (((a.length : Int) - 1) - ((b.length : Int) - 1) + 1 - power)]) (fl := .ret (zl r)) rfl ?_
  refine (ex_seq (ex_asgT (ev_call2 (ev_var rfl rfl) (ev_var rfl rfl) (O_pseudo h1)) rfl)).trans ?_
  refine (ex_seq (ex_asg (ev_bin (ev_bin (ev_bin (ev_call1 (ev_var (v := zl a) rfl rfl) (O_zdegree (by omega))) (ev_call1 (ev_var (v := zl b) rfl rfl) (O_zdegree (by omega))) rfl) ev_int rfl) (ev_var rfl rfl) rfl) (Nat.le_of_ble_eq_true rfl))).trans ?_
  refine ex_seq_ret (ex_ret (ev_comp_ints (l := rest) (ev_var rfl rfl) (by omega) (fun x y hy => ?_) h))
  obtain ⟨p, p1, p2⟩ := bnd hy
  exact compF_one rfl (ev_bin (ev_var rfl rfl) (ev_bin (ev_call1 (ev_var (v := zl b) rfl rfl) (O_zlead (by omega))) (ev_var rfl rfl) (bin_pow p1)) (bin_mul p2))

end
end Mine

namespace Mine
open PySem
set_option maxRecDepth 100000
set_option autoImplicit false

section
variable {n : Nat} {μ : Store}

noncomputable def rowTest : E := .cmp .gt (.call1 "zdegree" (.var 1)) (.int 0)
noncomputable def rowBody : S := (.seq (.asg 5 (.bin .sub (.call1 "zdegree" (.var 0)) (.call1 "zdegree" (.var 1)))) (.seq (.ifS (.and (.cmp .eq (.bin .fmod (.call1 "zdegree" (.var 0)) (.int 2)) (.int 1)) (.cmp .eq (.bin .fmod (.call1 "zdegree" (.var 1)) (.int 2)) (.int 1))) (.seq (.asg 2 (.neg (.var 2))) .skip) .skip) (.seq (.asg 6 (.call2 "full_rest" (.var 0) (.var 1))) (.seq (.asgR [0, 1] (.tup2 (.var 1) (.call2 "divided" (.var 6) (.bin .mul (.var 3) (.bin .pow (.var 4) (.var 5)))))) (.seq (.asg 3 (.call1 "zlead" (.var 0))) (.seq (.ifS (.cmp .gt (.var 5) (.int 0)) (.seq (.asg 4 (.bin .fdiv (.bin .pow (.var 3) (.var 5)) (.bin .pow (.var 4) (.bin .sub (.var 5) (.int 1))))) .skip) .skip) .skip))))))

theorem bin_mod2 {x : Int} : binV .fmod (.int x) (.int 2) = some (.int (x.fmod 2)) := by simp [binV]

theorem row_loop : ∀ (F : Nat) (a b : List Int) (s g h : Int) (a' b' : List Int) (s' h' : Int) (x5 x6 : V), rowL F a b s g h = some (a', b', s', h') →
    ∃ (g' : Int) (y5 y6 : V), whileL (fun σ μ => ev (O (n + 5)) rowTest σ μ) (fun σ μ => ex (O (n + 5)) fuel rowBody σ μ) F [zl a, zl b, .int s, .int g, .int h, x5, x6, .unb] μ = some ([zl a', zl b', .int s', .int g', .int h', y5, y6, .unb], μ, .next)
  | 0, a, b, s, g, h, a', b', s', h', x5, x6, e => by rw [rowL] at e; cases e
  | F + 1, a, b, s, g, h, a', b', s', h', x5, x6, e => by
    rw [rowL] at e
    split at e
    · rename_i hg
      rw [whileL]
      have ht : ev (O (n + 5)) rowTest [zl a, zl b, .int s, .int g, .int h, x5, x6, .unb] μ = some (.bool (cmI .gt ((b.length : Int) - 1) 0), μ) :=
        ev_cmpI (ev_call1 (ev_var (v := zl b) rfl rfl) (O_zdegree (by omega))) ev_int
      simp only [ht, Option.bind_eq_bind, Option.bind_some]
      split at e
      · rename_i hb
        obtain ⟨rest, h1, e⟩ := bnd e
        obtain ⟨hp, h2, e⟩ := bnd e
        obtain ⟨d, h3, e⟩ := bnd e
        obtain ⟨b₂, h4, e⟩ := bnd e
        obtain ⟨h₂, h5, e⟩ := bnd e
        split at e
        · rename_i hr
          obtain ⟨g', y5, y6, ih⟩ := row_loop F _ _ _ _ _ a' b' s' h' (.int (((a.length : Int) - 1) - ((b.length : Int) - 1))) (zl rest) e
          refine ⟨g', y5, y6, ?_⟩
          have e : cmI .gt ((b.length : Int) - 1) 0 = true := decide_eq_true (by omega)
          rw [e]
          have hbody : ex (O (n + 5)) fuel rowBody [zl a, zl b, .int s, .int g, .int h, x5, x6, .unb] μ =
              some ([zl b, zl b₂, .int (if ((a.length : Int) - 1).fmod 2 = 1 ∧ ((b.length : Int) - 1).fmod 2 = 1 then -s else s), .int (lead b), .int h₂, .int (((a.length : Int) - 1) - ((b.length : Int) - 1)), zl rest, .unb], μ, .next) := by
            refine (ex_seq (ex_asg (ev_bin (ev_call1 (ev_var (v := zl a) rfl rfl) (O_zdegree (by omega))) (ev_call1 (ev_var (v := zl b) rfl rfl) (O_zdegree (by omega))) rfl) (Nat.le_of_ble_eq_true rfl))).trans ?_
            refine (ex_seq (σ₁ := [zl a, zl b, .int (if ((a.length : Int) - 1).fmod 2 = 1 ∧ ((b.length : Int) - 1).fmod 2 = 1 then -s else s), .int g, .int h, .int (((a.length : Int) - 1) - ((b.length : Int) - 1)), x6, .unb]) (μ₁ := μ) ?_).trans ?_
            · have c1 : ev (O (n + 5)) (.cmp .eq (.bin .fmod (.call1 "zdegree" (.var 0)) (.int 2)) (.int 1)) [zl a, zl b, .int s, .int g, .int h, .int (((a.length : Int) - 1) - ((b.length : Int) - 1)), x6, .unb] μ = some (.bool (cmI .eq (((a.length : Int) - 1).fmod 2) 1), μ) :=
                ev_cmpI (ev_bin (ev_call1 (ev_var (v := zl a) rfl rfl) (O_zdegree (by omega))) ev_int bin_mod2) ev_int
              have c2 : ev (O (n + 5)) (.cmp .eq (.bin .fmod (.call1 "zdegree" (.var 1)) (.int 2)) (.int 1)) [zl a, zl b, .int s, .int g, .int h, .int (((a.length : Int) - 1) - ((b.length : Int) - 1)), x6, .unb] μ = some (.bool (cmI .eq (((b.length : Int) - 1).fmod 2) 1), μ) :=
                ev_cmpI (ev_bin (ev_call1 (ev_var (v := zl b) rfl rfl) (O_zdegree (by omega))) ev_int bin_mod2) ev_int
              have cc := ev_and (b := .cmp .eq (.bin .fmod (.call1 "zdegree" (.var 1)) (.int 2)) (.int 1)) c1
              rw [c2] at cc
              by_cases q1 : ((a.length : Int) - 1).fmod 2 = 1
              · by_cases q2 : ((b.length : Int) - 1).fmod 2 = 1
                · rw [if_pos ⟨q1, q2⟩]
                  rw [show cmI .eq (((a.length : Int) - 1).fmod 2) 1 = true from beq_iff_eq.mpr q1, show cmI .eq (((b.length : Int) - 1).fmod 2) 1 = true from beq_iff_eq.mpr q2, if_pos rfl] at cc
                  exact (ex_if_t cc rfl).trans ((ex_seq (ex_asg (ev_neg (ev_var rfl rfl)) (Nat.le_of_ble_eq_true rfl))).trans ex_skip)
                · rw [if_neg fun q => q2 q.2]
                  rw [show cmI .eq (((a.length : Int) - 1).fmod 2) 1 = true from beq_iff_eq.mpr q1, show cmI .eq (((b.length : Int) - 1).fmod 2) 1 = false from beq_eq_false_iff_ne.mpr q2, if_pos rfl] at cc
                  exact (ex_if_f cc rfl).trans ex_skip
              · rw [if_neg fun q => q1 q.1]
                rw [show cmI .eq (((a.length : Int) - 1).fmod 2) 1 = false from beq_eq_false_iff_ne.mpr q1, if_neg (by decide)] at cc
                exact (ex_if_f cc rfl).trans ex_skip
            generalize (if ((a.length : Int) - 1).fmod 2 = 1 ∧ ((b.length : Int) - 1).fmod 2 = 1 then -s else s) = s₂
            refine (ex_seq (ex_asg (ev_call2 (ev_var rfl rfl) (ev_var rfl rfl) (O_full_rest h1)) (Nat.le_of_ble_eq_true rfl))).trans ?_
            refine (ex_seq (ex_asgR (ev_tup2 (ev_var rfl rfl) (ev_call2 (ev_var (v := zl rest) rfl rfl) (ev_bin (ev_var rfl rfl) (ev_bin (ev_var rfl rfl) (ev_var rfl rfl) (bin_pow h2)) (bin_mul h3)) (O_divided (by omega) h4))) rfl)).trans ?_
            refine (ex_seq (ex_asg (ev_call1 (ev_var (v := zl b) rfl rfl) (O_zlead (by omega))) (Nat.le_of_ble_eq_true rfl))).trans ?_
            refine (ex_seq (σ₁ := [zl b, zl b₂, .int s₂, .int (lead b), .int h₂, .int (((a.length : Int) - 1) - ((b.length : Int) - 1)), zl rest, .unb]) (μ₁ := μ) ?_).trans ex_skip
            unfold hNext at h5
            by_cases q : 0 < ((a.length : Int) - 1) - ((b.length : Int) - 1)
            · have qc : cmI .gt (((a.length : Int) - 1) - ((b.length : Int) - 1)) 0 = true := decide_eq_true q
              rw [if_pos q] at h5
              obtain ⟨p, p1, h5⟩ := bnd h5
              obtain ⟨qq, p2, h5⟩ := bnd h5
              refine (ex_if_t (ev_cmpI (ev_var rfl rfl) ev_int) qc).trans ?_
              exact (ex_seq (ex_asg (ev_bin (ev_bin (ev_var rfl rfl) (ev_var rfl rfl) (bin_pow p1)) (ev_bin (ev_var rfl rfl) (ev_bin (ev_var rfl rfl) ev_int rfl) (bin_pow p2)) (bin_div h5)) (Nat.le_of_ble_eq_true rfl))).trans ex_skip
            · have qc : cmI .gt (((a.length : Int) - 1) - ((b.length : Int) - 1)) 0 = false := decide_eq_false q
              rw [if_neg q] at h5
              cases h5
              exact (ex_if_f (ev_cmpI (ev_var rfl rfl) ev_int) qc).trans ex_skip
          simp only [hbody, Option.bind_some]
          exact ih
        · cases e
      · rename_i hb
        cases e
        have e : cmI .gt ((b.length : Int) - 1) 0 = false := decide_eq_false (by omega)
        rw [e]
        exact ⟨g, x5, x6, rfl⟩
    · cases e

theorem rowL_len : ∀ {F : Nat} {a b : List Int} {s g h : Int} {a' b' : List Int} {s' h' : Int}, rowL F a b s g h = some (a', b', s', h') → a'.length ≤ 100 ∧ b'.length ≤ 100
  | 0, _, _, _, _, _, _, _, _, _, e => by rw [rowL] at e; cases e
  | F + 1, _, _, _, _, _, _, _, _, _, e => by
    rw [rowL] at e
    split at e
    · rename_i hg
      split at e
      · obtain ⟨rest, h1, e⟩ := bnd e
        obtain ⟨hp, h2, e⟩ := bnd e
        obtain ⟨d, h3, e⟩ := bnd e
        obtain ⟨b₂, h4, e⟩ := bnd e
        obtain ⟨h₂, h5, e⟩ := bnd e
        split at e
        · exact rowL_len e
        · cases e
      · cases e; exact hg
    · cases e

theorem O_row_resultant {a b : List Int} {s r : Int} (e : rowP a b s = some r) : O (n + 6) "row_resultant" [zl a, zl b, .int s] μ = some (.int r, μ) := by
  unfold rowP at e
  obtain ⟨⟨a', b', s', h'⟩, h1, e⟩ := bnd e
  obtain ⟨g', y5, y6, lp⟩ := row_loop (n := n) (μ := μ) 1000 a b s 1 1 a' b' s' h' .unb .unb h1
  obtain ⟨l1, l2⟩ := rowL_len h1
  show runFn (O (n + 5)) fuel frow_resultant [zl a, zl b, .int s] μ = _
  have pre : ∀ rest, ex (O (n + 5)) fuel (.seq (.asgT [3, 4] (.tup2 (.int 1) (.int 1))) (.seq (.whileS rowTest rowBody) rest)) [zl a, zl b, .int s, .unb, .unb, .unb, .unb, .unb] μ = ex (O (n + 5)) fuel rest [zl a', zl b', .int s', .int g', .int h', y5, y6, .unb] μ := fun rest =>
    (ex_seq (ex_asgT (ev_tup2 ev_int ev_int) rfl)).trans (ex_seq (ex_while lp))
  have eqb : ∀ c, (b'.isEmpty = c) → ev (O (n + 5)) (.cmp .eq (.var 1) .nil) [zl a', zl b', .int s', .int g', .int h', y5, y6, .unb] μ = some (.bool c, μ) := fun c hc =>
    ev_cmp (ev_var (v := zl b') rfl rfl) ev_nil (by rw [← hc]; cases b' <;> rfl)
  dsimp only at e
  cases b' with
  | nil =>
    cases e
    refine run_of (f := frow_resultant) (σ' := [zl a', zl [], .int s', .int g', .int h', y5, y6, .unb]) (fl := .ret (.int 0)) rfl ((pre _).trans ?_)
    exact ex_seq_ret ((ex_if_t (eqb true rfl) rfl).trans (ex_seq_ret (ex_ret ev_int)))
  | cons x xs =>
    dsimp only at e
    refine run_of (f := frow_resultant) (σ' := [zl a', zl (x :: xs), .int s', .int g', .int h', y5, y6, .int ((a'.length : Int) - 1)]) (fl := .ret (.int r)) rfl ((pre _).trans ?_)
    refine (ex_seq ((ex_if_f (eqb false rfl) rfl).trans ex_skip)).trans ?_
    refine (ex_seq (ex_asg (ev_call1 (ev_var (v := zl a') rfl rfl) (O_zdegree (by omega))) (Nat.le_of_ble_eq_true rfl))).trans ?_
    refine ex_seq_ret (ex_ret ?_)
    split at e
    · rename_i q
      have qc : cmI .gt ((a'.length : Int) - 1) 0 = true := decide_eq_true q
      obtain ⟨p, p1, e⟩ := bnd e
      obtain ⟨qq, p2, e⟩ := bnd e
      obtain ⟨d, p3, e⟩ := bnd e
      refine ev_bin (ev_var rfl rfl) ((ev_ite_t (ev_cmpI (ev_var rfl rfl) ev_int) qc).trans ?_) (bin_mul e)
      have it : itemV ((x :: xs).map V.int) ((0 : Nat) : Int) = some (.int x) := itemV_get (l := x :: xs) (i := 0) (by simp) (by omega)
      exact ev_bin (ev_bin (ev_item (xs := (x :: xs).map V.int) (k := 0) (v := .int x) (ev_var (v := zl (x :: xs)) rfl rfl) ev_int rfl it) (ev_var rfl rfl) (bin_pow p1)) (ev_bin (ev_var rfl rfl) (ev_bin (ev_var rfl rfl) ev_int rfl) (bin_pow p2)) (bin_div p3)
    · rename_i q
      have qc : cmI .gt ((a'.length : Int) - 1) 0 = false := decide_eq_false q
      exact ev_bin (ev_var rfl rfl) ((ev_ite_f (ev_cmpI (ev_var rfl rfl) ev_int) qc).trans ev_int) (bin_mul e)

theorem small_of {l : List Int} (h : small l = true) : l.length ≤ 100 ∧ ∀ x ∈ l, x.natAbs < 1000 := by
  unfold small at h
  obtain ⟨h1, h2⟩ := and2 h
  rw [List.all_eq_true] at h2
  exact ⟨of_decide_eq_true h1, fun x hx => of_decide_eq_true (h2 x hx)⟩

theorem O_resultant {a b : List Int} {r : Int} (e : resP a b = some r) : O (n + 7) "resultant" [zl a, zl b] μ = some (.int r, μ) := by
  unfold resP at e
  split at e
  · rename_i hg
    obtain ⟨g1, g2, g3, g4⟩ := hg
    obtain ⟨la, sa⟩ := small_of g3
    obtain ⟨lb, sb⟩ := small_of g4
    obtain ⟨p, h1, e⟩ := bnd e
    obtain ⟨q, h2, e⟩ := bnd e
    obtain ⟨sh, h3, e⟩ := bnd e
    obtain ⟨a', h4, e⟩ := bnd e
    obtain ⟨b', h5, e⟩ := bnd e
    obtain ⟨rr, h6, e⟩ := bnd e
    show runFn (O (n + 6)) fuel fresultant [zl a, zl b] μ = _
    refine run_of (f := fresultant) (σ' := [zl a, zl b, .int 1, .int (gcdA 0 a), .int (gcdA 0 b), .int sh]) (fl := .ret (.int r)) rfl ?_
    have ne : ∀ (c : List Int) (i : Nat), 0 < c.length → ∀ σ : List V, σ[i]? = some (zl c) → ev (O (n + 6)) (.cmp .eq (.var i) .nil) σ μ = some (.bool false, μ) := fun c i hc σ hs =>
      ev_cmp (ev_var hs rfl) ev_nil (by cases c with
        | nil => simp at hc
        | cons => rfl)
    refine (ex_seq ((ex_if_f ((ev_or_f (ne a 0 (by omega) _ rfl) rfl).trans (ne b 1 g1 _ rfl)) rfl).trans ex_skip)).trans ?_
    refine (ex_seq (ex_asg ev_int (Nat.le_of_ble_eq_true rfl))).trans ?_
    have qc : cmI .lt ((a.length : Int) - 1) ((b.length : Int) - 1) = false := decide_eq_false (by omega)
    refine (ex_seq ((ex_if_f (ev_cmpI (ev_call1 (ev_var (v := zl a) rfl rfl) (O_zdegree (by omega))) (ev_call1 (ev_var (v := zl b) rfl rfl) (O_zdegree (by omega)))) qc).trans ex_skip)).trans ?_
    refine (ex_seq (ex_asgR (ev_tup2 (ev_call1 (ev_var (v := zl a) rfl rfl) (O_zcontent (by omega) sa)) (ev_call1 (ev_var (v := zl b) rfl rfl) (O_zcontent (by omega) sb))) rfl)).trans ?_
    refine (ex_seq (ex_asg (ev_bin (ev_bin (ev_var rfl rfl) (ev_call1 (ev_var (v := zl b) rfl rfl) (O_zdegree (by omega))) (bin_pow h1)) (ev_bin (ev_var rfl rfl) (ev_call1 (ev_var (v := zl a) rfl rfl) (O_zdegree (by omega))) (bin_pow h2)) (bin_mul h3)) (Nat.le_of_ble_eq_true rfl))).trans ?_
    refine ex_seq_ret (ex_ret (ev_bin (ev_var rfl rfl) (ev_call3 (ev_call2 (ev_var (v := zl a) rfl rfl) (ev_var rfl rfl) (O_divided (by omega) h4)) (ev_call2 (ev_var (v := zl b) rfl rfl) (ev_var rfl rfl) (O_divided (by omega) h5)) (ev_var rfl rfl) (O_row_resultant h6)) (bin_mul e)))
  · cases e

theorem O_discriminant {f : List Int} {r : Int} (e : discP f = some r) : O (n + 8) "discriminant" [zl f] μ = some (.int r, μ) := by
  unfold discP at e
  split at e
  · rename_i hg
    obtain ⟨d, h1, e⟩ := bnd e
    obtain ⟨rr, h2, e⟩ := bnd e
    obtain ⟨found, h3, e⟩ := bnd e
    obtain ⟨m2, h4, e⟩ := bnd e
    obtain ⟨m3, h5, e⟩ := bnd e
    cases e
    show runFn (O (n + 7)) fuel fdiscriminant [zl f] μ = _
    refine run_of (f := fdiscriminant) (σ' := [zl f, .int ((f.length : Int) - 1), .int found]) (fl := .ret (.int (if m3.fmod 2 = 1 then -found else found))) rfl ?_
    refine (ex_seq (ex_asg (ev_call1 (ev_var (v := zl f) rfl rfl) (O_zdegree (by omega))) (Nat.le_of_ble_eq_true rfl))).trans ?_
    have qc : cmI .lt ((f.length : Int) - 1) 1 = false := decide_eq_false (by omega)
    refine (ex_seq ((ex_if_f (ev_cmpI (ev_var rfl rfl) ev_int) qc).trans ex_skip)).trans ?_
    refine (ex_seq (ex_asg (ev_bin (ev_call2 (ev_var (v := zl f) rfl rfl) (ev_call1 (ev_var (v := zl f) rfl rfl) (O_zderive (by omega) h1)) (O_resultant h2)) (ev_call1 (ev_var (v := zl f) rfl rfl) (O_zlead (by omega))) (bin_div h3)) (Nat.le_of_ble_eq_true rfl))).trans ?_
    refine ex_seq_ret (ex_ret ?_)
    have cc : ev (O (n + 7)) (.cmp .eq (.bin .fmod (.bin .fdiv (.bin .mul (.var 1) (.bin .sub (.var 1) (.int 1))) (.int 2)) (.int 2)) (.int 1)) [zl f, .int ((f.length : Int) - 1), .int found] μ = some (.bool (cmI .eq (m3.fmod 2) 1), μ) :=
      ev_cmpI (ev_bin (ev_bin (ev_bin (ev_var rfl rfl) (ev_bin (ev_var rfl rfl) ev_int rfl) (bin_mul h4)) ev_int (bin_div h5)) ev_int bin_mod2) ev_int
    by_cases q : m3.fmod 2 = 1
    · rw [if_pos q]
      exact (ev_ite_t cc (beq_iff_eq.mpr q)).trans (ev_neg (ev_var rfl rfl))
    · rw [if_neg q]
      exact (ev_ite_f cc (beq_eq_false_iff_ne.mpr q)).trans (ev_var rfl rfl)
  · cases e

end
end Mine

namespace Mine
open PySem
set_option maxRecDepth 100000
set_option autoImplicit false

/-- not large -/
noncomputable def Bd (k : Nat) (x : Int) : Prop := x.natAbs < 2 ^ k
theorem Bd.fits {k : Nat} {x : Int} (h : Bd k x) (hk : k ≤ 2000) : fits x = true :=
  decide_eq_true (Nat.lt_of_lt_of_le h (Nat.pow_le_pow_right (by decide) hk))
theorem Bd.mono {k k' : Nat} {x : Int} (h : Bd k x) (hk : k ≤ k') : Bd k' x := Nat.lt_of_lt_of_le h (Nat.pow_le_pow_right (by decide) hk)
theorem Bd.mul {k k' : Nat} {x y : Int} (h : Bd k x) (h' : Bd k' y) : Bd (k + k') (x * y) := by
  unfold Bd at *
  rw [Int.natAbs_mul, Nat.pow_add]
  exact Nat.mul_lt_mul'' h h'
theorem Bd.add {k : Nat} {x y : Int} (h : Bd k x) (h' : Bd k y) : Bd (k + 1) (x + y) := by
  unfold Bd at *
  rw [Nat.pow_succ]
  omega
theorem Bd.sub {k : Nat} {x y : Int} (h : Bd k x) (h' : Bd k y) : Bd (k + 1) (x - y) := by
  unfold Bd at *
  rw [Nat.pow_succ]
  omega
theorem Bd.neg {k : Nat} {x : Int} (h : Bd k x) : Bd k (-x) := by
  unfold Bd at *
  omega
theorem mulO_bd {k k' : Nat} {x y : Int} (h : Bd k x) (h' : Bd k' y) (hk : k ≤ 2000) (hk' : k' ≤ 2000) : mulO x y = some (x * y) := by
  unfold mulO
  rw [h.fits hk, h'.fits hk']
  rfl
theorem divO_bd {k k' : Nat} {x y : Int} (h : Bd k x) (h' : Bd k' y) (hk : k ≤ 2000) (hk' : k' ≤ 2000) (h0 : y ≠ 0) : divO x y = some (x.fdiv y) := by
  unfold divO
  rw [if_pos ⟨h0, h.fits hk, h'.fits hk'⟩]
theorem powO_bd {k : Nat} {x e : Int} (h : Bd k x) (hk : k ≤ 2000) (h0 : 0 ≤ e) (h1 : e ≤ 1000) : powO x e = some (x ^ e.toNat) := by
  unfold powO
  rw [if_pos ⟨h0, h1, h.fits hk⟩]

theorem ev_upto {orc : Orc} {σ : List V} {μ μ₁ μ₂ : Store} {a i : E} {l : List Int} {k : Nat} (ha : ev orc a σ μ = some (zl l, μ₁)) (hi : ev orc i σ μ₁ = some (.int k, μ₂)) (hl : l.length ≤ 1000) (hk : k ≤ 1000) : ev orc (.upto a i) σ μ = some (zl (l.take k), μ₂) := by
  have h1 : (0 : Int) ≤ (k : Int) ∧ (k : Int) ≤ (lim : Int) ∧ (l.map V.int).length ≤ lim := by
    rw [lim_eq, List.length_map]; omega
  rw [ev, ha]
  simp only [Option.bind_eq_bind, Option.bind_some, hi, zl]
  rw [if_pos h1]
  simp [List.map_take]

noncomputable def rootStep (x : Int) (f : List Int) : List Int := List.zipWith (fun l r => l - x * r) (0 :: f) (f ++ [0])
noncomputable def rootL : List Int → List Int → List Int
  | f, [] => f
  | f, x :: r => rootL (rootStep x f) r

noncomputable def sprRow (x : Int) : Int → List Int → Int
  | a, [] => a
  | a, y :: r => sprRow x (a * (x - y)) r
noncomputable def sprL : Int → List Int → List Int → Int
  | a, _, [] => a
  | a, pre, x :: r => sprL (sprRow x a pre) (pre ++ [x]) r

section
variable {n : Nat} {μ : Store}

theorem rooted_comp {orc : Orc} {σ : List V} {x : Int} {caps : List Nat} {k : Nat} (hc : (caps.map fun i => σ.getD i .unb) = [.int x]) (hx : Bd 3 x) (hk : k ≤ 100) : ∀ (a b : List Int), (∀ y ∈ b, Bd k y) →
    compL (compF orc true caps (.bool true) (.bin .sub (.var 1) (.bin .mul (.var 0) (.var 2))) σ) (zipV (a.map V.int) (b.map V.int)) μ = some ((List.zipWith (fun l r => l - x * r) a b).map V.int, μ)
  | [], b, _ => by simp [zipV, compL]
  | u :: a, [], _ => by simp [zipV, compL]
  | u :: a, v :: b, h => by
    have hv := h v (List.mem_cons_self ..)
    rw [List.map_cons, List.map_cons, zipV, compL, compF_two (b := [.int x, .int u, .int v]) (y := .int (u - x * v)) (by rw [hc]; rfl) (ev_bin (ev_var rfl rfl) (ev_bin (ev_var rfl rfl) (ev_var rfl rfl) (bin_mul (mulO_bd hx hv (by omega) (by omega)))) rfl)]
    simp [rooted_comp hc hx hk a b fun y hy => h y (List.mem_cons_of_mem _ hy)]

theorem rootStep_len (x : Int) (f : List Int) : (rootStep x f).length = f.length + 1 := by
  simp [rootStep]
theorem zip_bd {x : Int} {k : Nat} (hx : Bd 3 x) : ∀ (a b : List Int), (∀ y ∈ a, Bd k y) → (∀ y ∈ b, Bd k y) → ∀ z ∈ List.zipWith (fun l r => l - x * r) a b, Bd (k + 4) z
  | [], _, _, _, z, hz => by simp at hz
  | _ :: _, [], _, _, z, hz => by simp at hz
  | u :: a, v :: b, ha, hb, z, hz => by
    rw [List.zipWith_cons_cons] at hz
    rcases List.mem_cons.mp hz with rfl | hz
    · have h1 := hx.mul (hb v (List.mem_cons_self ..))
      have h2 := (ha u (List.mem_cons_self ..)).mono (show k ≤ 3 + k by omega)
      exact (h2.sub h1).mono (by omega)
    · exact zip_bd hx a b (fun y hy => ha y (List.mem_cons_of_mem _ hy)) (fun y hy => hb y (List.mem_cons_of_mem _ hy)) z hz
theorem bd_zero {k : Nat} : Bd k 0 := by unfold Bd; simp; exact Nat.two_pow_pos k
theorem rootStep_bd {x : Int} {f : List Int} {k : Nat} (hx : Bd 3 x) (hf : ∀ y ∈ f, Bd k y) : ∀ z ∈ rootStep x f, Bd (k + 4) z :=
  zip_bd hx _ _ (fun y hy => by
    rcases List.mem_cons.mp hy with rfl | hy
    · exact bd_zero
    · exact hf y hy) fun y hy => by
    rcases List.mem_append.mp hy with hy | hy
    · exact hf y hy
    · rw [List.mem_singleton.mp hy]; exact bd_zero
theorem rootL_bd : ∀ {l f : List Int} {k : Nat}, (∀ x ∈ l, Bd 3 x) → (∀ y ∈ f, Bd k y) → ∀ z ∈ rootL f l, Bd (k + 4 * l.length) z
  | [], f, k, _, hf => by simpa [rootL] using hf
  | x :: l, f, k, hl, hf => by
    have := rootL_bd (l := l) (f := rootStep x f) (k := k + 4) (fun y hy => hl y (List.mem_cons_of_mem _ hy)) (rootStep_bd (hl x (List.mem_cons_self ..)) hf)
    intro z hz
    exact (this z hz).mono (by rw [List.length_cons]; omega)
theorem rootL_len : ∀ (l f : List Int), (rootL f l).length = f.length + l.length
  | [], f => by simp [rootL]
  | x :: l, f => by rw [rootL, rootL_len l, rootStep_len, List.length_cons]; omega

theorem rooted_loop : ∀ (l f : List Int) (k : Nat) (l0 z : V), l.length + k ≤ 20 → f.length ≤ 20 + k → (∀ x ∈ l, Bd 3 x) → (∀ y ∈ f, Bd (4 * k) y) →
    ∃ z', forL [2] (fun σ μ => ex (O n) fuel (.seq (.asgC 1 (.comp false true .zip [2] (.bin .add (.single (.int 0)) (.var 1)) (.bin .add (.var 1) (.single (.int 0))) (.bool true) (.bin .sub (.var 1) (.bin .mul (.var 0) (.var 2))))) .skip) σ μ) (l.map V.int) [l0, zl f, z] μ = some ([l0, zl (rootL f l), z'], μ, .next)
  | [], f, k, l0, z, _, _, _, _ => ⟨z, by simp [forL, rootL]⟩
  | x :: l, f, k, l0, z, hk, hfl, hl, hf => by
    have hx := hl x (List.mem_cons_self ..)
    rw [List.length_cons] at hk
    obtain ⟨z', e⟩ := rooted_loop l (rootStep x f) (k + 1) l0 (.int x) (by omega) (by rw [rootStep_len]; omega) (fun y hy => hl y (List.mem_cons_of_mem _ hy)) (fun y hy => (rootStep_bd hx hf y hy).mono (by omega))
    refine ⟨z', ?_⟩
    rw [List.map_cons, forL]
    have t : tgtS [2] (V.int x) [l0, zl f, z] = some [l0, zl f, .int x] := rfl
    have hlim : 1 + f.length ≤ lim := by rw [lim_eq]; omega
    have hlim' : f.length + 1 ≤ lim := by rw [lim_eq]; omega
    have c : ev (O n) (.comp false true .zip [2] (.bin .add (.single (.int 0)) (.var 1)) (.bin .add (.var 1) (.single (.int 0))) (.bool true) (.bin .sub (.var 1) (.bin .mul (.var 0) (.var 2)))) [l0, zl f, .int x] μ = some (zl (rootStep x f), μ) := by
      have s1 : ev (O n) (.bin .add (.single (.int 0)) (.var 1)) [l0, zl f, .int x] μ = some (zl (0 :: f), μ) :=
        ev_bin (ev_single ev_int) (ev_var rfl rfl) (by simp [binV, zl, hlim])
      have s2 : ev (O n) (.bin .add (.var 1) (.single (.int 0))) [l0, zl f, .int x] μ = some (zl (f ++ [0]), μ) :=
        ev_bin (ev_var rfl rfl) (ev_single ev_int) (by simp [binV, zl, hlim'])
      rw [ev_comp_eq, s1]
      simp only [Option.bind_eq_bind, Option.bind_some, s2]
      have h3 : srcV .zip (zl (0 :: f)) (zl (f ++ [0])) = some (zipV ((0 :: f).map V.int) ((f ++ [0]).map V.int)) := by
        simp [srcV, zl, hlim']
      rw [h3]
      have h4 := rooted_comp (μ := μ) (orc := O n) (σ := [l0, zl f, .int x]) (x := x) (caps := [2]) (k := 4 * k) rfl hx (by omega) (0 :: f) (f ++ [0]) fun y hy => by
        rcases List.mem_append.mp hy with hy | hy
        · exact hf y hy
        · rw [List.mem_singleton.mp hy]; exact bd_zero
      simp only [Option.bind_some, h4]
      rfl
    have b : ex (O n) fuel (.seq (.asgC 1 (.comp false true .zip [2] (.bin .add (.single (.int 0)) (.var 1)) (.bin .add (.var 1) (.single (.int 0))) (.bool true) (.bin .sub (.var 1) (.bin .mul (.var 0) (.var 2))))) .skip) [l0, zl f, .int x] μ = some ([l0, zl (rootStep x f), .int x], μ, .next) :=
      (ex_seq (ex_asgC c (Nat.le_of_ble_eq_true rfl))).trans ex_skip
    simp only [t, Option.bind_eq_bind, Option.bind_some, b, e, rootL]

theorem O_rooted {l : List Int} (hl : l.length ≤ 10) (h : ∀ x ∈ l, Bd 3 x) : O (n + 1) "_law_rooted" [zl l] μ = some (zl (rootL [1] l), μ) := by
  obtain ⟨z', e⟩ := rooted_loop (n := n) (μ := μ) l [1] 1 (zl l) .unb (by omega) (by simp) h (by simp [Bd])
  show runFn (O n) fuel f_law_rooted [zl l] μ = _
  refine run_of (f := f_law_rooted) (σ' := [zl l, zl (rootL [1] l), z']) (fl := .ret (zl (rootL [1] l))) rfl ?_
  refine (ex_seq (ex_asg (v := zl [1]) (ev_single ev_int) (Nat.le_of_ble_eq_true rfl))).trans ?_
  exact (ex_seq ((ex_for (ev_var rfl rfl) ev_nil (turns_ints (by omega))).trans e)).trans (ex_seq_ret (ex_ret (ev_var rfl rfl)))

theorem spread_row {orc : Orc} : ∀ (pre : List Int) (x a : Int) (k : Nat) (l0 at' z : V), pre.length + k ≤ 100 → Bd 3 x → (∀ y ∈ pre, Bd 3 y) → Bd (4 * k) a →
    ∃ z', forL [4] (fun σ μ => ex orc fuel (.seq (.asg 1 (.bin .mul (.var 1) (.bin .sub (.var 3) (.var 4)))) .skip) σ μ) (pre.map V.int) [l0, .int a, at', .int x, z] μ = some ([l0, .int (sprRow x a pre), at', .int x, z'], μ, .next) ∧ Bd (4 * (k + pre.length)) (sprRow x a pre)
  | [], x, a, k, l0, at', z, _, _, _, ha => ⟨z, by simp [forL, sprRow], by simpa [sprRow] using ha⟩
  | y :: pre, x, a, k, l0, at', z, hk, hx, hp, ha => by
    rw [List.length_cons] at hk
    have hd := hx.sub (hp y (List.mem_cons_self ..))
    obtain ⟨z', e, e'⟩ := spread_row (orc := orc) pre x (a * (x - y)) (k + 1) l0 at' (.int y) (by omega) hx (fun w hw => hp w (List.mem_cons_of_mem _ hw)) ((ha.mul hd).mono (by omega))
    refine ⟨z', ?_, by rw [sprRow, List.length_cons]; exact e'.mono (by omega)⟩
    rw [List.map_cons, forL]
    have t : tgtS [4] (V.int y) [l0, .int a, at', .int x, z] = some [l0, .int a, at', .int x, .int y] := rfl
    have b : ex orc fuel (.seq (.asg 1 (.bin .mul (.var 1) (.bin .sub (.var 3) (.var 4)))) .skip) [l0, .int a, at', .int x, .int y] μ = some ([l0, .int (a * (x - y)), at', .int x, .int y], μ, .next) :=
      (ex_seq (ex_asg (ev_bin (ev_var rfl rfl) (ev_bin (ev_var rfl rfl) (ev_var rfl rfl) rfl) (bin_mul (mulO_bd ha hd (by omega) (by omega)))) (Nat.le_of_ble_eq_true rfl))).trans ex_skip
    simp only [t, Option.bind_eq_bind, Option.bind_some, b, e, sprRow]

theorem spread_loop {orc : Orc} {all : List Int} (hall : ∀ x ∈ all, Bd 3 x) (hlen : all.length ≤ 8) : ∀ (r pre : List Int) (a : Int) (k : Nat) (z2 z3 z4 : V), pre ++ r = all → r.length * 8 + k ≤ 100 → Bd (4 * k) a →
    ∃ y2 y3 y4, forL [2, 3] (fun σ μ => ex orc fuel (.seq (.forS [4] .plain (.upto (.var 0) (.var 2)) .nil (.seq (.asg 1 (.bin .mul (.var 1) (.bin .sub (.var 3) (.var 4)))) .skip)) .skip) σ μ) (enumV (pre.length : Int) (r.map V.int)) [zl all, .int a, z2, z3, z4] μ = some ([zl all, .int (sprL a pre r), y2, y3, y4], μ, .next) ∧ Bd 400 (sprL a pre r)
  | [], pre, a, k, z2, z3, z4, _, hk, ha => ⟨z2, z3, z4, by simp [forL, enumV, sprL], by rw [sprL]; exact ha.mono (by simp at hk; omega)⟩
  | x :: r, pre, a, k, z2, z3, z4, e0, hk, ha => by
    rw [List.length_cons] at hk
    have hpl : pre.length + 1 ≤ all.length := by rw [← e0]; simp
    have hx : Bd 3 x := hall x (by rw [← e0]; simp)
    obtain ⟨z', e1, e2⟩ := spread_row (μ := μ) (orc := orc) pre x a k (zl all) (.int pre.length) z4 (by omega) hx (fun y hy => hall y (by rw [← e0]; simp [hy])) ha
    obtain ⟨y2, y3, y4, e3, e4⟩ := spread_loop (orc := orc) hall hlen r (pre ++ [x]) (sprRow x a pre) (k + 8) (.int pre.length) (.int x) z' (by rw [← e0]; simp) (by omega) (e2.mono (by omega))
    refine ⟨y2, y3, y4, ?_, by rw [sprL]; exact e4⟩
    rw [List.map_cons, enumV, forL]
    have t : tgtS [2, 3] (.tup [.int (pre.length : Int), .int x]) [zl all, .int a, z2, z3, z4] = some [zl all, .int a, .int pre.length, .int x, z4] := rfl
    have up : ev orc (.upto (.var 0) (.var 2)) [zl all, .int a, .int pre.length, .int x, z4] μ = some (zl pre, μ) := by
      have q := ev_upto (orc := orc) (a := .var 0) (i := .var 2) (σ := [zl all, .int a, .int pre.length, .int x, z4]) (μ := μ) (ev_var (v := zl all) rfl rfl) (ev_var rfl rfl) (by omega) (by omega)
      rw [q, ← e0, List.take_left']
      rfl
    have b : ex orc fuel (.seq (.forS [4] .plain (.upto (.var 0) (.var 2)) .nil (.seq (.asg 1 (.bin .mul (.var 1) (.bin .sub (.var 3) (.var 4)))) .skip)) .skip) [zl all, .int a, .int pre.length, .int x, z4] μ = some ([zl all, .int (sprRow x a pre), .int pre.length, .int x, z'], μ, .next) :=
      (ex_seq ((ex_for up ev_nil (turns_ints (by omega))).trans e1)).trans ex_skip
    simp only [t, Option.bind_eq_bind, Option.bind_some, b]
    have e3' : ((pre ++ [x]).length : Int) = (pre.length : Int) + 1 := by simp
    rw [e3'] at e3
    simp only [e3, sprL]

theorem O_spread {l : List Int} (hl : l.length ≤ 8) (h : ∀ x ∈ l, Bd 3 x) : O (n + 1) "_law_spread" [zl l] μ = some (.int (sprL 1 [] l), μ) ∧ Bd 400 (sprL 1 [] l) := by
  obtain ⟨y2, y3, y4, e, e'⟩ := spread_loop (μ := μ) (orc := O n) h hl l [] 1 1 .unb .unb .unb rfl (by omega) (by unfold Bd; decide)
  refine ⟨?_, e'⟩
  show runFn (O n) fuel f_law_spread [zl l] μ = _
  refine run_of (f := f_law_spread) (σ' := [zl l, .int (sprL 1 [] l), y2, y3, y4]) (fl := .ret (.int (sprL 1 [] l))) rfl ?_
  refine (ex_seq (ex_asg ev_int (Nat.le_of_ble_eq_true rfl))).trans ?_
  have hlim : (l.map V.int).length ≤ lim := by rw [lim_eq, List.length_map]; omega
  exact (ex_seq ((ex_for (its := enumV ((0 : Nat) : Int) (l.map V.int)) (ev_var (v := zl l) rfl rfl) ev_nil (by simp only [srcV, zl]; rw [if_pos hlim]; rfl)).trans e)).trans (ex_seq_ret (ex_ret (ev_var rfl rfl)))

end
end Mine

namespace Mine
open PySem
set_option maxRecDepth 100000
set_option autoImplicit false

theorem mapr_set (f : Nat → V) (n i : Nat) (v : V) : ((List.range n).map f).set i v = (List.range n).map fun j => if j = i then v else f j := by
  apply List.ext_getElem
  · simp
  · intro j h1 h2
    simp only [List.getElem_set, List.getElem_map, List.getElem_range]
    by_cases e : i = j
    · subst e; simp
    · rw [if_neg e, if_neg (fun q => e q.symm)]
theorem mapr_get (f : Nat → V) {n i : Nat} (h : i < n) : ((List.range n).map f)[i]? = some (f i) := by
  simp [h]
theorem itemV_mapr (f : Nat → V) {n i : Nat} (h : i < n) (hn : n ≤ 1000) : itemV ((List.range n).map f) (i : Int) = some (f i) := by
  unfold itemV
  rw [if_pos (by rw [lim_eq, List.length_map, List.length_range]; omega), if_pos (by omega)]
  simp [h]
theorem turns_nat {lo hi : Nat} (h1 : lo ≤ 1000) (h2 : hi ≤ 1000) : srcV .plain (.rng lo hi) (.list []) = some ((List.range' lo (hi - lo)).map fun i : Nat => V.int (i : Int)) := by
  simp only [srcV, turns?]
  rw [if_pos (by rw [lim_eq]; omega)]
  have : ((hi : Int) - (lo : Int)).toNat = hi - lo := by omega
  rw [this, List.range'_eq_map_range, List.map_map]
  rfl

noncomputable def rowV (M : Nat → Nat → Int) (n i : Nat) : List V := (List.range n).map fun c => V.int (M i c)

/-- a table of the store -/
structure Mat (μ : Store) (t : Nat) (p : Nat → Nat) (n : Nat) (M : Nat → Nat → Int) : Prop where
  tab : μ[t]? = some ((List.range n).map fun i => V.ref (p i))
  inj : ∀ i j, i < n → j < n → p i = p j → i = j
  off : ∀ i, i < n → p i ≠ t
  row : ∀ i, i < n → μ[p i]? = some (rowV M n i)

theorem Mat.congr {μ : Store} {t : Nat} {p : Nat → Nat} {n : Nat} {M M' : Nat → Nat → Int} (h : Mat μ t p n M) (e : ∀ r c, r < n → c < n → M r c = M' r c) : Mat μ t p n M' where
  tab := h.tab
  inj := h.inj
  off := h.off
  row i hi := by
    rw [h.row i hi]
    congr 1
    apply List.map_congr_left
    intro c hc
    rw [e i c hi (List.mem_range.mp hc)]

noncomputable def upd (M : Nat → Nat → Int) (r c : Nat) (v : Int) : Nat → Nat → Int := fun r' c' => if r' = r ∧ c' = c then v else M r' c'

theorem Mat.set {μ : Store} {t : Nat} {p : Nat → Nat} {n : Nat} {M : Nat → Nat → Int} (h : Mat μ t p n M) {r c : Nat} (hr : r < n) (hc : c < n) (v : Int) : Mat (μ.set (p r) ((rowV M n r).set c (.int v))) t p n (upd M r c v) where
  tab := by rw [List.getElem?_set_ne (h.off r hr)]; exact h.tab
  inj := h.inj
  off := h.off
  row i hi := by
    by_cases e : i = r
    · subst e
      have hlt : p i < μ.length := (List.getElem?_eq_some_iff.mp (h.row i hi)).1
      rw [List.getElem?_set_self hlt]
      congr 1
      unfold rowV
      rw [mapr_set]
      apply List.map_congr_left
      intro c' _
      unfold upd
      by_cases q : c' = c
      · rw [if_pos q, if_pos ⟨rfl, q⟩]
      · rw [if_neg q, if_neg (fun z => q z.2)]
    · have hne : p r ≠ p i := fun q => e (h.inj _ _ hi hr q.symm)
      rw [List.getElem?_set_ne hne, h.row i hi]
      congr 1
      apply List.map_congr_left
      intro c' _
      unfold upd
      rw [if_neg (fun z => e z.1)]

noncomputable def swp (r k i : Nat) : Nat := if i = k then r else if i = r then k else i
theorem swp_lt {r k i n : Nat} (hr : r < n) (hk : k < n) (hi : i < n) : swp r k i < n := by
  unfold swp; split
  · exact hr
  · split
    · exact hk
    · exact hi
theorem swp_inj {r k i j : Nat} (h : swp r k i = swp r k j) : i = j := by
  unfold swp at h
  split at h <;> split at h <;> (try split at h) <;> (try split at h) <;> omega
noncomputable def swpM (M : Nat → Nat → Int) (r k : Nat) : Nat → Nat → Int := fun i c => M (swp r k i) c

theorem Mat.swap {μ : Store} {t : Nat} {p : Nat → Nat} {n : Nat} {M : Nat → Nat → Int} (h : Mat μ t p n M) {r k : Nat} (hr : r < n) (hk : k < n) :
    Mat (μ.set t ((List.range n).map fun i => V.ref (p (swp r k i)))) t (fun i => p (swp r k i)) n (swpM M r k) where
  tab := by
    have hlt : t < μ.length := (List.getElem?_eq_some_iff.mp h.tab).1
    rw [List.getElem?_set_self hlt]
  inj i j hi hj e := swp_inj (h.inj _ _ (swp_lt hr hk hi) (swp_lt hr hk hj) e)
  off i hi := h.off _ (swp_lt hr hk hi)
  row i hi := by
    rw [List.getElem?_set_ne (fun q => h.off _ (swp_lt hr hk hi) q.symm), h.row _ (swp_lt hr hk hi)]
    rfl

section
variable {m : Nat} {orc : Orc} {μ : Store} {t n : Nat} {p : Nat → Nat} {M : Nat → Nat → Int} {σ : List V}

theorem ev_rowOf {ta ti i : Nat} (hM : Mat μ t p n M) (hn : n ≤ 100) (h0 : σ[ta]? = some (.ref t)) (h1 : σ[ti]? = some (.int i)) (hi : i < n) : ev orc (.item (.var ta) (.var ti)) σ μ = some (.ref (p i), μ) :=
  ev_item (k := i) (ev_var h0 rfl) (ev_var h1 rfl) (x := .ref t) hM.tab (itemV_mapr (fun i => V.ref (p i)) hi (by omega))
theorem ev_cell {ta ti tc i c : Nat} (hM : Mat μ t p n M) (hn : n ≤ 100) (h0 : σ[ta]? = some (.ref t)) (h1 : σ[ti]? = some (.int i)) (h2 : σ[tc]? = some (.int c)) (hi : i < n) (hc : c < n) : ev orc (.item (.item (.var ta) (.var ti)) (.var tc)) σ μ = some (.int (M i c), μ) :=
  ev_item (k := c) (ev_rowOf hM hn h0 h1 hi) (ev_var h2 rfl) (x := .ref (p i)) (hM.row i hi) (itemV_mapr (fun c => V.int (M i c)) hc (by omega))
theorem ev_tabLen {ta : Nat} (hM : Mat μ t p n M) (hn : n ≤ 100) (h0 : σ[ta]? = some (.ref t)) : ev orc (.len (.var ta)) σ μ = some (.int n, μ) := by
  have := ev_len (orc := orc) (a := .var ta) (σ := σ) (μ := μ) (x := .ref t) (ev_var h0 rfl) hM.tab (by rw [List.length_map, List.length_range]; omega)
  rw [List.length_map, List.length_range] at this
  exact this

/-- where the next pivot lies -/
noncomputable def piv (M : Nat → Nat → Int) (k : Nat) : Nat → Nat → Option Nat
  | 0, _ => none
  | c + 1, r => if M r k ≠ 0 then some r else piv M k c (r + 1)
noncomputable def pivV : Option Nat → V
  | some r => .int r
  | none => .none

theorem piv_loop {k : Nat} (hM : Mat μ t p n M) (hn : n ≤ 100) (hk : k < n) : ∀ (c r : Nat) (z : V), r + c ≤ n →
    ∃ σ', forL [2] (fun σ μ => ex orc fuel (.seq (.ifS (.cmp .ne (.item (.item (.var 0) (.var 2)) (.var 1)) (.int 0)) (.seq (.ret (.var 2)) .skip) .skip) .skip) σ μ) ((List.range' r c).map fun i : Nat => V.int (i : Int)) [.ref t, .int k, z] μ =
      some (σ', μ, match piv M k c r with | some r => .ret (.int r) | none => .next)
  | 0, r, z, _ => ⟨_, rfl⟩
  | c + 1, r, z, h => by
    rw [List.range'_succ, List.map_cons, forL, piv]
    have tt : tgtS [2] (V.int (r : Int)) [.ref t, .int k, z] = some [.ref t, .int k, .int r] := rfl
    have cc : ev orc (.cmp .ne (.item (.item (.var 0) (.var 2)) (.var 1)) (.int 0)) [.ref t, .int k, .int r] μ = some (.bool (cmI .ne (M r k) 0), μ) := ev_cmpI (ev_cell hM hn rfl rfl rfl (by omega) hk) ev_int
    by_cases hz : M r k ≠ 0
    · have e : cmI .ne (M r k) 0 = true := bne_iff_ne.mpr hz
      have b : ex orc fuel (.seq (.ifS (.cmp .ne (.item (.item (.var 0) (.var 2)) (.var 1)) (.int 0)) (.seq (.ret (.var 2)) .skip) .skip) .skip) [.ref t, .int k, .int r] μ = some ([.ref t, .int k, .int r], μ, .ret (.int r)) :=
        ex_seq_ret ((ex_if_t cc e).trans (ex_seq_ret (ex_ret (ev_var rfl rfl))))
      rw [if_pos hz]
      simp only [tt, Option.bind_eq_bind, Option.bind_some, b]
      exact ⟨_, rfl⟩
    · have e : cmI .ne (M r k) 0 = false := by simpa [cmI] using hz
      have b : ex orc fuel (.seq (.ifS (.cmp .ne (.item (.item (.var 0) (.var 2)) (.var 1)) (.int 0)) (.seq (.ret (.var 2)) .skip) .skip) .skip) [.ref t, .int k, .int r] μ = some ([.ref t, .int k, .int r], μ, .next) :=
        (ex_seq ((ex_if_f cc e).trans ex_skip)).trans ex_skip
      obtain ⟨σ', ih⟩ := piv_loop hM hn hk c (r + 1) (.int r) (by omega)
      rw [if_neg hz]
      simp only [tt, Option.bind_eq_bind, Option.bind_some, b]
      exact ⟨σ', ih⟩

theorem O_pivot {k : Nat} (hM : Mat μ t p n M) (hn : n ≤ 100) (hk : k < n) : O (m + 1) "pivot_row" [.ref t, .int k] μ = some (pivV (piv M k (n - k) k), μ) := by
  obtain ⟨σ', e⟩ := piv_loop (orc := O m) hM hn hk (n - k) k .unb (by omega)
  show runFn (O m) fuel fpivot_row [.ref t, .int k] μ = _
  have hf := (ex_for (orc := O m) (F := fuel) (tgt := [2]) (sk := .plain) (σ := [.ref t, .int k, .unb]) (src := .range2 (.var 1) (.len (.var 0))) (src2 := .nil) (ev_range2 (ev_var (v := .int k) rfl rfl) (ev_tabLen hM hn rfl)) ev_nil (turns_nat (by omega) (by omega))).trans e
  cases hp : piv M k (n - k) k with
  | some r =>
    rw [hp] at hf
    exact run_of (f := fpivot_row) (fl := .ret (.int r)) rfl (ex_seq_ret hf)
  | none =>
    rw [hp] at hf
    exact run_of (f := fpivot_row) (fl := .ret .none) rfl ((ex_seq hf).trans (ex_seq_ret (ex_ret ev_none)))

end

theorem fdiv_le (x a : Int) : (x.fdiv a).natAbs ≤ x.natAbs := by
  match x, a with
  | 0, _ => simp
  | .ofNat (x + 1), .ofNat y =>
    show ((x + 1) / y : Nat) ≤ x + 1
    exact Nat.div_le_self _ _
  | .ofNat (x + 1), .negSucc y =>
    show (Int.negSucc (x / (y + 1))).natAbs ≤ x + 1
    have := Nat.div_le_self x (y + 1)
    simp only [Int.natAbs_negSucc]; omega
  | .negSucc x, 0 => simp
  | .negSucc x, .ofNat (y + 1) =>
    show (Int.negSucc (x / (y + 1))).natAbs ≤ _
    have := Nat.div_le_self x (y + 1)
    simp only [Int.natAbs_negSucc]; omega
  | .negSucc x, .negSucc y =>
    have := Nat.div_le_self (x + 1) (y + 1)
    show (((x + 1) / (y + 1) : Nat) : Int).natAbs ≤ _
    rw [Int.natAbs_natCast, Int.natAbs_negSucc]
    exact this
theorem Bd.fdiv {k : Nat} {x : Int} (h : Bd k x) (a : Int) : Bd k (x.fdiv a) := Nat.lt_of_le_of_lt (fdiv_le x a) h

end Mine

namespace Mine
open PySem
set_option maxRecDepth 100000
set_option autoImplicit false

noncomputable def newE (M : Nat → Nat → Int) (k : Nat) (a : Int) (r c : Nat) : Int := (M r c * M k k - M r k * M k c).fdiv a
noncomputable def stepM (M : Nat → Nat → Int) (k : Nat) (a : Int) : Nat → Nat → Int := fun r c => if k < r then (if k < c then newE M k a r c else if c = k then 0 else M r c) else M r c
/-- rows up to r0 are done -/
noncomputable def stepR (M : Nat → Nat → Int) (k : Nat) (a : Int) (r0 : Nat) : Nat → Nat → Int := fun r c => if r < r0 then stepM M k a r c else M r c
/-- of row r the columns up to c0 are done -/
noncomputable def stepC (M : Nat → Nat → Int) (k : Nat) (a : Int) (r c0 : Nat) : Nat → Nat → Int := fun r' c => if r' = r ∧ k < c ∧ c < c0 then newE M k a r c else stepR M k a r r' c

section
variable {m : Nat} {orc : Orc} {t n : Nat} {p : Nat → Nat}

noncomputable def BM (e : Nat) (n : Nat) (M : Nat → Nat → Int) : Prop := ∀ r c, r < n → c < n → Bd e (M r c)

noncomputable def colBody : S := (.seq (.setI (.item (.var 0) (.var 4)) (.var 6) (.bin .fdiv (.bin .sub (.bin .mul (.item (.item (.var 0) (.var 4)) (.var 6)) (.var 3)) (.bin .mul (.var 5) (.item (.item (.var 0) (.var 1)) (.var 6)))) (.var 2))) .skip)

theorem ex_setI {orc : Orc} {F : Nat} {σ : List V} {μ μ₁ μ₂ μ₃ μ' : Store} {o i e : E} {v x y : V} (he : ev orc e σ μ = some (v, μ₁)) (ho : ev orc o σ μ₁ = some (x, μ₂)) (hi : ev orc i σ μ₂ = some (y, μ₃)) (hs : setSt μ₃ x y v = some μ') :
    ex orc F (.setI o i e) σ μ = some (σ, μ', .next) := by
  rw [ex, he]; simp [ho, hi, hs]

theorem setSt_row {μ : Store} {M : Nat → Nat → Int} (hM : Mat μ t p n M) {r c : Nat} (hr : r < n) (hc : c < n) (hn : n ≤ 100) (v : V) : setSt μ (.ref (p r)) (.int c) v = some (μ.set (p r) ((rowV M n r).set c v)) := by
  unfold setSt
  dsimp only
  rw [hM.row r hr]
  dsimp only
  rw [if_pos (by rw [lim_eq]; simp [rowV]; omega)]
  rfl

theorem col_loop {M : Nat → Nat → Int} {k r e : Nat} {a : Int} (hn : n ≤ 100) (hk : k < r) (hr : r < n) (hB : BM e n M) (ha : Bd e a) (ha0 : a ≠ 0) (he : 2 * e + 2 ≤ 2000) : ∀ (c c0 : Nat) (μ : Store) (z : V), k < c0 → c0 + c = n → Mat μ t p n (stepC M k a r c0) →
    ∃ μ' z', forL [6] (fun σ μ => ex orc fuel colBody σ μ) ((List.range' c0 c).map fun i : Nat => V.int (i : Int)) [.ref t, .int k, .int a, .int (M k k), .int r, .int (M r k), z] μ = some ([.ref t, .int k, .int a, .int (M k k), .int r, .int (M r k), z'], μ', .next) ∧ Mat μ' t p n (stepC M k a r n)
  | 0, c0, μ, z, h0, h, hM => by
    obtain rfl : c0 = n := by omega
    exact ⟨μ, z, by simp [forL], hM⟩
  | c + 1, c0, μ, z, h0, h, hM => by
    rw [List.range'_succ, List.map_cons, forL]
    have tt : tgtS [6] (V.int (c0 : Int)) [.ref t, .int k, .int a, .int (M k k), .int r, .int (M r k), z] = some [.ref t, .int k, .int a, .int (M k k), .int r, .int (M r k), .int c0] := rfl
    have hc0 : c0 < n := by omega
    have v1 : stepC M k a r c0 r c0 = M r c0 := by
      unfold stepC stepR
      rw [if_neg (by omega), if_neg (by omega)]
    have v2 : stepC M k a r c0 k c0 = M k c0 := by
      unfold stepC stepR stepM
      rw [if_neg (by omega), if_pos (by omega), if_neg (by omega)]
    have hrc := hB r c0 hr hc0
    have hkk := hB k k (by omega) (by omega)
    have hrk := hB r k hr (by omega)
    have hkc := hB k c0 (by omega) hc0
    have hnum := ((hrc.mul hkk).sub (hrk.mul hkc))
    have g1 := ev_cell (orc := orc) (σ := [.ref t, .int k, .int a, .int (M k k), .int r, .int (M r k), .int c0]) (ta := 0) (ti := 4) (tc := 6) hM hn rfl rfl rfl hr hc0
    have g2 := ev_cell (orc := orc) (σ := [.ref t, .int k, .int a, .int (M k k), .int r, .int (M r k), .int c0]) (ta := 0) (ti := 1) (tc := 6) hM hn rfl rfl rfl (show k < n by omega) hc0
    rw [v1] at g1
    rw [v2] at g2
    have b : ex orc fuel colBody [.ref t, .int k, .int a, .int (M k k), .int r, .int (M r k), .int c0] μ = some ([.ref t, .int k, .int a, .int (M k k), .int r, .int (M r k), .int c0], μ.set (p r) ((rowV (stepC M k a r c0) n r).set c0 (.int (newE M k a r c0))), .next) :=
      (ex_seq (ex_setI (ev_bin (ev_bin (ev_bin g1 (ev_var rfl rfl) (bin_mul (mulO_bd hrc hkk (by omega) (by omega)))) (ev_bin (ev_var rfl rfl) g2 (bin_mul (mulO_bd hrk hkc (by omega) (by omega)))) rfl) (ev_var rfl rfl) (bin_div (divO_bd hnum ha (by omega) (by omega) ha0)))
        (ev_rowOf hM hn rfl rfl hr) (ev_var rfl rfl) (setSt_row hM hr hc0 hn _))).trans ex_skip
    have hM' := (hM.set hr hc0 (newE M k a r c0)).congr (M' := stepC M k a r (c0 + 1)) fun r' c' _ _ => by
      unfold upd stepC
      by_cases q : r' = r ∧ c' = c0
      · rw [if_pos q, if_pos ⟨q.1, by omega, by omega⟩, q.2]
      · rw [if_neg q]
        by_cases q2 : r' = r ∧ k < c' ∧ c' < c0
        · rw [if_pos q2, if_pos ⟨q2.1, q2.2.1, by omega⟩]
        · rw [if_neg q2, if_neg (by omega)]
    obtain ⟨μ', z', e1, e2⟩ := col_loop hn hk hr hB ha ha0 he c (c0 + 1) _ (.int c0) (by omega) (by omega) hM'
    exact ⟨μ', z', by simp only [tt, Option.bind_eq_bind, Option.bind_some, b, e1], e2⟩

noncomputable def rowsBody : S := (.seq (.asg 5 (.item (.item (.var 0) (.var 4)) (.var 1))) (.seq (.forS [6] .plain (.range2 (.bin .add (.var 1) (.int 1)) (.len (.var 0))) .nil colBody) (.seq (.setI (.item (.var 0) (.var 4)) (.var 1) (.int 0)) .skip)))

theorem rows_loop {M : Nat → Nat → Int} {k e : Nat} {a : Int} (hn : n ≤ 100) (hB : BM e n M) (ha : Bd e a) (ha0 : a ≠ 0) (he : 2 * e + 2 ≤ 2000) : ∀ (c r : Nat) (μ : Store) (z4 z5 z6 : V), k < r → r + c = n → Mat μ t p n (stepR M k a r) →
    ∃ μ' σ', forL [4] (fun σ μ => ex orc fuel rowsBody σ μ) ((List.range' r c).map fun i : Nat => V.int (i : Int)) [.ref t, .int k, .int a, .int (M k k), z4, z5, z6] μ = some (σ', μ', .next) ∧ Mat μ' t p n (stepR M k a n)
  | 0, r, μ, z4, z5, z6, h0, h, hM => by
    obtain rfl : r = n := by omega
    exact ⟨μ, _, by simp [forL]; rfl, hM⟩
  | c + 1, r, μ, z4, z5, z6, h0, h, hM => by
    rw [List.range'_succ, List.map_cons, forL]
    have hr : r < n := by omega
    have tt : tgtS [4] (V.int (r : Int)) [.ref t, .int k, .int a, .int (M k k), z4, z5, z6] = some [.ref t, .int k, .int a, .int (M k k), .int r, z5, z6] := rfl
    have v1 : stepR M k a r r k = M r k := by unfold stepR; rw [if_neg (by omega)]
    have g1 := ev_cell (orc := orc) (σ := [.ref t, .int k, .int a, .int (M k k), .int r, z5, z6]) (ta := 0) (ti := 4) (tc := 1) hM hn rfl rfl rfl hr (show k < n by omega)
    rw [v1] at g1
    have hM0 : Mat μ t p n (stepC M k a r (k + 1)) := hM.congr fun r' c' _ _ => by unfold stepC; rw [if_neg (by omega)]
    obtain ⟨μ₁, z', e1, e2⟩ := col_loop (orc := orc) hn h0 hr hB ha ha0 he (n - (k + 1)) (k + 1) μ z6 (by omega) (by omega) hM0
    have hfor := (ex_for (orc := orc) (F := fuel) (tgt := [6]) (sk := .plain) (σ := [.ref t, .int k, .int a, .int (M k k), .int r, .int (M r k), z6]) (src := .range2 (.bin .add (.var 1) (.int 1)) (.len (.var 0))) (src2 := .nil) (b := colBody) (its := (List.range' (k + 1) (n - (k + 1))).map fun i : Nat => V.int (i : Int)) (ev_range2 (i := ((k + 1 : Nat) : Int)) (ev_bin (ev_var (v := .int k) rfl rfl) ev_int rfl) (ev_tabLen hM hn rfl)) ev_nil (turns_nat (by omega) (by omega))).trans e1
    have hk : k < n := by omega
    have hM₂ := (e2.set hr hk 0).congr (M' := stepR M k a (r + 1)) fun r' c' hr' hc' => by
      unfold upd stepC stepR
      by_cases q : r' = r
      · subst q
        rw [if_pos (show r' < r' + 1 by omega)]
        unfold stepM
        rw [if_pos h0]
        by_cases q2 : c' = k
        · rw [if_pos ⟨rfl, q2⟩, if_neg (by omega), if_pos q2]
        · rw [if_neg (fun z => q2 z.2)]
          by_cases q3 : k < c'
          · rw [if_pos ⟨rfl, q3, hc'⟩, if_pos q3]
          · rw [if_neg (fun z => q3 z.2.1), if_neg (by omega), if_neg q3, if_neg q2]
      · rw [if_neg (fun z => q z.1), if_neg (fun z => q z.1)]
        by_cases q2 : r' < r
        · rw [if_pos q2, if_pos (by omega)]
        · rw [if_neg q2, if_neg (by omega)]
    have b : ex orc fuel rowsBody [.ref t, .int k, .int a, .int (M k k), .int r, z5, z6] μ = some ([.ref t, .int k, .int a, .int (M k k), .int r, .int (M r k), z'], μ₁.set (p r) ((rowV (stepC M k a r n) n r).set k (.int 0)), .next) :=
      (ex_seq (ex_asg g1 (Nat.le_of_ble_eq_true rfl))).trans ((ex_seq hfor).trans ((ex_seq (ex_setI ev_int (ev_rowOf e2 hn rfl rfl hr) (ev_var (v := .int k) rfl rfl) (setSt_row e2 hr hk hn _))).trans ex_skip))
    obtain ⟨μ', σ', e3, e4⟩ := rows_loop hn hB ha ha0 he c (r + 1) _ (.int r) (.int (M r k)) z' (by omega) (by omega) hM₂
    exact ⟨μ', σ', by simp only [tt, Option.bind_eq_bind, Option.bind_some, b, e3], e4⟩

theorem O_bareiss {μ : Store} {M : Nat → Nat → Int} {k e : Nat} {a : Int} (hM : Mat μ t p n M) (hn : n ≤ 100) (hk : k < n) (hB : BM e n M) (ha : Bd e a) (ha0 : a ≠ 0) (he : 2 * e + 2 ≤ 2000) :
    ∃ μ', O (m + 1) "bareiss_step" [.ref t, .int k, .int a] μ = some (.none, μ') ∧ Mat μ' t p n (stepM M k a) := by
  have hM0 : Mat μ t p n (stepR M k a (k + 1)) := hM.congr fun r c _ _ => by
    unfold stepR stepM
    split
    · rw [if_neg (by omega)]
    · rfl
  obtain ⟨μ', σ', e1, e2⟩ := rows_loop (orc := O m) hn hB ha ha0 he (n - (k + 1)) (k + 1) μ .unb .unb .unb (by omega) (by omega) hM0
  refine ⟨μ', ?_, e2.congr fun r c hr _ => by unfold stepR; rw [if_pos hr]⟩
  show runFn (O m) fuel fbareiss_step [.ref t, .int k, .int a] μ = _
  have hfor := (ex_for (orc := O m) (F := fuel) (tgt := [4]) (sk := .plain) (σ := [.ref t, .int k, .int a, .int (M k k), .unb, .unb, .unb]) (src := .range2 (.bin .add (.var 1) (.int 1)) (.len (.var 0))) (src2 := .nil) (b := rowsBody) (its := (List.range' (k + 1) (n - (k + 1))).map fun i : Nat => V.int (i : Int)) (ev_range2 (i := ((k + 1 : Nat) : Int)) (ev_bin (ev_var (v := .int k) rfl rfl) ev_int rfl) (ev_tabLen hM hn rfl)) ev_nil (turns_nat (by omega) (by omega))).trans e1
  exact run_of (f := fbareiss_step) (fl := .next) rfl ((ex_seq (ex_asg (ev_cell hM hn rfl rfl rfl hk hk) (Nat.le_of_ble_eq_true rfl))).trans ((ex_seq hfor).trans ex_skip))

end
end Mine

namespace Mine
open PySem
set_option maxRecDepth 100000
set_option autoImplicit false

/-- the table when a pivot is in its place -/
noncomputable def atP (M : Nat → Nat → Int) (r k : Nat) : Nat → Nat → Int := if r = k then M else swpM M r k

noncomputable def detL (n : Nat) : Nat → Nat → (Nat → Nat → Int) → Int → Int → Int
  | 0, _, _, s, a => s * a
  | j + 1, k, M, s, a => match piv M k (n - k) k with
    | none => 0
    | some r => detL n j (k + 1) (stepM (atP M r k) k a) (if r = k then s else -s) (atP M r k k k)

theorem piv_some {M : Nat → Nat → Int} {k : Nat} : ∀ {c r r' : Nat}, piv M k c r = some r' → r ≤ r' ∧ r' < r + c ∧ M r' k ≠ 0
  | 0, r, r', h => by rw [piv] at h; cases h
  | c + 1, r, r', h => by
    rw [piv] at h
    split at h
    · rename_i q; cases h; exact ⟨Nat.le_refl _, by omega, q⟩
    · obtain ⟨h1, h2, h3⟩ := piv_some h
      exact ⟨by omega, by omega, h3⟩
theorem piv_none {M : Nat → Nat → Int} {k : Nat} : ∀ {c r : Nat}, piv M k c r = none → ∀ i, r ≤ i → i < r + c → M i k = 0
  | 0, r, _, i, h1, h2 => by omega
  | c + 1, r, h, i, h1, h2 => by
    rw [piv] at h
    split at h
    · cases h
    · rename_i q
      by_cases e : i = r
      · subst e; exact Decidable.not_not.mp q
      · exact piv_none h i (by omega) (by omega)

section
variable {m : Nat} {orc : Orc} {t n : Nat} {p : Nat → Nat}

noncomputable def detBody : S := (.seq (.asg 5 (.call2 "pivot_row" (.var 1) (.var 4))) (.seq (.ifS (.isNone (.var 5)) (.seq (.ret (.int 0)) .skip) .skip) (.seq (.ifS (.cmp .ne (.var 5) (.var 4)) (.seq (.swap (.var 1) (.var 5) (.var 1) (.var 4) (.tup2 (.item (.var 1) (.var 4)) (.item (.var 1) (.var 5)))) (.seq (.asg 2 (.neg (.var 2))) .skip)) .skip) (.seq (.expr (.call3 "bareiss_step" (.var 1) (.var 4) (.var 3))) (.seq (.asg 3 (.item (.item (.var 1) (.var 4)) (.var 4))) .skip)))))

theorem ex_swap {orc : Orc} {F : Nat} {σ : List V} {μ μ₁ μ₂ μ₃ μ₄ μ₅ μ₆ μ' : Store} {o i o' i' e : E} {a b x y x' y' : V} (he : ev orc e σ μ = some (.tup [a, b], μ₁)) (ho : ev orc o σ μ₁ = some (x, μ₂)) (hi : ev orc i σ μ₂ = some (y, μ₃)) (hs : setSt μ₃ x y a = some μ₄)
    (ho' : ev orc o' σ μ₄ = some (x', μ₅)) (hi' : ev orc i' σ μ₅ = some (y', μ₆)) (hs' : setSt μ₆ x' y' b = some μ') : ex orc F (.swap o i o' i' e) σ μ = some (σ, μ', .next) := by
  rw [ex, he]; simp [ho, hi, hs, ho', hi', hs']

theorem setSt_tab {μ : Store} {t n i : Nat} {f : Nat → V} (h : μ[t]? = some ((List.range n).map f)) (hi : i < n) (hn : n ≤ 100) (v : V) : setSt μ (.ref t) (.int i) v = some (μ.set t ((List.range n).map fun j => if j = i then v else f j)) := by
  unfold setSt
  dsimp only
  rw [h]
  dsimp only
  rw [if_pos (by rw [lim_eq]; simp; omega)]
  rw [Int.toNat_natCast, mapr_set]

theorem swap_ok {μ : Store} {M : Nat → Nat → Int} {r k : Nat} {A s a : V} (hM : Mat μ t p n M) (hn : n ≤ 100) (hr : r < n) (hk : k < n) (hne : r ≠ k) :
    ∃ μ', ex orc fuel (.swap (.var 1) (.var 5) (.var 1) (.var 4) (.tup2 (.item (.var 1) (.var 4)) (.item (.var 1) (.var 5)))) [A, .ref t, s, a, .int k, .int r] μ = some ([A, .ref t, s, a, .int k, .int r], μ', .next) ∧ Mat μ' t (fun i => p (swp r k i)) n (swpM M r k) := by
  have hlt : t < μ.length := (List.getElem?_eq_some_iff.mp hM.tab).1
  have e1 := setSt_tab hM.tab hr hn (.ref (p k))
  have h2 : (μ.set t ((List.range n).map fun j => if j = r then V.ref (p k) else V.ref (p j)))[t]? = some ((List.range n).map fun j => if j = r then V.ref (p k) else V.ref (p j)) := List.getElem?_set_self hlt
  have e2 := setSt_tab h2 hk hn (.ref (p r))
  refine ⟨_, ex_swap (ev_tup2 (ev_rowOf hM hn rfl rfl hk) (ev_rowOf hM hn rfl rfl hr)) (ev_var (v := .ref t) rfl rfl) (ev_var (v := .int r) rfl rfl) e1 (ev_var (v := .ref t) rfl rfl) (ev_var (v := .int k) rfl rfl) e2, ?_⟩
  have := hM.swap hr hk
  rw [List.set_set]
  have e3 : ((List.range n).map fun j => if j = k then V.ref (p r) else if j = r then V.ref (p k) else V.ref (p j)) = (List.range n).map fun i => V.ref (p (swp r k i)) := by
    apply List.map_congr_left
    intro j _
    unfold swp
    split
    · rfl
    · split <;> rfl
  rw [e3]
  exact this

theorem atP_bd {e : Nat} {M : Nat → Nat → Int} {r k : Nat} (h : BM e n M) (hr : r < n) (hk : k < n) : BM e n (atP M r k) := by
  unfold atP
  split
  · exact h
  · exact fun i c hi hc => h _ _ (swp_lt hr hk hi) hc
theorem step_bd {e : Nat} {M : Nat → Nat → Int} {k : Nat} {a : Int} (h : BM e n M) (hk : k < n) : BM (2 * e + 2) n (stepM M k a) := by
  intro r c hr hc
  unfold stepM
  split
  · split
    · exact ((((h r c hr hc).mul (h k k hk hk)).sub ((h r k hr hk).mul (h k c hk hc))).fdiv a).mono (by omega)
    · split
      · exact bd_zero
      · exact (h r c hr hc).mono (by omega)
  · exact (h r c hr hc).mono (by omega)

theorem det_loop {A : V} (hn : n ≤ 100) : ∀ (j k : Nat) (μ : Store) (p : Nat → Nat) (M : Nat → Nat → Int) (s a : Int) (e : Nat) (z4 z5 : V), k + j = n → (e + 2) * 2 ^ j ≤ 1900 → a ≠ 0 → Bd e a → Bd 1 s → Mat μ t p n M → BM e n M →
    ∃ μ', (∃ σ', forL [4] (fun σ μ => ex (O (m + 1)) fuel detBody σ μ) ((List.range' k j).map fun i : Nat => V.int (i : Int)) [A, .ref t, .int s, .int a, z4, z5] μ = some (σ', μ', .ret (.int 0)) ∧ detL n j k M s a = 0) ∨
      (∃ s' a' y4 y5, forL [4] (fun σ μ => ex (O (m + 1)) fuel detBody σ μ) ((List.range' k j).map fun i : Nat => V.int (i : Int)) [A, .ref t, .int s, .int a, z4, z5] μ = some ([A, .ref t, .int s', .int a', y4, y5], μ', .next) ∧ detL n j k M s a = s' * a' ∧ Bd 1 s' ∧ Bd 1900 a')
  | 0, k, μ, p, M, s, a, e, z4, z5, h, he, ha0, ha, hs, hM, hB => ⟨μ, .inr ⟨s, a, z4, z5, by simp [forL], rfl, hs, ha.mono (by simp at he; omega)⟩⟩
  | j + 1, k, μ, p, M, s, a, e, z4, z5, h, he, ha0, ha, hs, hM, hB => by
    rw [List.range'_succ, List.map_cons, forL, detL]
    have hk : k < n := by omega
    have hj : 2 * (e + 2) * 2 ^ j ≤ 1900 := by rw [Nat.pow_succ] at he; rw [Nat.mul_comm 2 (e + 2), Nat.mul_assoc, Nat.mul_comm 2 (2 ^ j)]; exact he
    have he2 : 2 * e + 2 ≤ 1900 := by
      have : 1 ≤ 2 ^ j := Nat.one_le_two_pow
      have := Nat.mul_le_mul_left (2 * (e + 2)) this
      omega
    have tt : tgtS [4] (V.int (k : Int)) [A, .ref t, .int s, .int a, z4, z5] = some [A, .ref t, .int s, .int a, .int k, z5] := rfl
    have c1 : ex (O (m + 1)) fuel (.asg 5 (.call2 "pivot_row" (.var 1) (.var 4))) [A, .ref t, .int s, .int a, .int k, z5] μ = some ([A, .ref t, .int s, .int a, .int k, pivV (piv M k (n - k) k)], μ, .next) :=
      ex_asg (ev_call2 (ev_var (v := .ref t) rfl rfl) (ev_var (v := .int k) rfl rfl) (O_pivot hM hn hk)) (Nat.le_of_ble_eq_true rfl)
    cases hp : piv M k (n - k) k with
    | none =>
      rw [hp] at c1
      refine ⟨μ, .inl ⟨[A, .ref t, .int s, .int a, .int k, .none], ?_, rfl⟩⟩
      have b : ex (O (m + 1)) fuel detBody [A, .ref t, .int s, .int a, .int k, z5] μ = some ([A, .ref t, .int s, .int a, .int k, .none], μ, .ret (.int 0)) :=
        (ex_seq c1).trans (ex_seq_ret ((ex_if_t (ev_isNone (c := true) (ev_var rfl rfl) rfl) rfl).trans (ex_seq_ret (ex_ret ev_int))))
      simp only [tt, Option.bind_eq_bind, Option.bind_some, b]
    | some r =>
      rw [hp] at c1
      obtain ⟨r1, r2, r3⟩ := piv_some hp
      have hr : r < n := by omega
      -- the table with the pivot in its place
      have mid : ∃ (μ₁ : Store) (p₁ : Nat → Nat), ex (O (m + 1)) fuel (.ifS (.cmp .ne (.var 5) (.var 4)) (.seq (.swap (.var 1) (.var 5) (.var 1) (.var 4) (.tup2 (.item (.var 1) (.var 4)) (.item (.var 1) (.var 5)))) (.seq (.asg 2 (.neg (.var 2))) .skip)) .skip) [A, .ref t, .int s, .int a, .int k, .int r] μ =
          some ([A, .ref t, .int (if r = k then s else -s), .int a, .int k, .int r], μ₁, .next) ∧ Mat μ₁ t p₁ n (atP M r k) := by
        unfold atP
        by_cases q : r = k
        · refine ⟨μ, p, ?_, ?_⟩
          · rw [if_pos q]
            have qc : cmI .ne (r : Int) k = false := by simp [cmI, q]
            exact (ex_if_f (ev_cmpI (ev_var rfl rfl) (ev_var rfl rfl)) qc).trans ex_skip
          · rw [if_pos q]; exact hM
        · obtain ⟨μ₁, g1, g2⟩ := swap_ok (orc := O (m + 1)) (A := A) (s := .int s) (a := .int a) hM hn hr hk q
          refine ⟨μ₁, fun i => p (swp r k i), ?_, ?_⟩
          · rw [if_neg q]
            have qc : cmI .ne (r : Int) k = true := by simp [cmI]; omega
            exact (ex_if_t (ev_cmpI (ev_var rfl rfl) (ev_var rfl rfl)) qc).trans ((ex_seq g1).trans ((ex_seq (ex_asg (ev_neg (ev_var rfl rfl)) (Nat.le_of_ble_eq_true rfl))).trans ex_skip))
          · rw [if_neg q]; exact g2
      obtain ⟨μ₁, p₁, g1, hM₁⟩ := mid
      have hB₁ := atP_bd hB hr hk
      obtain ⟨μ₂, g2, hM₂⟩ := O_bareiss (m := m) hM₁ hn hk hB₁ ha ha0 (by omega)
      have pk : stepM (atP M r k) k a k k = atP M r k k k := by unfold stepM; rw [if_neg (by omega)]
      have hpz : atP M r k k k ≠ 0 := by
        unfold atP
        split
        · rename_i q; subst q; exact r3
        · unfold swpM swp; rw [if_pos rfl]; exact r3
      have b : ex (O (m + 1)) fuel detBody [A, .ref t, .int s, .int a, .int k, z5] μ = some ([A, .ref t, .int (if r = k then s else -s), .int (atP M r k k k), .int k, .int r], μ₂, .next) := by
        refine (ex_seq c1).trans ((ex_seq ((ex_if_f (ev_isNone (c := false) (ev_var (v := .int r) rfl rfl) rfl) rfl).trans ex_skip)).trans ((ex_seq g1).trans ((ex_seq (ex_expr (ev_call3 (ev_var (v := .ref t) rfl rfl) (ev_var rfl rfl) (ev_var rfl rfl) g2))).trans ?_)))
        have cell := ev_cell (orc := O (m + 1)) (σ := [A, .ref t, .int (if r = k then s else -s), .int a, .int k, .int r]) (ta := 1) (ti := 4) (tc := 4) hM₂ hn rfl rfl rfl hk hk
        rw [pk] at cell
        exact (ex_seq (ex_asg cell (Nat.le_of_ble_eq_true rfl))).trans ex_skip
      have hs₁ : Bd 1 (if r = k then s else -s) := by split; exact hs; exact hs.neg
      obtain ⟨μ', ih⟩ := det_loop hn j (k + 1) μ₂ p₁ (stepM (atP M r k) k a) (if r = k then s else -s) (atP M r k k k) (2 * e + 2) (.int k) (.int r) (by omega) (by rw [show 2 * e + 2 + 2 = 2 * (e + 2) by omega]; exact hj) hpz ((hB₁ k k hk hk).mono (by omega)) hs₁ hM₂ (step_bd hB₁ hk)
      refine ⟨μ', ?_⟩
      simp only [tt, Option.bind_eq_bind, Option.bind_some, b]
      exact ih

theorem copy_loop {orc : Orc} {σ : List V} : ∀ (rows : List (List V)) (μ : Store), (∀ r ∈ rows, r.length ≤ 100) →
    compL (compF orc false [] (.bool true) (.mlst (.var 0)) σ) (rows.map V.list) μ = some ((List.range' μ.length rows.length).map V.ref, μ ++ rows)
  | [], μ, _ => by simp [compL]
  | r :: rows, μ, h => by
    have hr : r.length ≤ lim := by have := h r (List.mem_cons_self ..); rw [lim_eq]; omega
    have e : ev orc (.mlst (.var 0)) [.list r] μ = some (.ref μ.length, μ ++ [r]) := by
      rw [ev, ev_var (v := .list r) rfl rfl]
      simp [hr, mkL]
    rw [List.map_cons, compL, compF_one rfl e]
    have ih := copy_loop (orc := orc) (σ := σ) rows (μ ++ [r]) fun x hx => h x (List.mem_cons_of_mem _ hx)
    rw [List.length_append, List.length_singleton] at ih
    simp only [Option.bind_eq_bind, Option.bind_some, ih, List.length_cons, List.range'_succ, List.map_cons, List.append_assoc, List.singleton_append]
    rfl

theorem square_loop {orc : Orc} {σ : List V} {n : Nat} {all : List V} {μ : Store} (h0 : σ.getD 0 .unb = .list all) (hl : all.length = n) (hn : n ≤ 100) : ∀ rows : List (List V), (∀ r ∈ rows, r.length = n) →
    compL (compF orc false [0] (.cmp .ne (.len (.var 1)) (.len (.var 0))) (.var 1) σ) (rows.map V.list) μ = some ([], μ)
  | [], _ => rfl
  | r :: rows, h => by
    have hr := h r (List.mem_cons_self ..)
    have e : ev orc (.cmp .ne (.len (.var 1)) (.len (.var 0))) [.list all, .list r] μ = some (.bool (cmI .ne (r.length : Int) all.length), μ) :=
      ev_cmpI (ev_len (ev_var rfl rfl) rfl (by omega)) (ev_len (ev_var rfl rfl) rfl (by omega))
    have c : cmI .ne (r.length : Int) all.length = false := by simp [cmI, hr, hl]
    rw [c] at e
    have f : compF orc false [0] (.cmp .ne (.len (.var 1)) (.len (.var 0))) (.var 1) σ (.list r) μ = some (none, μ) := by
      unfold compF
      rw [show tgtV false (.list r) = some [.list r] from rfl]
      simp only [Option.bind_eq_bind, Option.bind_some, List.map, h0, List.cons_append, List.nil_append, e]
    rw [List.map_cons, compL, f]
    simp [square_loop h0 hl hn rows fun x hx => h x (List.mem_cons_of_mem _ hx)]

theorem O_det {μ : Store} {M : Nat → Nat → Int} (hn : n ≤ 6) (hB : BM 14 n M) : ∃ μ', O (m + 2) "determinant" [.list ((List.range n).map fun i => .list (rowV M n i))] μ = some (.int (detL n n 0 M 1 1), μ') := by
  let rows : List (List V) := (List.range n).map fun i => rowV M n i
  have erows : ((List.range n).map fun i => V.list (rowV M n i)) = rows.map V.list := by simp [rows]
  have lrows : rows.length = n := by simp [rows]
  have lrow : ∀ r ∈ rows, r.length = n := fun r hr => by
    obtain ⟨i, _, e⟩ := List.mem_map.mp hr
    rw [← e]; simp [rowV]
  rw [erows]
  have A := V.list (rows.map V.list)
  have hlim : (rows.map V.list).length ≤ lim := by rw [List.length_map, lrows, lim_eq]; omega
  have hsrc : srcV .plain (.list (rows.map V.list)) (.list []) = some (rows.map V.list) := by simp only [srcV, turns?]; rw [if_pos hlim]
  -- the copy
  let μ₁ := μ ++ rows ++ [(List.range' μ.length rows.length).map V.ref]
  have hM : Mat μ₁ (μ.length + n) (fun i => μ.length + i) n M := {
    tab := by
      show (μ ++ rows ++ [(List.range' μ.length rows.length).map V.ref])[μ.length + n]? = _
      rw [List.getElem?_append_right (by simp [lrows]), lrows, List.range'_eq_map_range, List.map_map]
      simp [lrows]
    inj := fun i j _ _ e => by omega
    off := fun i hi => by omega
    row := fun i hi => by
      show (μ ++ rows ++ [(List.range' μ.length rows.length).map V.ref])[μ.length + i]? = _
      rw [List.getElem?_append_left (by simp [lrows]; omega), List.getElem?_append_right (by omega)]
      simp [rows, hi] }
  have hpow : (14 + 2) * 2 ^ n ≤ 1900 := by
    have := Nat.pow_le_pow_right (show 0 < 2 by decide) hn
    omega
  obtain ⟨μ', lp⟩ := det_loop (m := m) (t := μ.length + n) (A := .list (rows.map V.list)) (show n ≤ 100 by omega) n 0 μ₁ _ M 1 1 14 .unb .unb (by omega) hpow (by decide) (by unfold Bd; decide) (by unfold Bd; decide) hM hB
  refine ⟨μ', ?_⟩
  show runFn (O (m + 1)) fuel fdeterminant [.list (rows.map V.list)] μ = _
  have sq : ev (O (m + 1)) (.cmp .ne (.comp false false .plain [0] (.var 0) .nil (.cmp .ne (.len (.var 1)) (.len (.var 0))) (.var 1)) .nil) [.list (rows.map V.list), .unb, .unb, .unb, .unb, .unb] μ = some (.bool false, μ) := by
    refine ev_cmp (x := .list []) (y := .list []) ?_ ev_nil rfl
    rw [ev_comp_eq, ev_var (v := .list (rows.map V.list)) rfl rfl]
    simp only [Option.bind_eq_bind, Option.bind_some, ev_nil, hsrc]
    rw [square_loop (n := n) (all := rows.map V.list) rfl (by rw [List.length_map, lrows]) (by omega) rows lrow]
    rfl
  have cp : ev (O (m + 1)) (.comp true false .plain [] (.var 0) .nil (.bool true) (.mlst (.var 0))) [.list (rows.map V.list), .unb, .unb, .unb, .unb, .unb] μ = some (.ref (μ.length + n), μ₁) := by
    rw [ev_comp_eq, ev_var (v := .list (rows.map V.list)) rfl rfl]
    simp only [Option.bind_eq_bind, Option.bind_some, ev_nil, hsrc]
    rw [copy_loop rows μ fun r hr => by rw [lrow r hr]; omega]
    simp [mkL, lrows, μ₁]
  have len : ev (O (m + 1)) (.len (.var 0)) [.list (rows.map V.list), .ref (μ.length + n), .int 1, .int 1, .unb, .unb] μ₁ = some (.int n, μ₁) := by
    have := ev_len (orc := O (m + 1)) (a := .var 0) (σ := [.list (rows.map V.list), .ref (μ.length + n), .int 1, .int 1, .unb, .unb]) (μ := μ₁) (x := .list (rows.map V.list)) (ev_var rfl rfl) (xs := rows.map V.list) rfl (by rw [List.length_map, lrows]; omega)
    rw [List.length_map, lrows] at this
    exact this
  have pre : ∀ rest, ex (O (m + 1)) fuel (.seq (.ifS (.cmp .ne (.comp false false .plain [0] (.var 0) .nil (.cmp .ne (.len (.var 1)) (.len (.var 0))) (.var 1)) .nil) .stop .skip) (.seq (.asgR [1, 2, 3] (.tup3 (.comp true false .plain [] (.var 0) .nil (.bool true) (.mlst (.var 0))) (.int 1) (.int 1))) (.seq (.forS [4] .plain (.range1 (.len (.var 0))) .nil detBody) rest))) [.list (rows.map V.list), .unb, .unb, .unb, .unb, .unb] μ =
      ex (O (m + 1)) fuel (.seq (.forS [4] .plain (.range1 (.len (.var 0))) .nil detBody) rest) [.list (rows.map V.list), .ref (μ.length + n), .int 1, .int 1, .unb, .unb] μ₁ := fun rest =>
    (ex_seq ((ex_if_f sq rfl).trans ex_skip)).trans (ex_seq (ex_asgR (ev_tup3 cp ev_int ev_int) rfl))
  have ht : srcV .plain (.rng 0 n) (.list []) = some ((List.range' 0 n).map fun i : Nat => V.int (i : Int)) := turns_nat (lo := 0) (hi := n) (by omega) (by omega)
  rcases lp with ⟨σ', l1, l2⟩ | ⟨s', a', y4, y5, l1, l2, l3, l4⟩
  · have hfor := (ex_for (orc := O (m + 1)) (F := fuel) (tgt := [4]) (sk := .plain) (src := .range1 (.len (.var 0))) (src2 := .nil) (b := detBody) (ev_range1 len) ev_nil ht).trans l1
    rw [l2]
    exact run_of (f := fdeterminant) (fl := .ret (.int 0)) rfl ((pre _).trans (ex_seq_ret hfor))
  · have hfor := (ex_for (orc := O (m + 1)) (F := fuel) (tgt := [4]) (sk := .plain) (src := .range1 (.len (.var 0))) (src2 := .nil) (b := detBody) (ev_range1 len) ev_nil ht).trans l1
    rw [l2]
    exact run_of (f := fdeterminant) (fl := .ret (.int (s' * a'))) rfl ((pre _).trans ((ex_seq hfor).trans (ex_seq_ret (ex_ret (ev_bin (ev_var rfl rfl) (ev_var rfl rfl) (bin_mul (mulO_bd l3 l4 (by omega) (by omega))))))))

end
end Mine

namespace Mine
set_option maxRecDepth 100000
set_option autoImplicit false

noncomputable def Hc (x : Int) (g : Nat → Int) : Nat → Int
  | 0 => g 0
  | m + 1 => g (m + 1) + x * Hc x g m
noncomputable def H : List Int → Nat → Int
  | [] => fun m => if m = 0 then 1 else 0
  | x :: l => Hc x (H l)
theorem H_zero : ∀ l : List Int, H l 0 = 1
  | [] => rfl
  | x :: l => by show Hc x (H l) 0 = 1; rw [Hc]; exact H_zero l
theorem Hc_pow (x : Int) : ∀ m, Hc x (H []) m = x ^ m
  | 0 => by rw [Hc, Int.pow_zero]; rfl
  | m + 1 => by
    rw [Hc, Hc_pow x m]
    show (0 : Int) + x * x ^ m = _
    rw [Int.pow_succ, Int.zero_add, Int.mul_comm]
theorem Hc_diff (a b : Int) (g : Nat → Int) : ∀ m, Hc a g (m + 1) - Hc b g (m + 1) = (a - b) * Hc a (Hc b g) m
  | 0 => by simp only [Hc]; grind
  | m + 1 => by
    have ih := Hc_diff a b g m
    have e1 : Hc a g (m + 1 + 1) = g (m + 1 + 1) + a * Hc a g (m + 1) := rfl
    have e2 : Hc b g (m + 1 + 1) = g (m + 1 + 1) + b * Hc b g (m + 1) := rfl
    have e3 : Hc a (Hc b g) (m + 1) = Hc b g (m + 1) + a * Hc a (Hc b g) m := rfl
    rw [e1, e2, e3]
    generalize Hc a g (m + 1) = u at *
    generalize Hc b g (m + 1) = v at *
    generalize Hc a (Hc b g) m = w at *
    grind

noncomputable def DV (y : Nat → Int) : Nat → Int → Int
  | 0, _ => 1
  | j + 1, x => DV y j x * (x - y j)
noncomputable def PV (y : Nat → Int) : Nat → Int
  | 0 => 1
  | k + 1 => PV y k * DV y k (y k)
noncomputable def pre (y : Nat → Int) : Nat → List Int
  | 0 => []
  | k + 1 => y k :: pre y k

theorem DV_congr {y z : Nat → Int} : ∀ {k : Nat} {x : Int}, (∀ i, i < k → y i = z i) → DV y k x = DV z k x
  | 0, _, _ => rfl
  | k + 1, x, h => by rw [DV, DV, DV_congr fun i hi => h i (by omega), h k (by omega)]
theorem PV_congr {y z : Nat → Int} : ∀ {k : Nat}, (∀ i, i < k → y i = z i) → PV y k = PV z k
  | 0, _ => rfl
  | k + 1, h => by rw [PV, PV, PV_congr fun i hi => h i (by omega), DV_congr fun i hi => h i (by omega), h k (by omega)]
theorem pre_congr {y z : Nat → Int} : ∀ {k : Nat}, (∀ i, i < k → y i = z i) → pre y k = pre z k
  | 0, _ => rfl
  | k + 1, h => by rw [pre, pre, pre_congr fun i hi => h i (by omega), h k (by omega)]

noncomputable def Dist (y : Nat → Int) (n : Nat) : Prop := ∀ i j, j < i → i < n → y i ≠ y j
theorem DV_ne {y : Nat → Int} {x : Int} : ∀ {k : Nat}, (∀ j, j < k → x ≠ y j) → DV y k x ≠ 0
  | 0, _ => by simp [DV]
  | k + 1, h => by
    rw [DV]
    have h1 := DV_ne (k := k) fun j hj => h j (by omega)
    have h2 := h k (by omega)
    exact Int.mul_ne_zero h1 (by omega)
theorem DV_eq {y : Nat → Int} {x : Int} {j : Nat} (e : x = y j) : ∀ {k : Nat}, j < k → DV y k x = 0
  | 0, h => by omega
  | k + 1, h => by
    rw [DV]
    by_cases q : j = k
    · subst q; rw [e]; simp
    · rw [DV_eq e (by omega)]; simp
theorem PV_zero {y : Nat → Int} {i j : Nat} (hj : j < i) (e : y i = y j) : ∀ {n : Nat}, i < n → PV y n = 0
  | 0, h => by omega
  | n + 1, h => by
    rw [PV]
    by_cases q : i = n
    · subst q; rw [DV_eq e hj]; simp
    · rw [PV_zero hj e (by omega)]; simp
theorem PV_dist {y : Nat → Int} {n : Nat} (h : PV y n ≠ 0) : Dist y n := fun i j hj hi e => h (PV_zero hj e hi)

theorem piv_head {M : Nat → Nat → Int} {k c : Nat} (hc : 0 < c) (h : M k k ≠ 0) : piv M k c k = some k := by
  cases c with
  | zero => omega
  | succ c => rw [piv, if_pos h]

theorem swp_lt_id {r k i : Nat} (hi : i < k) (hr : k ≤ r) : swp r k i = i := by
  unfold swp; rw [if_neg (by omega), if_neg (by omega)]
theorem swp_k {r k : Nat} : swp r k k = r := by unfold swp; rw [if_pos rfl]
theorem swp_swp {r k i : Nat} : swp r k (swp r k i) = i := by
  unfold swp
  split <;> (try split) <;> (try split) <;> omega

/-- how the table looks at step k -/
noncomputable def Inv (n k : Nat) (y : Nat → Int) (M : Nat → Nat → Int) : Prop := ∀ r c, k ≤ r → r < n → k ≤ c → c < n → M r c = PV y k * DV y k (y r) * Hc (y r) (H (pre y k)) (c - k)

theorem Inv.pivot {n k : Nat} {y : Nat → Int} {M : Nat → Nat → Int} (h : Inv n k y M) {r : Nat} (hr : k ≤ r) (hrn : r < n) : M r k = PV y k * DV y k (y r) := by
  rw [h r k hr hrn (Nat.le_refl _) (by omega), Nat.sub_self, Hc, H_zero, Int.mul_one]

theorem Inv.at {n k r : Nat} {y : Nat → Int} {M : Nat → Nat → Int} (h : Inv n k y M) (hr : k ≤ r) (hrn : r < n) : Inv n k (fun i => y (swp r k i)) (atP M r k) := by
  intro i c hi hin hc hcn
  have e : ∀ j, j < k → y (swp r k j) = y j := fun j hj => by rw [swp_lt_id hj hr]
  rw [PV_congr (z := y) e, DV_congr (z := y) e, pre_congr (z := y) e]
  unfold atP
  split
  · rename_i q
    subst q
    have : swp r r i = i := by unfold swp; split <;> (try split) <;> omega
    dsimp only
    rw [this]
    exact h i c hi hin hc hcn
  · have h1 : swp r k i < n := swp_lt hrn (by omega) hin
    have h2 : k ≤ swp r k i := by unfold swp; split <;> (try split) <;> omega
    exact h _ c h2 h1 hc hcn

theorem Inv.step {n k : Nat} {y : Nat → Int} {M : Nat → Nat → Int} (h : Inv n k y M) (hk : k < n) (h0 : PV y k ≠ 0) : Inv n (k + 1) y (stepM M k (PV y k)) := by
  intro r c hr hrn hc hcn
  unfold stepM
  rw [if_pos (by omega), if_pos (by omega)]
  unfold newE
  rw [h r c (by omega) hrn (by omega) hcn, h.pivot (Nat.le_refl _) hk, h.pivot (show k ≤ r by omega) hrn, h k c (Nat.le_refl _) hk (by omega) hcn]
  have hm : c - k = (c - (k + 1)) + 1 := by omega
  have hd := Hc_diff (y r) (y k) (H (pre y k)) (c - (k + 1))
  rw [hm]
  show _ = PV y k * DV y k (y k) * (DV y k (y r) * (y r - y k)) * Hc (y r) (Hc (y k) (H (pre y k))) (c - (k + 1))
  generalize Hc (y r) (H (pre y k)) (c - (k + 1) + 1) = u at *
  generalize Hc (y k) (H (pre y k)) (c - (k + 1) + 1) = v at *
  generalize Hc (y r) (Hc (y k) (H (pre y k))) (c - (k + 1)) = w at *
  generalize PV y k = P at *
  generalize DV y k (y r) = dr at *
  generalize DV y k (y k) = dk at *
  have e : P * dr * u * (P * dk) - P * dr * (P * dk * v) = P * (P * dk * (dr * (y r - y k)) * w) := by
    have : P * dr * u * (P * dk) - P * dr * (P * dk * v) = P * (P * dk * dr * (u - v)) := by grind
    rw [this, hd]
    grind
  rw [e, Int.mul_fdiv_cancel_left _ h0]

theorem vander {n : Nat} : ∀ (j k : Nat) (y : Nat → Int) (M : Nat → Nat → Int) (s : Int), k + j = n → PV y k ≠ 0 → Inv n k y M →
    (Dist y n → detL n j k M s (PV y k) = s * PV y n) ∧ (¬ Dist y n → detL n j k M s (PV y k) = 0)
  | 0, k, y, M, s, h, h0, hI => by
    obtain rfl : k = n := by omega
    exact ⟨fun _ => rfl, fun q => absurd (PV_dist h0) q⟩
  | j + 1, k, y, M, s, h, h0, hI => by
    have hk : k < n := by omega
    have hkk := hI.pivot (Nat.le_refl _) hk
    refine ⟨fun hd => ?_, fun hd => ?_⟩
    · have hne : PV y (k + 1) ≠ 0 := Int.mul_ne_zero h0 (DV_ne fun i hi => hd k i hi hk)
      have hp : piv M k (n - k) k = some k := piv_head (by omega) (by rw [hkk]; exact hne)
      rw [detL, hp]
      show detL n j (k + 1) (stepM (atP M k k) k (PV y k)) (if k = k then s else -s) (atP M k k k k) = _
      rw [if_pos rfl]
      have e : atP M k k = M := by unfold atP; rw [if_pos rfl]
      rw [e, hkk]
      exact (vander j (k + 1) y _ s (by omega) hne (hI.step hk h0)).1 hd
    · rw [detL]
      cases hp : piv M k (n - k) k with
      | none => rfl
      | some r =>
        obtain ⟨r1, r2, r3⟩ := piv_some hp
        have hr : r < n := by omega
        have e : ∀ i, i < k → y (swp r k i) = y i := fun i hi => by rw [swp_lt_id hi r1]
        have hI' := hI.at r1 hr
        have h0' : PV (fun i => y (swp r k i)) k ≠ 0 := by rw [PV_congr (z := y) e]; exact h0
        have hpv : atP M r k k k = PV (fun i => y (swp r k i)) (k + 1) := by
          rw [hI'.pivot (Nat.le_refl _) hk]; rfl
        have hne : PV (fun i => y (swp r k i)) (k + 1) ≠ 0 := by
          rw [← hpv]
          unfold atP
          split
          · rename_i q; subst q; exact r3
          · unfold swpM; rw [swp_k]; exact r3
        have hst := hI'.step hk h0'
        rw [PV_congr (z := y) e] at hst
        dsimp only
        rw [hpv]
        refine (vander j (k + 1) (fun i => y (swp r k i)) _ _ (by omega) hne hst).2 fun hd' => hd fun i i' hj hi q => ?_
        -- a double stays a double
        have a1 : swp r k i < n := swp_lt hr hk hi
        have a2 : swp r k i' < n := swp_lt hr hk (by omega)
        have a3 : swp r k i ≠ swp r k i' := fun z => by have := swp_inj z; omega
        have a4 : y (swp r k (swp r k i)) = y (swp r k (swp r k i')) := by rw [swp_swp, swp_swp]; exact q
        rcases Nat.lt_or_gt_of_ne a3 with z | z
        · exact hd' _ _ z a2 a4.symm
        · exact hd' _ _ z a1 a4

theorem vander_det {n : Nat} {y : Nat → Int} {M : Nat → Nat → Int} (h : ∀ r c, r < n → c < n → M r c = y r ^ c) : detL n n 0 M 1 1 = PV y n := by
  have hI : Inv n 0 y M := fun r c _ hr _ hc => by
    rw [h r c hr hc]
    show _ = (1 : Int) * 1 * Hc (y r) (H []) (c - 0)
    rw [Hc_pow, Nat.sub_zero]
    simp
  have := vander (n := n) n 0 y M 1 (by omega) (by show (1 : Int) ≠ 0; decide) hI
  by_cases hd : Dist y n
  · have := this.1 hd
    rw [Int.one_mul] at this
    exact this
  · rw [show detL n n 0 M 1 1 = 0 from this.2 hd]
    unfold Dist at hd
    have : PV y n = 0 := Decidable.not_not.mp fun q => hd (PV_dist q)
    exact this.symm

end Mine

namespace Mine
set_option maxRecDepth 100000
set_option autoImplicit false

theorem det1 {n k : Nat} {M : Nat → Nat → Int} {s a : Int} (h : k + 1 = n) : detL n 1 k M s a = s * M k k := by
  rw [detL, show n - k = 1 by omega, piv]
  by_cases q : M k k ≠ 0
  · rw [if_pos q]
    dsimp only
    rw [detL]
    unfold atP
    simp
  · rw [if_neg q, piv]
    have : M k k = 0 := Decidable.not_not.mp q
    rw [this]; simp

theorem det2 {n k : Nat} {M : Nat → Nat → Int} {s a D : Int} (h : k + 2 = n) (ha : a ≠ 0) (e : M k k * M (k + 1) (k + 1) - M (k + 1) k * M k (k + 1) = a * D) : detL n 2 k M s a = s * D := by
  rw [detL, show n - k = 2 by omega, piv]
  by_cases q : M k k ≠ 0
  · rw [if_pos q]
    dsimp only
    rw [det1 (by omega)]
    unfold atP stepM newE
    simp only [if_true, Nat.lt_succ_self]
    rw [show M (k + 1) (k + 1) * M k k - M (k + 1) k * M k (k + 1) = a * D by rw [← e, Int.mul_comm (M (k + 1) (k + 1))], Int.mul_fdiv_cancel_left _ ha]
  · have q0 : M k k = 0 := Decidable.not_not.mp q
    rw [if_neg q, piv]
    by_cases q2 : M (k + 1) k ≠ 0
    · rw [if_pos q2]
      dsimp only
      rw [det1 (by omega)]
      unfold atP stepM newE swpM swp
      have z1 : ¬ (k + 1 = k) := by omega
      simp only [if_true, Nat.lt_succ_self, if_neg z1]
      rw [show M k (k + 1) * M (k + 1) k - M k k * M (k + 1) (k + 1) = a * (-D) by rw [Int.mul_neg, ← e, Int.neg_sub, Int.mul_comm (M k (k + 1))], Int.mul_fdiv_cancel_left _ ha]
      rw [Int.neg_mul_neg]
    · have q3 : M (k + 1) k = 0 := Decidable.not_not.mp q2
      rw [if_neg q2, piv]
      rw [q0, q3] at e
      have : D = 0 := by
        have e' : a * D = 0 := by rw [← e]; simp
        exact (Int.mul_eq_zero.mp e').resolve_left ha
      rw [this]; simp

noncomputable def d2 (M : Nat → Nat → Int) (r r' c c' : Nat) : Int := M r c * M r' c' - M r' c * M r c'
noncomputable def d3 (M : Nat → Nat → Int) (a b c x y z : Nat) : Int :=
  M a x * (M b y * M c z - M b z * M c y) - M a y * (M b x * M c z - M b z * M c x) + M a z * (M b x * M c y - M b y * M c x)

/-- three rows left, k, k+1, k+2, when all small determinants may be divided -/
theorem det3 {n k : Nat} {M : Nat → Nat → Int} {s a D : Int} (h : k + 3 = n) (ha : a ≠ 0) (Q : Nat → Nat → Nat → Nat → Int) (hQ : ∀ r r' c c', k ≤ r → r < n → k ≤ r' → r' < n → k ≤ c → c < n → k ≤ c' → c' < n → d2 M r r' c c' = a * Q r r' c c')
    (e : d3 M k (k + 1) (k + 2) k (k + 1) (k + 2) = a * a * D) : detL n 3 k M s a = s * D := by
  have cancel : ∀ x y : Int, a * a * x = a * a * y → x = y := fun x y q => Int.eq_of_mul_eq_mul_left (Int.mul_ne_zero ha ha) q
  -- the next table, when row r is the pivot's and u, v are the others
  have main : ∀ (r u v : Nat) (s' D' : Int) (N : Nat → Nat → Int), k ≤ r → r < n → k ≤ u → u < n → k ≤ v → v < n → M r k ≠ 0 → (∀ c, N k c = M r c) → (∀ c, N (k + 1) c = M u c) → (∀ c, N (k + 2) c = M v c) →
      d3 M r u v k (k + 1) (k + 2) = a * a * D' → detL n 2 (k + 1) (stepM N k a) s' (N k k) = s' * D' := by
    intro r u v s' D' N h1 h2 h3 h4 h5 h6 hp n0 n1 n2 e'
    have en : ∀ (i w c : Nat), k ≤ w → w < n → k < i → k < c → c < n → (∀ c, N i c = M w c) → stepM N k a i c = Q r w k c := by
      intro i w c w1 w2 i1 c1 c2 ni
      unfold stepM newE
      rw [if_pos i1, if_pos c1, ni, n0, ni, n0]
      have := hQ r w k c h1 h2 w1 w2 (Nat.le_refl _) (by omega) (by omega) c2
      unfold d2 at this
      rw [show M w c * M r k - M w k * M r c = a * Q r w k c by rw [← this, Int.mul_comm (M w c)], Int.mul_fdiv_cancel_left _ ha]
    refine det2 (by omega) (by rw [n0]; exact hp) ?_
    rw [en (k + 1) u (k + 1) h3 h4 (by omega) (by omega) (by omega) n1, en (k + 1 + 1) v (k + 1 + 1) h5 h6 (by omega) (by omega) (by omega) n2,
      en (k + 1 + 1) v (k + 1) h5 h6 (by omega) (by omega) (by omega) n2, en (k + 1) u (k + 1 + 1) h3 h4 (by omega) (by omega) (by omega) n1, n0]
    apply cancel
    have a1 := hQ r u k (k + 1) h1 h2 h3 h4 (Nat.le_refl _) (by omega) (by omega) (by omega)
    have a2 := hQ r v k (k + 2) h1 h2 h5 h6 (Nat.le_refl _) (by omega) (by omega) (by omega)
    have a3 := hQ r v k (k + 1) h1 h2 h5 h6 (Nat.le_refl _) (by omega) (by omega) (by omega)
    have a4 := hQ r u k (k + 2) h1 h2 h3 h4 (Nat.le_refl _) (by omega) (by omega) (by omega)
    have b : d2 M r u k (k + 1) * d2 M r v k (k + 2) - d2 M r v k (k + 1) * d2 M r u k (k + 2) = M r k * d3 M r u v k (k + 1) (k + 2) := by
      unfold d2 d3; grind
    rw [a1, a2, a3, a4, e'] at b
    show a * a * (Q r u k (k + 1) * Q r v k (k + 2) - Q r v k (k + 1) * Q r u k (k + 2)) = a * a * (M r k * D')
    grind
  rw [detL, show n - k = 3 by omega, piv]
  by_cases q : M k k ≠ 0
  · rw [if_pos q]
    dsimp only
    rw [if_pos rfl]
    have e1 : atP M k k = M := by unfold atP; rw [if_pos rfl]
    rw [e1]
    exact main k (k + 1) (k + 2) s D M (by omega) (by omega) (by omega) (by omega) (by omega) (by omega) q (fun _ => rfl) (fun _ => rfl) (fun _ => rfl) e
  · have q0 : M k k = 0 := Decidable.not_not.mp q
    rw [if_neg q, piv]
    by_cases q2 : M (k + 1) k ≠ 0
    · rw [if_pos q2]
      dsimp only
      rw [if_neg (by omega)]
      have e1 : atP M (k + 1) k = swpM M (k + 1) k := by unfold atP; rw [if_neg (by omega)]
      rw [e1]
      have w0 : swp (k + 1) k k = k + 1 := swp_k
      have w1 : swp (k + 1) k (k + 1) = k := by unfold swp; rw [if_neg (by omega), if_pos rfl]
      have w2 : swp (k + 1) k (k + 2) = k + 2 := by unfold swp; rw [if_neg (by omega), if_neg (by omega)]
      have := main (k + 1) k (k + 2) (-s) (-D) (swpM M (k + 1) k) (by omega) (by omega) (by omega) (by omega) (by omega) (by omega) q2 (fun c => by unfold swpM; rw [w0]) (fun c => by unfold swpM; rw [w1]) (fun c => by unfold swpM; rw [w2])
        (by have : d3 M (k + 1) k (k + 2) k (k + 1) (k + 2) = - d3 M k (k + 1) (k + 2) k (k + 1) (k + 2) := by unfold d3; grind
            rw [this, e]; grind)
      rw [this]
      exact Int.neg_mul_neg ..
    · have q3 : M (k + 1) k = 0 := Decidable.not_not.mp q2
      rw [if_neg q2, piv]
      by_cases q4 : M (k + 1 + 1) k ≠ 0
      · rw [if_pos q4]
        dsimp only
        rw [if_neg (by omega)]
        have e1 : atP M (k + 1 + 1) k = swpM M (k + 2) k := by unfold atP; rw [if_neg (by omega)]
        rw [e1]
        have w0 : swp (k + 2) k k = k + 2 := swp_k
        have w1 : swp (k + 2) k (k + 1) = k + 1 := by unfold swp; rw [if_neg (by omega), if_neg (by omega)]
        have w2 : swp (k + 2) k (k + 2) = k := by unfold swp; rw [if_neg (by omega), if_pos rfl]
        have := main (k + 2) (k + 1) k (-s) (-D) (swpM M (k + 2) k) (by omega) (by omega) (by omega) (by omega) (by omega) (by omega) q4 (fun c => by unfold swpM; rw [w0]) (fun c => by unfold swpM; rw [w1]) (fun c => by unfold swpM; rw [w2])
          (by have : d3 M (k + 2) (k + 1) k k (k + 1) (k + 2) = - d3 M k (k + 1) (k + 2) k (k + 1) (k + 2) := by unfold d3; grind
              rw [this, e]; grind)
        rw [this]
        exact Int.neg_mul_neg ..
      · have q5 : M (k + 2) k = 0 := Decidable.not_not.mp q4
        rw [if_neg q4, piv]
        have : D = 0 := by
          have z : a * a * D = 0 := by rw [← e]; unfold d3; rw [q0, q3, q5]; simp
          exact (Int.mul_eq_zero.mp z).resolve_left (Int.mul_ne_zero ha ha)
        rw [this]; simp

noncomputable def d4 (M : Nat → Nat → Int) (a b c d : Nat) : Int :=
  M a 0 * d3 M b c d 1 2 3 - M a 1 * d3 M b c d 0 2 3 + M a 2 * d3 M b c d 0 1 3 - M a 3 * d3 M b c d 0 1 2

theorem det4 {M : Nat → Nat → Int} : detL 4 4 0 M 1 1 = d4 M 0 1 2 3 := by
  have main : ∀ (r u v x : Nat) (s' D' : Int) (N : Nat → Nat → Int), M r 0 ≠ 0 → (∀ c, N 0 c = M r c) → (∀ c, N 1 c = M u c) → (∀ c, N 2 c = M v c) → (∀ c, N 3 c = M x c) → d4 M r u v x = D' → detL 4 3 1 (stepM N 0 1) s' (N 0 0) = s' * D' := by
    intro r u v x s' D' N hp n0 n1 n2 n3 e
    have en : ∀ i c, 0 < i → 0 < c → stepM N 0 1 i c = d2 N 0 i 0 c := by
      intro i c hi hc
      unfold stepM newE d2
      rw [if_pos hi, if_pos hc]
      rw [Int.fdiv_one, Int.mul_comm (N i c)]
    have hp' : N 0 0 ≠ 0 := by rw [n0]; exact hp
    refine det3 (n := 4) (k := 1) rfl hp' (fun r r' c c' => d3 N 0 r r' 0 c c') (fun r r' c c' h1 _ h2 _ h3 _ h4 _ => ?_) ?_
    · unfold d2
      rw [en r c h1 h3, en r' c' h2 h4, en r' c h2 h3, en r c' h1 h4]
      unfold d2 d3; grind
    · rw [show d3 (stepM N 0 1) 1 (1 + 1) (1 + 2) 1 (1 + 1) (1 + 2) = d3 (fun i c => d2 N 0 i 0 c) 1 2 3 1 2 3 by
        unfold d3
        simp only [en 1 1 (by omega) (by omega), en 1 (1 + 1) (by omega) (by omega), en 1 (1 + 2) (by omega) (by omega), en (1 + 1) 1 (by omega) (by omega), en (1 + 1) (1 + 1) (by omega) (by omega), en (1 + 1) (1 + 2) (by omega) (by omega), en (1 + 2) 1 (by omega) (by omega), en (1 + 2) (1 + 1) (by omega) (by omega), en (1 + 2) (1 + 2) (by omega) (by omega)]]
      rw [← e]
      have : d4 M r u v x = d4 N 0 1 2 3 := by unfold d4 d3; simp only [n0, n1, n2, n3]
      rw [this]
      unfold d4 d3 d2
      grind
  rw [detL, show (4 - 0) = 4 from rfl, piv]
  by_cases q : M 0 0 ≠ 0
  · rw [if_pos q]
    dsimp only
    rw [if_pos rfl]
    have e1 : atP M 0 0 = M := by unfold atP; rw [if_pos rfl]
    rw [e1]
    have := main 0 1 2 3 1 _ M q (fun _ => rfl) (fun _ => rfl) (fun _ => rfl) (fun _ => rfl) rfl
    rw [Int.one_mul] at this
    exact this
  · have q0 : M 0 0 = 0 := Decidable.not_not.mp q
    rw [if_neg q, piv]
    have fin : ∀ r u v x, r ≠ 0 → M r 0 ≠ 0 → swp r 0 1 = u → swp r 0 2 = v → swp r 0 3 = x → d4 M r u v x = - d4 M 0 1 2 3 → detL 4 3 (0 + 1) (stepM (atP M r 0) 0 1) (if r = 0 then 1 else -1) (atP M r 0 0 0) = d4 M 0 1 2 3 := by
      intro r u v x hr hp w1 w2 w3 e
      rw [if_neg hr]
      have e1 : atP M r 0 = swpM M r 0 := by unfold atP; rw [if_neg hr]
      rw [e1]
      have := main r u v x (-1) _ (swpM M r 0) hp (fun c => by unfold swpM; rw [swp_k]) (fun c => by unfold swpM; rw [w1]) (fun c => by unfold swpM; rw [w2]) (fun c => by unfold swpM; rw [w3]) e
      rw [this]; simp
    by_cases q1 : M (0 + 1) 0 ≠ 0
    · rw [if_pos q1]
      exact fin 1 0 2 3 (by decide) q1 rfl rfl rfl (by unfold d4 d3; grind)
    · have p1 : M 1 0 = 0 := Decidable.not_not.mp q1
      rw [if_neg q1, piv]
      by_cases q2 : M (0 + 1 + 1) 0 ≠ 0
      · rw [if_pos q2]
        exact fin 2 1 0 3 (by decide) q2 rfl rfl rfl (by unfold d4 d3; grind)
      · have p2 : M 2 0 = 0 := Decidable.not_not.mp q2
        rw [if_neg q2, piv]
        by_cases q3 : M (0 + 1 + 1 + 1) 0 ≠ 0
        · rw [if_pos q3]
          exact fin 3 1 2 0 (by decide) q3 rfl rfl rfl (by unfold d4 d3; grind)
        · have p3 : M 3 0 = 0 := Decidable.not_not.mp q3
          rw [if_neg q3, piv]
          dsimp only
          unfold d4 d3
          rw [q0, p1, p2, p3]
          simp

theorem det33 {M : Nat → Nat → Int} : detL 3 3 0 M 1 1 = d3 M 0 1 2 0 1 2 := by
  have := det3 (n := 3) (k := 0) (M := M) (s := 1) (a := 1) (D := d3 M 0 1 2 0 1 2) rfl (by decide) (fun r r' c c' => d2 M r r' c c') (fun _ _ _ _ _ _ _ _ _ _ _ _ => by rw [Int.one_mul]) (by rw [Int.one_mul, Int.one_mul])
  rw [this, Int.one_mul]

end Mine

namespace Mine
set_option maxRecDepth 100000
set_option autoImplicit false

noncomputable def F3 (a b c : Int) : List Int := [-(a * b * c), a * b + a * c + b * c, -(a + b + c), 1]
noncomputable def F4 (a b c d : Int) : List Int := [a * b * c * d, -(a * b * c + a * b * d + a * c * d + b * c * d), a * b + a * c + a * d + b * c + b * d + c * d, -(a + b + c + d), 1]
noncomputable def D3 (a b c : Int) : Int := (b - a) * (c - a) * (c - b)
noncomputable def D4 (a b c d : Int) : Int := (b - a) * (c - a) * (c - b) * (d - a) * (d - b) * (d - c)

theorem root3 (a b c : Int) : rootL [1] [a, b, c] = F3 a b c := by
  simp [rootL, rootStep, F3]
  grind
theorem root4 (a b c d : Int) : rootL [1] [a, b, c, d] = F4 a b c d := by
  simp [rootL, rootStep, F4]
  grind
theorem spr3 (a b c : Int) : sprL 1 [] [a, b, c] = D3 a b c := by
  simp [sprL, sprRow, D3]
theorem spr4 (a b c d : Int) : sprL 1 [] [a, b, c, d] = D4 a b c d := by
  simp [sprL, sprRow, D4]

noncomputable def rg : List Int := [-4, -3, -2, -1, 0, 1, 2, 3, 4]
theorem rg_nat : ∀ k : Nat, k < 9 → ((k : Int) - 4) ∈ rg := by decide
theorem mem_rg {x : Int} (h : -4 ≤ x ∧ x ≤ 4) : x ∈ rg := by
  have := rg_nat (x + 4).toNat (by omega)
  rwa [show (((x + 4).toNat : Nat) : Int) - 4 = x by omega] at this

noncomputable def ge (a : Int) : List Int := rg.filter fun x => decide (a ≤ x)
noncomputable def ck3 (a b c : Int) : Bool := decide (discP (F3 a b c) = some (D3 a b c * D3 a b c))
noncomputable def ck4 (a b c d : Int) : Bool := decide (discP (F4 a b c d) = some (D4 a b c d * D4 a b c d))
noncomputable def all3 (a : Int) : Bool := (ge a).all fun b => (ge b).all fun c => ck3 a b c
noncomputable def all4 (a : Int) : Bool := (ge a).all fun b => (ge b).all fun c => (ge c).all fun d => ck4 a b c d

theorem c3 : rg.all all3 = true := by decide +kernel
theorem c4a : all4 (-4) = true := by decide +kernel
theorem c4b : all4 (-3) = true := by decide +kernel
theorem c4c : all4 (-2) = true := by decide +kernel
theorem c4d : all4 (-1) = true := by decide +kernel
theorem c4e : all4 0 = true := by decide +kernel
theorem c4f : all4 1 = true := by decide +kernel
theorem c4g : all4 2 = true := by decide +kernel
theorem c4h : all4 3 = true := by decide +kernel
theorem c4i : all4 4 = true := by decide +kernel

theorem c4 : rg.all all4 = true := by
  show (all4 (-4) && (all4 (-3) && (all4 (-2) && (all4 (-1) && (all4 0 && (all4 1 && (all4 2 && (all4 3 && (all4 4 && true))))))))) = true
  rw [c4a, c4b, c4c, c4d, c4e, c4f, c4g, c4h, c4i]
  rfl

theorem mem_ge {a x : Int} (h : -4 ≤ x ∧ x ≤ 4) (ha : a ≤ x) : x ∈ ge a := List.mem_filter.mpr ⟨mem_rg h, decide_eq_true ha⟩

noncomputable def In (x : Int) : Prop := -4 ≤ x ∧ x ≤ 4
theorem sorted3 {a b c : Int} (ha : In a) (hb : In b) (hc : In c) (h1 : a ≤ b) (h2 : b ≤ c) : discP (F3 a b c) = some (D3 a b c * D3 a b c) := by
  have h := c3
  rw [List.all_eq_true] at h
  have h := h a (mem_rg ha)
  unfold all3 at h
  rw [List.all_eq_true] at h
  have h := h b (mem_ge hb h1)
  rw [List.all_eq_true] at h
  exact of_decide_eq_true (h c (mem_ge hc h2))
theorem sorted4 {a b c d : Int} (ha : In a) (hb : In b) (hc : In c) (hd : In d) (h1 : a ≤ b) (h2 : b ≤ c) (h3 : c ≤ d) : discP (F4 a b c d) = some (D4 a b c d * D4 a b c d) := by
  have h := c4
  rw [List.all_eq_true] at h
  have h := h a (mem_rg ha)
  unfold all4 at h
  rw [List.all_eq_true] at h
  have h := h b (mem_ge hb h1)
  rw [List.all_eq_true] at h
  have h := h c (mem_ge hc h2)
  rw [List.all_eq_true] at h
  exact of_decide_eq_true (h d (mem_ge hd h3))

noncomputable def P3 (a b c : Int) : Prop := In a → In b → In c → discP (F3 a b c) = some (D3 a b c * D3 a b c)
noncomputable def P4 (a b c d : Int) : Prop := In a → In b → In c → In d → discP (F4 a b c d) = some (D4 a b c d * D4 a b c d)

theorem s3a {a b c : Int} (h : P3 a b c) : P3 b a c := fun hb ha hc => by
  have e1 : F3 b a c = F3 a b c := by unfold F3; congr 1 <;> grind
  have e2 : D3 b a c * D3 b a c = D3 a b c * D3 a b c := by unfold D3; grind
  rw [e1, e2]; exact h ha hb hc
theorem s3b {a b c : Int} (h : P3 a b c) : P3 a c b := fun ha hc hb => by
  have e1 : F3 a c b = F3 a b c := by unfold F3; congr 1 <;> grind
  have e2 : D3 a c b * D3 a c b = D3 a b c * D3 a b c := by unfold D3; grind
  rw [e1, e2]; exact h ha hb hc
theorem s4a {a b c d : Int} (h : P4 a b c d) : P4 b a c d := fun hb ha hc hd => by
  have e1 : F4 b a c d = F4 a b c d := by unfold F4; congr 1 <;> grind
  have e2 : D4 b a c d = - D4 a b c d := by unfold D4; grind
  rw [e1, e2, Int.neg_mul_neg]; exact h ha hb hc hd
theorem s4b {a b c d : Int} (h : P4 a b c d) : P4 a c b d := fun ha hc hb hd => by
  have e1 : F4 a c b d = F4 a b c d := by unfold F4; congr 1 <;> grind
  have e2 : D4 a c b d = - D4 a b c d := by unfold D4; grind
  rw [e1, e2, Int.neg_mul_neg]; exact h ha hb hc hd
theorem s4c {a b c d : Int} (h : P4 a b c d) : P4 a b d c := fun ha hb hd hc => by
  have e1 : F4 a b d c = F4 a b c d := by unfold F4; congr 1 <;> grind
  have e2 : D4 a b d c = - D4 a b c d := by unfold D4; grind
  rw [e1, e2, Int.neg_mul_neg]; exact h ha hb hc hd

theorem p3_1 {a b c : Int} (h1 : a ≤ b) : P3 a b c := by
  by_cases q : b ≤ c
  · exact fun ha hb hc => sorted3 ha hb hc h1 q
  · apply s3b
    by_cases q2 : a ≤ c
    · exact fun ha hc hb => sorted3 ha hc hb q2 (by omega)
    · apply s3a
      exact fun hc ha hb => sorted3 hc ha hb (by omega) h1
theorem p3 (a b c : Int) : P3 a b c := by
  by_cases q : a ≤ b
  · exact p3_1 q
  · exact s3a (p3_1 (by omega))
theorem p4_1 {a b c d : Int} (h1 : a ≤ b) (h2 : b ≤ c) : P4 a b c d := by
  by_cases q : c ≤ d
  · exact fun ha hb hc hd => sorted4 ha hb hc hd h1 h2 q
  · apply s4c
    by_cases q2 : b ≤ d
    · exact fun ha hb hd hc => sorted4 ha hb hd hc h1 q2 (by omega)
    · apply s4b
      by_cases q3 : a ≤ d
      · exact fun ha hd hb hc => sorted4 ha hd hb hc q3 (by omega) h2
      · apply s4a
        exact fun hd ha hb hc => sorted4 hd ha hb hc (by omega) h1 h2
theorem p4_2 {a b c d : Int} (h1 : a ≤ b) : P4 a b c d := by
  by_cases q : b ≤ c
  · exact p4_1 h1 q
  · apply s4b
    by_cases q2 : a ≤ c
    · exact p4_1 q2 (by omega)
    · exact s4a (p4_1 (by omega) h1)
theorem p4 (a b c d : Int) : P4 a b c d := by
  by_cases q : a ≤ b
  · exact p4_2 q
  · exact s4a (p4_2 (by omega))

end Mine

namespace Mine
set_option maxRecDepth 100000
set_option autoImplicit false

noncomputable def evL : List Int → Int → Int
  | [], _ => 0
  | c :: l, x => c + x * evL l x

theorem evL_add (x : Int) : ∀ a b : List Int, evL (addL a b) x = evL a x + evL b x
  | [], b => by simp [addL, evL]
  | u :: a, [] => by simp [addL, evL]
  | u :: a, v :: b => by
    simp only [addL, evL, evL_add x a b]
    grind
theorem evL_neg (x : Int) : ∀ a : List Int, evL (negL a) x = - evL a x
  | [] => rfl
  | u :: a => by
    have := evL_neg x a
    show -u + x * evL (negL a) x = -(u + x * evL a x)
    rw [this]; grind
theorem evL_trim (x : Int) : ∀ a : List Int, evL (trimL a) x = evL a x
  | [] => rfl
  | u :: a => by
    have ih := evL_trim x a
    rw [trimL]
    split
    · rename_i e
      rw [e] at ih
      split
      · rename_i z; rw [z]; simp [evL] at ih ⊢; rw [← ih]; simp
      · simp only [evL] at ih ⊢; rw [← ih]
    · rename_i e
      rw [e] at ih
      show u + x * evL _ x = u + x * evL a x
      rw [← ih]
theorem evL_raise (x : Int) (l : List Int) : ∀ k : Nat, evL (List.replicate k 0 ++ l) x = x ^ k * evL l x
  | 0 => by simp
  | k + 1 => by
    rw [List.replicate_succ, List.cons_append]
    show 0 + x * evL _ x = _
    rw [evL_raise x l k, Int.pow_succ]; grind
theorem evL_scale (x u : Int) : ∀ l : List Int, evL (l.map fun y => y * u) x = evL l x * u
  | [] => by simp [evL]
  | y :: l => by
    show y * u + x * evL (l.map fun y => y * u) x = (y + x * evL l x) * u
    rw [evL_scale x u l]; grind

theorem addL_snoc {x y : Int} : ∀ {a b : List Int}, a.length = b.length → addL (a ++ [x]) (b ++ [y]) = addL a b ++ [x + y]
  | [], [], _ => rfl
  | u :: a, v :: b, h => by
    show (u + v) :: addL (a ++ [x]) (b ++ [y]) = (u + v) :: (addL a b ++ [x + y])
    rw [addL_snoc (by simpa using h)]
  | [], _ :: _, h => by simp at h
  | _ :: _, [], h => by simp at h

theorem trimL_mem : ∀ {l : List Int} {y : Int}, y ∈ trimL l → y ∈ l
  | [], y, h => by simp [trimL] at h
  | u :: a, y, h => by
    rw [trimL] at h
    split at h
    · split at h
      · simp at h
      · simp at h; simp [h]
    · rename_i e
      rcases List.mem_cons.mp h with q | q
      · simp [q]
      · rw [← e] at q
        exact List.mem_cons_of_mem _ (trimL_mem q)
theorem trimL_idem : ∀ l : List Int, trimL (trimL l) = trimL l
  | [] => rfl
  | u :: a => by
    have ih := trimL_idem a
    cases e : trimL a with
    | nil =>
      by_cases z : u = 0
      · simp [trimL, e, z]
      · simp [trimL, e, z]
    | cons y s =>
      rw [e] at ih
      have : trimL (u :: a) = u :: y :: s := by rw [trimL, e]
      rw [this, trimL, ih]
theorem trim_last {l : List Int} {u : Int} (h : trimL (l ++ [u]) = l ++ [u]) : u ≠ 0 := fun z => by
  rw [trimL_append, if_pos z] at h
  have := trimL_len l
  rw [h] at this
  simp at this
  omega
theorem mapM_of {α β : Type} {g : α → Option β} {h : α → β} : ∀ {l : List α}, (∀ x ∈ l, g x = some (h x)) → l.mapM g = some (l.map h)
  | [], _ => rfl
  | x :: l, q => by
    rw [List.mapM_cons, q x (List.mem_cons_self ..), mapM_of fun y hy => q y (List.mem_cons_of_mem _ hy)]
    rfl
theorem scaleO_bd {p : List Int} {k : Int} {e e' : Nat} (hp : ∀ y ∈ p, Bd e y) (hk : Bd e' k) (h0 : k ≠ 0) (he : e ≤ 2000) (he' : e' ≤ 2000) : scaleO p k = some (p.map fun y => y * k) := by
  unfold scaleO
  rw [if_pos h0]
  exact mapM_of fun x hx => mulO_bd (hp x hx) hk he he'
theorem map_one (p : List Int) : (p.map fun y => y * 1) = p := by simp
theorem addL_bd {e : Nat} : ∀ {a b : List Int}, (∀ y ∈ a, Bd e y) → (∀ y ∈ b, Bd e y) → ∀ y ∈ addL a b, Bd (e + 1) y
  | [], b, _, hb, y, hy => by simp [addL] at hy; exact (hb y hy).mono (by omega)
  | u :: a, [], ha, _, y, hy => by rw [addL] at hy; exact (ha y hy).mono (by omega); simp
  | u :: a, v :: b, ha, hb, y, hy => by
    rw [addL] at hy
    rcases List.mem_cons.mp hy with rfl | hy
    · exact (ha u (List.mem_cons_self ..)).add (hb v (List.mem_cons_self ..))
    · exact addL_bd (fun y hy => ha y (List.mem_cons_of_mem _ hy)) (fun y hy => hb y (List.mem_cons_of_mem _ hy)) y hy
theorem negL_bd {e : Nat} {a : List Int} (h : ∀ y ∈ a, Bd e y) : ∀ y ∈ negL a, Bd e y := fun y hy => by
  obtain ⟨z, hz, rfl⟩ := List.mem_map.mp hy
  exact (h z hz).neg
theorem raiseL_bd {e k : Nat} {a : List Int} (h : ∀ y ∈ a, Bd e y) : ∀ y ∈ raiseL a k, Bd e y := fun y hy => by
  unfold raiseL at hy
  split at hy
  · rcases List.mem_append.mp hy with hy | hy
    · rw [(List.mem_replicate.mp hy).2]; exact bd_zero
    · exact h y hy
  · simp at hy
theorem subL_bd {e : Nat} {a b : List Int} (ha : ∀ y ∈ a, Bd e y) (hb : ∀ y ∈ b, Bd e y) : ∀ y ∈ subL a b, Bd (e + 1) y := fun y hy => addL_bd ha (negL_bd hb) y (trimL_mem hy)

section
variable {p q : Int}

/-- division by a monic polynomial of degree two -/
theorem mono_loop (hp : Bd 6 p) (hq : Bd 6 q) : ∀ (L F : Nat) (rest found : List Int) (left : Int) (e : Nat), rest.length ≤ L → L < F → rest.length ≤ 5 → trimL rest = rest → found.length ≤ 5 - rest.length + 3 → (∀ y ∈ rest, Bd e y) → (∀ y ∈ found, Bd e y) → e + 7 * L ≤ 1900 →
    (rest.length : Int) - 2 ≤ left → 0 ≤ left → left ≤ 100 →
    ∃ r f lft, pseudoL [p, q, 1] 1 F rest found left = some (r, f, lft) ∧ r.length ≤ 2 ∧ trimL r = r ∧ (∀ y ∈ r, Bd (e + 7 * L) y) ∧ (∀ y ∈ f, Bd (e + 7 * L) y) ∧ 0 ≤ lft ∧ lft ≤ 100 ∧
      ∀ t, p + t * (q + t) = 0 → evL r t = evL rest t
  | L, 0, rest, found, left, e, _, h, _, _, _, _, _, _, _, _, _ => by omega
  | L, F + 1, rest, found, left, e, hL, hF, h5, ht, hfl, hr, hf, he, hl1, hl2, hl3 => by
    rw [pseudoL, if_pos ⟨by omega, by omega⟩]
    by_cases h3 : 3 ≤ rest.length
    · rw [if_pos (by simpa using h3)]
      rcases List.eq_nil_or_concat rest with rfl | ⟨init, u, rfl⟩
      · simp at h3
      · rw [List.concat_eq_append] at *
        have hu0 : u ≠ 0 := trim_last ht
        have hu : Bd e u := hr u (by simp)
        have hlead : lead (init ++ [u]) = u := by simp [lead]
        rw [List.length_append, List.length_singleton] at *
        have s1 : scaleO found 1 = some found := by rw [scaleO_bd hf (show Bd 1 1 by unfold Bd; decide) (by decide) (by omega) (by omega), map_one]
        have s2 : scaleO (init ++ [u]) 1 = some (init ++ [u]) := by rw [scaleO_bd hr (show Bd 1 1 by unfold Bd; decide) (by decide) (by omega) (by omega), map_one]
        have hg : ∀ y ∈ [p, q, 1], Bd 6 y := by
          intro y hy
          simp at hy
          rcases hy with rfl | rfl | rfl
          · exact hp
          · exact hq
          · unfold Bd; decide
        have s3 : scaleO [p, q, 1] u = some [p * u, q * u, 1 * u] := by rw [scaleO_bd hg hu hu0 (by omega) (by omega)]; rfl
        rw [s1, s2, hlead, s3]
        simp only [Option.bind_eq_bind, Option.bind_some]
        have hk : init.length + 1 - [p, q, 1].length = init.length - 2 := by simp
        rw [hk]
        generalize hkk : init.length - 2 = k
        have hrs : raiseL [p * u, q * u, 1 * u] k = (List.replicate k 0 ++ [p * u, q * u]) ++ [1 * u] := by simp [raiseL]
        have hnew : subL (init ++ [u]) (raiseL [p * u, q * u, 1 * u] k) = trimL (addL init (negL (List.replicate k 0 ++ [p * u, q * u]))) := by
          rw [hrs]
          unfold subL
          have : negL ((List.replicate k 0 ++ [p * u, q * u]) ++ [1 * u]) = negL (List.replicate k 0 ++ [p * u, q * u]) ++ [-(1 * u)] := by simp [negL]
          rw [this, addL_snoc (by simp [negL]; omega), trimL_append, if_pos (by omega)]
        have hlen : (subL (init ++ [u]) (raiseL [p * u, q * u, 1 * u] k)).length ≤ init.length := by
          rw [hnew]
          refine Nat.le_trans (trimL_len _) ?_
          rw [addL_len]
          simp [negL]
          omega
        have hfound : (subL found (raiseL [-u] k)).length ≤ max found.length (k + 1) := by
          refine Nat.le_trans subL_len ?_
          have := raiseL_len [-u] k
          simp at this
          omega
        have b3 : ∀ y ∈ raiseL [p * u, q * u, 1 * u] k, Bd (e + 6) y := raiseL_bd fun y hy => by
          have : ∀ z, Bd 6 z → Bd (e + 6) (z * u) := fun z hz => (hz.mul hu).mono (by omega)
          simp only [List.mem_cons, List.not_mem_nil, or_false] at hy
          rcases hy with rfl | rfl | rfl
          · exact this _ hp
          · exact this _ hq
          · exact this _ (by unfold Bd; decide)
        obtain ⟨r, f, lft, g1, g2, g3, g4, g5, g6, g7, g8⟩ := mono_loop hp hq (L - 1) F (subL (init ++ [u]) (raiseL [p * u, q * u, 1 * u] k)) (subL found (raiseL [-u] k)) (left - 1) (e + 7) (by omega) (by omega) (by omega) (trimL_idem _) (by omega)
          (fun y hy => subL_bd (e := e + 6) (fun z hz => (hr z hz).mono (by omega)) b3 y hy)
          (fun y hy => (subL_bd (e := e) hf (raiseL_bd fun z hz => by simp at hz; rw [hz]; exact hu.neg) y hy).mono (by omega)) (by omega) (by omega) (by omega) (by omega)
        refine ⟨r, f, lft, g1, g2, g3, fun y hy => (g4 y hy).mono (by omega), fun y hy => (g5 y hy).mono (by omega), g6, g7, fun t hz => ?_⟩
        rw [g8 t hz]
        unfold subL
        rw [evL_trim, evL_add, evL_neg, hrs, List.append_assoc, evL_raise]
        have : evL ([p * u, q * u] ++ [1 * u]) t = (p + t * (q + t)) * u := by simp [evL]; grind
        rw [this, hz]; simp
    · rw [if_neg (by simpa using h3)]
      exact ⟨rest, found, left, rfl, by omega, ht, fun y hy => (hr y hy).mono (by omega), fun y hy => (hf y hy).mono (by omega), hl2, hl3, fun _ _ => rfl⟩

theorem bd_one : Bd 1 1 := by unfold Bd; decide

theorem full_mono (hp : Bd 6 p) (hq : Bd 6 q) {f : List Int} (h2 : 3 ≤ f.length) (h5 : f.length ≤ 5) (ht : trimL f = f) (hb : ∀ y ∈ f, Bd 10 y) :
    ∃ r, fullP f [p, q, 1] = some r ∧ r.length ≤ 2 ∧ trimL r = r ∧ (∀ y ∈ r, Bd 50 y) ∧ ∀ t, p + t * (q + t) = 0 → evL r t = evL f t := by
  have hm : manyI f [p, q, 1] = (f.length : Int) - 2 := by
    unfold manyI; simp only [List.length_cons, List.length_nil]
    rw [if_pos (by omega)]; omega
  obtain ⟨r, ff, lft, g1, g2, g3, g4, g5, g6, g7, g8⟩ := mono_loop hp hq 5 1000 f [] ((f.length : Int) - 2) 10 h5 (by omega) h5 ht (by simp) hb (by simp) (by omega) (by omega) (by omega) (by omega)
  have hl : lead [p, q, 1] = 1 := rfl
  have ps : pseudoP f [p, q, 1] = some (ff, r, (f.length : Int) - 2) := by
    unfold pseudoP
    rw [if_pos (show 0 < [p, q, 1].length ∧ [p, q, 1].length ≤ 100 ∧ f.length ≤ 100 from ⟨Nat.zero_lt_succ _, Nat.le_of_ble_eq_true rfl, by omega⟩), hl, hm, g1]
    simp only [Option.bind_eq_bind, Option.bind_some]
    rw [powO_bd bd_one (by omega) g6 (by omega)]
    simp only [Option.bind_some]
    rw [Int.one_pow, scaleO_bd g5 bd_one (by decide) (by omega) (by omega), scaleO_bd g4 bd_one (by decide) (by omega) (by omega), map_one, map_one]
    rfl
  refine ⟨r, ?_, g2, g3, fun y hy => (g4 y hy).mono (by omega), g8⟩
  unfold fullP
  rw [ps]
  simp only [Option.bind_eq_bind, Option.bind_some]
  have e0 : ((f.length : Int) - 1 - (([p, q, 1].length : Int) - 1) + 1 - ((f.length : Int) - 2)) = 0 := by simp; omega
  rw [e0, hl]
  have : r.mapM (fun c => (powO 1 0).bind fun p => mulO c p) = some (r.map fun c => c * 1) := mapM_of fun c hc => by
    rw [powO_bd bd_one (by omega) (by omega) (by omega)]
    simp only [Option.bind_some]
    rw [show ((1 : Int) ^ (0 : Int).toNat) = 1 from rfl]
    exact mulO_bd (g4 c hc) bd_one (by omega) (by omega)
  rw [this, map_one]

end
end Mine

namespace Mine
set_option maxRecDepth 100000
set_option autoImplicit false

theorem trim1 (x : Int) : trimL [x] = if x = 0 then [] else [x] := rfl
theorem trim2 (x y : Int) : trimL [x, y] = if y = 0 then trimL [x] else [x, y] := trimL_append y [x]
theorem trim3 (x y z : Int) : trimL [x, y, z] = if z = 0 then trimL [x, y] else [x, y, z] := trimL_append z [x, y]

section
variable {p q r0 r1 : Int}

theorem scale_two {x y k : Int} {e e' : Nat} (hx : Bd e x) (hy : Bd e y) (hk : Bd e' k) (h0 : k ≠ 0) (he : e ≤ 2000) (he' : e' ≤ 2000) : scaleO [x, y] k = some [x * k, y * k] :=
  scaleO_bd (fun z hz => by simp at hz; rcases hz with rfl | rfl <;> assumption) hk h0 he he'

/-- the monic one divided by one of degree one -/
theorem full_lin (hp : Bd 6 p) (hq : Bd 6 q) (h0 : Bd 50 r0) (h1 : Bd 50 r1) (hz : r1 ≠ 0) :
    fullP [p, q, 1] [r0, r1] = some (trimL [p * r1 * r1 - q * r1 * r0 + r0 * r0]) := by
  have hm : manyI [p, q, 1] [r0, r1] = 2 := rfl
  have hl : lead [r0, r1] = r1 := rfl
  have ps : ∃ ff, pseudoP [p, q, 1] [r0, r1] = some (ff, trimL [p * r1 * r1 - q * r1 * r0 + r0 * r0], 2) := by
    unfold pseudoP
    rw [if_pos (show 0 < [r0, r1].length ∧ [r0, r1].length ≤ 100 ∧ [p, q, 1].length ≤ 100 from ⟨Nat.zero_lt_succ _, Nat.le_of_ble_eq_true rfl, Nat.le_of_ble_eq_true rfl⟩), hl, hm]
    have step1 : pseudoL [r0, r1] r1 1000 [p, q, 1] [] 2 = pseudoL [r0, r1] r1 999 (trimL [p * r1, q * r1 - r0]) [0, 1] 1 := by
      rw [show (1000 : Nat) = 999 + 1 from rfl, pseudoL, if_pos ⟨Nat.le_of_ble_eq_true rfl, Nat.le_of_ble_eq_true rfl⟩, if_pos (Nat.le_of_ble_eq_true rfl)]
      have s1 : scaleO [] r1 = some [] := by unfold scaleO; rw [if_pos hz]; rfl
      have s2 : scaleO [p, q, 1] r1 = some [p * r1, q * r1, 1 * r1] := scaleO_bd (e := 6) (fun z hz => by
        simp at hz
        rcases hz with rfl | rfl | rfl
        · exact hp
        · exact hq
        · unfold Bd; decide) h1 hz (by omega) (by omega)
      have s3 : scaleO [r0, r1] (lead [p, q, 1]) = some [r0 * 1, r1 * 1] := scale_two h0 h1 bd_one (by show (1 : Int) ≠ 0; decide) (by omega) (by omega)
      rw [s1, s2, s3]
      simp only [Option.bind_eq_bind, Option.bind_some]
      have e1 : subL [p * r1, q * r1, 1 * r1] (raiseL [r0 * 1, r1 * 1] ([p, q, 1].length - [r0, r1].length)) = trimL [p * r1, q * r1 - r0] := by
        show trimL [p * r1 + -0, q * r1 + -(r0 * 1), 1 * r1 + -(r1 * 1)] = _
        rw [trim3, if_pos (by omega)]
        congr 1
        simp [Int.sub_eq_add_neg]
      rw [e1]
      rfl
    rw [step1]
    have bu : Bd 57 (q * r1 - r0) := ((hq.mul h1).sub (h0.mono (by omega))).mono (by omega)
    have bp : Bd 57 (p * r1) := (hp.mul h1).mono (by omega)
    have b1 : Bd 50 r1 := h1
    by_cases hu : q * r1 - r0 = 0
    · have e1 : trimL [p * r1, q * r1 - r0] = trimL [p * r1] := by rw [trim2, if_pos hu]
      have hl1 : (trimL [p * r1]).length ≤ 1 := trimL_len _
      have ex : pseudoL [r0, r1] r1 999 (trimL [p * r1]) [0, 1] 1 = some (trimL [p * r1], [0, 1], 1) := by
        rw [show (999 : Nat) = 998 + 1 from rfl, pseudoL, if_pos ⟨by omega, Nat.le_of_ble_eq_true rfl⟩, if_neg (show ¬ [r0, r1].length ≤ (trimL [p * r1]).length by simp; omega)]
      rw [e1, ex]
      simp only [Option.bind_eq_bind, Option.bind_some]
      rw [powO_bd h1 (by omega) (by omega) (by omega)]
      simp only [Option.bind_some]
      have e2 : r1 ^ (1 : Int).toNat = r1 := by show r1 ^ 1 = r1; rw [Int.pow_succ, Int.pow_zero, Int.one_mul]
      rw [e2, scale_two (e := 1) (by unfold Bd; decide) bd_one h1 hz (by omega) (by omega)]
      simp only [Option.bind_some]
      have hW : p * r1 * r1 - q * r1 * r0 + r0 * r0 = p * r1 * r1 := by
        have : r0 = q * r1 := by omega
        rw [this]; grind
      rw [hW]
      refine ⟨[0 * r1, 1 * r1], ?_⟩
      have hs : scaleO (trimL [p * r1]) r1 = some (trimL [p * r1 * r1]) := by
        rw [trim1]
        by_cases hpz : p * r1 = 0
        · rw [if_pos hpz, trim1, if_pos (by rw [hpz]; simp)]
          unfold scaleO; rw [if_pos hz]; rfl
        · rw [if_neg hpz, trim1, if_neg (Int.mul_ne_zero hpz hz)]
          exact scaleO_bd (fun z hz => by simp at hz; rw [hz]; exact bp) h1 hz (by omega) (by omega)
      rw [hs]
      rfl
    · have e1 : trimL [p * r1, q * r1 - r0] = [p * r1, q * r1 - r0] := by rw [trim2, if_neg hu]
      have hW : p * r1 * r1 + -(r0 * (q * r1 - r0)) = p * r1 * r1 - q * r1 * r0 + r0 * r0 := by grind
      have bW : Bd 110 (p * r1 * r1 - q * r1 * r0 + r0 * r0) := by
        have a1 := (bp.mul h1)
        have a2 := ((hq.mul h1).mul h0)
        have a3 := h0.mul h0
        exact ((a1.sub (a2.mono (show _ ≤ 57 + 50 by omega))).add (a3.mono (show _ ≤ 57 + 50 + 1 by omega))).mono (by omega)
      have step2 : ∃ ff, pseudoL [r0, r1] r1 999 [p * r1, q * r1 - r0] [0, 1] 1 = pseudoL [r0, r1] r1 998 (trimL [p * r1 * r1 - q * r1 * r0 + r0 * r0]) ff 0 ∧ ff.length ≤ 3 ∧ (∀ y ∈ ff, Bd 100 y) := by
        rw [show (999 : Nat) = 998 + 1 from rfl, pseudoL, if_pos ⟨Nat.le_of_ble_eq_true rfl, Nat.le_of_ble_eq_true rfl⟩, if_pos (Nat.le_of_ble_eq_true rfl)]
        have s1 : scaleO [0, 1] r1 = some [0 * r1, 1 * r1] := scale_two (e := 1) (by unfold Bd; decide) bd_one h1 hz (by omega) (by omega)
        have s2 : scaleO [p * r1, q * r1 - r0] r1 = some [p * r1 * r1, (q * r1 - r0) * r1] := scale_two bp bu h1 hz (by omega) (by omega)
        have s3 : scaleO [r0, r1] (lead [p * r1, q * r1 - r0]) = some [r0 * (q * r1 - r0), r1 * (q * r1 - r0)] := scale_two h0 h1 bu hu (by omega) (by omega)
        rw [s1, s2, s3]
        simp only [Option.bind_eq_bind, Option.bind_some]
        have e1 : subL [p * r1 * r1, (q * r1 - r0) * r1] (raiseL [r0 * (q * r1 - r0), r1 * (q * r1 - r0)] ([p * r1, q * r1 - r0].length - [r0, r1].length)) = trimL [p * r1 * r1 - q * r1 * r0 + r0 * r0] := by
          show trimL [p * r1 * r1 + -(r0 * (q * r1 - r0)), (q * r1 - r0) * r1 + -(r1 * (q * r1 - r0))] = _
          rw [trim2, if_pos (by rw [Int.mul_comm r1]; omega), hW]
        rw [e1]
        refine ⟨_, rfl, ?_, ?_⟩
        · refine Nat.le_trans subL_len ?_
          have := raiseL_len [-lead [p * r1, q * r1 - r0]] ([p * r1, q * r1 - r0].length - [r0, r1].length)
          simp only [List.length_cons, List.length_nil] at this ⊢
          omega
        · intro y hy
          refine (subL_bd (e := 57) (fun z hz => ?_) (raiseL_bd fun z hz => ?_) y hy).mono (by omega)
          · simp at hz
            rcases hz with rfl | rfl
            · exact bd_zero
            · exact h1.mono (by omega)
          · simp at hz; rw [hz]; exact bu.neg
      obtain ⟨ff, st, fl, fb⟩ := step2
      have hl1 : (trimL [p * r1 * r1 - q * r1 * r0 + r0 * r0]).length ≤ 1 := trimL_len _
      have ex : pseudoL [r0, r1] r1 998 (trimL [p * r1 * r1 - q * r1 * r0 + r0 * r0]) ff 0 = some (trimL [p * r1 * r1 - q * r1 * r0 + r0 * r0], ff, 0) := by
        rw [show (998 : Nat) = 997 + 1 from rfl, pseudoL, if_pos ⟨by omega, by omega⟩, if_neg (show ¬ [r0, r1].length ≤ (trimL _).length by simp; omega)]
      rw [e1, st, ex]
      simp only [Option.bind_eq_bind, Option.bind_some]
      rw [powO_bd h1 (by omega) (by omega) (by omega)]
      simp only [Option.bind_some]
      rw [show r1 ^ (0 : Int).toNat = 1 from Int.pow_zero r1, scaleO_bd fb bd_one (by decide) (by omega) (by omega)]
      simp only [Option.bind_some]
      rw [scaleO_bd (e := 110) (fun y hy => by have := trimL_mem hy; simp at this; rw [this]; exact bW) bd_one (by decide) (by omega) (by omega), map_one]
      exact ⟨_, rfl⟩
  obtain ⟨ff, ps⟩ := ps
  unfold fullP
  rw [ps]
  simp only [Option.bind_eq_bind, Option.bind_some]
  have bW : Bd 150 (p * r1 * r1 - q * r1 * r0 + r0 * r0) := by
    have a1 := ((hp.mul h1).mul h1)
    have a2 := ((hq.mul h1).mul h0)
    have a3 := h0.mul h0
    exact ((a1.sub a2).add (a3.mono (by omega))).mono (by omega)
  have : (trimL [p * r1 * r1 - q * r1 * r0 + r0 * r0]).mapM (fun c => (powO (lead [r0, r1]) ((([p, q, 1].length : Int) - 1) - (([r0, r1].length : Int) - 1) + 1 - 2)).bind fun p => mulO c p) = some ((trimL [p * r1 * r1 - q * r1 * r0 + r0 * r0]).map fun c => c * 1) := mapM_of fun c hc => by
    have hc : c = p * r1 * r1 - q * r1 * r0 + r0 * r0 := by simpa using trimL_mem hc
    rw [hl]
    rw [show ((([p, q, 1].length : Int) - 1) - (([r0, r1].length : Int) - 1) + 1 - 2) = 0 from rfl, powO_bd h1 (by omega) (by omega) (by omega)]
    simp only [Option.bind_some]
    rw [show r1 ^ (0 : Int).toNat = 1 from Int.pow_zero r1]
    exact mulO_bd (by rw [hc]; exact bW) bd_one (by omega) (by omega)
  rw [this, map_one]

end
end Mine

namespace Mine
set_option maxRecDepth 100000
set_option autoImplicit false

theorem divP_one {l : List Int} {e : Nat} (h : ∀ y ∈ l, Bd e y) (he : e ≤ 2000) : divP l 1 = some l := by
  unfold divP
  rw [mapM_of (h := fun x => x) fun x hx => by rw [divO_bd (h x hx) bd_one he (by omega) (by decide), Int.fdiv_one]]
  simp
theorem powO_one {k : Int} (h0 : 0 ≤ k) (h1 : k ≤ 1000) : powO 1 k = some 1 := by
  rw [powO_bd bd_one (by omega) h0 h1, Int.one_pow]
theorem mulO_one {x : Int} {e : Nat} (h : Bd e x) (he : e ≤ 2000) : mulO 1 x = some x := by
  rw [mulO_bd bd_one h (by omega) he, Int.one_mul]
theorem divO_one {x : Int} {e : Nat} (h : Bd e x) (he : e ≤ 2000) : divO x 1 = some x := by
  rw [divO_bd h bd_one he (by omega) (by decide), Int.fdiv_one]
theorem pow1 (x : Int) : x ^ (1 : Int).toNat = x := by
  show x ^ 1 = x
  rw [Int.pow_succ, Int.pow_zero, Int.one_mul]
theorem hNext_one {gap : Int} (h0 : 0 ≤ gap) (h1 : gap ≤ 1000) : hNext 1 gap 1 = some 1 := by
  unfold hNext
  split
  · rw [powO_one h0 h1, powO_one (by omega) (by omega)]
    exact divO_one bd_one (by omega)
  · rfl

theorem gcdA_one : ∀ (l : List Int) (a : Nat), gcdA a (l ++ [1]) = 1
  | [], a => by simp [gcdA]
  | x :: l, a => by rw [List.cons_append, gcdA]; exact gcdA_one l _

section
variable {p q : Int}

theorem row_quad (hp : Bd 6 p) (hq : Bd 6 q) {f : List Int} (h2 : 3 ≤ f.length) (h5 : f.length ≤ 5) (ht : trimL f = f) (hb : ∀ y ∈ f, Bd 10 y) {t u : Int} (e0 : p + t * (q + t) = 0) (e1 : p + u * (q + u) = 0) (ep : p = t * u) (eq : q = -(t + u)) :
    rowP f [p, q, 1] 1 = some (evL f t * evL f u) := by
  obtain ⟨r, g1, g2, g3, g4, g5⟩ := full_mono hp hq h2 h5 ht hb
  rw [← g5 t e0, ← g5 u e1]
  have hl : lead [p, q, 1] = 1 := rfl
  have first : rowL 1000 f [p, q, 1] 1 1 1 = rowL 999 [p, q, 1] r 1 1 1 := by
    rw [show (1000 : Nat) = 999 + 1 from rfl, rowL, if_pos ⟨by omega, Nat.le_of_ble_eq_true rfl⟩, if_pos (show 1 < [p, q, 1].length from Nat.le_of_ble_eq_true rfl)]
    dsimp only
    have l3 : (([p, q, 1].length : Nat) : Int) = 3 := rfl
    rw [g1, hl, l3]
    simp only [Option.bind_eq_bind, Option.bind_some]
    rw [powO_one (by omega) (by omega), hNext_one (by omega) (by omega)]
    simp only [Option.bind_some]
    rw [mulO_one bd_one (by omega)]
    simp only [Option.bind_some]
    rw [divP_one g4 (by omega)]
    simp only [Option.bind_some]
    rw [if_pos (show r.length ≤ 100 by omega), if_neg (fun z => by have := z.2; exact absurd this (by decide))]
  unfold rowP
  rw [first]
  have stop : ∀ (F : Nat) (a b : List Int) (s g h : Int), a.length ≤ 100 → b.length ≤ 1 → rowL (F + 1) a b s g h = some (a, b, s, h) := fun F a b s g h ha hb => by
    rw [rowL, if_pos ⟨ha, by omega⟩, if_neg (by omega)]
  match r, g2, g3, g4 with
  | [], _, _, _ =>
    rw [show (999 : Nat) = 998 + 1 from rfl, stop _ _ _ _ _ _ (Nat.le_of_ble_eq_true rfl) (Nat.le_of_ble_eq_true rfl)]
    simp [evL]
  | [c], _, _, g4 =>
    have hc : Bd 50 c := g4 c (by simp)
    rw [show (999 : Nat) = 998 + 1 from rfl, stop _ _ _ _ _ _ (Nat.le_of_ble_eq_true rfl) (Nat.le_of_ble_eq_true rfl)]
    simp only [Option.bind_eq_bind, Option.bind_some]
    have l3 : (([p, q, 1].length : Nat) : Int) = 3 := rfl
    rw [l3, if_pos (by decide)]
    rw [powO_bd hc (by omega) (by decide) (by decide), powO_one (by decide) (by decide)]
    simp only [Option.bind_some]
    have e2 : c ^ ((3 : Int) - 1).toNat = c * c := by
      show c ^ 2 = c * c
      rw [Int.pow_succ, Int.pow_succ, Int.pow_zero, Int.one_mul]
    rw [e2, divO_one (hc.mul hc) (by omega)]
    simp only [Option.bind_some]
    rw [mulO_one (hc.mul hc) (by omega)]
    simp [evL]
  | [r0, r1], _, g3, g4 =>
    have h0 : Bd 50 r0 := g4 r0 (by simp)
    have h1 : Bd 50 r1 := g4 r1 (by simp)
    have hz : r1 ≠ 0 := trim_last (l := [r0]) g3
    have bW : Bd 150 (p * r1 * r1 - q * r1 * r0 + r0 * r0) := by
      have a1 := ((hp.mul h1).mul h1)
      have a2 := ((hq.mul h1).mul h0)
      have a3 := h0.mul h0
      exact ((a1.sub a2).add (a3.mono (by omega))).mono (by omega)
    have ev2 : evL [r0, r1] t * evL [r0, r1] u = p * r1 * r1 - q * r1 * r0 + r0 * r0 := by
      simp only [evL]
      rw [ep, eq]
      grind
    rw [ev2]
    have fl := full_lin hp hq h0 h1 hz
    generalize p * r1 * r1 - q * r1 * r0 + r0 * r0 = W at *
    have bT : ∀ y ∈ trimL [W], Bd 150 y := fun y hy => by
      have := trimL_mem hy
      simp at this
      rw [this]; exact bW
    have second : rowL 999 [p, q, 1] [r0, r1] 1 1 1 = some ([r0, r1], trimL [W], 1, r1) := by
      rw [show (999 : Nat) = 997 + 1 + 1 from rfl, rowL, if_pos ⟨Nat.le_of_ble_eq_true rfl, Nat.le_of_ble_eq_true rfl⟩, if_pos (show 1 < [r0, r1].length from Nat.le_of_ble_eq_true rfl)]
      dsimp only
      have l3 : (([p, q, 1].length : Nat) : Int) = 3 := rfl
      have l2 : (([r0, r1].length : Nat) : Int) = 2 := rfl
      have hl2 : lead [r0, r1] = r1 := rfl
      have hn : hNext r1 (3 - 1 - (2 - 1)) 1 = some r1 := by
        unfold hNext
        rw [if_pos (by decide), powO_bd h1 (by omega) (by decide) (by decide), powO_one (by decide) (by decide)]
        simp only [Option.bind_eq_bind, Option.bind_some]
        have : r1 ^ ((3 : Int) - 1 - (2 - 1)).toNat = r1 := pow1 r1
        rw [this]
        exact divO_one h1 (by omega)
      rw [fl, hl2, l3, l2, hn]
      simp only [Option.bind_eq_bind, Option.bind_some]
      rw [powO_one (by decide) (by decide)]
      simp only [Option.bind_some]
      rw [mulO_one bd_one (by omega)]
      simp only [Option.bind_some]
      rw [divP_one bT (by omega)]
      simp only [Option.bind_some]
      have lt1 : (trimL [W]).length ≤ 1 := trimL_len _
      rw [if_pos (show (trimL [W]).length ≤ 100 by omega), if_neg (fun z => by have := z.1; exact absurd this (by decide))]
      exact stop _ _ _ _ _ _ (Nat.le_of_ble_eq_true rfl) lt1
    rw [second]
    simp only [Option.bind_eq_bind, Option.bind_some]
    rw [trim1]
    by_cases hW : W = 0
    · rw [if_pos hW, hW]
    · rw [if_neg hW]
      have l2 : (([r0, r1].length : Nat) : Int) = 2 := rfl
      dsimp only
      rw [l2, if_pos (by decide), powO_bd bW (by omega) (by decide) (by decide), powO_bd h1 (by omega) (by decide) (by decide)]
      simp only [Option.bind_some]
      have a1 : W ^ ((2 : Int) - 1).toNat = W := pow1 W
      have a2 : r1 ^ ((2 : Int) - 1 - 1).toNat = 1 := Int.pow_zero r1
      rw [a1, a2, divO_one bW (by omega)]
      simp only [Option.bind_some]
      exact mulO_one bW (by omega)

theorem small_bd {l : List Int} (h : l.length ≤ 100) (hb : ∀ y ∈ l, y.natAbs < 1000) : small l = true := by
  unfold small
  rw [Bool.and_eq_true]
  refine ⟨decide_eq_true h, ?_⟩
  rw [List.all_eq_true]
  exact fun x hx => decide_eq_true (hb x hx)

theorem res_quad {f : List Int} {t u : Int} (ht : -6 ≤ t ∧ t ≤ 6) (hu : -6 ≤ u ∧ u ≤ 6) (h2 : 3 ≤ f.length + 1) (h5 : f.length + 1 ≤ 5) (hb : ∀ y ∈ f, y.natAbs < 1000) : resP (f ++ [1]) (rootL [1] [t, u]) = some (evL (f ++ [1]) t * evL (f ++ [1]) u) := by
  have eg : rootL [1] [t, u] = [t * u, -(t + u), 1] := by
    simp [rootL, rootStep]
    grind
  rw [eg]
  have btu : (t * u).natAbs ≤ 36 := by
    rw [Int.natAbs_mul]
    have := Nat.mul_le_mul (show t.natAbs ≤ 6 by omega) (show u.natAbs ≤ 6 by omega)
    omega
  have hp : Bd 6 (t * u) := by unfold Bd; omega
  have hq : Bd 6 (-(t + u)) := by unfold Bd; omega
  have hfl : (f ++ [1]).length = f.length + 1 := by simp
  have hb' : ∀ y ∈ f ++ [1], y.natAbs < 1000 := fun y hy => by
    rcases List.mem_append.mp hy with hy | hy
    · exact hb y hy
    · rw [List.mem_singleton.mp hy]; decide
  have hbd : ∀ y ∈ f ++ [1], Bd 10 y := fun y hy => by have := hb' y hy; unfold Bd; omega
  have hg' : ∀ y ∈ [t * u, -(t + u), 1], y.natAbs < 1000 := fun y hy => by
    simp only [List.mem_cons, List.not_mem_nil, or_false] at hy
    rcases hy with rfl | rfl | rfl
    · omega
    · omega
    · decide
  have row := row_quad hp hq (f := f ++ [1]) (by omega) (by omega) (by rw [trimL_append, if_neg (by decide)]) hbd (t := t) (u := u) (by grind) (by grind) rfl rfl
  unfold resP
  rw [if_pos ⟨Nat.zero_lt_succ _, by simp only [List.length_cons, List.length_nil]; omega, small_bd (by omega) hb', small_bd (Nat.le_of_ble_eq_true rfl) hg'⟩]
  have ga : gcdA 0 (f ++ [1]) = 1 := gcdA_one f 0
  have gb : gcdA 0 [t * u, -(t + u), 1] = 1 := gcdA_one [t * u, -(t + u)] 0
  rw [ga, gb]
  have c1 : ((1 : Nat) : Int) = 1 := rfl
  rw [c1, powO_one (by simp) (by simp), powO_one (by omega) (by omega)]
  simp only [Option.bind_eq_bind, Option.bind_some]
  rw [mulO_one bd_one (by omega), divP_one hbd (by omega), divP_one (e := 10) (fun y hy => by have := hg' y hy; unfold Bd; omega) (by omega)]
  simp only [Option.bind_some]
  rw [row]
  simp only [Option.bind_some]
  -- how large the result may be
  have bev : ∀ (l : List Int) (x : Int) (e : Nat), (∀ y ∈ l, Bd e y) → Bd 3 x → Bd (e + 4 * l.length) (evL l x) := by
    intro l x e hl hx
    induction l with
    | nil => exact bd_zero
    | cons c l ih =>
      have h1 := hl c (List.mem_cons_self ..)
      have h2 := hx.mul (ih fun y hy => hl y (List.mem_cons_of_mem _ hy))
      rw [List.length_cons]
      exact ((h1.mono (show e ≤ 3 + (e + 4 * l.length) by omega)).add h2).mono (by omega)
  have b1 := bev (f ++ [1]) t 10 hbd (by unfold Bd; omega)
  have b2 := bev (f ++ [1]) u 10 hbd (by unfold Bd; omega)
  exact mulO_one (b1.mul b2) (by omega)

end
end Mine

namespace Mine
open PySem
set_option maxRecDepth 100000
set_option autoImplicit false

noncomputable def powM (l : List Int) (ps : List Nat) : Nat → Nat → Int := fun r c => (l.getD r 0) ^ (ps.getD c 0)

theorem map_getD {α β : Type} (g : α → β) (d : α) (l : List α) : l.map g = (List.range l.length).map fun i => g (l.getD i d) := by
  apply List.ext_getElem
  · simp
  · intro i h1 h2
    simp at h1
    simp [h1]

theorem compL_map {α : Type} {f : V → Store → Option (Option V × Store)} {μ : Store} {g inj : α → V} : ∀ {l : List α}, (∀ x ∈ l, f (inj x) μ = some (some (g x), μ)) → compL f (l.map inj) μ = some (l.map g, μ)
  | [], _ => rfl
  | x :: l, h => by
    rw [List.map_cons, compL, h x (List.mem_cons_self ..)]
    simp [compL_map (l := l) fun y hy => h y (List.mem_cons_of_mem _ hy)]

theorem pow_small {x : Int} {k : Nat} (hx : -6 ≤ x ∧ x ≤ 6) (hk : k ≤ 5) : Bd 14 (x ^ k) := by
  unfold Bd
  rw [Int.natAbs_pow]
  have h1 : x.natAbs ^ k ≤ 6 ^ k := Nat.pow_le_pow_left (by omega) k
  have h2 : 6 ^ k ≤ 6 ^ 5 := Nat.pow_le_pow_right (by decide) hk
  have : (6 : Nat) ^ 5 = 7776 := by decide
  have : (2 : Nat) ^ 14 = 16384 := by decide
  omega

section
variable {m : Nat} {μ : Store}

theorem ev_comp_plain {orc : Orc} {caps : List Nat} {src cond elt : E} {σ : List V} {x : V} {its ys : List V} {μ₁ : Store} (h1 : ev orc src σ μ = some (x, μ)) (h2 : srcV .plain x (.list []) = some its) (h3 : compL (compF orc false caps cond elt σ) its μ = some (ys, μ₁)) :
    ev orc (.comp false false .plain caps src .nil cond elt) σ μ = some (.list ys, μ₁) := by
  rw [ev_comp_eq, h1]
  simp only [Option.bind_eq_bind, Option.bind_some, ev_nil, h2, h3, mkL]
  rfl

theorem O_powers {l : List Int} {ps : List Nat} {pv : V} {n : Nat} (hn : n ≤ 6) (hl : l.length = n) (hp : ps.length = n) (hx : ∀ x ∈ l, -6 ≤ x ∧ x ≤ 6) (hk : ∀ k ∈ ps, k ≤ 5) (hv : pv.ok = true) (hs : srcV .plain pv (.list []) = some (ps.map fun k : Nat => V.int (k : Int))) :
    ∃ μ', O (m + 3) "_law_powers" [zl l, pv] μ = some (.int (detL n n 0 (powM l ps) 1 1), μ') := by
  have hB : BM 14 n (powM l ps) := fun r c hr hc => by
    unfold powM
    refine pow_small (hx _ ?_) (hk _ ?_)
    · rw [List.getD_eq_getElem?_getD, List.getElem?_eq_getElem (by omega)]; exact List.getElem_mem _
    · rw [List.getD_eq_getElem?_getD, List.getElem?_eq_getElem (by omega)]; exact List.getElem_mem _
  obtain ⟨μ', e⟩ := O_det (m := m) (μ := μ) hn hB
  refine ⟨μ', ?_⟩
  show runFn (O (m + 2)) fuel f_law_powers [zl l, pv] μ = _
  refine run_of (f := f_law_powers) (σ' := [zl l, pv]) (fl := .ret (.int (detL n n 0 (powM l ps) 1 1))) rfl (ex_seq_ret (ex_ret (ev_call1 ?_ e)))
  have rows : (l.map fun x => V.list (ps.map fun k => V.int (x ^ k))) = (List.range n).map fun i => V.list (rowV (powM l ps) n i) := by
    rw [map_getD (fun x => V.list (ps.map fun k => V.int (x ^ k))) 0 l, hl]
    apply List.map_congr_left
    intro i _
    congr 1
    rw [map_getD (fun k => V.int (l.getD i 0 ^ k)) 0 ps, hp]
    rfl
  rw [← rows]
  refine ev_comp_plain (ev_var (v := zl l) rfl rfl) (turns_ints (by omega)) (compL_map fun x hx' => ?_)
  refine compF_one (b := [pv, .int x]) rfl ?_
  refine ev_comp_plain (ev_var (v := pv) rfl hv) hs (compL_map (inj := fun k : Nat => V.int (k : Int)) fun k hk' => ?_)
  refine compF_one (b := [.int x, .int k]) rfl (ev_bin (ev_var rfl rfl) (ev_var rfl rfl) (bin_pow ?_))
  have := hk k hk'
  have bx : Bd 3 x := by have := hx x hx'; unfold Bd; omega
  rw [powO_bd bx (by omega) (by omega) (by omega)]
  rfl

/-- the box that the law takes from -/
noncomputable def LS (k : Nat) (μ : Store) : Prop := ∃ (q : List Int) (c : Int), μ = [q.map V.int, [.ref 0, .int c]] ∧ q.length ≤ 100 ∧ 0 ≤ c ∧ c ≤ (k : Int)

theorem ev_pop0 {orc : Orc} {σ : List V} {a : E} {k : Nat} {y : V} {ys : List V} (ha : ev orc a σ μ = some (.ref k, μ)) (hk : μ[k]? = some (y :: ys)) (hl : ys.length ≤ 1000) : ev orc (.pop0 a) σ μ = some (y, μ.set k ys) := by
  have : ys.length ≤ lim := by rw [lim_eq]; omega
  rw [ev, ha]
  simp [hk, this]

theorem O_take {k : Nat} {M : Int} (h : LS k μ) (hk : k ≤ 90) (h0 : 0 < M) : ∃ (v : Int) (μ' : Store), O (m + 1) "_law_take" [.ref 1, .int M] μ = some (.int v, μ') ∧ 0 ≤ v ∧ v < M ∧ LS (k + 1) μ' := by
  obtain ⟨q, c, rfl, hq, c0, c1⟩ := h
  have bc : Bd 10 (c + 1) := by unfold Bd; omega
  have it0 : ∀ (μ : Store) (x : V), μ[1]? = some [.ref 0, x] → ev (O m) (.item (.var 0) (.int 0)) [.ref 1, .int M] μ = some (.ref 0, μ) := fun μ x h => ev_item (ev_var (v := .ref 1) rfl rfl) ev_int (x := .ref 1) h rfl
  have it1 : ∀ (μ : Store) (x : V), μ[1]? = some [.ref 0, x] → ev (O m) (.item (.var 0) (.int 1)) [.ref 1, .int M] μ = some (x, μ) := fun μ x h => ev_item (ev_var (v := .ref 1) rfl rfl) ev_int (x := .ref 1) h rfl
  have st1 : ex (O m) fuel (.setI (.var 0) (.int 1) (.bin .add (.item (.var 0) (.int 1)) (.int 1))) [.ref 1, .int M] [q.map V.int, [.ref 0, .int c]] = some ([.ref 1, .int M], [q.map V.int, [.ref 0, .int (c + 1)]], .next) :=
    ex_setI (ev_bin (it1 _ _ rfl) ev_int rfl) (ev_var (v := .ref 1) rfl rfl) ev_int rfl
  have ne0 : M ≠ 0 := by omega
  have fm : ∀ x : Int, binV .fmod (.int x) (.int M) = some (.int (x.fmod M)) := fun x => by simp only [binV]; rw [if_pos ne0]
  have rng' : ∀ x : Int, 0 ≤ x.fmod M ∧ x.fmod M < M := fun x => ⟨Int.fmod_nonneg_of_pos x h0, Int.fmod_lt_of_pos x h0⟩
  show ∃ v μ', runFn (O m) fuel f_law_take [.ref 1, .int M] _ = _ ∧ _
  cases q with
  | nil =>
    refine ⟨(5 * (c + 1) + (c + 1).fdiv 3).fmod M, _, run_of (f := f_law_take) (σ' := [.ref 1, .int M]) (fl := .ret (.int ((5 * (c + 1) + (c + 1).fdiv 3).fmod M))) rfl ((ex_seq st1).trans ?_), (rng' _).1, (rng' _).2, ⟨[], c + 1, rfl, by simp, by omega, by omega⟩⟩
    refine (ex_seq ((ex_if_f (ev_cmp (c := false) (it0 _ _ rfl) ev_nil rfl) rfl).trans ex_skip)).trans (ex_seq_ret (ex_ret ?_))
    exact ev_bin (ev_bin (ev_bin ev_int (it1 _ _ rfl) (bin_mul (mulO_bd (k := 3) (by unfold Bd; decide) bc (by omega) (by omega)))) (ev_bin (it1 _ _ rfl) ev_int (bin_div (divO_bd bc (k' := 2) (by unfold Bd; decide) (by omega) (by omega) (by decide)))) rfl) (ev_var rfl rfl) (fm _)
  | cons x r =>
    refine ⟨x.fmod M, _, run_of (f := f_law_take) (σ' := [.ref 1, .int M]) (fl := .ret (.int (x.fmod M))) rfl ((ex_seq st1).trans ?_), (rng' _).1, (rng' _).2, ⟨r, c + 1, rfl, by simp at hq; omega, by omega, by omega⟩⟩
    refine ex_seq_ret ((ex_if_t (ev_cmp (c := true) (it0 _ _ rfl) ev_nil rfl) rfl).trans (ex_seq_ret (ex_ret ?_)))
    exact ev_bin (ev_pop0 (it0 _ _ rfl) rfl (by simp at hq ⊢; omega)) (ev_var rfl rfl) (fm x)

theorem takes_loop {σ : List V} {M S : Int} (hb : σ.getD 1 .unb = .ref 1) (h0 : 0 < M) : ∀ (its : List V) (k : Nat) (μ : Store), LS k μ → k + its.length ≤ 90 →
    ∃ (vs : List Int) (μ' : Store), compL (compF (O (m + 1)) false [1] (.bool true) (.bin .sub (.call2 "_law_take" (.var 0) (.int M)) (.int S)) σ) its μ = some (vs.map V.int, μ') ∧ vs.length = its.length ∧ (∀ v ∈ vs, 0 ≤ v + S ∧ v + S < M) ∧ LS (k + its.length) μ'
  | [], k, μ, h, _ => ⟨[], μ, rfl, rfl, (fun _ hv => by simp at hv), h⟩
  | x :: its, k, μ, h, hk => by
    rw [List.length_cons] at hk
    obtain ⟨v, μ₁, e1, e2, e3, e4⟩ := O_take (m := m) h (by omega) h0
    obtain ⟨vs, μ', f1, f2, f3, f4⟩ := takes_loop (S := S) hb h0 its (k + 1) μ₁ e4 (by omega)
    refine ⟨(v - S) :: vs, μ', ?_, by simp [f2], ?_, ?_⟩
    · rw [compL, compF_one (b := [.ref 1, x]) (by show [σ.getD 1 .unb] ++ [x] = _; rw [hb]; rfl) (ev_bin (ev_call2 (ev_var (v := .ref 1) rfl rfl) ev_int e1) ev_int rfl)]
      simp [f1]
    · intro w hw
      rcases List.mem_cons.mp hw with rfl | hw
      · omega
      · exact f3 w hw
    · rw [List.length_cons]
      rwa [show k + (its.length + 1) = k + 1 + its.length by omega]

end
end Mine

namespace Mine
set_option maxRecDepth 100000
set_option autoImplicit false

theorem pow_range {l : List Int} {n r c : Nat} (hc : c < n) : powM l (List.range n) r c = (fun i => l.getD i 0) r ^ c := by
  unfold powM
  have : (List.range n).getD c 0 = c := by simp [hc]
  rw [this]
theorem vander_pow (l : List Int) (n : Nat) : detL n n 0 (powM l (List.range n)) 1 1 = PV (fun i => l.getD i 0) n :=
  vander_det fun r c _ hc => pow_range hc

theorem ev3 (a b c t : Int) : evL (F3 a b c) t = (t - a) * (t - b) * (t - c) := by
  simp only [evL, F3]; grind
theorem ev4 (a b c d t : Int) : evL (F4 a b c d) t = (t - a) * (t - b) * (t - c) * (t - d) := by
  simp only [evL, F4]; grind

theorem pv2 (y : Nat → Int) : PV y 2 = y 1 - y 0 := by
  simp only [PV, DV, Int.one_mul]
theorem pv3 (y : Nat → Int) : PV y 3 = (y 1 - y 0) * ((y 2 - y 0) * (y 2 - y 1)) := by
  simp only [PV, DV, Int.one_mul]
theorem pv4 (y : Nat → Int) : PV y 4 = PV y 3 * ((y 3 - y 0) * (y 3 - y 1) * (y 3 - y 2)) := by
  rw [PV]; simp only [DV, Int.one_mul]
theorem pv5 (y : Nat → Int) : PV y 5 = PV y 4 * ((y 4 - y 0) * (y 4 - y 1) * (y 4 - y 2) * (y 4 - y 3)) := by
  rw [PV]; simp only [DV, Int.one_mul]
theorem pv6 (y : Nat → Int) : PV y 6 = PV y 5 * ((y 5 - y 0) * (y 5 - y 1) * (y 5 - y 2) * (y 5 - y 3) * (y 5 - y 4)) := by
  rw [PV]; simp only [DV, Int.one_mul]

theorem m1_3 (a b c : Int) : detL 3 3 0 (powM [a, b, c] (List.range 3)) 1 1 = D3 a b c := by
  rw [vander_pow, pv3]
  show (b - a) * ((c - a) * (c - b)) = D3 a b c
  unfold D3; ac_rfl
theorem m1_4 (a b c d : Int) : detL 4 4 0 (powM [a, b, c, d] (List.range 4)) 1 1 = D4 a b c d := by
  rw [vander_pow, pv4, pv3]
  show (b - a) * ((c - a) * (c - b)) * ((d - a) * (d - b) * (d - c)) = D4 a b c d
  unfold D4; ac_rfl
theorem m5 (t u : Int) : detL 2 2 0 (powM [t, u] (List.range 2)) 1 1 = u - t := by
  rw [vander_pow, pv2]; rfl
theorem m4_3 (a b c t u : Int) : detL 5 5 0 (powM [a, b, c, t, u] (List.range 5)) 1 1 = D3 a b c * (u - t) * (evL (F3 a b c) t * evL (F3 a b c) u) := by
  rw [vander_pow, pv5, pv4, pv3, ev3, ev3]
  show (b - a) * ((c - a) * (c - b)) * ((t - a) * (t - b) * (t - c)) * ((u - a) * (u - b) * (u - c) * (u - t)) = _
  unfold D3; ac_rfl
theorem m4_4 (a b c d t u : Int) : detL 6 6 0 (powM [a, b, c, d, t, u] (List.range 6)) 1 1 = D4 a b c d * (u - t) * (evL (F4 a b c d) t * evL (F4 a b c d) u) := by
  rw [vander_pow, pv6, pv5, pv4, pv3, ev4, ev4]
  show (b - a) * ((c - a) * (c - b)) * ((d - a) * (d - b) * (d - c)) * ((t - a) * (t - b) * (t - c) * (t - d)) * ((u - a) * (u - b) * (u - c) * (u - d) * (u - t)) = _
  unfold D4; ac_rfl

/-- the powers but one -/
noncomputable def gonePs (n g : Nat) : List Nat := (List.range (n + 1)).filter fun k => k != g

noncomputable def sgn (n g : Nat) : Int := 1 - 2 * (((n : Int) - (g : Int)).fmod 2)

theorem m3_3 (a b c : Int) (g : Nat) (hg : g ≤ 3) : detL 3 3 0 (powM [a, b, c] (gonePs 3 g)) 1 1 = D3 a b c * sgn 3 g * (F3 a b c).getD g 0 := by
  rw [det33]
  have : g = 0 ∨ g = 1 ∨ g = 2 ∨ g = 3 := by omega
  rcases this with rfl | rfl | rfl | rfl
  · rw [show gonePs 3 0 = [1, 2, 3] from rfl, show sgn 3 0 = -1 from rfl]
    show d3 (powM [a, b, c] [1, 2, 3]) 0 1 2 0 1 2 = D3 a b c * -1 * -(a * b * c)
    unfold d3 D3
    show a ^ 1 * (b ^ 2 * c ^ 3 - b ^ 3 * c ^ 2) - a ^ 2 * (b ^ 1 * c ^ 3 - b ^ 3 * c ^ 1) + a ^ 3 * (b ^ 1 * c ^ 2 - b ^ 2 * c ^ 1) = _
    grind
  · rw [show gonePs 3 1 = [0, 2, 3] from rfl, show sgn 3 1 = 1 from rfl]
    show d3 (powM [a, b, c] [0, 2, 3]) 0 1 2 0 1 2 = D3 a b c * 1 * (a * b + a * c + b * c)
    unfold d3 D3
    show a ^ 0 * (b ^ 2 * c ^ 3 - b ^ 3 * c ^ 2) - a ^ 2 * (b ^ 0 * c ^ 3 - b ^ 3 * c ^ 0) + a ^ 3 * (b ^ 0 * c ^ 2 - b ^ 2 * c ^ 0) = _
    grind
  · rw [show gonePs 3 2 = [0, 1, 3] from rfl, show sgn 3 2 = -1 from rfl]
    show d3 (powM [a, b, c] [0, 1, 3]) 0 1 2 0 1 2 = D3 a b c * -1 * -(a + b + c)
    unfold d3 D3
    show a ^ 0 * (b ^ 1 * c ^ 3 - b ^ 3 * c ^ 1) - a ^ 1 * (b ^ 0 * c ^ 3 - b ^ 3 * c ^ 0) + a ^ 3 * (b ^ 0 * c ^ 1 - b ^ 1 * c ^ 0) = _
    grind
  · rw [show gonePs 3 3 = [0, 1, 2] from rfl, show sgn 3 3 = 1 from rfl]
    show d3 (powM [a, b, c] [0, 1, 2]) 0 1 2 0 1 2 = D3 a b c * 1 * 1
    unfold d3 D3
    show a ^ 0 * (b ^ 1 * c ^ 2 - b ^ 2 * c ^ 1) - a ^ 1 * (b ^ 0 * c ^ 2 - b ^ 2 * c ^ 0) + a ^ 2 * (b ^ 0 * c ^ 1 - b ^ 1 * c ^ 0) = _
    grind

theorem d4_pow (a b c d : Int) (x y z w : Nat) : d4 (powM [a, b, c, d] [x, y, z, w]) 0 1 2 3 =
    a ^ x * (b ^ y * (c ^ z * d ^ w - c ^ w * d ^ z) - b ^ z * (c ^ y * d ^ w - c ^ w * d ^ y) + b ^ w * (c ^ y * d ^ z - c ^ z * d ^ y))
    - a ^ y * (b ^ x * (c ^ z * d ^ w - c ^ w * d ^ z) - b ^ z * (c ^ x * d ^ w - c ^ w * d ^ x) + b ^ w * (c ^ x * d ^ z - c ^ z * d ^ x))
    + a ^ z * (b ^ x * (c ^ y * d ^ w - c ^ w * d ^ y) - b ^ y * (c ^ x * d ^ w - c ^ w * d ^ x) + b ^ w * (c ^ x * d ^ y - c ^ y * d ^ x))
    - a ^ w * (b ^ x * (c ^ y * d ^ z - c ^ z * d ^ y) - b ^ y * (c ^ x * d ^ z - c ^ z * d ^ x) + b ^ z * (c ^ x * d ^ y - c ^ y * d ^ x)) := rfl

theorem m3_4 (a b c d : Int) (g : Nat) (hg : g ≤ 4) : detL 4 4 0 (powM [a, b, c, d] (gonePs 4 g)) 1 1 = D4 a b c d * sgn 4 g * (F4 a b c d).getD g 0 := by
  rw [det4]
  have : g = 0 ∨ g = 1 ∨ g = 2 ∨ g = 3 ∨ g = 4 := by omega
  rcases this with rfl | rfl | rfl | rfl | rfl
  · rw [show gonePs 4 0 = [1, 2, 3, 4] from rfl, show sgn 4 0 = 1 from rfl, d4_pow]
    show _ = D4 a b c d * 1 * (a * b * c * d)
    unfold D4
    grind
  · rw [show gonePs 4 1 = [0, 2, 3, 4] from rfl, show sgn 4 1 = -1 from rfl, d4_pow]
    show _ = D4 a b c d * -1 * -(a * b * c + a * b * d + a * c * d + b * c * d)
    unfold D4
    grind
  · rw [show gonePs 4 2 = [0, 1, 3, 4] from rfl, show sgn 4 2 = 1 from rfl, d4_pow]
    show _ = D4 a b c d * 1 * (a * b + a * c + a * d + b * c + b * d + c * d)
    unfold D4
    grind
  · rw [show gonePs 4 3 = [0, 1, 2, 4] from rfl, show sgn 4 3 = -1 from rfl, d4_pow]
    show _ = D4 a b c d * -1 * -(a + b + c + d)
    unfold D4
    grind
  · rw [show gonePs 4 4 = [0, 1, 2, 3] from rfl, show sgn 4 4 = 1 from rfl, d4_pow]
    show _ = D4 a b c d * 1 * 1
    unfold D4
    grind

end Mine

namespace Mine
open PySem
set_option maxRecDepth 100000
set_option autoImplicit false

/-- what holds of the numbers -/
structure Facts (sm : List Int) (n g : Nat) (t u : Int) (f : List Int) (due rt ru : Int) : Prop where
  len : sm.length = n
  n34 : n = 3 ∨ n = 4
  gle : g ≤ n
  sml : ∀ x ∈ sm, -4 ≤ x ∧ x ≤ 4
  ht : -6 ≤ t ∧ t ≤ 6
  hu : -6 ≤ u ∧ u ≤ 6
  hf : rootL [1] sm = f
  hd : sprL 1 [] sm = due
  flen : f.length = n + 1
  fbd : ∀ y ∈ f, Bd 20 y
  dbd : Bd 400 due
  f1 : detL n n 0 (powM sm (List.range n)) 1 1 = due
  f2 : discP f = some (due * due)
  f3 : detL n n 0 (powM sm (gonePs n g)) 1 1 = due * sgn n g * f.getD g 0
  f4 : detL (n + 2) (n + 2) 0 (powM (sm ++ [t, u]) (List.range (n + 2))) 1 1 = due * (u - t) * (rt * ru)
  f6 : resP f (rootL [1] [t, u]) = some (rt * ru)
  rbd : Bd 200 (rt * ru)

noncomputable def restB : S := (.seq (.asgR [6, 7] (.tup2 (.call1 "_law_rooted" (.var 3)) (.call1 "_law_spread" (.var 3)))) (.seq (.ifS (.or (.cmp .ne (.call2 "_law_powers" (.var 3) (.range1 (.var 2))) (.var 7)) (.cmp .ne (.call1 "discriminant" (.var 6)) (.bin .mul (.var 7) (.var 7)))) (.seq (.ret (.bool false)) .skip) .skip) (.seq (.asg 8 (.bin .sub (.int 1) (.bin .mul (.int 2) (.bin .fmod (.bin .sub (.var 2) (.var 4)) (.int 2))))) (.seq (.ifS (.cmp .ne (.call2 "_law_powers" (.var 3) (.comp false false .plain [4] (.range1 (.bin .add (.var 2) (.int 1))) .nil (.cmp .ne (.var 1) (.var 0)) (.var 1))) (.bin .mul (.bin .mul (.var 7) (.var 8)) (.item (.var 6) (.var 4)))) (.seq (.ret (.bool false)) .skip) .skip) (.seq (.asg 9 (.call2 "_law_powers" (.bin .add (.var 3) (.var 5)) (.range1 (.bin .add (.var 2) (.int 2))))) (.seq (.ret (.cmp .eq (.var 9) (.bin .mul (.bin .mul (.var 7) (.call2 "_law_powers" (.var 5) (.range1 (.int 2)))) (.call2 "resultant" (.var 6) (.call1 "_law_rooted" (.var 5)))))) .skip))))))

theorem gone_loop {orc : Orc} {σ : List V} {g : Nat} {μ : Store} (hb : σ.getD 4 .unb = .int g) : ∀ ks : List Nat,
    compL (compF orc false [4] (.cmp .ne (.var 1) (.var 0)) (.var 1) σ) (ks.map fun k : Nat => V.int (k : Int)) μ = some ((ks.filter fun k => k != g).map fun k : Nat => V.int (k : Int), μ)
  | [] => rfl
  | k :: ks => by
    have c : ev orc (.cmp .ne (.var 1) (.var 0)) [.int g, .int k] μ = some (.bool (cmI .ne (k : Int) g), μ) := ev_cmpI (ev_var rfl rfl) (ev_var rfl rfl)
    have f : compF orc false [4] (.cmp .ne (.var 1) (.var 0)) (.var 1) σ (.int k) μ = some (if k != g then some (.int k) else none, μ) := by
      unfold compF
      rw [show tgtV false (.int (k : Int)) = some [.int k] from rfl]
      simp only [Option.bind_eq_bind, Option.bind_some, List.map, hb, List.cons_append, List.nil_append, c]
      by_cases e : k = g
      · subst e; simp [cmI]
      · have h1 : cmI .ne (k : Int) g = true := by simp [cmI]; omega
        have h2 : (k != g) = true := by simp [e]
        rw [h1, h2]
        simp only [ev_var (orc := orc) (σ := [.int g, .int k]) (μ := μ) (i := 1) (v := .int k) rfl rfl, Option.bind_some]
        rfl
    rw [List.map_cons, compL, f]
    simp only [Option.bind_eq_bind, Option.bind_some, gone_loop hb ks]
    rw [List.filter_cons]
    by_cases e : (k != g) = true
    · rw [if_pos e, if_pos e]; rfl
    · rw [if_neg e, if_neg e]; rfl

theorem rng_src {n : Nat} (hn : n ≤ 100) : srcV .plain (.rng 0 n) (.list []) = some ((List.range n).map fun k : Nat => V.int (k : Int)) := by
  have := turns_nat (lo := 0) (hi := n) (by omega) (by omega)
  rw [show n - 0 = n by omega, ← List.range_eq_range'] at this
  exact this

theorem cmI_ne_self (x : Int) : cmI .ne x x = false := by simp [cmI]

theorem law_rest {sm : List Int} {n g : Nat} {t u : Int} {f : List Int} {due rt ru : Int} (F : Facts sm n g t u f due rt ru) (scr box : V) (μ : Store) :
    ∃ σ' μ', ex (O 12) fuel restB [scr, box, .int n, zl sm, .int g, zl [t, u], .unb, .unb, .unb, .unb] μ = some (σ', μ', .ret (.bool true)) := by
  have n4 : n ≤ 4 := by have := F.n34; omega
  have b3 : ∀ x ∈ sm, Bd 3 x := fun x hx => by have := F.sml x hx; unfold Bd; omega
  have b6 : ∀ x ∈ sm, -6 ≤ x ∧ x ≤ 6 := fun x hx => by have := F.sml x hx; omega
  have tu6 : ∀ x ∈ [t, u], -6 ≤ x ∧ x ≤ 6 := fun x hx => by
    simp at hx
    rcases hx with rfl | rfl
    · exact F.ht
    · exact F.hu
  have tu3 : ∀ x ∈ [t, u], Bd 3 x := fun x hx => by have := tu6 x hx; unfold Bd; omega
  have sml : sm.length ≤ 8 := by rw [F.len]; omega
  have rangeLe : ∀ N : Nat, N ≤ 6 → ∀ k ∈ List.range N, k ≤ 5 := fun N hN k hk => by have := List.mem_range.mp hk; omega
  -- 6, 7
  have r1 := O_rooted (n := 11) (μ := μ) (l := sm) (by omega) b3
  have r2 := (O_spread (n := 11) (μ := μ) (l := sm) sml b3).1
  rw [F.hf] at r1
  rw [F.hd] at r2
  have s6 : ex (O 12) fuel (.asgR [6, 7] (.tup2 (.call1 "_law_rooted" (.var 3)) (.call1 "_law_spread" (.var 3)))) [scr, box, .int n, zl sm, .int g, zl [t, u], .unb, .unb, .unb, .unb] μ =
      some ([scr, box, .int n, zl sm, .int g, zl [t, u], zl f, .int due, .unb, .unb], μ, .next) :=
    ex_asgR (ev_tup2 (ev_call1 (ev_var (v := zl sm) rfl rfl) r1) (ev_call1 (ev_var (v := zl sm) rfl rfl) r2)) rfl
  -- the first test
  obtain ⟨μ₁, p1⟩ := O_powers (m := 9) (μ := μ) (l := sm) (ps := List.range n) (pv := .rng 0 n) (n := n) (by omega) F.len (by simp) b6 (rangeLe n (by omega)) rfl (rng_src (by omega))
  rw [F.f1] at p1
  have t1 : ev (O 12) (.cmp .ne (.call2 "_law_powers" (.var 3) (.range1 (.var 2))) (.var 7)) [scr, box, .int n, zl sm, .int g, zl [t, u], zl f, .int due, .unb, .unb] μ = some (.bool (cmI .ne due due), μ₁) :=
    ev_cmpI (ev_call2 (ev_var (v := zl sm) rfl rfl) (ev_range1 (ev_var (v := .int n) rfl rfl)) p1) (ev_var rfl rfl)
  have t2 : ev (O 12) (.cmp .ne (.call1 "discriminant" (.var 6)) (.bin .mul (.var 7) (.var 7))) [scr, box, .int n, zl sm, .int g, zl [t, u], zl f, .int due, .unb, .unb] μ₁ = some (.bool (cmI .ne (due * due) (due * due)), μ₁) :=
    ev_cmpI (ev_call1 (ev_var (v := zl f) rfl rfl) (O_discriminant (n := 4) F.f2)) (ev_bin (ev_var rfl rfl) (ev_var rfl rfl) (bin_mul (mulO_bd F.dbd F.dbd (by omega) (by omega))))
  have s7 := (ex_if_f (F := fuel) (a := .seq (.ret (.bool false)) .skip) (b := .skip) ((ev_or_f t1 (cmI_ne_self _)).trans t2) (cmI_ne_self _)).trans (ex_skip (orc := O 12))
  -- the sign
  have s8 : ex (O 12) fuel (.asg 8 (.bin .sub (.int 1) (.bin .mul (.int 2) (.bin .fmod (.bin .sub (.var 2) (.var 4)) (.int 2))))) [scr, box, .int n, zl sm, .int g, zl [t, u], zl f, .int due, .unb, .unb] μ₁ =
      some ([scr, box, .int n, zl sm, .int g, zl [t, u], zl f, .int due, .int (sgn n g), .unb], μ₁, .next) := by
    refine ex_asg (v := .int (sgn n g)) (ev_bin ev_int (ev_bin ev_int (ev_bin (ev_bin (ev_var (v := .int n) rfl rfl) (ev_var (v := .int g) rfl rfl) rfl) ev_int bin_mod2) (bin_mul (mulO_bd (k := 2) (k' := 2) (by unfold Bd; decide) ?_ (by omega) (by omega)))) rfl) (Nat.le_of_ble_eq_true rfl)
    have h1 := Int.fmod_nonneg_of_pos ((n : Int) - g) (show (0 : Int) < 2 by decide)
    have h2 := Int.fmod_lt_of_pos ((n : Int) - g) (show (0 : Int) < 2 by decide)
    unfold Bd; omega
  have sb : Bd 2 (sgn n g) := by
    have h1 := Int.fmod_nonneg_of_pos ((n : Int) - g) (show (0 : Int) < 2 by decide)
    have h2 := Int.fmod_lt_of_pos ((n : Int) - g) (show (0 : Int) < 2 by decide)
    unfold Bd sgn; omega
  -- the second test
  have gl : (gonePs n g).length = n := by
    have hn := F.n34
    have hg := F.gle
    rcases hn with rfl | rfl
    · have : g = 0 ∨ g = 1 ∨ g = 2 ∨ g = 3 := by omega
      rcases this with rfl | rfl | rfl | rfl <;> rfl
    · have : g = 0 ∨ g = 1 ∨ g = 2 ∨ g = 3 ∨ g = 4 := by omega
      rcases this with rfl | rfl | rfl | rfl | rfl <;> rfl
  have gk : ∀ k ∈ gonePs n g, k ≤ 5 := fun k hk => by have := List.mem_range.mp (List.mem_filter.mp hk).1; omega
  have gsrc : srcV .plain (.list ((gonePs n g).map fun k : Nat => V.int (k : Int))) (.list []) = some ((gonePs n g).map fun k : Nat => V.int (k : Int)) := by
    simp only [srcV, turns?]
    rw [if_pos (by rw [List.length_map, gl, lim_eq]; omega)]
  obtain ⟨μ₂, p2⟩ := O_powers (m := 9) (μ := μ₁) (l := sm) (ps := gonePs n g) (pv := .list ((gonePs n g).map fun k : Nat => V.int (k : Int))) (n := n) (by omega) F.len gl b6 gk rfl gsrc
  rw [F.f3] at p2
  have gc : ev (O 12) (.comp false false .plain [4] (.range1 (.bin .add (.var 2) (.int 1))) .nil (.cmp .ne (.var 1) (.var 0)) (.var 1)) [scr, box, .int n, zl sm, .int g, zl [t, u], zl f, .int due, .int (sgn n g), .unb] μ₁ = some (.list ((gonePs n g).map fun k : Nat => V.int (k : Int)), μ₁) :=
    ev_comp_plain (x := .rng 0 (n + 1 : Nat)) (ev_range1 (ev_bin (ev_var (v := .int n) rfl rfl) ev_int rfl)) (rng_src (by omega)) (gone_loop rfl _)
  have fg : itemV (f.map V.int) (g : Int) = some (.int (f.getD g 0)) := itemV_get (by rw [F.flen]; have := F.gle; omega) (by rw [F.flen]; omega)
  have fgb : Bd 20 (f.getD g 0) := F.fbd _ (by
    rw [List.getD_eq_getElem?_getD, List.getElem?_eq_getElem (by rw [F.flen]; have := F.gle; omega)]
    exact List.getElem_mem _)
  have t3 : ev (O 12) (.cmp .ne (.call2 "_law_powers" (.var 3) (.comp false false .plain [4] (.range1 (.bin .add (.var 2) (.int 1))) .nil (.cmp .ne (.var 1) (.var 0)) (.var 1))) (.bin .mul (.bin .mul (.var 7) (.var 8)) (.item (.var 6) (.var 4))))
      [scr, box, .int n, zl sm, .int g, zl [t, u], zl f, .int due, .int (sgn n g), .unb] μ₁ = some (.bool (cmI .ne (due * sgn n g * f.getD g 0) (due * sgn n g * f.getD g 0)), μ₂) :=
    ev_cmpI (ev_call2 (ev_var (v := zl sm) rfl rfl) gc p2) (ev_bin (ev_bin (ev_var rfl rfl) (ev_var rfl rfl) (bin_mul (mulO_bd F.dbd sb (by omega) (by omega)))) (ev_item (k := g) (xs := f.map V.int) (v := .int (f.getD g 0)) (ev_var (v := zl f) rfl rfl) (ev_var rfl rfl) rfl fg) (bin_mul (mulO_bd (F.dbd.mul sb) fgb (by omega) (by omega))))
  have s9 := (ex_if_f (F := fuel) (a := .seq (.ret (.bool false)) .skip) (b := .skip) t3 (cmI_ne_self _)).trans (ex_skip (orc := O 12))
  -- the whole
  have all6 : ∀ x ∈ sm ++ [t, u], -6 ≤ x ∧ x ≤ 6 := fun x hx => by
    rcases List.mem_append.mp hx with hx | hx
    · exact b6 x hx
    · exact tu6 x hx
  obtain ⟨μ₃, p3⟩ := O_powers (m := 9) (μ := μ₂) (l := sm ++ [t, u]) (ps := List.range (n + 2)) (pv := .rng 0 (n + 2 : Nat)) (n := n + 2) (by omega) (by simp [F.len]) (by simp) all6 (rangeLe (n + 2) (by omega)) rfl (rng_src (by omega))
  rw [F.f4] at p3
  have cat : binV .add (zl sm) (zl [t, u]) = some (zl (sm ++ [t, u])) := by
    have : (sm.map V.int).length + ([t, u].map V.int).length ≤ lim := by rw [lim_eq]; simp; omega
    simp only [binV, zl]
    rw [if_pos this, List.map_append]
  have s10 : ex (O 12) fuel (.asg 9 (.call2 "_law_powers" (.bin .add (.var 3) (.var 5)) (.range1 (.bin .add (.var 2) (.int 2))))) [scr, box, .int n, zl sm, .int g, zl [t, u], zl f, .int due, .int (sgn n g), .unb] μ₂ =
      some ([scr, box, .int n, zl sm, .int g, zl [t, u], zl f, .int due, .int (sgn n g), .int (due * (u - t) * (rt * ru))], μ₃, .next) :=
    ex_asg (ev_call2 (ev_bin (ev_var (v := zl sm) rfl rfl) (ev_var (v := zl [t, u]) rfl rfl) cat) (ev_range1 (i := ((n + 2 : Nat) : Int)) (ev_bin (ev_var (v := .int n) rfl rfl) ev_int rfl)) p3) (Nat.le_of_ble_eq_true rfl)
  obtain ⟨μ₄, p4⟩ := O_powers (m := 9) (μ := μ₃) (l := [t, u]) (ps := List.range 2) (pv := .rng 0 2) (n := 2) (by omega) rfl (by simp) tu6 (rangeLe 2 (by omega)) rfl (rng_src (n := 2) (by omega))
  rw [m5] at p4
  have r3 := O_rooted (n := 11) (μ := μ₄) (l := [t, u]) (by simp) tu3
  have bd : Bd 4 (u - t) := by have := F.ht; have := F.hu; unfold Bd; omega
  have s11 : ev (O 12) (.cmp .eq (.var 9) (.bin .mul (.bin .mul (.var 7) (.call2 "_law_powers" (.var 5) (.range1 (.int 2)))) (.call2 "resultant" (.var 6) (.call1 "_law_rooted" (.var 5)))))
      [scr, box, .int n, zl sm, .int g, zl [t, u], zl f, .int due, .int (sgn n g), .int (due * (u - t) * (rt * ru))] μ₃ = some (.bool (cmI .eq (due * (u - t) * (rt * ru)) (due * (u - t) * (rt * ru))), μ₄) :=
    ev_cmpI (ev_var rfl rfl) (ev_bin (ev_bin (ev_var rfl rfl) (ev_call2 (ev_var (v := zl [t, u]) rfl rfl) (ev_range1 ev_int) p4) (bin_mul (mulO_bd F.dbd bd (by omega) (by omega))))
      (ev_call2 (ev_var (v := zl f) rfl rfl) (ev_call1 (ev_var (v := zl [t, u]) rfl rfl) r3) (O_resultant (n := 5) F.f6)) (bin_mul (mulO_bd (F.dbd.mul bd) F.rbd (by omega) (by omega))))
  have e : cmI .eq (due * (u - t) * (rt * ru)) (due * (u - t) * (rt * ru)) = true := beq_self_eq_true _
  rw [e] at s11
  exact ⟨_, _, (ex_seq s6).trans ((ex_seq s7).trans ((ex_seq s8).trans ((ex_seq s9).trans ((ex_seq s10).trans (ex_seq_ret (ex_ret s11))))))⟩

end Mine

namespace Mine
open PySem
set_option maxRecDepth 100000
set_option autoImplicit false

theorem disc_small {f : List Int} {r : Int} (h : discP f = some r) : ∀ y ∈ f, y.natAbs < 1000 := by
  unfold discP at h
  split at h
  · obtain ⟨d, _, h⟩ := bnd h
    obtain ⟨s, h2, h⟩ := bnd h
    unfold resP at h2
    split at h2
    · rename_i q
      exact (small_of q.2.2.1).2
    · cases h2
  · cases h

theorem evL_bd {x : Int} (hx : Bd 3 x) : ∀ {l : List Int} {e : Nat}, (∀ y ∈ l, Bd e y) → Bd (e + 4 * l.length) (evL l x)
  | [], _, _ => bd_zero
  | c :: l, e, hl => by
    have h1 := hl c (List.mem_cons_self ..)
    have h2 := hx.mul (evL_bd (l := l) hx fun y hy => hl y (List.mem_cons_of_mem _ hy))
    rw [List.length_cons]
    exact ((h1.mono (show e ≤ 3 + (e + 4 * l.length) by omega)).add h2).mono (by omega)

theorem facts_of {sm f : List Int} {n g : Nat} {t u due : Int} {i : List Int} (len : sm.length = n) (n34 : n = 3 ∨ n = 4) (gle : g ≤ n) (sml : ∀ x ∈ sm, -4 ≤ x ∧ x ≤ 4) (ht : -6 ≤ t ∧ t ≤ 6) (hu : -6 ≤ u ∧ u ≤ 6) (hf : rootL [1] sm = f) (hd : sprL 1 [] sm = due) (flen : f.length = n + 1)
    (fi : f = i ++ [1]) (f1 : detL n n 0 (powM sm (List.range n)) 1 1 = due) (f2 : discP f = some (due * due)) (f3 : detL n n 0 (powM sm (gonePs n g)) 1 1 = due * sgn n g * f.getD g 0)
    (f4 : detL (n + 2) (n + 2) 0 (powM (sm ++ [t, u]) (List.range (n + 2))) 1 1 = due * (u - t) * (evL f t * evL f u)) : Facts sm n g t u f due (evL f t) (evL f u) := by
  have b3 : ∀ x ∈ sm, Bd 3 x := fun x hx => by have := sml x hx; unfold Bd; omega
  have fs := disc_small f2
  have fb : ∀ y ∈ f, Bd 10 y := fun y hy => by have := fs y hy; unfold Bd; omega
  refine ⟨len, n34, gle, sml, ht, hu, hf, hd, flen, fun y hy => (fb y hy).mono (by omega), ?_, f1, f2, f3, f4, ?_, ?_⟩
  · rw [← hd]
    exact (O_spread (n := 0) (μ := []) (by omega) b3).2
  · rw [fi]
    have : f.length = i.length + 1 := by rw [fi]; simp
    exact res_quad ht hu (by omega) (by omega) fun y hy => fs y (by rw [fi]; simp [hy])
  · exact ((evL_bd (show Bd 3 t by unfold Bd; omega) fb).mul (evL_bd (show Bd 3 u by unfold Bd; omega) fb)).mono (by omega)

theorem facts {sm : List Int} {n g : Nat} {t u : Int} (len : sm.length = n) (n34 : n = 3 ∨ n = 4) (gle : g ≤ n) (sml : ∀ x ∈ sm, -4 ≤ x ∧ x ≤ 4) (ht : -6 ≤ t ∧ t ≤ 6) (hu : -6 ≤ u ∧ u ≤ 6) : ∃ f due rt ru, Facts sm n g t u f due rt ru := by
  rcases n34 with rfl | rfl
  · match sm, len with
    | [a, b, c], _ =>
      have ha := sml a (by simp)
      have hb := sml b (by simp)
      have hc := sml c (by simp)
      exact ⟨_, _, _, _, facts_of (i := [-(a * b * c), a * b + a * c + b * c, -(a + b + c)]) rfl (.inl rfl) gle sml ht hu (root3 a b c) (spr3 a b c) rfl rfl (m1_3 a b c) (p3 a b c ha hb hc) (m3_3 a b c g gle) (m4_3 a b c t u)⟩
  · match sm, len with
    | [a, b, c, d], _ =>
      have ha := sml a (by simp)
      have hb := sml b (by simp)
      have hc := sml c (by simp)
      have hd := sml d (by simp)
      exact ⟨_, _, _, _, facts_of (i := [a * b * c * d, -(a * b * c + a * b * d + a * c * d + b * c * d), a * b + a * c + a * d + b * c + b * d + c * d, -(a + b + c + d)]) rfl (.inr rfl) gle sml ht hu (root4 a b c d) (spr4 a b c d) rfl rfl (m1_4 a b c d) (p4 a b c d ha hb hc hd) (m3_4 a b c d g gle) (m4_4 a b c d t u)⟩

theorem ev_toInt {orc : Orc} {σ : List V} {μ μ₁ : Store} {a : E} {i : Int} (ha : ev orc a σ μ = some (.int i, μ₁)) : ev orc (.toInt a) σ μ = some (.int i, μ₁) := by
  rw [ev, ha]; rfl

theorem law_true (l : List Int) (h : l.length ≤ 63) : LawTrue l := by
  -- the box
  have hq : (l.take 10).length ≤ 100 := by rw [List.length_take]; omega
  have box : ev (O 12) (.mpair (.comp true false .plain [] (.upto (.var 0) (.int 10)) .nil (.bool true) (.toInt (.var 0))) (.int 0)) [zl l, .unb, .unb, .unb, .unb, .unb, .unb, .unb, .unb, .unb] [] = some (.ref 1, [(l.take 10).map V.int, [.ref 0, .int 0]]) := by
    have c : ev (O 12) (.comp true false .plain [] (.upto (.var 0) (.int 10)) .nil (.bool true) (.toInt (.var 0))) [zl l, .unb, .unb, .unb, .unb, .unb, .unb, .unb, .unb, .unb] [] = some (.ref 0, [(l.take 10).map V.int]) := by
      have up : ev (O 12) (.upto (.var 0) (.int 10)) [zl l, .unb, .unb, .unb, .unb, .unb, .unb, .unb, .unb, .unb] [] = some (zl (l.take 10), []) := ev_upto (k := 10) (ev_var (v := zl l) rfl rfl) ev_int (by omega) (by omega)
      rw [ev_comp_eq, up]
      simp only [Option.bind_eq_bind, Option.bind_some, ev_nil, turns_ints (show (l.take 10).length ≤ 1000 by omega)]
      rw [compL_mapM (inj := V.int) (g := fun x => some x) (fun x y hy => by cases hy; exact compF_one (b := [.int x]) rfl (ev_toInt (ev_var rfl rfl))) (l.take 10) (l.take 10) (by rw [mapM_some]; simp)]
      rfl
    exact ev_mpair c ev_int
  have L0 : LS 0 [(l.take 10).map V.int, [.ref 0, .int 0]] := ⟨l.take 10, 0, rfl, hq, by omega, by simp⟩
  -- how many
  obtain ⟨v, μ₁, e1, v0, v1, L1⟩ := O_take (m := 11) (M := 2) L0 (by omega) (by decide)
  obtain ⟨n, hn⟩ : ∃ n : Nat, 4 - v = (n : Int) := ⟨(4 - v).toNat, by omega⟩
  have n34 : n = 3 ∨ n = 4 := by omega
  -- some
  obtain ⟨sm, μ₂, e2, sl, sb, L2⟩ := takes_loop (m := 11) (σ := [zl l, .ref 1, .int n, .unb, .unb, .unb, .unb, .unb, .unb, .unb]) (M := 9) (S := 4) rfl (by decide) ((List.range n).map fun k : Nat => V.int (k : Int)) 1 μ₁ L1 (by simp; omega)
  rw [List.length_map, List.length_range] at sl L2
  -- gone
  obtain ⟨w, μ₃, e3, w0, w1, L3⟩ := O_take (m := 11) (M := ((n + 1 : Nat) : Int)) L2 (by omega) (by omega)
  obtain ⟨g, hg⟩ : ∃ g : Nat, w = (g : Int) := ⟨w.toNat, by omega⟩
  subst hg
  -- others
  obtain ⟨os, μ₄, e4, ol, ob, L4⟩ := takes_loop (m := 11) (σ := [zl l, .ref 1, .int n, zl sm, .int g, .unb, .unb, .unb, .unb, .unb]) (M := 13) (S := 6) rfl (by decide) ((List.range 2).map fun k : Nat => V.int (k : Int)) (1 + n + 1) μ₃ L3 (by simp; omega)
  match os, ol with
  | [t, u], _ =>
    obtain ⟨f, due, rt, ru, F⟩ := facts (sm := sm) (n := n) (g := g) (t := t) (u := u) sl n34 (by omega) (fun x hx => by have := sb x hx; omega) (by have := ob t (by simp); omega) (by have := ob u (by simp); omega)
    obtain ⟨σ', μ', r⟩ := law_rest F (zl l) (.ref 1) μ₄
    refine ⟨μ', ?_⟩
    show runFn (O 12) fuel flaw [zl l] [] = _
    refine run_of (f := flaw) (σ' := σ') (fl := .ret (.bool true)) rfl ?_
    refine (ex_seq (ex_asg box (Nat.le_of_ble_eq_true rfl))).trans ?_
    refine (ex_seq (ex_asg (v := .int n) (ev_bin ev_int (ev_call2 (ev_var (v := .ref 1) rfl rfl) ev_int e1) (by simp only [binV]; rw [hn])) (Nat.le_of_ble_eq_true rfl))).trans ?_
    refine (ex_seq (ex_asgC (v := zl sm) (ev_comp_plain (ev_range1 (ev_var (v := .int n) rfl rfl)) (rng_src (by omega)) e2) (Nat.le_of_ble_eq_true rfl))).trans ?_
    refine (ex_seq (ex_asg (v := .int g) (ev_call2 (ev_var (v := .ref 1) rfl rfl) (ev_bin (v := .int ((n + 1 : Nat) : Int)) (ev_var (v := .int n) rfl rfl) ev_int rfl) e3) (Nat.le_of_ble_eq_true rfl))).trans ?_
    refine (ex_seq (ex_asgC (v := zl [t, u]) (ev_comp_plain (ev_range1 ev_int) (rng_src (n := 2) (by omega)) e4) (Nat.le_of_ble_eq_true rfl))).trans ?_
    exact r

end Mine

namespace Mine
open PySem PySem.W
theorem plain_of_well {P : Params} {h : Heap} {a : Addr} {ws : List Value} {l : List Int} (hl : h.IsList a ws.toArray) (w : Well P h (.ref a) (ofPy (.list (l.map PyData.int)))) : h.PlainList a ws.toArray := by
  rw [ofPy] at w
  cases w with
  | list e _ =>
    obtain ⟨o, e', _, n, d⟩ := hl
    rw [e] at e'; cases e'
    injection d with d1 d2
    rw [← d1]
    exact ⟨_, e⟩
end Mine

open PySem PySem.W PyProof.Rows
set_option maxRecDepth 100000 in
set_option maxHeartbeats 8000000 in
theorem PySem.Challenge.cw_sa0101_01_holds : PySem.Challenge.rw_sa0101_01.Holds := by
  w_on
  o_law
  o_head Hook.none
  (case hw => w_witness2)
  intro w s₀ s₁ mg mb G Y fa o pm cd doc dV kV ho hd hcd hD hmg hg args vals as hpre hlay hrd hwl hlo
  refine Ground.open G ?_
  intro T B D TE TW
  wrow_args hpre hlay hrd hwl hlo
  rename_i l hs hlay0 hLay hr1 hl2 as1 as2 a ws as3 hL ra w1 r0 hI hr hc1 hc2
  refine enter_call ?_
  refine codeAny_mono ?_ (fun _ _ g => GoodW.toG g)
  have hlen : l.length ≤ 63 := by omega
  refine Mine.law_walk (ds := recsOf _) ⟨T.g, T.b, T.nolimit, ?_⟩ (fun d hd => T.fn d hd) (by decide +kernel) hmg (Mine.plain_of_well hL w1) hI (Mine.law_true l hlen) ?_
  · intro f hf
    simp only [Mine.biNames, List.mem_cons, List.not_mem_nil, or_false] at hf
    rcases hf with rfl | rfl | rfl | rfl | rfl | rfl | rfl | rfl
    all_goals refine ⟨T.free _ (by decide +kernel) (by decide +kernel) (by decide +kernel) (by decide +kernel) (by decide +kernel), (T.builtins _ (by decide +kernel)).trans ?_⟩
    all_goals first | boot_by_name | rfl | decide +kernel
  · intro h' tk keep
    refine ⟨.inl ⟨_, _, _, rfl, raisesW_false ?_, .bool true, ?_, unshared_nil⟩, keep, rfl, hg⟩
    · wrow_none_raised
    · wrow_post
