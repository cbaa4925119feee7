import PyProof.Rows.All
import Wide.All
import OpenK.AllK
import Wide.FinOn
import PySem.Challenge.RW_xm0403_01
set_option Elab.async false
set_option linter.all false
-- MiniA
section
set_option autoImplicit false
set_option bootstrap.genMatcherCode false
set_option genSizeOf false
set_option backward.match.sparseCases false
namespace Mine

/-- a value of the small language -/
inductive MV where
  | none
  | bool (b : Bool)
  | int (i : Int)
  | tup (l : List MV)
  | lst (l : List MV)
  | fn (f : Nat)
  deriving Inhabited

/-- a value, or a list that nobody else holds -/
inductive MR where
  | val (d : MV)
  | new (l : List MV)

noncomputable def MR.mv : MR → MV
  | .val d => d
  | .new l => .lst l

inductive Slot where
  | unset
  | val (d : MV)
  | own (l : List MV)
  | lent (l : List MV)
  deriving Inhabited

noncomputable abbrev Store := List Slot

noncomputable def MR.slot : MR → Slot
  | .val d => .val d
  | .new l => .own l

inductive Bop where
  | add | sub | mul | fdiv | mod | pow | shl | shr | band | bor
  deriving DecidableEq
inductive Cop where
  | lt | le | gt | ge | eq | ne | notIn
  deriving DecidableEq

set_option genInjectivity false
set_option genCtorIdx false
mutual
inductive IE where
  | int (i : Int)
  | bool (b : Bool)
  | none
  | var (i : Nat)
  | fn (f : Nat)
  | bin (o : Bop) (a b : IE)
  | neg (a : IE)
  | not (a : IE)
  | cmp (o : Cop) (a b : IE)
  | and (a b : IE)
  | or (a b : IE)
  | ite (c a b : IE)
  | call (f : Nat) (as : List IE)
  | callv (i : Nat) (as : List IE)
  | lend (f : Nat) (i : Nat) (as : List IE)
  | len (a : IE)
  | lenv (i : Nat)
  | abs (a : IE)
  | toInt (a : IE)
  | min (a b : IE)
  | sorted (a : IE)
  | bits (a : IE)
  | idx (a i : IE)
  | idxv (j : Nat) (i : IE)
  | slicev (j : Nat) (lo hi : IE)
  | list (es : List IE)
  | tup (es : List IE)
  | comp (elt : IE) (it : IT)
  | compIf (elt cond : IE) (it : IT)
inductive IT where
  | seq (e : IE)
  | range1 (a : IE)
  | range2 (a b : IE)
  | down (a b : IE)
end

inductive IS where
  | assign (x : Nat) (e : IE)
  | assigns (xs : List Nat) (es : List IE)
  | unpack (xs : List Nat) (e : IE)
  | setItem (x : Nat) (i e : IE)
  | append (x : Nat) (e : IE)
  | aug (x : Nat) (o : Bop) (e : IE)
  | ite (c : IE) (a b : List IS)
  | loop (c : IE) (a : List IS)
  | for1 (x : Nat) (t : IT) (a : List IS)
  | for2 (x y : Nat) (e : IE) (a : List IS)
  | ret (e : IE)
  | expr (e : IE)
  | fail

set_option genInjectivity true
set_option genCtorIdx true
structure IFun where
  np : Nat
  nv : Nat
  lends : Bool
  body : List IS

inductive Fl where
  | next
  | ret (d : MV)

mutual
noncomputable def MV.eqv : MV → MV → Bool
  | .none, .none => true
  | .bool a, .bool b => a == b
  | .bool a, .int j => (if a then 1 else 0) == j
  | .int i, .bool b => i == (if b then 1 else 0)
  | .int i, .int j => i == j
  | .lst a, .lst b => MV.eqvs a b
  | .tup a, .tup b => MV.eqvs a b
  | _, _ => false
noncomputable def MV.eqvs : List MV → List MV → Bool
  | [], [] => true
  | a :: r, b :: t => MV.eqv a b && MV.eqvs r t
  | _, _ => false
end

mutual
/-- plain data, at most n deep -/
noncomputable def MV.plain : Nat → MV → Bool
  | _, .none => true
  | _, .bool _ => true
  | _, .int _ => true
  | n + 1, .tup l => MV.plains n l
  | n + 1, .lst l => MV.plains n l
  | _, _ => false
noncomputable def MV.plains : Nat → List MV → Bool
  | _, [] => true
  | n, d :: r => MV.plain n d && MV.plains n r
end

noncomputable def small (a : Int) : Bool := decide (-9223372036854775808 < a) && decide (a < 9223372036854775808)

noncomputable def ibin : Bop → Int → Int → Option Int
  | .add, a, b => some (a + b)
  | .sub, a, b => some (a - b)
  | .mul, a, b => if small a && small b then some (a * b) else none
  | .fdiv, a, b => if decide (-1073741824 < b) && decide (b < 1073741824) && b != 0 then some (a.fdiv b) else none
  | .mod, a, b => if b != 0 then some (a.fmod b) else none
  | .pow, a, b => if decide (0 ≤ a) && decide (a < 256) && decide (0 ≤ b) && decide (b < 64) then some (a ^ b.toNat) else none
  | .shl, a, b => if small a && decide (0 ≤ b) && decide (b < 64) then some (a * 2 ^ b.toNat) else none
  | .shr, a, b => if decide (0 ≤ b) then some (a.fdiv (2 ^ b.toNat)) else none
  | .band, a, b => if decide (0 ≤ a) && decide (0 ≤ b) then some (Int.ofNat (a.toNat &&& b.toNat)) else none
  | .bor, a, b => if decide (0 ≤ a) && decide (0 ≤ b) then some (Int.ofNat (a.toNat ||| b.toNat)) else none

noncomputable def short (l : List MV) : Bool := decide (l.length < 4096)

noncomputable def mbin (o : Bop) (a b : MV) : Option MR :=
  match a, b with
  | .int i, .int j => (ibin o i j).map fun k => .val (.int k)
  | .lst x, .lst y => match o with
    | .add => if short x && short y then some (.new (x ++ y)) else none
    | _ => none
  | .lst x, .int n => match o with
    | .mul => if short x && decide (-4096 < n) && decide (n < 4096) then some (.new (List.replicate n.toNat x).flatten) else none
    | _ => none
  | _, _ => none

noncomputable def icmp (o : Cop) (i j : Int) : Option Bool :=
  match o with
  | .lt => some (decide (i < j))
  | .le => some (decide (i ≤ j))
  | .gt => some (decide (i > j))
  | .ge => some (decide (i ≥ j))
  | .eq => some (i == j)
  | .ne => some (i != j)
  | .notIn => none

noncomputable def mcmp (o : Cop) (a b : MV) : Option Bool :=
  match a, b with
  | .int i, .int j => icmp o i j
  | .bool i, .bool j => match o with
    | .eq => some (i == j)
    | .ne => some (i != j)
    | _ => none
  | a, b => match o with
    | .eq => if MV.plain 8 a && MV.plain 8 b then some (MV.eqv a b) else none
    | .ne => if MV.plain 8 a && MV.plain 8 b then some (!MV.eqv a b) else none
    | .notIn => match b with
      | .lst l => if MV.plain 8 a && MV.plain 8 b then some (!l.any fun y => MV.eqv y a) else none
      | _ => none
    | _ => none

noncomputable def MV.items? : MV → Option (List MV)
  | .lst l => some l
  | .tup l => some l
  | _ => Option.none

noncomputable def Slot.items? : Slot → Option (List MV)
  | .val d => d.items?
  | .own l => some l
  | .lent l => some l
  | .unset => none

/-- lists alone -/
noncomputable def Slot.list? : Slot → Option (List MV)
  | .val (.lst l) => some l
  | .own l => some l
  | .lent l => some l
  | _ => none

noncomputable def pyIdx (l : List MV) (k : Int) : Option MV :=
  if 0 ≤ k then l[k.toNat]? else if -(l.length : Int) ≤ k then l[(k + l.length).toNat]? else none

noncomputable def allInts : List MV → Option (List Int)
  | [] => some []
  | .int i :: r => (allInts r).map (i :: ·)
  | _ => none

noncomputable def insSorted (x : Int) : List Int → List Int
  | [] => [x]
  | y :: r => if x ≤ y then x :: y :: r else y :: insSorted x r
noncomputable def sortInts : List Int → List Int
  | [] => []
  | x :: r => insSorted x (sortInts r)

noncomputable def bitLen (n : Nat) : Nat := if n = 0 then 0 else n.log2 + 1

/-- an own list is held by others from here on -/
noncomputable def calm : Slot → Slot
  | .own l => .val (.lst l)
  | s => s
noncomputable def hide : Slot → Slot
  | .val d => .val d
  | _ => .unset

noncomputable def lentAt (σ : Store) (i : Nat) : Bool :=
  match σ[i]? with
  | some (.lent _) => true
  | _ => false

noncomputable def live (σ : Store) (i : Nat) : Bool :=
  match σ[i]? with
  | some (.val _) => true
  | some (.own _) => true
  | some (.lent _) => true
  | _ => false

noncomputable def held (σ : Store) (i : Nat) : Bool :=
  match σ[i]? with
  | some (.own _) => true
  | some (.lent _) => true
  | _ => false

/-- a name takes a new value -/
noncomputable def put (σ : Store) (i : Nat) (s : Slot) : Option Store :=
  if i < σ.length && !lentAt σ i then some (σ.set i s) else none
noncomputable def puts (σ : Store) : List Nat → List Slot → Option Store
  | [], [] => some σ
  | x :: xs, s :: ss => match put σ x s with
    | some σ' => puts σ' xs ss
    | none => none
  | _, _ => none

/-- a list's new items -/
noncomputable def relist (σ : Store) (i : Nat) (l : List MV) : Option Store :=
  match σ[i]? with
  | some (.own _) => some (σ.set i (.own l))
  | some (.lent _) => some (σ.set i (.lent l))
  | _ => none

noncomputable def compL (f : MV → Option (Option MV)) : List MV → Option (List MV)
  | [] => some []
  | v :: vs => match f v with
    | some (some d) => match compL f vs with
      | some ds => some (d :: ds)
      | none => none
    | some none => compL f vs
    | none => none

noncomputable def rangeUp (a b : Int) : List MV := (List.range (b - a).toNat).map fun (i : Nat) => MV.int (a + i)
noncomputable def rangeDown (a b : Int) : List MV := (List.range (a - b).toNat).map fun (i : Nat) => MV.int (a - i)

noncomputable abbrev Fns := Nat → List MV → Option (MV × List MV)

section
variable (P : Fns) (ln : Nat → Bool)

mutual
noncomputable def ev : IE → Store → Option (MR × Store)
  | .int i, σ => some (.val (.int i), σ)
  | .bool b, σ => some (.val (.bool b), σ)
  | .none, σ => some (.val .none, σ)
  | .var i, σ => match σ[i]? with
    | some (.val d) => some (.val d, σ)
    | some (.own l) => some (.val (.lst l), σ.set i (.val (.lst l)))
    | _ => none
  | .fn f, σ => some (.val (.fn f), σ)
  | .bin o a b, σ => match ev a σ with
    | some (x, σ₁) => match ev b σ₁ with
      | some (y, σ₂) => (mbin o x.mv y.mv).map fun r => (r, σ₂)
      | none => none
    | none => none
  | .neg a, σ => match ev a σ with
    | some (.val (.int i), σ₁) => some (.val (.int (-i)), σ₁)
    | _ => none
  | .not a, σ => match ev a σ with
    | some (.val (.bool b), σ₁) => some (.val (.bool (!b)), σ₁)
    | _ => none
  | .cmp o a b, σ => match ev a σ with
    | some (x, σ₁) => match ev b σ₁ with
      | some (y, σ₂) => (mcmp o x.mv y.mv).map fun r => (.val (.bool r), σ₂)
      | none => none
    | none => none
  | .and a b, σ => match ev a σ with
    | some (.val (.bool true), σ₁) => match ev b σ₁ with
      | some (.val (.bool c), σ₂) => some (.val (.bool c), σ₂)
      | _ => none
    | some (.val (.bool false), σ₁) => some (.val (.bool false), σ₁)
    | _ => none
  | .or a b, σ => match ev a σ with
    | some (.val (.bool false), σ₁) => match ev b σ₁ with
      | some (.val (.bool c), σ₂) => some (.val (.bool c), σ₂)
      | _ => none
    | some (.val (.bool true), σ₁) => some (.val (.bool true), σ₁)
    | _ => none
  | .ite c a b, σ => match ev c σ with
    | some (.val (.bool true), σ₁) => ev a σ₁
    | some (.val (.bool false), σ₁) => ev b σ₁
    | _ => none
  | .call f as, σ => if ln f then none else match evs as σ with
    | some (ds, σ₁) => (P f ds).map fun r => (.val r.1, σ₁)
    | none => none
  | .callv i as, σ => match σ[i]? with
    | some (.val (.fn f)) => if ln f then none else match evs as σ with
      | some (ds, σ₁) => (P f ds).map fun r => (.val r.1, σ₁)
      | none => none
    | _ => none
  | .lend f i as, σ => if ln f && live σ i then match evs as σ with
    | some (ds, σ₁) => match σ₁[i]? with
      | some (.own l) => (P f (.lst l :: ds)).map fun r => (.val r.1, σ₁.set i (.own r.2))
      | some (.lent l) => (P f (.lst l :: ds)).map fun r => (.val r.1, σ₁.set i (.lent r.2))
      | _ => none
    | none => none else none
  | .len a, σ => match ev a σ with
    | some (x, σ₁) => match x.mv.items? with
      | some l => if short l then some (.val (.int l.length), σ₁) else none
      | none => none
    | none => none
  | .lenv i, σ => match σ[i]? with
    | some s => match s.items? with
      | some l => if short l then some (.val (.int l.length), σ) else none
      | none => none
    | none => none
  | .abs a, σ => match ev a σ with
    | some (.val (.int i), σ₁) => some (.val (.int (if i < 0 then -i else i)), σ₁)
    | _ => none
  | .toInt a, σ => match ev a σ with
    | some (.val (.int i), σ₁) => some (.val (.int i), σ₁)
    | _ => none
  | .min a b, σ => match ev a σ with
    | some (.val (.int i), σ₁) => match ev b σ₁ with
      | some (.val (.int j), σ₂) => some (.val (.int (if j < i then j else i)), σ₂)
      | _ => none
    | _ => none
  | .sorted a, σ => match ev a σ with
    | some (x, σ₁) => match x.mv with
      | .lst l => match allInts l with
        | some ns => if decide (ns.length < 64) then some (.new ((sortInts ns).map MV.int), σ₁) else none
        | none => none
      | _ => none
    | none => none
  | .bits a, σ => match ev a σ with
    | some (.val (.int i), σ₁) => if decide (0 ≤ i) then some (.val (.int (bitLen i.toNat)), σ₁) else none
    | _ => none
  | .idx a i, σ => match ev a σ with
    | some (x, σ₁) => match ev i σ₁ with
      | some (.val (.int k), σ₂) => match x.mv.items? with
        | some l => if short l then (pyIdx l k).map fun d => (.val d, σ₂) else none
        | none => none
      | _ => none
    | none => none
  | .idxv j i, σ => if live σ j then match ev i σ with
    | some (.val (.int k), σ₁) => match σ₁[j]? with
      | some s => match s.items? with
        | some l => if short l then (pyIdx l k).map fun d => (.val d, σ₁) else none
        | none => none
      | none => none
    | _ => none
    else none
  | .slicev j lo hi, σ => if live σ j then match ev lo σ with
    | some (.val a, σ₁) => match ev hi σ₁ with
      | some (.val b, σ₂) => match σ₂[j]? with
        | some s => match s.list? with
          | some l => if short l then match a, b with
            | .none, .none => some (.new l, σ₂)
            | .int x, .none => if 0 ≤ x then some (.new (l.drop x.toNat), σ₂) else none
            | .none, .int y => if 0 ≤ y then some (.new (l.take y.toNat), σ₂) else none
            | .int x, .int y => if 0 ≤ x ∧ 0 ≤ y then some (.new ((l.take y.toNat).drop x.toNat), σ₂) else none
            | _, _ => none
            else none
          | none => none
        | none => none
      | _ => none
    | _ => none
    else none
  | .list es, σ => match evs es σ with
    | some (ds, σ₁) => if short ds then some (.new ds, σ₁) else none
    | none => none
  | .tup es, σ => match evs es σ with
    | some (ds, σ₁) => if short ds then some (.val (.tup ds), σ₁) else none
    | none => none
  | .comp elt it, σ => match evt it σ with
    | some (vs, σ₁) => if short vs then
        match compL (fun v => match ev elt ((σ₁.map calm).map hide ++ [.val v]) with
          | some (x, _) => some (some x.mv)
          | none => none) vs with
        | some ds => some (.new ds, σ₁.map calm)
        | none => none
      else none
    | none => none
  | .compIf elt cond it, σ => match evt it σ with
    | some (vs, σ₁) => if short vs then
        match compL (fun v => match ev cond ((σ₁.map calm).map hide ++ [.val v]) with
          | some (.val (.bool true), _) => match ev elt ((σ₁.map calm).map hide ++ [.val v]) with
            | some (x, _) => some (some x.mv)
            | none => none
          | some (.val (.bool false), _) => some none
          | _ => none) vs with
        | some ds => some (.new ds, σ₁.map calm)
        | none => none
      else none
    | none => none
noncomputable def evs : List IE → Store → Option (List MV × Store)
  | [], σ => some ([], σ)
  | e :: r, σ => match ev e σ with
    | some (x, σ₁) => match evs r σ₁ with
      | some (ds, σ₂) => some (x.mv :: ds, σ₂)
      | none => none
    | none => none
noncomputable def evt : IT → Store → Option (List MV × Store)
  | .seq e, σ => match ev e σ with
    | some (x, σ₁) => match x.mv with
      | .lst l => if short l then some (l, σ₁) else none
      | _ => none
    | none => none
  | .range1 b, σ => match ev b σ with
    | some (.val (.int j), σ₁) => if decide (-4096 < j) && decide (j < 4096) then some (rangeUp 0 j, σ₁) else none
    | _ => none
  | .range2 a b, σ => match ev a σ with
    | some (.val (.int i), σ₁) => match ev b σ₁ with
      | some (.val (.int j), σ₂) => if decide (j - i < 4096) && decide (-4096 < i) && decide (i < 4096) && decide (-4096 < j) && decide (j < 4096) then some (rangeUp i j, σ₂) else none
      | _ => none
    | _ => none
  | .down a b, σ => match ev a σ with
    | some (.val (.int i), σ₁) => match ev b σ₁ with
      | some (.val (.int j), σ₂) => if decide (i - j < 4096) && decide (-4096 < i) && decide (i < 4096) && decide (-4096 < j) && decide (j < 4096) then some (rangeDown i j, σ₂) else none
      | _ => none
    | _ => none
end

/-- the values of a written tuple, each as it is (a fresh list stays fresh) -/
noncomputable def evr : List IE → Store → Option (List MR × Store)
  | [], σ => some ([], σ)
  | e :: r, σ => match ev P ln e σ with
    | some (x, σ₁) => match evr r σ₁ with
      | some (ds, σ₂) => some (x :: ds, σ₂)
      | none => none
    | none => none

noncomputable def forL (x : Nat) (body : Store → Option (Fl × Store)) : List MV → Store → Option (Fl × Store)
  | [], σ => some (.next, σ)
  | v :: vs, σ => match put σ x (.val v) with
    | some σ₁ => match body σ₁ with
      | some (.next, σ₂) => forL x body vs σ₂
      | r => r
    | none => none

noncomputable def forE (x y : Nat) (body : Store → Option (Fl × Store)) : Nat → List MV → Store → Option (Fl × Store)
  | _, [], σ => some (.next, σ)
  | i, v :: vs, σ => match puts σ [x, y] [.val (.int i), .val v] with
    | some σ₁ => match body σ₁ with
      | some (.next, σ₂) => forE x y body (i + 1) vs σ₂
      | r => r
    | none => none

noncomputable def whileL (test : Store → Option (MR × Store)) (body : Store → Option (Fl × Store)) : Nat → Store → Option (Fl × Store)
  | 0, _ => none
  | n + 1, σ => match test σ with
    | some (.val (.bool true), σ₁) => match body σ₁ with
      | some (.next, σ₂) => whileL test body n σ₂
      | r => r
    | some (.val (.bool false), σ₁) => some (.next, σ₁)
    | _ => none

mutual
noncomputable def ex : IS → Store → Option (Fl × Store)
  | .assign x e, σ => match ev P ln e σ with
    | some (r, σ₁) => match put σ₁ x r.slot with
      | some σ₂ => some (.next, σ₂)
      | none => none
    | none => none
  | .assigns xs es, σ => match evr P ln es σ with
    | some (rs, σ₁) => match puts σ₁ xs (rs.map MR.slot) with
      | some σ₂ => some (.next, σ₂)
      | none => none
    | none => none
  | .unpack xs e, σ => match ev P ln e σ with
    | some (.val (.tup l), σ₁) => match puts σ₁ xs (l.map Slot.val) with
      | some σ₂ => some (.next, σ₂)
      | none => none
    | _ => none
  | .setItem x i e, σ => match ev P ln e σ with
    | some (r, σ₁) => if live σ₁ x then match ev P ln i σ₁ with
      | some (.val (.int k), σ₂) => match σ₂[x]? with
        | some s => match s.list? with
          | some l => if decide (0 ≤ k) && decide (k < l.length) && short l then
              match relist σ₂ x (l.set k.toNat r.mv) with
              | some σ₃ => some (.next, σ₃)
              | none => none
            else none
          | none => none
        | none => none
      | _ => none
      else none
    | none => none
  | .append x e, σ => if held σ x then match ev P ln e σ with
    | some (r, σ₁) => match σ₁[x]? with
      | some s => match s.list? with
        | some l => if short l then
            match relist σ₁ x (l ++ [r.mv]) with
            | some σ₂ => some (.next, σ₂)
            | none => none
          else none
        | none => none
      | none => none
    | none => none
    else none
  | .aug x o e, σ => match σ[x]? with
    | some (.val (.int i)) => match ev P ln e σ with
      | some (.val (.int j), σ₁) => match ibin o i j with
        | some k => match put σ₁ x (.val (.int k)) with
          | some σ₂ => some (.next, σ₂)
          | none => none
        | none => none
      | _ => none
    | _ => none
  | .ite c a b, σ => match ev P ln c σ with
    | some (.val (.bool true), σ₁) => exs a σ₁
    | some (.val (.bool false), σ₁) => exs b σ₁
    | _ => none
  | .loop c a, σ => whileL (ev P ln c) (exs a) 4096 σ
  | .for1 x t a, σ => match evt P ln t σ with
    | some (vs, σ₁) => if short vs then forL x (exs a) vs σ₁ else none
    | none => none
  | .for2 x y e a, σ => match ev P ln e σ with
    | some (r, σ₁) => match r.mv with
      | .lst l => if short l then forE x y (exs a) 0 l σ₁ else none
      | _ => none
    | none => none
  | .ret e, σ => match ev P ln e σ with
    | some (r, σ₁) => some (.ret r.mv, σ₁)
    | none => none
  | .expr e, σ => match ev P ln e σ with
    | some (.val .none, σ₁) => some (.next, σ₁)
    | _ => none
  | .fail, _ => none
noncomputable def exs : List IS → Store → Option (Fl × Store)
  | [], σ => some (.next, σ)
  | s :: r, σ => match ex s σ with
    | some (.next, σ₁) => exs r σ₁
    | x => x
end

end

noncomputable def store0 (fd : IFun) (ds : List MV) : Option Store :=
  if ds.length = fd.np ∧ fd.np ≤ fd.nv then
    match fd.lends, ds with
    | true, .lst l :: r => some (Slot.lent l :: (r.map Slot.val ++ List.replicate (fd.nv - fd.np) Slot.unset))
    | true, _ => none
    | false, ds => some (ds.map Slot.val ++ List.replicate (fd.nv - fd.np) Slot.unset)
  else none

noncomputable def out0 (fd : IFun) (σ : Store) : Option (List MV) :=
  if fd.lends then match (σ[0]? : Option Slot) with
    | some (.lent l) => some l
    | _ => none
  else some []

noncomputable def runF (P : Fns) (ln : Nat → Bool) (fd : IFun) (ds : List MV) : Option (MV × List MV) :=
  match store0 fd ds with
  | some σ => match exs P ln fd.body σ with
    | some (.ret d, σ₁) => (out0 fd σ₁).map fun l => (d, l)
    | some (.next, σ₁) => (out0 fd σ₁).map fun l => (.none, l)
    | none => none
  | none => none

noncomputable def lnOf (tab : List IFun) (f : Nat) : Bool := match tab[f]? with
  | some fd => fd.lends
  | none => false

noncomputable def Phi (tab : List IFun) : Nat → Fns
  | 0, _, _ => none
  | k + 1, f, ds => match tab[f]? with
    | some fd => runF (Phi tab k) (lnOf tab) fd ds
    | none => none
end Mine

end
-- MiniIR
section
-- written by irgen.py
set_option autoImplicit false
namespace Mine
/-- normal: 0 a, 1 end -/
noncomputable def ir_normal : IFun := ⟨1, 2, false, [
  .assign 1 (.lenv 0),
  .loop (.and (.cmp .gt (.var 1) (.int 0)) (.cmp .eq (.idxv 0 (.bin .sub (.var 1) (.int 1))) (.int 0))) [.aug 1 .sub (.int 1)],
  .ret (.slicev 0 .none (.var 1))]⟩
/-- compare: 0 a, 1 b, 2 at -/
noncomputable def ir_compare : IFun := ⟨2, 3, false, [
  .ite (.cmp .ne (.lenv 0) (.lenv 1)) [.ret (.ite (.cmp .lt (.lenv 0) (.lenv 1)) (.neg (.int 1)) (.int 1))] [],
  .for1 2 (.down (.bin .sub (.lenv 0) (.int 1)) (.neg (.int 1))) [.ite (.cmp .ne (.idxv 0 (.var 2)) (.idxv 1 (.var 2))) [.ret (.ite (.cmp .lt (.idxv 0 (.var 2)) (.idxv 1 (.var 2))) (.neg (.int 1)) (.int 1))] []],
  .ret (.int 0)]⟩
/-- add: 0 a, 1 b, 2 w, 3 found, 4 carry, 5 mask, 6 at -/
noncomputable def ir_add : IFun := ⟨3, 7, false, [
  .ite (.cmp .lt (.lenv 0) (.lenv 1)) [.assigns [0, 1] [(.var 1), (.var 0)]] [],
  .assigns [3, 4, 5] [(.list []), (.int 0), (.bin .sub (.bin .shl (.int 1) (.var 2)) (.int 1))],
  .for1 6 (.range1 (.lenv 1)) [.aug 4 .add (.bin .add (.idxv 0 (.var 6)) (.idxv 1 (.var 6))), .append 3 (.bin .band (.var 4) (.var 5)), .aug 4 .shr (.var 2)],
  .for1 6 (.range2 (.lenv 1) (.lenv 0)) [.aug 4 .add (.idxv 0 (.var 6)), .append 3 (.bin .band (.var 4) (.var 5)), .aug 4 .shr (.var 2)],
  .ite (.cmp .gt (.var 4) (.int 0)) [.append 3 (.var 4)] [],
  .ret (.var 3)]⟩
/-- sub: 0 a, 1 b, 2 w, 3 found, 4 borrow, 5 base, 6 at, 7 limb -/
noncomputable def ir_sub : IFun := ⟨3, 8, false, [
  .ite (.cmp .lt (.call 1 [(.var 0), (.var 1)]) (.int 0)) [.fail] [],
  .assigns [3, 4, 5] [(.list []), (.int 0), (.bin .shl (.int 1) (.var 2))],
  .for1 6 (.range1 (.lenv 0)) [.assign 7 (.bin .sub (.bin .sub (.idxv 0 (.var 6)) (.var 4)) (.ite (.cmp .lt (.var 6) (.lenv 1)) (.idxv 1 (.var 6)) (.int 0))), .assign 4 (.ite (.cmp .lt (.var 7) (.int 0)) (.int 1) (.int 0)), .append 3 (.ite (.cmp .lt (.var 7) (.int 0)) (.bin .add (.var 7) (.var 5)) (.var 7))],
  .ret (.call 0 [(.var 3)])]⟩
/-- divrem_limb: 0 a, 1 limb, 2 w, 3 found, 4 rest, 5 at -/
noncomputable def ir_divrem_limb : IFun := ⟨3, 6, false, [
  .ite (.cmp .eq (.var 1) (.int 0)) [.fail] [],
  .assigns [3, 4] [(.bin .mul (.list [(.int 0)]) (.lenv 0)), (.int 0)],
  .for1 5 (.down (.bin .sub (.lenv 0) (.int 1)) (.neg (.int 1))) [.assign 4 (.bin .bor (.bin .shl (.var 4) (.var 2)) (.idxv 0 (.var 5))), .setItem 3 (.var 5) (.bin .fdiv (.var 4) (.var 1)), .aug 4 .mod (.var 1)],
  .ret (.tup [(.call 0 [(.var 3)]), (.var 4)])]⟩
/-- shift_left: 0 a, 1 n, 2 w, 3 spots, 4 few, 5 found, 6 carry, 7 mask, 8 one -/
noncomputable def ir_shift_left : IFun := ⟨3, 9, false, [
  .ite (.cmp .eq (.lenv 0) (.int 0)) [.ret (.list [])] [],
  .assigns [3, 4] [(.bin .fdiv (.var 1) (.var 2)), (.bin .mod (.var 1) (.var 2))],
  .assigns [5, 6, 7] [(.bin .mul (.list [(.int 0)]) (.var 3)), (.int 0), (.bin .sub (.bin .shl (.int 1) (.var 2)) (.int 1))],
  .for1 8 (.seq (.var 0)) [.aug 6 .bor (.bin .shl (.var 8) (.var 4)), .append 5 (.bin .band (.var 6) (.var 7)), .aug 6 .shr (.var 2)],
  .ite (.cmp .gt (.var 6) (.int 0)) [.append 5 (.var 6)] [],
  .ret (.var 5)]⟩
/-- shift_right: 0 a, 1 n, 2 w, 3 spots, 4 few, 5 found, 6 mask, 7 at, 8 above -/
noncomputable def ir_shift_right : IFun := ⟨3, 9, false, [
  .assigns [3, 4] [(.bin .fdiv (.var 1) (.var 2)), (.bin .mod (.var 1) (.var 2))],
  .assigns [5, 6] [(.list []), (.bin .sub (.bin .shl (.int 1) (.var 2)) (.int 1))],
  .for1 7 (.range2 (.var 3) (.lenv 0)) [.assign 8 (.ite (.cmp .lt (.bin .add (.var 7) (.int 1)) (.lenv 0)) (.idxv 0 (.bin .add (.var 7) (.int 1))) (.int 0)), .append 5 (.bin .band (.bin .bor (.bin .shr (.idxv 0 (.var 7)) (.var 4)) (.bin .shl (.var 8) (.bin .sub (.var 2) (.var 4)))) (.var 6))],
  .ret (.call 0 [(.var 5)])]⟩
/-- bits: 0 a, 1 w -/
noncomputable def ir_bits : IFun := ⟨2, 2, false, [
  .ret (.ite (.cmp .gt (.lenv 0) (.int 0)) (.bin .add (.bin .mul (.bin .sub (.lenv 0) (.int 1)) (.var 1)) (.bits (.idxv 0 (.neg (.int 1))))) (.int 0))]⟩
/-- signed: 0 is_below, 1 nat -/
noncomputable def ir_signed : IFun := ⟨2, 2, false, [
  .ret (.tup [(.and (.var 0) (.cmp .gt (.lenv 1) (.int 0))), (.var 1)])]⟩
/-- s_neg: 0 x -/
noncomputable def ir_s_neg : IFun := ⟨1, 1, false, [
  .ret (.call 8 [(.not (.idxv 0 (.int 0))), (.idxv 0 (.int 1))])]⟩
/-- s_compare: 0 x, 1 y -/
noncomputable def ir_s_compare : IFun := ⟨2, 2, false, [
  .ite (.cmp .ne (.idxv 0 (.int 0)) (.idxv 1 (.int 0))) [.ret (.ite (.idxv 0 (.int 0)) (.neg (.int 1)) (.int 1))] [],
  .ret (.ite (.idxv 0 (.int 0)) (.call 1 [(.idxv 1 (.int 1)), (.idxv 0 (.int 1))]) (.call 1 [(.idxv 0 (.int 1)), (.idxv 1 (.int 1))]))]⟩
/-- s_add: 0 x, 1 y, 2 w -/
noncomputable def ir_s_add : IFun := ⟨3, 3, false, [
  .ite (.cmp .eq (.idxv 0 (.int 0)) (.idxv 1 (.int 0))) [.ret (.call 8 [(.idxv 0 (.int 0)), (.call 2 [(.idxv 0 (.int 1)), (.idxv 1 (.int 1)), (.var 2)])])] [],
  .ite (.cmp .lt (.call 1 [(.idxv 0 (.int 1)), (.idxv 1 (.int 1))]) (.int 0)) [.ret (.call 8 [(.idxv 1 (.int 0)), (.call 3 [(.idxv 1 (.int 1)), (.idxv 0 (.int 1)), (.var 2)])])] [],
  .ret (.call 8 [(.idxv 0 (.int 0)), (.call 3 [(.idxv 0 (.int 1)), (.idxv 1 (.int 1)), (.var 2)])])]⟩
/-- s_mul: 0 x, 1 y, 2 w, 3 mul -/
noncomputable def ir_s_mul : IFun := ⟨4, 4, false, [
  .ret (.call 8 [(.cmp .ne (.idxv 0 (.int 0)) (.idxv 1 (.int 0))), (.callv 3 [(.idxv 0 (.int 1)), (.idxv 1 (.int 1)), (.var 2)])])]⟩
/-- common: 0 a, 1 b, 2 w, 3 divrem -/
noncomputable def ir_common : IFun := ⟨4, 4, false, [
  .loop (.cmp .gt (.lenv 1) (.int 0)) [.assigns [0, 1] [(.var 1), (.idx (.callv 3 [(.var 0), (.var 1), (.var 2)]) (.int 1))]],
  .ret (.call 0 [(.var 0)])]⟩
/-- cut_signed: 0 x, 1 d, 2 w, 3 divrem -/
noncomputable def ir_cut_signed : IFun := ⟨4, 4, false, [
  .ret (.tup [(.idxv 0 (.int 0)), (.idx (.callv 3 [(.idxv 0 (.int 1)), (.var 1), (.var 2)]) (.int 0))])]⟩
/-- signed_of: 0 nat -/
noncomputable def ir_signed_of : IFun := ⟨1, 1, false, [
  .ret (.tup [(.bool false), (.var 0)])]⟩
/-- r_neg: 0 x -/
noncomputable def ir_r_neg : IFun := ⟨1, 1, false, [
  .ret (.tup [(.call 9 [(.idxv 0 (.int 0))]), (.idxv 0 (.int 1))])]⟩
/-- r_add: 0 x, 1 y, 2 w, 3 mul, 4 divrem, 5 told, 6 here, 7 there, 8 top, 9 out -/
noncomputable def ir_r_add : IFun := ⟨5, 10, false, [
  .assign 5 (.call 13 [(.idxv 0 (.int 1)), (.idxv 1 (.int 1)), (.var 2), (.var 4)]),
  .assigns [6, 7] [(.idx (.callv 4 [(.idxv 0 (.int 1)), (.var 5), (.var 2)]) (.int 0)), (.idx (.callv 4 [(.idxv 1 (.int 1)), (.var 5), (.var 2)]) (.int 0))],
  .assign 8 (.call 11 [(.call 12 [(.idxv 0 (.int 0)), (.call 15 [(.var 7)]), (.var 2), (.var 3)]), (.call 12 [(.idxv 1 (.int 0)), (.call 15 [(.var 6)]), (.var 2), (.var 3)]), (.var 2)]),
  .ite (.cmp .eq (.len (.idxv 8 (.int 1))) (.int 0)) [.ret (.tup [(.var 8), (.list [(.int 1)])])] [],
  .assign 9 (.call 13 [(.idxv 8 (.int 1)), (.var 5), (.var 2), (.var 4)]),
  .ret (.tup [(.call 14 [(.var 8), (.var 9), (.var 2), (.var 4)]), (.callv 3 [(.var 6), (.idx (.callv 4 [(.idxv 1 (.int 1)), (.var 9), (.var 2)]) (.int 0)), (.var 2)])])]⟩
/-- r_sub: 0 x, 1 y, 2 w, 3 mul, 4 divrem -/
noncomputable def ir_r_sub : IFun := ⟨5, 5, false, [
  .ret (.call 17 [(.var 0), (.call 16 [(.var 1)]), (.var 2), (.var 3), (.var 4)])]⟩
/-- r_compare: 0 x, 1 y, 2 w, 3 mul -/
noncomputable def ir_r_compare : IFun := ⟨4, 4, false, [
  .ret (.call 10 [(.call 12 [(.idxv 0 (.int 0)), (.call 15 [(.idxv 1 (.int 1))]), (.var 2), (.var 3)]), (.call 12 [(.idxv 1 (.int 0)), (.call 15 [(.idxv 0 (.int 1))]), (.var 2), (.var 3)])])]⟩
/-- mul_school: 0 a, 1 b, 2 w, 3 found, 4 mask, 5 at, 6 limb, 7 carry, 8 spot, 9 other -/
noncomputable def ir_mul_school : IFun := ⟨3, 10, false, [
  .assigns [3, 4] [(.bin .mul (.list [(.int 0)]) (.bin .add (.lenv 0) (.lenv 1))), (.bin .sub (.bin .shl (.int 1) (.var 2)) (.int 1))],
  .for2 5 6 (.var 0) [.assign 7 (.int 0), .for2 8 9 (.var 1) [.aug 7 .add (.bin .add (.idxv 3 (.bin .add (.var 5) (.var 8))) (.bin .mul (.var 6) (.var 9))), .setItem 3 (.bin .add (.var 5) (.var 8)) (.bin .band (.var 7) (.var 4)), .aug 7 .shr (.var 2)], .setItem 3 (.bin .add (.var 5) (.lenv 1)) (.var 7)],
  .ret (.call 0 [(.var 3)])]⟩
/-- divrem_small: 0 a, 1 b, 2 w, 3 quotient, 4 rest -/
noncomputable def ir_divrem_small : IFun := ⟨3, 5, false, [
  .unpack [3, 4] (.call 4 [(.var 0), (.idxv 1 (.int 0)), (.var 2)]),
  .ret (.tup [(.var 3), (.ite (.cmp .gt (.var 4) (.int 0)) (.list [(.var 4)]) (.list []))])]⟩
/-- guessed_limb: 0 top, 1 first, 2 second, 3 w, 4 high, 5 base, 6 limb, 7 rest -/
noncomputable def ir_guessed_limb : IFun := ⟨4, 8, false, [
  .assigns [4, 5] [(.bin .bor (.bin .shl (.idxv 0 (.int 2)) (.var 3)) (.idxv 0 (.int 1))), (.bin .shl (.int 1) (.var 3))],
  .assign 6 (.min (.bin .fdiv (.var 4) (.var 1)) (.bin .sub (.var 5) (.int 1))),
  .assign 7 (.bin .sub (.var 4) (.bin .mul (.var 6) (.var 1))),
  .loop (.and (.cmp .lt (.var 7) (.var 5)) (.cmp .gt (.bin .mul (.var 6) (.var 2)) (.bin .bor (.bin .shl (.var 7) (.var 3)) (.idxv 0 (.int 0))))) [.aug 6 .sub (.int 1), .aug 7 .add (.var 1)],
  .ret (.var 6)]⟩
/-- take_away: 0 rest, 1 b, 2 limb, 3 at, 4 w, 5 carry, 6 base, 7 spot, 8 other, 9 here -/
noncomputable def ir_take_away : IFun := ⟨5, 10, true, [
  .assigns [5, 6] [(.int 0), (.bin .shl (.int 1) (.var 4))],
  .for2 7 8 (.var 1) [.assign 9 (.bin .sub (.idxv 0 (.bin .add (.var 3) (.var 7))) (.bin .mod (.bin .add (.bin .mul (.var 2) (.var 8)) (.var 5)) (.var 6))), .assign 5 (.bin .add (.bin .fdiv (.bin .add (.bin .mul (.var 2) (.var 8)) (.var 5)) (.var 6)) (.ite (.cmp .lt (.var 9) (.int 0)) (.int 1) (.int 0))), .setItem 0 (.bin .add (.var 3) (.var 7)) (.ite (.cmp .lt (.var 9) (.int 0)) (.bin .add (.var 9) (.var 6)) (.var 9))],
  .assign 9 (.bin .sub (.idxv 0 (.bin .add (.var 3) (.lenv 1))) (.var 5)),
  .setItem 0 (.bin .add (.var 3) (.lenv 1)) (.ite (.cmp .lt (.var 9) (.int 0)) (.bin .add (.var 9) (.var 6)) (.var 9)),
  .ret (.ite (.cmp .lt (.var 9) (.int 0)) (.int 1) (.int 0))]⟩
/-- put_back: 0 rest, 1 b, 2 at, 3 w, 4 carry, 5 mask, 6 spot, 7 other -/
noncomputable def ir_put_back : IFun := ⟨4, 8, true, [
  .assigns [4, 5] [(.int 0), (.bin .sub (.bin .shl (.int 1) (.var 3)) (.int 1))],
  .for2 6 7 (.var 1) [.aug 4 .add (.bin .add (.idxv 0 (.bin .add (.var 2) (.var 6))) (.var 7)), .setItem 0 (.bin .add (.var 2) (.var 6)) (.bin .band (.var 4) (.var 5)), .aug 4 .shr (.var 3)],
  .setItem 0 (.bin .add (.var 2) (.lenv 1)) (.bin .band (.bin .add (.idxv 0 (.bin .add (.var 2) (.lenv 1))) (.var 4)) (.var 5))]⟩
/-- divide_rows: 0 rest, 1 b, 2 w, 3 size, 4 quotient, 5 at, 6 limb -/
noncomputable def ir_divide_rows : IFun := ⟨3, 7, true, [
  .assign 3 (.lenv 1),
  .assign 4 (.bin .mul (.list [(.int 0)]) (.bin .sub (.lenv 0) (.var 3))),
  .for1 5 (.down (.bin .sub (.bin .sub (.lenv 0) (.var 3)) (.int 1)) (.neg (.int 1))) [.assign 6 (.call 22 [(.slicev 0 (.bin .sub (.bin .add (.var 5) (.var 3)) (.int 2)) (.bin .add (.bin .add (.var 5) (.var 3)) (.int 1))), (.idxv 1 (.bin .sub (.var 3) (.int 1))), (.idxv 1 (.bin .sub (.var 3) (.int 2))), (.var 2)]), .ite (.cmp .eq (.lend 23 0 [(.var 1), (.var 6), (.var 5), (.var 2)]) (.int 1)) [.aug 6 .sub (.int 1), .expr (.lend 24 0 [(.var 1), (.var 5), (.var 2)])] [], .setItem 4 (.var 5) (.var 6)],
  .ret (.var 4)]⟩
/-- divrem_school: 0 a, 1 b, 2 w, 3 shift, 4 divisor, 5 rest, 6 quotient -/
noncomputable def ir_divrem_school : IFun := ⟨3, 7, false, [
  .ite (.cmp .eq (.lenv 1) (.int 0)) [.fail] [],
  .ite (.cmp .lt (.call 1 [(.var 0), (.var 1)]) (.int 0)) [.ret (.tup [(.list []), (.slicev 0 .none .none)])] [],
  .ite (.cmp .eq (.lenv 1) (.int 1)) [.ret (.call 21 [(.var 0), (.var 1), (.var 2)])] [],
  .assign 3 (.bin .sub (.var 2) (.call 7 [(.list [(.idxv 1 (.neg (.int 1)))]), (.var 2)])),
  .assign 4 (.call 5 [(.var 1), (.var 3), (.var 2)]),
  .assign 5 (.call 5 [(.var 0), (.var 3), (.var 2)]),
  .assign 5 (.bin .add (.var 5) (.bin .mul (.list [(.int 0)]) (.bin .sub (.bin .add (.lenv 0) (.int 1)) (.lenv 5)))),
  .assign 6 (.lend 25 5 [(.var 4), (.var 2)]),
  .ret (.tup [(.call 0 [(.var 6)]), (.call 6 [(.call 0 [(.var 5)]), (.var 3), (.var 2)])])]⟩
/-- _law_rolled: 0 wheel, 1 many -/
noncomputable def ir_law_rolled : IFun := ⟨2, 2, true, [
  .setItem 0 (.int 0) (.bin .add (.idxv 0 (.int 0)) (.int 1)),
  .ite (.cmp .le (.idxv 0 (.int 0)) (.len (.idxv 0 (.int 1)))) [.ret (.bin .mod (.idx (.idxv 0 (.int 1)) (.bin .sub (.idxv 0 (.int 0)) (.int 1))) (.var 1))] [],
  .ret (.bin .mod (.bin .add (.bin .add (.bin .mul (.int 12) (.idxv 0 (.int 0))) (.bin .fdiv (.idxv 0 (.int 0)) (.int 2))) (.int 3)) (.var 1))]⟩
/-- _law_limbs: 0 number, 1 w, 2 found -/
noncomputable def ir_law_limbs : IFun := ⟨2, 3, false, [
  .assign 2 (.list []),
  .loop (.cmp .gt (.var 0) (.int 0)) [.append 2 (.bin .mod (.var 0) (.bin .pow (.int 2) (.var 1))), .assign 0 (.bin .fdiv (.var 0) (.bin .pow (.int 2) (.var 1)))],
  .ret (.var 2)]⟩
/-- _law_least: 0 top, 1 bottom, 2 w, 3 here, 4 there -/
noncomputable def ir_law_least : IFun := ⟨3, 5, false, [
  .assigns [3, 4] [(.var 0), (.var 1)],
  .loop (.cmp .gt (.var 4) (.int 0)) [.assigns [3, 4] [(.var 4), (.bin .mod (.var 3) (.var 4))]],
  .ret (.tup [(.tup [(.bool false), (.call 28 [(.bin .fdiv (.var 0) (.var 3)), (.var 2)])]), (.call 28 [(.bin .fdiv (.var 1) (.var 3)), (.var 2)])])]⟩
/-- _law_gaps: 0 places, 1 w, 2 found, 3 at, 4 later -/
noncomputable def ir_law_gaps : IFun := ⟨2, 5, false, [
  .assign 2 (.list []),
  .for1 3 (.range1 (.lenv 0)) [.assign 4 (.ite (.cmp .lt (.bin .add (.var 3) (.int 1)) (.lenv 0)) (.idxv 0 (.bin .add (.var 3) (.int 1))) (.tup [(.tup [(.bool false), (.list [(.int 1)])]), (.list [(.int 1)])])), .append 2 (.call 18 [(.var 4), (.idxv 0 (.var 3)), (.var 1), (.fn 20), (.fn 26)])],
  .ret (.var 2)]⟩
/-- _law_due: 0 rests, 1 n, 2 w -/
noncomputable def ir_law_due : IFun := ⟨3, 3, false, [
  .assign 0 (.bin .add (.sorted (.var 0)) (.list [(.var 1)])),
  .ret (.comp (.call 29 [(.bin .sub (.idxv 0 (.bin .add (.var 3) (.int 1))) (.idxv 0 (.var 3))), (.var 1), (.var 2)]) (.range1 (.bin .sub (.lenv 0) (.int 1))))]⟩
/-- _law_three_right: 0 gaps, 1 w, 2 unlike, 3 one, 4 spot -/
noncomputable def ir_law_three_right : IFun := ⟨2, 5, false, [
  .assign 2 (.list []),
  .for1 3 (.seq (.var 0)) [.ite (.cmp .notIn (.var 3) (.var 2)) [.assign 4 (.len (.compIf (.var 5) (.cmp .lt (.call 19 [(.var 5), (.var 3), (.var 1), (.fn 20)]) (.int 0)) (.seq (.var 2)))), .assign 2 (.bin .add (.bin .add (.slicev 2 .none (.var 4)) (.list [(.var 3)])) (.slicev 2 (.var 4) .none))] []],
  .ite (.cmp .lt (.lenv 2) (.int 3)) [.ret (.bool true)] [],
  .ret (.and (.cmp .eq (.lenv 2) (.int 3)) (.cmp .eq (.call 17 [(.idxv 2 (.int 0)), (.idxv 2 (.int 1)), (.var 1), (.fn 20), (.fn 26)]) (.idxv 2 (.int 2))))]⟩
/-- law: 0 script, 1 wheel, 2 w, 3 n, 4 a, 5 order, 6 one, 7 step, 8 here, 9 gaps, 10 places, 11 rests, 12 k, 13 at, 14 whole, 15 one_gap -/
noncomputable def ir_law : IFun := ⟨1, 16, false, [
  .assign 1 (.list [(.int 0), (.comp (.abs (.toInt (.var 16))) (.seq (.slicev 0 .none (.int 4))))]),
  .assigns [2, 3] [(.bin .add (.int 3) (.lend 27 1 [(.int 6)])), (.bin .add (.int 5) (.lend 27 1 [(.int 20)]))],
  .assigns [4, 5, 6] [(.bin .add (.int 1) (.lend 27 1 [(.bin .sub (.var 3) (.int 1))])), (.int 1), (.tup [(.tup [(.bool false), (.list [(.int 1)])]), (.list [(.int 1)])])],
  .loop (.cmp .gt (.bin .mod (.bin .mul (.var 5) (.var 4)) (.var 3)) (.int 0)) [.assign 5 (.bin .add (.var 5) (.int 1))],
  .assigns [7, 8, 9] [(.call 29 [(.var 4), (.var 3), (.var 2)]), (.tup [(.tup [(.bool false), (.list [])]), (.list [(.int 1)])]), (.list [(.var 6)])],
  .assigns [10, 11] [(.list [(.var 8)]), (.list [(.int 0)])],
  .for1 12 (.range2 (.int 1) (.min (.var 5) (.bin .add (.int 3) (.lend 27 1 [(.int 4)])))) [.assign 8 (.call 17 [(.var 8), (.var 7), (.var 2), (.fn 20), (.fn 26)]), .ite (.cmp .ge (.call 19 [(.var 8), (.var 6), (.var 2), (.fn 20)]) (.int 0)) [.assign 8 (.call 18 [(.var 8), (.var 6), (.var 2), (.fn 20), (.fn 26)])] [], .ite (.cmp .ne (.var 8) (.call 29 [(.bin .mod (.bin .mul (.var 12) (.var 4)) (.var 3)), (.var 3), (.var 2)])) [.ret (.bool false)] [], .assign 13 (.len (.compIf (.var 16) (.cmp .lt (.call 19 [(.var 16), (.var 8), (.var 2), (.fn 20)]) (.int 0)) (.seq (.var 10)))), .ite (.cmp .ne (.compIf (.var 16) (.cmp .gt (.call 19 [(.var 16), (.idxv 9 (.bin .sub (.var 13) (.int 1))), (.var 2), (.fn 20)]) (.int 0)) (.seq (.var 9))) (.list [])) [.ret (.bool false)] [], .assigns [10, 11] [(.bin .add (.bin .add (.slicev 10 .none (.var 13)) (.list [(.var 8)])) (.slicev 10 (.var 13) .none)), (.bin .add (.var 11) (.list [(.bin .mod (.bin .mul (.var 12) (.var 4)) (.var 3))]))], .assign 9 (.call 30 [(.var 10), (.var 2)]), .ite (.or (.cmp .ne (.var 9) (.call 31 [(.var 11), (.var 3), (.var 2)])) (.not (.call 32 [(.var 9), (.var 2)]))) [.ret (.bool false)] []],
  .assign 14 (.tup [(.tup [(.bool false), (.list [])]), (.list [(.int 1)])]),
  .for1 15 (.seq (.var 9)) [.assign 14 (.call 17 [(.var 14), (.var 15), (.var 2), (.fn 20), (.fn 26)])],
  .ret (.cmp .eq (.var 14) (.var 6))]⟩
noncomputable def tab : List IFun := [ir_normal, ir_compare, ir_add, ir_sub, ir_divrem_limb, ir_shift_left, ir_shift_right, ir_bits, ir_signed, ir_s_neg, ir_s_compare, ir_s_add, ir_s_mul, ir_common, ir_cut_signed, ir_signed_of, ir_r_neg, ir_r_add, ir_r_sub, ir_r_compare, ir_mul_school, ir_divrem_small, ir_guessed_limb, ir_take_away, ir_put_back, ir_divide_rows, ir_divrem_school, ir_law_rolled, ir_law_limbs, ir_law_least, ir_law_gaps, ir_law_due, ir_law_three_right, ir_law]
end Mine

end
-- PureA
section
set_option autoImplicit false
set_option maxRecDepth 100000
set_option backward.match.sparseCases false
set_option bootstrap.genMatcherCode false
namespace Mine

noncomputable abbrev M (d : List Nat) : List MV := d.map fun (x : Nat) => MV.int x

theorem pyIdx_nat {l : List MV} {i : Nat} : pyIdx l (i : Int) = l[i]? := by simp [pyIdx]
theorem M_get (d : List Nat) (i : Nat) : (M d)[i]? = (d[i]?).map fun (x : Nat) => MV.int x := by simp [M]
theorem M_at {d : List Nat} {i : Nat} (h : i < d.length) : (M d)[i]? = some (.int (d[i] : Nat)) := by rw [M_get, List.getElem?_eq_getElem h]; rfl
theorem M_length (d : List Nat) : (M d).length = d.length := by simp [M]
theorem M_append (a b : List Nat) : M (a ++ b) = M a ++ M b := by simp [M]
theorem M_set (d : List Nat) (i x : Nat) : M (d.set i x) = (M d).set i (.int (x : Nat)) := by simp [M, List.map_set]
theorem M_push (d : List Nat) (x : Nat) : M d ++ [MV.int (x : Nat)] = M (d ++ [x]) := by simp [M]

theorem phi_succ (k f : Nat) (ds : List MV) {fd : IFun} (h : tab[f]? = some fd) : Phi tab (k + 1) f ds = runF (Phi tab k) (lnOf tab) fd ds := by
  simp only [Phi, h]

theorem run_plain {P : Fns} {ln : Nat → Bool} {fd : IFun} {ds : List MV} {d : MV} {σ₁ : Store} (h1 : ds.length = fd.np) (h2 : fd.np ≤ fd.nv) (hl : fd.lends = false)
    (h : exs P ln fd.body (ds.map Slot.val ++ List.replicate (fd.nv - fd.np) Slot.unset) = some (.ret d, σ₁)) : runF P ln fd ds = some (d, []) := by
  have h0 : store0 fd ds = some (ds.map Slot.val ++ List.replicate (fd.nv - fd.np) Slot.unset) := by
    unfold store0
    rw [if_pos ⟨h1, h2⟩, hl]
  simp [runF, h0, h, out0, hl]

theorem exs_step {P : Fns} {ln : Nat → Bool} {st : IS} {rest : List IS} {σ σ₁ : Store} (h : ex P ln st σ = some (.next, σ₁)) : exs P ln (st :: rest) σ = exs P ln rest σ₁ := by
  rw [exs, h]
theorem exs_ret {P : Fns} {ln : Nat → Bool} {st : IS} {rest : List IS} {σ σ₁ : Store} {d : MV} (h : ex P ln st σ = some (.ret d, σ₁)) : exs P ln (st :: rest) σ = some (.ret d, σ₁) := by
  rw [exs, h]

theorem while_true {test : Store → Option (MR × Store)} {body : Store → Option (Fl × Store)} {n : Nat} {σ σ₁ σ₂ : Store} (h1 : test σ = some (.val (.bool true), σ₁)) (h2 : body σ₁ = some (.next, σ₂)) : whileL test body (n + 1) σ = whileL test body n σ₂ := by
  simp [whileL, h1, h2]
theorem while_false {test : Store → Option (MR × Store)} {body : Store → Option (Fl × Store)} {n : Nat} {σ σ₁ : Store} (h1 : test σ = some (.val (.bool false), σ₁)) : whileL test body (n + 1) σ = some (.next, σ₁) := by
  simp [whileL, h1]

/-- a for loop over a list -/
theorem for_list {x : Nat} {body : Store → Option (Fl × Store)} (I : Nat → Store → Prop) (l : List MV)
    (turn : ∀ i v σ, l[i]? = some v → I i σ → ∃ σ₁ σ₂, put σ x (.val v) = some σ₁ ∧ body σ₁ = some (.next, σ₂) ∧ I (i + 1) σ₂) {σ : Store} (h : I 0 σ) : ∃ σ', forL x body l σ = some (.next, σ') ∧ I l.length σ' := by
  have : ∀ (r : List MV) (i : Nat) (σ : Store), i + r.length = l.length → l.drop i = r → I i σ → ∃ σ', forL x body r σ = some (.next, σ') ∧ I l.length σ' := by
    intro r
    induction r with
    | nil =>
      intro i σ h1 h2 h3
      refine ⟨σ, rfl, ?_⟩
      have : i = l.length := by simpa using h1
      rw [← this]; exact h3
    | cons v r ih =>
      intro i σ h1 h2 h3
      have hv : l[i]? = some v := by
        have : (l.drop i)[0]? = some v := by rw [h2]; rfl
        simpa using this
      obtain ⟨σ₁, σ₂, e1, e2, e3⟩ := turn i v σ hv h3
      have hd : l.drop (i + 1) = r := by rw [← List.drop_drop, h2]; rfl
      obtain ⟨σ', e4, e5⟩ := ih (i + 1) σ₂ (by rw [List.length_cons] at h1; (first | lia | omega)) hd e3
      exact ⟨σ', by simp [forL, e1, e2, e4], e5⟩
  exact this l 0 σ (by simp) rfl h

theorem rangeUp_nat (a b : Nat) : rangeUp a b = (List.range (b - a)).map fun i => MV.int ((a + i : Nat)) := by
  have : ((b : Int) - (a : Int)).toNat = b - a := by (first | lia | omega)
  simp [rangeUp, this]

theorem for_up {x a b : Nat} {body : Store → Option (Fl × Store)} (I : Nat → Store → Prop) (hab : a ≤ b)
    (turn : ∀ i σ, a ≤ i → i < b → I i σ → ∃ σ₁ σ₂, put σ x (.val (.int (i : Nat))) = some σ₁ ∧ body σ₁ = some (.next, σ₂) ∧ I (i + 1) σ₂) {σ : Store} (h : I a σ) : ∃ σ', forL x body (rangeUp a b) σ = some (.next, σ') ∧ I b σ' := by
  obtain ⟨σ', e1, e2⟩ := for_list (x := x) (body := body) (fun i σ => I (a + i) σ) (rangeUp a b) (fun i v σ hv hi => by
    rw [rangeUp_nat, List.getElem?_map, Option.map_eq_some_iff] at hv
    obtain ⟨j, hj, rfl⟩ := hv
    obtain ⟨hlt, rfl⟩ := List.getElem?_eq_some_iff.mp hj
    rw [List.length_range] at hlt
    rw [List.getElem_range]
    have := turn (a + i) σ (by (first | lia | omega)) (by (first | lia | omega)) hi
    simpa [Nat.add_assoc] using this) (σ := σ) h
  refine ⟨σ', e1, ?_⟩
  have : a + (rangeUp a b).length = b := by rw [rangeUp_nat]; simp; (first | lia | omega)
  rw [← this]; exact e2

/-- a loop that enumerates -/
theorem for_enum {x y : Nat} {body : Store → Option (Fl × Store)} (I : Nat → Store → Prop) (l : List MV)
    (turn : ∀ i v σ, l[i]? = some v → I i σ → ∃ σ₁ σ₂, puts σ [x, y] [.val (.int (i : Nat)), .val v] = some σ₁ ∧ body σ₁ = some (.next, σ₂) ∧ I (i + 1) σ₂) {σ : Store} (h : I 0 σ) : ∃ σ', forE x y body 0 l σ = some (.next, σ') ∧ I l.length σ' := by
  have : ∀ (r : List MV) (i : Nat) (σ : Store), i + r.length = l.length → l.drop i = r → I i σ → ∃ σ', forE x y body i r σ = some (.next, σ') ∧ I l.length σ' := by
    intro r
    induction r with
    | nil =>
      intro i σ h1 h2 h3
      refine ⟨σ, rfl, ?_⟩
      have : i = l.length := by simpa using h1
      rw [← this]; exact h3
    | cons v r ih =>
      intro i σ h1 h2 h3
      have hv : l[i]? = some v := by
        have : (l.drop i)[0]? = some v := by rw [h2]; rfl
        simpa using this
      obtain ⟨σ₁, σ₂, e1, e2, e3⟩ := turn i v σ hv h3
      have hd : l.drop (i + 1) = r := by rw [← List.drop_drop, h2]; rfl
      obtain ⟨σ', e4, e5⟩ := ih (i + 1) σ₂ (by rw [List.length_cons] at h1; (first | lia | omega)) hd e3
      exact ⟨σ', by simp [forE, e1, e2, e4], e5⟩
  exact this l 0 σ (by simp) rfl h

-- numbers in limbs
noncomputable def val (B : Nat) : List Nat → Nat
  | [] => 0
  | d :: r => d + B * val B r
noncomputable def Dig (B : Nat) (d : List Nat) : Prop := ∀ c ∈ d, c < B
noncomputable def Nrm (d : List Nat) : Prop := d.getLast? ≠ some 0

noncomputable def digF (B : Nat) : Nat → Nat → List Nat
  | 0, _ => []
  | f + 1, x => if x = 0 then [] else x % B :: digF B f (x / B)
noncomputable abbrev N (B x : Nat) : List Nat := digF B x x

section
variable {B : Nat}
theorem dig_cons {c : Nat} {d : List Nat} : Dig B (c :: d) ↔ c < B ∧ Dig B d := by simp [Dig]
theorem digF_val (hB : 2 ≤ B) : ∀ (f x : Nat), x ≤ f → val B (digF B f x) = x ∧ Dig B (digF B f x) ∧ Nrm (digF B f x)
  | 0, x, h => by
    have : x = 0 := by (first | lia | omega)
    subst this
    exact ⟨rfl, by intro c hc; simp [digF] at hc, by simp [Nrm, digF]⟩
  | f + 1, x, h => by
    unfold digF
    split
    · rename_i h0; subst h0; exact ⟨rfl, by intro c hc; simp at hc, by simp [Nrm]⟩
    · rename_i h0
      have hlt : x / B < x := Nat.div_lt_self (by (first | lia | omega)) (by (first | lia | omega))
      obtain ⟨h1, h2, h3⟩ := digF_val hB f (x / B) (by (first | lia | omega))
      refine ⟨?_, dig_cons.mpr ⟨Nat.mod_lt _ (by (first | lia | omega)), h2⟩, ?_⟩
      · simp only [val, h1]; exact Nat.mod_add_div x B
      · unfold Nrm
        cases e : digF B f (x / B) with
        | nil =>
          rw [e] at h1
          simp only [val] at h1
          have : x % B = x := Nat.mod_eq_of_lt (by
            rcases Nat.lt_or_ge x B with q | q
            · exact q
            · have := Nat.div_pos q (by (first | lia | omega)); (first | lia | omega))
          simp [this]; exact h0
        | cons y r =>
          rw [e] at h3
          simpa [Nrm, List.getLast?_cons_cons] using h3

theorem nrm_tail {c : Nat} {d : List Nat} (h : Nrm (c :: d)) : Nrm d := by
  cases d with
  | nil => simp [Nrm]
  | cons y r => simpa [Nrm, List.getLast?_cons_cons] using h
theorem nrm_pos (hB : 2 ≤ B) : ∀ {d : List Nat}, d ≠ [] → Nrm d → 0 < val B d
  | [c], _, h => by simp [Nrm] at h; simp [val]; (first | lia | omega)
  | c :: y :: r, _, h => by
    have := nrm_pos hB (d := y :: r) (by simp) (nrm_tail h)
    simp only [val] at this ⊢
    have := Nat.mul_pos (show 0 < B by (first | lia | omega)) this
    (first | lia | omega)

theorem dig_unique (hB : 2 ≤ B) : ∀ {d : List Nat} (f : Nat), Dig B d → Nrm d → val B d ≤ f → d = digF B f (val B d)
  | [], f, _, _, _ => by cases f <;> simp [val, digF]
  | c :: r, f, hd, hn, hf => by
    obtain ⟨h1, h2⟩ := dig_cons.mp hd
    have hpos := nrm_pos hB (by simp) hn
    have hdiv : val B (c :: r) / B = val B r := by
      simp only [val]; rw [Nat.add_mul_div_left _ _ (by (first | lia | omega)), Nat.div_eq_of_lt h1]; (first | lia | omega)
    have hmod : val B (c :: r) % B = c := by
      simp only [val]; rw [Nat.add_mul_mod_self_left, Nat.mod_eq_of_lt h1]
    cases f with
    | zero => (first | lia | omega)
    | succ f =>
      have hlt : val B (c :: r) / B < val B (c :: r) := Nat.div_lt_self hpos (by (first | lia | omega))
      unfold digF
      rw [if_neg (by (first | lia | omega)), hdiv, hmod, ← dig_unique hB f h2 (nrm_tail hn) (by (first | lia | omega))]

theorem N_val (hB : 2 ≤ B) (x : Nat) : val B (N B x) = x := (digF_val hB x x (Nat.le_refl _)).1
theorem N_dig (hB : 2 ≤ B) (x : Nat) : Dig B (N B x) := (digF_val hB x x (Nat.le_refl _)).2.1
theorem N_nrm (hB : 2 ≤ B) (x : Nat) : Nrm (N B x) := (digF_val hB x x (Nat.le_refl _)).2.2
theorem N_unique (hB : 2 ≤ B) {d : List Nat} {x : Nat} (h1 : Dig B d) (h2 : Nrm d) (h3 : val B d = x) : d = N B x := by
  subst h3; exact dig_unique hB _ h1 h2 (Nat.le_refl _)

theorem val_append : ∀ (a b : List Nat), val B (a ++ b) = val B a + B ^ a.length * val B b
  | [], b => by simp [val]
  | c :: a, b => by
    simp only [List.cons_append, val, val_append a b, List.length_cons, Nat.pow_succ]
    rw [Nat.mul_add, ← Nat.mul_assoc, Nat.mul_comm B (B ^ a.length)]; (first | lia | omega)
theorem val_lt (hB : 0 < B) : ∀ {d : List Nat}, Dig B d → val B d < B ^ d.length
  | [], _ => by simp [val]
  | c :: d, h => by
    obtain ⟨h1, h2⟩ := dig_cons.mp h
    have := val_lt hB h2
    simp only [val, List.length_cons, Nat.pow_succ]
    have h3 : B * (val B d + 1) ≤ B * B ^ d.length := Nat.mul_le_mul_left _ this
    rw [Nat.mul_add, Nat.mul_one] at h3
    rw [Nat.mul_comm (B ^ d.length) B]; (first | lia | omega)
theorem dig_append {a b : List Nat} : Dig B (a ++ b) ↔ Dig B a ∧ Dig B b := by
  constructor
  · intro h; exact ⟨fun c hc => h c (List.mem_append_left _ hc), fun c hc => h c (List.mem_append_right _ hc)⟩
  · rintro ⟨h1, h2⟩ c hc
    rcases List.mem_append.mp hc with q | q
    · exact h1 c q
    · exact h2 c q
theorem val_take_succ {d : List Nat} {i : Nat} (h : i < d.length) : val B (d.take (i + 1)) = val B (d.take i) + B ^ i * d[i] := by
  rw [List.take_succ_eq_append_getElem h, val_append]
  simp [val, List.length_take, Nat.min_eq_left (Nat.le_of_lt h)]
/-- a leading limb that counts -/
theorem nrm_of_ge (hB : 2 ≤ B) {d : List Nat} (hd : Dig B d) {n : Nat} (hn : d.length = n + 1) (h : B ^ n ≤ val B d) : Nrm d := by
  intro h0
  have hne : d ≠ [] := by rintro rfl; simp at hn
  obtain ⟨a, rfl⟩ : ∃ a, d = a ++ [0] := ⟨d.dropLast, by
    have := List.dropLast_concat_getLast hne
    rw [List.getLast?_eq_some_getLast hne] at h0
    rw [← this]; simp only [Option.some.injEq] at h0; rw [h0, List.dropLast_concat]⟩
  have ha := (dig_append.mp hd).1
  have := val_lt (by (first | lia | omega)) ha
  rw [val_append] at h
  simp only [List.length_append, List.length_cons, List.length_nil, Nat.zero_add, Nat.add_right_cancel_iff] at hn
  subst hn
  simp [val] at h
  (first | lia | omega)
theorem nrm_ge (hB : 2 ≤ B) {d : List Nat} {n : Nat} (hn : d.length = n + 1) (h : Nrm d) : B ^ n ≤ val B d := by
  have hne : d ≠ [] := by rintro rfl; simp at hn
  have e := List.dropLast_concat_getLast hne
  rw [← e, val_append]
  have hl : d.dropLast.length = n := by simp; (first | lia | omega)
  rw [hl]
  have h0 : d.getLast hne ≠ 0 := by
    intro q; apply h; rw [List.getLast?_eq_some_getLast hne, q]
  simp only [val]
  have : B ^ n * 1 ≤ B ^ n * (d.getLast hne + B * 0) := Nat.mul_le_mul_left _ (by (first | lia | omega))
  (first | lia | omega)
theorem val_set {d : List Nat} : ∀ {i : Nat} (c : Nat) (h : i < d.length), val B (d.set i c) + B ^ i * d[i] = val B d + B ^ i * c := by
  induction d with
  | nil => intro i c h; simp at h
  | cons x d ih =>
    intro i c h
    cases i with
    | zero => simp [val]; (first | lia | omega)
    | succ i =>
      simp only [List.set_cons_succ, val, List.getElem_cons_succ]
      have := ih (i := i) c (by simpa using h)
      have h2 : B * (val B (d.set i c) + B ^ i * d[i]'(by simpa using h)) = B * (val B d + B ^ i * c) := by rw [this]
      rw [Nat.mul_add, Nat.mul_add, ← Nat.mul_assoc, ← Nat.mul_assoc] at h2
      rw [Nat.pow_succ, Nat.mul_comm (B ^ i) B]
      (first | lia | omega)
theorem dig_set {d : List Nat} {i c : Nat} (h : Dig B d) (hc : c < B) : Dig B (d.set i c) := by
  intro x hx
  rcases List.mem_or_eq_of_mem_set hx with q | q
  · exact h x q
  · rw [q]; exact hc
end

noncomputable def strip : List Nat → List Nat
  | [] => []
  | x :: r => match strip r with
    | [] => if x = 0 then [] else [x]
    | y :: t => x :: y :: t

theorem strip_nrm : ∀ d : List Nat, Nrm (strip d)
  | [] => by simp [strip, Nrm]
  | x :: r => by
    have ih := strip_nrm r
    unfold strip
    split
    · split
      · simp [Nrm]
      · rename_i h; simpa [Nrm] using h
    · rename_i y t e
      rw [e] at ih
      simpa [Nrm, List.getLast?_cons_cons] using ih
theorem strip_val (B : Nat) : ∀ d : List Nat, val B (strip d) = val B d
  | [] => rfl
  | x :: r => by
    have ih := strip_val B r
    unfold strip
    split
    · rename_i e
      rw [e] at ih
      simp only [val] at ih
      split
      · rename_i h; simp [val, ← ih, h]
      · simp [val, ← ih]
    · rename_i y t e
      rw [e] at ih
      show x + B * val B (y :: t) = x + B * val B r
      rw [ih]
theorem strip_dig {B : Nat} : ∀ {d : List Nat}, Dig B d → Dig B (strip d)
  | [], h => h
  | x :: r, h => by
    obtain ⟨h1, h2⟩ := dig_cons.mp h
    have ih := strip_dig h2
    unfold strip
    split
    · split
      · intro c hc; simp at hc
      · exact dig_cons.mpr ⟨h1, by intro c hc; simp at hc⟩
    · rename_i y t e
      rw [e] at ih
      exact dig_cons.mpr ⟨h1, ih⟩
theorem strip_N {B : Nat} (hB : 2 ≤ B) {d : List Nat} (h : Dig B d) {x : Nat} (hx : val B d = x) : strip d = N B x := N_unique hB (strip_dig h) (strip_nrm d) ((strip_val B d).trans hx)
theorem strip_snoc0 : ∀ d : List Nat, strip (d ++ [0]) = strip d
  | [] => rfl
  | x :: r => by simp only [List.cons_append, strip, strip_snoc0 r]
theorem strip_snoc {c : Nat} (hc : c ≠ 0) : ∀ d : List Nat, strip (d ++ [c]) = d ++ [c]
  | [] => by simp [strip, hc]
  | x :: r => by
    simp only [List.cons_append, strip, strip_snoc hc r]
    cases r <;> rfl
end Mine

end
-- PureB
section
set_option autoImplicit false
set_option maxRecDepth 100000
set_option linter.all false
set_option backward.match.sparseCases false
set_option bootstrap.genMatcherCode false
namespace Mine

theorem strip_take : ∀ d : List Nat, d.take (strip d).length = strip d
  | [] => rfl
  | x :: r => by
    have ih := strip_take r
    unfold strip
    split
    · split
      · rfl
      · rfl
    · rename_i y t e
      rw [e] at ih
      simp only [List.length_cons] at ih ⊢
      rw [List.take_succ_cons, ih]

theorem normal_loop (P : Fns) (ln : Nat → Bool) (d : List Nat) (hs : d.length < 4096) : ∀ (m fuel : Nat), m ≤ d.length → m < fuel →
    whileL (ev P ln (.and (.cmp .gt (.var 1) (.int 0)) (.cmp .eq (.idxv 0 (.bin .sub (.var 1) (.int 1))) (.int 0)))) (exs P ln [.aug 1 .sub (.int 1)]) fuel [.val (.lst (M d)), .val (.int m)] = 
      some (.next, [.val (.lst (M d)), .val (.int ((strip (d.take m)).length : Nat))]) := by
  intro m
  induction m with
  | zero =>
    intro fuel h1 h2
    obtain ⟨f, rfl⟩ : ∃ f, fuel = f + 1 := ⟨fuel - 1, by (first | lia | omega)⟩
    rw [while_false (σ₁ := [.val (.lst (M d)), .val (.int (0 : Nat))])]
    · simp [strip]
    · simp [exs, ex, ev, evs, evt, evr, mbin, mcmp, icmp, ibin, MR.mv, MR.slot, live, held, lentAt, put, puts, relist, Slot.items?, Slot.list?, MV.items?, short, List.getElem?_cons_zero, List.getElem?_cons_succ, List.set_cons_zero, List.set_cons_succ, List.length_cons, List.length_nil, M_length, Option.map_some, Option.map_none]
  | succ m ih =>
    intro fuel h1 h2
    obtain ⟨f, rfl⟩ : ∃ f, fuel = f + 1 := ⟨fuel - 1, by (first | lia | omega)⟩
    have hget : (M d)[m]? = some (.int (d[m] : Nat)) := M_at (by (first | lia | omega))
    have htk : d.take (m + 1) = d.take m ++ [d[m]] := List.take_succ_eq_append_getElem (by (first | lia | omega))
    have hidx : pyIdx (M d) (m : Int) = some (.int (d[m] : Nat)) := by rw [pyIdx_nat, hget]
    by_cases hz : d[m] = 0
    · rw [while_true (σ₁ := [.val (.lst (M d)), .val (.int (m + 1 : Nat))]) (σ₂ := [.val (.lst (M d)), .val (.int (m : Nat))])]
      · rw [ih f (by (first | lia | omega)) (by (first | lia | omega)), htk, hz, strip_snoc0]
      · simp [exs, ex, ev, evs, evt, evr, mbin, mcmp, icmp, ibin, MR.mv, MR.slot, live, held, lentAt, put, puts, relist, Slot.items?, Slot.list?, MV.items?, short, List.getElem?_cons_zero, List.getElem?_cons_succ, List.set_cons_zero, List.set_cons_succ, List.length_cons, List.length_nil, M_length, Option.map_some, Option.map_none, hs, hidx, hz, -List.length_map]
      · simp [exs, ex, ev, evs, evt, evr, mbin, mcmp, icmp, ibin, MR.mv, MR.slot, live, held, lentAt, put, puts, relist, Slot.items?, Slot.list?, MV.items?, short, List.getElem?_cons_zero, List.getElem?_cons_succ, List.set_cons_zero, List.set_cons_succ, List.length_cons, List.length_nil, M_length, Option.map_some, Option.map_none]
    · rw [while_false (σ₁ := [.val (.lst (M d)), .val (.int (m + 1 : Nat))])]
      · rw [htk, strip_snoc hz, ← htk, List.length_take, Nat.min_eq_left h1]
      · have : (((d[m] : Nat) : Int) == 0) = false := by rw [beq_eq_false_iff_ne]; (first | lia | omega)
        simp [exs, ex, ev, evs, evt, evr, mbin, mcmp, icmp, ibin, MR.mv, MR.slot, live, held, lentAt, put, puts, relist, Slot.items?, Slot.list?, MV.items?, short, List.getElem?_cons_zero, List.getElem?_cons_succ, List.set_cons_zero, List.set_cons_succ, List.length_cons, List.length_nil, M_length, Option.map_some, Option.map_none, hs, hidx, this]

theorem normal_spec (k : Nat) (d : List Nat) (hs : d.length < 4096) : Phi tab (k + 1) 0 [.lst (M d)] = some (.lst (M (strip d)), []) := by
  rw [phi_succ k 0 _ (fd := ir_normal) rfl]
  refine run_plain (σ₁ := [.val (.lst (M d)), .val (.int ((strip d).length : Nat))]) rfl (by decide) rfl ?_
  show exs _ _ ir_normal.body [.val (.lst (M d)), .unset] = _
  unfold ir_normal
  rw [exs_step (σ₁ := [.val (.lst (M d)), .val (.int (d.length : Nat))]) (by simp [exs, ex, ev, evs, evt, evr, mbin, mcmp, icmp, ibin, MR.mv, MR.slot, live, held, lentAt, put, puts, relist, Slot.items?, Slot.list?, MV.items?, short, List.getElem?_cons_zero, List.getElem?_cons_succ, List.set_cons_zero, List.set_cons_succ, List.length_cons, List.length_nil, M_length, Option.map_some, Option.map_none, hs])]
  rw [exs_step (σ₁ := [.val (.lst (M d)), .val (.int ((strip d).length : Nat))]) (by rw [ex]; have := normal_loop (Phi tab k) (lnOf tab) d hs d.length 4096 (Nat.le_refl _) hs; rwa [List.take_length] at this)]
  have h0 : ¬ (((strip d).length : Nat) : Int) < 0 := by (first | lia | omega)
  have : (M d).take (strip d).length = M (strip d) := by rw [M, ← List.map_take, strip_take]
  simp [exs, ex, ev, evs, evt, evr, mbin, mcmp, icmp, ibin, MR.mv, MR.slot, live, held, lentAt, put, puts, relist, Slot.items?, Slot.list?, MV.items?, short, List.getElem?_cons_zero, List.getElem?_cons_succ, List.set_cons_zero, List.set_cons_succ, List.length_cons, List.length_nil, M_length, Option.map_some, Option.map_none, hs, this, -List.map_take]

theorem normal_N (k : Nat) {B : Nat} (hB : 2 ≤ B) {d : List Nat} (hs : d.length < 4096) (hd : Dig B d) {x : Nat} (hx : val B d = x) : Phi tab (k + 1) 0 [.lst (M d)] = some (.lst (M (N B x)), []) := by
  rw [normal_spec k d hs, strip_N hB hd hx]

noncomputable def downL : Nat → List MV
  | 0 => []
  | m + 1 => .int (m : Nat) :: downL m
theorem downL_length : ∀ m, (downL m).length = m
  | 0 => rfl
  | m + 1 => by simp [downL, downL_length m]
theorem down_eq : ∀ m : Nat, rangeDown ((m : Int) - 1) (-1) = downL m
  | 0 => rfl
  | m + 1 => by
    have h1 : (((m + 1 : Nat) : Int) - 1 - -1).toNat = m + 1 := by (first | lia | omega)
    have h2 : ((m : Int) - 1 - -1).toNat = m := by (first | lia | omega)
    rw [downL, ← down_eq m]
    unfold rangeDown
    rw [h1, h2, List.range_succ_eq_map, List.map_cons, List.map_map]
    congr 1
    · congr 1; (first | lia | omega)
    · apply List.map_congr_left
      intro i _
      simp; (first | lia | omega)

noncomputable def cmpZ (x y : Nat) : Int := if x < y then -1 else if x = y then 0 else 1

noncomputable def NotLent (s : Slot) : Prop := ∀ l, s ≠ .lent l
theorem put_at {σ : Store} {i : Nat} {t s : Slot} (h : σ[i]? = some t) (hn : NotLent t) : put σ i s = some (σ.set i s) := by
  have hi : i < σ.length := (List.getElem?_eq_some_iff.mp h).1
  have : lentAt σ i = false := by
    unfold lentAt; rw [h]
    cases t <;> first | rfl | exact absurd rfl (hn _)
  simp [put, hi, this]
theorem nl_unset : NotLent .unset := by intro l h; cases h
theorem nl_val (d : MV) : NotLent (.val d) := by intro l h; cases h
theorem nl_own (d : List MV) : NotLent (.own d) := by intro l h; cases h

theorem cmp_loop (P : Fns) (ln : Nat → Bool) {B : Nat} (hB : 2 ≤ B) (a b : List Nat) (hs : a.length < 4096) (hl : a.length = b.length) (ha : Dig B a) (hb : Dig B b) : ∀ (m : Nat) (s2 : Slot), m ≤ a.length → a.drop m = b.drop m → NotLent s2 →
    ∃ s2', (a = b ∧ forL 2 (exs P ln [.ite (.cmp .ne (.idxv 0 (.var 2)) (.idxv 1 (.var 2))) [.ret (.ite (.cmp .lt (.idxv 0 (.var 2)) (.idxv 1 (.var 2))) (.neg (.int 1)) (.int 1))] []]) (downL m) [.val (.lst (M a)), .val (.lst (M b)), s2] = some (.next, [.val (.lst (M a)), .val (.lst (M b)), s2'])) ∨
      (val B a ≠ val B b ∧ forL 2 (exs P ln [.ite (.cmp .ne (.idxv 0 (.var 2)) (.idxv 1 (.var 2))) [.ret (.ite (.cmp .lt (.idxv 0 (.var 2)) (.idxv 1 (.var 2))) (.neg (.int 1)) (.int 1))] []]) (downL m) [.val (.lst (M a)), .val (.lst (M b)), s2] = some (.ret (.int (cmpZ (val B a) (val B b))), [.val (.lst (M a)), .val (.lst (M b)), s2']))
  | 0, s2, _, hd, _ => ⟨s2, .inl ⟨by simpa using hd, rfl⟩⟩
  | m + 1, s2, hm, hd, hn => by
    have hma : m < a.length := by (first | lia | omega)
    have hmb : m < b.length := by (first | lia | omega)
    have ia : pyIdx (M a) (m : Int) = some (.int (a[m] : Nat)) := by rw [pyIdx_nat, M_at hma]
    have ib : pyIdx (M b) (m : Int) = some (.int (b[m] : Nat)) := by rw [pyIdx_nat, M_at hmb]
    have hs' : b.length < 4096 := by (first | lia | omega)
    have hput : put [.val (.lst (M a)), .val (.lst (M b)), s2] 2 (.val (.int (m : Nat))) = some [.val (.lst (M a)), .val (.lst (M b)), .val (.int (m : Nat))] := put_at (t := s2) rfl hn
    simp only [downL, forL, hput]
    by_cases he : a[m] = b[m]
    · have hbody : exs P ln [.ite (.cmp .ne (.idxv 0 (.var 2)) (.idxv 1 (.var 2))) [.ret (.ite (.cmp .lt (.idxv 0 (.var 2)) (.idxv 1 (.var 2))) (.neg (.int 1)) (.int 1))] []] [.val (.lst (M a)), .val (.lst (M b)), .val (.int (m : Nat))] = some (.next, [.val (.lst (M a)), .val (.lst (M b)), .val (.int (m : Nat))]) := by
        have h1 : (((a[m] : Nat) : Int) != (b[m] : Nat)) = false := by rw [he]; simp
        simp [exs, ex, ev, evs, evt, evr, mbin, mcmp, icmp, ibin, MR.mv, MR.slot, live, held, lentAt, put, puts, relist, Slot.items?, Slot.list?, MV.items?, short, List.getElem?_cons_zero, List.getElem?_cons_succ, List.set_cons_zero, List.set_cons_succ, List.length_cons, List.length_nil, M_length, Option.map_some, Option.map_none, hs, hs', ia, ib, h1]
      rw [hbody]
      refine cmp_loop P ln hB a b hs hl ha hb m _ (by (first | lia | omega)) ?_ (nl_val _)
      rw [List.drop_eq_getElem_cons hma, List.drop_eq_getElem_cons hmb, he, hd]
    · have hne : (((a[m] : Nat) : Int) != (b[m] : Nat)) = true := by rw [bne_iff_ne]; (first | lia | omega)
      -- the values
      have va : val B a = val B (a.take m) + B ^ m * (a[m] + B * val B (a.drop (m + 1))) := by
        conv => lhs; rw [← List.take_append_drop m a]
        rw [val_append, List.drop_eq_getElem_cons hma, List.length_take, Nat.min_eq_left (by (first | lia | omega))]; rfl
      have vb : val B b = val B (b.take m) + B ^ m * (b[m] + B * val B (a.drop (m + 1))) := by
        conv => lhs; rw [← List.take_append_drop m b]
        rw [val_append, List.drop_eq_getElem_cons hmb, List.length_take, Nat.min_eq_left (by (first | lia | omega)), hd]; rfl
      have ta : val B (a.take m) < B ^ m := by
        have := val_lt (B := B) (by (first | lia | omega)) (d := a.take m) (fun c hc => ha c (List.mem_of_mem_take hc))
        rwa [List.length_take, Nat.min_eq_left (by (first | lia | omega))] at this
      have tb : val B (b.take m) < B ^ m := by
        have := val_lt (B := B) (by (first | lia | omega)) (d := b.take m) (fun c hc => hb c (List.mem_of_mem_take hc))
        rwa [List.length_take, Nat.min_eq_left (by (first | lia | omega))] at this
      refine ⟨.val (.int (m : Nat)), .inr ?_⟩
      rcases Nat.lt_or_gt_of_ne he with hlt | hgt
      · have hlt' : val B a < val B b := by
          rw [va, vb]
          have h1 : B ^ m * (a[m] + B * val B (a.drop (m + 1)) + 1) ≤ B ^ m * (b[m] + B * val B (a.drop (m + 1))) := Nat.mul_le_mul_left _ (by (first | lia | omega))
          rw [Nat.mul_add _ _ 1, Nat.mul_one] at h1
          (first | lia | omega)
        refine ⟨by (first | lia | omega), ?_⟩
        have h2 : (((a[m] : Nat) : Int) < (b[m] : Nat)) := by (first | lia | omega)
        simp [exs, ex, ev, evs, evt, evr, mbin, mcmp, icmp, ibin, MR.mv, MR.slot, live, held, lentAt, put, puts, relist, Slot.items?, Slot.list?, MV.items?, short, List.getElem?_cons_zero, List.getElem?_cons_succ, List.set_cons_zero, List.set_cons_succ, List.length_cons, List.length_nil, M_length, Option.map_some, Option.map_none, hs, hs', ia, ib, hne, h2, cmpZ, hlt']
      · have hlt' : val B b < val B a := by
          rw [va, vb]
          have h1 : B ^ m * (b[m] + B * val B (a.drop (m + 1)) + 1) ≤ B ^ m * (a[m] + B * val B (a.drop (m + 1))) := Nat.mul_le_mul_left _ (by (first | lia | omega))
          rw [Nat.mul_add _ _ 1, Nat.mul_one] at h1
          (first | lia | omega)
        refine ⟨by (first | lia | omega), ?_⟩
        have h2 : ¬ (((a[m] : Nat) : Int) < (b[m] : Nat)) := by (first | lia | omega)
        have h3 : ¬ val B a < val B b := by (first | lia | omega)
        have h4 : ¬ val B a = val B b := by (first | lia | omega)
        simp [exs, ex, ev, evs, evt, evr, mbin, mcmp, icmp, ibin, MR.mv, MR.slot, live, held, lentAt, put, puts, relist, Slot.items?, Slot.list?, MV.items?, short, List.getElem?_cons_zero, List.getElem?_cons_succ, List.set_cons_zero, List.set_cons_succ, List.length_cons, List.length_nil, M_length, Option.map_some, Option.map_none, hs, hs', ia, ib, hne, h2, cmpZ, h3, h4]

theorem val_lt_of_len {B : Nat} (hB : 2 ≤ B) {a b : List Nat} (ha : Dig B a) (hb : Nrm b) (h : a.length < b.length) : val B a < val B b := by
  have h1 := val_lt (by (first | lia | omega)) ha
  obtain ⟨n, hn⟩ : ∃ n, b.length = n + 1 := ⟨b.length - 1, by (first | lia | omega)⟩
  have h2 := nrm_ge hB hn hb
  have h3 : B ^ a.length ≤ B ^ n := Nat.pow_le_pow_right (by (first | lia | omega)) (by (first | lia | omega))
  (first | lia | omega)

theorem compare_spec (k : Nat) {B : Nat} (hB : 2 ≤ B) {a b : List Nat} (hs : a.length < 4096) (hs' : b.length < 4096) (ha : Dig B a) (hb : Dig B b) (na : Nrm a) (nb : Nrm b) :
    Phi tab (k + 1) 1 [.lst (M a), .lst (M b)] = some (.int (cmpZ (val B a) (val B b)), []) := by
  rw [phi_succ k 1 _ (fd := ir_compare) rfl]
  by_cases hl : a.length = b.length
  · obtain ⟨s2, h⟩ := cmp_loop (Phi tab k) (lnOf tab) hB a b hs hl ha hb a.length .unset (Nat.le_refl _) (by rw [List.drop_length, hl, List.drop_length]) nl_unset
    have hd : rangeDown ((a.length : Int) - 1) (-1) = downL a.length := down_eq _
    have q1 : (a.length : Int) - 1 - -1 < 4096 := by (first | lia | omega)
    have q0 : (a.length : Int) < 4096 := by (first | lia | omega)
    have q2 : -4096 < (a.length : Int) - 1 := by (first | lia | omega)
    have q3 : (a.length : Int) - 1 < 4096 := by (first | lia | omega)
    have h0 : (((a.length : Nat) : Int) != (b.length : Nat)) = false := by rw [hl]; simp
    have h9 : (downL a.length).length < 4096 := by rw [downL_length]; exact hs
    rcases h with ⟨rfl, h⟩ | ⟨hne, h⟩
    · refine run_plain (σ₁ := [.val (.lst (M a)), .val (.lst (M a)), s2]) rfl (by decide) rfl ?_
      show exs _ _ ir_compare.body [.val (.lst (M a)), .val (.lst (M a)), .unset] = _
      unfold ir_compare
      rw [exs_step (σ₁ := [.val (.lst (M a)), .val (.lst (M a)), .unset]) (by simp [exs, ex, ev, evs, evt, evr, mbin, mcmp, icmp, ibin, MR.mv, MR.slot, live, held, lentAt, put, puts, relist, Slot.items?, Slot.list?, MV.items?, short, List.getElem?_cons_zero, List.getElem?_cons_succ, List.set_cons_zero, List.set_cons_succ, List.length_cons, List.length_nil, M_length, Option.map_some, Option.map_none, hs, h0])]
      rw [exs_step (σ₁ := [.val (.lst (M a)), .val (.lst (M a)), s2]) (by rw [ex]; simp [evt, ev, live, Slot.items?, MV.items?, short, hs, mbin, ibin, MR.mv, q0, q1, q2, q3, hd, h9]; exact h)]
      simp [exs, ex, ev, evs, evt, evr, mbin, mcmp, icmp, ibin, MR.mv, MR.slot, live, held, lentAt, put, puts, relist, Slot.items?, Slot.list?, MV.items?, short, List.getElem?_cons_zero, List.getElem?_cons_succ, List.set_cons_zero, List.set_cons_succ, List.length_cons, List.length_nil, M_length, Option.map_some, Option.map_none, cmpZ]
    · refine run_plain (σ₁ := [.val (.lst (M a)), .val (.lst (M b)), s2]) rfl (by decide) rfl ?_
      show exs _ _ ir_compare.body [.val (.lst (M a)), .val (.lst (M b)), .unset] = _
      unfold ir_compare
      rw [exs_step (σ₁ := [.val (.lst (M a)), .val (.lst (M b)), .unset]) (by simp [exs, ex, ev, evs, evt, evr, mbin, mcmp, icmp, ibin, MR.mv, MR.slot, live, held, lentAt, put, puts, relist, Slot.items?, Slot.list?, MV.items?, short, List.getElem?_cons_zero, List.getElem?_cons_succ, List.set_cons_zero, List.set_cons_succ, List.length_cons, List.length_nil, M_length, Option.map_some, Option.map_none, hs, hs', h0])]
      exact exs_ret (by rw [ex]; simp [evt, ev, live, Slot.items?, MV.items?, short, hs, mbin, ibin, MR.mv, q0, q1, q2, q3, hd, h9]; exact h)
  · refine run_plain (σ₁ := [.val (.lst (M a)), .val (.lst (M b)), .unset]) rfl (by decide) rfl ?_
    show exs _ _ ir_compare.body [.val (.lst (M a)), .val (.lst (M b)), .unset] = _
    unfold ir_compare
    have h0 : (((a.length : Nat) : Int) != (b.length : Nat)) = true := by rw [bne_iff_ne]; (first | lia | omega)
    refine exs_ret ?_
    rcases Nat.lt_or_gt_of_ne hl with h | h
    · have := val_lt_of_len hB ha nb h
      have h2 : ((a.length : Nat) : Int) < (b.length : Nat) := by (first | lia | omega)
      simp [exs, ex, ev, evs, evt, evr, mbin, mcmp, icmp, ibin, MR.mv, MR.slot, live, held, lentAt, put, puts, relist, Slot.items?, Slot.list?, MV.items?, short, List.getElem?_cons_zero, List.getElem?_cons_succ, List.set_cons_zero, List.set_cons_succ, List.length_cons, List.length_nil, M_length, Option.map_some, Option.map_none, hs, hs', h0, h2, cmpZ, this]
    · have := val_lt_of_len hB hb na h
      have h2 : ¬ ((a.length : Nat) : Int) < (b.length : Nat) := by (first | lia | omega)
      have h3 : ¬ val B a < val B b := by (first | lia | omega)
      have h4 : ¬ val B a = val B b := by (first | lia | omega)
      simp [exs, ex, ev, evs, evt, evr, mbin, mcmp, icmp, ibin, MR.mv, MR.slot, live, held, lentAt, put, puts, relist, Slot.items?, Slot.list?, MV.items?, short, List.getElem?_cons_zero, List.getElem?_cons_succ, List.set_cons_zero, List.set_cons_succ, List.length_cons, List.length_nil, M_length, Option.map_some, Option.map_none, hs, hs', h0, h2, cmpZ, h3, h4]
end Mine

end
-- PureC
section
set_option autoImplicit false
set_option maxRecDepth 100000
set_option linter.all false
set_option backward.match.sparseCases false
set_option bootstrap.genMatcherCode false
namespace Mine

theorem fdiv_pow (z w : Nat) : (z : Int).fdiv (2 ^ w) = ((z / 2 ^ w : Nat) : Int) := by
  rw [Int.fdiv_eq_ediv_of_nonneg _ (by exact_mod_cast Nat.zero_le _)]
  push_cast
  rfl
theorem and_mask (z w : Nat) : z &&& (2 ^ w - 1) = z % 2 ^ w := Nat.and_two_pow_sub_one_eq_mod z w
theorem mask_int (w : Nat) : ((2 : Int) ^ w - 1) = ((2 ^ w - 1 : Nat) : Int) := by
  have : 1 ≤ 2 ^ w := Nat.one_le_two_pow
  rw [Int.natCast_sub this]; push_cast; rfl
theorem two_le_pow {w : Nat} (h : 1 ≤ w) : 2 ≤ 2 ^ w := by
  have := Nat.pow_le_pow_right (n := 2) (by (first | lia | omega)) h
  simpa using this

theorem take_len {d : List Nat} {i : Nat} (h : d.length ≤ i) : d.take i = d := List.take_of_length_le h

theorem val_snoc (B : Nat) (f : List Nat) (c : Nat) : val B (f ++ [c]) = val B f + B ^ f.length * c := by
  rw [val_append]; simp [val]
theorem dig_snoc {B : Nat} {f : List Nat} {c : Nat} (h : Dig B f) (hc : c < B) : Dig B (f ++ [c]) := dig_append.mpr ⟨h, by intro x hx; simp at hx; (first | lia | omega)⟩

/-- adding, the longer row first -/
theorem add_core (P : Fns) (ln : Nat → Bool) {w : Nat} (hw : 1 ≤ w) (hw' : w < 32) {a b : List Nat} (hs : a.length < 4095) (hl : b.length ≤ a.length) (ha : Dig (2 ^ w) a) (hb : Dig (2 ^ w) b) :
    ∃ r σ', Dig (2 ^ w) r ∧ val (2 ^ w) r = val (2 ^ w) a + val (2 ^ w) b ∧ (r.length = a.length ∨ (r.length = a.length + 1 ∧ Nrm r)) ∧
      exs P ln ir_add.body.tail [.val (.lst (M a)), .val (.lst (M b)), .val (.int w), .unset, .unset, .unset, .unset] = some (.ret (.lst (M r)), σ') := by
  have hB := two_le_pow hw
  generalize hBd : 2 ^ w = B at *
  have hs' : b.length < 4096 := by (first | lia | omega)
  have hsa : a.length < 4096 := by (first | lia | omega)
  obtain ⟨mask, hmask⟩ : ∃ m, m = 2 ^ w - 1 := ⟨_, rfl⟩
  have hand : ∀ z, z &&& mask = z % B := fun z => by rw [hmask, and_mask, hBd]
  have hshr : ∀ z : Nat, (z : Int).fdiv (2 ^ w) = ((z / B : Nat) : Int) := fun z => by rw [fdiv_pow, hBd]
  have hmi : (2 : Int) ^ w - 1 = (mask : Nat) := by rw [hmask, mask_int]
  let I : Nat → Store → Prop := fun i σ => ∃ (f : List Nat) (c : Nat) (s6 : Slot), NotLent s6 ∧ σ = [.val (.lst (M a)), .val (.lst (M b)), .val (.int w), .own (M f), .val (.int c), .val (.int mask), s6] ∧ f.length = i ∧ Dig B f ∧ c ≤ 1 ∧
    val B f + B ^ i * c = val B (a.take i) + val B (b.take i)
  have step : ∀ (f : List Nat) (c x i : Nat), f.length = i → i < a.length → Dig B f → c ≤ 1 → x ≤ 2 * (B - 1) → 
      Dig B (f ++ [(c + x) % B]) ∧ (c + x) / B ≤ 1 ∧ val B (f ++ [(c + x) % B]) + B ^ (i + 1) * ((c + x) / B) = val B f + B ^ i * c + B ^ i * x := by
    intro f c x i hf hi hd hc hx
    refine ⟨dig_snoc hd (Nat.mod_lt _ (by (first | lia | omega))), ?_, ?_⟩
    · have : c + x < 2 * B := by (first | lia | omega)
      have := (Nat.div_lt_iff_lt_mul (by (first | lia | omega))).mpr this
      (first | lia | omega)
    · rw [val_snoc, hf, Nat.pow_succ]
      have h1 := Nat.mod_add_div (c + x) B
      have h2 : B ^ i * ((c + x) % B + B * ((c + x) / B)) = B ^ i * (c + x) := by rw [h1]
      rw [Nat.mul_add, Nat.mul_add, ← Nat.mul_assoc] at h2
      (first | lia | omega)
  -- the first loop
  obtain ⟨σ₁, e1, ⟨f1, c1, s61, n1, rfl, q1, q2, q3, q4⟩⟩ := for_up (x := 6) (a := 0) (b := b.length) (body := exs P ln [.aug 4 .add (.bin .add (.idxv 0 (.var 6)) (.idxv 1 (.var 6))), .append 3 (.bin .band (.var 4) (.var 5)), .aug 4 .shr (.var 2)]) I (by (first | lia | omega))
    (by
      rintro i σ _ hi ⟨f, c, s6, hn, rfl, hf, hd, hc, hv⟩
      have ia : pyIdx (M a) (i : Int) = some (.int (a[i] : Nat)) := by rw [pyIdx_nat, M_at (by (first | lia | omega))]
      have ib : pyIdx (M b) (i : Int) = some (.int (b[i] : Nat)) := by rw [pyIdx_nat, M_at hi]
      have xa := ha a[i] (List.getElem_mem _)
      have xb := hb b[i] (List.getElem_mem _)
      obtain ⟨r1, r2, r3⟩ := step f c (a[i] + b[i]) i hf (by (first | lia | omega)) hd hc (by (first | lia | omega))
      refine ⟨[.val (.lst (M a)), .val (.lst (M b)), .val (.int w), .own (M f), .val (.int c), .val (.int mask), .val (.int (i : Nat))], _, put_at (t := s6) rfl hn, ?_, f ++ [(c + (a[i] + b[i])) % B], (c + (a[i] + b[i])) / B, .val (.int (i : Nat)), nl_val _, rfl, by simp [hf], r1, r2, ?_⟩
      · rw [exs_step (σ₁ := [.val (.lst (M a)), .val (.lst (M b)), .val (.int w), .own (M f), .val (.int ((c + (a[i] + b[i]) : Nat))), .val (.int mask), .val (.int (i : Nat))]) (by simp [exs, ex, ev, evs, evt, evr, mbin, mcmp, icmp, ibin, MR.mv, MR.slot, live, held, lentAt, put, puts, relist, Slot.items?, Slot.list?, MV.items?, short, List.getElem?_cons_zero, List.getElem?_cons_succ, List.set_cons_zero, List.set_cons_succ, List.length_cons, List.length_nil, M_length, Option.map_some, Option.map_none, hsa, hs', ia, ib])]
        generalize c + (a[i] + b[i]) = z
        have hfl : f.length < 4096 := by (first | lia | omega)
        rw [exs_step (σ₁ := [.val (.lst (M a)), .val (.lst (M b)), .val (.int w), .own (M (f ++ [z % B])), .val (.int (z : Nat)), .val (.int mask), .val (.int (i : Nat))]) (by simp [exs, ex, ev, evs, evt, evr, mbin, mcmp, icmp, ibin, MR.mv, MR.slot, live, held, lentAt, put, puts, relist, Slot.items?, Slot.list?, MV.items?, short, List.getElem?_cons_zero, List.getElem?_cons_succ, List.set_cons_zero, List.set_cons_succ, List.length_cons, List.length_nil, M_length, Option.map_some, Option.map_none, hfl, hand])]
        simp [exs, ex, ev, evs, evt, evr, mbin, mcmp, icmp, ibin, MR.mv, MR.slot, live, held, lentAt, put, puts, relist, Slot.items?, Slot.list?, MV.items?, short, List.getElem?_cons_zero, List.getElem?_cons_succ, List.set_cons_zero, List.set_cons_succ, List.length_cons, List.length_nil, M_length, Option.map_some, Option.map_none, hshr]
      · rw [r3, hv, val_take_succ hi, val_take_succ (d := a) (by (first | lia | omega)), Nat.mul_add]; (first | lia | omega)) (σ := [.val (.lst (M a)), .val (.lst (M b)), .val (.int w), .own (M []), .val (.int (0 : Nat)), .val (.int mask), .unset])
    ⟨[], 0, .unset, nl_unset, rfl, rfl, by intro c hc; simp at hc, by (first | lia | omega), by simp [val]⟩
  obtain ⟨σ₂, e2, ⟨f2, c2, s62, n2, rfl, p1, p2, p3, p4⟩⟩ := for_up (x := 6) (a := b.length) (b := a.length) (body := exs P ln [.aug 4 .add (.idxv 0 (.var 6)), .append 3 (.bin .band (.var 4) (.var 5)), .aug 4 .shr (.var 2)]) I (by (first | lia | omega))
    (by
      rintro i σ hbi hi ⟨f, c, s6, hn, rfl, hf, hd, hc, hv⟩
      have ia : pyIdx (M a) (i : Int) = some (.int (a[i] : Nat)) := by rw [pyIdx_nat, M_at hi]
      have xa := ha a[i] (List.getElem_mem _)
      obtain ⟨r1, r2, r3⟩ := step f c a[i] i hf (by (first | lia | omega)) hd hc (by (first | lia | omega))
      refine ⟨[.val (.lst (M a)), .val (.lst (M b)), .val (.int w), .own (M f), .val (.int c), .val (.int mask), .val (.int (i : Nat))], _, put_at (t := s6) rfl hn, ?_, f ++ [(c + a[i]) % B], (c + a[i]) / B, .val (.int (i : Nat)), nl_val _, rfl, by simp [hf], r1, r2, ?_⟩
      · rw [exs_step (σ₁ := [.val (.lst (M a)), .val (.lst (M b)), .val (.int w), .own (M f), .val (.int ((c + a[i] : Nat))), .val (.int mask), .val (.int (i : Nat))]) (by simp [exs, ex, ev, evs, evt, evr, mbin, mcmp, icmp, ibin, MR.mv, MR.slot, live, held, lentAt, put, puts, relist, Slot.items?, Slot.list?, MV.items?, short, List.getElem?_cons_zero, List.getElem?_cons_succ, List.set_cons_zero, List.set_cons_succ, List.length_cons, List.length_nil, M_length, Option.map_some, Option.map_none, hsa, hs', ia])]
        generalize c + a[i] = z
        have hfl : f.length < 4096 := by (first | lia | omega)
        rw [exs_step (σ₁ := [.val (.lst (M a)), .val (.lst (M b)), .val (.int w), .own (M (f ++ [z % B])), .val (.int (z : Nat)), .val (.int mask), .val (.int (i : Nat))]) (by simp [exs, ex, ev, evs, evt, evr, mbin, mcmp, icmp, ibin, MR.mv, MR.slot, live, held, lentAt, put, puts, relist, Slot.items?, Slot.list?, MV.items?, short, List.getElem?_cons_zero, List.getElem?_cons_succ, List.set_cons_zero, List.set_cons_succ, List.length_cons, List.length_nil, M_length, Option.map_some, Option.map_none, hfl, hand])]
        simp [exs, ex, ev, evs, evt, evr, mbin, mcmp, icmp, ibin, MR.mv, MR.slot, live, held, lentAt, put, puts, relist, Slot.items?, Slot.list?, MV.items?, short, List.getElem?_cons_zero, List.getElem?_cons_succ, List.set_cons_zero, List.set_cons_succ, List.length_cons, List.length_nil, M_length, Option.map_some, Option.map_none, hshr]
      · rw [r3, hv, val_take_succ (d := a) hi, take_len (d := b) hbi, take_len (d := b) (by (first | lia | omega))]; (first | lia | omega)) (σ := [.val (.lst (M a)), .val (.lst (M b)), .val (.int w), .own (M f1), .val (.int c1), .val (.int mask), s61])
    ⟨f1, c1, s61, n1, rfl, q1, q2, q3, q4⟩
  rw [take_len (Nat.le_refl _), take_len hl] at p4
  have w0 : ¬ ((w : Int) < 0) := by (first | lia | omega)
  have w1 : (w : Int) < 64 := by (first | lia | omega)
  have u0 : -4096 < (b.length : Int) := by (first | lia | omega)
  have u1 : (b.length : Int) < 4096 := by (first | lia | omega)
  have u2 : (a.length : Int) < 4096 := by (first | lia | omega)
  have u3 : -4096 < (a.length : Int) := by (first | lia | omega)
  have u4 : (a.length : Int) - b.length < 4096 := by (first | lia | omega)
  have l1 : (rangeUp 0 (b.length : Int)).length < 4096 := by rw [rangeUp, List.length_map, List.length_range]; (first | lia | omega)
  have l2 : (rangeUp (b.length : Int) (a.length : Int)).length < 4096 := by rw [rangeUp, List.length_map, List.length_range]; (first | lia | omega)
  have sm : small 1 = true := by decide
  have body : exs P ln ir_add.body.tail [.val (.lst (M a)), .val (.lst (M b)), .val (.int w), .unset, .unset, .unset, .unset] = exs P ln [.ite (.cmp .gt (.var 4) (.int 0)) [.append 3 (.var 4)] [], .ret (.var 3)] [.val (.lst (M a)), .val (.lst (M b)), .val (.int w), .own (M f2), .val (.int c2), .val (.int mask), s62] := by
    unfold ir_add
    simp only [List.tail_cons]
    rw [exs_step (σ₁ := [.val (.lst (M a)), .val (.lst (M b)), .val (.int w), .own (M []), .val (.int (0 : Nat)), .val (.int mask), .unset]) (by simp [exs, ex, ev, evs, evt, evr, mbin, mcmp, icmp, ibin, MR.mv, MR.slot, live, held, lentAt, put, puts, relist, Slot.items?, Slot.list?, MV.items?, short, List.getElem?_cons_zero, List.getElem?_cons_succ, List.set_cons_zero, List.set_cons_succ, List.length_cons, List.length_nil, M_length, Option.map_some, Option.map_none, sm, w0, w1, hmi])]
    rw [exs_step (σ₁ := [.val (.lst (M a)), .val (.lst (M b)), .val (.int w), .own (M f1), .val (.int c1), .val (.int mask), s61]) (by rw [ex]; simp [evt, ev, Slot.items?, MV.items?, short, hs', u0, u1, l1]; exact e1)]
    rw [exs_step (σ₁ := [.val (.lst (M a)), .val (.lst (M b)), .val (.int w), .own (M f2), .val (.int c2), .val (.int mask), s62]) (by rw [ex]; simp [evt, ev, Slot.items?, MV.items?, short, hs', hsa, u0, u1, u2, u3, u4, l2]; exact e2)]
  have hf2 : f2.length < 4096 := by (first | lia | omega)
  by_cases hc : c2 = 0
  · subst hc
    refine ⟨f2, [.val (.lst (M a)), .val (.lst (M b)), .val (.int w), .val (.lst (M f2)), .val (.int (0 : Nat)), .val (.int mask), s62], p2, by (first | lia | omega), .inl p1, ?_⟩
    rw [body]
    simp [exs, ex, ev, evs, evt, evr, mbin, mcmp, icmp, ibin, MR.mv, MR.slot, live, held, lentAt, put, puts, relist, Slot.items?, Slot.list?, MV.items?, short, List.getElem?_cons_zero, List.getElem?_cons_succ, List.set_cons_zero, List.set_cons_succ, List.length_cons, List.length_nil, M_length, Option.map_some, Option.map_none]
  · have hc1 : c2 = 1 := by (first | lia | omega)
    subst hc1
    refine ⟨f2 ++ [1], [.val (.lst (M a)), .val (.lst (M b)), .val (.int w), .val (.lst (M (f2 ++ [1]))), .val (.int (1 : Nat)), .val (.int mask), s62], dig_snoc p2 (by (first | lia | omega)), ?_, .inr ⟨by simp [p1], by simp [Nrm]⟩, ?_⟩
    · rw [val_snoc, p1]; (first | lia | omega)
    · rw [body]
      simp [exs, ex, ev, evs, evt, evr, mbin, mcmp, icmp, ibin, MR.mv, MR.slot, live, held, lentAt, put, puts, relist, Slot.items?, Slot.list?, MV.items?, short, List.getElem?_cons_zero, List.getElem?_cons_succ, List.set_cons_zero, List.set_cons_succ, List.length_cons, List.length_nil, M_length, Option.map_some, Option.map_none, hf2]
end Mine

end
-- PureD
section
set_option autoImplicit false
set_option maxRecDepth 100000
set_option linter.all false
set_option backward.match.sparseCases false
set_option bootstrap.genMatcherCode false
namespace Mine

theorem N_len {B : Nat} (hB : 2 ≤ B) {x n : Nat} (h : x < B ^ n) : (N B x).length ≤ n := by
  rcases Nat.lt_or_ge n (N B x).length with q | q
  · obtain ⟨m, hm⟩ : ∃ m, (N B x).length = m + 1 := ⟨(N B x).length - 1, by (first | lia | omega)⟩
    have h1 := nrm_ge hB hm (N_nrm hB x)
    rw [N_val hB] at h1
    have h2 : B ^ n ≤ B ^ m := Nat.pow_le_pow_right (by (first | lia | omega)) (by (first | lia | omega))
    (first | lia | omega)
  · exact q
theorem big_lt {B x n : Nat} (hB : 2 ≤ B) (h : x < 2 ^ n) : x < B ^ n := Nat.lt_of_lt_of_le h (Nat.pow_le_pow_left hB n)
/-- numbers below 2^20 have few limbs -/
theorem N_few {B : Nat} (hB : 2 ≤ B) {x : Nat} (h : x < 1048576) : (N B x).length ≤ 20 := N_len hB (big_lt hB (by simpa using h))

theorem add_spec (k : Nat) {w : Nat} (hw : 1 ≤ w) (hw' : w < 32) {x y : Nat} (hx : x < 1048576) (hy : y < 1048576) :
    Phi tab (k + 1) 2 [.lst (M (N (2 ^ w) x)), .lst (M (N (2 ^ w) y)), .int w] = some (.lst (M (N (2 ^ w) (x + y))), []) := by
  have hB := two_le_pow hw
  have lx := N_few hB hx
  have ly := N_few hB hy
  rw [phi_succ k 2 _ (fd := ir_add) rfl]
  have fin : ∀ (a b r : List Nat), Dig (2 ^ w) a → Nrm a → Dig (2 ^ w) r → val (2 ^ w) r = val (2 ^ w) a + val (2 ^ w) b → (r.length = a.length ∨ (r.length = a.length + 1 ∧ Nrm r)) → r = N (2 ^ w) (val (2 ^ w) a + val (2 ^ w) b) := by
    intro a b r ha na hr hv hl
    refine N_unique hB hr ?_ hv
    rcases hl with hl | ⟨_, h⟩
    · cases hn : a.length with
      | zero =>
        have : r = [] := List.eq_nil_of_length_eq_zero (by (first | lia | omega))
        subst this; simp [Nrm]
      | succ n =>
        have := nrm_ge hB hn na
        exact nrm_of_ge hB hr (hl.trans hn) (by (first | lia | omega))
    · exact h
  by_cases h : (N (2 ^ w) x).length < (N (2 ^ w) y).length
  · obtain ⟨r, σ', h1, h2, h3, h4⟩ := add_core (Phi tab k) (lnOf tab) hw hw' (a := N (2 ^ w) y) (b := N (2 ^ w) x) (by (first | lia | omega)) (by (first | lia | omega)) (N_dig hB y) (N_dig hB x)
    have := fin _ _ r (N_dig hB y) (N_nrm hB y) h1 h2 h3
    rw [N_val hB, N_val hB, Nat.add_comm] at this
    subst this
    refine run_plain (σ₁ := σ') rfl (by decide) rfl ?_
    show exs _ _ (ir_add.body.head (by simp [ir_add]) :: ir_add.body.tail) [.val (.lst (M (N (2 ^ w) x))), .val (.lst (M (N (2 ^ w) y))), .val (.int w), .unset, .unset, .unset, .unset] = _
    rw [exs_step (σ₁ := [.val (.lst (M (N (2 ^ w) y))), .val (.lst (M (N (2 ^ w) x))), .val (.int w), .unset, .unset, .unset, .unset]), h4]
    have q1 : (N (2 ^ w) x).length < 4096 := by (first | lia | omega)
    have q2 : (N (2 ^ w) y).length < 4096 := by (first | lia | omega)
    have q3 : ((N (2 ^ w) x).length : Int) < (N (2 ^ w) y).length := by (first | lia | omega)
    simp only [N] at q1 q2 q3
    simp [ir_add, exs, ex, ev, evs, evt, evr, mbin, mcmp, icmp, ibin, MR.mv, MR.slot, live, held, lentAt, put, puts, relist, Slot.items?, Slot.list?, MV.items?, short, List.getElem?_cons_zero, List.getElem?_cons_succ, List.set_cons_zero, List.set_cons_succ, List.length_cons, List.length_nil, M_length, Option.map_some, Option.map_none, q1, q2, q3]
  · obtain ⟨r, σ', h1, h2, h3, h4⟩ := add_core (Phi tab k) (lnOf tab) hw hw' (a := N (2 ^ w) x) (b := N (2 ^ w) y) (by (first | lia | omega)) (by (first | lia | omega)) (N_dig hB x) (N_dig hB y)
    have := fin _ _ r (N_dig hB x) (N_nrm hB x) h1 h2 h3
    rw [N_val hB, N_val hB] at this
    subst this
    refine run_plain (σ₁ := σ') rfl (by decide) rfl ?_
    show exs _ _ (ir_add.body.head (by simp [ir_add]) :: ir_add.body.tail) [.val (.lst (M (N (2 ^ w) x))), .val (.lst (M (N (2 ^ w) y))), .val (.int w), .unset, .unset, .unset, .unset] = _
    rw [exs_step (σ₁ := [.val (.lst (M (N (2 ^ w) x))), .val (.lst (M (N (2 ^ w) y))), .val (.int w), .unset, .unset, .unset, .unset]), h4]
    have q1 : (N (2 ^ w) x).length < 4096 := by (first | lia | omega)
    have q2 : (N (2 ^ w) y).length < 4096 := by (first | lia | omega)
    have q3 : ¬ ((N (2 ^ w) x).length : Int) < (N (2 ^ w) y).length := by (first | lia | omega)
    simp only [N] at q1 q2 q3
    simp [ir_add, exs, ex, ev, evs, evt, evr, mbin, mcmp, icmp, ibin, MR.mv, MR.slot, live, held, lentAt, put, puts, relist, Slot.items?, Slot.list?, MV.items?, short, List.getElem?_cons_zero, List.getElem?_cons_succ, List.set_cons_zero, List.set_cons_succ, List.length_cons, List.length_nil, M_length, Option.map_some, Option.map_none, q1, q2, q3]

theorem compare_N (k : Nat) {B : Nat} (hB : 2 ≤ B) {x y : Nat} (hx : x < 1048576) (hy : y < 1048576) : Phi tab (k + 1) 1 [.lst (M (N B x)), .lst (M (N B y))] = some (.int (cmpZ x y), []) := by
  have := compare_spec k hB (a := N B x) (b := N B y) (by have := N_few hB hx; (first | lia | omega)) (by have := N_few hB hy; (first | lia | omega)) (N_dig hB x) (N_dig hB y) (N_nrm hB x) (N_nrm hB y)
  rwa [N_val hB, N_val hB] at this

theorem cmpZ_neg {x y : Nat} : cmpZ x y < 0 ↔ x < y := by
  unfold cmpZ
  split
  · simp [*]
  · split
    · simp; (first | lia | omega)
    · simp; (first | lia | omega)
theorem cmpZ_nonneg {x y : Nat} : 0 ≤ cmpZ x y ↔ y ≤ x := by
  unfold cmpZ
  split
  · simp; (first | lia | omega)
  · split
    · simp; (first | lia | omega)
    · simp; (first | lia | omega)
theorem cmpZ_pos {x y : Nat} : 0 < cmpZ x y ↔ y < x := by
  unfold cmpZ
  split
  · simp; (first | lia | omega)
  · split
    · simp; (first | lia | omega)
    · simp; (first | lia | omega)

theorem sub_spec (k : Nat) {w : Nat} (hw : 1 ≤ w) (hw' : w < 32) {x y : Nat} (hx : x < 1048576) (hxy : y ≤ x) :
    Phi tab (k + 2) 3 [.lst (M (N (2 ^ w) x)), .lst (M (N (2 ^ w) y)), .int w] = some (.lst (M (N (2 ^ w) (x - y))), []) := by
  have hB := two_le_pow hw
  rw [phi_succ (k + 1) 3 _ (fd := ir_sub) rfl]
  have hcmp := compare_N k hB hx (show y < 1048576 by (first | lia | omega))
  have lx := N_few hB hx
  have ly := N_few hB (show y < 1048576 by (first | lia | omega))
  have da := N_dig hB x
  have db := N_dig hB y
  have va := N_val hB x
  have vb := N_val hB y
  have hlen : (N (2 ^ w) y).length ≤ (N (2 ^ w) x).length := by
    rcases Nat.lt_or_ge (N (2 ^ w) x).length (N (2 ^ w) y).length with q | q
    · have := val_lt_of_len hB da (N_nrm hB y) q
      (first | lia | omega)
    · exact q
  have hpow : (2 : Int) ^ w = ((2 ^ w : Nat) : Int) := by push_cast; rfl
  have hsub0 : ∀ d : List Nat, d.length < 4096 → Dig (2 ^ w) d → val (2 ^ w) d = x - y → Phi tab (k + 1) 0 [.lst (M d)] = some (.lst (M (N (2 ^ w) (x - y))), []) := fun d h1 h2 h3 => normal_N k hB h1 h2 h3
  generalize N (2 ^ w) x = a at *
  generalize N (2 ^ w) y = b at *
  generalize 2 ^ w = B at *
  let P := Phi tab (k + 1)
  have hsa : a.length < 4096 := by (first | lia | omega)
  have hsb : b.length < 4096 := by (first | lia | omega)
  let I : Nat → Store → Prop := fun i σ => ∃ (f : List Nat) (br : Nat) (s6 s7 : Slot), NotLent s6 ∧ NotLent s7 ∧ σ = [.val (.lst (M a)), .val (.lst (M b)), .val (.int w), .own (M f), .val (.int br), .val (.int B), s6, s7] ∧ f.length = i ∧ Dig B f ∧ br ≤ 1 ∧
    val B f + val B (b.take i) = val B (a.take i) + B ^ i * br
  obtain ⟨σ₁, e1, ⟨f, br, s6, s7, n6, n7, rfl, q1, q2, q3, q4⟩⟩ := for_up (x := 6) (a := 0) (b := a.length) (body := exs P (lnOf tab) [.assign 7 (.bin .sub (.bin .sub (.idxv 0 (.var 6)) (.var 4)) (.ite (.cmp .lt (.var 6) (.lenv 1)) (.idxv 1 (.var 6)) (.int 0))), .assign 4 (.ite (.cmp .lt (.var 7) (.int 0)) (.int 1) (.int 0)), .append 3 (.ite (.cmp .lt (.var 7) (.int 0)) (.bin .add (.var 7) (.var 5)) (.var 7))]) I (by (first | lia | omega))
    (by
      rintro i σ _ hi ⟨f, br, s6, s7, n6, n7, rfl, hf, hd, hc, hv⟩
      have ia : pyIdx (M a) (i : Int) = some (.int (a[i] : Nat)) := by rw [pyIdx_nat, M_at hi]
      have xa := da a[i] (List.getElem_mem _)
      have hfl : f.length < 4096 := by (first | lia | omega)
      obtain ⟨z, hz, hzb, hzt⟩ : ∃ z : Nat, ev P (lnOf tab) (.ite (.cmp .lt (.var 6) (.lenv 1)) (.idxv 1 (.var 6)) (.int 0)) [.val (.lst (M a)), .val (.lst (M b)), .val (.int w), .own (M f), .val (.int br), .val (.int B), .val (.int (i : Nat)), s7] =
          some (.val (.int (z : Nat)), [.val (.lst (M a)), .val (.lst (M b)), .val (.int w), .own (M f), .val (.int br), .val (.int B), .val (.int (i : Nat)), s7]) ∧ z < B ∧ val B (b.take (i + 1)) = val B (b.take i) + B ^ i * z := by
        by_cases hb : i < b.length
        · have ib : pyIdx (M b) (i : Int) = some (.int (b[i] : Nat)) := by rw [pyIdx_nat, M_at hb]
          have hlt : (i : Int) < (b.length : Nat) := by (first | lia | omega)
          exact ⟨b[i], by simp [exs, ex, ev, evs, evt, evr, mbin, mcmp, icmp, ibin, MR.mv, MR.slot, live, held, lentAt, put, puts, relist, Slot.items?, Slot.list?, MV.items?, short, List.getElem?_cons_zero, List.getElem?_cons_succ, List.set_cons_zero, List.set_cons_succ, List.length_cons, List.length_nil, M_length, Option.map_some, Option.map_none, hsb, ib, hlt], db b[i] (List.getElem_mem _), val_take_succ hb⟩
        · have hlt : ¬ (i : Int) < (b.length : Nat) := by (first | lia | omega)
          exact ⟨0, by simp [exs, ex, ev, evs, evt, evr, mbin, mcmp, icmp, ibin, MR.mv, MR.slot, live, held, lentAt, put, puts, relist, Slot.items?, Slot.list?, MV.items?, short, List.getElem?_cons_zero, List.getElem?_cons_succ, List.set_cons_zero, List.set_cons_succ, List.length_cons, List.length_nil, M_length, Option.map_some, Option.map_none, hsb, hlt], by (first | lia | omega), by rw [take_len (by (first | lia | omega)), take_len (by (first | lia | omega))]; (first | lia | omega)⟩
      obtain ⟨L, hL⟩ : ∃ L : Int, L = (a[i] : Nat) - (br : Nat) - (z : Nat) := ⟨_, rfl⟩
      have s1 : ex P (lnOf tab) (.assign 7 (.bin .sub (.bin .sub (.idxv 0 (.var 6)) (.var 4)) (.ite (.cmp .lt (.var 6) (.lenv 1)) (.idxv 1 (.var 6)) (.int 0)))) [.val (.lst (M a)), .val (.lst (M b)), .val (.int w), .own (M f), .val (.int br), .val (.int B), .val (.int (i : Nat)), s7] =
          some (.next, [.val (.lst (M a)), .val (.lst (M b)), .val (.int w), .own (M f), .val (.int br), .val (.int B), .val (.int (i : Nat)), .val (.int L)]) := by
        have hput : put [.val (.lst (M a)), .val (.lst (M b)), .val (.int w), .own (M f), .val (.int br), .val (.int B), .val (.int (i : Nat)), s7] 7 (.val (.int L)) = some [.val (.lst (M a)), .val (.lst (M b)), .val (.int w), .own (M f), .val (.int br), .val (.int B), .val (.int (i : Nat)), .val (.int L)] := put_at (t := s7) rfl n7
        have hx1 : ev P (lnOf tab) (.bin .sub (.idxv 0 (.var 6)) (.var 4)) [.val (.lst (M a)), .val (.lst (M b)), .val (.int w), .own (M f), .val (.int br), .val (.int B), .val (.int (i : Nat)), s7] =
            some (.val (.int ((a[i] : Nat) - (br : Nat))), [.val (.lst (M a)), .val (.lst (M b)), .val (.int w), .own (M f), .val (.int br), .val (.int B), .val (.int (i : Nat)), s7]) := by
          simp [exs, ex, ev, evs, evt, evr, mbin, mcmp, icmp, ibin, MR.mv, MR.slot, live, held, lentAt, put, puts, relist, Slot.items?, Slot.list?, MV.items?, short, List.getElem?_cons_zero, List.getElem?_cons_succ, List.set_cons_zero, List.set_cons_succ, List.length_cons, List.length_nil, M_length, Option.map_some, Option.map_none, hsa, ia]
        rw [ex, ev, hx1]
        dsimp only
        rw [hz]
        simp only [MR.mv, mbin, ibin, Option.map_some, ← hL, MR.slot, hput]
      by_cases hneg : L < 0
      · obtain ⟨t, ht⟩ : ∃ t : Nat, L + B = (t : Nat) := ⟨(L + B).toNat, by (first | lia | omega)⟩
        refine ⟨[.val (.lst (M a)), .val (.lst (M b)), .val (.int w), .own (M f), .val (.int br), .val (.int B), .val (.int (i : Nat)), s7], _, put_at (t := s6) rfl n6, ?_, f ++ [t], 1, .val (.int (i : Nat)), .val (.int L), nl_val _, nl_val _, rfl, by simp [hf], dig_snoc hd (by (first | lia | omega)), by (first | lia | omega), ?_⟩
        · rw [exs_step s1]
          rw [exs_step (σ₁ := [.val (.lst (M a)), .val (.lst (M b)), .val (.int w), .own (M f), .val (.int (1 : Nat)), .val (.int B), .val (.int (i : Nat)), .val (.int L)]) (by simp [exs, ex, ev, evs, evt, evr, mbin, mcmp, icmp, ibin, MR.mv, MR.slot, live, held, lentAt, put, puts, relist, Slot.items?, Slot.list?, MV.items?, short, List.getElem?_cons_zero, List.getElem?_cons_succ, List.set_cons_zero, List.set_cons_succ, List.length_cons, List.length_nil, M_length, Option.map_some, Option.map_none, hneg])]
          simp [exs, ex, ev, evs, evt, evr, mbin, mcmp, icmp, ibin, MR.mv, MR.slot, live, held, lentAt, put, puts, relist, Slot.items?, Slot.list?, MV.items?, short, List.getElem?_cons_zero, List.getElem?_cons_succ, List.set_cons_zero, List.set_cons_succ, List.length_cons, List.length_nil, M_length, Option.map_some, Option.map_none, hneg, ht, hfl]
        · rw [val_snoc, hzt, hf, val_take_succ hi, Nat.pow_succ]
          have h1 : t + z + br = a[i] + B := by (first | lia | omega)
          have h2 : B ^ i * (t + z + br) = B ^ i * (a[i] + B) := by rw [h1]
          rw [Nat.mul_add, Nat.mul_add, Nat.mul_add] at h2
          (first | lia | omega)
      · obtain ⟨t, ht⟩ : ∃ t : Nat, L = (t : Nat) := ⟨L.toNat, by (first | lia | omega)⟩
        refine ⟨[.val (.lst (M a)), .val (.lst (M b)), .val (.int w), .own (M f), .val (.int br), .val (.int B), .val (.int (i : Nat)), s7], _, put_at (t := s6) rfl n6, ?_, f ++ [t], 0, .val (.int (i : Nat)), .val (.int L), nl_val _, nl_val _, rfl, by simp [hf], dig_snoc hd (by (first | lia | omega)), by (first | lia | omega), ?_⟩
        · rw [exs_step s1]
          rw [exs_step (σ₁ := [.val (.lst (M a)), .val (.lst (M b)), .val (.int w), .own (M f), .val (.int (0 : Nat)), .val (.int B), .val (.int (i : Nat)), .val (.int L)]) (by simp [exs, ex, ev, evs, evt, evr, mbin, mcmp, icmp, ibin, MR.mv, MR.slot, live, held, lentAt, put, puts, relist, Slot.items?, Slot.list?, MV.items?, short, List.getElem?_cons_zero, List.getElem?_cons_succ, List.set_cons_zero, List.set_cons_succ, List.length_cons, List.length_nil, M_length, Option.map_some, Option.map_none, hneg])]
          have ht0 : ¬ ((t : Nat) : Int) < 0 := by (first | lia | omega)
          simp [exs, ex, ev, evs, evt, evr, mbin, mcmp, icmp, ibin, MR.mv, MR.slot, live, held, lentAt, put, puts, relist, Slot.items?, Slot.list?, MV.items?, short, List.getElem?_cons_zero, List.getElem?_cons_succ, List.set_cons_zero, List.set_cons_succ, List.length_cons, List.length_nil, M_length, Option.map_some, Option.map_none, hneg, ht, hfl, ht0]
        · rw [val_snoc, hzt, hf, val_take_succ hi]
          have h1 : t + z + br = a[i] := by (first | lia | omega)
          have h2 : B ^ i * (t + z + br) = B ^ i * a[i] := by rw [h1]
          rw [Nat.mul_add, Nat.mul_add] at h2
          (first | lia | omega))
    (σ := [.val (.lst (M a)), .val (.lst (M b)), .val (.int w), .own (M []), .val (.int (0 : Nat)), .val (.int B), .unset, .unset])
    ⟨[], 0, .unset, .unset, nl_unset, nl_unset, rfl, rfl, by intro c hc; simp at hc, by (first | lia | omega), by simp [val]⟩
  rw [take_len (Nat.le_refl _), take_len hlen, va, vb] at q4
  have hfB : val B f < B ^ a.length := by have := val_lt (by (first | lia | omega)) q2; rwa [q1] at this
  have hbr : br = 0 := by
    rcases Nat.lt_or_ge br 1 with h | h
    · (first | lia | omega)
    · have : br = 1 := by (first | lia | omega)
      subst this; (first | lia | omega)
  have hfv : val B f = x - y := by subst hbr; (first | lia | omega)
  have hnorm := hsub0 f (by (first | lia | omega)) q2 hfv
  refine run_plain (σ₁ := [.val (.lst (M a)), .val (.lst (M b)), .val (.int w), .val (.lst (M f)), .val (.int br), .val (.int B), s6, s7]) rfl (by decide) rfl ?_
  show exs P _ ir_sub.body [.val (.lst (M a)), .val (.lst (M b)), .val (.int w), .unset, .unset, .unset, .unset, .unset] = _
  have w0 : ¬ ((w : Int) < 0) := by (first | lia | omega)
  have w1 : (w : Int) < 64 := by (first | lia | omega)
  have u2 : (a.length : Int) < 4096 := by (first | lia | omega)
  have u3 : -4096 < (a.length : Int) := by (first | lia | omega)
  have l1 : (rangeUp 0 (a.length : Int)).length < 4096 := by rw [rangeUp, List.length_map, List.length_range]; (first | lia | omega)
  have sm : small 1 = true := by decide
  have hc0 : ¬ cmpZ x y < 0 := by rw [cmpZ_neg]; (first | lia | omega)
  have ln1 : lnOf tab 1 = false := by decide
  have ln0 : lnOf tab 0 = false := by decide
  unfold ir_sub
  simp only
  rw [exs_step (σ₁ := [.val (.lst (M a)), .val (.lst (M b)), .val (.int w), .unset, .unset, .unset, .unset, .unset]) (by simp [exs, ex, ev, evs, evt, evr, mbin, mcmp, icmp, ibin, MR.mv, MR.slot, live, held, lentAt, put, puts, relist, Slot.items?, Slot.list?, MV.items?, short, List.getElem?_cons_zero, List.getElem?_cons_succ, List.set_cons_zero, List.set_cons_succ, List.length_cons, List.length_nil, M_length, Option.map_some, Option.map_none, ln1, P, hcmp, hc0])]
  rw [exs_step (σ₁ := [.val (.lst (M a)), .val (.lst (M b)), .val (.int w), .own (M []), .val (.int (0 : Nat)), .val (.int B), .unset, .unset]) (by simp [exs, ex, ev, evs, evt, evr, mbin, mcmp, icmp, ibin, MR.mv, MR.slot, live, held, lentAt, put, puts, relist, Slot.items?, Slot.list?, MV.items?, short, List.getElem?_cons_zero, List.getElem?_cons_succ, List.set_cons_zero, List.set_cons_succ, List.length_cons, List.length_nil, M_length, Option.map_some, Option.map_none, sm, w0, w1, hpow])]
  rw [exs_step (σ₁ := [.val (.lst (M a)), .val (.lst (M b)), .val (.int w), .own (M f), .val (.int br), .val (.int B), s6, s7]) (by rw [ex]; simp [evt, ev, Slot.items?, MV.items?, short, hsa, u2, u3, l1]; exact e1)]
  refine exs_ret ?_
  rw [ex]
  simp [ev, evs, ln0, P, hnorm, MR.mv]
end Mine

end
-- PureE
section
set_option autoImplicit false
set_option maxRecDepth 100000
set_option linter.all false
set_option backward.match.sparseCases false
set_option bootstrap.genMatcherCode false
namespace Mine

theorem zeros_eq (n : Nat) : (List.replicate n [MV.int 0]).flatten = M (List.replicate n 0) := by
  induction n with
  | zero => rfl
  | succ n ih => rw [List.replicate_succ, List.flatten_cons, ih, List.replicate_succ]; rfl
theorem val_zeros (B n : Nat) : val B (List.replicate n 0) = 0 := by
  induction n with
  | zero => rfl
  | succ n ih => rw [List.replicate_succ, val, ih]; simp
theorem dig_zeros {B : Nat} (hB : 2 ≤ B) (n : Nat) : Dig B (List.replicate n 0) := by
  intro c hc; rw [List.mem_replicate] at hc; (first | lia | omega)

theorem small_nat {x : Nat} (h : x < 4294967296) : small (x : Int) = true := by
  simp only [small, Bool.and_eq_true, decide_eq_true_eq]; (first | lia | omega)

theorem set_zero {g : List Nat} {n p : Nat} {v : Nat} (h : ∀ p c, n ≤ p → g[p]? = some c → c = 0) (hp : p < n) : ∀ q c, n ≤ q → (g.set p v)[q]? = some c → c = 0 := by
  intro q c hq e
  rw [List.getElem?_set_ne (by (first | lia | omega))] at e
  exact h q c hq e

theorem ib_add (x y : Int) : ibin .add x y = some (x + y) := rfl
theorem ib_sub (x y : Int) : ibin .sub x y = some (x - y) := rfl
theorem ib_mul {x y : Int} (hx : small x = true) (hy : small y = true) : ibin .mul x y = some (x * y) := by
  have : ibin .mul x y = if small x && small y then some (x * y) else none := rfl
  rw [this, hx, hy]
  rfl
theorem cast_sum (x y z : Nat) : (x : Int) + ((y : Int) * (z : Int)) = ((x + y * z : Nat) : Int) := by push_cast; rfl
theorem cast_add (x y : Nat) : (x : Int) + (y : Int) = ((x + y : Nat) : Int) := rfl

theorem ev_bin {P : Fns} {ln : Nat → Bool} {o : Bop} {a b : IE} {σ σ₁ σ₂ : Store} {x y r : MR} (h1 : ev P ln a σ = some (x, σ₁)) (h2 : ev P ln b σ₁ = some (y, σ₂)) (h3 : mbin o x.mv y.mv = some r) : ev P ln (.bin o a b) σ = some (r, σ₂) := by
  rw [ev, h1]
  simp only [h2, h3, Option.map_some]
theorem mb_add (g x y : Nat) : mbin .add (MR.val (.int (g : Nat))).mv (MR.val (.int ((x : Int) * (y : Int)))).mv = some (.val (.int ((g + x * y : Nat)))) := by
  simp only [MR.mv, mbin, ib_add, Option.map_some, cast_sum]

theorem mul_step (P : Fns) (ln : Nat → Bool) (a b g : List Nat) (w mask i j c ai bj gi: Nat) (sa : small (ai : Int) = true) (sb : small (bj : Int) = true) (hgl : g.length < 4096) (ig : pyIdx (M g) ((i : Int) + (j : Int)) = some (.int (gi : Nat))) : 
    ex P ln (.aug 7 .add (.bin .add (.idxv 3 (.bin .add (.var 5) (.var 8))) (.bin .mul (.var 6) (.var 9)))) [.val (.lst (M a)), .val (.lst (M b)), .val (.int w), .own (M g), .val (.int mask), .val (.int i), .val (.int ai), .val (.int (c : Nat)), .val (.int (j : Nat)), .val (.int (bj : Nat))] =
      some (.next, [.val (.lst (M a)), .val (.lst (M b)), .val (.int w), .own (M g), .val (.int mask), .val (.int i), .val (.int ai), .val (.int ((c + (gi + ai * bj) : Nat))), .val (.int (j : Nat)), .val (.int (bj : Nat))]) := by
  have x1 : ev P ln (.bin .mul (.var 6) (.var 9)) [.val (.lst (M a)), .val (.lst (M b)), .val (.int w), .own (M g), .val (.int mask), .val (.int i), .val (.int ai), .val (.int (c : Nat)), .val (.int (j : Nat)), .val (.int (bj : Nat))] = some (.val (.int ((ai : Int) * (bj : Int))), [.val (.lst (M a)), .val (.lst (M b)), .val (.int w), .own (M g), .val (.int mask), .val (.int i), .val (.int ai), .val (.int (c : Nat)), .val (.int (j : Nat)), .val (.int (bj : Nat))]) := by
    simp [exs, ex, ev, evs, evt, evr, mbin, mcmp, icmp, MR.mv, MR.slot, live, held, lentAt, put, puts, relist, Slot.items?, Slot.list?, MV.items?, short, List.getElem?_cons_zero, List.getElem?_cons_succ, List.set_cons_zero, List.set_cons_succ, List.length_cons, List.length_nil, M_length, Option.map_some, Option.map_none, ib_mul sa sb]
  have x2 : ev P ln (.idxv 3 (.bin .add (.var 5) (.var 8))) [.val (.lst (M a)), .val (.lst (M b)), .val (.int w), .own (M g), .val (.int mask), .val (.int i), .val (.int ai), .val (.int (c : Nat)), .val (.int (j : Nat)), .val (.int (bj : Nat))] = some (.val (.int (gi : Nat)), [.val (.lst (M a)), .val (.lst (M b)), .val (.int w), .own (M g), .val (.int mask), .val (.int i), .val (.int ai), .val (.int (c : Nat)), .val (.int (j : Nat)), .val (.int (bj : Nat))]) := by
    simp [exs, ex, ev, evs, evt, evr, mbin, mcmp, icmp, MR.mv, MR.slot, live, held, lentAt, put, puts, relist, Slot.items?, Slot.list?, MV.items?, short, List.getElem?_cons_zero, List.getElem?_cons_succ, List.set_cons_zero, List.set_cons_succ, List.length_cons, List.length_nil, M_length, Option.map_some, Option.map_none, ib_add, ig, hgl]
  have x3 : ev P ln (.bin .add (.idxv 3 (.bin .add (.var 5) (.var 8))) (.bin .mul (.var 6) (.var 9))) [.val (.lst (M a)), .val (.lst (M b)), .val (.int w), .own (M g), .val (.int mask), .val (.int i), .val (.int ai), .val (.int (c : Nat)), .val (.int (j : Nat)), .val (.int (bj : Nat))] = some (.val (.int ((gi + ai * bj : Nat))), [.val (.lst (M a)), .val (.lst (M b)), .val (.int w), .own (M g), .val (.int mask), .val (.int i), .val (.int ai), .val (.int (c : Nat)), .val (.int (j : Nat)), .val (.int (bj : Nat))]) :=
    ev_bin x2 x1 (mb_add _ _ _)
  rw [ex]
  simp only [List.getElem?_cons_succ, List.getElem?_cons_zero, x3, ib_add]
  rw [put_at (t := .val (.int (c : Nat))) rfl (nl_val _), cast_add]
  rfl

theorem mul_inner (P : Fns) (ln : Nat → Bool) {w B : Nat} (hB : 2 ≤ B) (hB' : B < 65536) (hBw : 2 ^ w = B) {mask : Nat} (hand : ∀ z, z &&& mask = z % B) {a b f : List Nat} (hsa : a.length < 2000) (hsb : b.length < 2000)
    (db : Dig B b) (hf : f.length = a.length + b.length) (df : Dig B f) {i ai : Nat} (hi : i < a.length) (hai : ai < B) (hz : ∀ p c, i + b.length ≤ p → f[p]? = some c → c = 0) {s8 s9 : Slot} (n8 : NotLent s8) (n9 : NotLent s9) :
    ∃ g c s8' s9', NotLent s8' ∧ NotLent s9' ∧ forE 8 9 (exs P ln [.aug 7 .add (.bin .add (.idxv 3 (.bin .add (.var 5) (.var 8))) (.bin .mul (.var 6) (.var 9))), .setItem 3 (.bin .add (.var 5) (.var 8)) (.bin .band (.var 7) (.var 4)), .aug 7 .shr (.var 2)]) 0 (M b)
        [.val (.lst (M a)), .val (.lst (M b)), .val (.int w), .own (M f), .val (.int mask), .val (.int i), .val (.int ai), .val (.int (0 : Nat)), s8, s9] =
      some (.next, [.val (.lst (M a)), .val (.lst (M b)), .val (.int w), .own (M g), .val (.int mask), .val (.int i), .val (.int ai), .val (.int (c : Nat)), s8', s9']) ∧ g.length = f.length ∧ Dig B g ∧ c < B ∧
      val B g + B ^ (i + b.length) * c = val B f + B ^ i * (ai * val B b) ∧ (∀ p c, i + b.length ≤ p → g[p]? = some c → c = 0) := by
  have hshr : ∀ z : Nat, (z : Int).fdiv (2 ^ w) = ((z / B : Nat) : Int) := fun z => by rw [fdiv_pow, hBw]
  let J : Nat → Store → Prop := fun j σ => ∃ (g : List Nat) (c : Nat) (s8 s9 : Slot), NotLent s8 ∧ NotLent s9 ∧ σ = [.val (.lst (M a)), .val (.lst (M b)), .val (.int w), .own (M g), .val (.int mask), .val (.int i), .val (.int ai), .val (.int (c : Nat)), s8, s9] ∧
    g.length = f.length ∧ Dig B g ∧ c < B ∧ val B g + B ^ (i + j) * c = val B f + B ^ i * (ai * val B (b.take j)) ∧ (∀ p c, i + b.length ≤ p → g[p]? = some c → c = 0)
  obtain ⟨σ', e1, ⟨g, c, t8, t9, m8, m9, rfl, q1, q2, q3, q4, q5⟩⟩ := for_enum (x := 8) (y := 9) (body := exs P ln [.aug 7 .add (.bin .add (.idxv 3 (.bin .add (.var 5) (.var 8))) (.bin .mul (.var 6) (.var 9))), .setItem 3 (.bin .add (.var 5) (.var 8)) (.bin .band (.var 7) (.var 4)), .aug 7 .shr (.var 2)]) J (M b)
    (by
      rintro j v σ hv ⟨g, c, s8, s9, n8, n9, rfl, hg, hd, hc, hval, hzz⟩
      rw [M_get] at hv
      obtain ⟨bj, hbj, rfl⟩ := Option.map_eq_some_iff.mp hv
      obtain ⟨hj, rfl⟩ := List.getElem?_eq_some_iff.mp hbj
      have hij : i + j < g.length := by (first | lia | omega)
      have ig : pyIdx (M g) ((i : Int) + (j : Int)) = some (.int (g[i + j] : Nat)) := by
        rw [show (i : Int) + (j : Int) = ((i + j : Nat) : Int) from rfl, pyIdx_nat, M_at hij]
      have xg := hd g[i + j] (List.getElem_mem _)
      have xb := db b[j] (List.getElem_mem _)
      have hgl : g.length < 4096 := by (first | lia | omega)
      have sa : small (ai : Int) = true := small_nat (by (first | lia | omega))
      have sb : small ((b[j] : Nat) : Int) = true := small_nat (by (first | lia | omega))
      refine ⟨[.val (.lst (M a)), .val (.lst (M b)), .val (.int w), .own (M g), .val (.int mask), .val (.int i), .val (.int ai), .val (.int (c : Nat)), .val (.int (j : Nat)), .val (.int (b[j] : Nat))],
        [.val (.lst (M a)), .val (.lst (M b)), .val (.int w), .own (M (g.set (i + j) ((c + (g[i + j] + ai * b[j])) % B))), .val (.int mask), .val (.int i), .val (.int ai), .val (.int (((c + (g[i + j] + ai * b[j])) / B : Nat))), .val (.int (j : Nat)), .val (.int (b[j] : Nat))], ?_, ?_,
        g.set (i + j) ((c + (g[i + j] + ai * b[j])) % B), (c + (g[i + j] + ai * b[j])) / B, .val (.int (j : Nat)), .val (.int (b[j] : Nat)), nl_val _, nl_val _, rfl, ?_, ?_, ?_, ?_, ?_⟩
      · simp only [puts]
        rw [put_at (t := s8) rfl n8]
        simp only [List.set_cons_succ, List.set_cons_zero]
        rw [put_at (t := s9) rfl n9]
        rfl
      · rw [exs_step (σ₁ := [.val (.lst (M a)), .val (.lst (M b)), .val (.int w), .own (M g), .val (.int mask), .val (.int i), .val (.int ai), .val (.int ((c + (g[i + j] + ai * b[j]) : Nat))), .val (.int (j : Nat)), .val (.int (b[j] : Nat))]) (mul_step P ln a b g w mask i j c ai b[j] g[i + j] sa sb hgl ig)]
        generalize c + (g[i + j] + ai * b[j]) = z
        have h1 : (0 : Int) ≤ (i : Int) + (j : Int) := by (first | lia | omega)
        have h2 : (i : Int) + (j : Int) < (g.length : Nat) := by (first | lia | omega)
        have h3 : ((i : Int) + (j : Int)).toNat = i + j := by (first | lia | omega)
        rw [exs_step (σ₁ := [.val (.lst (M a)), .val (.lst (M b)), .val (.int w), .own (M (g.set (i + j) (z % B))), .val (.int mask), .val (.int i), .val (.int ai), .val (.int (z : Nat)), .val (.int (j : Nat)), .val (.int (b[j] : Nat))]) (by simp [exs, ex, ev, evs, evt, evr, mbin, mcmp, icmp, ibin, MR.mv, MR.slot, live, held, lentAt, put, puts, relist, Slot.items?, Slot.list?, MV.items?, short, List.getElem?_cons_zero, List.getElem?_cons_succ, List.set_cons_zero, List.set_cons_succ, List.length_cons, List.length_nil, M_length, Option.map_some, Option.map_none, hand, hgl, h1, h2, h3, Slot.list?, M_set])]
        simp [exs, ex, ev, evs, evt, evr, mbin, mcmp, icmp, ibin, MR.mv, MR.slot, live, held, lentAt, put, puts, relist, Slot.items?, Slot.list?, MV.items?, short, List.getElem?_cons_zero, List.getElem?_cons_succ, List.set_cons_zero, List.set_cons_succ, List.length_cons, List.length_nil, M_length, Option.map_some, Option.map_none, hshr]
      · rw [List.length_set]; exact hg
      · exact dig_set hd (Nat.mod_lt _ (by (first | lia | omega)))
      · rw [Nat.div_lt_iff_lt_mul (by (first | lia | omega))]
        obtain ⟨D, rfl⟩ : ∃ D, B = D + 1 := ⟨B - 1, by (first | lia | omega)⟩
        have h1 : ai * b[j] ≤ D * D := Nat.mul_le_mul (by (first | lia | omega)) (by (first | lia | omega))
        have h2 : (D + 1) * (D + 1) = D * D + D + D + 1 := by rw [Nat.mul_add, Nat.add_mul]; (first | lia | omega)
        (first | lia | omega)
      · have hset := val_set (B := B) (d := g) ((c + (g[i + j] + ai * b[j])) % B) hij
        rw [val_take_succ hj, show i + (j + 1) = (i + j) + 1 from by (first | lia | omega), Nat.pow_succ]
        have h1 := Nat.mod_add_div (c + (g[i + j] + ai * b[j])) B
        have h2 : B ^ (i + j) * ((c + (g[i + j] + ai * b[j])) % B + B * ((c + (g[i + j] + ai * b[j])) / B)) = B ^ (i + j) * (c + (g[i + j] + ai * b[j])) := by rw [h1]
        rw [Nat.mul_add, Nat.mul_add, Nat.mul_add, ← Nat.mul_assoc] at h2
        have h3 : B ^ i * (ai * (val B (b.take j) + B ^ j * b[j])) = B ^ i * (ai * val B (b.take j)) + B ^ (i + j) * (ai * b[j]) := by
          rw [Nat.mul_add, Nat.mul_add, Nat.pow_add, Nat.mul_left_comm ai (B ^ j), ← Nat.mul_assoc (B ^ i) (B ^ j)]
        rw [h3]
        (first | lia | omega)
      · exact set_zero hzz (by (first | lia | omega)))
    (σ := [.val (.lst (M a)), .val (.lst (M b)), .val (.int w), .own (M f), .val (.int mask), .val (.int i), .val (.int ai), .val (.int (0 : Nat)), s8, s9]) ⟨f, 0, s8, s9, n8, n9, rfl, rfl, df, by (first | lia | omega), by simp [val], hz⟩
  rw [M_length, List.take_length] at q4
  exact ⟨g, c, t8, t9, m8, m9, e1, q1, q2, q3, q4, q5⟩

theorem mul_spec (k : Nat) {w : Nat} (hw : 1 ≤ w) (hw' : w < 16) {x y : Nat} (hx : x < 1048576) (hy : y < 1048576) :
    Phi tab (k + 2) 20 [.lst (M (N (2 ^ w) x)), .lst (M (N (2 ^ w) y)), .int w] = some (.lst (M (N (2 ^ w) (x * y))), []) := by
  have hB := two_le_pow hw
  have hB' : 2 ^ w < 65536 := by
    have := Nat.pow_lt_pow_right (a := 2) (by (first | lia | omega)) hw'
    simpa using this
  rw [phi_succ (k + 1) 20 _ (fd := ir_mul_school) rfl]
  have lx := N_few hB hx
  have ly := N_few hB hy
  have da := N_dig hB x
  have db := N_dig hB y
  have va := N_val hB x
  have vb := N_val hB y
  obtain ⟨mask, hmask⟩ : ∃ m, m = 2 ^ w - 1 := ⟨_, rfl⟩
  have hand : ∀ z, z &&& mask = z % 2 ^ w := fun z => by rw [hmask, and_mask]
  have hmi : (2 : Int) ^ w - 1 = (mask : Nat) := by rw [hmask, mask_int]
  have hnorm0 : ∀ d : List Nat, d.length < 4096 → Dig (2 ^ w) d → val (2 ^ w) d = x * y → Phi tab (k + 1) 0 [.lst (M d)] = some (.lst (M (N (2 ^ w) (x * y))), []) := fun d h1 h2 h3 => normal_N k hB h1 h2 h3
  generalize N (2 ^ w) x = a at *
  generalize N (2 ^ w) y = b at *
  have hBw : 2 ^ w = 2 ^ w := rfl
  generalize hBd : 2 ^ w = B at *
  let P := Phi tab (k + 1)
  have hsa : a.length < 4096 := by (first | lia | omega)
  have hsb : b.length < 4096 := by (first | lia | omega)
  let I : Nat → Store → Prop := fun i σ => ∃ (f : List Nat) (s5 s6 s7 s8 s9 : Slot), NotLent s5 ∧ NotLent s6 ∧ NotLent s7 ∧ NotLent s8 ∧ NotLent s9 ∧ σ = [.val (.lst (M a)), .val (.lst (M b)), .val (.int w), .own (M f), .val (.int mask), s5, s6, s7, s8, s9] ∧
    f.length = a.length + b.length ∧ Dig B f ∧ val B f = val B (a.take i) * val B b ∧ (∀ p c, i + b.length ≤ p → f[p]? = some c → c = 0)
  obtain ⟨σ', e1, ⟨f, s5, s6, s7, s8, s9, n5, n6, n7, n8, n9, rfl, q1, q2, q3, q4⟩⟩ := for_enum (x := 5) (y := 6) (body := exs P (lnOf tab) [.assign 7 (.int 0), .for2 8 9 (.var 1) [.aug 7 .add (.bin .add (.idxv 3 (.bin .add (.var 5) (.var 8))) (.bin .mul (.var 6) (.var 9))), .setItem 3 (.bin .add (.var 5) (.var 8)) (.bin .band (.var 7) (.var 4)), .aug 7 .shr (.var 2)], .setItem 3 (.bin .add (.var 5) (.lenv 1)) (.var 7)]) I (M a)
    (by
      rintro i v σ hv ⟨f, s5, s6, s7, s8, s9, n5, n6, n7, n8, n9, rfl, hf, df, hval, hz⟩
      rw [M_get] at hv
      obtain ⟨ai, hai, rfl⟩ := Option.map_eq_some_iff.mp hv
      obtain ⟨hi, rfl⟩ := List.getElem?_eq_some_iff.mp hai
      have xa := da a[i] (List.getElem_mem _)
      obtain ⟨g, c, t8, t9, m8, m9, e2, r1, r2, r3, r4, r5⟩ := mul_inner P (lnOf tab) hB hB' hBd hand (a := a) (b := b) (f := f) (by (first | lia | omega)) (by (first | lia | omega)) db hf df hi xa hz n8 n9
      have hil : i + b.length < g.length := by (first | lia | omega)
      have hg0 : g[i + b.length] = 0 := r5 (i + b.length) _ (Nat.le_refl _) (List.getElem?_eq_getElem hil)
      refine ⟨[.val (.lst (M a)), .val (.lst (M b)), .val (.int w), .own (M f), .val (.int mask), .val (.int (i : Nat)), .val (.int (a[i] : Nat)), s7, s8, s9], 
        [.val (.lst (M a)), .val (.lst (M b)), .val (.int w), .own (M (g.set (i + b.length) c)), .val (.int mask), .val (.int (i : Nat)), .val (.int (a[i] : Nat)), .val (.int (c : Nat)), t8, t9], ?_, ?_,
        g.set (i + b.length) c, .val (.int (i : Nat)), .val (.int (a[i] : Nat)), .val (.int (c : Nat)), t8, t9, nl_val _, nl_val _, nl_val _, m8, m9, rfl, by rw [List.length_set]; (first | lia | omega), dig_set r2 r3, ?_, ?_⟩
      · simp only [puts]
        rw [put_at (t := s5) rfl n5]
        simp only [List.set_cons_succ, List.set_cons_zero]
        rw [put_at (t := s6) rfl n6]
        rfl
      · have hput : put [.val (.lst (M a)), .val (.lst (M b)), .val (.int w), .own (M f), .val (.int mask), .val (.int (i : Nat)), .val (.int (a[i] : Nat)), s7, s8, s9] 7 (.val (.int 0)) = some [.val (.lst (M a)), .val (.lst (M b)), .val (.int w), .own (M f), .val (.int mask), .val (.int (i : Nat)), .val (.int (a[i] : Nat)), .val (.int (0 : Nat)), s8, s9] := put_at (t := s7) rfl n7
        rw [exs_step (σ₁ := [.val (.lst (M a)), .val (.lst (M b)), .val (.int w), .own (M f), .val (.int mask), .val (.int (i : Nat)), .val (.int (a[i] : Nat)), .val (.int (0 : Nat)), s8, s9]) (by rw [ex]; simp only [ev, MR.slot, hput])]
        rw [exs_step (σ₁ := [.val (.lst (M a)), .val (.lst (M b)), .val (.int w), .own (M g), .val (.int mask), .val (.int (i : Nat)), .val (.int (a[i] : Nat)), .val (.int (c : Nat)), t8, t9]) (by rw [ex]; simp [ev, MR.mv, short, hsb]; exact e2)]
        have hgl : g.length < 4096 := by (first | lia | omega)
        have h1 : (0 : Int) ≤ (i : Int) + (b.length : Int) := by (first | lia | omega)
        have h2 : (i : Int) + (b.length : Int) < (g.length : Nat) := by (first | lia | omega)
        have h3 : ((i : Int) + (b.length : Int)).toNat = i + b.length := by (first | lia | omega)
        rw [exs_step (σ₁ := [.val (.lst (M a)), .val (.lst (M b)), .val (.int w), .own (M (g.set (i + b.length) c)), .val (.int mask), .val (.int (i : Nat)), .val (.int (a[i] : Nat)), .val (.int (c : Nat)), t8, t9]) (by simp [exs, ex, ev, evs, evt, evr, mbin, mcmp, icmp, ibin, MR.mv, MR.slot, live, held, lentAt, put, puts, relist, Slot.items?, Slot.list?, MV.items?, short, List.getElem?_cons_zero, List.getElem?_cons_succ, List.set_cons_zero, List.set_cons_succ, List.length_cons, List.length_nil, M_length, Option.map_some, Option.map_none, hgl, hsb, h1, h2, h3, Slot.list?, M_set])]
        rw [exs]
      · have hset := val_set (B := B) (d := g) c hil
        rw [hg0, Nat.mul_zero, Nat.add_zero] at hset
        rw [hset, r4, hval, val_take_succ hi, Nat.add_mul, Nat.mul_assoc]
      · intro p c' hp e
        rw [List.getElem?_set_ne (by (first | lia | omega))] at e
        exact r5 p c' (by (first | lia | omega)) e)
    (σ := [.val (.lst (M a)), .val (.lst (M b)), .val (.int w), .own (M (List.replicate (a.length + b.length) 0)), .val (.int mask), .unset, .unset, .unset, .unset, .unset])
    ⟨_, .unset, .unset, .unset, .unset, .unset, nl_unset, nl_unset, nl_unset, nl_unset, nl_unset, rfl, by simp, dig_zeros hB _, by rw [val_zeros]; simp [val], by
      intro p c _ e
      rw [List.getElem?_replicate] at e
      split at e
      · cases e; rfl
      · cases e⟩
  rw [M_length, List.take_length, va, vb] at q3
  have hnorm := hnorm0 f (by (first | lia | omega)) q2 q3
  refine run_plain (σ₁ := [.val (.lst (M a)), .val (.lst (M b)), .val (.int w), .val (.lst (M f)), .val (.int mask), s5, s6, s7, s8, s9]) rfl (by decide) rfl ?_
  show exs P _ ir_mul_school.body [.val (.lst (M a)), .val (.lst (M b)), .val (.int w), .unset, .unset, .unset, .unset, .unset, .unset, .unset] = _
  have w0 : ¬ ((w : Int) < 0) := by (first | lia | omega)
  have w1 : (w : Int) < 64 := by (first | lia | omega)
  have u1 : (a.length : Int) + (b.length : Int) < 4096 := by (first | lia | omega)
  have u2 : -4096 < (a.length : Int) + (b.length : Int) := by (first | lia | omega)
  have u3 : ((a.length : Int) + (b.length : Int)).toNat = a.length + b.length := by (first | lia | omega)
  have sm : small 1 = true := by decide
  have ln0 : lnOf tab 0 = false := by decide
  unfold ir_mul_school
  simp only
  rw [exs_step (σ₁ := [.val (.lst (M a)), .val (.lst (M b)), .val (.int w), .own (M (List.replicate (a.length + b.length) 0)), .val (.int mask), .unset, .unset, .unset, .unset, .unset]) (by simp [exs, ex, ev, evs, evt, evr, mbin, mcmp, icmp, ibin, MR.mv, MR.slot, live, held, lentAt, put, puts, relist, Slot.items?, Slot.list?, MV.items?, short, List.getElem?_cons_zero, List.getElem?_cons_succ, List.set_cons_zero, List.set_cons_succ, List.length_cons, List.length_nil, M_length, Option.map_some, Option.map_none, hsa, hsb, sm, w0, w1, hmi, u1, u2, u3, zeros_eq])]
  rw [exs_step (σ₁ := [.val (.lst (M a)), .val (.lst (M b)), .val (.int w), .own (M f), .val (.int mask), s5, s6, s7, s8, s9]) (by rw [ex]; simp only [ev, List.getElem?_cons_zero, MR.mv, show short (M a) = true by simp [short, hsa], if_true]; exact e1)]
  refine exs_ret ?_
  rw [ex]
  simp [ev, evs, ln0, P, hnorm, MR.mv]
end Mine

end
-- PureF
section
set_option autoImplicit false
set_option maxRecDepth 100000
set_option linter.all false
set_option backward.match.sparseCases false
set_option bootstrap.genMatcherCode false
namespace Mine

theorem for_down {x : Nat} {body : Store → Option (Fl × Store)} (I : Nat → Store → Prop) : ∀ (n : Nat), (∀ m σ, m < n → I (m + 1) σ → ∃ σ₁ σ₂, put σ x (.val (.int (m : Nat))) = some σ₁ ∧ body σ₁ = some (.next, σ₂) ∧ I m σ₂) →
    ∀ {σ : Store}, I n σ → ∃ σ', forL x body (downL n) σ = some (.next, σ') ∧ I 0 σ'
  | 0, _, σ, h => ⟨σ, rfl, h⟩
  | n + 1, turn, σ, h => by
    obtain ⟨σ₁, σ₂, e1, e2, e3⟩ := turn n σ (by (first | lia | omega)) h
    obtain ⟨σ', e4, e5⟩ := for_down I n (fun m σ hm => turn m σ (by (first | lia | omega))) e3
    exact ⟨σ', by simp [downL, forL, e1, e2, e4], e5⟩

theorem or_add {r a w : Nat} (h : a < 2 ^ w) : r * 2 ^ w ||| a = r * 2 ^ w + a := by
  rw [Nat.mul_comm]; exact (Nat.two_pow_add_eq_or_of_lt h r).symm

theorem ib_bor (x y : Nat) : ibin .bor (x : Int) (y : Int) = some ((x ||| y : Nat) : Int) := by simp [ibin]
theorem ib_shl {x w : Nat} (hx : x < 4294967296) (hw : w < 64) : ibin .shl (x : Int) (w : Int) = some ((x * 2 ^ w : Nat) : Int) := by
  have hs := small_nat hx
  have : ibin .shl (x : Int) (w : Int) = if small (x : Int) && decide (0 ≤ (w : Int)) && decide ((w : Int) < 64) then some ((x : Int) * 2 ^ (w : Int).toNat) else none := rfl
  have h1 : (0 : Int) ≤ w := by (first | lia | omega)
  have h2 : (w : Int) < 64 := by (first | lia | omega)
  rw [this, hs, decide_eq_true h1, decide_eq_true h2, Int.toNat_natCast]
  show some ((x : Int) * 2 ^ w) = _
  push_cast
  rfl
theorem ib_fdiv {x c : Nat} (hc : 0 < c) (hc' : c < 65536) : ibin .fdiv (x : Int) (c : Int) = some ((x / c : Nat) : Int) := by
  have : ibin .fdiv (x : Int) (c : Int) = if decide (-1073741824 < (c : Int)) && decide ((c : Int) < 1073741824) && (c : Int) != 0 then some ((x : Int).fdiv c) else none := rfl
  have h1 : (-1073741824 : Int) < c := by (first | lia | omega)
  have h2 : (c : Int) < 1073741824 := by (first | lia | omega)
  have h3 : ((c : Int) != 0) = true := by rw [bne_iff_ne]; (first | lia | omega)
  rw [this, decide_eq_true h1, decide_eq_true h2, h3]
  show some ((x : Int).fdiv c) = _
  rw [Int.fdiv_eq_ediv_of_nonneg _ (by (first | lia | omega))]
  push_cast
  rfl
theorem ib_mod {x c : Nat} (hc : 0 < c) : ibin .mod (x : Int) (c : Int) = some ((x % c : Nat) : Int) := by
  have : ibin .mod (x : Int) (c : Int) = if (c : Int) != 0 then some ((x : Int).fmod c) else none := rfl
  have h3 : ((c : Int) != 0) = true := by rw [bne_iff_ne]; (first | lia | omega)
  rw [this, h3]
  show some ((x : Int).fmod c) = _
  rw [Int.fmod_eq_emod_of_nonneg _ (by (first | lia | omega))]
  push_cast
  rfl

theorem ex_assign {P : Fns} {ln : Nat → Bool} {x : Nat} {e : IE} {σ σ₁ : Store} {r : MR} {t : Slot} (h : ev P ln e σ = some (r, σ₁)) (ht : σ₁[x]? = some t) (hn : NotLent t) : ex P ln (.assign x e) σ = some (.next, σ₁.set x r.slot) := by
  rw [ex, h]
  simp only [put_at ht hn]
theorem ex_aug {P : Fns} {ln : Nat → Bool} {x : Nat} {o : Bop} {e : IE} {σ σ₁ : Store} {i j c : Int} {t : Slot} (h0 : σ[x]? = some (.val (.int i))) (h : ev P ln e σ = some (.val (.int j), σ₁)) (hc : ibin o i j = some c) (ht : σ₁[x]? = some t) (hn : NotLent t) :
    ex P ln (.aug x o e) σ = some (.next, σ₁.set x (.val (.int c))) := by
  rw [ex, h0]
  simp only [h, hc, put_at ht hn]
theorem mb_int {o : Bop} {i j c : Int} (h : ibin o i j = some c) : mbin o (MR.val (.int i)).mv (MR.val (.int j)).mv = some (.val (.int c)) := by
  simp only [MR.mv, mbin, h, Option.map_some]
theorem ev_var {P : Fns} {ln : Nat → Bool} {i : Nat} {σ : Store} {d : MV} (h : σ[i]? = some (.val d)) : ev P ln (.var i) σ = some (.val d, σ) := by
  rw [ev, h]

theorem drop_val {B : Nat} {a : List Nat} {m : Nat} (h : m < a.length) : val B (a.drop m) = a[m] + B * val B (a.drop (m + 1)) := by
  rw [List.drop_eq_getElem_cons h]; rfl

theorem limb_spec (k : Nat) {w : Nat} (hw : 1 ≤ w) (hw' : w < 16) {x c : Nat} (hx : x < 1048576) (hc : 0 < c) (hcB : c < 2 ^ w) :
    Phi tab (k + 2) 4 [.lst (M (N (2 ^ w) x)), .int c, .int w] = some (.tup [.lst (M (N (2 ^ w) (x / c))), .int ((x % c : Nat))], []) := by
  have hB := two_le_pow hw
  have hB' : 2 ^ w < 65536 := by
    have := Nat.pow_lt_pow_right (a := 2) (by (first | lia | omega)) hw'
    simpa using this
  rw [phi_succ (k + 1) 4 _ (fd := ir_divrem_limb) rfl]
  have lx := N_few hB hx
  have da := N_dig hB x
  have va := N_val hB x
  have hnorm0 : ∀ d : List Nat, d.length < 4096 → Dig (2 ^ w) d → val (2 ^ w) d = x / c → Phi tab (k + 1) 0 [.lst (M d)] = some (.lst (M (N (2 ^ w) (x / c))), []) := fun d h1 h2 h3 => normal_N k hB h1 h2 h3
  generalize N (2 ^ w) x = a at *
  have hor : ∀ r y : Nat, y < 2 ^ w → r * 2 ^ w ||| y = r * 2 ^ w + y := fun r y h => or_add h
  have hshl : ∀ r : Nat, r < 65536 → ibin .shl (r : Int) (w : Int) = some ((r * 2 ^ w : Nat) : Int) := fun r h => ib_shl (by (first | lia | omega)) (by (first | lia | omega))
  generalize 2 ^ w = B at *
  let P := Phi tab (k + 1)
  have hsa : a.length < 4096 := by (first | lia | omega)
  let I : Nat → Store → Prop := fun m σ => ∃ (q : List Nat) (r : Nat) (s5 : Slot), NotLent s5 ∧ σ = [.val (.lst (M a)), .val (.int c), .val (.int w), .own (M (List.replicate m 0 ++ q)), .val (.int (r : Nat)), s5] ∧
    m + q.length = a.length ∧ Dig B q ∧ r < c ∧ val B (a.drop m) = val B q * c + r
  obtain ⟨σ', e1, ⟨q, r, s5, n5, rfl, q1, q2, q3, q4⟩⟩ := for_down (x := 5) (body := exs P (lnOf tab) [.assign 4 (.bin .bor (.bin .shl (.var 4) (.var 2)) (.idxv 0 (.var 5))), .setItem 3 (.var 5) (.bin .fdiv (.var 4) (.var 1)), .aug 4 .mod (.var 1)]) I a.length
    (by
      rintro m σ hm ⟨q, r, s5, n5, rfl, hq, hd, hr, hv⟩
      have xa := da a[m] (List.getElem_mem _)
      have ia : pyIdx (M a) (m : Int) = some (.int (a[m] : Nat)) := by rw [pyIdx_nat, M_at hm]
      have hlt : (r * B + a[m]) / c < B := by
        rw [Nat.div_lt_iff_lt_mul hc]
        have : (r + 1) * B ≤ c * B := Nat.mul_le_mul_right _ hr
        rw [Nat.add_mul, Nat.one_mul] at this
        rw [Nat.mul_comm B c]
        (first | lia | omega)
      refine ⟨[.val (.lst (M a)), .val (.int c), .val (.int w), .own (M (List.replicate (m + 1) 0 ++ q)), .val (.int (r : Nat)), .val (.int (m : Nat))], 
        [.val (.lst (M a)), .val (.int c), .val (.int w), .own (M (List.replicate m 0 ++ ((r * B + a[m]) / c) :: q)), .val (.int (((r * B + a[m]) % c : Nat))), .val (.int (m : Nat))], put_at (t := s5) rfl n5, ?_,
        ((r * B + a[m]) / c) :: q, (r * B + a[m]) % c, .val (.int (m : Nat)), nl_val _, rfl, by rw [List.length_cons]; (first | lia | omega), dig_cons.mpr ⟨hlt, hd⟩, Nat.mod_lt _ hc, ?_⟩
      · have x1 : ev P (lnOf tab) (.idxv 0 (.var 5)) [.val (.lst (M a)), .val (.int c), .val (.int w), .own (M (List.replicate (m + 1) 0 ++ q)), .val (.int (r : Nat)), .val (.int (m : Nat))] = some (.val (.int (a[m] : Nat)), [.val (.lst (M a)), .val (.int c), .val (.int w), .own (M (List.replicate (m + 1) 0 ++ q)), .val (.int (r : Nat)), .val (.int (m : Nat))]) := by
          simp [exs, ex, ev, evs, evt, evr, mbin, mcmp, icmp, MR.mv, MR.slot, live, held, lentAt, put, puts, relist, Slot.items?, Slot.list?, MV.items?, short, List.getElem?_cons_zero, List.getElem?_cons_succ, List.set_cons_zero, List.set_cons_succ, List.length_cons, List.length_nil, M_length, Option.map_some, Option.map_none, ia, hsa]
        have x2 := ev_bin (P := P) (ln := lnOf tab) (o := .bor) (ev_bin (o := .shl) (ev_var (i := 4) rfl) (ev_var (i := 2) rfl) (mb_int (hshl r (by (first | lia | omega))))) x1 (mb_int (by rw [ib_bor, hor r a[m] xa]))
        rw [exs_step (ex_assign x2 (t := .val (.int (r : Nat))) rfl (nl_val _))]
        show exs _ _ _ [.val (.lst (M a)), .val (.int c), .val (.int w), .own (M (List.replicate (m + 1) 0 ++ q)), .val (.int ((r * B + a[m] : Nat))), .val (.int (m : Nat))] = _
        generalize r * B + a[m] = z
        have hgl : (List.replicate (m + 1) 0 ++ q).length < 4096 := by simp; (first | lia | omega)
        have h2 : (m : Int) < ((List.replicate (m + 1) 0 ++ q).length : Nat) := by simp; (first | lia | omega)
        have hset : (List.replicate (m + 1) 0 ++ q).set m (z / c) = List.replicate m 0 ++ (z / c) :: q := by
          rw [List.replicate_succ', List.append_assoc, List.set_append_right _ _ (by simp)]
          simp
        have x3 := ev_bin (P := P) (ln := lnOf tab) (o := .fdiv) (a := .var 4) (b := .var 1) (σ := [.val (.lst (M a)), .val (.int c), .val (.int w), .own (M (List.replicate (m + 1) 0 ++ q)), .val (.int (z : Nat)), .val (.int (m : Nat))]) (ev_var rfl) (ev_var rfl) (mb_int (ib_fdiv (x := z) hc (by (first | lia | omega))))
        have s2 : ex P (lnOf tab) (.setItem 3 (.var 5) (.bin .fdiv (.var 4) (.var 1))) [.val (.lst (M a)), .val (.int c), .val (.int w), .own (M (List.replicate (m + 1) 0 ++ q)), .val (.int (z : Nat)), .val (.int (m : Nat))] =
            some (.next, [.val (.lst (M a)), .val (.int c), .val (.int w), .own (M (List.replicate m 0 ++ (z / c) :: q)), .val (.int (z : Nat)), .val (.int (m : Nat))]) := by
          rw [← hset, M_set]
          generalize List.replicate (m + 1) 0 ++ q = g at *
          rw [ex, x3]
          simp [ev, live, Slot.list?, short, hgl, h2, relist, MR.mv]
        rw [exs_step s2, exs_step (ex_aug (P := P) (ln := lnOf tab) (e := .var 1) (i := (z : Nat)) rfl (ev_var rfl) (ib_mod hc) (t := .val (.int (z : Nat))) rfl (nl_val _))]
        rfl
      · rw [drop_val hm, hv]
        simp only [val]
        have h1 := Nat.div_add_mod (r * B + a[m]) c
        rw [Nat.add_mul, Nat.mul_add, ← Nat.mul_assoc B, Nat.mul_comm B r]
        rw [Nat.mul_comm c] at h1
        (first | lia | omega)) (σ := [.val (.lst (M a)), .val (.int c), .val (.int w), .own (M (List.replicate a.length 0)), .val (.int (0 : Nat)), .unset])
    ⟨[], 0, .unset, nl_unset, by simp, by simp, by intro c hc; simp at hc, hc, by simp [val]⟩
  simp only [List.replicate_zero, List.nil_append, List.drop_zero, va] at e1 q4
  have hdiv : val B q = x / c ∧ r = x % c := by
    rw [q4]
    constructor
    · rw [Nat.mul_comm, Nat.mul_add_div hc, Nat.div_eq_of_lt q3]; (first | lia | omega)
    · rw [Nat.mul_comm, Nat.mul_add_mod, Nat.mod_eq_of_lt q3]
  have hnorm := hnorm0 q (by (first | lia | omega)) q2 hdiv.1
  rw [← hdiv.2]
  refine run_plain (σ₁ := [.val (.lst (M a)), .val (.int c), .val (.int w), .val (.lst (M q)), .val (.int (r : Nat)), s5]) rfl (by decide) rfl ?_
  show exs P _ ir_divrem_limb.body [.val (.lst (M a)), .val (.int c), .val (.int w), .unset, .unset, .unset] = _
  have u1 : (a.length : Int) < 4096 := by (first | lia | omega)
  have u2 : -4096 < (a.length : Int) := by (first | lia | omega)
  have u3 : -4096 < (a.length : Int) - 1 := by (first | lia | omega)
  have u4 : (a.length : Int) - 1 < 4096 := by (first | lia | omega)
  have l1 : (downL a.length).length < 4096 := by rw [downL_length]; exact hsa
  have hdn : rangeDown ((a.length : Int) - 1) (-1) = downL a.length := down_eq _
  have ln0 : lnOf tab 0 = false := by decide
  have c0 : ((c : Int) == 0) = false := by rw [beq_eq_false_iff_ne]; (first | lia | omega)
  have c1 : ¬ c = 0 := by (first | lia | omega)
  unfold ir_divrem_limb
  simp only
  rw [exs_step (σ₁ := [.val (.lst (M a)), .val (.int c), .val (.int w), .unset, .unset, .unset]) (by simp [exs, ex, ev, evs, evt, evr, mbin, mcmp, icmp, MR.mv, MR.slot, live, held, lentAt, put, puts, relist, Slot.items?, Slot.list?, MV.items?, short, List.getElem?_cons_zero, List.getElem?_cons_succ, List.set_cons_zero, List.set_cons_succ, List.length_cons, List.length_nil, M_length, Option.map_some, Option.map_none, c0, c1])]
  rw [exs_step (σ₁ := [.val (.lst (M a)), .val (.int c), .val (.int w), .own (M (List.replicate a.length 0)), .val (.int (0 : Nat)), .unset]) (by simp [exs, ex, ev, evs, evt, evr, mbin, mcmp, icmp, ibin, MR.mv, MR.slot, live, held, lentAt, put, puts, relist, Slot.items?, Slot.list?, MV.items?, short, List.getElem?_cons_zero, List.getElem?_cons_succ, List.set_cons_zero, List.set_cons_succ, List.length_cons, List.length_nil, M_length, Option.map_some, Option.map_none, hsa, u1, u2, zeros_eq])]
  rw [exs_step (σ₁ := [.val (.lst (M a)), .val (.int c), .val (.int w), .own (M q), .val (.int (r : Nat)), s5]) (by rw [ex]; simp [evt, ev, Slot.items?, MV.items?, live, short, hsa, mbin, ibin, MR.mv, u1, u2, u3, u4, hdn, l1]; simpa using e1)]
  refine exs_ret ?_
  rw [ex]
  simp [ev, evs, ln0, P, hnorm, MR.mv, short]
end Mine

end
-- PureG
section
set_option autoImplicit false
set_option maxRecDepth 100000
set_option linter.all false
set_option backward.match.sparseCases false
set_option bootstrap.genMatcherCode false
namespace Mine

theorem N_zero (B : Nat) : N B 0 = [] := rfl
theorem N_one {B c : Nat} (hB : 2 ≤ B) (h0 : 0 < c) (h : c < B) : N B c = [c] := by
  refine (N_unique hB (d := [c]) (x := c) ?_ ?_ ?_).symm
  · intro x hx; simp at hx; (first | lia | omega)
  · simp [Nrm]; (first | lia | omega)
  · simp [val]
theorem pow_facts {w : Nat} (hw : 1 ≤ w) (hw' : w < 16) : 2 ≤ 2 ^ w ∧ 2 ^ w < 65536 := by
  refine ⟨two_le_pow hw, ?_⟩
  have := Nat.pow_lt_pow_right (a := 2) (by (first | lia | omega)) hw'
  simpa using this

theorem small_spec (k : Nat) {w : Nat} (hw : 1 ≤ w) (hw' : w < 16) {x c : Nat} (hx : x < 1048576) (hc : 0 < c) (hcB : c < 2 ^ w) :
    Phi tab (k + 3) 21 [.lst (M (N (2 ^ w) x)), .lst (M (N (2 ^ w) c)), .int w] = some (.tup [.lst (M (N (2 ^ w) (x / c))), .lst (M (N (2 ^ w) (x % c)))], []) := by
  obtain ⟨hB, hB'⟩ := pow_facts hw hw'
  rw [phi_succ (k + 2) 21 _ (fd := ir_divrem_small) rfl]
  have hcall := limb_spec k hw hw' hx hc hcB
  have hr : M (N (2 ^ w) (x % c)) = if (x % c : Nat) = 0 then [] else [MV.int ((x % c : Nat))] := by
    split
    · rename_i h; rw [h]; rfl
    · rename_i h; rw [N_one hB (by (first | lia | omega)) (by have := Nat.mod_lt x hc; (first | lia | omega))]; rfl
  rw [N_one hB hc hcB, hr]
  generalize N (2 ^ w) x = a at *
  generalize N (2 ^ w) (x / c) = q at *
  generalize x % c = r at *
  refine run_plain (σ₁ := [.val (.lst (M a)), .val (.lst (M [c])), .val (.int w), .val (.lst (M q)), .val (.int (r : Nat))]) rfl (by decide) rfl ?_
  show exs _ _ ir_divrem_small.body [.val (.lst (M a)), .val (.lst (M [c])), .val (.int w), .unset, .unset] = _
  have ln4 : lnOf tab 4 = false := by decide
  unfold ir_divrem_small
  simp only
  have i0 : pyIdx [MV.int (c : Nat)] 0 = some (.int (c : Nat)) := rfl
  rw [exs_step (σ₁ := [.val (.lst (M a)), .val (.lst (M [c])), .val (.int w), .val (.lst (M q)), .val (.int (r : Nat))]) (by simp [exs, ex, ev, evs, evt, evr, mbin, mcmp, icmp, ibin, MR.mv, MR.slot, live, held, lentAt, put, puts, relist, Slot.items?, Slot.list?, MV.items?, short, List.getElem?_cons_zero, List.getElem?_cons_succ, List.set_cons_zero, List.set_cons_succ, List.length_cons, List.length_nil, M_length, Option.map_some, Option.map_none, ln4, i0, hcall])]
  refine exs_ret ?_
  rw [ex]
  by_cases h0 : r = 0
  · subst h0
    simp [exs, ex, ev, evs, evt, evr, mbin, mcmp, icmp, ibin, MR.mv, MR.slot, live, held, lentAt, put, puts, relist, Slot.items?, Slot.list?, MV.items?, short, List.getElem?_cons_zero, List.getElem?_cons_succ, List.set_cons_zero, List.set_cons_succ, List.length_cons, List.length_nil, M_length, Option.map_some, Option.map_none]
  · have h1 : 0 < r := by (first | lia | omega)
    simp [exs, ex, ev, evs, evt, evr, mbin, mcmp, icmp, ibin, MR.mv, MR.slot, live, held, lentAt, put, puts, relist, Slot.items?, Slot.list?, MV.items?, short, List.getElem?_cons_zero, List.getElem?_cons_succ, List.set_cons_zero, List.set_cons_succ, List.length_cons, List.length_nil, M_length, Option.map_some, Option.map_none, h0, h1]

theorem evr_two {P : Fns} {ln : Nat → Bool} {a b : IE} {σ σ₁ σ₂ : Store} {x y : MR} (h1 : ev P ln a σ = some (x, σ₁)) (h2 : ev P ln b σ₁ = some (y, σ₂)) : evr P ln [a, b] σ = some ([x, y], σ₂) := by
  simp only [evr, h1, h2]
theorem ex_assigns {P : Fns} {ln : Nat → Bool} {xs : List Nat} {es : List IE} {σ σ₁ σ₂ : Store} {rs : List MR} (h1 : evr P ln es σ = some (rs, σ₁)) (h2 : puts σ₁ xs (rs.map MR.slot) = some σ₂) : ex P ln (.assigns xs es) σ = some (.next, σ₂) := by
  rw [ex, h1]
  simp only [h2]
theorem puts_two {σ : Store} {i j : Nat} {t u s r : Slot} (hij : i ≠ j) (h1 : σ[i]? = some t) (h2 : σ[j]? = some u) (n1 : NotLent t) (n2 : NotLent u) : puts σ [i, j] [s, r] = some ((σ.set i s).set j r) := by
  simp only [puts, put_at h1 n1]
  rw [put_at (t := u) (by rw [List.getElem?_set_ne hij]; exact h2) n2]

/-- shifting to the left by less than a limb -/
theorem left_spec (k : Nat) {w s : Nat} (hw : 1 ≤ w) (hw' : w < 16) (hs : s < w) {x : Nat} (hx : x < 1048576) :
    Phi tab (k + 1) 5 [.lst (M (N (2 ^ w) x)), .int s, .int w] = some (.lst (M (N (2 ^ w) (x * 2 ^ s))), []) := by
  obtain ⟨hB, hB'⟩ := pow_facts hw hw'
  rw [phi_succ k 5 _ (fd := ir_shift_left) rfl]
  have lx := N_few hB hx
  have da := N_dig hB x
  have na := N_nrm hB x
  have va := N_val hB x
  obtain ⟨mask, hmask⟩ : ∃ m, m = 2 ^ w - 1 := ⟨_, rfl⟩
  have hand : ∀ z, z &&& mask = z % 2 ^ w := fun z => by rw [hmask, and_mask]
  have hmi : (2 : Int) ^ w - 1 = (mask : Nat) := by rw [hmask, mask_int]
  have hshr : ∀ z : Nat, (z : Int).fdiv (2 ^ w) = ((z / 2 ^ w : Nat) : Int) := fun z => fdiv_pow z w
  have hshl : ∀ r : Nat, r < 65536 → ibin .shl (r : Int) (s : Int) = some ((r * 2 ^ s : Nat) : Int) := fun r h => ib_shl (by (first | lia | omega)) (by (first | lia | omega))
  have hor : ∀ c y : Nat, c < 2 ^ s → c ||| y * 2 ^ s = y * 2 ^ s + c := fun c y h => by rw [Nat.or_comm]; exact or_add h
  have hsw : 2 ^ s < 2 ^ w := Nat.pow_lt_pow_right (by (first | lia | omega)) hs
  have huni : ∀ f : List Nat, Dig (2 ^ w) f → Nrm f → val (2 ^ w) f = x * 2 ^ s → f = N (2 ^ w) (x * 2 ^ s) := fun f h1 h2 h3 => N_unique hB h1 h2 h3
  have hS : 1 ≤ 2 ^ s := Nat.one_le_two_pow
  generalize N (2 ^ w) x = a at *
  generalize 2 ^ w = B at *
  generalize hSd : 2 ^ s = S at *
  have hsa : a.length < 4096 := by (first | lia | omega)
  have s1 : (s : Int) < (w : Int) := by (first | lia | omega)
  by_cases ha : a = []
  · subst ha
    have hx0 : x = 0 := by simpa [val] using va.symm
    subst hx0
    rw [Nat.zero_mul, N_zero]
    refine run_plain (σ₁ := [.val (.lst (M [])), .val (.int s), .val (.int w), .unset, .unset, .unset, .unset, .unset, .unset]) rfl (by decide) rfl ?_
    show exs _ _ ir_shift_left.body [.val (.lst (M [])), .val (.int s), .val (.int w), .unset, .unset, .unset, .unset, .unset, .unset] = _
    unfold ir_shift_left
    refine exs_ret ?_
    simp [exs, ex, ev, evs, evt, evr, mbin, mcmp, icmp, ibin, MR.mv, MR.slot, live, held, lentAt, put, puts, relist, Slot.items?, Slot.list?, MV.items?, short, List.getElem?_cons_zero, List.getElem?_cons_succ, List.set_cons_zero, List.set_cons_succ, List.length_cons, List.length_nil, M_length, Option.map_some, Option.map_none]
  · have hlen : 0 < a.length := by cases a with | nil => exact absurd rfl ha | cons _ _ => simp
    let I : Nat → Store → Prop := fun i σ => ∃ (f : List Nat) (c : Nat) (s8 : Slot), NotLent s8 ∧ σ = [.val (.lst (M a)), .val (.int s), .val (.int w), .val (.int 0), .val (.int s), .own (M f), .val (.int c), .val (.int mask), s8] ∧ f.length = i ∧ Dig B f ∧ c < S ∧
      val B f + B ^ i * c = val B (a.take i) * S
    obtain ⟨σ', e1, ⟨f, c, s8, n8, rfl, q1, q2, q3, q4⟩⟩ := for_list (x := 8) (body := exs (Phi tab k) (lnOf tab) [.aug 6 .bor (.bin .shl (.var 8) (.var 4)), .append 5 (.bin .band (.var 6) (.var 7)), .aug 6 .shr (.var 2)]) I (M a)
      (by
        rintro i v σ hv ⟨f, c, s8, n8, rfl, hf, hd, hc, hval⟩
        rw [M_get] at hv
        obtain ⟨ai, hai, rfl⟩ := Option.map_eq_some_iff.mp hv
        obtain ⟨hi, rfl⟩ := List.getElem?_eq_some_iff.mp hai
        have xa := da a[i] (List.getElem_mem _)
        have hz : (a[i] * S + c) / B < S := by
          rw [Nat.div_lt_iff_lt_mul (by (first | lia | omega))]
          have : (a[i] + 1) * S ≤ B * S := Nat.mul_le_mul_right _ xa
          rw [Nat.add_mul, Nat.one_mul] at this
          rw [Nat.mul_comm S B]; (first | lia | omega)
        refine ⟨[.val (.lst (M a)), .val (.int s), .val (.int w), .val (.int 0), .val (.int s), .own (M f), .val (.int c), .val (.int mask), .val (.int (a[i] : Nat))],
          [.val (.lst (M a)), .val (.int s), .val (.int w), .val (.int 0), .val (.int s), .own (M (f ++ [(a[i] * S + c) % B])), .val (.int (((a[i] * S + c) / B : Nat))), .val (.int mask), .val (.int (a[i] : Nat))], put_at (t := s8) rfl n8, ?_,
          f ++ [(a[i] * S + c) % B], (a[i] * S + c) / B, .val (.int (a[i] : Nat)), nl_val _, rfl, by simp [hf], dig_snoc hd (Nat.mod_lt _ (by (first | lia | omega))), hz, ?_⟩
        · rw [exs_step (ex_aug (P := Phi tab k) (ln := lnOf tab) (o := .bor) (i := (c : Nat)) (j := ((a[i] * S : Nat) : Int)) (c := ((a[i] * S + c : Nat) : Int)) (σ₁ := [.val (.lst (M a)), .val (.int s), .val (.int w), .val (.int 0), .val (.int s), .own (M f), .val (.int c), .val (.int mask), .val (.int (a[i] : Nat))]) rfl
            (ev_bin (o := .shl) (ev_var (i := 8) rfl) (ev_var (i := 4) rfl) (mb_int (hshl _ (by (first | lia | omega))))) (by rw [ib_bor, hor c a[i] hc]) (t := .val (.int (c : Nat))) rfl (nl_val _))]
          show exs _ _ _ [.val (.lst (M a)), .val (.int s), .val (.int w), .val (.int 0), .val (.int s), .own (M f), .val (.int ((a[i] * S + c : Nat))), .val (.int mask), .val (.int (a[i] : Nat))] = _
          generalize a[i] * S + c = z
          have hfl : f.length < 4096 := by (first | lia | omega)
          rw [exs_step (σ₁ := [.val (.lst (M a)), .val (.int s), .val (.int w), .val (.int 0), .val (.int s), .own (M (f ++ [z % B])), .val (.int (z : Nat)), .val (.int mask), .val (.int (a[i] : Nat))]) (by simp [exs, ex, ev, evs, evt, evr, mbin, mcmp, icmp, ibin, MR.mv, MR.slot, live, held, lentAt, put, puts, relist, Slot.items?, Slot.list?, MV.items?, short, List.getElem?_cons_zero, List.getElem?_cons_succ, List.set_cons_zero, List.set_cons_succ, List.length_cons, List.length_nil, M_length, Option.map_some, Option.map_none, hfl, hand])]
          simp [exs, ex, ev, evs, evt, evr, mbin, mcmp, icmp, ibin, MR.mv, MR.slot, live, held, lentAt, put, puts, relist, Slot.items?, Slot.list?, MV.items?, short, List.getElem?_cons_zero, List.getElem?_cons_succ, List.set_cons_zero, List.set_cons_succ, List.length_cons, List.length_nil, M_length, Option.map_some, Option.map_none, hshr]
        · rw [val_snoc, hf, Nat.pow_succ, val_take_succ hi, Nat.add_mul]
          have h1 := Nat.mod_add_div (a[i] * S + c) B
          have h2 : B ^ i * ((a[i] * S + c) % B + B * ((a[i] * S + c) / B)) = B ^ i * (a[i] * S + c) := by rw [h1]
          rw [Nat.mul_add, Nat.mul_add, ← Nat.mul_assoc, ← Nat.mul_assoc] at h2
          (first | lia | omega))
      (σ := [.val (.lst (M a)), .val (.int s), .val (.int w), .val (.int 0), .val (.int s), .own (M []), .val (.int (0 : Nat)), .val (.int mask), .unset])
      ⟨[], 0, .unset, nl_unset, rfl, rfl, by intro c hc; simp at hc, by (first | lia | omega), by simp [val]⟩
    rw [M_length] at q1 q4
    rw [List.take_length, va] at q4
    have w0 : ¬ ((w : Int) < 0) := by (first | lia | omega)
    have w1 : (w : Int) < 64 := by (first | lia | omega)
    have w2 : ¬ w = 0 := by (first | lia | omega)
    have sm : small 1 = true := by decide
    have d1 := ib_fdiv (x := s) (c := w) (by (first | lia | omega)) (by (first | lia | omega))
    have d2 := ib_mod (x := s) (c := w) (by (first | lia | omega))
    rw [Nat.div_eq_of_lt hs] at d1
    rw [Nat.mod_eq_of_lt hs] at d2
    have g0 : ¬ a.length = 0 := by (first | lia | omega)
    have g1 : (((a.length : Nat) : Int) == 0) = false := by rw [beq_eq_false_iff_ne]; (first | lia | omega)
    have x1 : ev (Phi tab k) (lnOf tab) (.bin .fdiv (.var 1) (.var 2)) [.val (.lst (M a)), .val (.int s), .val (.int w), .unset, .unset, .unset, .unset, .unset, .unset] = some (.val (.int ((0 : Nat))), [.val (.lst (M a)), .val (.int s), .val (.int w), .unset, .unset, .unset, .unset, .unset, .unset]) := ev_bin (ev_var rfl) (ev_var rfl) (mb_int d1)
    have x2 : ev (Phi tab k) (lnOf tab) (.bin .mod (.var 1) (.var 2)) [.val (.lst (M a)), .val (.int s), .val (.int w), .unset, .unset, .unset, .unset, .unset, .unset] = some (.val (.int (s : Nat)), [.val (.lst (M a)), .val (.int s), .val (.int w), .unset, .unset, .unset, .unset, .unset, .unset]) := ev_bin (ev_var rfl) (ev_var rfl) (mb_int d2)
    have body : exs (Phi tab k) (lnOf tab) ir_shift_left.body [.val (.lst (M a)), .val (.int s), .val (.int w), .unset, .unset, .unset, .unset, .unset, .unset] = exs (Phi tab k) (lnOf tab) [.ite (.cmp .gt (.var 6) (.int 0)) [.append 5 (.var 6)] [], .ret (.var 5)] [.val (.lst (M a)), .val (.int s), .val (.int w), .val (.int 0), .val (.int s), .own (M f), .val (.int c), .val (.int mask), s8] := by
      unfold ir_shift_left
      simp only
      rw [exs_step (σ₁ := [.val (.lst (M a)), .val (.int s), .val (.int w), .unset, .unset, .unset, .unset, .unset, .unset]) (by simp [exs, ex, ev, evs, evt, evr, mbin, mcmp, icmp, MR.mv, MR.slot, live, held, lentAt, put, puts, relist, Slot.items?, Slot.list?, MV.items?, short, List.getElem?_cons_zero, List.getElem?_cons_succ, List.set_cons_zero, List.set_cons_succ, List.length_cons, List.length_nil, M_length, Option.map_some, Option.map_none, hsa, g0, g1])]
      rw [exs_step (σ₁ := [.val (.lst (M a)), .val (.int s), .val (.int w), .val (.int 0), .val (.int s), .unset, .unset, .unset, .unset]) (by
        exact ex_assigns (evr_two x1 x2) (puts_two (t := .unset) (u := .unset) (by decide) rfl rfl nl_unset nl_unset))]
      rw [exs_step (σ₁ := [.val (.lst (M a)), .val (.int s), .val (.int w), .val (.int 0), .val (.int s), .own (M []), .val (.int (0 : Nat)), .val (.int mask), .unset]) (by simp [exs, ex, ev, evs, evt, evr, mbin, mcmp, icmp, ibin, MR.mv, MR.slot, live, held, lentAt, put, puts, relist, Slot.items?, Slot.list?, MV.items?, short, List.getElem?_cons_zero, List.getElem?_cons_succ, List.set_cons_zero, List.set_cons_succ, List.length_cons, List.length_nil, M_length, Option.map_some, Option.map_none, sm, w0, w1, hmi])]
      rw [exs_step (σ₁ := [.val (.lst (M a)), .val (.int s), .val (.int w), .val (.int 0), .val (.int s), .own (M f), .val (.int c), .val (.int mask), s8]) (by rw [ex]; simp [evt, ev, MR.mv, short, hsa]; simpa using e1)]
    have hfl : f.length < 4096 := by (first | lia | omega)
    by_cases hc : c = 0
    · subst hc
      have hn : f = N B (x * S) := by
        refine huni f q2 ?_ (by (first | lia | omega))
        obtain ⟨n, hn⟩ : ∃ n, a.length = n + 1 := ⟨a.length - 1, by (first | lia | omega)⟩
        have h1 := nrm_ge hB hn na
        refine nrm_of_ge hB q2 (q1.trans hn) ?_
        have h2 : x * 1 ≤ x * S := Nat.mul_le_mul_left _ hS
        (first | lia | omega)
      rw [← hn]
      refine run_plain (σ₁ := [.val (.lst (M a)), .val (.int s), .val (.int w), .val (.int 0), .val (.int s), .val (.lst (M f)), .val (.int (0 : Nat)), .val (.int mask), s8]) rfl (by decide) rfl ?_
      show exs _ _ ir_shift_left.body [.val (.lst (M a)), .val (.int s), .val (.int w), .unset, .unset, .unset, .unset, .unset, .unset] = _
      rw [body]
      simp [exs, ex, ev, evs, evt, evr, mbin, mcmp, icmp, ibin, MR.mv, MR.slot, live, held, lentAt, put, puts, relist, Slot.items?, Slot.list?, MV.items?, short, List.getElem?_cons_zero, List.getElem?_cons_succ, List.set_cons_zero, List.set_cons_succ, List.length_cons, List.length_nil, M_length, Option.map_some, Option.map_none]
    · have hn : f ++ [c] = N B (x * S) := by
        refine huni _ (dig_snoc q2 (by (first | lia | omega))) (by simp [Nrm]; (first | lia | omega)) ?_
        rw [val_snoc, q1, q4]
      rw [← hn]
      refine run_plain (σ₁ := [.val (.lst (M a)), .val (.int s), .val (.int w), .val (.int 0), .val (.int s), .val (.lst (M (f ++ [c]))), .val (.int (c : Nat)), .val (.int mask), s8]) rfl (by decide) rfl ?_
      show exs _ _ ir_shift_left.body [.val (.lst (M a)), .val (.int s), .val (.int w), .unset, .unset, .unset, .unset, .unset, .unset] = _
      rw [body]
      have h0 : (0 : Int) < c := by (first | lia | omega)
      have h1 : 0 < c := by (first | lia | omega)
      simp [exs, ex, ev, evs, evt, evr, mbin, mcmp, icmp, ibin, MR.mv, MR.slot, live, held, lentAt, put, puts, relist, Slot.items?, Slot.list?, MV.items?, short, List.getElem?_cons_zero, List.getElem?_cons_succ, List.set_cons_zero, List.set_cons_succ, List.length_cons, List.length_nil, M_length, Option.map_some, Option.map_none, h0, h1, hfl]
end Mine

end
-- PureH
section
set_option autoImplicit false
set_option maxRecDepth 100000
set_option linter.all false
set_option backward.match.sparseCases false
set_option bootstrap.genMatcherCode false
namespace Mine

theorem ev_ite_t {P : Fns} {ln : Nat → Bool} {c a b : IE} {σ σ₁ : Store} {r : Option (MR × Store)} (h : ev P ln c σ = some (.val (.bool true), σ₁)) (h2 : ev P ln a σ₁ = r) : ev P ln (.ite c a b) σ = r := by
  rw [ev, h]; exact h2
theorem ev_ite_f {P : Fns} {ln : Nat → Bool} {c a b : IE} {σ σ₁ : Store} {r : Option (MR × Store)} (h : ev P ln c σ = some (.val (.bool false), σ₁)) (h2 : ev P ln b σ₁ = r) : ev P ln (.ite c a b) σ = r := by
  rw [ev, h]; exact h2
theorem ev_and_t {P : Fns} {ln : Nat → Bool} {a b : IE} {σ σ₁ σ₂ : Store} {t : Bool} (h : ev P ln a σ = some (.val (.bool true), σ₁)) (h2 : ev P ln b σ₁ = some (.val (.bool t), σ₂)) : ev P ln (.and a b) σ = some (.val (.bool t), σ₂) := by
  rw [ev, h]; simp only [h2]
theorem ev_and_f {P : Fns} {ln : Nat → Bool} {a b : IE} {σ σ₁ : Store} (h : ev P ln a σ = some (.val (.bool false), σ₁)) : ev P ln (.and a b) σ = some (.val (.bool false), σ₁) := by
  rw [ev, h]
theorem ev_cmp {P : Fns} {ln : Nat → Bool} {o : Cop} {a b : IE} {σ σ₁ σ₂ : Store} {x y : MR} {t : Bool} (h1 : ev P ln a σ = some (x, σ₁)) (h2 : ev P ln b σ₁ = some (y, σ₂)) (h3 : mcmp o x.mv y.mv = some t) : ev P ln (.cmp o a b) σ = some (.val (.bool t), σ₂) := by
  rw [ev, h1]; simp only [h2, h3, Option.map_some]
theorem mc_lt (x y : Int) : mcmp .lt (MR.val (.int x)).mv (MR.val (.int y)).mv = some (decide (x < y)) := rfl
theorem mc_gt (x y : Int) : mcmp .gt (MR.val (.int x)).mv (MR.val (.int y)).mv = some (decide (x > y)) := rfl
theorem mc_eq (x y : Int) : mcmp .eq (MR.val (.int x)).mv (MR.val (.int y)).mv = some (x == y) := rfl

theorem bits_spec (k : Nat) {w c : Nat} (hw : w < 16) : Phi tab (k + 1) 7 [.lst (M [c]), .int w] = some (.int (bitLen c : Nat), []) := by
  rw [phi_succ k 7 _ (fd := ir_bits) rfl]
  refine run_plain (σ₁ := [.val (.lst (M [c])), .val (.int w)]) rfl (by decide) rfl ?_
  show exs _ _ ir_bits.body [.val (.lst (M [c])), .val (.int w)] = _
  unfold ir_bits
  refine exs_ret ?_
  have sm := small_nat (x := w) (by (first | lia | omega))
  have s0 : small ((1 : Int) - 1) = true := by decide
  have i0 : pyIdx [MV.int (c : Nat)] (-1) = some (.int (c : Nat)) := by simp [pyIdx]
  have x1 : ev (Phi tab k) (lnOf tab) (.bin .sub (.lenv 0) (.int 1)) [.val (.lst (M [c])), .val (.int w)] = some (.val (.int ((1 : Int) - 1)), [.val (.lst (M [c])), .val (.int w)]) := by
    simp [exs, ex, ev, evs, evt, evr, mbin, mcmp, icmp, ibin, MR.mv, MR.slot, live, held, lentAt, put, puts, relist, Slot.items?, Slot.list?, MV.items?, short, List.getElem?_cons_zero, List.getElem?_cons_succ, List.set_cons_zero, List.set_cons_succ, List.length_cons, List.length_nil, M_length, Option.map_some, Option.map_none]
  have x2 := ev_bin (o := .mul) x1 (ev_var (P := Phi tab k) (ln := lnOf tab) (i := 1) (σ := [.val (.lst (M [c])), .val (.int w)]) rfl) (mb_int (ib_mul s0 sm))
  have x3 : ev (Phi tab k) (lnOf tab) (.bits (.idxv 0 (.neg (.int 1)))) [.val (.lst (M [c])), .val (.int w)] = some (.val (.int (bitLen c : Nat)), [.val (.lst (M [c])), .val (.int w)]) := by
    simp [exs, ex, ev, evs, evt, evr, mbin, mcmp, icmp, ibin, MR.mv, MR.slot, live, held, lentAt, put, puts, relist, Slot.items?, Slot.list?, MV.items?, short, List.getElem?_cons_zero, List.getElem?_cons_succ, List.set_cons_zero, List.set_cons_succ, List.length_cons, List.length_nil, M_length, Option.map_some, Option.map_none, i0]
  have x4 := ev_bin (o := .add) x2 x3 (mb_int (ib_add _ _))
  have x5 : ev (Phi tab k) (lnOf tab) (.cmp .gt (.lenv 0) (.int 0)) [.val (.lst (M [c])), .val (.int w)] = some (.val (.bool true), [.val (.lst (M [c])), .val (.int w)]) := by
    simp [exs, ex, ev, evs, evt, evr, mbin, mcmp, icmp, ibin, MR.mv, MR.slot, live, held, lentAt, put, puts, relist, Slot.items?, Slot.list?, MV.items?, short, List.getElem?_cons_zero, List.getElem?_cons_succ, List.set_cons_zero, List.set_cons_succ, List.length_cons, List.length_nil, M_length, Option.map_some, Option.map_none]
  rw [ex, ev_ite_t x5 x4]
  simp [MR.mv]

theorem mod_split {S T x y : Nat} (h0 : 0 < S) (hx : x < T) : (x + y * T) % (S * T) = x + (y % S) * T := by
  have h1 := Nat.div_add_mod y S
  have h2 : x + y * T = x + (y % S) * T + S * T * (y / S) := by
    conv => lhs; rw [← h1, Nat.add_mul]
    rw [Nat.mul_right_comm]; (first | lia | omega)
  rw [h2, Nat.add_mul_mod_self_left, Nat.mod_eq_of_lt]
  have := Nat.mod_lt y h0
  have h3 : (y % S + 1) * T ≤ S * T := Nat.mul_le_mul_right _ this
  rw [Nat.add_mul, Nat.one_mul] at h3
  (first | lia | omega)

theorem arith1 {S T B : Nat} (b q m : Nat) (h : B = S * T) : b * (q + m * T) * S = b * (S * q) + b * B * m := by
  subst h
  simp only [Nat.mul_add, Nat.add_mul, Nat.mul_assoc, Nat.mul_comm, Nat.mul_left_comm]

theorem right_spec (k : Nat) {w s : Nat} (hw : 1 ≤ w) (hw' : w < 16) (hs : s < w) {z : Nat} (hz : z * 2 ^ s < 1048576) :
    Phi tab (k + 2) 6 [.lst (M (N (2 ^ w) (z * 2 ^ s))), .int s, .int w] = some (.lst (M (N (2 ^ w) z)), []) := by
  obtain ⟨hB, hB'⟩ := pow_facts hw hw'
  rw [phi_succ (k + 1) 6 _ (fd := ir_shift_right) rfl]
  have lx := N_few hB hz
  have da := N_dig hB (z * 2 ^ s)
  have va := N_val hB (z * 2 ^ s)
  obtain ⟨mask, hmask⟩ : ∃ m, m = 2 ^ w - 1 := ⟨_, rfl⟩
  have hand : ∀ z, z &&& mask = z % 2 ^ w := fun z => by rw [hmask, and_mask]
  have hmi : (2 : Int) ^ w - 1 = (mask : Nat) := by rw [hmask, mask_int]
  have hshr : ∀ z : Nat, ibin .shr (z : Int) (s : Int) = some ((z / 2 ^ s : Nat) : Int) := fun z => by
    have : ibin .shr (z : Int) (s : Int) = if decide (0 ≤ (s : Int)) then some ((z : Int).fdiv (2 ^ (s : Int).toNat)) else none := rfl
    rw [this, decide_eq_true (by (first | lia | omega)), Int.toNat_natCast, fdiv_pow]; rfl
  have hshl : ∀ r : Nat, r < 65536 → ibin .shl (r : Int) (((w - s : Nat)) : Int) = some ((r * 2 ^ (w - s) : Nat) : Int) := fun r h => ib_shl (by (first | lia | omega)) (by (first | lia | omega))
  have hnorm0 : ∀ d : List Nat, d.length < 4096 → Dig (2 ^ w) d → val (2 ^ w) d = z → Phi tab (k + 1) 0 [.lst (M d)] = some (.lst (M (N (2 ^ w) z)), []) := fun d h1 h2 h3 => normal_N k hB h1 h2 h3
  have hST : 2 ^ w = 2 ^ s * 2 ^ (w - s) := by rw [← Nat.pow_add]; congr 1; (first | lia | omega)
  have hor : ∀ c y : Nat, c < 2 ^ (w - s) → c ||| y * 2 ^ (w - s) = c + y * 2 ^ (w - s) := fun c y h => by rw [Nat.or_comm, or_add h, Nat.add_comm]
  have hS : 1 ≤ 2 ^ s := Nat.one_le_two_pow
  have hT : 1 ≤ 2 ^ (w - s) := Nat.one_le_two_pow
  generalize N (2 ^ w) (z * 2 ^ s) = a at *
  generalize 2 ^ w = B at *
  generalize 2 ^ s = S at *
  generalize 2 ^ (w - s) = T at *
  let P := Phi tab (k + 1)
  have hsa : a.length < 4096 := by (first | lia | omega)
  let dg : Nat → Nat := fun i => (a[i]?).getD 0
  have hdg : ∀ i, dg i < B := fun i => by
    show (a[i]?).getD 0 < B
    cases e : a[i]? with
    | none => simp; (first | lia | omega)
    | some v => simpa using da v (List.mem_of_getElem? e)
  let I : Nat → Store → Prop := fun i σ => ∃ (f : List Nat) (s7 s8 : Slot), NotLent s7 ∧ NotLent s8 ∧ σ = [.val (.lst (M a)), .val (.int s), .val (.int w), .val (.int 0), .val (.int s), .own (M f), .val (.int mask), s7, s8] ∧ f.length = i ∧ Dig B f ∧
    val B f * S + dg 0 % S = val B (a.take i) + B ^ i * (dg i % S)
  obtain ⟨σ', e1, ⟨f, s7, s8, n7, n8, rfl, q1, q2, q3⟩⟩ := for_up (x := 7) (a := 0) (b := a.length) (body := exs P (lnOf tab) [.assign 8 (.ite (.cmp .lt (.bin .add (.var 7) (.int 1)) (.lenv 0)) (.idxv 0 (.bin .add (.var 7) (.int 1))) (.int 0)), .append 5 (.bin .band (.bin .bor (.bin .shr (.idxv 0 (.var 7)) (.var 4)) (.bin .shl (.var 8) (.bin .sub (.var 2) (.var 4)))) (.var 6))]) I (by (first | lia | omega))
    (by
      rintro i σ _ hi ⟨f, s7, s8, n7, n8, rfl, hf, hd, hval⟩
      have ia : pyIdx (M a) (i : Int) = some (.int (a[i] : Nat)) := by rw [pyIdx_nat, M_at hi]
      have hdi : dg i = a[i] := by show (a[i]?).getD 0 = _; rw [List.getElem?_eq_getElem hi]; rfl
      have xa := da a[i] (List.getElem_mem _)
      have hlt : a[i] / S < T := by rw [Nat.div_lt_iff_lt_mul (by (first | lia | omega)), Nat.mul_comm, ← hST]; exact xa
      let σ₁ : Store := [.val (.lst (M a)), .val (.int s), .val (.int w), .val (.int 0), .val (.int s), .own (M f), .val (.int mask), .val (.int (i : Nat)), .val (.int (dg (i + 1) : Nat))]
      have hfl : f.length < 4096 := by (first | lia | omega)
      have hfi : a[i] / S + (dg (i + 1) % S) * T < B := by
        rw [hST]
        have := Nat.mod_lt (dg (i + 1)) hS
        have h3 : (dg (i + 1) % S + 1) * T ≤ S * T := Nat.mul_le_mul_right _ this
        rw [Nat.add_mul, Nat.one_mul] at h3
        (first | lia | omega)
      refine ⟨[.val (.lst (M a)), .val (.int s), .val (.int w), .val (.int 0), .val (.int s), .own (M f), .val (.int mask), .val (.int (i : Nat)), s8],
        [.val (.lst (M a)), .val (.int s), .val (.int w), .val (.int 0), .val (.int s), .own (M (f ++ [a[i] / S + (dg (i + 1) % S) * T])), .val (.int mask), .val (.int (i : Nat)), .val (.int (dg (i + 1) : Nat))], put_at (t := s7) rfl n7, ?_,
        f ++ [a[i] / S + (dg (i + 1) % S) * T], .val (.int (i : Nat)), .val (.int (dg (i + 1) : Nat)), nl_val _, nl_val _, rfl, by simp [hf], dig_snoc hd hfi, ?_⟩
      · have x1 : ev P (lnOf tab) (.ite (.cmp .lt (.bin .add (.var 7) (.int 1)) (.lenv 0)) (.idxv 0 (.bin .add (.var 7) (.int 1))) (.int 0)) [.val (.lst (M a)), .val (.int s), .val (.int w), .val (.int 0), .val (.int s), .own (M f), .val (.int mask), .val (.int (i : Nat)), s8] =
            some (.val (.int (dg (i + 1) : Nat)), [.val (.lst (M a)), .val (.int s), .val (.int w), .val (.int 0), .val (.int s), .own (M f), .val (.int mask), .val (.int (i : Nat)), s8]) := by
          by_cases h : i + 1 < a.length
          · have hd1 : dg (i + 1) = a[i + 1] := by show (a[i + 1]?).getD 0 = _; rw [List.getElem?_eq_getElem h]; rfl
            have ib : pyIdx (M a) ((i : Int) + 1) = some (.int (a[i + 1] : Nat)) := by rw [show (i : Int) + 1 = ((i + 1 : Nat) : Int) from rfl, pyIdx_nat, M_at h]
            have hlt : (i : Int) + 1 < (a.length : Nat) := by (first | lia | omega)
            rw [hd1]
            simp [exs, ex, ev, evs, evt, evr, mbin, mcmp, icmp, ibin, MR.mv, MR.slot, live, held, lentAt, put, puts, relist, Slot.items?, Slot.list?, MV.items?, short, List.getElem?_cons_zero, List.getElem?_cons_succ, List.set_cons_zero, List.set_cons_succ, List.length_cons, List.length_nil, M_length, Option.map_some, Option.map_none, hsa, hlt, ib]
          · have hd1 : dg (i + 1) = 0 := by show (a[i + 1]?).getD 0 = _; rw [List.getElem?_eq_none (by (first | lia | omega))]; rfl
            have hlt : ¬ (i : Int) + 1 < (a.length : Nat) := by (first | lia | omega)
            rw [hd1]
            simp [exs, ex, ev, evs, evt, evr, mbin, mcmp, icmp, ibin, MR.mv, MR.slot, live, held, lentAt, put, puts, relist, Slot.items?, Slot.list?, MV.items?, short, List.getElem?_cons_zero, List.getElem?_cons_succ, List.set_cons_zero, List.set_cons_succ, List.length_cons, List.length_nil, M_length, Option.map_some, Option.map_none, hsa, hlt]
        rw [exs_step (ex_assign x1 (t := s8) rfl n8)]
        show exs _ _ _ σ₁ = _
        have y1 : ev P (lnOf tab) (.idxv 0 (.var 7)) σ₁ = some (.val (.int (a[i] : Nat)), σ₁) := by
          simp [exs, ex, ev, evs, evt, evr, mbin, mcmp, icmp, ibin, MR.mv, MR.slot, live, held, lentAt, put, puts, relist, Slot.items?, Slot.list?, MV.items?, short, List.getElem?_cons_zero, List.getElem?_cons_succ, List.set_cons_zero, List.set_cons_succ, List.length_cons, List.length_nil, M_length, Option.map_some, Option.map_none, hsa, ia, σ₁]
        have y2 := ev_bin (o := .shr) y1 (ev_var (i := 4) (d := .int s) rfl) (mb_int (hshr a[i]))
        have y3 : ev P (lnOf tab) (.bin .sub (.var 2) (.var 4)) σ₁ = some (.val (.int ((w - s : Nat))), σ₁) := ev_bin (ev_var (i := 2) (d := .int w) rfl) (ev_var (i := 4) (d := .int s) rfl) (mb_int (by rw [ib_sub]; congr 1; (first | lia | omega)))
        have y4 := ev_bin (o := .shl) (ev_var (P := P) (ln := lnOf tab) (i := 8) (d := .int (dg (i + 1) : Nat)) (σ := σ₁) rfl) y3 (mb_int (hshl (dg (i + 1)) (by have := hdg (i + 1); (first | lia | omega))))
        have y5 := ev_bin (o := .bor) y2 y4 (mb_int (ib_bor _ _))
        have hb : ibin .band (((a[i] / S ||| dg (i + 1) * T : Nat)) : Int) (mask : Nat) = some ((a[i] / S + (dg (i + 1) % S) * T : Nat) : Int) := by
          have : ibin .band (((a[i] / S ||| dg (i + 1) * T : Nat)) : Int) (mask : Nat) = some (((a[i] / S ||| dg (i + 1) * T) &&& mask : Nat) : Int) := by simp [ibin]
          rw [this, hand, hor _ _ hlt, hST, mod_split (by (first | lia | omega)) hlt]
        have y6 := ev_bin (o := .band) y5 (ev_var (P := P) (ln := lnOf tab) (i := 6) (d := .int mask) (σ := σ₁) rfl) (mb_int hb)
        have s2 : ex P (lnOf tab) (.append 5 (.bin .band (.bin .bor (.bin .shr (.idxv 0 (.var 7)) (.var 4)) (.bin .shl (.var 8) (.bin .sub (.var 2) (.var 4)))) (.var 6))) σ₁ = some (.next, [.val (.lst (M a)), .val (.int s), .val (.int w), .val (.int 0), .val (.int s), .own (M (f ++ [a[i] / S + (dg (i + 1) % S) * T])), .val (.int mask), .val (.int (i : Nat)), .val (.int (dg (i + 1) : Nat))]) := by
          rw [ex, if_pos (by rfl), y6, ← M_push]
          simp [σ₁, Slot.list?, short, hfl, relist, MR.mv]
        rw [exs_step s2]
        rfl
      · rw [val_snoc, hf, Nat.pow_succ, val_take_succ hi]
        have h1 := Nat.div_add_mod a[i] S
        have h2 : B ^ i * (S * (a[i] / S) + a[i] % S) = B ^ i * a[i] := by rw [h1]
        rw [hdi] at hval
        rw [Nat.mul_add] at h2
        have h3 : B ^ i * (a[i] / S + dg (i + 1) % S * T) * S = B ^ i * (S * (a[i] / S)) + B ^ i * B * (dg (i + 1) % S) := by
          exact arith1 _ _ _ hST
        rw [Nat.add_mul, h3]
        (first | lia | omega)) (σ := [.val (.lst (M a)), .val (.int s), .val (.int w), .val (.int 0), .val (.int s), .own (M []), .val (.int mask), .unset, .unset])
    ⟨[], .unset, .unset, nl_unset, nl_unset, rfl, rfl, by intro c hc; simp at hc, by simp [val]⟩
  have hend : dg a.length = 0 := by show (a[a.length]?).getD 0 = 0; rw [List.getElem?_eq_none (by (first | lia | omega))]; rfl
  rw [List.take_length, va, hend, Nat.zero_mod, Nat.mul_zero, Nat.add_zero] at q3
  have hr0 : dg 0 % S = 0 := by
    have h1 : (val B f * S + dg 0 % S) % S = (z * S) % S := by rw [q3]
    rw [Nat.mul_mod_left, Nat.mul_comm, Nat.mul_add_mod, Nat.mod_mod] at h1
    exact h1
  have hfv : val B f = z := by
    rw [hr0, Nat.add_zero] at q3
    exact Nat.eq_of_mul_eq_mul_right (by (first | lia | omega)) q3
  have hnorm := hnorm0 f (by (first | lia | omega)) q2 hfv
  refine run_plain (σ₁ := [.val (.lst (M a)), .val (.int s), .val (.int w), .val (.int 0), .val (.int s), .val (.lst (M f)), .val (.int mask), s7, s8]) rfl (by decide) rfl ?_
  show exs P _ ir_shift_right.body [.val (.lst (M a)), .val (.int s), .val (.int w), .unset, .unset, .unset, .unset, .unset, .unset] = _
  have w0 : ¬ ((w : Int) < 0) := by (first | lia | omega)
  have w1 : (w : Int) < 64 := by (first | lia | omega)
  have sm : small 1 = true := by decide
  have ln0 : lnOf tab 0 = false := by decide
  have u2 : (a.length : Int) < 4096 := by (first | lia | omega)
  have u3 : -4096 < (a.length : Int) := by (first | lia | omega)
  have l1 : (rangeUp 0 (a.length : Int)).length < 4096 := by rw [rangeUp, List.length_map, List.length_range]; (first | lia | omega)
  have d1 := ib_fdiv (x := s) (c := w) (by (first | lia | omega)) (by (first | lia | omega))
  have d2 := ib_mod (x := s) (c := w) (by (first | lia | omega))
  rw [Nat.div_eq_of_lt hs] at d1
  rw [Nat.mod_eq_of_lt hs] at d2
  have x1 : ev P (lnOf tab) (.bin .fdiv (.var 1) (.var 2)) [.val (.lst (M a)), .val (.int s), .val (.int w), .unset, .unset, .unset, .unset, .unset, .unset] = some (.val (.int ((0 : Nat))), [.val (.lst (M a)), .val (.int s), .val (.int w), .unset, .unset, .unset, .unset, .unset, .unset]) := ev_bin (ev_var rfl) (ev_var rfl) (mb_int d1)
  have x2 : ev P (lnOf tab) (.bin .mod (.var 1) (.var 2)) [.val (.lst (M a)), .val (.int s), .val (.int w), .unset, .unset, .unset, .unset, .unset, .unset] = some (.val (.int (s : Nat)), [.val (.lst (M a)), .val (.int s), .val (.int w), .unset, .unset, .unset, .unset, .unset, .unset]) := ev_bin (ev_var rfl) (ev_var rfl) (mb_int d2)
  unfold ir_shift_right
  simp only
  rw [exs_step (σ₁ := [.val (.lst (M a)), .val (.int s), .val (.int w), .val (.int 0), .val (.int s), .unset, .unset, .unset, .unset]) (ex_assigns (evr_two x1 x2) (puts_two (t := .unset) (u := .unset) (by decide) rfl rfl nl_unset nl_unset))]
  rw [exs_step (σ₁ := [.val (.lst (M a)), .val (.int s), .val (.int w), .val (.int 0), .val (.int s), .own (M []), .val (.int mask), .unset, .unset]) (by simp [exs, ex, ev, evs, evt, evr, mbin, mcmp, icmp, ibin, MR.mv, MR.slot, live, held, lentAt, put, puts, relist, Slot.items?, Slot.list?, MV.items?, short, List.getElem?_cons_zero, List.getElem?_cons_succ, List.set_cons_zero, List.set_cons_succ, List.length_cons, List.length_nil, M_length, Option.map_some, Option.map_none, sm, w0, w1, hmi])]
  rw [exs_step (σ₁ := [.val (.lst (M a)), .val (.int s), .val (.int w), .val (.int 0), .val (.int s), .own (M f), .val (.int mask), s7, s8]) (by rw [ex]; simp [evt, ev, Slot.items?, MV.items?, short, hsa, u2, u3, l1]; exact e1)]
  refine exs_ret ?_
  rw [ex]
  simp [ev, evs, ln0, P, hnorm, MR.mv]
end Mine

end
-- PureI
section
set_option autoImplicit false
set_option maxRecDepth 100000
set_option linter.all false
set_option backward.match.sparseCases false
set_option bootstrap.genMatcherCode false
namespace Mine

theorem ev_min {P : Fns} {ln : Nat → Bool} {a b : IE} {σ σ₁ σ₂ : Store} {i j m : Int} (h1 : ev P ln a σ = some (.val (.int i), σ₁)) (h2 : ev P ln b σ₁ = some (.val (.int j), σ₂)) (h : (if j < i then j else i) = m) : ev P ln (.min a b) σ = some (.val (.int m), σ₂) := by
  rw [ev, h1]
  simp only [h2, h]

theorem guess_loop (P : Fns) (ln : Nat → Bool) {w B : Nat} (hw' : w < 16) (hBw : 2 ^ w = B) (hB : 2 ≤ B) (hB' : B < 65536) {r0 r1 r2 d1 d0 high : Nat} (hr0 : r0 < B) (hd1 : 0 < d1) (hd0 : d0 < B) : ∀ (limb rest fuel : Nat), limb < fuel → limb * d1 + rest = high → limb < B → high * B + r0 < (limb + 1) * (d1 * B + d0) →
    ∃ rest', whileL (ev P ln (.and (.cmp .lt (.var 7) (.var 5)) (.cmp .gt (.bin .mul (.var 6) (.var 2)) (.bin .bor (.bin .shl (.var 7) (.var 3)) (.idxv 0 (.int 0)))))) (exs P ln [.aug 6 .sub (.int 1), .aug 7 .add (.var 1)]) fuel
      [.val (.lst (M [r0, r1, r2])), .val (.int d1), .val (.int d0), .val (.int w), .val (.int high), .val (.int B), .val (.int limb), .val (.int rest)] =
      some (.next, [.val (.lst (M [r0, r1, r2])), .val (.int d1), .val (.int d0), .val (.int w), .val (.int high), .val (.int B), .val (.int (((high * B + r0) / (d1 * B + d0) : Nat))), .val (.int (rest' : Nat))]) := by
  intro limb
  induction limb with
  | zero =>
    intro rest fuel hf hh hl hx
    obtain ⟨f, rfl⟩ : ∃ f, fuel = f + 1 := ⟨fuel - 1, by (first | lia | omega)⟩
    have hq : (high * B + r0) / (d1 * B + d0) = 0 := Nat.div_eq_of_lt (by simpa using hx)
    rw [hq]
    refine ⟨rest, ?_⟩
    let σ : Store := [.val (.lst (M [r0, r1, r2])), .val (.int d1), .val (.int d0), .val (.int w), .val (.int high), .val (.int B), .val (.int (0 : Nat)), .val (.int rest)]
    show whileL _ _ (f + 1) σ = some (.next, σ)
    have t1 := ev_cmp (P := P) (ln := ln) (o := .lt) (a := .var 7) (b := .var 5) (σ := σ) (ev_var (d := .int rest) rfl) (ev_var (d := .int B) rfl) (mc_lt _ _)
    refine while_false ?_
    by_cases h : (rest : Int) < B
    · rw [decide_eq_true h] at t1
      have i0 : ev P ln (.idxv 0 (.int 0)) σ = some (.val (.int r0), σ) := by
        have : pyIdx (M [r0, r1, r2]) 0 = some (.int (r0 : Nat)) := rfl
        simp only [List.map_cons, List.map_nil] at this
        simp [exs, ex, ev, evs, evt, evr, mbin, mcmp, icmp, ibin, MR.mv, MR.slot, live, held, lentAt, put, puts, relist, Slot.items?, Slot.list?, MV.items?, short, List.getElem?_cons_zero, List.getElem?_cons_succ, List.set_cons_zero, List.set_cons_succ, List.length_cons, List.length_nil, M_length, Option.map_some, Option.map_none, σ, this]
      have y1 := ev_bin (P := P) (ln := ln) (o := .shl) (a := .var 7) (b := .var 3) (σ := σ) (ev_var (d := .int rest) rfl) (ev_var (d := .int w) rfl) (mb_int (ib_shl (by (first | lia | omega)) (by (first | lia | omega))))
      have y2 := ev_bin (o := .bor) y1 i0 (mb_int (ib_bor _ _))
      have y3 := ev_bin (P := P) (ln := ln) (o := .mul) (a := .var 6) (b := .var 2) (σ := σ) (ev_var (d := .int (0 : Nat)) rfl) (ev_var (d := .int d0) rfl) (mb_int (ib_mul (small_nat (by (first | lia | omega))) (small_nat (by (first | lia | omega)))))
      have y4 := ev_cmp (o := .gt) y3 y2 (mc_gt _ _)
      rw [decide_eq_false (by simp)] at y4
      exact ev_and_t t1 y4
    · rw [decide_eq_false h] at t1
      exact ev_and_f t1
  | succ limb ih =>
    intro rest fuel hf hh hl hx
    obtain ⟨f, rfl⟩ : ∃ f, fuel = f + 1 := ⟨fuel - 1, by (first | lia | omega)⟩
    let σ : Store := [.val (.lst (M [r0, r1, r2])), .val (.int d1), .val (.int d0), .val (.int w), .val (.int high), .val (.int B), .val (.int (limb + 1 : Nat)), .val (.int rest)]
    have t1 := ev_cmp (P := P) (ln := ln) (o := .lt) (a := .var 7) (b := .var 5) (σ := σ) (ev_var (d := .int rest) rfl) (ev_var (d := .int B) rfl) (mc_lt _ _)
    have e1 : (limb + 1) * (d1 * B + d0) = (limb + 1) * d1 * B + (limb + 1) * d0 := by rw [Nat.mul_add, ← Nat.mul_assoc]
    have e2 : high * B = (limb + 1) * d1 * B + rest * B := by rw [← hh, Nat.add_mul]
    have done : (limb + 1) * d0 ≤ rest * B + r0 → (high * B + r0) / (d1 * B + d0) = limb + 1 := fun h => Nat.div_eq_of_lt_le (by (first | lia | omega)) hx
    show ∃ rest', whileL _ _ (f + 1) σ = _
    by_cases h : (rest : Int) < B
    · rw [decide_eq_true h] at t1
      have i0 : ev P ln (.idxv 0 (.int 0)) σ = some (.val (.int r0), σ) := by
        have : pyIdx (M [r0, r1, r2]) 0 = some (.int (r0 : Nat)) := rfl
        simp only [List.map_cons, List.map_nil] at this
        simp [exs, ex, ev, evs, evt, evr, mbin, mcmp, icmp, ibin, MR.mv, MR.slot, live, held, lentAt, put, puts, relist, Slot.items?, Slot.list?, MV.items?, short, List.getElem?_cons_zero, List.getElem?_cons_succ, List.set_cons_zero, List.set_cons_succ, List.length_cons, List.length_nil, M_length, Option.map_some, Option.map_none, σ, this]
      have y1 := ev_bin (P := P) (ln := ln) (o := .shl) (a := .var 7) (b := .var 3) (σ := σ) (ev_var (d := .int rest) rfl) (ev_var (d := .int w) rfl) (mb_int (ib_shl (by (first | lia | omega)) (by (first | lia | omega))))
      rw [hBw] at y1
      have y2 := ev_bin (o := .bor) y1 i0 (mb_int (by rw [ib_bor, ← hBw, or_add (by rw [hBw]; exact hr0), hBw]))
      have y3 := ev_bin (P := P) (ln := ln) (o := .mul) (a := .var 6) (b := .var 2) (σ := σ) (ev_var (d := .int (limb + 1 : Nat)) rfl) (ev_var (d := .int d0) rfl) (mb_int (ib_mul (small_nat (by (first | lia | omega))) (small_nat (by (first | lia | omega)))))
      have y4 := ev_cmp (o := .gt) y3 y2 (mc_gt _ _)
      by_cases hg : rest * B + r0 < (limb + 1) * d0
      · have hg' : (((limb + 1 : Nat) : Int) * (d0 : Int)) > ((rest * B + r0 : Nat) : Int) := by
          have : ((limb + 1 : Nat) : Int) * (d0 : Int) = (((limb + 1) * d0 : Nat) : Int) := by push_cast; rfl
          rw [this]; (first | lia | omega)
        rw [decide_eq_true hg'] at y4
        have b1 : exs P ln [.aug 6 .sub (.int 1), .aug 7 .add (.var 1)] σ = some (.next, [.val (.lst (M [r0, r1, r2])), .val (.int d1), .val (.int d0), .val (.int w), .val (.int high), .val (.int B), .val (.int (limb : Nat)), .val (.int ((rest + d1 : Nat)))]) := by
          have hs : ibin .sub ((limb + 1 : Nat) : Int) 1 = some ((limb : Nat) : Int) := by rw [ib_sub]; exact congrArg some (by (first | lia | omega))
          rw [exs_step (ex_aug (P := P) (ln := ln) (o := .sub) (e := .int 1) (σ := σ) (σ₁ := σ) (i := (limb + 1 : Nat)) (j := 1) rfl (by rw [ev]) hs (t := .val (.int (limb + 1 : Nat))) rfl (nl_val _))]
          rw [exs_step (ex_aug (P := P) (ln := ln) (o := .add) (e := .var 1) (i := (rest : Nat)) (j := (d1 : Nat)) rfl (ev_var (d := .int d1) rfl) (ib_add _ _) (t := .val (.int (rest : Nat))) rfl (nl_val _))]
          rfl
        rw [while_true (ev_and_t t1 y4) b1]
        refine ih (rest + d1) f (by (first | lia | omega)) ?_ (by (first | lia | omega)) ?_
        · rw [Nat.add_mul] at hh; (first | lia | omega)
        · (first | lia | omega)
      · have hg' : ¬ (((limb + 1 : Nat) : Int) * (d0 : Int)) > ((rest * B + r0 : Nat) : Int) := by
          have : ((limb + 1 : Nat) : Int) * (d0 : Int) = (((limb + 1) * d0 : Nat) : Int) := by push_cast; rfl
          rw [this]; (first | lia | omega)
        rw [decide_eq_false hg'] at y4
        refine ⟨rest, ?_⟩
        rw [while_false (ev_and_t t1 y4), done (by (first | lia | omega))]
    · rw [decide_eq_false h] at t1
      refine ⟨rest, ?_⟩
      rw [while_false (ev_and_f t1), done ?_]
      have h1 : (limb + 1) * d0 ≤ rest * d0 := Nat.mul_le_mul_right _ (by (first | lia | omega))
      have h2 : rest * d0 ≤ rest * B := Nat.mul_le_mul_left _ (by (first | lia | omega))
      (first | lia | omega)

theorem guess_spec (k : Nat) {w : Nat} (hw : 1 ≤ w) (hw' : w < 12) {r0 r1 r2 d1 d0 : Nat} (h0 : r0 < 2 ^ w) (h1 : r1 < 2 ^ w) (h2 : r2 < 2 ^ w) (hd1 : 0 < d1) (hd1' : d1 < 2 ^ w) (hd0 : d0 < 2 ^ w)
    (hX : val (2 ^ w) [r0, r1, r2] < 2 ^ w * val (2 ^ w) [d0, d1]) : Phi tab (k + 1) 22 [.lst (M [r0, r1, r2]), .int d1, .int d0, .int w] = some (.int ((val (2 ^ w) [r0, r1, r2] / val (2 ^ w) [d0, d1] : Nat)), []) := by
  obtain ⟨hB, hB'⟩ := pow_facts hw (show w < 16 by (first | lia | omega))
  have hB4 : 2 ^ w ≤ 2048 := by
    have := Nat.pow_le_pow_right (n := 2) (by (first | lia | omega)) (show w ≤ 11 by (first | lia | omega))
    simpa using this
  rw [phi_succ k 22 _ (fd := ir_guessed_limb) rfl]
  have hBw : 2 ^ w = 2 ^ w := rfl
  have hshl : ∀ r : Nat, r < 65536 → ibin .shl (r : Int) (w : Int) = some ((r * 2 ^ w : Nat) : Int) := fun r h => ib_shl (by (first | lia | omega)) (by (first | lia | omega))
  have hor : r2 * 2 ^ w ||| r1 = r2 * 2 ^ w + r1 := or_add h1
  generalize hBd : 2 ^ w = B at *
  have vX : val B [r0, r1, r2] = (r2 * B + r1) * B + r0 := by simp [val, Nat.mul_add, Nat.add_mul, Nat.mul_comm, Nat.mul_left_comm]; (first | lia | omega)
  have vY : val B [d0, d1] = d1 * B + d0 := by simp [val, Nat.mul_comm]; (first | lia | omega)
  rw [vX, vY] at hX ⊢
  obtain ⟨high, hhigh⟩ : ∃ h, h = r2 * B + r1 := ⟨_, rfl⟩
  rw [← hhigh] at hX ⊢
  obtain ⟨limb, hlimb⟩ : ∃ l, l = min (high / d1) (B - 1) := ⟨_, rfl⟩
  have hle : limb ≤ high / d1 := by rw [hlimb]; exact Nat.min_le_left _ _
  have hmul : limb * d1 ≤ high := Nat.le_trans (Nat.mul_le_mul_right _ hle) (Nat.div_mul_le_self _ _)
  have hlB : limb < B := by rw [hlimb]; have := Nat.min_le_right (high / d1) (B - 1); (first | lia | omega)
  have hXl : high * B + r0 < (limb + 1) * (d1 * B + d0) := by
    rcases Nat.le_total (high / d1) (B - 1) with q | q
    · have e : limb = high / d1 := by rw [hlimb, Nat.min_eq_left q]
      have h3 : high < (limb + 1) * d1 := by rw [e, ← Nat.div_lt_iff_lt_mul hd1]; (first | lia | omega)
      have h4 : (high + 1) * B ≤ (limb + 1) * d1 * B := Nat.mul_le_mul_right _ h3
      rw [Nat.add_mul, Nat.one_mul] at h4
      rw [Nat.mul_add, ← Nat.mul_assoc]
      (first | lia | omega)
    · have e : limb = B - 1 := by rw [hlimb, Nat.min_eq_right q]
      have : limb + 1 = B := by (first | lia | omega)
      rw [this]; exact hX
  obtain ⟨rest', hloop⟩ := guess_loop (Phi tab k) (lnOf tab) (r1 := r1) (r2 := r2) (by (first | lia | omega)) hBd hB hB' h0 hd1 hd0 limb (high - limb * d1) 4096 (by (first | lia | omega)) (by (first | lia | omega)) hlB hXl
  refine run_plain (σ₁ := [.val (.lst (M [r0, r1, r2])), .val (.int d1), .val (.int d0), .val (.int w), .val (.int high), .val (.int B), .val (.int (((high * B + r0) / (d1 * B + d0) : Nat))), .val (.int (rest' : Nat))]) rfl (by decide) rfl ?_
  show exs _ _ ir_guessed_limb.body [.val (.lst (M [r0, r1, r2])), .val (.int d1), .val (.int d0), .val (.int w), .unset, .unset, .unset, .unset] = _
  let σ : Store := [.val (.lst (M [r0, r1, r2])), .val (.int d1), .val (.int d0), .val (.int w), .unset, .unset, .unset, .unset]
  have i1 : ev (Phi tab k) (lnOf tab) (.idxv 0 (.int 1)) σ = some (.val (.int r1), σ) := by
    have : pyIdx (M [r0, r1, r2]) 1 = some (.int (r1 : Nat)) := rfl
    simp only [List.map_cons, List.map_nil] at this
    simp [exs, ex, ev, evs, evt, evr, mbin, mcmp, icmp, ibin, MR.mv, MR.slot, live, held, lentAt, put, puts, relist, Slot.items?, Slot.list?, MV.items?, short, List.getElem?_cons_zero, List.getElem?_cons_succ, List.set_cons_zero, List.set_cons_succ, List.length_cons, List.length_nil, M_length, Option.map_some, Option.map_none, σ, this]
  have i2 : ev (Phi tab k) (lnOf tab) (.idxv 0 (.int 2)) σ = some (.val (.int r2), σ) := by
    have : pyIdx (M [r0, r1, r2]) 2 = some (.int (r2 : Nat)) := rfl
    simp only [List.map_cons, List.map_nil] at this
    simp [exs, ex, ev, evs, evt, evr, mbin, mcmp, icmp, ibin, MR.mv, MR.slot, live, held, lentAt, put, puts, relist, Slot.items?, Slot.list?, MV.items?, short, List.getElem?_cons_zero, List.getElem?_cons_succ, List.set_cons_zero, List.set_cons_succ, List.length_cons, List.length_nil, M_length, Option.map_some, Option.map_none, σ, this]
  have x1 := ev_bin (o := .bor) (ev_bin (o := .shl) i2 (ev_var (P := Phi tab k) (ln := lnOf tab) (i := 3) (d := .int w) rfl) (mb_int (hshl r2 (by (first | lia | omega))))) i1 (mb_int (by rw [ib_bor, hor, ← hhigh]))
  have x2 : ev (Phi tab k) (lnOf tab) (.bin .shl (.int 1) (.var 3)) σ = some (.val (.int B), σ) := ev_bin (by rw [ev]) (ev_var (d := .int w) rfl) (mb_int (by have := hshl 1 (by (first | lia | omega)); rw [Nat.one_mul] at this; exact this))
  unfold ir_guessed_limb
  simp only
  rw [exs_step (ex_assigns (evr_two x1 x2) (puts_two (t := .unset) (u := .unset) (by decide) rfl rfl nl_unset nl_unset))]
  let σ2 : Store := [.val (.lst (M [r0, r1, r2])), .val (.int d1), .val (.int d0), .val (.int w), .val (.int high), .val (.int B), .unset, .unset]
  show exs _ _ _ σ2 = _
  have z1 := ev_bin (P := Phi tab k) (ln := lnOf tab) (o := .fdiv) (a := .var 4) (b := .var 1) (σ := σ2) (ev_var (d := .int high) rfl) (ev_var (d := .int d1) rfl) (mb_int (ib_fdiv hd1 (by (first | lia | omega))))
  have z2 : ev (Phi tab k) (lnOf tab) (.bin .sub (.var 5) (.int 1)) σ2 = some (.val (.int ((B - 1 : Nat))), σ2) := ev_bin (ev_var (d := .int B) rfl) (by rw [ev]) (mb_int (by rw [ib_sub]; exact congrArg some (by (first | lia | omega))))
  have z3 : ev (Phi tab k) (lnOf tab) (.min (.bin .fdiv (.var 4) (.var 1)) (.bin .sub (.var 5) (.int 1))) σ2 = some (.val (.int (limb : Nat)), σ2) := by
    refine ev_min z1 z2 ?_
    rw [hlimb]
    rcases Nat.le_total (high / d1) (B - 1) with q | q
    · rw [Nat.min_eq_left q, if_neg (by (first | lia | omega))]
    · rw [Nat.min_eq_right q]
      split
      · rfl
      · (first | lia | omega)
  rw [exs_step (ex_assign z3 (t := .unset) rfl nl_unset)]
  let σ3 : Store := [.val (.lst (M [r0, r1, r2])), .val (.int d1), .val (.int d0), .val (.int w), .val (.int high), .val (.int B), .val (.int limb), .unset]
  show exs _ _ _ σ3 = _
  have z4 : ev (Phi tab k) (lnOf tab) (.bin .sub (.var 4) (.bin .mul (.var 6) (.var 1))) σ3 = some (.val (.int ((high - limb * d1 : Nat))), σ3) :=
    ev_bin (ev_var (d := .int high) rfl) (ev_bin (ev_var (d := .int limb) rfl) (ev_var (d := .int d1) rfl) (mb_int (ib_mul (small_nat (by (first | lia | omega))) (small_nat (by (first | lia | omega))))))
      (mb_int (by
        rw [ib_sub]
        have : (limb : Int) * (d1 : Int) = ((limb * d1 : Nat) : Int) := by push_cast; rfl
        rw [this]; exact congrArg some (by (first | lia | omega))))
  rw [exs_step (ex_assign z4 (t := .unset) rfl nl_unset)]
  rw [exs_step (σ₁ := [.val (.lst (M [r0, r1, r2])), .val (.int d1), .val (.int d0), .val (.int w), .val (.int high), .val (.int B), .val (.int (((high * B + r0) / (d1 * B + d0) : Nat))), .val (.int (rest' : Nat))]) (by rw [ex]; exact hloop)]
  refine exs_ret ?_
  rw [ex, ev_var (d := .int (((high * B + r0) / (d1 * B + d0) : Nat))) rfl]
  rfl
end Mine

end
-- PureJ
section
set_option autoImplicit false
set_option maxRecDepth 100000
set_option linter.all false
set_option backward.match.sparseCases false
set_option bootstrap.genMatcherCode false
namespace Mine

theorem short_len {l : List MV} : short l = true ↔ l.length < 4096 := by simp [short]

theorem run_lend {P : Fns} {ln : Nat → Bool} {fd : IFun} {l out : List MV} {ds : List MV} {d : MV} {σ₁ : Store} (h1 : ds.length + 1 = fd.np) (h2 : fd.np ≤ fd.nv) (hl : fd.lends = true)
    (h : exs P ln fd.body (.lent l :: (ds.map Slot.val ++ List.replicate (fd.nv - fd.np) Slot.unset)) = some (.ret d, σ₁)) (ho : σ₁[0]? = some (.lent out)) : runF P ln fd (.lst l :: ds) = some (d, out) := by
  have h0 : store0 fd (.lst l :: ds) = some (.lent l :: (ds.map Slot.val ++ List.replicate (fd.nv - fd.np) Slot.unset)) := by
    unfold store0
    rw [if_pos ⟨by rw [List.length_cons]; exact h1, h2⟩, hl]
  have h3 : out0 fd σ₁ = some out := by unfold out0; rw [if_pos hl, ho]
  simp [runF, h0, h, h3]

theorem ex_setItem {P : Fns} {ln : Nat → Bool} {x : Nat} {i e : IE} {σ σ₁ σ₂ : Store} {r : MR} {k : Nat} {l : List MV} (h1 : ev P ln e σ = some (r, σ₁)) (hlv : live σ₁ x = true) (h2 : ev P ln i σ₁ = some (.val (.int (k : Nat)), σ₂)) (hs : σ₂[x]? = some (.lent l))
    (hk : k < l.length) (hsh : l.length < 4096) : ex P ln (.setItem x i e) σ = some (.next, σ₂.set x (.lent (l.set k r.mv))) := by
  rw [ex, h1]
  have h0 : (0 : Int) ≤ (k : Nat) := by (first | lia | omega)
  have h3 : ((k : Nat) : Int) < (l.length : Nat) := by (first | lia | omega)
  simp only [hlv, if_true, h2, hs, Slot.list?, decide_eq_true h0, decide_eq_true h3, short, decide_eq_true hsh, Bool.and_self, relist, Int.toNat_natCast]
theorem ex_setOwn {P : Fns} {ln : Nat → Bool} {x : Nat} {i e : IE} {σ σ₁ σ₂ : Store} {r : MR} {k : Nat} {l : List MV} (h1 : ev P ln e σ = some (r, σ₁)) (hlv : live σ₁ x = true) (h2 : ev P ln i σ₁ = some (.val (.int (k : Nat)), σ₂)) (hs : σ₂[x]? = some (.own l))
    (hk : k < l.length) (hsh : l.length < 4096) : ex P ln (.setItem x i e) σ = some (.next, σ₂.set x (.own (l.set k r.mv))) := by
  rw [ex, h1]
  have h0 : (0 : Int) ≤ (k : Nat) := by (first | lia | omega)
  have h3 : ((k : Nat) : Int) < (l.length : Nat) := by (first | lia | omega)
  simp only [hlv, if_true, h2, hs, Slot.list?, decide_eq_true h0, decide_eq_true h3, short, decide_eq_true hsh, Bool.and_self, relist, Int.toNat_natCast]
theorem ev_idxv {P : Fns} {ln : Nat → Bool} {x : Nat} {i : IE} {σ σ₁ : Store} {k : Nat} {s : Slot} {l : List MV} {d : MV} (hlv : live σ x = true) (h : ev P ln i σ = some (.val (.int (k : Nat)), σ₁)) (hs : σ₁[x]? = some s) (hl : s.items? = some l) (hsh : l.length < 4096) (hd : l[k]? = some d) :
    ev P ln (.idxv x i) σ = some (.val d, σ₁) := by
  rw [ev, if_pos hlv, h]
  simp only [hs, hl, short, decide_eq_true hsh, if_true, pyIdx_nat, hd, Option.map_some]
theorem ev_lenv {P : Fns} {ln : Nat → Bool} {x : Nat} {σ : Store} {s : Slot} {l : List MV} (hs : σ[x]? = some s) (hl : s.items? = some l) (hsh : l.length < 4096) : ev P ln (.lenv x) σ = some (.val (.int (l.length : Nat)), σ) := by
  rw [ev, hs]
  simp only [hl, short, decide_eq_true hsh, if_true]
theorem ev_int {P : Fns} {ln : Nat → Bool} {i : Int} {σ : Store} : ev P ln (.int i) σ = some (.val (.int i), σ) := by rw [ev]

theorem take_step {B g d limb c : Nat} (hB : 2 ≤ B) : ((g : Int) - ((limb * d + c) % B : Nat) < 0 → ∃ v : Nat, v < B ∧ (g : Int) - ((limb * d + c) % B : Nat) + B = v ∧ v + (limb * d + c) = g + B * ((limb * d + c) / B + 1)) ∧
    (g < B → ¬ (g : Int) - ((limb * d + c) % B : Nat) < 0 → ∃ v : Nat, v < B ∧ (g : Int) - ((limb * d + c) % B : Nat) = v ∧ v + (limb * d + c) = g + B * ((limb * d + c) / B)) := by
  have h1 := Nat.mod_add_div (limb * d + c) B
  have h2 := Nat.mod_lt (limb * d + c) (show 0 < B by (first | lia | omega))
  generalize limb * d + c = t at *
  constructor
  · intro h
    refine ⟨g + B - t % B, by (first | lia | omega), by (first | lia | omega), ?_⟩
    rw [Nat.mul_add]; (first | lia | omega)
  · intro hg h
    refine ⟨g - t % B, by (first | lia | omega), by (first | lia | omega), by (first | lia | omega)⟩

theorem takeaway_spec (k : Nat) {w : Nat} (hw : 1 ≤ w) (hw' : w < 12) {r0 r1 r2 d0 d1 q : Nat} (h0 : r0 < 2 ^ w) (h1 : r1 < 2 ^ w) (h2 : r2 < 2 ^ w) (hd0 : d0 < 2 ^ w) (hd1 : d1 < 2 ^ w) (hq : q < 2 ^ w)
    (hX : q * val (2 ^ w) [d0, d1] ≤ val (2 ^ w) [r0, r1, r2]) : ∃ g : List Nat, g.length = 3 ∧ Dig (2 ^ w) g ∧ val (2 ^ w) g + q * val (2 ^ w) [d0, d1] = val (2 ^ w) [r0, r1, r2] ∧
      Phi tab (k + 1) 23 [.lst (M [r0, r1, r2]), .lst (M [d0, d1]), .int q, .int (0 : Nat), .int w] = some (.int 0, M g) := by
  obtain ⟨hB, hB'⟩ := pow_facts hw (show w < 16 by (first | lia | omega))
  rw [phi_succ k 23 _ (fd := ir_take_away) rfl]
  have hshl : ibin .shl (1 : Int) (w : Int) = some ((2 ^ w : Nat) : Int) := by have := ib_shl (x := 1) (w := w) (by (first | lia | omega)) (by (first | lia | omega)); rw [Nat.one_mul] at this; exact this
  generalize 2 ^ w = B at *
  let P := Phi tab k
  let J : Nat → Store → Prop := fun j σ => ∃ (g : List Nat) (c : Nat) (s7 s8 s9 : Slot), NotLent s7 ∧ NotLent s8 ∧ NotLent s9 ∧ σ = [.lent (M g), .val (.lst (M [d0, d1])), .val (.int q), .val (.int (0 : Nat)), .val (.int w), .val (.int (c : Nat)), .val (.int B), s7, s8, s9] ∧
    g.length = 3 ∧ Dig B g ∧ g[2]? = some r2 ∧ val B g + q * val B ([d0, d1].take j) = val B [r0, r1, r2] + B ^ j * c
  obtain ⟨σ', e1, ⟨g, c, s7, s8, s9, n7, n8, n9, rfl, q1, q2, q3, q4⟩⟩ := for_enum (x := 7) (y := 8) (body := exs P (lnOf tab) [.assign 9 (.bin .sub (.idxv 0 (.bin .add (.var 3) (.var 7))) (.bin .mod (.bin .add (.bin .mul (.var 2) (.var 8)) (.var 5)) (.var 6))), .assign 5 (.bin .add (.bin .fdiv (.bin .add (.bin .mul (.var 2) (.var 8)) (.var 5)) (.var 6)) (.ite (.cmp .lt (.var 9) (.int 0)) (.int 1) (.int 0))), .setItem 0 (.bin .add (.var 3) (.var 7)) (.ite (.cmp .lt (.var 9) (.int 0)) (.bin .add (.var 9) (.var 6)) (.var 9))]) J (M [d0, d1])
    (by
      rintro j v σ hv ⟨g, c, s7, s8, s9, n7, n8, n9, rfl, hg, hd, hg2, hval⟩
      rw [M_get] at hv
      obtain ⟨dj, hdj, rfl⟩ := Option.map_eq_some_iff.mp hv
      obtain ⟨hj, hdj'⟩ := List.getElem?_eq_some_iff.mp hdj
      have hj2 : j < 2 := by simpa using hj
      have xd : dj < B := by
        have : dj ∈ [d0, d1] := List.mem_of_getElem? hdj
        simp at this; rcases this with rfl | rfl <;> assumption
      have hjg : j < g.length := by (first | lia | omega)
      have xg := hd g[j] (List.getElem_mem _)
      let σ1 : Store := [.lent (M g), .val (.lst (M [d0, d1])), .val (.int q), .val (.int (0 : Nat)), .val (.int w), .val (.int (c : Nat)), .val (.int B), .val (.int (j : Nat)), .val (.int (dj : Nat)), s9]
      have hgl : (M g).length < 4096 := by rw [M_length]; (first | lia | omega)
      have tev : ∀ (s : Slot), ev P (lnOf tab) (.bin .add (.bin .mul (.var 2) (.var 8)) (.var 5)) [.lent (M g), .val (.lst (M [d0, d1])), .val (.int q), .val (.int (0 : Nat)), .val (.int w), .val (.int (c : Nat)), .val (.int B), .val (.int (j : Nat)), .val (.int (dj : Nat)), s] =
          some (.val (.int ((q * dj + c : Nat))), [.lent (M g), .val (.lst (M [d0, d1])), .val (.int q), .val (.int (0 : Nat)), .val (.int w), .val (.int (c : Nat)), .val (.int B), .val (.int (j : Nat)), .val (.int (dj : Nat)), s]) := fun s =>
        ev_bin (ev_bin (ev_var (d := .int q) rfl) (ev_var (d := .int (dj : Nat)) rfl) (mb_int (ib_mul (small_nat (by (first | lia | omega))) (small_nat (by (first | lia | omega)))))) (ev_var (d := .int (c : Nat)) rfl) (mb_int (by rw [ib_add]; push_cast; rfl))
      have atev : ∀ (τ : Store), τ[3]? = some (.val (.int (0 : Nat))) → τ[7]? = some (.val (.int (j : Nat))) → ev P (lnOf tab) (.bin .add (.var 3) (.var 7)) τ = some (.val (.int (j : Nat)), τ) := fun τ h3 h7 =>
        ev_bin (ev_var h3) (ev_var h7) (mb_int (by rw [ib_add]; exact congrArg some (by (first | lia | omega))))
      have gev : ev P (lnOf tab) (.idxv 0 (.bin .add (.var 3) (.var 7))) σ1 = some (.val (.int (g[j] : Nat)), σ1) := ev_idxv rfl (atev σ1 rfl rfl) (s := .lent (M g)) rfl rfl hgl (M_at hjg)
      obtain ⟨here, hhere⟩ : ∃ h : Int, h = (g[j] : Nat) - ((q * dj + c) % B : Nat) := ⟨_, rfl⟩
      have x1 : ev P (lnOf tab) (.bin .sub (.idxv 0 (.bin .add (.var 3) (.var 7))) (.bin .mod (.bin .add (.bin .mul (.var 2) (.var 8)) (.var 5)) (.var 6))) σ1 = some (.val (.int here), σ1) :=
        ev_bin gev (ev_bin (tev s9) (ev_var (d := .int B) rfl) (mb_int (ib_mod (by (first | lia | omega))))) (mb_int (by rw [ib_sub, hhere]))
      let σ2 : Store := [.lent (M g), .val (.lst (M [d0, d1])), .val (.int q), .val (.int (0 : Nat)), .val (.int w), .val (.int (c : Nat)), .val (.int B), .val (.int (j : Nat)), .val (.int (dj : Nat)), .val (.int here)]
      have st1 := ex_assign x1 (x := 9) (t := s9) rfl n9
      have hput : puts [.lent (M g), .val (.lst (M [d0, d1])), .val (.int q), .val (.int (0 : Nat)), .val (.int w), .val (.int (c : Nat)), .val (.int B), s7, s8, s9] [7, 8] [.val (.int (j : Nat)), .val (.int (dj : Nat))] = some σ1 := puts_two (t := s7) (u := s8) (by decide) rfl rfl n7 n8
      have key : ∃ (c' v : Nat), v < B ∧ v + (q * dj + c) = g[j] + B * c' ∧ ev P (lnOf tab) (.bin .add (.bin .fdiv (.bin .add (.bin .mul (.var 2) (.var 8)) (.var 5)) (.var 6)) (.ite (.cmp .lt (.var 9) (.int 0)) (.int 1) (.int 0))) σ2 = some (.val (.int (c' : Nat)), σ2) ∧
          ∀ τ : Store, τ[9]? = some (.val (.int here)) → τ[6]? = some (.val (.int B)) → ev P (lnOf tab) (.ite (.cmp .lt (.var 9) (.int 0)) (.bin .add (.var 9) (.var 6)) (.var 9)) τ = some (.val (.int (v : Nat)), τ) := by
        have f1 := ev_bin (o := .fdiv) (tev (.val (.int here))) (ev_var (P := P) (ln := lnOf tab) (i := 6) (d := .int B) rfl) (mb_int (ib_fdiv (x := q * dj + c) (c := B) (by (first | lia | omega)) (by (first | lia | omega))))
        have ct : ∀ τ : Store, τ[9]? = some (.val (.int here)) → ev P (lnOf tab) (.cmp .lt (.var 9) (.int 0)) τ = some (.val (.bool (decide (here < 0))), τ) := fun τ h => ev_cmp (ev_var h) ev_int (mc_lt _ _)
        by_cases hn : here < 0
        · obtain ⟨v, hv1, hv2, hv3⟩ := (take_step (B := B) (g := g[j]) (d := dj) (limb := q) (c := c) hB).1 (by rw [← hhere]; exact hn)
          refine ⟨(q * dj + c) / B + 1, v, hv1, hv3, ?_, fun τ h9 h6 => ?_⟩
          · have := ct σ2 rfl
            rw [decide_eq_true hn] at this
            exact ev_bin f1 (ev_ite_t this ev_int) (mb_int (by rw [ib_add]; rfl))
          · have := ct τ h9
            rw [decide_eq_true hn] at this
            exact ev_ite_t this (ev_bin (ev_var h9) (ev_var h6) (mb_int (by rw [ib_add, ← hv2, hhere])))
        · obtain ⟨v, hv1, hv2, hv3⟩ := (take_step (B := B) (g := g[j]) (d := dj) (limb := q) (c := c) hB).2 xg (by rw [← hhere]; exact hn)
          refine ⟨(q * dj + c) / B, v, hv1, hv3, ?_, fun τ h9 h6 => ?_⟩
          · have := ct σ2 rfl
            rw [decide_eq_false hn] at this
            exact ev_bin f1 (ev_ite_f this ev_int) (mb_int (by rw [ib_add, Int.add_zero]))
          · have := ct τ h9
            rw [decide_eq_false hn] at this
            refine ev_ite_f this ?_
            rw [ev_var h9, hhere, hv2]
      obtain ⟨c', v, hv1, hv2, hv3, hv4⟩ := key
      let σ3 : Store := [.lent (M g), .val (.lst (M [d0, d1])), .val (.int q), .val (.int (0 : Nat)), .val (.int w), .val (.int (c' : Nat)), .val (.int B), .val (.int (j : Nat)), .val (.int (dj : Nat)), .val (.int here)]
      have st2 := ex_assign hv3 (x := 5) (t := .val (.int (c : Nat))) rfl (nl_val _)
      have st3 := ex_setItem (P := P) (ln := lnOf tab) (x := 0) (l := M g) (k := j) (hv4 σ3 rfl rfl) rfl (atev σ3 rfl rfl) rfl (by rw [M_length]; exact hjg) hgl
      refine ⟨σ1, [.lent (M (g.set j v)), .val (.lst (M [d0, d1])), .val (.int q), .val (.int (0 : Nat)), .val (.int w), .val (.int (c' : Nat)), .val (.int B), .val (.int (j : Nat)), .val (.int (dj : Nat)), .val (.int here)], hput, ?_,
        g.set j v, c', .val (.int (j : Nat)), .val (.int (dj : Nat)), .val (.int here), nl_val _, nl_val _, nl_val _, rfl, by rw [List.length_set]; exact hg, dig_set hd hv1, by rw [List.getElem?_set_ne (by (first | lia | omega))]; exact hg2, ?_⟩
      · rw [exs_step st1]
        show exs _ _ _ σ2 = _
        rw [exs_step st2]
        show exs _ _ _ σ3 = _
        rw [exs_step st3, M_set]
        rfl
      · have hset := val_set (B := B) (d := g) v hjg
        have ht : val B ([d0, d1].take (j + 1)) = val B ([d0, d1].take j) + B ^ j * dj := by rw [val_take_succ hj, hdj']
        rw [ht, Nat.pow_succ]
        have h5 : B ^ j * (v + (q * dj + c)) = B ^ j * (g[j] + B * c') := by rw [hv2]
        rw [Nat.mul_add, Nat.mul_add, Nat.mul_add, ← Nat.mul_assoc (B ^ j) B] at h5
        rw [Nat.mul_add q, Nat.mul_left_comm q (B ^ j)]
        (first | lia | omega)) (σ := [.lent (M [r0, r1, r2]), .val (.lst (M [d0, d1])), .val (.int q), .val (.int (0 : Nat)), .val (.int w), .val (.int (0 : Nat)), .val (.int B), .unset, .unset, .unset])
    ⟨[r0, r1, r2], 0, .unset, .unset, .unset, nl_unset, nl_unset, nl_unset, rfl, rfl, by intro c hc; simp at hc; rcases hc with rfl | rfl | rfl <;> assumption, rfl, by simp [val]⟩
  have hl2 : (M [d0, d1]).length = 2 := rfl
  rw [hl2] at q4
  have hg2 : 2 < g.length := by (first | lia | omega)
  have hgg : g[2] = r2 := by have := q3; rw [List.getElem?_eq_getElem hg2] at this; exact Option.some.inj this
  have vg : val B g = val B (g.take 2) + B ^ 2 * r2 := by
    have := val_take_succ (B := B) hg2
    rw [take_len (by (first | lia | omega)), hgg] at this
    exact this
  have vt : val B (g.take 2) < B ^ 2 := by
    have := val_lt (B := B) (by (first | lia | omega)) (d := g.take 2) (fun c hc => q2 c (List.mem_of_mem_take hc))
    rwa [List.length_take, Nat.min_eq_left (by (first | lia | omega))] at this
  have ht2 : [d0, d1].take 2 = [d0, d1] := rfl
  rw [ht2] at q4
  have hc : c ≤ r2 := by
    rcases Nat.lt_or_ge r2 c with h | h
    · exfalso
      have h5 : B ^ 2 * (r2 + 1) ≤ B ^ 2 * c := Nat.mul_le_mul_left _ h
      rw [Nat.mul_add, Nat.mul_one] at h5
      (first | lia | omega)
    · exact h
  refine ⟨g.set 2 (r2 - c), by rw [List.length_set]; exact q1, dig_set q2 (by (first | lia | omega)), ?_, ?_⟩
  · have hset := val_set (B := B) (d := g) (r2 - c) hg2
    rw [hgg] at hset
    have h6 : B ^ 2 * (r2 - c) + B ^ 2 * c = B ^ 2 * r2 := by rw [← Nat.mul_add, show r2 - c + c = r2 by (first | lia | omega)]
    (first | lia | omega)
  · have hgl : (M g).length < 4096 := by rw [M_length]; (first | lia | omega)
    let τ : Store := [.lent (M g), .val (.lst (M [d0, d1])), .val (.int q), .val (.int (0 : Nat)), .val (.int w), .val (.int (c : Nat)), .val (.int B), s7, s8, s9]
    have atev : ∀ (τ : Store), τ[3]? = some (.val (.int (0 : Nat))) → τ[1]? = some (.val (.lst (M [d0, d1]))) → ev P (lnOf tab) (.bin .add (.var 3) (.lenv 1)) τ = some (.val (.int (2 : Nat)), τ) := fun τ h3 h7 =>
      ev_bin (ev_var h3) (ev_lenv h7 rfl (by simp)) (mb_int (by rw [ib_add]; rfl))
    have x1 : ev P (lnOf tab) (.bin .sub (.idxv 0 (.bin .add (.var 3) (.lenv 1))) (.var 5)) τ = some (.val (.int ((r2 - c : Nat))), τ) :=
      ev_bin (ev_idxv rfl (atev τ rfl rfl) (s := .lent (M g)) rfl rfl hgl (by rw [M_at hg2, hgg])) (ev_var (d := .int (c : Nat)) rfl) (mb_int (by rw [ib_sub]; exact congrArg some (by (first | lia | omega))))
    let τ2 : Store := [.lent (M g), .val (.lst (M [d0, d1])), .val (.int q), .val (.int (0 : Nat)), .val (.int w), .val (.int (c : Nat)), .val (.int B), s7, s8, .val (.int ((r2 - c : Nat)))]
    let τ3 : Store := [.lent (M (g.set 2 (r2 - c))), .val (.lst (M [d0, d1])), .val (.int q), .val (.int (0 : Nat)), .val (.int w), .val (.int (c : Nat)), .val (.int B), s7, s8, .val (.int ((r2 - c : Nat)))]
    have ct : ∀ τ : Store, τ[9]? = some (.val (.int ((r2 - c : Nat)))) → ev P (lnOf tab) (.cmp .lt (.var 9) (.int 0)) τ = some (.val (.bool false), τ) := fun τ h => by
      have := ev_cmp (P := P) (ln := lnOf tab) (o := .lt) (ev_var h) (ev_int (i := 0)) (mc_lt _ _)
      rwa [decide_eq_false (by (first | lia | omega))] at this
    have st1 := ex_assign x1 (x := 9) (t := s9) rfl n9
    have st2 := ex_setItem (P := P) (ln := lnOf tab) (x := 0) (l := M g) (k := 2) (i := .bin .add (.var 3) (.lenv 1)) (e := .ite (.cmp .lt (.var 9) (.int 0)) (.bin .add (.var 9) (.var 6)) (.var 9)) (σ := τ2) (ev_ite_f (ct τ2 rfl) (ev_var rfl)) rfl (atev τ2 rfl rfl) rfl (by rw [M_length]; exact hg2) hgl
    refine run_lend (σ₁ := τ3) rfl (by decide) rfl ?_ rfl
    show exs P _ ir_take_away.body [.lent (M [r0, r1, r2]), .val (.lst (M [d0, d1])), .val (.int q), .val (.int (0 : Nat)), .val (.int w), .unset, .unset, .unset, .unset, .unset] = _
    have hsh : short (M [d0, d1]) = true := by rw [short_len, M_length]; simp
    unfold ir_take_away
    simp only
    rw [exs_step (ex_assigns (evr_two ev_int (ev_bin ev_int (ev_var (i := 4) (d := .int w) rfl) (mb_int hshl))) (puts_two (t := .unset) (u := .unset) (by decide) rfl rfl nl_unset nl_unset))]
    show exs _ _ _ [.lent (M [r0, r1, r2]), .val (.lst (M [d0, d1])), .val (.int q), .val (.int (0 : Nat)), .val (.int w), .val (.int (0 : Nat)), .val (.int B), .unset, .unset, .unset] = _
    rw [exs_step (σ₁ := τ) (by rw [ex, ev_var (d := .lst (M [d0, d1])) rfl]; simp only [MR.mv, hsh, if_true]; exact e1)]
    rw [exs_step st1]
    show exs _ _ _ τ2 = _
    rw [exs_step st2]
    show exs _ _ _ ([.lent ((M g).set 2 (.int ((r2 - c : Nat)))), .val (.lst (M [d0, d1])), .val (.int q), .val (.int (0 : Nat)), .val (.int w), .val (.int (c : Nat)), .val (.int B), s7, s8, .val (.int ((r2 - c : Nat)))] : Store) = _
    rw [← M_set]
    refine exs_ret ?_
    rw [ex, ev_ite_f (ct τ3 rfl) ev_int]
    rfl
end Mine

end
-- PureK
section
set_option autoImplicit false
set_option maxRecDepth 100000
set_option linter.all false
set_option backward.match.sparseCases false
set_option bootstrap.genMatcherCode false
namespace Mine

theorem ex_for1 {P : Fns} {ln : Nat → Bool} {x : Nat} {t : IT} {a : List IS} {σ σ₁ : Store} {vs : List MV} {r : Option (Fl × Store)} (h1 : evt P ln t σ = some (vs, σ₁)) (hs : vs.length < 4096) (h2 : forL x (exs P ln a) vs σ₁ = r) : ex P ln (.for1 x t a) σ = r := by
  rw [ex, h1]
  simp only [short, decide_eq_true hs, if_true, h2]
theorem forL_one {x : Nat} {body : Store → Option (Fl × Store)} {v : MV} {σ σ₁ σ₂ : Store} (h1 : put σ x (.val v) = some σ₁) (h2 : body σ₁ = some (.next, σ₂)) : forL x body [v] σ = some (.next, σ₂) := by
  simp only [forL, h1, h2]

theorem rows_spec (k : Nat) {w : Nat} (hw : 1 ≤ w) (hw' : w < 12) {r0 r1 r2 d0 d1 : Nat} (h0 : r0 < 2 ^ w) (h1 : r1 < 2 ^ w) (h2 : r2 < 2 ^ w) (hd0 : d0 < 2 ^ w) (hd1 : d1 < 2 ^ w) (hd1' : 0 < d1)
    (hX : val (2 ^ w) [r0, r1, r2] < 2 ^ w * val (2 ^ w) [d0, d1]) : ∃ g : List Nat, g.length = 3 ∧ Dig (2 ^ w) g ∧ val (2 ^ w) g + val (2 ^ w) [r0, r1, r2] / val (2 ^ w) [d0, d1] * val (2 ^ w) [d0, d1] = val (2 ^ w) [r0, r1, r2] ∧
      Phi tab (k + 2) 25 [.lst (M [r0, r1, r2]), .lst (M [d0, d1]), .int w] = some (.lst (M [val (2 ^ w) [r0, r1, r2] / val (2 ^ w) [d0, d1]]), M g) := by
  obtain ⟨hB, hB'⟩ := pow_facts hw (show w < 16 by (first | lia | omega))
  have hguess := guess_spec k hw hw' h0 h1 h2 hd1' hd1 hd0 hX
  have hq : val (2 ^ w) [r0, r1, r2] / val (2 ^ w) [d0, d1] < 2 ^ w := by
    rw [Nat.div_lt_iff_lt_mul]
    · exact hX
    · have : 0 < d1 * 2 ^ w := Nat.mul_pos hd1' (by (first | lia | omega))
      simp only [val]; rw [Nat.mul_comm]; simp; (first | lia | omega)
  obtain ⟨g, g1, g2, g3, hta⟩ := takeaway_spec k hw hw' h0 h1 h2 hd0 hd1 hq (Nat.div_mul_le_self _ _)
  refine ⟨g, g1, g2, g3, ?_⟩
  rw [phi_succ (k + 1) 25 _ (fd := ir_divide_rows) rfl]
  generalize val (2 ^ w) [r0, r1, r2] / val (2 ^ w) [d0, d1] = q at *
  let P := Phi tab (k + 1)
  have gl : g.length < 4096 := by (first | lia | omega)
  refine run_lend (σ₁ := [.lent (M g), .val (.lst (M [d0, d1])), .val (.int w), .val (.int (2 : Nat)), .val (.lst (M [q])), .val (.int (0 : Nat)), .val (.int (q : Nat))]) rfl (by decide) rfl ?_ rfl
  show exs P _ ir_divide_rows.body [.lent (M [r0, r1, r2]), .val (.lst (M [d0, d1])), .val (.int w), .unset, .unset, .unset, .unset] = _
  have l2 : (M [d0, d1]).length < 4096 := by simp
  have l3 : (M [r0, r1, r2]).length < 4096 := by simp
  let σ0 : Store := [.lent (M [r0, r1, r2]), .val (.lst (M [d0, d1])), .val (.int w), .unset, .unset, .unset, .unset]
  let σ1 : Store := [.lent (M [r0, r1, r2]), .val (.lst (M [d0, d1])), .val (.int w), .val (.int (2 : Nat)), .unset, .unset, .unset]
  let σ2 : Store := [.lent (M [r0, r1, r2]), .val (.lst (M [d0, d1])), .val (.int w), .val (.int (2 : Nat)), .own (M [0]), .unset, .unset]
  let σ3 : Store := [.lent (M [r0, r1, r2]), .val (.lst (M [d0, d1])), .val (.int w), .val (.int (2 : Nat)), .own (M [0]), .val (.int (0 : Nat)), .unset]
  let σ4 : Store := [.lent (M [r0, r1, r2]), .val (.lst (M [d0, d1])), .val (.int w), .val (.int (2 : Nat)), .own (M [0]), .val (.int (0 : Nat)), .val (.int (q : Nat))]
  let σ5 : Store := [.lent (M g), .val (.lst (M [d0, d1])), .val (.int w), .val (.int (2 : Nat)), .own (M [0]), .val (.int (0 : Nat)), .val (.int (q : Nat))]
  let σ6 : Store := [.lent (M g), .val (.lst (M [d0, d1])), .val (.int w), .val (.int (2 : Nat)), .own (M [q]), .val (.int (0 : Nat)), .val (.int (q : Nat))]
  unfold ir_divide_rows
  simp only
  rw [exs_step (ex_assign (ev_lenv (P := P) (ln := lnOf tab) (x := 1) (σ := σ0) (s := .val (.lst (M [d0, d1]))) rfl rfl l2) (t := .unset) rfl nl_unset)]
  show exs _ _ _ σ1 = _
  have lz : ev P (lnOf tab) (.lenv 0) σ1 = some (.val (.int (3 : Nat)), σ1) := ev_lenv (s := .lent (M [r0, r1, r2])) rfl rfl l3
  have x1 : ev P (lnOf tab) (.bin .sub (.lenv 0) (.var 3)) σ1 = some (.val (.int 1), σ1) := ev_bin lz (ev_var (d := .int (2 : Nat)) rfl) (mb_int rfl)
  have x2 : ev P (lnOf tab) (.bin .mul (.list [(.int 0)]) (.bin .sub (.lenv 0) (.var 3))) σ1 = some (.new (M [0]), σ1) := by
    refine ev_bin (x := .new [.int 0]) (y := .val (.int 1)) (by simp [ev, evs, MR.mv, short]) x1 rfl
  rw [exs_step (ex_assign x2 (t := .unset) rfl nl_unset)]
  show exs _ _ _ σ2 = _
  have lz2 : ev P (lnOf tab) (.lenv 0) σ2 = some (.val (.int (3 : Nat)), σ2) := ev_lenv (s := .lent (M [r0, r1, r2])) rfl rfl l3
  have x3 : ev P (lnOf tab) (.bin .sub (.bin .sub (.lenv 0) (.var 3)) (.int 1)) σ2 = some (.val (.int 0), σ2) := ev_bin (ev_bin lz2 (ev_var (d := .int (2 : Nat)) rfl) (mb_int rfl)) ev_int (mb_int rfl)
  have x4 : ev P (lnOf tab) (.neg (.int 1)) σ2 = some (.val (.int (-1)), σ2) := by rw [ev, ev_int]
  have x5 : evt P (lnOf tab) (.down (.bin .sub (.bin .sub (.lenv 0) (.var 3)) (.int 1)) (.neg (.int 1))) σ2 = some ([.int (0 : Nat)], σ2) := by
    rw [evt, x3]
    simp only [x4]
    rfl
  -- the turn
  have ln22 : lnOf tab 22 = false := by decide
  have ln23 : lnOf tab 23 = true := by decide
  have v5 : ev P (lnOf tab) (.var 5) σ3 = some (.val (.int (0 : Nat)), σ3) := ev_var rfl
  have v3 : ev P (lnOf tab) (.var 3) σ3 = some (.val (.int (2 : Nat)), σ3) := ev_var rfl
  have y1 : ev P (lnOf tab) (.bin .sub (.bin .add (.var 5) (.var 3)) (.int 2)) σ3 = some (.val (.int 0), σ3) := ev_bin (ev_bin v5 v3 (mb_int rfl)) ev_int (mb_int rfl)
  have y2 : ev P (lnOf tab) (.bin .add (.bin .add (.var 5) (.var 3)) (.int 1)) σ3 = some (.val (.int 3), σ3) := ev_bin (ev_bin v5 v3 (mb_int rfl)) ev_int (mb_int rfl)
  have y3 : ev P (lnOf tab) (.slicev 0 (.bin .sub (.bin .add (.var 5) (.var 3)) (.int 2)) (.bin .add (.bin .add (.var 5) (.var 3)) (.int 1))) σ3 = some (.new (M [r0, r1, r2]), σ3) := by
    rw [ev, if_pos (by rfl), y1]
    simp only [y2]
    rfl
  have y4 : ev P (lnOf tab) (.idxv 1 (.bin .sub (.var 3) (.int 1))) σ3 = some (.val (.int (d1 : Nat)), σ3) := ev_idxv rfl (ev_bin v3 ev_int (mb_int (c := ((1 : Nat) : Int)) rfl)) (s := .val (.lst (M [d0, d1]))) rfl rfl l2 rfl
  have y5 : ev P (lnOf tab) (.idxv 1 (.bin .sub (.var 3) (.int 2))) σ3 = some (.val (.int (d0 : Nat)), σ3) := ev_idxv rfl (ev_bin v3 ev_int (mb_int (c := ((0 : Nat) : Int)) rfl)) (s := .val (.lst (M [d0, d1]))) rfl rfl l2 rfl
  have y6 : ev P (lnOf tab) (.var 2) σ3 = some (.val (.int (w : Nat)), σ3) := ev_var rfl
  have y7 : ev P (lnOf tab) (.call 22 [(.slicev 0 (.bin .sub (.bin .add (.var 5) (.var 3)) (.int 2)) (.bin .add (.bin .add (.var 5) (.var 3)) (.int 1))), (.idxv 1 (.bin .sub (.var 3) (.int 1))), (.idxv 1 (.bin .sub (.var 3) (.int 2))), (.var 2)]) σ3 = some (.val (.int (q : Nat)), σ3) := by
    rw [ev, ln22]
    simp only [Bool.false_eq_true, if_false, evs, y3, y4, y5, y6, MR.mv, P, hguess, Option.map_some]
  have st1 := ex_assign y7 (x := 6) (t := .unset) rfl nl_unset
  have z1 : ev P (lnOf tab) (.lend 23 0 [(.var 1), (.var 6), (.var 5), (.var 2)]) σ4 = some (.val (.int 0), σ5) := by
    have a1 : ev P (lnOf tab) (.var 1) σ4 = some (.val (.lst (M [d0, d1])), σ4) := ev_var rfl
    have a2 : ev P (lnOf tab) (.var 6) σ4 = some (.val (.int (q : Nat)), σ4) := ev_var rfl
    have a3 : ev P (lnOf tab) (.var 5) σ4 = some (.val (.int (0 : Nat)), σ4) := ev_var rfl
    have a4 : ev P (lnOf tab) (.var 2) σ4 = some (.val (.int (w : Nat)), σ4) := ev_var rfl
    have hs : σ4[0]? = some (.lent (M [r0, r1, r2])) := rfl
    rw [ev, ln23, if_pos (by rfl)]
    simp only [evs, a1, a2, a3, a4, MR.mv, hs, P, hta, Option.map_some]
    rfl
  have z2 := ev_cmp (o := .eq) z1 (ev_int (i := 1)) (mc_eq _ _)
  have st2 : ex P (lnOf tab) (.ite (.cmp .eq (.lend 23 0 [(.var 1), (.var 6), (.var 5), (.var 2)]) (.int 1)) [.aug 6 .sub (.int 1), .expr (.lend 24 0 [(.var 1), (.var 5), (.var 2)])] []) σ4 = some (.next, σ5) := by
    rw [ex, z2]; rfl
  have st3 := ex_setOwn (P := P) (ln := lnOf tab) (x := 4) (l := M [0]) (k := 0) (i := .var 5) (e := .var 6) (σ := σ5) (r := .val (.int (q : Nat))) (ev_var rfl) rfl (ev_var rfl) rfl (by simp) (by simp)
  have body : exs P (lnOf tab) [.assign 6 (.call 22 [(.slicev 0 (.bin .sub (.bin .add (.var 5) (.var 3)) (.int 2)) (.bin .add (.bin .add (.var 5) (.var 3)) (.int 1))), (.idxv 1 (.bin .sub (.var 3) (.int 1))), (.idxv 1 (.bin .sub (.var 3) (.int 2))), (.var 2)]), .ite (.cmp .eq (.lend 23 0 [(.var 1), (.var 6), (.var 5), (.var 2)]) (.int 1)) [.aug 6 .sub (.int 1), .expr (.lend 24 0 [(.var 1), (.var 5), (.var 2)])] [], .setItem 4 (.var 5) (.var 6)] σ3 = some (.next, σ6) := by
    rw [exs_step st1]
    show exs _ _ _ σ4 = _
    rw [exs_step st2, exs_step st3]
    rfl
  have hput : put σ2 5 (.val (.int (0 : Nat))) = some σ3 := put_at (t := .unset) rfl nl_unset
  rw [exs_step (ex_for1 x5 (by simp) (forL_one hput body))]
  refine exs_ret ?_
  rw [ex, ev]
  rfl

theorem two_limbs {B x : Nat} (hB : 2 ≤ B) (h1 : B ≤ x) (h2 : x < B * B) : ∃ a0 a1, N B x = [a0, a1] ∧ a0 < B ∧ a1 < B ∧ 0 < a1 ∧ a0 + B * a1 = x := by
  have hl : (N B x).length ≤ 2 := N_len hB (by rw [Nat.pow_two]; exact h2)
  have hd := N_dig hB x
  have hn := N_nrm hB x
  have hv := N_val hB x
  generalize N B x = d at *
  match d with
  | [] => simp [val] at hv; (first | lia | omega)
  | [a0] => simp [val] at hv; have := hd a0 (by simp); (first | lia | omega)
  | [a0, a1] =>
    refine ⟨a0, a1, rfl, hd a0 (by simp), hd a1 (by simp), ?_, by simpa [val] using hv⟩
    simp [Nrm] at hn; (first | lia | omega)
  | _ :: _ :: _ :: _ => simp at hl

theorem three_limbs {d : List Nat} (h : d.length = 3) : ∃ r0 r1 r2, d = [r0, r1, r2] := by
  match d with
  | [r0, r1, r2] => exact ⟨r0, r1, r2, rfl⟩
  | [] => simp at h
  | [_] => simp at h
  | [_, _] => simp at h
  | _ :: _ :: _ :: _ :: _ => simp at h
end Mine

end
-- PureL
section
set_option autoImplicit false
set_option maxRecDepth 100000
set_option linter.all false
set_option backward.match.sparseCases false
set_option bootstrap.genMatcherCode false
namespace Mine

theorem ev_call {P : Fns} {ln : Nat → Bool} {f : Nat} {as : List IE} {σ σ₁ : Store} {ds : List MV} {r : MV} {out : List MV} (hl : ln f = false) (h1 : evs P ln as σ = some (ds, σ₁)) (h2 : P f ds = some (r, out)) : ev P ln (.call f as) σ = some (.val r, σ₁) := by
  rw [ev, hl]
  simp only [Bool.false_eq_true, if_false, h1, h2, Option.map_some]
theorem evs_cons {P : Fns} {ln : Nat → Bool} {e : IE} {es : List IE} {σ σ₁ σ₂ : Store} {x : MR} {ds : List MV} (h1 : ev P ln e σ = some (x, σ₁)) (h2 : evs P ln es σ₁ = some (ds, σ₂)) : evs P ln (e :: es) σ = some (x.mv :: ds, σ₂) := by
  rw [evs, h1]; simp only [h2]
theorem evs_nil {P : Fns} {ln : Nat → Bool} {σ : Store} : evs P ln [] σ = some ([], σ) := by rw [evs]
theorem ex_if_t {P : Fns} {ln : Nat → Bool} {c : IE} {a b : List IS} {σ σ₁ : Store} {r : Option (Fl × Store)} (h1 : ev P ln c σ = some (.val (.bool true), σ₁)) (h2 : exs P ln a σ₁ = r) : ex P ln (.ite c a b) σ = r := by
  rw [ex, h1]; exact h2
theorem ex_if_f {P : Fns} {ln : Nat → Bool} {c : IE} {a b : List IS} {σ σ₁ : Store} {r : Option (Fl × Store)} (h1 : ev P ln c σ = some (.val (.bool false), σ₁)) (h2 : exs P ln b σ₁ = r) : ex P ln (.ite c a b) σ = r := by
  rw [ex, h1]; exact h2
theorem exs_nil {P : Fns} {ln : Nat → Bool} {σ : Store} : exs P ln [] σ = some (.next, σ) := by rw [exs]
theorem ex_ret {P : Fns} {ln : Nat → Bool} {e : IE} {σ σ₁ : Store} {r : MR} (h : ev P ln e σ = some (r, σ₁)) : ex P ln (.ret e) σ = some (.ret r.mv, σ₁) := by
  rw [ex, h]
theorem ev_tup {P : Fns} {ln : Nat → Bool} {es : List IE} {σ σ₁ : Store} {ds : List MV} (h : evs P ln es σ = some (ds, σ₁)) (hs : ds.length < 4096) : ev P ln (.tup es) σ = some (.val (.tup ds), σ₁) := by
  rw [ev, h]; simp only [short, decide_eq_true hs, if_true]
theorem ev_list {P : Fns} {ln : Nat → Bool} {es : List IE} {σ σ₁ : Store} {ds : List MV} (h : evs P ln es σ = some (ds, σ₁)) (hs : ds.length < 4096) : ev P ln (.list es) σ = some (.new ds, σ₁) := by
  rw [ev, h]; simp only [short, decide_eq_true hs, if_true]
theorem ev_own {P : Fns} {ln : Nat → Bool} {i : Nat} {σ : Store} {l : List MV} (h : σ[i]? = some (.own l)) : ev P ln (.var i) σ = some (.val (.lst l), σ.set i (.val (.lst l))) := by
  rw [ev, h]
theorem ev_lend {P : Fns} {ln : Nat → Bool} {f i : Nat} {as : List IE} {σ σ₁ : Store} {ds l : List MV} {r : MV} {out : List MV} (hl : ln f = true) (hlv : live σ i = true) (h1 : evs P ln as σ = some (ds, σ₁)) (hs : σ₁[i]? = some (.own l)) (h2 : P f (.lst l :: ds) = some (r, out)) :
    ev P ln (.lend f i as) σ = some (.val r, σ₁.set i (.own out)) := by
  rw [ev, hl, hlv]
  simp only [Bool.and_self, if_true, h1, hs, h2, Option.map_some]
theorem evs1 {P : Fns} {ln : Nat → Bool} {a : IE} {σ σ₁ : Store} {x : MR} (h1 : ev P ln a σ = some (x, σ₁)) : evs P ln [a] σ = some ([x.mv], σ₁) := evs_cons h1 evs_nil
theorem evs2 {P : Fns} {ln : Nat → Bool} {a b : IE} {σ σ₁ σ₂ : Store} {x y : MR} (h1 : ev P ln a σ = some (x, σ₁)) (h2 : ev P ln b σ₁ = some (y, σ₂)) : evs P ln [a, b] σ = some ([x.mv, y.mv], σ₂) := evs_cons h1 (evs1 h2)
theorem evs3 {P : Fns} {ln : Nat → Bool} {a b c : IE} {σ σ₁ σ₂ σ₃ : Store} {x y z : MR} (h1 : ev P ln a σ = some (x, σ₁)) (h2 : ev P ln b σ₁ = some (y, σ₂)) (h3 : ev P ln c σ₂ = some (z, σ₃)) : evs P ln [a, b, c] σ = some ([x.mv, y.mv, z.mv], σ₃) := evs_cons h1 (evs2 h2 h3)
theorem mc_lt' (x y : Int) {b : Bool} (h : decide (x < y) = b) : mcmp .lt (MR.val (.int x)).mv (MR.val (.int y)).mv = some b := by rw [mc_lt, h]
theorem mc_eq' (x y : Int) {b : Bool} (h : (x == y) = b) : mcmp .eq (MR.val (.int x)).mv (MR.val (.int y)).mv = some b := by rw [mc_eq, h]

theorem small_len {B x : Nat} (hB : 2 ≤ B) (h : x < 1048576) : (M (N B x)).length < 4096 := by rw [M_length]; have := N_few hB h; (first | lia | omega)

theorem bit_facts {w c : Nat} (h0 : 0 < c) (h : c < 2 ^ w) : 1 ≤ bitLen c ∧ bitLen c ≤ w ∧ (c + 1) * 2 ^ (w - bitLen c) ≤ 2 ^ w := by
  have hb : bitLen c = c.log2 + 1 := by unfold bitLen; rw [if_neg (by (first | lia | omega))]
  have h1 : c.log2 < w := (Nat.log2_lt (by (first | lia | omega))).mpr h
  have h2 : c < 2 ^ (c.log2 + 1) := Nat.lt_log2_self
  refine ⟨by (first | lia | omega), by (first | lia | omega), ?_⟩
  rw [hb]
  have h3 : (c + 1) * 2 ^ (w - (c.log2 + 1)) ≤ 2 ^ (c.log2 + 1) * 2 ^ (w - (c.log2 + 1)) := Nat.mul_le_mul_right _ h2
  rw [← Nat.pow_add, show c.log2 + 1 + (w - (c.log2 + 1)) = w by (first | lia | omega)] at h3
  exact h3

theorem school_spec (k : Nat) {w : Nat} (hw : 1 ≤ w) (hw' : w < 9) {x y : Nat} (hx : x < 1024) (hy : y < 1024) (hy0 : 0 < y) (hxy : x < 2 ^ w * 2 ^ w) (hyy : y < 2 ^ w * 2 ^ w) :
    Phi tab (k + 4) 26 [.lst (M (N (2 ^ w) x)), .lst (M (N (2 ^ w) y)), .int w] = some (.tup [.lst (M (N (2 ^ w) (x / y))), .lst (M (N (2 ^ w) (x % y)))], []) := by
  obtain ⟨hB, hB'⟩ := pow_facts hw (show w < 16 by (first | lia | omega))
  rw [phi_succ (k + 3) 26 _ (fd := ir_divrem_school) rfl]
  let P := Phi tab (k + 3)
  have hcmp : P 1 [.lst (M (N (2 ^ w) x)), .lst (M (N (2 ^ w) y))] = some (.int (cmpZ x y), []) := compare_N (k + 2) hB (by (first | lia | omega)) (by (first | lia | omega))
  have ln1 : lnOf tab 1 = false := by decide
  have lx := small_len hB (x := x) (by (first | lia | omega))
  have ly := small_len hB (x := y) (by (first | lia | omega))
  have hyl : 0 < (N (2 ^ w) y).length := by
    cases e : N (2 ^ w) y with
    | nil => have := N_val hB y; rw [e] at this; simp [val] at this; (first | lia | omega)
    | cons _ _ => simp
  -- the first two lines
  let σ : Store := [.val (.lst (M (N (2 ^ w) x))), .val (.lst (M (N (2 ^ w) y))), .val (.int w), .unset, .unset, .unset, .unset]
  have v0 : ev P (lnOf tab) (.var 0) σ = some (.val (.lst (M (N (2 ^ w) x))), σ) := ev_var rfl
  have v1 : ev P (lnOf tab) (.var 1) σ = some (.val (.lst (M (N (2 ^ w) y))), σ) := ev_var rfl
  have v2 : ev P (lnOf tab) (.var 2) σ = some (.val (.int w), σ) := ev_var rfl
  have l1 : ev P (lnOf tab) (.lenv 1) σ = some (.val (.int ((M (N (2 ^ w) y)).length : Nat)), σ) := ev_lenv (s := .val (.lst (M (N (2 ^ w) y)))) rfl rfl ly
  have s1 : ex P (lnOf tab) (.ite (.cmp .eq (.lenv 1) (.int 0)) [.fail] []) σ = some (.next, σ) :=
    ex_if_f (ev_cmp l1 ev_int (mc_eq' _ _ (by rw [beq_eq_false_iff_ne, M_length]; (first | lia | omega)))) exs_nil
  have c1 : ev P (lnOf tab) (.call 1 [(.var 0), (.var 1)]) σ = some (.val (.int (cmpZ x y)), σ) := ev_call ln1 (evs2 v0 v1) hcmp
  by_cases hlt : x < y
  · have hd : x / y = 0 := Nat.div_eq_of_lt hlt
    have hm : x % y = x := Nat.mod_eq_of_lt hlt
    rw [hd, hm]
    refine run_plain (σ₁ := σ) rfl (by decide) rfl ?_
    show exs P _ ir_divrem_school.body σ = _
    unfold ir_divrem_school
    simp only
    rw [exs_step s1]
    refine exs_ret (ex_if_t (ev_cmp c1 ev_int (mc_lt' _ _ (by rw [decide_eq_true_eq]; exact cmpZ_neg.mpr hlt))) (exs_ret ?_))
    have t1 : ev P (lnOf tab) (.list []) σ = some (.new [], σ) := ev_list evs_nil (by simp)
    have t2 : ev P (lnOf tab) (.slicev 0 .none .none) σ = some (.new (M (N (2 ^ w) x)), σ) := by
      rw [ev, if_pos (by rfl)]
      have hs : σ[0]? = some (.val (.lst (M (N (2 ^ w) x)))) := rfl
      simp only [ev, hs, Slot.list?, short, decide_eq_true lx, if_true]
    exact ex_ret (ev_tup (evs2 t1 t2) (by simp))
  · have s2 : ex P (lnOf tab) (.ite (.cmp .lt (.call 1 [(.var 0), (.var 1)]) (.int 0)) [.ret (.tup [(.list []), (.slicev 0 .none .none)])] []) σ = some (.next, σ) :=
      ex_if_f (ev_cmp c1 ev_int (mc_lt' _ _ (by rw [decide_eq_false_iff_not, cmpZ_neg]; exact hlt))) exs_nil
    by_cases hone : y < 2 ^ w
    · have hlen : (M (N (2 ^ w) y)).length = 1 := by rw [N_one hB hy0 hone]; rfl
      have hsm : P 21 [.lst (M (N (2 ^ w) x)), .lst (M (N (2 ^ w) y)), .int w] = some (.tup [.lst (M (N (2 ^ w) (x / y))), .lst (M (N (2 ^ w) (x % y)))], []) := small_spec k hw (by (first | lia | omega)) (by (first | lia | omega)) hy0 hone
      refine run_plain (σ₁ := σ) rfl (by decide) rfl ?_
      show exs P _ ir_divrem_school.body σ = _
      unfold ir_divrem_school
      simp only
      rw [exs_step s1, exs_step s2]
      rw [hlen] at l1
      refine exs_ret (ex_if_t (ev_cmp l1 ev_int (mc_eq' _ _ rfl)) (exs_ret (ex_ret (ev_call (by decide) (evs3 v0 v1 v2) hsm))))
    · obtain ⟨b0, b1, hb, hb0, hb1, hb1', hbv⟩ := two_limbs hB (show 2 ^ w ≤ y by (first | lia | omega)) hyy
      obtain ⟨a0, a1, ha, ha0, ha1, ha1', hav⟩ := two_limbs hB (show 2 ^ w ≤ x by (first | lia | omega)) hxy
      obtain ⟨f1, f2, f3⟩ := bit_facts hb1' hb1
      obtain ⟨s, hs⟩ : ∃ s, s = w - bitLen b1 := ⟨_, rfl⟩
      rw [← hs] at f3
      have hsw : s < w := by (first | lia | omega)
      have hS : 1 ≤ 2 ^ s := Nat.one_le_two_pow
      have hSB : 2 ^ s ≤ 256 := by
        have := Nat.pow_le_pow_right (n := 2) (by (first | lia | omega)) (show s ≤ 8 by (first | lia | omega))
        simpa using this
      have hx2 : x * 2 ^ s < 1048576 := by
        have : x * 2 ^ s ≤ 1023 * 256 := Nat.mul_le_mul (by (first | lia | omega)) hSB
        (first | lia | omega)
      have hy2 : y * 2 ^ s < 1048576 := by
        have : y * 2 ^ s ≤ 1023 * 256 := Nat.mul_le_mul (by (first | lia | omega)) hSB
        (first | lia | omega)
      have hbits : P 7 [.lst (M [b1]), .int w] = some (.int (bitLen b1 : Nat), []) := bits_spec (k + 2) (by (first | lia | omega))
      have hleftY : P 5 [.lst (M (N (2 ^ w) y)), .int s, .int w] = some (.lst (M (N (2 ^ w) (y * 2 ^ s))), []) := left_spec (k + 2) hw (by (first | lia | omega)) hsw (by (first | lia | omega))
      have hleftX : P 5 [.lst (M (N (2 ^ w) x)), .int s, .int w] = some (.lst (M (N (2 ^ w) (x * 2 ^ s))), []) := left_spec (k + 2) hw (by (first | lia | omega)) hsw (by (first | lia | omega))
      have hright : P 6 [.lst (M (N (2 ^ w) (x % y * 2 ^ s))), .int s, .int w] = some (.lst (M (N (2 ^ w) (x % y))), []) := right_spec (k + 1) hw (by (first | lia | omega)) hsw (by
        have := Nat.mod_le x y
        have : x % y * 2 ^ s ≤ x * 2 ^ s := Nat.mul_le_mul_right _ this
        (first | lia | omega))
      -- the divisor
      have hYlo : 2 ^ w ≤ y * 2 ^ s := by
        have : y * 1 ≤ y * 2 ^ s := Nat.mul_le_mul_left _ hS
        (first | lia | omega)
      have hYhi : y * 2 ^ s < 2 ^ w * 2 ^ w := by
        have h1 : y + 1 ≤ (b1 + 1) * 2 ^ w := by rw [Nat.add_mul, Nat.one_mul, Nat.mul_comm b1]; (first | lia | omega)
        have h2 : (y + 1) * 2 ^ s ≤ (b1 + 1) * 2 ^ w * 2 ^ s := Nat.mul_le_mul_right _ h1
        have h3 : (b1 + 1) * 2 ^ s * 2 ^ w ≤ 2 ^ w * 2 ^ w := Nat.mul_le_mul_right _ f3
        rw [Nat.mul_right_comm] at h2
        rw [Nat.add_mul, Nat.one_mul] at h2
        (first | lia | omega)
      obtain ⟨d0, d1, hD, hd0, hd1, hd1', hdv⟩ := two_limbs hB hYlo hYhi
      have hvD : val (2 ^ w) [d0, d1] = y * 2 ^ s := by simp [val]; exact hdv
      -- the dividend
      have hXhi : x * 2 ^ s < (2 ^ w) ^ 3 := by
        have h1 : x * 2 ^ s ≤ x * 2 ^ w := Nat.mul_le_mul_left _ (Nat.pow_le_pow_right (by (first | lia | omega)) (by (first | lia | omega)))
        have h2 : (x + 1) * 2 ^ w ≤ 2 ^ w * 2 ^ w * 2 ^ w := Nat.mul_le_mul_right _ hxy
        rw [Nat.add_mul, Nat.one_mul] at h2
        rw [show (2 ^ w) ^ 3 = 2 ^ w * 2 ^ w * 2 ^ w by rw [Nat.pow_succ, Nat.pow_two]]
        (first | lia | omega)
      have hXl : (N (2 ^ w) (x * 2 ^ s)).length ≤ 3 := N_len hB hXhi
      obtain ⟨R, hR⟩ : ∃ R, R = N (2 ^ w) (x * 2 ^ s) ++ List.replicate (3 - (N (2 ^ w) (x * 2 ^ s)).length) 0 := ⟨_, rfl⟩
      have hRl : R.length = 3 := by rw [hR]; simp; (first | lia | omega)
      have hRd : Dig (2 ^ w) R := by rw [hR]; exact dig_append.mpr ⟨N_dig hB _, dig_zeros hB _⟩
      have hRv : val (2 ^ w) R = x * 2 ^ s := by rw [hR, val_append, val_zeros, N_val hB]; simp
      obtain ⟨r0, r1, r2, hR3⟩ := three_limbs hRl
      rw [hR3] at hRd hRv
      have hr0 := hRd r0 (by simp)
      have hr1 := hRd r1 (by simp)
      have hr2 := hRd r2 (by simp)
      have hXY : val (2 ^ w) [r0, r1, r2] < 2 ^ w * val (2 ^ w) [d0, d1] := by
        rw [hRv, hvD, ← Nat.mul_assoc]
        refine Nat.mul_lt_mul_of_pos_right ?_ (by (first | lia | omega))
        have : 2 ^ w * 2 ^ w ≤ 2 ^ w * y := Nat.mul_le_mul_left _ (by (first | lia | omega))
        (first | lia | omega)
      obtain ⟨g, g1, g2, g3, hrows⟩ := rows_spec (k + 1) hw (by (first | lia | omega)) hr0 hr1 hr2 hd0 hd1 hd1' hXY
      rw [hRv, hvD, Nat.mul_div_mul_right _ _ (show 0 < 2 ^ s by (first | lia | omega))] at g3 hrows
      have hgv : val (2 ^ w) g = x % y * 2 ^ s := by
        have h1 := Nat.mod_add_div x y
        have h2 : (x % y + y * (x / y)) * 2 ^ s = x * 2 ^ s := by rw [h1]
        rw [Nat.add_mul, Nat.mul_comm y, Nat.mul_assoc] at h2
        (first | lia | omega)
      have hqB : x / y < 2 ^ w := by
        rw [Nat.div_lt_iff_lt_mul hy0]
        have : 2 ^ w * 2 ^ w ≤ 2 ^ w * y := Nat.mul_le_mul_left _ (by (first | lia | omega))
        (first | lia | omega)
      have hnq : P 0 [.lst (M [x / y])] = some (.lst (M (N (2 ^ w) (x / y))), []) := normal_N (k + 2) hB (by simp) (by intro c hc; simp at hc; (first | lia | omega)) (by simp [val])
      have hng : P 0 [.lst (M g)] = some (.lst (M (N (2 ^ w) (x % y * 2 ^ s))), []) := normal_N (k + 2) hB (by (first | lia | omega)) g2 hgv
      have hlen : (M (N (2 ^ w) y)).length = 2 := by rw [hb]; rfl
      have hlenx : (M (N (2 ^ w) x)).length = 2 := by rw [ha]; rfl
      have lX := small_len hB hx2
      -- the stores
      let σ3 : Store := [.val (.lst (M (N (2 ^ w) x))), .val (.lst (M (N (2 ^ w) y))), .val (.int w), .val (.int (s : Nat)), .unset, .unset, .unset]
      let σ4 : Store := [.val (.lst (M (N (2 ^ w) x))), .val (.lst (M (N (2 ^ w) y))), .val (.int w), .val (.int (s : Nat)), .val (.lst (M (N (2 ^ w) (y * 2 ^ s)))), .unset, .unset]
      let σ5 : Store := [.val (.lst (M (N (2 ^ w) x))), .val (.lst (M (N (2 ^ w) y))), .val (.int w), .val (.int (s : Nat)), .val (.lst (M (N (2 ^ w) (y * 2 ^ s)))), .val (.lst (M (N (2 ^ w) (x * 2 ^ s)))), .unset]
      let σ6 : Store := [.val (.lst (M (N (2 ^ w) x))), .val (.lst (M (N (2 ^ w) y))), .val (.int w), .val (.int (s : Nat)), .val (.lst (M (N (2 ^ w) (y * 2 ^ s)))), .own (M R), .unset]
      let σ7 : Store := [.val (.lst (M (N (2 ^ w) x))), .val (.lst (M (N (2 ^ w) y))), .val (.int w), .val (.int (s : Nat)), .val (.lst (M (N (2 ^ w) (y * 2 ^ s)))), .own (M g), .val (.lst (M [x / y]))]
      let σ8 : Store := [.val (.lst (M (N (2 ^ w) x))), .val (.lst (M (N (2 ^ w) y))), .val (.int w), .val (.int (s : Nat)), .val (.lst (M (N (2 ^ w) (y * 2 ^ s)))), .val (.lst (M g)), .val (.lst (M [x / y]))]
      have s3 : ex P (lnOf tab) (.ite (.cmp .eq (.lenv 1) (.int 1)) [.ret (.call 21 [(.var 0), (.var 1), (.var 2)])] []) σ = some (.next, σ) := by
        rw [hlen] at l1
        exact ex_if_f (ev_cmp l1 ev_int (mc_eq' _ _ rfl)) exs_nil
      have xb : ev P (lnOf tab) (.idxv 1 (.neg (.int 1))) σ = some (.val (.int (b1 : Nat)), σ) := by
        have h1 : ev P (lnOf tab) (.neg (.int 1)) σ = some (.val (.int (-1)), σ) := by rw [ev, ev_int]
        rw [ev, if_pos (by rfl), h1]
        have h2 : σ[1]? = some (.val (.lst (M (N (2 ^ w) y)))) := rfl
        have h3 : pyIdx (M (N (2 ^ w) y)) (-1) = some (.int (b1 : Nat)) := by rw [hb]; rfl
        simp only [h2, Slot.items?, MV.items?, short, decide_eq_true ly, if_true, h3, Option.map_some]
      have x3 : ev P (lnOf tab) (.bin .sub (.var 2) (.call 7 [(.list [(.idxv 1 (.neg (.int 1)))]), (.var 2)])) σ = some (.val (.int (s : Nat)), σ) :=
        ev_bin v2 (ev_call (by decide) (evs2 (ev_list (evs1 xb) (by simp)) v2) hbits) (mb_int (by rw [ib_sub]; exact congrArg some (by (first | lia | omega))))
      have t1 : ev P (lnOf tab) (.call 5 [(.var 1), (.var 3), (.var 2)]) σ3 = some (.val (.lst (M (N (2 ^ w) (y * 2 ^ s)))), σ3) :=
        ev_call (by decide) (evs3 (ev_var rfl) (ev_var rfl) (ev_var rfl)) hleftY
      have t2 : ev P (lnOf tab) (.call 5 [(.var 0), (.var 3), (.var 2)]) σ4 = some (.val (.lst (M (N (2 ^ w) (x * 2 ^ s)))), σ4) :=
        ev_call (by decide) (evs3 (ev_var rfl) (ev_var rfl) (ev_var rfl)) hleftX
      have u1 : ev P (lnOf tab) (.lenv 0) σ5 = some (.val (.int (2 : Nat)), σ5) := by
        have := ev_lenv (P := P) (ln := lnOf tab) (x := 0) (σ := σ5) (s := .val (.lst (M (N (2 ^ w) x)))) rfl rfl lx
        rw [hlenx] at this; exact this
      have u2 : ev P (lnOf tab) (.lenv 5) σ5 = some (.val (.int ((N (2 ^ w) (x * 2 ^ s)).length : Nat)), σ5) := by
        have := ev_lenv (P := P) (ln := lnOf tab) (x := 5) (σ := σ5) (s := .val (.lst (M (N (2 ^ w) (x * 2 ^ s))))) rfl rfl lX
        rw [M_length] at this; exact this
      have u3 : ev P (lnOf tab) (.bin .sub (.bin .add (.lenv 0) (.int 1)) (.lenv 5)) σ5 = some (.val (.int ((3 - (N (2 ^ w) (x * 2 ^ s)).length : Nat))), σ5) :=
        ev_bin (ev_bin u1 ev_int (mb_int rfl)) u2 (mb_int (by rw [ib_sub]; exact congrArg some (by (first | lia | omega))))
      have u4 : ev P (lnOf tab) (.bin .mul (.list [(.int 0)]) (.bin .sub (.bin .add (.lenv 0) (.int 1)) (.lenv 5))) σ5 = some (.new (M (List.replicate (3 - (N (2 ^ w) (x * 2 ^ s)).length) 0)), σ5) := by
        refine ev_bin (ev_list (evs1 ev_int) (by simp)) u3 ?_
        have h1 : (-4096 : Int) < ((3 - (N (2 ^ w) (x * 2 ^ s)).length : Nat) : Int) := by (first | lia | omega)
        have h2 : ((3 - (N (2 ^ w) (x * 2 ^ s)).length : Nat) : Int) < 4096 := by (first | lia | omega)
        simp only [MR.mv, mbin, short, List.length_cons, List.length_nil, decide_eq_true h1, decide_eq_true h2, Int.toNat_natCast, zeros_eq]
        rfl
      have u5 : ev P (lnOf tab) (.bin .add (.var 5) (.bin .mul (.list [(.int 0)]) (.bin .sub (.bin .add (.lenv 0) (.int 1)) (.lenv 5)))) σ5 = some (.new (M R), σ5) := by
        refine ev_bin (ev_var rfl) u4 ?_
        have h2 : (M (List.replicate (3 - (N (2 ^ w) (x * 2 ^ s)).length) 0)).length < 4096 := by rw [M_length]; simp; (first | lia | omega)
        simp only [MR.mv, mbin, short, decide_eq_true lX, decide_eq_true h2, Bool.and_self, if_true]
        rw [hR, M_append]
      have hrows' : P 25 (.lst (M R) :: [.lst (M (N (2 ^ w) (y * 2 ^ s))), .int w]) = some (.lst (M [x / y]), M g) := by rw [hR3, hD]; exact hrows
      have u6 : ev P (lnOf tab) (.lend 25 5 [(.var 4), (.var 2)]) σ6 = some (.val (.lst (M [x / y])), σ6.set 5 (.own (M g))) :=
        ev_lend (by decide) rfl (evs2 (ev_var rfl) (ev_var rfl)) rfl hrows'
      have z1 : ev P (lnOf tab) (.call 0 [(.var 6)]) σ7 = some (.val (.lst (M (N (2 ^ w) (x / y)))), σ7) := ev_call (by decide) (evs1 (ev_var rfl)) hnq
      have z2 : ev P (lnOf tab) (.call 0 [(.var 5)]) σ7 = some (.val (.lst (M (N (2 ^ w) (x % y * 2 ^ s)))), σ8) := ev_call (by decide) (evs1 (ev_own rfl)) hng
      have z3 : ev P (lnOf tab) (.call 6 [(.call 0 [(.var 5)]), (.var 3), (.var 2)]) σ7 = some (.val (.lst (M (N (2 ^ w) (x % y)))), σ8) :=
        ev_call (by decide) (evs3 z2 (ev_var rfl) (ev_var rfl)) hright
      refine run_plain (σ₁ := σ8) rfl (by decide) rfl ?_
      show exs P _ ir_divrem_school.body σ = _
      unfold ir_divrem_school
      simp only
      rw [exs_step s1, exs_step s2, exs_step s3, exs_step (ex_assign x3 (t := .unset) rfl nl_unset)]
      show exs _ _ _ σ3 = _
      rw [exs_step (ex_assign t1 (t := .unset) rfl nl_unset)]
      show exs _ _ _ σ4 = _
      rw [exs_step (ex_assign t2 (t := .unset) rfl nl_unset)]
      show exs _ _ _ σ5 = _
      rw [exs_step (ex_assign u5 (t := .val (.lst (M (N (2 ^ w) (x * 2 ^ s))))) rfl (nl_val _))]
      show exs _ _ _ σ6 = _
      rw [exs_step (ex_assign u6 (t := .unset) rfl nl_unset)]
      show exs _ _ _ σ7 = _
      exact exs_ret (ex_ret (ev_tup (evs2 z1 z3) (by simp)))
end Mine

end
-- PureM
section
set_option autoImplicit false
set_option maxRecDepth 100000
set_option linter.all false
set_option backward.match.sparseCases false
set_option bootstrap.genMatcherCode false
namespace Mine

noncomputable abbrev L (w x : Nat) : MV := .lst (M (N (2 ^ w) x))
noncomputable abbrev Sg (w : Nat) (b : Bool) (x : Nat) : MV := .tup [.bool b, L w x]
noncomputable abbrev Rt (w : Nat) (b : Bool) (p q : Nat) : MV := .tup [Sg w b p, L w q]

theorem ev_callv {P : Fns} {ln : Nat → Bool} {i f : Nat} {as : List IE} {σ σ₁ : Store} {ds : List MV} {r : MV} {out : List MV} (hf : σ[i]? = some (.val (.fn f))) (hl : ln f = false) (h1 : evs P ln as σ = some (ds, σ₁)) (h2 : P f ds = some (r, out)) : ev P ln (.callv i as) σ = some (.val r, σ₁) := by
  rw [ev, hf]
  simp only [hl, Bool.false_eq_true, if_false, h1, h2, Option.map_some]
theorem ev_idx {P : Fns} {ln : Nat → Bool} {a i : IE} {σ σ₁ σ₂ : Store} {k : Nat} {r : MR} {l : List MV} {d : MV} (h : ev P ln a σ = some (r, σ₁)) (h2 : ev P ln i σ₁ = some (.val (.int (k : Nat)), σ₂)) (hl : r.mv.items? = some l) (hsh : l.length < 4096) (hd : l[k]? = some d) :
    ev P ln (.idx a i) σ = some (.val d, σ₂) := by
  rw [ev, h]
  simp only [h2, hl, short, decide_eq_true hsh, if_true, pyIdx_nat, hd, Option.map_some]
theorem ev_int0 {P : Fns} {ln : Nat → Bool} {σ : Store} : ev P ln (.int 0) σ = some (.val (.int ((0 : Nat) : Int)), σ) := by rw [ev]; rfl
theorem ev_int1 {P : Fns} {ln : Nat → Bool} {σ : Store} : ev P ln (.int 1) σ = some (.val (.int ((1 : Nat) : Int)), σ) := by rw [ev]; rfl
/-- the first or second item of a pair that a name bears -/
theorem ev_fst {P : Fns} {ln : Nat → Bool} {i : Nat} {σ : Store} {a b : MV} (h : σ[i]? = some (.val (.tup [a, b]))) : ev P ln (.idxv i (.int 0)) σ = some (.val a, σ) :=
  ev_idxv (by unfold live; rw [h]) ev_int0 h rfl (by simp) rfl
theorem ev_snd {P : Fns} {ln : Nat → Bool} {i : Nat} {σ : Store} {a b : MV} (h : σ[i]? = some (.val (.tup [a, b]))) : ev P ln (.idxv i (.int 1)) σ = some (.val b, σ) :=
  ev_idxv (by unfold live; rw [h]) ev_int1 h rfl (by simp) rfl
theorem ev_not {P : Fns} {ln : Nat → Bool} {a : IE} {σ σ₁ : Store} {b : Bool} (h : ev P ln a σ = some (.val (.bool b), σ₁)) : ev P ln (.not a) σ = some (.val (.bool (!b)), σ₁) := by
  rw [ev, h]
theorem ev_bool {P : Fns} {ln : Nat → Bool} {b : Bool} {σ : Store} : ev P ln (.bool b) σ = some (.val (.bool b), σ) := by rw [ev]
theorem ev_fn {P : Fns} {ln : Nat → Bool} {f : Nat} {σ : Store} : ev P ln (.fn f) σ = some (.val (.fn f), σ) := by rw [ev]
theorem mc_ltv {x y : MR} {i j : Int} (h1 : x.mv = .int i) (h2 : y.mv = .int j) {b : Bool} (h : decide (i < j) = b) : mcmp .lt x.mv y.mv = some b := by rw [h1, h2]; subst h; rfl
theorem mc_gt' (x y : Int) {b : Bool} (h : decide (y < x) = b) : mcmp .gt (MR.val (.int x)).mv (MR.val (.int y)).mv = some b := by rw [mc_gt]; subst h; rfl

section
variable {w : Nat}

theorem B8 (hw : 3 ≤ w) : 64 ≤ 2 ^ w * 2 ^ w := by
  have h : 8 ≤ 2 ^ w := by
    have := Nat.pow_le_pow_right (n := 2) (by (first | lia | omega)) hw
    simpa using this
  exact Nat.mul_le_mul h h

theorem len_pos (hw : 3 ≤ w) {x : Nat} : 0 < (N (2 ^ w) x).length ↔ 0 < x := by
  have hB := two_le_pow (show 1 ≤ w by (first | lia | omega))
  constructor
  · intro h
    rcases Nat.eq_zero_or_pos x with q | q
    · subst q; simp [N_zero] at h
    · exact q
  · intro h
    cases e : N (2 ^ w) x with
    | nil => have := N_val hB x; rw [e] at this; simp [val] at this; (first | lia | omega)
    | cons _ _ => simp
theorem L_len (hw : 3 ≤ w) {x : Nat} (h : x < 1048576) : (M (N (2 ^ w) x)).length < 4096 := small_len (two_le_pow (by (first | lia | omega))) h

theorem divrem (k : Nat) (hw : 3 ≤ w) (hw' : w < 9) {x y : Nat} (hx : x < 64) (hy : y < 64) (h0 : 0 < y) : Phi tab (k + 4) 26 [L w x, L w y, .int w] = some (.tup [L w (x / y), L w (x % y)], []) := by
  have := B8 hw
  exact school_spec k (by (first | lia | omega)) hw' (by (first | lia | omega)) (by (first | lia | omega)) h0 (by (first | lia | omega)) (by (first | lia | omega))

theorem norm (k : Nat) (hw : 3 ≤ w) {x : Nat} (hx : x < 1048576) : Phi tab (k + 1) 0 [L w x] = some (L w x, []) := by
  have hB := two_le_pow (show 1 ≤ w by (first | lia | omega))
  exact normal_N k hB (by have := N_few hB hx; (first | lia | omega)) (N_dig hB x) (N_val hB x)

theorem common_loop (k : Nat) (hw : 3 ≤ w) (hw' : w < 9) : ∀ (fuel y x : Nat), y < fuel → x < 64 → y < 64 →
    whileL (ev (Phi tab (k + 4)) (lnOf tab) (.cmp .gt (.lenv 1) (.int 0))) (exs (Phi tab (k + 4)) (lnOf tab) [.assigns [0, 1] [(.var 1), (.idx (.callv 3 [(.var 0), (.var 1), (.var 2)]) (.int 1))]]) fuel [.val (L w x), .val (L w y), .val (.int w), .val (.fn 26)] =
      some (.next, [.val (L w (Nat.gcd x y)), .val (L w 0), .val (.int w), .val (.fn 26)])
  | 0, y, x, h, _, _ => by (first | lia | omega)
  | fuel + 1, y, x, h, hx, hy => by
    let σ : Store := [.val (L w x), .val (L w y), .val (.int w), .val (.fn 26)]
    have hl : ev (Phi tab (k + 4)) (lnOf tab) (.lenv 1) σ = some (.val (.int ((M (N (2 ^ w) y)).length : Nat)), σ) := ev_lenv (s := .val (L w y)) rfl rfl (L_len hw (by (first | lia | omega)))
    rw [M_length] at hl
    rcases Nat.eq_zero_or_pos y with h0 | h0
    · subst h0
      rw [while_false (ev_cmp hl ev_int (mc_gt' _ _ (by rw [decide_eq_false_iff_not, N_zero]; simp))), Nat.gcd_zero_right]
    · have hlen := (len_pos hw (x := y)).mpr h0
      have b1 : ev (Phi tab (k + 4)) (lnOf tab) (.idx (.callv 3 [(.var 0), (.var 1), (.var 2)]) (.int 1)) σ = some (.val (L w (x % y)), σ) :=
        ev_idx (ev_callv rfl (by decide) (evs3 (ev_var rfl) (ev_var rfl) (ev_var rfl)) (divrem k hw hw' hx hy h0)) ev_int1 rfl (by simp) rfl
      have st := ex_assigns (xs := [0, 1]) (evr_two (ev_var (P := Phi tab (k + 4)) (ln := lnOf tab) (i := 1) (d := L w y) rfl) b1) (puts_two (t := .val (L w x)) (u := .val (L w y)) (by decide) rfl rfl (nl_val _) (nl_val _))
      rw [while_true (ev_cmp hl ev_int (mc_gt' _ _ (by rw [decide_eq_true_eq]; (first | lia | omega)))) (by rw [exs_step st, exs_nil])]
      have hm := Nat.mod_lt x h0
      have := common_loop k hw hw' fuel (x % y) y (by (first | lia | omega)) hy (by (first | lia | omega))
      rw [show Nat.gcd x y = Nat.gcd y (x % y) by rw [Nat.gcd_comm x y, Nat.gcd_rec y x, Nat.gcd_comm]]
      exact this

theorem common_spec (k : Nat) (hw : 3 ≤ w) (hw' : w < 9) {x y : Nat} (hx : x < 64) (hy : y < 64) : Phi tab (k + 5) 13 [L w x, L w y, .int w, .fn 26] = some (L w (Nat.gcd x y), []) := by
  rw [phi_succ (k + 4) 13 _ (fd := ir_common) rfl]
  have hg : Nat.gcd x y < 1048576 := by
    rcases Nat.eq_zero_or_pos x with h | h
    · subst h; rw [Nat.gcd_zero_left]; (first | lia | omega)
    · have := Nat.gcd_le_left y h; (first | lia | omega)
  refine run_plain (σ₁ := [.val (L w (Nat.gcd x y)), .val (L w 0), .val (.int w), .val (.fn 26)]) rfl (by decide) rfl ?_
  show exs (Phi tab (k + 4)) _ ir_common.body [.val (L w x), .val (L w y), .val (.int w), .val (.fn 26)] = _
  unfold ir_common
  simp only
  have hloop := common_loop k hw hw' 4096 y x (by (first | lia | omega)) hx hy
  rw [exs_step (σ₁ := [.val (L w (Nat.gcd x y)), .val (L w 0), .val (.int w), .val (.fn 26)]) (by rw [ex]; exact hloop)]
  exact exs_ret (ex_ret (ev_call (by decide) (evs1 (ev_var rfl)) (norm (k + 3) hw hg)))

theorem signed_spec (k : Nat) (hw : 3 ≤ w) {b : Bool} {x : Nat} (hx : x < 1048576) : Phi tab (k + 1) 8 [.bool b, L w x] = some (Sg w (b && decide (0 < x)) x, []) := by
  rw [phi_succ k 8 _ (fd := ir_signed) rfl]
  let σ : Store := [.val (.bool b), .val (L w x)]
  refine run_plain (σ₁ := σ) rfl (by decide) rfl ?_
  show exs (Phi tab k) _ ir_signed.body σ = _
  unfold ir_signed
  have hl : ev (Phi tab k) (lnOf tab) (.lenv 1) σ = some (.val (.int ((M (N (2 ^ w) x)).length : Nat)), σ) := ev_lenv (s := .val (L w x)) rfl rfl (L_len hw hx)
  rw [M_length] at hl
  have v0 : ev (Phi tab k) (lnOf tab) (.var 0) σ = some (.val (.bool b), σ) := ev_var rfl
  have hc : ev (Phi tab k) (lnOf tab) (.cmp .gt (.lenv 1) (.int 0)) σ = some (.val (.bool (decide (0 < x))), σ) := ev_cmp hl ev_int (mc_gt' _ _ (by
    have := len_pos hw (x := x)
    rw [decide_eq_decide, ← this]; (first | lia | omega)))
  have ha : ev (Phi tab k) (lnOf tab) (.and (.var 0) (.cmp .gt (.lenv 1) (.int 0))) σ = some (.val (.bool (b && decide (0 < x))), σ) := by
    cases b
    · exact ev_and_f v0
    · exact ev_and_t v0 hc
  exact exs_ret (ex_ret (ev_tup (evs2 ha (ev_var rfl)) (by simp)))

theorem neg_spec (k : Nat) (hw : 3 ≤ w) {b : Bool} {x : Nat} (hx : x < 1048576) : Phi tab (k + 2) 9 [Sg w b x] = some (Sg w (!b && decide (0 < x)) x, []) := by
  rw [phi_succ (k + 1) 9 _ (fd := ir_s_neg) rfl]
  let σ : Store := [.val (Sg w b x)]
  refine run_plain (σ₁ := σ) rfl (by decide) rfl ?_
  show exs (Phi tab (k + 1)) _ ir_s_neg.body σ = _
  unfold ir_s_neg
  exact exs_ret (ex_ret (ev_call (by decide) (evs2 (ev_not (ev_fst rfl)) (ev_snd rfl)) (signed_spec k hw hx)))

theorem of_spec (k : Nat) {x : Nat} : Phi tab (k + 1) 15 [L w x] = some (Sg w false x, []) := by
  rw [phi_succ k 15 _ (fd := ir_signed_of) rfl]
  let σ : Store := [.val (L w x)]
  refine run_plain (σ₁ := σ) rfl (by decide) rfl ?_
  show exs (Phi tab k) _ ir_signed_of.body σ = _
  unfold ir_signed_of
  exact exs_ret (ex_ret (ev_tup (evs2 ev_bool (ev_var rfl)) (by simp)))

theorem smul_spec (k : Nat) (hw : 3 ≤ w) (hw' : w < 9) {b : Bool} {x y : Nat} (hx : x < 1024) (hy : y < 1024) : Phi tab (k + 3) 12 [Sg w b x, Sg w false y, .int w, .fn 20] = some (Sg w (b && decide (0 < x * y)) (x * y), []) := by
  rw [phi_succ (k + 2) 12 _ (fd := ir_s_mul) rfl]
  let σ : Store := [.val (Sg w b x), .val (Sg w false y), .val (.int w), .val (.fn 20)]
  refine run_plain (σ₁ := σ) rfl (by decide) rfl ?_
  show exs (Phi tab (k + 2)) _ ir_s_mul.body σ = _
  unfold ir_s_mul
  have hxy : x * y < 1048576 := by
    have : x * y ≤ 1023 * 1023 := Nat.mul_le_mul (by (first | lia | omega)) (by (first | lia | omega))
    (first | lia | omega)
  have h1 : ev (Phi tab (k + 2)) (lnOf tab) (.cmp .ne (.idxv 0 (.int 0)) (.idxv 1 (.int 0))) σ = some (.val (.bool b), σ) := ev_cmp (ev_fst rfl) (ev_fst rfl) (by cases b <;> rfl)
  exact exs_ret (ex_ret (ev_call (by decide) (evs2 h1 (ev_callv rfl (by decide) (evs3 (ev_snd rfl) (ev_snd rfl) (ev_var rfl)) (mul_spec k (by (first | lia | omega)) (by (first | lia | omega)) (by (first | lia | omega)) (by (first | lia | omega))))) (signed_spec (k + 1) hw hxy)))

theorem scmp_spec (k : Nat) (hw : 3 ≤ w) {x y : Nat} (hx : x < 1048576) (hy : y < 1048576) : Phi tab (k + 2) 10 [Sg w false x, Sg w false y] = some (.int (cmpZ x y), []) := by
  rw [phi_succ (k + 1) 10 _ (fd := ir_s_compare) rfl]
  let σ : Store := [.val (Sg w false x), .val (Sg w false y)]
  refine run_plain (σ₁ := σ) rfl (by decide) rfl ?_
  show exs (Phi tab (k + 1)) _ ir_s_compare.body σ = _
  unfold ir_s_compare
  simp only
  have h1 : ev (Phi tab (k + 1)) (lnOf tab) (.cmp .ne (.idxv 0 (.int 0)) (.idxv 1 (.int 0))) σ = some (.val (.bool false), σ) := ev_cmp (ev_fst rfl) (ev_fst rfl) rfl
  rw [exs_step (ex_if_f h1 exs_nil)]
  exact exs_ret (ex_ret (ev_ite_f (ev_fst rfl) (ev_call (by decide) (evs2 (ev_snd rfl) (ev_snd rfl)) (compare_N k (two_le_pow (by (first | lia | omega))) hx hy))))

/-- adding what is not below nought to what may be -/
theorem sadd_spec (k : Nat) (hw : 3 ≤ w) (hw' : w < 9) {b : Bool} {x y : Nat} (hx : x < 524288) (hy : y < 524288) (hb : b = true → y ≤ x) : Phi tab (k + 3) 11 [Sg w false x, Sg w b y, .int w] = some (Sg w false (if b then x - y else x + y), []) := by
  rw [phi_succ (k + 2) 11 _ (fd := ir_s_add) rfl]
  let σ : Store := [.val (Sg w false x), .val (Sg w b y), .val (.int w)]
  refine run_plain (σ₁ := σ) rfl (by decide) rfl ?_
  show exs (Phi tab (k + 2)) _ ir_s_add.body σ = _
  unfold ir_s_add
  simp only
  cases b with
  | false =>
    have h1 : ev (Phi tab (k + 2)) (lnOf tab) (.cmp .eq (.idxv 0 (.int 0)) (.idxv 1 (.int 0))) σ = some (.val (.bool true), σ) := ev_cmp (ev_fst rfl) (ev_fst rfl) rfl
    have i1 : ev (Phi tab (k + 2)) (lnOf tab) (.call 2 [(.idxv 0 (.int 1)), (.idxv 1 (.int 1)), (.var 2)]) σ = some (.val (L w (x + y)), σ) := ev_call (by decide) (evs3 (ev_snd rfl) (ev_snd rfl) (ev_var rfl)) (add_spec (k + 1) (x := x) (y := y) (by (first | lia | omega)) (by (first | lia | omega)) (by (first | lia | omega)) (by (first | lia | omega)))
    have i2 : ev (Phi tab (k + 2)) (lnOf tab) (.call 8 [(.idxv 0 (.int 0)), (.call 2 [(.idxv 0 (.int 1)), (.idxv 1 (.int 1)), (.var 2)])]) σ = some (.val (Sg w false (x + y)), σ) := ev_call (by decide) (evs2 (ev_fst rfl) i1) (signed_spec (k + 1) (b := false) hw (by (first | lia | omega)))
    exact exs_ret (ex_if_t h1 (exs_ret (ex_ret i2)))
  | true =>
    have hyx := hb rfl
    have h1 : ev (Phi tab (k + 2)) (lnOf tab) (.cmp .eq (.idxv 0 (.int 0)) (.idxv 1 (.int 0))) σ = some (.val (.bool false), σ) := ev_cmp (ev_fst rfl) (ev_fst rfl) rfl
    have h2 : ev (Phi tab (k + 2)) (lnOf tab) (.cmp .lt (.call 1 [(.idxv 0 (.int 1)), (.idxv 1 (.int 1))]) (.int 0)) σ = some (.val (.bool false), σ) :=
      ev_cmp (ev_call (by decide) (evs2 (ev_snd rfl) (ev_snd rfl)) (compare_N (k + 1) (two_le_pow (by (first | lia | omega))) (by (first | lia | omega)) (by (first | lia | omega)))) ev_int (mc_lt' _ _ (by rw [decide_eq_false_iff_not, cmpZ_neg]; (first | lia | omega)))
    rw [exs_step (ex_if_f h1 exs_nil), exs_step (ex_if_f h2 exs_nil)]
    have i1 : ev (Phi tab (k + 2)) (lnOf tab) (.call 3 [(.idxv 0 (.int 1)), (.idxv 1 (.int 1)), (.var 2)]) σ = some (.val (L w (x - y)), σ) := ev_call (by decide) (evs3 (ev_snd rfl) (ev_snd rfl) (ev_var rfl)) (sub_spec k (x := x) (y := y) (by (first | lia | omega)) (by (first | lia | omega)) (by (first | lia | omega)) hyx)
    have i2 : ev (Phi tab (k + 2)) (lnOf tab) (.call 8 [(.idxv 0 (.int 0)), (.call 3 [(.idxv 0 (.int 1)), (.idxv 1 (.int 1)), (.var 2)])]) σ = some (.val (Sg w false (x - y)), σ) := ev_call (by decide) (evs2 (ev_fst rfl) i1) (signed_spec (k + 1) (b := false) hw (by (first | lia | omega)))
    exact exs_ret (ex_ret i2)

theorem cut_spec (k : Nat) (hw : 3 ≤ w) (hw' : w < 9) {x y : Nat} (hx : x < 64) (hy : y < 64) (h0 : 0 < y) : Phi tab (k + 5) 14 [Sg w false x, L w y, .int w, .fn 26] = some (Sg w false (x / y), []) := by
  rw [phi_succ (k + 4) 14 _ (fd := ir_cut_signed) rfl]
  let σ : Store := [.val (Sg w false x), .val (L w y), .val (.int w), .val (.fn 26)]
  refine run_plain (σ₁ := σ) rfl (by decide) rfl ?_
  show exs (Phi tab (k + 4)) _ ir_cut_signed.body σ = _
  unfold ir_cut_signed
  exact exs_ret (ex_ret (ev_tup (evs2 (ev_fst rfl) (ev_idx (ev_callv rfl (by decide) (evs3 (ev_snd rfl) (ev_var rfl) (ev_var rfl)) (divrem k hw hw' hx hy h0)) ev_int0 rfl (by simp) rfl)) (by simp)))

theorem rneg_spec (k : Nat) (hw : 3 ≤ w) {b : Bool} {p q : Nat} (hp : p < 1048576) : Phi tab (k + 3) 16 [Rt w b p q] = some (Rt w (!b && decide (0 < p)) p q, []) := by
  rw [phi_succ (k + 2) 16 _ (fd := ir_r_neg) rfl]
  let σ : Store := [.val (Rt w b p q)]
  refine run_plain (σ₁ := σ) rfl (by decide) rfl ?_
  show exs (Phi tab (k + 2)) _ ir_r_neg.body σ = _
  unfold ir_r_neg
  exact exs_ret (ex_ret (ev_tup (evs2 (ev_call (by decide) (evs1 (ev_fst rfl)) (neg_spec k hw hp)) (ev_snd rfl)) (by simp)))

theorem rcmp_spec (k : Nat) (hw : 3 ≤ w) (hw' : w < 9) {p1 q1 p2 q2 : Nat} (h1 : p1 < 1024) (h2 : q1 < 1024) (h3 : p2 < 1024) (h4 : q2 < 1024) : Phi tab (k + 4) 19 [Rt w false p1 q1, Rt w false p2 q2, .int w, .fn 20] = some (.int (cmpZ (p1 * q2) (p2 * q1)), []) := by
  rw [phi_succ (k + 3) 19 _ (fd := ir_r_compare) rfl]
  let σ : Store := [.val (Rt w false p1 q1), .val (Rt w false p2 q2), .val (.int w), .val (.fn 20)]
  refine run_plain (σ₁ := σ) rfl (by decide) rfl ?_
  show exs (Phi tab (k + 3)) _ ir_r_compare.body σ = _
  unfold ir_r_compare
  have b1 : p1 * q2 < 1048576 := by
    have : p1 * q2 ≤ 1023 * 1023 := Nat.mul_le_mul (by (first | lia | omega)) (by (first | lia | omega))
    (first | lia | omega)
  have b2 : p2 * q1 < 1048576 := by
    have : p2 * q1 ≤ 1023 * 1023 := Nat.mul_le_mul (by (first | lia | omega)) (by (first | lia | omega))
    (first | lia | omega)
  have m1 : ev (Phi tab (k + 3)) (lnOf tab) (.call 12 [(.idxv 0 (.int 0)), (.call 15 [(.idxv 1 (.int 1))]), (.var 2), (.var 3)]) σ = some (.val (Sg w false (p1 * q2)), σ) :=
    ev_call (by decide) (evs_cons (ev_fst rfl) (evs3 (ev_call (by decide) (evs1 (ev_snd rfl)) (of_spec (k + 2))) (ev_var rfl) (ev_var rfl))) (smul_spec k hw hw' h1 h4)
  have m2 : ev (Phi tab (k + 3)) (lnOf tab) (.call 12 [(.idxv 1 (.int 0)), (.call 15 [(.idxv 0 (.int 1))]), (.var 2), (.var 3)]) σ = some (.val (Sg w false (p2 * q1)), σ) :=
    ev_call (by decide) (evs_cons (ev_fst rfl) (evs3 (ev_call (by decide) (evs1 (ev_snd rfl)) (of_spec (k + 2))) (ev_var rfl) (ev_var rfl))) (smul_spec k hw hw' h3 h2)
  exact exs_ret (ex_ret (ev_call (by decide) (evs2 m1 m2) (scmp_spec (k + 1) hw b1 b2)))
end
end Mine

end
-- PureN
section
set_option autoImplicit false
set_option maxRecDepth 100000
set_option linter.all false
set_option backward.match.sparseCases false
set_option bootstrap.genMatcherCode false
namespace Mine

theorem ev_len {P : Fns} {ln : Nat → Bool} {a : IE} {σ σ₁ : Store} {x : MR} {l : List MV} (h : ev P ln a σ = some (x, σ₁)) (hl : x.mv.items? = some l) (hsh : l.length < 4096) : ev P ln (.len a) σ = some (.val (.int (l.length : Nat)), σ₁) := by
  rw [ev, h]
  simp only [hl, short, decide_eq_true hsh, if_true]

/-- the top of a sum -/
noncomputable def topN (b : Bool) (p1 q1 p2 q2 : Nat) : Nat := if b then p1 * (q2 / Nat.gcd q1 q2) - p2 * (q1 / Nat.gcd q1 q2) else p1 * (q2 / Nat.gcd q1 q2) + p2 * (q1 / Nat.gcd q1 q2)
noncomputable def raddN (b : Bool) (p1 q1 p2 q2 : Nat) : Nat × Nat :=
  if topN b p1 q1 p2 q2 = 0 then (0, 1) else (topN b p1 q1 p2 q2 / Nat.gcd (topN b p1 q1 p2 q2) (Nat.gcd q1 q2), q1 / Nat.gcd q1 q2 * (q2 / Nat.gcd (topN b p1 q1 p2 q2) (Nat.gcd q1 q2)))

section
variable {w : Nat}

theorem radd_spec (k : Nat) (hw : 3 ≤ w) (hw' : w < 9) {b : Bool} {p1 q1 p2 q2 : Nat} (hp1 : p1 < 64) (hq1 : q1 < 64) (hq1' : 0 < q1) (hp2 : p2 < 64) (hq2 : q2 < 64) (hq2' : 0 < q2)
    (hb : b = true → p2 * (q1 / Nat.gcd q1 q2) ≤ p1 * (q2 / Nat.gcd q1 q2)) (hT : topN b p1 q1 p2 q2 < 64) :
    Phi tab (k + 6) 17 [Rt w false p1 q1, Rt w b p2 q2, .int w, .fn 20, .fn 26] = some (Rt w false (raddN b p1 q1 p2 q2).1 (raddN b p1 q1 p2 q2).2, []) := by
  rw [phi_succ (k + 5) 17 _ (fd := ir_r_add) rfl]
  have hg1 : Nat.gcd q1 q2 ≤ q1 := Nat.gcd_le_left _ hq1'
  have hg0 : 0 < Nat.gcd q1 q2 := Nat.gcd_pos_of_pos_left _ hq1'
  have hh : q1 / Nat.gcd q1 q2 < 64 := Nat.lt_of_le_of_lt (Nat.div_le_self _ _) hq1
  have ht : q2 / Nat.gcd q1 q2 < 64 := Nat.lt_of_le_of_lt (Nat.div_le_self _ _) hq2
  have hcom := common_spec k hw hw' (x := q1) (y := q2) hq1 hq2
  have hd1 := divrem (k + 1) hw hw' (x := q1) (y := Nat.gcd q1 q2) hq1 (by (first | lia | omega)) hg0
  have hd2 := divrem (k + 1) hw hw' (x := q2) (y := Nat.gcd q1 q2) hq2 (by (first | lia | omega)) hg0
  unfold raddN
  unfold topN at *
  generalize Nat.gcd q1 q2 = g at *
  generalize hhd : q1 / g = h at *
  generalize htd : q2 / g = t at *
  let P := Phi tab (k + 5)
  have hA : p1 * t < 4096 := Nat.lt_of_le_of_lt (Nat.mul_le_mul (show p1 ≤ 63 by (first | lia | omega)) (show t ≤ 63 by (first | lia | omega))) (by (first | lia | omega))
  have hC : p2 * h < 4096 := Nat.lt_of_le_of_lt (Nat.mul_le_mul (show p2 ≤ 63 by (first | lia | omega)) (show h ≤ 63 by (first | lia | omega))) (by (first | lia | omega))
  have hm1 := smul_spec (k + 2) hw hw' (b := false) (x := p1) (y := t) (by (first | lia | omega)) (by (first | lia | omega))
  have hm2 := smul_spec (k + 2) hw hw' (b := b) (x := p2) (y := h) (by (first | lia | omega)) (by (first | lia | omega))
  have hadd := sadd_spec (k + 2) hw hw' (b := b && decide (0 < p2 * h)) (x := p1 * t) (y := p2 * h) (by (first | lia | omega)) (by (first | lia | omega)) (fun e => hb (by simp at e; exact e.1))
  have hTe : (if (b && decide (0 < p2 * h)) = true then p1 * t - p2 * h else p1 * t + p2 * h) = (if b = true then p1 * t - p2 * h else p1 * t + p2 * h) := by
    cases b
    · simp
    · by_cases h0 : 0 < p2 * h
      · simp [h0]
      · simp [h0]; (first | lia | omega)
  rw [hTe] at hadd
  generalize (if b = true then p1 * t - p2 * h else p1 * t + p2 * h) = T at *
  let σ0 : Store := [.val (Rt w false p1 q1), .val (Rt w b p2 q2), .val (.int w), .val (.fn 20), .val (.fn 26), .unset, .unset, .unset, .unset, .unset]
  let σ1 : Store := [.val (Rt w false p1 q1), .val (Rt w b p2 q2), .val (.int w), .val (.fn 20), .val (.fn 26), .val (L w g), .unset, .unset, .unset, .unset]
  let σ2 : Store := [.val (Rt w false p1 q1), .val (Rt w b p2 q2), .val (.int w), .val (.fn 20), .val (.fn 26), .val (L w g), .val (L w h), .val (L w t), .unset, .unset]
  let σ3 : Store := [.val (Rt w false p1 q1), .val (Rt w b p2 q2), .val (.int w), .val (.fn 20), .val (.fn 26), .val (L w g), .val (L w h), .val (L w t), .val (Sg w false T), .unset]
  have e1 : ev P (lnOf tab) (.call 13 [(.idxv 0 (.int 1)), (.idxv 1 (.int 1)), (.var 2), (.var 4)]) σ0 = some (.val (L w g), σ0) := ev_call (by decide) (evs_cons (ev_snd rfl) (evs3 (ev_snd rfl) (ev_var rfl) (ev_var rfl))) hcom
  have e2 : ev P (lnOf tab) (.idx (.callv 4 [(.idxv 0 (.int 1)), (.var 5), (.var 2)]) (.int 0)) σ1 = some (.val (L w h), σ1) :=
    ev_idx (ev_callv rfl (by decide) (evs3 (ev_snd rfl) (ev_var rfl) (ev_var rfl)) hd1) ev_int0 rfl (by simp) rfl
  have e3 : ev P (lnOf tab) (.idx (.callv 4 [(.idxv 1 (.int 1)), (.var 5), (.var 2)]) (.int 0)) σ1 = some (.val (L w t), σ1) :=
    ev_idx (ev_callv rfl (by decide) (evs3 (ev_snd rfl) (ev_var rfl) (ev_var rfl)) hd2) ev_int0 rfl (by simp) rfl
  have m1 : ev P (lnOf tab) (.call 12 [(.idxv 0 (.int 0)), (.call 15 [(.var 7)]), (.var 2), (.var 3)]) σ2 = some (.val (Sg w false (p1 * t)), σ2) :=
    ev_call (by decide) (evs_cons (ev_fst rfl) (evs3 (ev_call (by decide) (evs1 (ev_var rfl)) (of_spec (k + 4))) (ev_var rfl) (ev_var rfl))) hm1
  have m2 : ev P (lnOf tab) (.call 12 [(.idxv 1 (.int 0)), (.call 15 [(.var 6)]), (.var 2), (.var 3)]) σ2 = some (.val (Sg w (b && decide (0 < p2 * h)) (p2 * h)), σ2) :=
    ev_call (by decide) (evs_cons (ev_fst rfl) (evs3 (ev_call (by decide) (evs1 (ev_var rfl)) (of_spec (k + 4))) (ev_var rfl) (ev_var rfl))) hm2
  have e4 : ev P (lnOf tab) (.call 11 [(.call 12 [(.idxv 0 (.int 0)), (.call 15 [(.var 7)]), (.var 2), (.var 3)]), (.call 12 [(.idxv 1 (.int 0)), (.call 15 [(.var 6)]), (.var 2), (.var 3)]), (.var 2)]) σ2 = some (.val (Sg w false T), σ2) :=
    ev_call (by decide) (evs3 m1 m2 (ev_var rfl)) hadd
  have hl : ev P (lnOf tab) (.len (.idxv 8 (.int 1))) σ3 = some (.val (.int ((M (N (2 ^ w) T)).length : Nat)), σ3) := ev_len (ev_snd rfl) rfl (L_len hw (by (first | lia | omega)))
  rw [M_length] at hl
  have go : exs P (lnOf tab) ir_r_add.body σ0 = exs P (lnOf tab) [.ite (.cmp .eq (.len (.idxv 8 (.int 1))) (.int 0)) [.ret (.tup [(.var 8), (.list [(.int 1)])])] [], .assign 9 (.call 13 [(.idxv 8 (.int 1)), (.var 5), (.var 2), (.var 4)]),
      .ret (.tup [(.call 14 [(.var 8), (.var 9), (.var 2), (.var 4)]), (.callv 3 [(.var 6), (.idx (.callv 4 [(.idxv 1 (.int 1)), (.var 9), (.var 2)]) (.int 0)), (.var 2)])])] σ3 := by
    unfold ir_r_add
    simp only
    rw [exs_step (ex_assign e1 (t := .unset) rfl nl_unset)]
    show exs _ _ _ σ1 = _
    rw [exs_step (ex_assigns (evr_two e2 e3) (puts_two (t := .unset) (u := .unset) (by decide) rfl rfl nl_unset nl_unset))]
    show exs _ _ _ σ2 = _
    rw [exs_step (ex_assign e4 (t := .unset) rfl nl_unset)]
    rfl
  by_cases h0 : T = 0
  · subst h0
    rw [if_pos rfl]
    refine run_plain (σ₁ := σ3) rfl (by decide) rfl ?_
    show exs P _ ir_r_add.body σ0 = _
    rw [go]
    have hone : M (N (2 ^ w) 1) = [.int 1] := by rw [N_one (two_le_pow (by (first | lia | omega))) (by (first | lia | omega)) (by have := two_le_pow (show 1 ≤ w by (first | lia | omega)); (first | lia | omega))]; rfl
    have e0 : ev P (lnOf tab) (.list [.int 1]) σ3 = some (.new [.int 1], σ3) := ev_list (evs1 ev_int) (by simp)
    have e9 : ev P (lnOf tab) (.tup [.var 8, .list [.int 1]]) σ3 = some (.val (.tup [Sg w false 0, .lst (M (N (2 ^ w) 1))]), σ3) := by
      rw [hone]
      exact ev_tup (evs2 (ev_var rfl) e0) (by simp)
    exact exs_ret (ex_if_t (ev_cmp hl ev_int (mc_eq' _ _ rfl)) (exs_ret (ex_ret e9)))
  · rw [if_neg h0]
    have ho0 : 0 < Nat.gcd T g := Nat.gcd_pos_of_pos_right _ hg0
    have ho1 : Nat.gcd T g ≤ g := Nat.gcd_le_right _ hg0
    have hcom2 := common_spec k hw hw' (x := T) (y := g) hT (by (first | lia | omega))
    have hd3 := divrem (k + 1) hw hw' (x := q2) (y := Nat.gcd T g) hq2 (by (first | lia | omega)) ho0
    have hcut := cut_spec k hw hw' (x := T) (y := Nat.gcd T g) hT (by (first | lia | omega)) ho0
    generalize Nat.gcd T g = o at *
    have hqo : q2 / o < 64 := Nat.lt_of_le_of_lt (Nat.div_le_self _ _) hq2
    have hmul := mul_spec (k + 3) (w := w) (x := h) (y := q2 / o) (by (first | lia | omega)) (by (first | lia | omega)) (by (first | lia | omega)) (by (first | lia | omega))
    let σ4 : Store := [.val (Rt w false p1 q1), .val (Rt w b p2 q2), .val (.int w), .val (.fn 20), .val (.fn 26), .val (L w g), .val (L w h), .val (L w t), .val (Sg w false T), .val (L w o)]
    have e5 : ev P (lnOf tab) (.call 13 [(.idxv 8 (.int 1)), (.var 5), (.var 2), (.var 4)]) σ3 = some (.val (L w o), σ3) := ev_call (by decide) (evs_cons (ev_snd rfl) (evs3 (ev_var rfl) (ev_var rfl) (ev_var rfl))) hcom2
    have e6 : ev P (lnOf tab) (.call 14 [(.var 8), (.var 9), (.var 2), (.var 4)]) σ4 = some (.val (Sg w false (T / o)), σ4) := ev_call (by decide) (evs_cons (ev_var rfl) (evs3 (ev_var rfl) (ev_var rfl) (ev_var rfl))) hcut
    have e7 : ev P (lnOf tab) (.idx (.callv 4 [(.idxv 1 (.int 1)), (.var 9), (.var 2)]) (.int 0)) σ4 = some (.val (L w (q2 / o)), σ4) :=
      ev_idx (ev_callv rfl (by decide) (evs3 (ev_snd rfl) (ev_var rfl) (ev_var rfl)) hd3) ev_int0 rfl (by simp) rfl
    have e8 : ev P (lnOf tab) (.callv 3 [(.var 6), (.idx (.callv 4 [(.idxv 1 (.int 1)), (.var 9), (.var 2)]) (.int 0)), (.var 2)]) σ4 = some (.val (L w (h * (q2 / o))), σ4) :=
      ev_callv rfl (by decide) (evs3 (ev_var rfl) e7 (ev_var rfl)) hmul
    refine run_plain (σ₁ := σ4) rfl (by decide) rfl ?_
    show exs P _ ir_r_add.body σ0 = _
    rw [go]
    have hlen := (len_pos hw (x := T)).mpr (by (first | lia | omega))
    rw [exs_step (ex_if_f (ev_cmp hl ev_int (mc_eq' _ _ (by rw [beq_eq_false_iff_ne]; (first | lia | omega)))) exs_nil), exs_step (ex_assign e5 (t := .unset) rfl nl_unset)]
    show exs _ _ _ σ4 = _
    exact exs_ret (ex_ret (ev_tup (evs2 e6 e8) (by simp)))

theorem rsub_spec (k : Nat) (hw : 3 ≤ w) (hw' : w < 9) {p1 q1 p2 q2 : Nat} (hp1 : p1 < 64) (hq1 : q1 < 64) (hq1' : 0 < q1) (hp2 : p2 < 64) (hq2 : q2 < 64) (hq2' : 0 < q2)
    (hb : p2 * (q1 / Nat.gcd q1 q2) ≤ p1 * (q2 / Nat.gcd q1 q2)) (hT : topN (decide (0 < p2)) p1 q1 p2 q2 < 64) :
    Phi tab (k + 7) 18 [Rt w false p1 q1, Rt w false p2 q2, .int w, .fn 20, .fn 26] = some (Rt w false (raddN (decide (0 < p2)) p1 q1 p2 q2).1 (raddN (decide (0 < p2)) p1 q1 p2 q2).2, []) := by
  rw [phi_succ (k + 6) 18 _ (fd := ir_r_sub) rfl]
  let σ : Store := [.val (Rt w false p1 q1), .val (Rt w false p2 q2), .val (.int w), .val (.fn 20), .val (.fn 26)]
  refine run_plain (σ₁ := σ) rfl (by decide) rfl ?_
  show exs (Phi tab (k + 6)) _ ir_r_sub.body σ = _
  unfold ir_r_sub
  have h1 : ev (Phi tab (k + 6)) (lnOf tab) (.call 16 [(.var 1)]) σ = some (.val (Rt w (decide (0 < p2)) p2 q2), σ) := by
    have := rneg_spec (k + 3) hw (b := false) (p := p2) (q := q2) (by (first | lia | omega))
    rw [Bool.not_false, Bool.true_and] at this
    exact ev_call (by decide) (evs1 (ev_var rfl)) this
  exact exs_ret (ex_ret (ev_call (by decide) (evs_cons (ev_var rfl) (evs_cons h1 (evs3 (ev_var rfl) (ev_var rfl) (ev_var rfl)))) (radd_spec k hw hw' hp1 hq1 hq1' hp2 hq2 hq2' (fun _ => hb) hT)))
end
end Mine

end
-- PureO
section
set_option autoImplicit false
set_option maxRecDepth 100000
set_option linter.all false
set_option backward.match.sparseCases false
set_option bootstrap.genMatcherCode false
namespace Mine

theorem N_step {B : Nat} (hB : 2 ≤ B) {x : Nat} (h : 0 < x) : N B x = x % B :: N B (x / B) := by
  have e : N B x = x % B :: digF B (x - 1) (x / B) := by
    obtain ⟨y, rfl⟩ : ∃ y, x = y + 1 := ⟨x - 1, by (first | lia | omega)⟩
    show digF B (y + 1) (y + 1) = _
    rw [digF, if_neg (by (first | lia | omega))]
    rfl
  rw [e]
  congr 1
  have hlt : x / B < x := Nat.div_lt_self h (by (first | lia | omega))
  obtain ⟨h1, h2, h3⟩ := digF_val hB (x - 1) (x / B) (by (first | lia | omega))
  exact N_unique hB h2 h3 h1

theorem ib_pow {w : Nat} (hw : w < 64) : ibin .pow (2 : Int) (w : Int) = some ((2 ^ w : Nat) : Int) := by
  have : ibin .pow (2 : Int) (w : Int) = if decide (0 ≤ (2 : Int)) && decide ((2 : Int) < 256) && decide (0 ≤ (w : Int)) && decide ((w : Int) < 64) then some ((2 : Int) ^ (w : Int).toNat) else none := rfl
  rw [this, decide_eq_true (show (0 : Int) ≤ w by (first | lia | omega)), decide_eq_true (show (w : Int) < 64 by (first | lia | omega)), Int.toNat_natCast]
  show some ((2 : Int) ^ w) = _
  push_cast
  rfl

theorem ex_append {P : Fns} {ln : Nat → Bool} {x : Nat} {e : IE} {σ σ₁ : Store} {r : MR} {l : List MV} (hh : held σ x = true) (h : ev P ln e σ = some (r, σ₁)) (hs : σ₁[x]? = some (.own l)) (hsh : l.length < 4096) : ex P ln (.append x e) σ = some (.next, σ₁.set x (.own (l ++ [r.mv]))) := by
  rw [ex, hh, h]
  simp only [if_true, hs, Slot.list?, short, decide_eq_true hsh, relist]

section
variable {w : Nat}

theorem limbs_loop (P : Fns) (hw : 3 ≤ w) (hw' : w < 9) : ∀ (fuel x : Nat) (f : List Nat), x < fuel → f.length + x < 4000 →
    whileL (ev P (lnOf tab) (.cmp .gt (.var 0) (.int 0))) (exs P (lnOf tab) [.append 2 (.bin .mod (.var 0) (.bin .pow (.int 2) (.var 1))), .assign 0 (.bin .fdiv (.var 0) (.bin .pow (.int 2) (.var 1)))]) fuel [.val (.int (x : Nat)), .val (.int w), .own (M f)] =
      some (.next, [.val (.int (0 : Nat)), .val (.int w), .own (M (f ++ N (2 ^ w) x))])
  | 0, x, f, h, _ => by (first | lia | omega)
  | fuel + 1, x, f, h, hf => by
    obtain ⟨hB, hB'⟩ := pow_facts (show 1 ≤ w by (first | lia | omega)) (show w < 16 by (first | lia | omega))
    have v0 : ev P (lnOf tab) (.var 0) [.val (.int (x : Nat)), .val (.int w), .own (M f)] = some (.val (.int (x : Nat)), [.val (.int (x : Nat)), .val (.int w), .own (M f)]) := ev_var rfl
    rcases Nat.eq_zero_or_pos x with h0 | h0
    · subst h0
      rw [while_false (ev_cmp v0 ev_int (mc_gt' _ _ rfl)), N_zero, List.append_nil]
    · have p1 : ev P (lnOf tab) (.bin .pow (.int 2) (.var 1)) [.val (.int (x : Nat)), .val (.int w), .own (M f)] = some (.val (.int ((2 ^ w : Nat))), [.val (.int (x : Nat)), .val (.int w), .own (M f)]) := ev_bin ev_int (ev_var (d := .int w) rfl) (mb_int (ib_pow (by (first | lia | omega))))
      have a1 : ex P (lnOf tab) (.append 2 (.bin .mod (.var 0) (.bin .pow (.int 2) (.var 1)))) [.val (.int (x : Nat)), .val (.int w), .own (M f)] = some (.next, [.val (.int (x : Nat)), .val (.int w), .own (M (f ++ [x % 2 ^ w]))]) := by
        have := ex_append (P := P) (ln := lnOf tab) (x := 2) (l := M f) rfl (ev_bin (o := .mod) v0 p1 (mb_int (ib_mod (by (first | lia | omega))))) rfl (by rw [M_length]; (first | lia | omega))
        rw [this]
        show some (Fl.next, [Slot.val (.int (x : Nat)), .val (.int w), .own (M f ++ [MV.int ((x % 2 ^ w : Nat))])]) = _
        rw [M_push]
      have p2 : ev P (lnOf tab) (.bin .pow (.int 2) (.var 1)) [.val (.int (x : Nat)), .val (.int w), .own (M (f ++ [x % 2 ^ w]))] = some (.val (.int ((2 ^ w : Nat))), [.val (.int (x : Nat)), .val (.int w), .own (M (f ++ [x % 2 ^ w]))]) := ev_bin ev_int (ev_var (d := .int w) rfl) (mb_int (ib_pow (by (first | lia | omega))))
      have a2 := ex_assign (P := P) (ln := lnOf tab) (x := 0) (t := .val (.int (x : Nat))) (ev_bin (o := .fdiv) (ev_var (i := 0) (d := .int (x : Nat)) rfl) p2 (mb_int (ib_fdiv (by (first | lia | omega)) (by (first | lia | omega))))) rfl (nl_val _)
      have body : exs P (lnOf tab) [.append 2 (.bin .mod (.var 0) (.bin .pow (.int 2) (.var 1))), .assign 0 (.bin .fdiv (.var 0) (.bin .pow (.int 2) (.var 1)))] [.val (.int (x : Nat)), .val (.int w), .own (M f)] = some (.next, [.val (.int ((x / 2 ^ w : Nat))), .val (.int w), .own (M (f ++ [x % 2 ^ w]))]) := by
        rw [exs_step a1, exs_step a2, exs_nil]
        rfl
      have hlt : x / 2 ^ w < x := Nat.div_lt_self h0 (by (first | lia | omega))
      rw [while_true (ev_cmp v0 ev_int (mc_gt' _ _ (by rw [decide_eq_true_eq]; (first | lia | omega)))) body, limbs_loop P hw hw' fuel (x / 2 ^ w) _ (by (first | lia | omega)) (by simp; (first | lia | omega)), N_step hB h0, List.append_assoc]
      rfl

theorem limbs_spec (k : Nat) (hw : 3 ≤ w) (hw' : w < 9) {x : Nat} (hx : x < 4000) : Phi tab (k + 1) 28 [.int (x : Nat), .int w] = some (L w x, []) := by
  rw [phi_succ k 28 _ (fd := ir_law_limbs) rfl]
  refine run_plain (σ₁ := [.val (.int (0 : Nat)), .val (.int w), .val (L w x)]) rfl (by decide) rfl ?_
  show exs (Phi tab k) _ ir_law_limbs.body [.val (.int (x : Nat)), .val (.int w), .unset] = _
  unfold ir_law_limbs
  simp only
  have hloop := limbs_loop (Phi tab k) hw hw' 4096 x [] (by (first | lia | omega)) (by simp; (first | lia | omega))
  rw [List.nil_append] at hloop
  rw [exs_step (ex_assign (ev_list evs_nil (by simp)) (t := .unset) rfl nl_unset)]
  show exs _ _ _ [.val (.int (x : Nat)), .val (.int w), .own (M [])] = _
  rw [exs_step (σ₁ := [.val (.int (0 : Nat)), .val (.int w), .own (M (N (2 ^ w) x))]) (by rw [ex]; exact hloop)]
  exact exs_ret (ex_ret (ev_own rfl))

/-- x in n parts -/
noncomputable abbrev Fr (w n x : Nat) : MV := Rt w false (x / Nat.gcd x n) (n / Nat.gcd x n)

theorem least_loop (P : Fns) {t b : Nat} : ∀ (fuel y x : Nat), y < fuel →
    whileL (ev P (lnOf tab) (.cmp .gt (.var 4) (.int 0))) (exs P (lnOf tab) [.assigns [3, 4] [(.var 4), (.bin .mod (.var 3) (.var 4))]]) fuel [.val (.int (t : Nat)), .val (.int (b : Nat)), .val (.int w), .val (.int (x : Nat)), .val (.int (y : Nat))] =
      some (.next, [.val (.int (t : Nat)), .val (.int (b : Nat)), .val (.int w), .val (.int (Nat.gcd x y : Nat)), .val (.int (0 : Nat))])
  | 0, y, x, h => by (first | lia | omega)
  | fuel + 1, y, x, h => by
    let σ : Store := [.val (.int (t : Nat)), .val (.int (b : Nat)), .val (.int w), .val (.int (x : Nat)), .val (.int (y : Nat))]
    have v4 : ev P (lnOf tab) (.var 4) σ = some (.val (.int (y : Nat)), σ) := ev_var rfl
    rcases Nat.eq_zero_or_pos y with h0 | h0
    · subst h0
      rw [while_false (ev_cmp v4 ev_int (mc_gt' _ _ rfl)), Nat.gcd_zero_right]
    · have m1 : ev P (lnOf tab) (.bin .mod (.var 3) (.var 4)) σ = some (.val (.int ((x % y : Nat))), σ) := ev_bin (ev_var (d := .int (x : Nat)) rfl) v4 (mb_int (ib_mod h0))
      have st := ex_assigns (xs := [3, 4]) (evr_two v4 m1) (puts_two (t := .val (.int (x : Nat))) (u := .val (.int (y : Nat))) (by decide) rfl rfl (nl_val _) (nl_val _))
      have hm := Nat.mod_lt x h0
      rw [while_true (ev_cmp v4 ev_int (mc_gt' _ _ (by rw [decide_eq_true_eq]; (first | lia | omega)))) (by rw [exs_step st, exs_nil])]
      rw [show Nat.gcd x y = Nat.gcd y (x % y) by rw [Nat.gcd_comm x y, Nat.gcd_rec y x, Nat.gcd_comm]]
      exact least_loop P fuel (x % y) y (by (first | lia | omega))

theorem least_spec (k : Nat) (hw : 3 ≤ w) (hw' : w < 9) {x n : Nat} (hx : x < 4000) (hn : n < 4000) (h0 : 0 < n) : Phi tab (k + 2) 29 [.int (x : Nat), .int (n : Nat), .int w] = some (Fr w n x, []) := by
  rw [phi_succ (k + 1) 29 _ (fd := ir_law_least) rfl]
  unfold Fr
  have hg0 : 0 < Nat.gcd x n := Nat.gcd_pos_of_pos_right _ h0
  have hg1 : Nat.gcd x n ≤ n := Nat.gcd_le_right _ h0
  have hl1 := limbs_spec k hw hw' (x := x / Nat.gcd x n) (Nat.lt_of_le_of_lt (Nat.div_le_self _ _) hx)
  have hl2 := limbs_spec k hw hw' (x := n / Nat.gcd x n) (Nat.lt_of_le_of_lt (Nat.div_le_self _ _) hn)
  have hloop := least_loop (w := w) (Phi tab (k + 1)) (t := x) (b := n) 4096 n x (by (first | lia | omega))
  generalize Nat.gcd x n = g at *
  let σ : Store := [.val (.int (x : Nat)), .val (.int (n : Nat)), .val (.int w), .unset, .unset]
  let σ1 : Store := [.val (.int (x : Nat)), .val (.int (n : Nat)), .val (.int w), .val (.int (x : Nat)), .val (.int (n : Nat))]
  let σ2 : Store := [.val (.int (x : Nat)), .val (.int (n : Nat)), .val (.int w), .val (.int (g : Nat)), .val (.int (0 : Nat))]
  refine run_plain (σ₁ := σ2) rfl (by decide) rfl ?_
  show exs (Phi tab (k + 1)) _ ir_law_least.body σ = _
  unfold ir_law_least
  simp only
  rw [exs_step (ex_assigns (evr_two (ev_var (i := 0) (d := .int (x : Nat)) rfl) (ev_var (i := 1) (d := .int (n : Nat)) rfl)) (puts_two (t := .unset) (u := .unset) (by decide) rfl rfl nl_unset nl_unset))]
  show exs _ _ _ σ1 = _
  rw [exs_step (σ₁ := σ2) (by rw [ex]; exact hloop)]
  have d1 : ev (Phi tab (k + 1)) (lnOf tab) (.bin .fdiv (.var 0) (.var 3)) σ2 = some (.val (.int ((x / g : Nat))), σ2) := ev_bin (ev_var (d := .int (x : Nat)) rfl) (ev_var (d := .int (g : Nat)) rfl) (mb_int (ib_fdiv hg0 (by (first | lia | omega))))
  have d2 : ev (Phi tab (k + 1)) (lnOf tab) (.bin .fdiv (.var 1) (.var 3)) σ2 = some (.val (.int ((n / g : Nat))), σ2) := ev_bin (ev_var (d := .int (n : Nat)) rfl) (ev_var (d := .int (g : Nat)) rfl) (mb_int (ib_fdiv hg0 (by (first | lia | omega))))
  have c1 : ev (Phi tab (k + 1)) (lnOf tab) (.call 28 [(.bin .fdiv (.var 0) (.var 3)), (.var 2)]) σ2 = some (.val (L w (x / g)), σ2) := ev_call (by decide) (evs2 d1 (ev_var rfl)) hl1
  have c2 : ev (Phi tab (k + 1)) (lnOf tab) (.call 28 [(.bin .fdiv (.var 1) (.var 3)), (.var 2)]) σ2 = some (.val (L w (n / g)), σ2) := ev_call (by decide) (evs2 d2 (ev_var rfl)) hl2
  exact exs_ret (ex_ret (ev_tup (evs2 (ev_tup (evs2 ev_bool c1) (by simp)) c2) (by simp)))
end
end Mine

end
-- PureP
section
set_option autoImplicit false
set_option maxRecDepth 100000
set_option linter.all false
set_option backward.match.sparseCases false
set_option bootstrap.genMatcherCode false
namespace Mine

noncomputable def eqP (a b : Nat × Nat) : Bool := Nat.beq a.1 b.1 && Nat.beq a.2 b.2
theorem eqP_eq {a b : Nat × Nat} (h : eqP a b = true) : a = b := by
  simp only [eqP, Bool.and_eq_true] at h
  exact Prod.ext (Nat.eq_of_beq_eq_true h.1) (Nat.eq_of_beq_eq_true h.2)
noncomputable def addOk (n x y : Nat) : Bool := Nat.blt (topN false (x / Nat.gcd x n) (n / Nat.gcd x n) (y / Nat.gcd y n) (n / Nat.gcd y n)) 64 &&
  eqP (raddN false (x / Nat.gcd x n) (n / Nat.gcd x n) (y / Nat.gcd y n) (n / Nat.gcd y n)) ((x + y) / Nat.gcd (x + y) n, n / Nat.gcd (x + y) n)
noncomputable def subOk (n x y : Nat) : Bool := Nat.blt (topN (Nat.blt 0 (y / Nat.gcd y n)) (x / Nat.gcd x n) (n / Nat.gcd x n) (y / Nat.gcd y n) (n / Nat.gcd y n)) 64 &&
  Nat.ble (y / Nat.gcd y n * (n / Nat.gcd x n / Nat.gcd (n / Nat.gcd x n) (n / Nat.gcd y n))) (x / Nat.gcd x n * (n / Nat.gcd y n / Nat.gcd (n / Nat.gcd x n) (n / Nat.gcd y n))) &&
  eqP (raddN (Nat.blt 0 (y / Nat.gcd y n)) (x / Nat.gcd x n) (n / Nat.gcd x n) (y / Nat.gcd y n) (n / Nat.gcd y n)) ((x - y) / Nat.gcd (x - y) n, n / Nat.gcd (x - y) n)

/-- all numbers below m -/
noncomputable def allN (m : Nat) (p : Nat → Bool) : Bool := Nat.rec true (fun i b => p i && b) m
theorem allN_iff {p : Nat → Bool} : ∀ {m : Nat}, allN m p = true → ∀ i, i < m → p i = true
  | 0, _, i, h => by (first | lia | omega)
  | m + 1, h, i, hi => by
    have h' : (p m && allN m p) = true := h
    rw [Bool.and_eq_true] at h'
    rcases Nat.lt_or_ge i m with q | q
    · exact allN_iff h'.2 i q
    · rw [show i = m by (first | lia | omega)]; exact h'.1

theorem add_all : (allN 25 fun n => Nat.blt n 5 || allN (n + 1) fun x => allN (n + 1) fun y => addOk n x y) = true := by decide +kernel
theorem sub_all : (allN 25 fun n => Nat.blt n 5 || ((allN (n + 1) fun x => allN (x + 1) fun y => subOk n x y) && allN (2 * n) fun x => Nat.blt x n || subOk n x n)) = true := by decide +kernel

theorem blt_lt {a b : Nat} (h : Nat.blt a b = true) : a < b := by simpa [Nat.blt_eq] using h
theorem not_blt {a b : Nat} (h : b ≤ a) : Nat.blt a b = false := by
  cases e : Nat.blt a b with
  | false => rfl
  | true => have := blt_lt e; (first | lia | omega)

section
variable {w n : Nat}

theorem fr_bounds (h5 : 5 ≤ n) (hn : n ≤ 24) {x : Nat} (hx : x < 2 * n + 1) : x / Nat.gcd x n < 64 ∧ n / Nat.gcd x n < 64 ∧ 0 < n / Nat.gcd x n := by
  have hg0 : 0 < Nat.gcd x n := Nat.gcd_pos_of_pos_right _ (by (first | lia | omega))
  have hg1 : Nat.gcd x n ≤ n := Nat.gcd_le_right _ (by (first | lia | omega))
  refine ⟨Nat.lt_of_le_of_lt (Nat.div_le_self _ _) (by (first | lia | omega)), Nat.lt_of_le_of_lt (Nat.div_le_self _ _) (by (first | lia | omega)), Nat.div_pos hg1 hg0⟩

theorem radd_Fr (k : Nat) (hw : 3 ≤ w) (hw' : w < 9) (h5 : 5 ≤ n) (hn : n ≤ 24) {x y : Nat} (hx : x ≤ n) (hy : y ≤ n) : Phi tab (k + 6) 17 [Fr w n x, Fr w n y, .int w, .fn 20, .fn 26] = some (Fr w n (x + y), []) := by
  obtain ⟨a1, a2, a3⟩ := fr_bounds h5 hn (show x < 2 * n + 1 by (first | lia | omega))
  obtain ⟨b1, b2, b3⟩ := fr_bounds h5 hn (show y < 2 * n + 1 by (first | lia | omega))
  have h := allN_iff add_all n (by (first | lia | omega))
  rw [not_blt h5, Bool.false_or] at h
  have h := allN_iff (allN_iff h x (by (first | lia | omega))) y (by (first | lia | omega))
  simp only [addOk, Bool.and_eq_true] at h
  have := radd_spec k hw hw' (b := false) a1 a2 a3 b1 b2 b3 (by simp) (blt_lt h.1)
  rw [eqP_eq h.2] at this
  exact this

theorem rsub_Fr (k : Nat) (hw : 3 ≤ w) (hw' : w < 9) (h5 : 5 ≤ n) (hn : n ≤ 24) {x y : Nat} (hyx : y ≤ x) (hx : x ≤ n ∨ (y = n ∧ x < 2 * n)) : Phi tab (k + 7) 18 [Fr w n x, Fr w n y, .int w, .fn 20, .fn 26] = some (Fr w n (x - y), []) := by
  obtain ⟨a1, a2, a3⟩ := fr_bounds h5 hn (show x < 2 * n + 1 by (first | lia | omega))
  obtain ⟨b1, b2, b3⟩ := fr_bounds h5 hn (show y < 2 * n + 1 by (first | lia | omega))
  have h := allN_iff sub_all n (by (first | lia | omega))
  rw [not_blt h5, Bool.false_or, Bool.and_eq_true] at h
  have h : subOk n x y = true := by
    rcases hx with hx | ⟨rfl, hx⟩
    · exact allN_iff (allN_iff h.1 x (by (first | lia | omega))) y (by (first | lia | omega))
    · have := allN_iff h.2 x hx
      rw [not_blt hyx, Bool.false_or] at this
      exact this
  simp only [subOk, Bool.and_eq_true] at h
  have e : Nat.blt 0 (y / Nat.gcd y n) = decide (0 < y / Nat.gcd y n) := by
    cases q : Nat.blt 0 (y / Nat.gcd y n) with
    | true => rw [decide_eq_true (blt_lt q)]
    | false =>
      rw [decide_eq_false]
      intro q'
      have : Nat.blt 0 (y / Nat.gcd y n) = true := by simpa [Nat.blt_eq] using q'
      rw [this] at q; cases q
  rw [e] at h
  have := rsub_spec k hw hw' a1 a2 a3 b1 b2 b3 (Nat.le_of_ble_eq_true h.1.2) (blt_lt h.1.1)
  rw [eqP_eq h.2] at this
  exact this

theorem cross {x y : Nat} (h5 : 0 < n) : (x / Nat.gcd x n * (n / Nat.gcd y n) < y / Nat.gcd y n * (n / Nat.gcd x n) ↔ x < y) ∧ (x / Nat.gcd x n * (n / Nat.gcd y n) = y / Nat.gcd y n * (n / Nat.gcd x n) ↔ x = y) := by
  have g1 : 0 < Nat.gcd x n := Nat.gcd_pos_of_pos_right _ h5
  have g2 : 0 < Nat.gcd y n := Nat.gcd_pos_of_pos_right _ h5
  have d1 := Nat.div_mul_cancel (Nat.gcd_dvd_left x n)
  have d2 := Nat.div_mul_cancel (Nat.gcd_dvd_right x n)
  have d3 := Nat.div_mul_cancel (Nat.gcd_dvd_left y n)
  have d4 := Nat.div_mul_cancel (Nat.gcd_dvd_right y n)
  generalize Nat.gcd x n = g at *
  generalize Nat.gcd y n = h at *
  have e1 : x / g * (n / h) * (g * h) = x * n := by rw [Nat.mul_mul_mul_comm, d1, d4]
  have e2 : y / h * (n / g) * (g * h) = y * n := by rw [Nat.mul_comm g h, Nat.mul_mul_mul_comm, d3, d2]
  have gh : 0 < g * h := Nat.mul_pos g1 g2
  constructor
  · rw [← Nat.mul_lt_mul_right gh, e1, e2, Nat.mul_lt_mul_right h5]
  · constructor
    · intro q
      have : x * n = y * n := by rw [← e1, ← e2, q]
      exact Nat.eq_of_mul_eq_mul_right h5 this
    · intro q
      have : x / g * (n / h) * (g * h) = y / h * (n / g) * (g * h) := by rw [e1, e2, q]
      exact Nat.eq_of_mul_eq_mul_right gh this

theorem rcmp_Fr (k : Nat) (hw : 3 ≤ w) (hw' : w < 9) (h5 : 5 ≤ n) (hn : n ≤ 24) {x y : Nat} (hx : x ≤ 2 * n) (hy : y ≤ 2 * n) : Phi tab (k + 4) 19 [Fr w n x, Fr w n y, .int w, .fn 20] = some (.int (cmpZ x y), []) := by
  obtain ⟨a1, a2, a3⟩ := fr_bounds h5 hn (show x < 2 * n + 1 by (first | lia | omega))
  obtain ⟨b1, b2, b3⟩ := fr_bounds h5 hn (show y < 2 * n + 1 by (first | lia | omega))
  have := rcmp_spec k hw hw' (p1 := x / Nat.gcd x n) (q1 := n / Nat.gcd x n) (p2 := y / Nat.gcd y n) (q2 := n / Nat.gcd y n) (by (first | lia | omega)) (by (first | lia | omega)) (by (first | lia | omega)) (by (first | lia | omega))
  obtain ⟨c1, c2⟩ := cross (n := n) (x := x) (y := y) (by (first | lia | omega))
  rw [this]
  unfold cmpZ
  simp only [c1, c2]

theorem M_inj {a b : List Nat} (h : M a = M b) : a = b := by
  induction a generalizing b with
  | nil => cases b with
    | nil => rfl
    | cons _ _ => simp at h
  | cons x a ih => cases b with
    | nil => simp at h
    | cons y b =>
      simp only [List.map_cons, List.cons.injEq, MV.int.injEq] at h
      rw [ih h.2, show x = y by (first | lia | omega)]
end
end Mine

end
-- PureQ
section
set_option autoImplicit false
set_option maxRecDepth 100000
set_option linter.all false
set_option backward.match.sparseCases false
set_option bootstrap.genMatcherCode false
namespace Mine

theorem eqvs_M : ∀ (a b : List Nat), MV.eqvs (M a) (M b) = decide (a = b)
  | [], [] => rfl
  | [], _ :: _ => rfl
  | _ :: _, [] => rfl
  | x :: a, y :: b => by
    simp only [List.map_cons, MV.eqvs, MV.eqv, eqvs_M a b, List.cons.injEq, Bool.decide_and]
    congr 1
    rw [Bool.eq_iff_iff, beq_iff_eq, decide_eq_true_eq]
    (first | lia | omega)
theorem plains_M (k : Nat) : ∀ (a : List Nat), MV.plains k (M a) = true
  | [] => by unfold MV.plains; rfl
  | x :: a => by
    have := plains_M k a
    cases k <;> simp [MV.plains, MV.plain, this]

section
variable {w n : Nat}
theorem eqv_Fr (hw : 1 ≤ w) (h0 : 0 < n) (x y : Nat) : MV.eqv (Fr w n x) (Fr w n y) = decide (x = y) := by
  have hB := two_le_pow hw
  simp only [MV.eqv, MV.eqvs, eqvs_M, Bool.and_true, beq_self_eq_true, Bool.true_and]
  rw [Bool.eq_iff_iff, Bool.and_eq_true, decide_eq_true_eq, decide_eq_true_eq, decide_eq_true_eq]
  constructor
  · rintro ⟨h1, h2⟩
    have e1 : x / Nat.gcd x n = y / Nat.gcd y n := by rw [← N_val hB (x / Nat.gcd x n), h1, N_val hB]
    have e2 : n / Nat.gcd x n = n / Nat.gcd y n := by rw [← N_val hB (n / Nat.gcd x n), h2, N_val hB]
    exact (cross h0).2.mp (by rw [e1, e2])
  · rintro rfl
    exact ⟨rfl, rfl⟩
theorem plain_Fr (k x : Nat) : MV.plain (k + 3) (Fr w n x) = true := by
  simp [MV.plain, MV.plains, plains_M]

noncomputable abbrev Fs (w n : Nat) (l : List Nat) : List MV := l.map (Fr w n)
theorem plains_Fs (k : Nat) : ∀ l : List Nat, MV.plains (k + 3) (Fs w n l) = true
  | [] => by unfold MV.plains; rfl
  | x :: l => by
    show MV.plains (k + 3) (Fr w n x :: Fs w n l) = true
    rw [MV.plains, plain_Fr, plains_Fs k l]; rfl
theorem eqvs_Fs (hw : 1 ≤ w) (h0 : 0 < n) : ∀ (a b : List Nat), MV.eqvs (Fs w n a) (Fs w n b) = decide (a = b)
  | [], [] => rfl
  | [], _ :: _ => rfl
  | _ :: _, [] => rfl
  | x :: a, y :: b => by
    show MV.eqvs (Fr w n x :: Fs w n a) (Fr w n y :: Fs w n b) = _
    rw [MV.eqvs, eqv_Fr hw h0, eqvs_Fs hw h0 a b]
    simp only [List.cons.injEq, Bool.decide_and]

theorem Fs_get {l : List Nat} {i : Nat} (h : i < l.length) : (Fs w n l)[i]? = some (Fr w n l[i]) := by
  simp [Fs, h]
theorem Fs_len (l : List Nat) : (Fs w n l).length = l.length := by simp

theorem Fs_append (a b : List Nat) : Fs w n (a ++ b) = Fs w n a ++ Fs w n b := List.map_append

-- gaps
noncomputable def gapsN (n : Nat) : List Nat → List Nat
  | [] => []
  | [p] => [n - p]
  | p :: q :: r => (q - p) :: gapsN n (q :: r)
noncomputable def sortedN (n : Nat) : List Nat → Bool
  | [] => true
  | [p] => Nat.ble p n
  | p :: q :: r => Nat.ble p q && sortedN n (q :: r)
theorem gapsN_len : ∀ l : List Nat, (gapsN n l).length = l.length
  | [] => rfl
  | [p] => rfl
  | p :: q :: r => by simp only [gapsN, List.length_cons, gapsN_len (q :: r)]
theorem sortedN_le : ∀ {l : List Nat}, sortedN n l = true → ∀ p ∈ l, p ≤ n
  | [], _, p, hp => by simp at hp
  | [q], h, p, hp => by
    simp at hp; subst hp
    exact Nat.le_of_ble_eq_true h
  | a :: q :: r, h, p, hp => by
    simp only [sortedN, Bool.and_eq_true] at h
    have := sortedN_le h.2
    rcases List.mem_cons.mp hp with rfl | hp
    · exact Nat.le_trans (Nat.le_of_ble_eq_true h.1) (this q (List.mem_cons_self ..))
    · exact this p hp
theorem gapsN_get : ∀ {l : List Nat} {i : Nat} (h : i < l.length), sortedN n l = true → (gapsN n l)[i]? = some ((l[i + 1]?).getD n - l[i]) ∧ l[i] ≤ (l[i + 1]?).getD n
  | [p], 0, _, h => ⟨rfl, Nat.le_of_ble_eq_true h⟩
  | [p], i + 1, h, _ => by simp at h
  | p :: q :: r, 0, _, h => by
    simp only [sortedN, Bool.and_eq_true] at h
    exact ⟨rfl, Nat.le_of_ble_eq_true h.1⟩
  | p :: q :: r, i + 1, hi, h => by
    simp only [sortedN, Bool.and_eq_true] at h
    have := gapsN_get (l := q :: r) (i := i) (by simpa using hi) h.2
    simpa [gapsN] using this

theorem Fr_one (hw : 3 ≤ w) (h0 : 0 < n) : Fr w n n = .tup [.tup [.bool false, .lst [.int 1]], .lst [.int 1]] := by
  unfold Fr
  have hone : M (N (2 ^ w) 1) = [.int 1] := by rw [N_one (two_le_pow (by (first | lia | omega))) (by (first | lia | omega)) (by have := two_le_pow (show 1 ≤ w by (first | lia | omega)); (first | lia | omega))]; rfl
  rw [Nat.gcd_self, Nat.div_self h0]
  simp only [Rt, Sg, L, hone]

theorem gaps_spec (k : Nat) (hw : 3 ≤ w) (hw' : w < 9) (h5 : 5 ≤ n) (hn : n ≤ 24) {ps : List Nat} (hl : ps.length < 4000) (hs : sortedN n ps = true) :
    Phi tab (k + 8) 30 [.lst (Fs w n ps), .int w] = some (.lst (Fs w n (gapsN n ps)), []) := by
  rw [phi_succ (k + 7) 30 _ (fd := ir_law_gaps) rfl]
  let P := Phi tab (k + 7)
  have hle := sortedN_le hs
  have hpl : (Fs w n ps).length < 4096 := by rw [Fs_len]; (first | lia | omega)
  let I : Nat → Store → Prop := fun i σ => ∃ (s3 s4 : Slot), NotLent s3 ∧ NotLent s4 ∧ σ = [.val (.lst (Fs w n ps)), .val (.int w), .own (Fs w n ((gapsN n ps).take i)), s3, s4]
  obtain ⟨σ', e1, ⟨s3, s4, n3, n4, rfl⟩⟩ := for_up (x := 3) (a := 0) (b := ps.length) (body := exs P (lnOf tab) [.assign 4 (.ite (.cmp .lt (.bin .add (.var 3) (.int 1)) (.lenv 0)) (.idxv 0 (.bin .add (.var 3) (.int 1))) (.tup [(.tup [(.bool false), (.list [(.int 1)])]), (.list [(.int 1)])])), .append 2 (.call 18 [(.var 4), (.idxv 0 (.var 3)), (.var 1), (.fn 20), (.fn 26)])]) I (by (first | lia | omega))
    (by
      rintro i σ _ hi ⟨s3, s4, n3, n4, rfl⟩
      obtain ⟨g1, g2⟩ := gapsN_get hi hs
      obtain ⟨nx, hnx⟩ : ∃ nx, nx = (ps[i + 1]?).getD n := ⟨_, rfl⟩
      rw [← hnx] at g1 g2
      have hnxn : nx ≤ n := by
        rw [hnx]
        cases e : ps[i + 1]? with
        | none => simp
        | some v => simpa using hle v (List.mem_of_getElem? e)
      let σ1 : Store := [.val (.lst (Fs w n ps)), .val (.int w), .own (Fs w n ((gapsN n ps).take i)), .val (.int (i : Nat)), s4]
      let σ2 : Store := [.val (.lst (Fs w n ps)), .val (.int w), .own (Fs w n ((gapsN n ps).take i)), .val (.int (i : Nat)), .val (Fr w n nx)]
      have a1 : ∀ s, ev P (lnOf tab) (.bin .add (.var 3) (.int 1)) [.val (.lst (Fs w n ps)), .val (.int w), .own (Fs w n ((gapsN n ps).take i)), .val (.int (i : Nat)), s] = some (.val (.int ((i + 1 : Nat))), [.val (.lst (Fs w n ps)), .val (.int w), .own (Fs w n ((gapsN n ps).take i)), .val (.int (i : Nat)), s]) := fun s =>
        ev_bin (ev_var rfl) ev_int (mb_int rfl)
      have l0 : ev P (lnOf tab) (.lenv 0) σ1 = some (.val (.int (ps.length : Nat)), σ1) := by
        have := ev_lenv (P := P) (ln := lnOf tab) (x := 0) (σ := σ1) (s := .val (.lst (Fs w n ps))) rfl rfl hpl
        rw [Fs_len] at this; exact this
      have x1 : ev P (lnOf tab) (.ite (.cmp .lt (.bin .add (.var 3) (.int 1)) (.lenv 0)) (.idxv 0 (.bin .add (.var 3) (.int 1))) (.tup [(.tup [(.bool false), (.list [(.int 1)])]), (.list [(.int 1)])])) σ1 = some (.val (Fr w n nx), σ1) := by
        by_cases h : i + 1 < ps.length
        · have : nx = ps[i + 1] := by rw [hnx, List.getElem?_eq_getElem h]; rfl
          rw [this]
          exact ev_ite_t (ev_cmp (a1 s4) l0 (mc_lt' _ _ (by rw [decide_eq_true_eq]; (first | lia | omega)))) (ev_idxv rfl (a1 s4) (s := .val (.lst (Fs w n ps))) rfl rfl hpl (Fs_get h))
        · have : nx = n := by rw [hnx, List.getElem?_eq_none (by (first | lia | omega))]; rfl
          rw [this, Fr_one hw (by (first | lia | omega))]
          have o1 : ev P (lnOf tab) (.list [(.int 1)]) σ1 = some (.new [.int 1], σ1) := ev_list (evs1 ev_int) (by simp)
          exact ev_ite_f (ev_cmp (a1 s4) l0 (mc_lt' _ _ (by rw [decide_eq_false_iff_not]; (first | lia | omega)))) (ev_tup (evs2 (ev_tup (evs2 ev_bool o1) (by simp)) o1) (by simp))
      have st1 := ex_assign x1 (x := 4) (t := s4) rfl n4
      have y1 : ev P (lnOf tab) (.idxv 0 (.var 3)) σ2 = some (.val (Fr w n ps[i]), σ2) := ev_idxv rfl (ev_var rfl) (s := .val (.lst (Fs w n ps))) rfl rfl hpl (Fs_get hi)
      have y2 : ev P (lnOf tab) (.call 18 [(.var 4), (.idxv 0 (.var 3)), (.var 1), (.fn 20), (.fn 26)]) σ2 = some (.val (Fr w n (nx - ps[i])), σ2) :=
        ev_call (by decide) (evs_cons (ev_var rfl) (evs_cons y1 (evs3 (ev_var rfl) ev_fn ev_fn))) (rsub_Fr k hw hw' h5 hn g2 (.inl hnxn))
      have st2 := ex_append (P := P) (ln := lnOf tab) (x := 2) (l := Fs w n ((gapsN n ps).take i)) (σ := σ2) rfl y2 rfl (by rw [Fs_len, List.length_take, gapsN_len]; (first | lia | omega))
      refine ⟨σ1, [.val (.lst (Fs w n ps)), .val (.int w), .own (Fs w n ((gapsN n ps).take (i + 1))), .val (.int (i : Nat)), .val (Fr w n nx)], put_at (t := s3) rfl n3, ?_, .val (.int (i : Nat)), .val (Fr w n nx), nl_val _, nl_val _, rfl⟩
      rw [exs_step st1]
      show exs _ _ _ σ2 = _
      rw [exs_step st2, exs_nil]
      have hgl : i < (gapsN n ps).length := by rw [gapsN_len]; exact hi
      have hgi : (gapsN n ps)[i] = nx - ps[i] := by
        rw [List.getElem?_eq_getElem hgl] at g1; exact Option.some.inj g1
      rw [List.take_succ_eq_append_getElem hgl, hgi]
      show some (Fl.next, [Slot.val (.lst (Fs w n ps)), .val (.int w), .own (Fs w n ((gapsN n ps).take i) ++ [Fr w n (nx - ps[i])]), .val (.int (i : Nat)), .val (Fr w n nx)]) = _
      rw [Fs_append]; rfl)
    (σ := [.val (.lst (Fs w n ps)), .val (.int w), .own [], .unset, .unset]) ⟨.unset, .unset, nl_unset, nl_unset, rfl⟩
  have htake : (gapsN n ps).take ps.length = gapsN n ps := take_len (by rw [gapsN_len]; (first | lia | omega))
  rw [htake] at e1
  refine run_plain (σ₁ := [.val (.lst (Fs w n ps)), .val (.int w), .val (.lst (Fs w n (gapsN n ps))), s3, s4]) rfl (by decide) rfl ?_
  show exs P _ ir_law_gaps.body [.val (.lst (Fs w n ps)), .val (.int w), .unset, .unset, .unset] = _
  unfold ir_law_gaps
  simp only
  rw [exs_step (ex_assign (ev_list evs_nil (by simp)) (t := .unset) rfl nl_unset)]
  show exs P _ _ [.val (.lst (Fs w n ps)), .val (.int w), .own [], .unset, .unset] = _
  have l0 : ev P (lnOf tab) (.lenv 0) [.val (.lst (Fs w n ps)), .val (.int w), .own [], .unset, .unset] = some (.val (.int (ps.length : Nat)), [.val (.lst (Fs w n ps)), .val (.int w), .own [], .unset, .unset]) := by
    have := ev_lenv (P := P) (ln := lnOf tab) (x := 0) (σ := [.val (.lst (Fs w n ps)), .val (.int w), .own [], .unset, .unset]) (s := .val (.lst (Fs w n ps))) rfl rfl hpl
    rw [Fs_len] at this; exact this
  have r0 : evt P (lnOf tab) (.range1 (.lenv 0)) [.val (.lst (Fs w n ps)), .val (.int w), .own [], .unset, .unset] = some (rangeUp 0 (ps.length : Nat), [.val (.lst (Fs w n ps)), .val (.int w), .own [], .unset, .unset]) := by
    rw [evt, l0]
    simp only [decide_eq_true (show (-4096 : Int) < (ps.length : Nat) by (first | lia | omega)), decide_eq_true (show ((ps.length : Nat) : Int) < 4096 by (first | lia | omega)), Bool.and_self, if_true]
  rw [exs_step (ex_for1 r0 (by rw [rangeUp, List.length_map, List.length_range]; (first | lia | omega)) e1)]
  exact exs_ret (ex_ret (ev_own rfl))
end
end Mine

end
-- PureR
section
set_option autoImplicit false
set_option maxRecDepth 100000
set_option linter.all false
set_option backward.match.sparseCases false
set_option bootstrap.genMatcherCode false
namespace Mine

section
variable {w n : Nat}

/-- the wheel: how often it was turned, and the script's first numbers -/
noncomputable abbrev Wh (c : Nat) (sp : List Nat) : List MV := [.int (c : Nat), .lst (M sp)]

theorem rolled_spec (k : Nat) {c many : Nat} {sp : List Nat} (hs : sp.length < 4096) (hc : c < 1000) (hm : 0 < many) (hm' : many < 65536) : ∃ r, r < many ∧ Phi tab (k + 1) 27 [.lst (Wh c sp), .int (many : Nat)] = some (.int (r : Nat), Wh (c + 1) sp) := by
  rw [phi_succ k 27 _ (fd := ir_law_rolled) rfl]
  let P := Phi tab k
  let σ0 : Store := [.lent (Wh c sp), .val (.int (many : Nat))]
  let σ1 : Store := [.lent (Wh (c + 1) sp), .val (.int (many : Nat))]
  have w2 : ∀ c, (Wh c sp).length < 4096 := fun c => by simp
  have i0 : ev P (lnOf tab) (.idxv 0 (.int 0)) σ0 = some (.val (.int (c : Nat)), σ0) := ev_idxv rfl ev_int0 (s := .lent (Wh c sp)) rfl rfl (w2 c) rfl
  have a0 : ev P (lnOf tab) (.bin .add (.idxv 0 (.int 0)) (.int 1)) σ0 = some (.val (.int ((c + 1 : Nat))), σ0) := ev_bin i0 ev_int (mb_int rfl)
  have st1 := ex_setItem (P := P) (ln := lnOf tab) (x := 0) (l := Wh c sp) (k := 0) (i := .int 0) (σ := σ0) a0 rfl ev_int0 rfl (by simp) (w2 c)
  have j0 : ev P (lnOf tab) (.idxv 0 (.int 0)) σ1 = some (.val (.int ((c + 1 : Nat))), σ1) := ev_idxv rfl ev_int0 (s := .lent (Wh (c + 1) sp)) rfl rfl (w2 _) rfl
  have j1 : ev P (lnOf tab) (.idxv 0 (.int 1)) σ1 = some (.val (.lst (M sp)), σ1) := ev_idxv rfl ev_int1 (s := .lent (Wh (c + 1) sp)) rfl rfl (w2 _) rfl
  have jl : ev P (lnOf tab) (.len (.idxv 0 (.int 1))) σ1 = some (.val (.int ((M sp).length : Nat)), σ1) := ev_len j1 rfl (by rw [M_length]; exact hs)
  rw [M_length] at jl
  have mle : ∀ (x y : Int) {b : Bool}, decide (x ≤ y) = b → mcmp .le (MR.val (.int x)).mv (MR.val (.int y)).mv = some b := fun x y b h => by subst h; rfl
  by_cases h : c < sp.length
  · have x1 : ev P (lnOf tab) (.idx (.idxv 0 (.int 1)) (.bin .sub (.idxv 0 (.int 0)) (.int 1))) σ1 = some (.val (.int (sp[c] : Nat)), σ1) :=
      ev_idx j1 (ev_bin j0 ev_int (mb_int (c := ((c : Nat) : Int)) (by rw [ib_sub]; exact congrArg some (by (first | lia | omega))))) rfl (by rw [M_length]; exact hs) (M_at h)
    refine ⟨sp[c] % many, Nat.mod_lt _ hm, run_lend (σ₁ := σ1) rfl (by decide) rfl ?_ rfl⟩
    show exs P _ ir_law_rolled.body σ0 = _
    unfold ir_law_rolled
    simp only
    rw [exs_step st1]
    show exs P _ _ σ1 = _
    exact exs_ret (ex_if_t (ev_cmp j0 jl (mle _ _ (by rw [decide_eq_true_eq]; (first | lia | omega)))) (exs_ret (ex_ret (ev_bin x1 (ev_var rfl) (mb_int (ib_mod hm))))))
  · have s1 : small (12 : Int) = true := by decide
    have m1 : ev P (lnOf tab) (.bin .mul (.int 12) (.idxv 0 (.int 0))) σ1 = some (.val (.int ((12 * (c + 1) : Nat))), σ1) := ev_bin ev_int j0 (mb_int (by rw [ib_mul s1 (small_nat (by (first | lia | omega)))]; exact congrArg some (by (first | lia | omega))))
    have m2 : ev P (lnOf tab) (.bin .fdiv (.idxv 0 (.int 0)) (.int 2)) σ1 = some (.val (.int (((c + 1) / 2 : Nat))), σ1) := ev_bin j0 ev_int (mb_int (ib_fdiv (x := c + 1) (c := 2) (by (first | lia | omega)) (by (first | lia | omega))))
    have m3 : ev P (lnOf tab) (.bin .add (.bin .add (.bin .mul (.int 12) (.idxv 0 (.int 0))) (.bin .fdiv (.idxv 0 (.int 0)) (.int 2))) (.int 3)) σ1 = some (.val (.int ((12 * (c + 1) + (c + 1) / 2 + 3 : Nat))), σ1) :=
      ev_bin (ev_bin m1 m2 (mb_int (by rw [ib_add, cast_add]))) ev_int (mb_int (by rw [ib_add]; rfl))
    refine ⟨(12 * (c + 1) + (c + 1) / 2 + 3) % many, Nat.mod_lt _ hm, run_lend (σ₁ := σ1) rfl (by decide) rfl ?_ rfl⟩
    show exs P _ ir_law_rolled.body σ0 = _
    unfold ir_law_rolled
    simp only
    rw [exs_step st1]
    show exs P _ _ σ1 = _
    rw [exs_step (ex_if_f (ev_cmp j0 jl (mle _ _ (by rw [decide_eq_false_iff_not]; (first | lia | omega)))) exs_nil)]
    exact exs_ret (ex_ret (ev_bin m3 (ev_var rfl) (mb_int (ib_mod hm))))

-- what is due
noncomputable def insN (x : Nat) : List Nat → List Nat
  | [] => [x]
  | y :: r => if Nat.ble x y then x :: y :: r else y :: insN x r
noncomputable def sortN : List Nat → List Nat
  | [] => []
  | x :: r => insN x (sortN r)
noncomputable def diffs : List Nat → List Nat
  | [] => []
  | [_] => []
  | p :: q :: r => (q - p) :: diffs (q :: r)
noncomputable def upN : List Nat → Bool
  | [] => true
  | [_] => true
  | p :: q :: r => Nat.ble p q && upN (q :: r)
noncomputable def dueN (n : Nat) (rs : List Nat) : List Nat := diffs (sortN rs ++ [n])

theorem ints_M : ∀ l : List Nat, allInts (M l) = some (l.map fun (x : Nat) => (x : Int))
  | [] => rfl
  | x :: r => by simp only [List.map_cons, allInts, ints_M r, Option.map_some]
theorem ins_cast (x : Nat) : ∀ l : List Nat, insSorted (x : Int) (l.map fun (x : Nat) => (x : Int)) = (insN x l).map fun (x : Nat) => (x : Int)
  | [] => rfl
  | y :: r => by
    have hb : Nat.ble x y = decide ((x : Int) ≤ (y : Int)) := by
      rw [Bool.eq_iff_iff, Nat.ble_eq, decide_eq_true_eq]; (first | lia | omega)
    simp only [List.map_cons, insSorted, insN, hb, decide_eq_true_eq]
    split
    · rfl
    · simp only [List.map_cons, ins_cast x r]
theorem sort_cast : ∀ l : List Nat, sortInts (l.map fun (x : Nat) => (x : Int)) = (sortN l).map fun (x : Nat) => (x : Int)
  | [] => rfl
  | x :: r => by simp only [List.map_cons, sortInts, sortN, sort_cast r, ins_cast]
theorem insN_len (x : Nat) : ∀ l : List Nat, (insN x l).length = l.length + 1
  | [] => rfl
  | y :: r => by
    unfold insN
    split
    · rfl
    · rw [List.length_cons, insN_len x r]; rfl
theorem sortN_len : ∀ l : List Nat, (sortN l).length = l.length
  | [] => rfl
  | x :: r => by rw [sortN, insN_len, sortN_len r]; rfl
theorem sort_M (l : List Nat) : (sortInts (l.map fun (x : Nat) => (x : Int))).map MV.int = M (sortN l) := by
  rw [sort_cast, List.map_map]; rfl

theorem diffs_get : ∀ {l : List Nat} {i : Nat} (h : i + 1 < l.length), upN l = true → (diffs l)[i]? = some (l[i + 1] - l[i]'(by (first | lia | omega))) ∧ l[i]'(by (first | lia | omega)) ≤ l[i + 1]
  | [p], i, h, _ => by simp at h
  | p :: q :: r, 0, _, h => by
    simp only [upN, Bool.and_eq_true] at h
    exact ⟨rfl, Nat.le_of_ble_eq_true h.1⟩
  | p :: q :: r, i + 1, hi, h => by
    simp only [upN, Bool.and_eq_true] at h
    have := diffs_get (l := q :: r) (i := i) (by simpa using hi) h.2
    simpa [diffs] using this
theorem diffs_len : ∀ l : List Nat, (diffs l).length = l.length - 1
  | [] => rfl
  | [_] => rfl
  | p :: q :: r => by simp only [diffs, List.length_cons, diffs_len (q :: r)]; simp

theorem compL_map {f : MV → Option (Option MV)} {α : Type} (g : α → MV) : ∀ (vs : List MV) (l : List α), vs.length = l.length → (∀ (i : Nat) (v : MV) (x : α), vs[i]? = some v → l[i]? = some x → f v = some (some (g x))) → compL f vs = some (l.map g)
  | [], [], _, _ => rfl
  | [], _ :: _, h, _ => by simp at h
  | _ :: _, [], h, _ => by simp at h
  | v :: vs, x :: l, h, hf => by
    have h0 := hf 0 v x rfl rfl
    have h1 := compL_map g vs l (by simpa using h) fun i v x a b => hf (i + 1) v x a b
    simp only [compL, h0, h1, List.map_cons]

theorem ev_comp {P : Fns} {ln : Nat → Bool} {elt : IE} {it : IT} {σ σ₁ : Store} {vs ds : List MV} (h1 : evt P ln it σ = some (vs, σ₁)) (hs : short vs = true)
    (h2 : compL (fun v => match ev P ln elt ((σ₁.map calm).map hide ++ [.val v]) with
          | some (x, _) => some (some x.mv)
          | none => none) vs = some ds) : ev P ln (.comp elt it) σ = some (.new ds, σ₁.map calm) := by
  rw [ev, h1]
  simp only [hs, if_true]
  generalize hq : compL _ vs = o
  have : o = some ds := by rw [← hq]; exact h2
  rw [this]
theorem ev_compIf {P : Fns} {ln : Nat → Bool} {elt cond : IE} {it : IT} {σ σ₁ : Store} {vs ds : List MV} (h1 : evt P ln it σ = some (vs, σ₁)) (hs : short vs = true)
    (h2 : compL (fun v => match ev P ln cond ((σ₁.map calm).map hide ++ [.val v]) with
          | some (.val (.bool true), _) => match ev P ln elt ((σ₁.map calm).map hide ++ [.val v]) with
            | some (x, _) => some (some x.mv)
            | none => none
          | some (.val (.bool false), _) => some none
          | _ => none) vs = some ds) : ev P ln (.compIf elt cond it) σ = some (.new ds, σ₁.map calm) := by
  rw [ev, h1]
  simp only [hs, if_true]
  generalize hq : compL _ vs = o
  have : o = some ds := by rw [← hq]; exact h2
  rw [this]

theorem ev_sorted {P : Fns} {ln : Nat → Bool} {a : IE} {σ σ₁ : Store} {x : MR} {l : List Nat} (h : ev P ln a σ = some (x, σ₁)) (hx : x.mv = .lst (M l)) (hl : l.length < 64) : ev P ln (.sorted a) σ = some (.new (M (sortN l)), σ₁) := by
  rw [ev, h]
  simp only [hx, ints_M, List.length_map, decide_eq_true hl, if_true, sort_M]

theorem due_spec (k : Nat) (hw : 3 ≤ w) (hw' : w < 9) (hn : n < 1000) (hn0 : 0 < n) {rs : List Nat} (hl : rs.length < 60) (hup : upN (sortN rs ++ [n]) = true) (hb : ∀ x ∈ sortN rs ++ [n], x < 1000) :
    Phi tab (k + 3) 31 [.lst (M rs), .int (n : Nat), .int w] = some (.lst (Fs w n (dueN n rs)), []) := by
  rw [phi_succ (k + 2) 31 _ (fd := ir_law_due) rfl]
  let P := Phi tab (k + 2)
  let σ : Store := [.val (.lst (M rs)), .val (.int (n : Nat)), .val (.int w)]
  obtain ⟨ds, hds⟩ : ∃ ds, ds = sortN rs ++ [n] := ⟨_, rfl⟩
  rw [← hds] at hup hb
  unfold dueN
  rw [← hds]
  have hdl : ds.length = rs.length + 1 := by rw [hds, List.length_append, sortN_len]; rfl
  let σ1 : Store := [.own (M ds), .val (.int (n : Nat)), .val (.int w)]
  let σ2 : Store := [.val (.lst (M ds)), .val (.int (n : Nat)), .val (.int w)]
  have hm : (M ds).length < 4096 := by rw [M_length]; (first | lia | omega)
  have a1 : ev P (lnOf tab) (.sorted (.var 0)) σ = some (.new (M (sortN rs)), σ) := ev_sorted (ev_var rfl) rfl (by (first | lia | omega))
  have a2 : ev P (lnOf tab) (.list [(.var 1)]) σ = some (.new [.int (n : Nat)], σ) := ev_list (evs1 (ev_var rfl)) (by simp)
  have a3 : ev P (lnOf tab) (.bin .add (.sorted (.var 0)) (.list [(.var 1)])) σ = some (.new (M ds), σ) := by
    refine ev_bin a1 a2 ?_
    have s1 : short (M (sortN rs)) = true := by rw [short_len, M_length, sortN_len]; (first | lia | omega)
    have s2 : short [MV.int (n : Nat)] = true := rfl
    rw [hds, M_append]
    simp only [MR.mv, mbin, s1, s2, Bool.and_self, if_true]
    rfl
  have l0 : ev P (lnOf tab) (.lenv 0) σ1 = some (.val (.int (ds.length : Nat)), σ1) := by
    have := ev_lenv (P := P) (ln := lnOf tab) (x := 0) (σ := σ1) (s := .own (M ds)) rfl rfl hm
    rw [M_length] at this; exact this
  have l1 : ev P (lnOf tab) (.bin .sub (.lenv 0) (.int 1)) σ1 = some (.val (.int (rs.length : Nat)), σ1) := ev_bin l0 ev_int (mb_int (by rw [ib_sub]; exact congrArg some (by (first | lia | omega))))
  have r0 : evt P (lnOf tab) (.range1 (.bin .sub (.lenv 0) (.int 1))) σ1 = some (rangeUp 0 (rs.length : Nat), σ1) := by
    rw [evt, l1]
    simp only [decide_eq_true (show (-4096 : Int) < (rs.length : Nat) by (first | lia | omega)), decide_eq_true (show ((rs.length : Nat) : Int) < 4096 by (first | lia | omega)), Bool.and_self, if_true]
  have hup0 : rangeUp 0 (rs.length : Nat) = (List.range rs.length).map fun i => MV.int ((i : Nat)) := by
    have := rangeUp_nat 0 rs.length
    simpa using this
  have hsh : short (rangeUp 0 (rs.length : Nat)) = true := by rw [short_len, hup0, List.length_map, List.length_range]; (first | lia | omega)
  have key : compL (fun v => match ev P (lnOf tab) (.call 29 [(.bin .sub (.idxv 0 (.bin .add (.var 3) (.int 1))) (.idxv 0 (.var 3))), (.var 1), (.var 2)]) ((σ1.map calm).map hide ++ [.val v]) with
          | some (x, _) => some (some x.mv)
          | none => none) (rangeUp 0 (rs.length : Nat)) = some (Fs w n (diffs ds)) := by
    refine compL_map (Fr w n) _ _ (by rw [hup0, diffs_len]; simp; (first | lia | omega)) ?_
    intro i v x hv hx
    have hi : i < rs.length := by
      have := (List.getElem?_eq_some_iff.mp hx).1
      rw [diffs_len] at this; (first | lia | omega)
    have hv' : v = .int (i : Nat) := by
      rw [hup0, List.getElem?_map, List.getElem?_range hi] at hv
      simpa using hv.symm
    subst hv'
    obtain ⟨d1, d2⟩ := diffs_get (l := ds) (i := i) (by (first | lia | omega)) hup
    rw [d1] at hx
    cases hx
    let τ : Store := [.val (.lst (M ds)), .val (.int (n : Nat)), .val (.int w), .val (.int (i : Nat))]
    have y0 : ev P (lnOf tab) (.var 3) τ = some (.val (.int (i : Nat)), τ) := ev_var rfl
    have y1 : ev P (lnOf tab) (.bin .add (.var 3) (.int 1)) τ = some (.val (.int ((i + 1 : Nat))), τ) := ev_bin y0 ev_int (mb_int rfl)
    have y2 : ev P (lnOf tab) (.idxv 0 (.bin .add (.var 3) (.int 1))) τ = some (.val (.int (ds[i + 1] : Nat)), τ) := ev_idxv rfl y1 (s := .val (.lst (M ds))) rfl rfl hm (M_at (by (first | lia | omega)))
    have y3 : ev P (lnOf tab) (.idxv 0 (.var 3)) τ = some (.val (.int (ds[i] : Nat)), τ) := ev_idxv rfl y0 (s := .val (.lst (M ds))) rfl rfl hm (M_at (by (first | lia | omega)))
    have y4 : ev P (lnOf tab) (.bin .sub (.idxv 0 (.bin .add (.var 3) (.int 1))) (.idxv 0 (.var 3))) τ = some (.val (.int ((ds[i + 1] - ds[i] : Nat))), τ) := ev_bin y2 y3 (mb_int (by rw [ib_sub]; exact congrArg some (by (first | lia | omega))))
    have hbd := hb ds[i + 1] (List.getElem_mem _)
    have y5 : ev P (lnOf tab) (.call 29 [(.bin .sub (.idxv 0 (.bin .add (.var 3) (.int 1))) (.idxv 0 (.var 3))), (.var 1), (.var 2)]) τ = some (.val (Fr w n (ds[i + 1] - ds[i])), τ) :=
      ev_call (by decide) (evs3 y4 (ev_var rfl) (ev_var rfl)) (least_spec k hw hw' (by (first | lia | omega)) (by (first | lia | omega)) hn0)
    show (match ev P (lnOf tab) _ τ with | some (x, _) => some (some x.mv) | none => none) = _
    rw [y5]
    rfl
  refine run_plain (σ₁ := σ2) rfl (by decide) rfl ?_
  show exs P _ ir_law_due.body σ = _
  unfold ir_law_due
  simp only
  rw [exs_step (ex_assign a3 (t := .val (.lst (M rs))) rfl (nl_val _))]
  show exs P _ _ σ1 = _
  have c1 : ev P (lnOf tab) (.comp (.call 29 [(.bin .sub (.idxv 0 (.bin .add (.var 3) (.int 1))) (.idxv 0 (.var 3))), (.var 1), (.var 2)]) (.range1 (.bin .sub (.lenv 0) (.int 1)))) σ1 = some (.new (Fs w n (diffs ds)), σ1.map calm) := by
    exact ev_comp r0 hsh key
  exact exs_ret (ex_ret c1)
end
end Mine

end
-- PureS
section
set_option autoImplicit false
set_option maxRecDepth 100000
set_option linter.all false
set_option backward.match.sparseCases false
set_option bootstrap.genMatcherCode false
namespace Mine

theorem compL_filter {f : MV → Option (Option MV)} (g : Nat → MV) (p : Nat → Bool) : ∀ (l : List Nat), (∀ x ∈ l, f (g x) = some (if p x then some (g x) else none)) → compL f (l.map g) = some ((l.filter p).map g)
  | [], _ => rfl
  | x :: l, h => by
    have h0 := h x (List.mem_cons_self ..)
    have h1 := compL_filter g p l fun y hy => h y (List.mem_cons_of_mem _ hy)
    simp only [List.map_cons, compL, h0]
    cases hp : p x
    · simp only [Bool.false_eq_true, if_false, h1, List.filter_cons, hp]
    · simp only [if_true, h1, List.filter_cons, hp, List.map_cons]

noncomputable def lessN (u : List Nat) (g : Nat) : Nat := (u.filter fun x => Nat.blt x g).length
noncomputable def unlN (u : List Nat) (g : Nat) : List Nat := if u.any (fun y => Nat.beq y g) then u else u.take (lessN u g) ++ [g] ++ u.drop (lessN u g)
noncomputable def threeN (gs : List Nat) : Bool := match gs.foldl unlN [] with
  | [a, b, c] => Nat.beq (a + b) c
  | _ :: _ :: _ :: _ => false
  | _ => true

section
variable {w n : Nat}

theorem any_Fs (hw : 1 ≤ w) (h0 : 0 < n) (g : Nat) : ∀ u : List Nat, (Fs w n u).any (fun y => MV.eqv y (Fr w n g)) = u.any (fun y => Nat.beq y g)
  | [] => rfl
  | x :: u => by
    have hb : decide (x = g) = Nat.beq x g := by
      rw [Bool.eq_iff_iff, decide_eq_true_eq, Nat.beq_eq]
    show (MV.eqv (Fr w n x) (Fr w n g) || (Fs w n u).any (fun y => MV.eqv y (Fr w n g))) = _
    rw [eqv_Fr hw h0, any_Fs hw h0 g u, hb]; rfl

theorem Fs_take (u : List Nat) (m : Nat) : Fs w n (u.take m) = (Fs w n u).take m := List.map_take ..
theorem Fs_drop (u : List Nat) (m : Nat) : Fs w n (u.drop m) = (Fs w n u).drop m := List.map_drop ..

/-- a slot that bears the list u -/
noncomputable def Bears (w n : Nat) (s : Slot) (u : List Nat) : Prop := s = .own (Fs w n u) ∨ s = .val (.lst (Fs w n u))
theorem Bears.nl {s : Slot} {u : List Nat} (h : Bears w n s u) : NotLent s := by
  rcases h with rfl | rfl
  · exact nl_own _
  · exact nl_val _
theorem Bears.items {s : Slot} {u : List Nat} (h : Bears w n s u) : s.items? = some (Fs w n u) := by
  rcases h with rfl | rfl <;> rfl
theorem Bears.list {s : Slot} {u : List Nat} (h : Bears w n s u) : s.list? = some (Fs w n u) := by
  rcases h with rfl | rfl <;> rfl
theorem ev_bears {P : Fns} {ln : Nat → Bool} {i : Nat} {σ : Store} {s : Slot} {u : List Nat} (hs : σ[i]? = some s) (h : Bears w n s u) : ev P ln (.var i) σ = some (.val (.lst (Fs w n u)), σ.set i (.val (.lst (Fs w n u)))) := by
  rcases h with rfl | rfl
  · exact ev_own hs
  · rw [ev_var hs]
    have : σ.set i (.val (.lst (Fs w n u))) = σ := by
      obtain ⟨hi, e⟩ := List.getElem?_eq_some_iff.mp hs
      rw [← e]; exact List.set_getElem_self hi
    rw [this]
theorem evt_seq {P : Fns} {ln : Nat → Bool} {e : IE} {σ σ₁ : Store} {x : MR} {l : List MV} (h : ev P ln e σ = some (x, σ₁)) (hx : x.mv = .lst l) (hs : l.length < 4096) : evt P ln (.seq e) σ = some (l, σ₁) := by
  rw [evt, h]
  simp only [hx, short, decide_eq_true hs, if_true]
theorem ev_slice_to {P : Fns} {ln : Nat → Bool} {j : Nat} {e : IE} {σ : Store} {s : Slot} {l : List MV} {y : Nat} (hlv : live σ j = true) (h : ev P ln e σ = some (.val (.int (y : Nat)), σ)) (hs : σ[j]? = some s) (hl : s.list? = some l) (hsh : l.length < 4096) : ev P ln (.slicev j .none e) σ = some (.new (l.take y), σ) := by
  rw [ev, if_pos hlv]
  have h0 : (0 : Int) ≤ (y : Nat) := by (first | lia | omega)
  simp only [ev, h, hs, hl, short, decide_eq_true hsh, if_true, if_pos h0, Int.toNat_natCast]
theorem ev_slice_from {P : Fns} {ln : Nat → Bool} {j : Nat} {e : IE} {σ : Store} {s : Slot} {l : List MV} {x : Nat} (hlv : live σ j = true) (h : ev P ln e σ = some (.val (.int (x : Nat)), σ)) (hs : σ[j]? = some s) (hl : s.list? = some l) (hsh : l.length < 4096) : ev P ln (.slicev j e .none) σ = some (.new (l.drop x), σ) := by
  rw [ev, if_pos hlv]
  have h0 : (0 : Int) ≤ (x : Nat) := by (first | lia | omega)
  simp only [ev, h, hs, hl, short, decide_eq_true hsh, if_true, if_pos h0, Int.toNat_natCast]
theorem mb_cat {x y : MR} {a b : List MV} (hx : x.mv = .lst a) (hy : y.mv = .lst b) (ha : a.length < 4096) (hb : b.length < 4096) : mbin .add x.mv y.mv = some (.new (a ++ b)) := by
  rw [hx, hy]
  simp only [mbin, short, decide_eq_true ha, decide_eq_true hb, Bool.and_self, if_true]
theorem live_of {σ : Store} {i : Nat} {s : Slot} {u : List Nat} (hs : σ[i]? = some s) (h : Bears w n s u) : live σ i = true := by
  unfold live; rw [hs]; rcases h with rfl | rfl <;> rfl

theorem blt_dec (x y : Nat) : Nat.blt x y = decide (x < y) := by
  rw [Bool.eq_iff_iff, decide_eq_true_eq, Nat.blt_eq]

theorem three_spec (k : Nat) (hw : 3 ≤ w) (hw' : w < 9) (h5 : 5 ≤ n) (hn : n ≤ 24) {gs : List Nat} (hl : gs.length < 100) (hb : ∀ x ∈ gs, x ≤ n) (h3 : threeN gs = true) :
    Phi tab (k + 7) 32 [.lst (Fs w n gs), .int w] = some (.bool true, []) := by
  rw [phi_succ (k + 6) 32 _ (fd := ir_law_three_right) rfl]
  let P := Phi tab (k + 6)
  have hgl : (Fs w n gs).length < 4096 := by rw [Fs_len]; (first | lia | omega)
  let I : Nat → Store → Prop := fun i σ => ∃ (s2 s3 s4 : Slot), Bears w n s2 ((gs.take i).foldl unlN []) ∧ NotLent s3 ∧ NotLent s4 ∧ σ = [.val (.lst (Fs w n gs)), .val (.int w), s2, s3, s4] ∧ ((gs.take i).foldl unlN []).length ≤ i ∧ ∀ x ∈ (gs.take i).foldl unlN [], x ≤ n
  obtain ⟨σ', e1, ⟨s2, s3, s4, b2, n3, n4, rfl, q1, q2⟩⟩ := for_list (x := 3) (body := exs P (lnOf tab) [.ite (.cmp .notIn (.var 3) (.var 2)) [.assign 4 (.len (.compIf (.var 5) (.cmp .lt (.call 19 [(.var 5), (.var 3), (.var 1), (.fn 20)]) (.int 0)) (.seq (.var 2)))), .assign 2 (.bin .add (.bin .add (.slicev 2 .none (.var 4)) (.list [(.var 3)])) (.slicev 2 (.var 4) .none))] []]) I (Fs w n gs)
    (by
      rintro i v σ hv ⟨s2, s3, s4, b2, n3, n4, rfl, hul, hub⟩
      obtain ⟨hi', hvv⟩ := List.getElem?_eq_some_iff.mp hv
      have hi : i < gs.length := by rw [Fs_len] at hi'; exact hi'
      rw [Fs_get hi] at hv
      cases hv
      have hg := hb gs[i] (List.getElem_mem _)
      have hstep : (gs.take (i + 1)).foldl unlN [] = unlN ((gs.take i).foldl unlN []) gs[i] := by rw [List.take_succ_eq_append_getElem hi, List.foldl_append]; rfl
      generalize (gs.take i).foldl unlN [] = u at *
      have hus : (Fs w n u).length < 4096 := by rw [Fs_len]; (first | lia | omega)
      let σ1 : Store := [.val (.lst (Fs w n gs)), .val (.int w), s2, .val (Fr w n gs[i]), s4]
      let σ2 : Store := [.val (.lst (Fs w n gs)), .val (.int w), .val (.lst (Fs w n u)), .val (Fr w n gs[i]), s4]
      have t1 : ev P (lnOf tab) (.cmp .notIn (.var 3) (.var 2)) σ1 = some (.val (.bool (!u.any (fun y => Nat.beq y gs[i]))), σ2) := by
        refine ev_cmp (ev_var rfl) (ev_bears (σ := σ1) rfl b2) ?_
        have p1 : MV.plain 8 (Fr w n gs[i]) = true := plain_Fr 5 _
        have p2 : MV.plain 8 (.lst (Fs w n u)) = true := by rw [MV.plain]; exact plains_Fs 4 u
        show (if MV.plain 8 (Fr w n gs[i]) && MV.plain 8 (.lst (Fs w n u)) then some (!(Fs w n u).any fun y => MV.eqv y (Fr w n gs[i])) else none) = _
        rw [p1, p2, any_Fs (by (first | lia | omega)) (by (first | lia | omega))]
        rfl
      by_cases hin : u.any (fun y => Nat.beq y gs[i]) = true
      · rw [hin] at t1
        have hun : unlN u gs[i] = u := by unfold unlN; rw [if_pos hin]
        refine ⟨σ1, σ2, put_at (t := s3) rfl n3, ?_, .val (.lst (Fs w n u)), .val (Fr w n gs[i]), s4, .inr (by rw [hstep, hun]), nl_val _, n4, rfl, by rw [hstep, hun]; (first | lia | omega), by rw [hstep, hun]; exact hub⟩
        rw [exs_step (ex_if_f t1 exs_nil), exs_nil]
      · have hun : unlN u gs[i] = u.take (lessN u gs[i]) ++ [gs[i]] ++ u.drop (lessN u gs[i]) := by unfold unlN; rw [if_neg hin]
        rw [Bool.not_eq_true] at hin
        rw [hin] at t1
        have key : compL (fun v => match ev P (lnOf tab) (.cmp .lt (.call 19 [(.var 5), (.var 3), (.var 1), (.fn 20)]) (.int 0)) ((σ2.map calm).map hide ++ [.val v]) with
            | some (.val (.bool true), _) => match ev P (lnOf tab) (.var 5) ((σ2.map calm).map hide ++ [.val v]) with
              | some (x, _) => some (some x.mv)
              | none => none
            | some (.val (.bool false), _) => some none
            | _ => none) (Fs w n u) = some (Fs w n (u.filter fun x => Nat.blt x gs[i])) := by
          refine compL_filter (Fr w n) (fun x => Nat.blt x gs[i]) u fun x hx => ?_
          let τ : Store := [.val (.lst (Fs w n gs)), .val (.int w), .val (.lst (Fs w n u)), .val (Fr w n gs[i]), hide (calm s4), .val (Fr w n x)]
          have c1 : ev P (lnOf tab) (.cmp .lt (.call 19 [(.var 5), (.var 3), (.var 1), (.fn 20)]) (.int 0)) τ = some (.val (.bool (Nat.blt x gs[i])), τ) :=
            ev_cmp (ev_call (by decide) (evs_cons (ev_var rfl) (evs3 (ev_var rfl) (ev_var rfl) ev_fn)) (rcmp_Fr (k + 2) hw hw' h5 hn (by have := hub x hx; (first | lia | omega)) (by (first | lia | omega)))) ev_int (mc_lt' _ _ (by rw [blt_dec, decide_eq_decide]; exact cmpZ_neg))
          have c2 : ev P (lnOf tab) (.var 5) τ = some (.val (Fr w n x), τ) := ev_var rfl
          show (match ev P (lnOf tab) _ τ with
            | some (.val (.bool true), _) => match ev P (lnOf tab) (.var 5) τ with
              | some (x, _) => some (some x.mv)
              | none => none
            | some (.val (.bool false), _) => some none
            | _ => none) = _
          rw [c1, c2]
          cases Nat.blt x gs[i] <;> rfl
        have v2 : evt P (lnOf tab) (.seq (.var 2)) σ2 = some (Fs w n u, σ2) := evt_seq (ev_var rfl) rfl hus
        have c3 := ev_compIf (elt := .var 5) v2 (by rw [short_len]; exact hus) key
        have n4' : NotLent (calm s4) := by
          cases s4 with
          | unset => exact nl_unset
          | val d => exact nl_val d
          | own l => exact nl_val _
          | lent l => exact absurd rfl (n4 l)
        let σ3 : Store := [.val (.lst (Fs w n gs)), .val (.int w), .val (.lst (Fs w n u)), .val (Fr w n gs[i]), calm s4]
        have c4 : ev P (lnOf tab) (.len (.compIf (.var 5) (.cmp .lt (.call 19 [(.var 5), (.var 3), (.var 1), (.fn 20)]) (.int 0)) (.seq (.var 2)))) σ2 = some (.val (.int (lessN u gs[i] : Nat)), σ3) := by
          have := ev_len c3 rfl (by rw [Fs_len]; have := List.length_filter_le (fun x => Nat.blt x gs[i]) u; (first | lia | omega))
          rw [Fs_len] at this
          exact this
        have st1 := ex_assign c4 (x := 4) (t := calm s4) rfl n4'
        let σ4 : Store := [.val (.lst (Fs w n gs)), .val (.int w), .val (.lst (Fs w n u)), .val (Fr w n gs[i]), .val (.int (lessN u gs[i] : Nat))]
        have d1 : ev P (lnOf tab) (.slicev 2 .none (.var 4)) σ4 = some (.new ((Fs w n u).take (lessN u gs[i])), σ4) := ev_slice_to rfl (ev_var rfl) (s := .val (.lst (Fs w n u))) rfl rfl hus
        have d2 : ev P (lnOf tab) (.slicev 2 (.var 4) .none) σ4 = some (.new ((Fs w n u).drop (lessN u gs[i])), σ4) := ev_slice_from rfl (ev_var rfl) (s := .val (.lst (Fs w n u))) rfl rfl hus
        have d3 : ev P (lnOf tab) (.list [(.var 3)]) σ4 = some (.new [Fr w n gs[i]], σ4) := ev_list (evs1 (ev_var rfl)) (by simp)
        have hlt : ((Fs w n u).take (lessN u gs[i])).length < 4000 := by rw [List.length_take]; rw [Fs_len] at *; (first | lia | omega)
        have hld : ((Fs w n u).drop (lessN u gs[i])).length < 4000 := by rw [List.length_drop]; rw [Fs_len] at *; (first | lia | omega)
        have d4 := ev_bin (o := .add) (ev_bin (o := .add) d1 d3 (mb_cat rfl rfl (by (first | lia | omega)) (by simp))) d2 (mb_cat rfl rfl (by rw [List.length_append]; simp only [List.length_cons, List.length_nil]; (first | lia | omega)) (by (first | lia | omega)))
        have hfs : (Fs w n u).take (lessN u gs[i]) ++ [Fr w n gs[i]] ++ (Fs w n u).drop (lessN u gs[i]) = Fs w n (unlN u gs[i]) := by
          rw [hun, Fs_append, Fs_append, Fs_take, Fs_drop]; rfl
        rw [hfs] at d4
        have st2 := ex_assign d4 (x := 2) (t := .val (.lst (Fs w n u))) rfl (nl_val _)
        refine ⟨σ1, [.val (.lst (Fs w n gs)), .val (.int w), .own (Fs w n (unlN u gs[i])), .val (Fr w n gs[i]), .val (.int (lessN u gs[i] : Nat))], put_at (t := s3) rfl n3, ?_, .own (Fs w n (unlN u gs[i])), .val (Fr w n gs[i]), .val (.int (lessN u gs[i] : Nat)), .inl (by rw [hstep]), nl_val _, nl_val _, rfl, ?_, ?_⟩
        · rw [exs_step (ex_if_t t1 (by rw [exs_step st1]; show exs P _ _ σ4 = _; rw [exs_step st2, exs_nil])), exs_nil]
          rfl
        · rw [hstep, hun, List.length_append, List.length_append, List.length_take, List.length_drop]; simp only [List.length_cons, List.length_nil]; (first | lia | omega)
        · intro x hx
          rw [hstep, hun, List.append_assoc, List.mem_append, List.mem_append] at hx
          rcases hx with hx | hx | hx
          · exact hub x (List.mem_of_mem_take hx)
          · simp at hx; (first | lia | omega)
          · exact hub x (List.mem_of_mem_drop hx))
    (σ := [.val (.lst (Fs w n gs)), .val (.int w), .own [], .unset, .unset]) ⟨.own [], .unset, .unset, .inl rfl, nl_unset, nl_unset, rfl, by simp, by simp⟩
  rw [Fs_len, List.take_length] at b2 q1 q2
  unfold threeN at h3
  generalize gs.foldl unlN [] = u at *
  have hus : (Fs w n u).length < 4096 := by rw [Fs_len]; (first | lia | omega)
  let σ : Store := [.val (.lst (Fs w n gs)), .val (.int w), s2, s3, s4]
  have l2 : ev P (lnOf tab) (.lenv 2) σ = some (.val (.int (u.length : Nat)), σ) := by
    have := ev_lenv (P := P) (ln := lnOf tab) (x := 2) (σ := σ) (s := s2) rfl b2.items hus
    rw [Fs_len] at this; exact this
  have v0 : evt P (lnOf tab) (.seq (.var 0)) [.val (.lst (Fs w n gs)), .val (.int w), .own [], .unset, .unset] = some (Fs w n gs, [.val (.lst (Fs w n gs)), .val (.int w), .own [], .unset, .unset]) := evt_seq (ev_var rfl) rfl hgl
  refine run_plain (σ₁ := σ) rfl (by decide) rfl ?_
  show exs P _ ir_law_three_right.body [.val (.lst (Fs w n gs)), .val (.int w), .unset, .unset, .unset] = _
  unfold ir_law_three_right
  simp only
  rw [exs_step (ex_assign (ev_list evs_nil (by simp)) (t := .unset) rfl nl_unset)]
  show exs P _ _ [.val (.lst (Fs w n gs)), .val (.int w), .own [], .unset, .unset] = _
  rw [exs_step (ex_for1 v0 hgl e1)]
  show exs P _ _ σ = _
  rcases Nat.lt_or_ge u.length 3 with h | h
  · exact exs_ret (ex_if_t (ev_cmp l2 ev_int (mc_lt' _ _ (by rw [decide_eq_true_eq]; (first | lia | omega)))) (exs_ret (ex_ret ev_bool)))
  · rw [exs_step (ex_if_f (ev_cmp l2 ev_int (mc_lt' _ _ (by rw [decide_eq_false_iff_not]; (first | lia | omega)))) exs_nil)]
    obtain ⟨a, b, c, rfl, habc⟩ : ∃ a b c, u = [a, b, c] ∧ a + b = c := by
      match u with
      | [a, b, c] => exact ⟨a, b, c, rfl, Nat.eq_of_beq_eq_true h3⟩
      | [] => simp at h
      | [_] => simp at h
      | [_, _] => simp at h
      | _ :: _ :: _ :: _ :: _ => simp at h3
    have lv := live_of (σ := σ) (i := 2) rfl b2
    have ha := q2 a (by simp)
    have hb' := q2 b (by simp)
    have i0 : ev P (lnOf tab) (.idxv 2 (.int 0)) σ = some (.val (Fr w n a), σ) := ev_idxv lv ev_int0 (s := s2) rfl b2.items hus rfl
    have i1 : ev P (lnOf tab) (.idxv 2 (.int 1)) σ = some (.val (Fr w n b), σ) := ev_idxv lv ev_int1 (s := s2) rfl b2.items hus rfl
    have i2 : ev P (lnOf tab) (.idxv 2 (.int 2)) σ = some (.val (Fr w n c), σ) := ev_idxv lv (k := 2) ev_int (s := s2) rfl b2.items hus rfl
    have s0 : ev P (lnOf tab) (.call 17 [(.idxv 2 (.int 0)), (.idxv 2 (.int 1)), (.var 1), (.fn 20), (.fn 26)]) σ = some (.val (Fr w n (a + b)), σ) :=
      ev_call (by decide) (evs_cons i0 (evs_cons i1 (evs3 (ev_var rfl) ev_fn ev_fn))) (radd_Fr k hw hw' h5 hn ha hb')
    have p : ∀ x, MV.plain 8 (Fr w n x) = true := plain_Fr 5
    have t2 : ev P (lnOf tab) (.cmp .eq (.call 17 [(.idxv 2 (.int 0)), (.idxv 2 (.int 1)), (.var 1), (.fn 20), (.fn 26)]) (.idxv 2 (.int 2))) σ = some (.val (.bool true), σ) := by
      refine ev_cmp s0 i2 ?_
      show (if MV.plain 8 (Fr w n (a + b)) && MV.plain 8 (Fr w n c) then some (MV.eqv (Fr w n (a + b)) (Fr w n c)) else none) = _
      rw [p, p, eqv_Fr (by (first | lia | omega)) (by (first | lia | omega)), decide_eq_true habc]
      rfl
    exact exs_ret (ex_ret (ev_and_t (ev_cmp l2 ev_int (mc_eq' _ _ rfl)) t2))
end
end Mine

end
-- PureT
section
set_option autoImplicit false
set_option maxRecDepth 100000
set_option linter.all false
set_option backward.match.sparseCases false
set_option bootstrap.genMatcherCode false
namespace Mine

/-- the places after k steps -/
noncomputable def psN (n a : Nat) : Nat → List Nat
  | 0 => [0]
  | k + 1 => (psN n a k).take (lessN (psN n a k) ((k + 1) * a % n)) ++ [(k + 1) * a % n] ++ (psN n a k).drop (lessN (psN n a k) ((k + 1) * a % n))
/-- the rests after k steps -/
noncomputable def rsN (n a : Nat) : Nat → List Nat
  | 0 => [0]
  | k + 1 => rsN n a k ++ [(k + 1) * a % n]
noncomputable def sumN : List Nat → Nat
  | [] => 0
  | x :: r => x + sumN r
noncomputable def eqL : List Nat → List Nat → Bool
  | [], [] => true
  | x :: a, y :: b => Nat.beq x y && eqL a b
  | _, _ => false
theorem eqL_eq : ∀ {a b : List Nat}, eqL a b = true → a = b
  | [], [], _ => rfl
  | [], _ :: _, h => by cases h
  | _ :: _, [], h => by cases h
  | x :: a, y :: b, h => by
    simp only [eqL, Bool.and_eq_true] at h
    rw [Nat.eq_of_beq_eq_true h.1, eqL_eq h.2]

/-- no multiple up to the k-th comes home -/
noncomputable def liveN (n a : Nat) : Nat → Bool
  | 0 => true
  | k + 1 => Nat.blt 0 ((k + 1) * a % n) && liveN n a k

noncomputable def stepOk (n a k : Nat) : Bool :=
  (if Nat.ble n (k * a % n + a) then Nat.beq (k * a % n + a - n) ((k + 1) * a % n) else Nat.beq (k * a % n + a) ((k + 1) * a % n)) &&
  (match lessN (psN n a k) ((k + 1) * a % n) with
    | 0 => false
    | m + 1 => match (gapsN n (psN n a k))[m]? with
      | none => false
      | some g => (gapsN n (psN n a k)).all fun y => Nat.ble y g) &&
  eqL (gapsN n (psN n a (k + 1))) (dueN n (rsN n a (k + 1))) && threeN (gapsN n (psN n a (k + 1))) && upN (sortN (rsN n a (k + 1)) ++ [n]) && (sortN (rsN n a (k + 1)) ++ [n]).all (fun x => Nat.ble x n)
noncomputable def restOk (n a k : Nat) : Bool := sortedN n (psN n a k) && Nat.beq (sumN (gapsN n (psN n a k))) n && Nat.beq (psN n a k).length (k + 1)

noncomputable def lawN (n : Nat) : Bool := Nat.blt n 5 || allN n fun a => Nat.beq a 0 || ((allN 5 fun k => !liveN n a (k + 1) || stepOk n a k) && allN 6 fun k => !liveN n a k || restOk n a k)
theorem law_low : allN 12 lawN = true := by decide +kernel
theorem law_mid : (allN 5 fun i => lawN (12 + i)) = true := by decide +kernel
theorem law_high : (allN 4 fun i => lawN (17 + i)) = true := by decide +kernel
theorem law_top : (allN 2 fun i => lawN (21 + i)) = true := by decide +kernel
theorem law_last : (allN 2 fun i => lawN (23 + i)) = true := by decide +kernel
theorem law_all (n : Nat) (h : n < 25) : (Nat.blt n 5 || allN n fun a => Nat.beq a 0 || ((allN 5 fun k => !liveN n a (k + 1) || stepOk n a k) && allN 6 fun k => !liveN n a k || restOk n a k)) = true := by
  show lawN n = true
  have at_ (b m : Nat) (q : (allN m fun i => lawN (b + i)) = true) (h1 : b ≤ n) (h2 : n < b + m) : lawN n = true := by
    have := allN_iff q (n - b) (by lia)
    rwa [show b + (n - b) = n by lia] at this
  by_cases h1 : n < 12
  · exact allN_iff law_low n h1
  · by_cases h2 : n < 17
    · exact at_ 12 5 law_mid (by lia) (by lia)
    · by_cases h3 : n < 21
      · exact at_ 17 4 law_high (by lia) (by lia)
      · by_cases h4 : n < 23
        · exact at_ 21 2 law_top (by lia) (by lia)
        · exact at_ 23 2 law_last (by lia) (by lia)

theorem step_ok {n a k : Nat} (h5 : 5 ≤ n) (hn : n ≤ 24) (ha : a < n) (ha0 : 0 < a) (hk : k < 5) (hl : liveN n a (k + 1) = true) : stepOk n a k = true := by
  have h := law_all n (by (first | lia | omega))
  rw [not_blt h5, Bool.false_or] at h
  have h := allN_iff h a ha
  have e : Nat.beq a 0 = false := by rw [Bool.eq_false_iff]; intro q; have := Nat.eq_of_beq_eq_true q; (first | lia | omega)
  rw [e, Bool.false_or, Bool.and_eq_true] at h
  have := allN_iff h.1 k hk
  rwa [hl, Bool.not_true, Bool.false_or] at this
theorem rest_ok {n a k : Nat} (h5 : 5 ≤ n) (hn : n ≤ 24) (ha : a < n) (ha0 : 0 < a) (hk : k < 6) (hl : liveN n a k = true) : restOk n a k = true := by
  have h := law_all n (by (first | lia | omega))
  rw [not_blt h5, Bool.false_or] at h
  have h := allN_iff h a ha
  have e : Nat.beq a 0 = false := by rw [Bool.eq_false_iff]; intro q; have := Nat.eq_of_beq_eq_true q; (first | lia | omega)
  rw [e, Bool.false_or, Bool.and_eq_true] at h
  have := allN_iff h.2 k hk
  rwa [hl, Bool.not_true, Bool.false_or] at this

structure StepFacts (n a k : Nat) : Prop where
  next : if n ≤ k * a % n + a then k * a % n + a - n = (k + 1) * a % n else k * a % n + a = (k + 1) * a % n
  big : ∃ m g, lessN (psN n a k) ((k + 1) * a % n) = m + 1 ∧ (gapsN n (psN n a k))[m]? = some g ∧ ∀ y ∈ gapsN n (psN n a k), y ≤ g
  due : gapsN n (psN n a (k + 1)) = dueN n (rsN n a (k + 1))
  three : threeN (gapsN n (psN n a (k + 1))) = true
  up : upN (sortN (rsN n a (k + 1)) ++ [n]) = true
  bound : ∀ x ∈ sortN (rsN n a (k + 1)) ++ [n], x ≤ n

theorem step_facts {n a k : Nat} (h : stepOk n a k = true) : StepFacts n a k := by
  simp only [stepOk, Bool.and_eq_true] at h
  obtain ⟨⟨⟨⟨⟨h1, h2⟩, h3⟩, h4⟩, h5⟩, h6⟩ := h
  refine ⟨?_, ?_, eqL_eq h3, h4, h5, fun x hx => Nat.le_of_ble_eq_true (List.all_eq_true.mp h6 x hx)⟩
  · by_cases q : n ≤ k * a % n + a
    · rw [if_pos q]
      rw [if_pos (Nat.ble_eq_true_of_le q)] at h1
      exact Nat.eq_of_beq_eq_true h1
    · rw [if_neg q]
      rw [if_neg (fun e => q (Nat.le_of_ble_eq_true e))] at h1
      exact Nat.eq_of_beq_eq_true h1
  · split at h2
    · cases h2
    · rename_i m hm
      split at h2
      · cases h2
      · rename_i g hg
        exact ⟨m, g, hm, hg, fun y hy => Nat.le_of_ble_eq_true (List.all_eq_true.mp h2 y hy)⟩
end Mine

end
-- PureU
section
set_option autoImplicit false
set_option maxRecDepth 100000
set_option linter.all false
set_option backward.match.sparseCases false
set_option bootstrap.genMatcherCode false
namespace Mine

theorem ev_or_f {P : Fns} {ln : Nat → Bool} {a b : IE} {σ σ₁ σ₂ : Store} {t : Bool} (h : ev P ln a σ = some (.val (.bool false), σ₁)) (h2 : ev P ln b σ₁ = some (.val (.bool t), σ₂)) : ev P ln (.or a b) σ = some (.val (.bool t), σ₂) := by
  rw [ev, h]; simp only [h2]
theorem calm_nl {s : Slot} (h : NotLent s) : NotLent (calm s) := by
  cases s with
  | unset => exact nl_unset
  | val d => exact nl_val d
  | own l => exact nl_val _
  | lent l => exact absurd rfl (h l)

section
variable {w n : Nat}

theorem Bears.calm {s : Slot} {u : List Nat} (h : Bears w n s u) : calm s = .val (.lst (Fs w n u)) := by
  rcases h with rfl | rfl <;> rfl
/-- a slot that bears numbers -/
noncomputable def BearsM (s : Slot) (u : List Nat) : Prop := s = .own (M u) ∨ s = .val (.lst (M u))
theorem BearsM.nl {s : Slot} {u : List Nat} (h : BearsM s u) : NotLent s := by
  rcases h with rfl | rfl
  · exact nl_own _
  · exact nl_val _
theorem BearsM.calm {s : Slot} {u : List Nat} (h : BearsM s u) : calm s = .val (.lst (M u)) := by
  rcases h with rfl | rfl <;> rfl

/-- the law's frame -/
noncomputable abbrev sl (w n : Nat) (S : MV) (s1 : Slot) (a o x : Nat) (s9 s10 s11 s12 s13 s14 s15 : Slot) : Store :=
  [.val S, s1, .val (.int (w : Nat)), .val (.int (n : Nat)), .val (.int (a : Nat)), .val (.int (o : Nat)), .val (Fr w n n), .val (Fr w n a), .val (Fr w n x), s9, s10, s11, s12, s13, s14, s15]

theorem eqv_ne (hw : 1 ≤ w) (h0 : 0 < n) {x y : Nat} (h : x = y) : mcmp .ne (Fr w n x) (Fr w n y) = some false := by
  have p : ∀ x, MV.plain 8 (Fr w n x) = true := plain_Fr 5
  show (if MV.plain 8 (Fr w n x) && MV.plain 8 (Fr w n y) then some (!MV.eqv (Fr w n x) (Fr w n y)) else none) = _
  rw [p, p, eqv_Fr hw h0, decide_eq_true h]; rfl
theorem eqv_nes (hw : 1 ≤ w) (h0 : 0 < n) {x y : List Nat} (h : x = y) : mcmp .ne (.lst (Fs w n x)) (.lst (Fs w n y)) = some false := by
  have p : ∀ x, MV.plain 8 (.lst (Fs w n x)) = true := fun x => by rw [MV.plain]; exact plains_Fs 4 x
  show (if MV.plain 8 (.lst (Fs w n x)) && MV.plain 8 (.lst (Fs w n y)) then some (!MV.eqv (.lst (Fs w n x)) (.lst (Fs w n y))) else none) = _
  rw [p, p, MV.eqv, eqvs_Fs hw h0, decide_eq_true h]; rfl

/-- the new place -/
theorem turn1 (hw : 3 ≤ w) (hw' : w < 9) (h5 : 5 ≤ n) (hn : n ≤ 24) {S : MV} {s1 s9 s10 s11 s13 s14 s15 : Slot} {a o x k : Nat} (ha : a < n) (hx : x < n) {x' : Nat} (hnext : if n ≤ x + a then x + a - n = x' else x + a = x') (hx' : x' = k * a % n) (hk : k < 100) :
    exs (Phi tab 12) (lnOf tab) [.assign 8 (.call 17 [(.var 8), (.var 7), (.var 2), (.fn 20), (.fn 26)]), .ite (.cmp .ge (.call 19 [(.var 8), (.var 6), (.var 2), (.fn 20)]) (.int 0)) [.assign 8 (.call 18 [(.var 8), (.var 6), (.var 2), (.fn 20), (.fn 26)])] [],
      .ite (.cmp .ne (.var 8) (.call 29 [(.bin .mod (.bin .mul (.var 12) (.var 4)) (.var 3)), (.var 3), (.var 2)])) [.ret (.bool false)] []] (sl w n S s1 a o x s9 s10 s11 (.val (.int (k : Nat))) s13 s14 s15) = some (.next, sl w n S s1 a o x' s9 s10 s11 (.val (.int (k : Nat))) s13 s14 s15) := by
  let P := Phi tab 12
  let σ0 := sl w n S s1 a o x s9 s10 s11 (.val (.int (k : Nat))) s13 s14 s15
  let σ1 := sl w n S s1 a o (x + a) s9 s10 s11 (.val (.int (k : Nat))) s13 s14 s15
  let σ2 := sl w n S s1 a o x' s9 s10 s11 (.val (.int (k : Nat))) s13 s14 s15
  have e1 : ev P (lnOf tab) (.call 17 [(.var 8), (.var 7), (.var 2), (.fn 20), (.fn 26)]) σ0 = some (.val (Fr w n (x + a)), σ0) :=
    ev_call (by decide) (evs_cons (ev_var rfl) (evs_cons (ev_var rfl) (evs3 (ev_var rfl) ev_fn ev_fn))) (radd_Fr 6 hw hw' h5 hn (by (first | lia | omega)) (by (first | lia | omega)))
  have c1 : ev P (lnOf tab) (.call 19 [(.var 8), (.var 6), (.var 2), (.fn 20)]) σ1 = some (.val (.int (cmpZ (x + a) n)), σ1) :=
    ev_call (by decide) (evs_cons (ev_var rfl) (evs3 (ev_var rfl) (ev_var rfl) ev_fn)) (rcmp_Fr 8 hw hw' h5 hn (by (first | lia | omega)) (by (first | lia | omega)))
  have mge : ∀ (x y : Int) {b : Bool}, decide (x ≥ y) = b → mcmp .ge (MR.val (.int x)).mv (MR.val (.int y)).mv = some b := fun x y b h => by subst h; rfl
  have st2 : ex P (lnOf tab) (.ite (.cmp .ge (.call 19 [(.var 8), (.var 6), (.var 2), (.fn 20)]) (.int 0)) [.assign 8 (.call 18 [(.var 8), (.var 6), (.var 2), (.fn 20), (.fn 26)])] []) σ1 = some (.next, σ2) := by
    by_cases h : n ≤ x + a
    · rw [if_pos h] at hnext
      have c2 : ev P (lnOf tab) (.call 18 [(.var 8), (.var 6), (.var 2), (.fn 20), (.fn 26)]) σ1 = some (.val (Fr w n (x + a - n)), σ1) :=
        ev_call (by decide) (evs_cons (ev_var rfl) (evs_cons (ev_var rfl) (evs3 (ev_var rfl) ev_fn ev_fn))) (rsub_Fr 5 hw hw' h5 hn h (.inr ⟨rfl, by (first | lia | omega)⟩))
      rw [hnext] at c2
      exact ex_if_t (ev_cmp c1 ev_int (mge _ _ (by rw [decide_eq_true_eq]; exact cmpZ_nonneg.mpr h))) (by rw [exs_step (ex_assign c2 (x := 8) (t := .val (Fr w n (x + a))) rfl (nl_val _)), exs_nil]; rfl)
    · rw [if_neg h] at hnext
      subst hnext
      exact ex_if_f (ev_cmp c1 ev_int (mge _ _ (by rw [decide_eq_false_iff_not]; intro q; exact h (cmpZ_nonneg.mp q)))) exs_nil
  have hka : k * a ≤ 99 * 24 := Nat.mul_le_mul (by (first | lia | omega)) (by (first | lia | omega))
  have m1 : ev P (lnOf tab) (.bin .mod (.bin .mul (.var 12) (.var 4)) (.var 3)) σ2 = some (.val (.int ((k * a % n : Nat))), σ2) :=
    ev_bin (ev_bin (ev_var (d := .int (k : Nat)) rfl) (ev_var (d := .int (a : Nat)) rfl) (mb_int (c := ((k * a : Nat) : Int)) (by rw [ib_mul (small_nat (by (first | lia | omega))) (small_nat (by (first | lia | omega)))]; push_cast; rfl))) (ev_var (d := .int (n : Nat)) rfl) (mb_int (ib_mod (by (first | lia | omega))))
  have hmod : k * a % n < 4000 := by have := Nat.mod_lt (k * a) (show 0 < n by (first | lia | omega)); (first | lia | omega)
  have c3 : ev P (lnOf tab) (.call 29 [(.bin .mod (.bin .mul (.var 12) (.var 4)) (.var 3)), (.var 3), (.var 2)]) σ2 = some (.val (Fr w n (k * a % n)), σ2) :=
    ev_call (by decide) (evs3 m1 (ev_var rfl) (ev_var rfl)) (least_spec 10 hw hw' hmod (by (first | lia | omega)) (by (first | lia | omega)))
  have t3 : ev P (lnOf tab) (.cmp .ne (.var 8) (.call 29 [(.bin .mod (.bin .mul (.var 12) (.var 4)) (.var 3)), (.var 3), (.var 2)])) σ2 = some (.val (.bool false), σ2) :=
    ev_cmp (ev_var rfl) c3 (eqv_ne (by (first | lia | omega)) (by (first | lia | omega)) hx')
  show exs P _ _ σ0 = some (.next, σ2)
  rw [exs_step (ex_assign e1 (t := .val (Fr w n x)) rfl (nl_val _))]
  show exs P _ _ σ1 = some (.next, σ2)
  rw [exs_step st2, exs_step (ex_if_f t3 exs_nil), exs_nil]

/-- a filter over a list of parts -/
theorem filt (P : Fns) {j : Nat} {σ σ' : Store} {s : Slot} {u : List Nat} {cond : IE} {p : Nat → Bool} (hs : σ[j]? = some s) (hb : Bears w n s u) (hu : u.length < 4000) (hlen : σ.length = 16) (hσ : (σ.set j (.val (.lst (Fs w n u)))).map calm = σ')
    (hc : ∀ x ∈ u, ev P (lnOf tab) cond (σ'.map hide ++ [.val (Fr w n x)]) = some (.val (.bool (p x)), σ'.map hide ++ [.val (Fr w n x)])) :
    ev P (lnOf tab) (.compIf (.var 16) cond (.seq (.var j))) σ = some (.new (Fs w n (u.filter p)), σ') := by
  subst hσ
  refine ev_compIf (evt_seq (ev_bears hs hb) rfl (by rw [Fs_len]; (first | lia | omega))) (by rw [short_len, Fs_len]; (first | lia | omega)) ?_
  refine compL_filter (Fr w n) p u fun x hx => ?_
  have h1 := hc x hx
  have h2 : ev P (lnOf tab) (.var 16) (((σ.set j (.val (.lst (Fs w n u)))).map calm).map hide ++ [.val (Fr w n x)]) = some (.val (Fr w n x), ((σ.set j (.val (.lst (Fs w n u)))).map calm).map hide ++ [.val (Fr w n x)]) :=
    ev_var (by rw [List.getElem?_append_right (by simp [hlen])]; simp [hlen])
  rw [h1]
  cases p x
  · rfl
  · simp only [h2]; rfl
end
end Mine

end
-- PureV
section
set_option autoImplicit false
set_option maxRecDepth 100000
set_option linter.all false
set_option backward.match.sparseCases false
set_option bootstrap.genMatcherCode false
namespace Mine
section
variable {w n : Nat}

theorem turn2 (hw : 3 ≤ w) (hw' : w < 9) (h5 : 5 ≤ n) (hn : n ≤ 24) {S : MV} {s1 s9 s10 s11 s13 s14 s15 : Slot} {a o x k : Nat} {gs ps rs : List Nat} (b9 : Bears w n s9 gs) (b10 : Bears w n s10 ps) (b11 : BearsM s11 rs) (n1 : NotLent s1) (n13 : NotLent s13) (n14 : NotLent s14) (n15 : NotLent s15)
    (hgs : gs.length < 1000) (hps : ps.length < 1000) (hgb : ∀ y ∈ gs, y ≤ n) (hpb : ∀ y ∈ ps, y ≤ n) (hx : x < n) {m g : Nat} (hm : lessN ps x = m + 1) (hg : gs[m]? = some g) (hbig : ∀ y ∈ gs, y ≤ g) :
    ∃ s1' s14' s15', NotLent s1' ∧ NotLent s14' ∧ NotLent s15' ∧ exs (Phi tab 12) (lnOf tab) [.assign 13 (.len (.compIf (.var 16) (.cmp .lt (.call 19 [(.var 16), (.var 8), (.var 2), (.fn 20)]) (.int 0)) (.seq (.var 10)))),
      .ite (.cmp .ne (.compIf (.var 16) (.cmp .gt (.call 19 [(.var 16), (.idxv 9 (.bin .sub (.var 13) (.int 1))), (.var 2), (.fn 20)]) (.int 0)) (.seq (.var 9))) (.list [])) [.ret (.bool false)] []] (sl w n S s1 a o x s9 s10 s11 (.val (.int (k : Nat))) s13 s14 s15) =
        some (.next, sl w n S s1' a o x (.val (.lst (Fs w n gs))) (.val (.lst (Fs w n ps))) (.val (.lst (M rs))) (.val (.int (k : Nat))) (.val (.int ((m + 1 : Nat)))) s14' s15') := by
  let P := Phi tab 12
  let σ0 := sl w n S s1 a o x s9 s10 s11 (.val (.int (k : Nat))) s13 s14 s15
  let σ1 := sl w n S (calm s1) a o x (.val (.lst (Fs w n gs))) (.val (.lst (Fs w n ps))) (.val (.lst (M rs))) (.val (.int (k : Nat))) (calm s13) (calm s14) (calm s15)
  let σ2 := sl w n S (calm s1) a o x (.val (.lst (Fs w n gs))) (.val (.lst (Fs w n ps))) (.val (.lst (M rs))) (.val (.int (k : Nat))) (.val (.int ((m + 1 : Nat)))) (calm s14) (calm s15)
  let σ3 := sl w n S (calm (calm s1)) a o x (.val (.lst (Fs w n gs))) (.val (.lst (Fs w n ps))) (.val (.lst (M rs))) (.val (.int (k : Nat))) (.val (.int ((m + 1 : Nat)))) (calm (calm s14)) (calm (calm s15))
  have q1 : (σ0.set 10 (.val (.lst (Fs w n ps)))).map calm = σ1 := by
    show sl w n S (calm s1) a o x (calm s9) (.val (.lst (Fs w n ps))) (calm s11) (.val (.int (k : Nat))) (calm s13) (calm s14) (calm s15) = σ1
    rw [b9.calm, b11.calm]
  have f1 : ev P (lnOf tab) (.compIf (.var 16) (.cmp .lt (.call 19 [(.var 16), (.var 8), (.var 2), (.fn 20)]) (.int 0)) (.seq (.var 10))) σ0 = some (.new (Fs w n (ps.filter fun y => Nat.blt y x)), σ1) := by
    refine filt P (s := s10) rfl b10 (by (first | lia | omega)) rfl q1 fun y hy => ?_
    have hyn := hpb y hy
    exact ev_cmp (ev_call (by decide) (evs_cons (ev_var rfl) (evs3 (ev_var rfl) (ev_var rfl) ev_fn)) (rcmp_Fr 8 hw hw' h5 hn (x := y) (y := x) (by (first | lia | omega)) (by (first | lia | omega)))) ev_int (mc_lt' _ _ (by rw [blt_dec, decide_eq_decide]; exact cmpZ_neg))
  have e1 : ev P (lnOf tab) (.len (.compIf (.var 16) (.cmp .lt (.call 19 [(.var 16), (.var 8), (.var 2), (.fn 20)]) (.int 0)) (.seq (.var 10)))) σ0 = some (.val (.int ((m + 1 : Nat))), σ1) := by
    have := ev_len f1 rfl (by rw [Fs_len]; have := List.length_filter_le (fun y => Nat.blt y x) ps; (first | lia | omega))
    rw [Fs_len] at this
    rw [← hm]; exact this
  have a1 := ex_assign e1 (x := 13) (t := calm s13) rfl (calm_nl n13)
  have q2 : (σ2.set 9 (.val (.lst (Fs w n gs)))).map calm = σ3 := rfl
  have hfil : gs.filter (fun y => Nat.blt g y) = [] := by
    rw [List.filter_eq_nil_iff]
    intro y hy
    rw [not_blt (hbig y hy)]; simp
  have hgn : g ≤ n := hgb g (List.mem_of_getElem? hg)
  have f2 : ev P (lnOf tab) (.compIf (.var 16) (.cmp .gt (.call 19 [(.var 16), (.idxv 9 (.bin .sub (.var 13) (.int 1))), (.var 2), (.fn 20)]) (.int 0)) (.seq (.var 9))) σ2 = some (.new (Fs w n (gs.filter fun y => Nat.blt g y)), σ3) := by
    refine filt P (s := .val (.lst (Fs w n gs))) rfl (.inr rfl) (by (first | lia | omega)) rfl q2 fun y hy => ?_
    have hyn := hgb y hy
    have hgl : (Fs w n gs).length < 4096 := by rw [Fs_len]; (first | lia | omega)
    have hgi : (Fs w n gs)[m]? = some (Fr w n g) := by
      obtain ⟨hi, e⟩ := List.getElem?_eq_some_iff.mp hg
      rw [Fs_get hi, e]
    have i1 : ev P (lnOf tab) (.idxv 9 (.bin .sub (.var 13) (.int 1))) (σ3.map hide ++ [.val (Fr w n y)]) = some (.val (Fr w n g), σ3.map hide ++ [.val (Fr w n y)]) :=
      ev_idxv rfl (ev_bin (ev_var (d := .int ((m + 1 : Nat))) rfl) ev_int (mb_int (c := ((m : Nat) : Int)) (by rw [ib_sub]; exact congrArg some (by (first | lia | omega))))) (s := .val (.lst (Fs w n gs))) rfl rfl hgl hgi
    exact ev_cmp (ev_call (by decide) (evs_cons (ev_var rfl) (evs_cons i1 (evs2 (ev_var rfl) ev_fn))) (rcmp_Fr 8 hw hw' h5 hn (x := y) (y := g) (by (first | lia | omega)) (by (first | lia | omega)))) ev_int (mc_gt' _ _ (by rw [blt_dec, decide_eq_decide]; exact cmpZ_pos))
  rw [hfil] at f2
  have f3 : ev P (lnOf tab) (.list []) σ3 = some (.new (Fs w n []), σ3) := ev_list evs_nil (by simp)
  have t2 := ev_cmp (o := .ne) f2 f3 (eqv_nes (x := []) (y := []) (by (first | lia | omega)) (by (first | lia | omega)) rfl)
  refine ⟨calm (calm s1), calm (calm s14), calm (calm s15), calm_nl (calm_nl n1), calm_nl (calm_nl n14), calm_nl (calm_nl n15), ?_⟩
  show exs P _ _ σ0 = some (.next, σ3)
  rw [exs_step a1]
  show exs P _ _ σ2 = some (.next, σ3)
  rw [exs_step (ex_if_f t2 exs_nil), exs_nil]

theorem turn3 (hw : 3 ≤ w) (hw' : w < 9) (h5 : 5 ≤ n) (hn : n ≤ 24) {S : MV} {s1 s14 s15 : Slot} {a o x k m : Nat} {gs ps rs ps' : List Nat} (hps : ps.length < 60) (hrs : rs.length < 50) (ha : a < n) (hk : k < 100)
    (hps' : ps' = ps.take m ++ [x] ++ ps.drop m) (hsort : sortedN n ps' = true) (hdue : gapsN n ps' = dueN n (rs ++ [k * a % n])) (hthree : threeN (gapsN n ps') = true)
    (hup : upN (sortN (rs ++ [k * a % n]) ++ [n]) = true) (hbd : ∀ y ∈ sortN (rs ++ [k * a % n]) ++ [n], y ≤ n) (hgb : ∀ y ∈ gapsN n ps', y ≤ n) :
    exs (Phi tab 12) (lnOf tab) [.assigns [10, 11] [(.bin .add (.bin .add (.slicev 10 .none (.var 13)) (.list [(.var 8)])) (.slicev 10 (.var 13) .none)), (.bin .add (.var 11) (.list [(.bin .mod (.bin .mul (.var 12) (.var 4)) (.var 3))]))], .assign 9 (.call 30 [(.var 10), (.var 2)]),
      .ite (.or (.cmp .ne (.var 9) (.call 31 [(.var 11), (.var 3), (.var 2)])) (.not (.call 32 [(.var 9), (.var 2)]))) [.ret (.bool false)] []] (sl w n S s1 a o x (.val (.lst (Fs w n gs))) (.val (.lst (Fs w n ps))) (.val (.lst (M rs))) (.val (.int (k : Nat))) (.val (.int (m : Nat))) s14 s15) =
        some (.next, sl w n S s1 a o x (.val (.lst (Fs w n (gapsN n ps')))) (.val (.lst (Fs w n ps'))) (.val (.lst (M (rs ++ [k * a % n])))) (.val (.int (k : Nat))) (.val (.int (m : Nat))) s14 s15) := by
  let P := Phi tab 12
  let σ0 := sl w n S s1 a o x (.val (.lst (Fs w n gs))) (.val (.lst (Fs w n ps))) (.val (.lst (M rs))) (.val (.int (k : Nat))) (.val (.int (m : Nat))) s14 s15
  let σ1 := sl w n S s1 a o x (.val (.lst (Fs w n gs))) (.own (Fs w n ps')) (.own (M (rs ++ [k * a % n]))) (.val (.int (k : Nat))) (.val (.int (m : Nat))) s14 s15
  let σ2 := sl w n S s1 a o x (.val (.lst (Fs w n gs))) (.val (.lst (Fs w n ps'))) (.own (M (rs ++ [k * a % n]))) (.val (.int (k : Nat))) (.val (.int (m : Nat))) s14 s15
  let σ3 := sl w n S s1 a o x (.val (.lst (Fs w n (gapsN n ps')))) (.val (.lst (Fs w n ps'))) (.own (M (rs ++ [k * a % n]))) (.val (.int (k : Nat))) (.val (.int (m : Nat))) s14 s15
  let σ4 := sl w n S s1 a o x (.val (.lst (Fs w n (gapsN n ps')))) (.val (.lst (Fs w n ps'))) (.val (.lst (M (rs ++ [k * a % n])))) (.val (.int (k : Nat))) (.val (.int (m : Nat))) s14 s15
  have hpl : (Fs w n ps).length < 4096 := by rw [Fs_len]; (first | lia | omega)
  have hlen' : ps'.length < 1000 := by rw [hps', List.length_append, List.length_append, List.length_take, List.length_drop]; simp only [List.length_cons, List.length_nil]; (first | lia | omega)
  have d1 : ev P (lnOf tab) (.slicev 10 .none (.var 13)) σ0 = some (.new ((Fs w n ps).take m), σ0) := ev_slice_to rfl (ev_var rfl) (s := .val (.lst (Fs w n ps))) rfl rfl hpl
  have d2 : ev P (lnOf tab) (.slicev 10 (.var 13) .none) σ0 = some (.new ((Fs w n ps).drop m), σ0) := ev_slice_from rfl (ev_var rfl) (s := .val (.lst (Fs w n ps))) rfl rfl hpl
  have d3 : ev P (lnOf tab) (.list [(.var 8)]) σ0 = some (.new [Fr w n x], σ0) := ev_list (evs1 (ev_var rfl)) (by simp)
  have hlt : ((Fs w n ps).take m).length < 4000 := by rw [List.length_take, Fs_len]; (first | lia | omega)
  have hld : ((Fs w n ps).drop m).length < 4000 := by rw [List.length_drop, Fs_len]; (first | lia | omega)
  have d4 := ev_bin (o := .add) (ev_bin (o := .add) d1 d3 (mb_cat rfl rfl (by (first | lia | omega)) (by simp))) d2 (mb_cat rfl rfl (by rw [List.length_append]; simp only [List.length_cons, List.length_nil]; (first | lia | omega)) (by (first | lia | omega)))
  have hfs : (Fs w n ps).take m ++ [Fr w n x] ++ (Fs w n ps).drop m = Fs w n ps' := by
    rw [hps', Fs_append, Fs_append, Fs_take, Fs_drop]; rfl
  rw [hfs] at d4
  have hka : k * a ≤ 99 * 24 := Nat.mul_le_mul (by (first | lia | omega)) (by (first | lia | omega))
  have m1 : ev P (lnOf tab) (.bin .mod (.bin .mul (.var 12) (.var 4)) (.var 3)) σ0 = some (.val (.int ((k * a % n : Nat))), σ0) :=
    ev_bin (ev_bin (ev_var (d := .int (k : Nat)) rfl) (ev_var (d := .int (a : Nat)) rfl) (mb_int (c := ((k * a : Nat) : Int)) (by rw [ib_mul (small_nat (by (first | lia | omega))) (small_nat (by (first | lia | omega)))]; push_cast; rfl))) (ev_var (d := .int (n : Nat)) rfl) (mb_int (ib_mod (by (first | lia | omega))))
  have m2 : ev P (lnOf tab) (.bin .add (.var 11) (.list [(.bin .mod (.bin .mul (.var 12) (.var 4)) (.var 3))])) σ0 = some (.new (M (rs ++ [k * a % n])), σ0) := by
    rw [← M_push]
    exact ev_bin (ev_var rfl) (ev_list (evs1 m1) (by simp)) (mb_cat rfl rfl (by rw [M_length]; (first | lia | omega)) (by simp))
  have st1 := ex_assigns (xs := [10, 11]) (evr_two d4 m2) (puts_two (t := .val (.lst (Fs w n ps))) (u := .val (.lst (M rs))) (by decide) rfl rfl (nl_val _) (nl_val _))
  have c1 : ev P (lnOf tab) (.call 30 [(.var 10), (.var 2)]) σ1 = some (.val (.lst (Fs w n (gapsN n ps'))), σ2) :=
    ev_call (by decide) (evs2 (ev_own (σ := σ1) (i := 10) rfl) (ev_var rfl)) (gaps_spec 4 hw hw' h5 hn (by (first | lia | omega)) hsort)
  have st2 := ex_assign c1 (x := 9) (t := .val (.lst (Fs w n gs))) rfl (nl_val _)
  have c2 : ev P (lnOf tab) (.call 31 [(.var 11), (.var 3), (.var 2)]) σ3 = some (.val (.lst (Fs w n (dueN n (rs ++ [k * a % n])))), σ4) :=
    ev_call (by decide) (evs3 (ev_own (σ := σ3) (i := 11) rfl) (ev_var rfl) (ev_var rfl)) (due_spec 9 hw hw' (by (first | lia | omega)) (by (first | lia | omega)) (by rw [List.length_append]; simp only [List.length_cons, List.length_nil]; (first | lia | omega)) hup (fun y hy => by have := hbd y hy; (first | lia | omega)))
  have c3 : ev P (lnOf tab) (.call 32 [(.var 9), (.var 2)]) σ4 = some (.val (.bool true), σ4) :=
    ev_call (by decide) (evs2 (ev_var rfl) (ev_var rfl)) (three_spec 5 hw hw' h5 hn (by rw [gapsN_len, hps', List.length_append, List.length_append, List.length_take, List.length_drop]; simp only [List.length_cons, List.length_nil]; (first | lia | omega)) hgb hthree)
  have t1 : ev P (lnOf tab) (.cmp .ne (.var 9) (.call 31 [(.var 11), (.var 3), (.var 2)])) σ3 = some (.val (.bool false), σ4) :=
    ev_cmp (ev_var rfl) c2 (eqv_nes (by (first | lia | omega)) (by (first | lia | omega)) hdue)
  have t2 := ev_or_f t1 (ev_not c3)
  show exs P _ _ σ0 = some (.next, σ4)
  rw [exs_step st1]
  show exs P _ _ σ1 = some (.next, σ4)
  rw [exs_step st2]
  show exs P _ _ σ3 = some (.next, σ4)
  rw [exs_step (ex_if_f t2 exs_nil), exs_nil]
end
end Mine

end
-- PureW
section
set_option autoImplicit false
set_option maxRecDepth 100000
set_option linter.all false
set_option backward.match.sparseCases false
set_option bootstrap.genMatcherCode false
namespace Mine

theorem exs_app {P : Fns} {ln : Nat → Bool} {l2 : List IS} : ∀ {l1 : List IS} {σ σ₁ : Store}, exs P ln l1 σ = some (.next, σ₁) → exs P ln (l1 ++ l2) σ = exs P ln l2 σ₁
  | [], σ, σ₁, h => by rw [exs] at h; cases h; rfl
  | s :: r, σ, σ₁, h => by
    rw [exs] at h
    rw [List.cons_append, exs]
    split at h
    · rename_i σ₂ e
      exact exs_app h
    · rename_i hne
      exact absurd h (hne _)

theorem rsN_len (n a : Nat) : ∀ k, (rsN n a k).length = k + 1
  | 0 => rfl
  | k + 1 => by rw [rsN, List.length_append, rsN_len n a k]; rfl
theorem gaps_le {n : Nat} : ∀ {l : List Nat}, sortedN n l = true → ∀ y ∈ gapsN n l, y ≤ n
  | [], _, y, hy => by simp [gapsN] at hy
  | [p], h, y, hy => by simp [gapsN] at hy; (first | lia | omega)
  | p :: q :: r, h, y, hy => by
    have h' := h
    simp only [sortedN, Bool.and_eq_true] at h
    rcases List.mem_cons.mp (by simpa [gapsN] using hy : y ∈ (q - p) :: gapsN n (q :: r)) with rfl | hy
    · have := sortedN_le h.2 q (List.mem_cons_self ..); (first | lia | omega)
    · exact gaps_le h.2 y hy

section
variable {w n : Nat}

theorem order_loop (P : Fns) {a : Nat} (ha : a < 100) (hn : n ≤ 24) (h5 : 5 ≤ n) {A : Store} {B : Store} (hA : A.length = 3) : ∀ (m o fuel : Nat), o + m = n → m < fuel → 1 ≤ o → liveN n a (o - 1) = true →
    ∃ o', 1 ≤ o' ∧ o' ≤ n ∧ liveN n a (o' - 1) = true ∧ whileL (ev P (lnOf tab) (.cmp .gt (.bin .mod (.bin .mul (.var 5) (.var 4)) (.var 3)) (.int 0))) (exs P (lnOf tab) [.assign 5 (.bin .add (.var 5) (.int 1))]) fuel (A ++ (.val (.int (n : Nat)) :: .val (.int (a : Nat)) :: .val (.int (o : Nat)) :: B)) =
      some (.next, A ++ (.val (.int (n : Nat)) :: .val (.int (a : Nat)) :: .val (.int (o' : Nat)) :: B)) := by
  intro m
  have g3 : ∀ o : Nat, (A ++ (Slot.val (.int (n : Nat)) :: .val (.int (a : Nat)) :: .val (.int (o : Nat)) :: B))[3]? = some (.val (.int (n : Nat))) := fun o => by rw [List.getElem?_append_right (by (first | lia | omega)), hA]; rfl
  have g4 : ∀ o : Nat, (A ++ (Slot.val (.int (n : Nat)) :: .val (.int (a : Nat)) :: .val (.int (o : Nat)) :: B))[4]? = some (.val (.int (a : Nat))) := fun o => by rw [List.getElem?_append_right (by (first | lia | omega)), hA]; rfl
  have g5 : ∀ o : Nat, (A ++ (Slot.val (.int (n : Nat)) :: .val (.int (a : Nat)) :: .val (.int (o : Nat)) :: B))[5]? = some (.val (.int (o : Nat))) := fun o => by rw [List.getElem?_append_right (by (first | lia | omega)), hA]; rfl
  have test : ∀ o : Nat, o ≤ 24 → ev P (lnOf tab) (.cmp .gt (.bin .mod (.bin .mul (.var 5) (.var 4)) (.var 3)) (.int 0)) (A ++ (.val (.int (n : Nat)) :: .val (.int (a : Nat)) :: .val (.int (o : Nat)) :: B)) = some (.val (.bool (Nat.blt 0 (o * a % n))), A ++ (.val (.int (n : Nat)) :: .val (.int (a : Nat)) :: .val (.int (o : Nat)) :: B)) := fun o ho =>
    ev_cmp (ev_bin (ev_bin (ev_var (g5 o)) (ev_var (g4 o)) (mb_int (c := ((o * a : Nat) : Int)) (by rw [ib_mul (small_nat (by (first | lia | omega))) (small_nat (by (first | lia | omega)))]; push_cast; rfl))) (ev_var (g3 o)) (mb_int (ib_mod (by (first | lia | omega))))) ev_int (mc_gt' _ _ (by rw [blt_dec, decide_eq_decide]; (first | lia | omega)))
  induction m with
  | zero =>
    intro o fuel h1 h2 h3 h4
    obtain ⟨f, rfl⟩ : ∃ f, fuel = f + 1 := ⟨fuel - 1, by (first | lia | omega)⟩
    have ho : o = n := by (first | lia | omega)
    refine ⟨o, h3, by (first | lia | omega), h4, ?_⟩
    have t := test o (by (first | lia | omega))
    have : Nat.blt 0 (o * a % n) = false := by
      rw [ho, Nat.mul_mod_right]; rfl
    rw [this] at t
    rw [while_false t]
  | succ m ih =>
    intro o fuel h1 h2 h3 h4
    obtain ⟨f, rfl⟩ : ∃ f, fuel = f + 1 := ⟨fuel - 1, by (first | lia | omega)⟩
    have t := test o (by (first | lia | omega))
    cases hb : Nat.blt 0 (o * a % n) with
    | false =>
      rw [hb] at t
      exact ⟨o, h3, by (first | lia | omega), h4, by rw [while_false t]⟩
    | true =>
      rw [hb] at t
      have st : exs P (lnOf tab) [.assign 5 (.bin .add (.var 5) (.int 1))] (A ++ (.val (.int (n : Nat)) :: .val (.int (a : Nat)) :: .val (.int (o : Nat)) :: B)) = some (.next, A ++ (.val (.int (n : Nat)) :: .val (.int (a : Nat)) :: .val (.int ((o + 1 : Nat))) :: B)) := by
        rw [exs_step (ex_assign (ev_bin (o := .add) (ev_var (g5 o)) ev_int (mb_int (c := ((o + 1 : Nat) : Int)) rfl)) (g5 o) (nl_val _)), exs_nil]
        rw [List.set_append_right _ _ (by (first | lia | omega)), hA]
        rfl
      rw [while_true t st]
      refine ih (o + 1) f (by (first | lia | omega)) (by (first | lia | omega)) (by (first | lia | omega)) ?_
      rw [show o + 1 - 1 = (o - 1) + 1 by (first | lia | omega), liveN, show o - 1 + 1 = o by (first | lia | omega), hb, h4]
      rfl

theorem live_le {a : Nat} : ∀ {m k : Nat}, liveN n a m = true → k ≤ m → liveN n a k = true
  | 0, k, h, hk => by rw [show k = 0 by (first | lia | omega)]; rfl
  | m + 1, k, h, hk => by
    rcases Nat.lt_or_ge k (m + 1) with q | q
    · simp only [liveN, Bool.and_eq_true] at h
      exact live_le h.2 (by (first | lia | omega))
    · rw [show k = m + 1 by (first | lia | omega)]; exact h

noncomputable def tA : List IS := [.assign 8 (.call 17 [(.var 8), (.var 7), (.var 2), (.fn 20), (.fn 26)]), .ite (.cmp .ge (.call 19 [(.var 8), (.var 6), (.var 2), (.fn 20)]) (.int 0)) [.assign 8 (.call 18 [(.var 8), (.var 6), (.var 2), (.fn 20), (.fn 26)])] [],
      .ite (.cmp .ne (.var 8) (.call 29 [(.bin .mod (.bin .mul (.var 12) (.var 4)) (.var 3)), (.var 3), (.var 2)])) [.ret (.bool false)] []]
noncomputable def tB : List IS := [.assign 13 (.len (.compIf (.var 16) (.cmp .lt (.call 19 [(.var 16), (.var 8), (.var 2), (.fn 20)]) (.int 0)) (.seq (.var 10)))),
      .ite (.cmp .ne (.compIf (.var 16) (.cmp .gt (.call 19 [(.var 16), (.idxv 9 (.bin .sub (.var 13) (.int 1))), (.var 2), (.fn 20)]) (.int 0)) (.seq (.var 9))) (.list [])) [.ret (.bool false)] []]
noncomputable def tC : List IS := [.assigns [10, 11] [(.bin .add (.bin .add (.slicev 10 .none (.var 13)) (.list [(.var 8)])) (.slicev 10 (.var 13) .none)), (.bin .add (.var 11) (.list [(.bin .mod (.bin .mul (.var 12) (.var 4)) (.var 3))]))], .assign 9 (.call 30 [(.var 10), (.var 2)]),
      .ite (.or (.cmp .ne (.var 9) (.call 31 [(.var 11), (.var 3), (.var 2)])) (.not (.call 32 [(.var 9), (.var 2)]))) [.ret (.bool false)] []]

theorem main_loop (hw : 3 ≤ w) (hw' : w < 9) (h5 : 5 ≤ n) (hn : n ≤ 24) {S : MV} {a o mm : Nat} (ha : a < n) (ha0 : 0 < a) (hm1 : 1 ≤ mm) (hm6 : mm ≤ 6) (hmo : mm ≤ o) (hlive : liveN n a (o - 1) = true) {s1 s9 s10 s11 s12 s13 s14 s15 : Slot}
    (b9 : Bears w n s9 [n]) (b10 : Bears w n s10 [0]) (b11 : BearsM s11 [0]) (n1 : NotLent s1) (n12 : NotLent s12) (n13 : NotLent s13) (n14 : NotLent s14) (n15 : NotLent s15) :
    ∃ σ', forL 12 (exs (Phi tab 12) (lnOf tab) (tA ++ (tB ++ tC))) (rangeUp (1 : Nat) (mm : Nat)) (sl w n S s1 a o 0 s9 s10 s11 s12 s13 s14 s15) = some (.next, σ') ∧
      ∃ (s1 s9 s10 s11 s12 s13 s14 s15 : Slot) (x : Nat) (gs : List Nat), σ' = sl w n S s1 a o x s9 s10 s11 s12 s13 s14 s15 ∧ Bears w n s9 gs ∧ gs.length ≤ 7 ∧ sumN gs = n ∧ (∀ y ∈ gs, y ≤ n) ∧ NotLent s14 ∧ NotLent s15 := by
  let I : Nat → Store → Prop := fun k σ => ∃ (s1 s9 s10 s11 s12 s13 s14 s15 : Slot), σ = sl w n S s1 a o ((k - 1) * a % n) s9 s10 s11 s12 s13 s14 s15 ∧ Bears w n s9 (gapsN n (psN n a (k - 1))) ∧ Bears w n s10 (psN n a (k - 1)) ∧ BearsM s11 (rsN n a (k - 1)) ∧ NotLent s1 ∧ NotLent s12 ∧ NotLent s13 ∧ NotLent s14 ∧ NotLent s15
  have rest : ∀ k, k < mm → sortedN n (psN n a k) = true ∧ sumN (gapsN n (psN n a k)) = n ∧ (psN n a k).length = k + 1 := by
    intro k hk
    have := rest_ok h5 hn ha ha0 (k := k) (by (first | lia | omega)) (live_le hlive (by (first | lia | omega)))
    simp only [restOk, Bool.and_eq_true] at this
    exact ⟨this.1.1, Nat.eq_of_beq_eq_true this.1.2, Nat.eq_of_beq_eq_true this.2⟩
  obtain ⟨σ', e1, hI⟩ := for_up (x := 12) (a := 1) (b := mm) (body := exs (Phi tab 12) (lnOf tab) (tA ++ (tB ++ tC))) I hm1 (by
    rintro k σ hk1 hkm ⟨s1, s9, s10, s11, s12, s13, s14, s15, rfl, b9, b10, b11, n1, n12, n13, n14, n15⟩
    obtain ⟨j, rfl⟩ : ∃ j, k = j + 1 := ⟨k - 1, by (first | lia | omega)⟩
    rw [show j + 1 - 1 = j by (first | lia | omega)] at *
    obtain ⟨r1, r2, r3⟩ := rest j (by (first | lia | omega))
    obtain ⟨t1, t2, t3⟩ := rest (j + 1) hkm
    have F := step_facts (step_ok h5 hn ha ha0 (k := j) (by (first | lia | omega)) (live_le hlive (by (first | lia | omega))))
    obtain ⟨m, g, hm, hg, hbig⟩ := F.big
    have hx : j * a % n < n := Nat.mod_lt _ (by (first | lia | omega))
    have hx' : (j + 1) * a % n < n := Nat.mod_lt _ (by (first | lia | omega))
    have u1 := turn1 (S := S) (s1 := s1) (s9 := s9) (s10 := s10) (s11 := s11) (s13 := s13) (s14 := s14) (s15 := s15) (o := o) hw hw' h5 hn ha hx F.next (k := j + 1) rfl (by (first | lia | omega))
    obtain ⟨s1', s14', s15', n1', n14', n15', u2⟩ := turn2 (S := S) (a := a) (o := o) (k := j + 1) hw hw' h5 hn b9 b10 b11 n1 n13 n14 n15 (by rw [gapsN_len]; (first | lia | omega)) (by (first | lia | omega)) (gaps_le r1) (sortedN_le r1) hx' hm hg hbig
    have u3 := turn3 (S := S) (s1 := s1') (s14 := s14') (s15 := s15') (o := o) (k := j + 1) (m := m + 1) (x := (j + 1) * a % n) (gs := gapsN n (psN n a j)) (ps := psN n a j) (rs := rsN n a j) (ps' := psN n a (j + 1)) hw hw' h5 hn (by (first | lia | omega)) (by rw [rsN_len]; (first | lia | omega)) ha (by (first | lia | omega))
      (by rw [psN, hm]) t1 F.due F.three F.up F.bound (gaps_le t1)
    refine ⟨sl w n S s1 a o (j * a % n) s9 s10 s11 (.val (.int ((j + 1 : Nat)))) s13 s14 s15, 
      sl w n S s1' a o ((j + 1) * a % n) (.val (.lst (Fs w n (gapsN n (psN n a (j + 1)))))) (.val (.lst (Fs w n (psN n a (j + 1))))) (.val (.lst (M (rsN n a (j + 1))))) (.val (.int ((j + 1 : Nat)))) (.val (.int ((m + 1 : Nat)))) s14' s15', put_at (t := s12) rfl n12, ?_,
      s1', .val (.lst (Fs w n (gapsN n (psN n a (j + 1))))), .val (.lst (Fs w n (psN n a (j + 1)))), .val (.lst (M (rsN n a (j + 1)))), .val (.int ((j + 1 : Nat))), .val (.int ((m + 1 : Nat))), s14', s15', rfl, ?_⟩
    · rw [exs_app (l1 := tA) u1, exs_app (l1 := tB) u2]
      exact u3
    · exact ⟨.inr rfl, .inr rfl, .inr rfl, n1', nl_val _, nl_val _, n14', n15'⟩)
    (σ := sl w n S s1 a o 0 s9 s10 s11 s12 s13 s14 s15) ⟨s1, s9, s10, s11, s12, s13, s14, s15, by simp, by simpa [psN, gapsN] using b9, by simpa [psN] using b10, by simpa [rsN] using b11, n1, n12, n13, n14, n15⟩
  refine ⟨σ', e1, ?_⟩
  obtain ⟨s1, s9, s10, s11, s12, s13, s14, s15, h0, b9, b10, b11, n1, n12, n13, n14, n15⟩ := hI
  obtain ⟨r1, r2, r3⟩ := rest (mm - 1) (by (first | lia | omega))
  exact ⟨s1, s9, s10, s11, s12, s13, s14, s15, _, _, h0, b9, by rw [gapsN_len]; (first | lia | omega), r2, gaps_le r1, n14, n15⟩
end
end Mine

end
-- PureX
section
set_option autoImplicit false
set_option maxRecDepth 100000
set_option linter.all false
set_option backward.match.sparseCases false
set_option bootstrap.genMatcherCode false
namespace Mine

theorem evr_three {P : Fns} {ln : Nat → Bool} {a b c : IE} {σ σ₁ σ₂ σ₃ : Store} {x y z : MR} (h1 : ev P ln a σ = some (x, σ₁)) (h2 : ev P ln b σ₁ = some (y, σ₂)) (h3 : ev P ln c σ₂ = some (z, σ₃)) : evr P ln [a, b, c] σ = some ([x, y, z], σ₃) := by
  simp only [evr, h1, h2, h3]
theorem puts_three {σ : Store} {i j k : Nat} {t u v s r q : Slot} (hij : i ≠ j) (hik : i ≠ k) (hjk : j ≠ k) (h1 : σ[i]? = some t) (h2 : σ[j]? = some u) (h3 : σ[k]? = some v) (n1 : NotLent t) (n2 : NotLent u) (n3 : NotLent v) : puts σ [i, j, k] [s, r, q] = some (((σ.set i s).set j r).set k q) := by
  simp only [puts, put_at h1 n1]
  rw [put_at (t := u) (by rw [List.getElem?_set_ne hij]; exact h2) n2]
  simp only
  rw [put_at (t := v) (by rw [List.getElem?_set_ne hjk, List.getElem?_set_ne hik]; exact h3) n3]

section
variable {w n : Nat}
theorem sum_take : ∀ (l : List Nat) (i : Nat), sumN (l.take i) ≤ sumN l
  | [], i => by simp
  | x :: l, 0 => by simp [sumN]
  | x :: l, i + 1 => by have := sum_take l i; simp only [List.take_succ_cons, sumN]; (first | lia | omega)
theorem sum_snoc : ∀ (l : List Nat) (x : Nat), sumN (l ++ [x]) = sumN l + x
  | [], x => by simp [sumN]
  | y :: l, x => by simp only [List.cons_append, sumN, sum_snoc l x]; (first | lia | omega)

theorem sum_loop (hw : 3 ≤ w) (hw' : w < 9) (h5 : 5 ≤ n) (hn : n ≤ 24) {S : MV} {s1 s9 s10 s11 s12 s13 s15 : Slot} {a o x : Nat} {gs : List Nat} (hs : sumN gs = n) (hb : ∀ y ∈ gs, y ≤ n) (n15 : NotLent s15) :
    ∃ s15', forL 15 (exs (Phi tab 12) (lnOf tab) [.assign 14 (.call 17 [(.var 14), (.var 15), (.var 2), (.fn 20), (.fn 26)])]) (Fs w n gs) (sl w n S s1 a o x s9 s10 s11 s12 s13 (.val (Fr w n 0)) s15) = some (.next, sl w n S s1 a o x s9 s10 s11 s12 s13 (.val (Fr w n n)) s15') := by
  let P := Phi tab 12
  let I : Nat → Store → Prop := fun i σ => ∃ s15, NotLent s15 ∧ σ = sl w n S s1 a o x s9 s10 s11 s12 s13 (.val (Fr w n (sumN (gs.take i)))) s15
  obtain ⟨σ', e1, ⟨s15', _, rfl⟩⟩ := for_list (x := 15) (body := exs P (lnOf tab) [.assign 14 (.call 17 [(.var 14), (.var 15), (.var 2), (.fn 20), (.fn 26)])]) I (Fs w n gs)
    (by
      rintro i v σ hv ⟨s15, m15, rfl⟩
      obtain ⟨hi', _⟩ := List.getElem?_eq_some_iff.mp hv
      have hi : i < gs.length := by rw [Fs_len] at hi'; exact hi'
      rw [Fs_get hi] at hv
      cases hv
      have h1 := sum_take gs i
      have h2 := sum_take gs (i + 1)
      have hg := hb gs[i] (List.getElem_mem _)
      have h3 : sumN (gs.take (i + 1)) = sumN (gs.take i) + gs[i] := by rw [List.take_succ_eq_append_getElem hi, sum_snoc]
      let σ1 := sl w n S s1 a o x s9 s10 s11 s12 s13 (.val (Fr w n (sumN (gs.take i)))) (.val (Fr w n gs[i]))
      have c1 : ev P (lnOf tab) (.call 17 [(.var 14), (.var 15), (.var 2), (.fn 20), (.fn 26)]) σ1 = some (.val (Fr w n (sumN (gs.take i) + gs[i])), σ1) :=
        ev_call (by decide) (evs_cons (ev_var rfl) (evs_cons (ev_var rfl) (evs3 (ev_var rfl) ev_fn ev_fn))) (radd_Fr 6 hw hw' h5 hn (by (first | lia | omega)) hg)
      refine ⟨σ1, sl w n S s1 a o x s9 s10 s11 s12 s13 (.val (Fr w n (sumN (gs.take i) + gs[i]))) (.val (Fr w n gs[i])), put_at (t := s15) rfl m15, ?_, .val (Fr w n gs[i]), nl_val _, by rw [h3]⟩
      rw [exs_step (ex_assign c1 (x := 14) (t := .val (Fr w n (sumN (gs.take i)))) rfl (nl_val _)), exs_nil]
      rfl)
    (σ := sl w n S s1 a o x s9 s10 s11 s12 s13 (.val (Fr w n 0)) s15) ⟨s15, n15, rfl⟩
  rw [Fs_len, List.take_length, hs] at e1
  exact ⟨s15', e1⟩

theorem Fr_zero (hw : 3 ≤ w) (h0 : 0 < n) : Fr w n 0 = .tup [.tup [.bool false, .lst []], .lst [.int 1]] := by
  unfold Fr
  have hone : M (N (2 ^ w) 1) = [.int 1] := by rw [N_one (two_le_pow (by (first | lia | omega))) (by (first | lia | omega)) (by have := two_le_pow (show 1 ≤ w by (first | lia | omega)); (first | lia | omega))]; rfl
  rw [Nat.gcd_zero_left, Nat.div_self h0, Nat.zero_div]
  simp only [Rt, Sg, L, hone]
  rfl

theorem law_tail (hw : 3 ≤ w) (hw' : w < 9) (h5 : 5 ≤ n) (hn : n ≤ 24) {S : MV} {sp : List Nat} {a : Nat} (ha : a < n) (ha0 : 0 < a) (hsp : sp.length < 4096) {c : Nat} (hc : c < 100) :
    ∃ σ', exs (Phi tab 12) (lnOf tab) (ir_law.body.drop 3) ([.val S, .own (Wh c sp), .val (.int (w : Nat)), .val (.int (n : Nat)), .val (.int (a : Nat)), .val (.int (1 : Nat)), .val (Fr w n n), .unset, .unset, .unset, .unset, .unset, .unset, .unset, .unset, .unset] : Store) = some (.ret (.bool true), σ') := by
  let P := Phi tab 12
  obtain ⟨o, ho1, hon, hlive, hloop⟩ := order_loop P (n := n) (a := a) (by (first | lia | omega)) hn h5 (A := [.val S, .own (Wh c sp), .val (.int (w : Nat))]) (B := [.val (Fr w n n), .unset, .unset, .unset, .unset, .unset, .unset, .unset, .unset, .unset]) rfl (n - 1) 1 4096 (by (first | lia | omega)) (by (first | lia | omega)) (by (first | lia | omega)) rfl
  let σ1 : Store := [.val S, .own (Wh c sp), .val (.int (w : Nat)), .val (.int (n : Nat)), .val (.int (a : Nat)), .val (.int (o : Nat)), .val (Fr w n n), .unset, .unset, .unset, .unset, .unset, .unset, .unset, .unset, .unset]
  let σ2 := sl w n S (.own (Wh c sp)) a o 0 (.own (Fs w n [n])) .unset .unset .unset .unset .unset .unset
  let σ3 := sl w n S (.own (Wh c sp)) a o 0 (.own (Fs w n [n])) (.own (Fs w n [0])) (.own (M [0])) .unset .unset .unset .unset
  let σ4 := sl w n S (.own (Wh (c + 1) sp)) a o 0 (.own (Fs w n [n])) (.own (Fs w n [0])) (.own (M [0])) .unset .unset .unset .unset
  obtain ⟨r, hr, hroll⟩ := rolled_spec 11 (c := c) (many := 4) (sp := sp) hsp (by (first | lia | omega)) (by (first | lia | omega)) (by (first | lia | omega))
  have x1 : ev P (lnOf tab) (.call 29 [(.var 4), (.var 3), (.var 2)]) σ1 = some (.val (Fr w n a), σ1) := ev_call (by decide) (evs3 (ev_var rfl) (ev_var rfl) (ev_var rfl)) (least_spec 10 hw hw' (by (first | lia | omega)) (by (first | lia | omega)) (by (first | lia | omega)))
  have z0 : ∀ τ : Store, ev P (lnOf tab) (.tup [(.tup [(.bool false), (.list [])]), (.list [(.int 1)])]) τ = some (.val (Fr w n 0), τ) := fun τ => by
    rw [Fr_zero hw (by (first | lia | omega))]
    exact ev_tup (evs2 (ev_tup (evs2 ev_bool (ev_list evs_nil (by simp))) (by simp)) (ev_list (evs1 ev_int) (by simp))) (by simp)
  have x3 : ev P (lnOf tab) (.list [(.var 6)]) σ1 = some (.new (Fs w n [n]), σ1) := ev_list (evs1 (ev_var rfl)) (by simp)
  have st2 := ex_assigns (xs := [7, 8, 9]) (evr_three x1 (z0 σ1) x3) (puts_three (t := .unset) (u := .unset) (v := .unset) (by decide) (by decide) (by decide) rfl rfl rfl nl_unset nl_unset nl_unset)
  have y1 : ev P (lnOf tab) (.list [(.var 8)]) σ2 = some (.new (Fs w n [0]), σ2) := ev_list (evs1 (ev_var rfl)) (by simp)
  have y2 : ev P (lnOf tab) (.list [(.int 0)]) σ2 = some (.new (M [0]), σ2) := ev_list (evs1 ev_int) (by simp)
  have st3 := ex_assigns (xs := [10, 11]) (evr_two y1 y2) (puts_two (t := .unset) (u := .unset) (by decide) rfl rfl nl_unset nl_unset)
  have r1 : ev P (lnOf tab) (.lend 27 1 [(.int 4)]) σ3 = some (.val (.int (r : Nat)), σ4) := ev_lend (by decide) rfl (evs1 ev_int) rfl hroll
  obtain ⟨mm, hmm⟩ : ∃ m, m = min o (3 + r) := ⟨_, rfl⟩
  have r2 : ev P (lnOf tab) (.min (.var 5) (.bin .add (.int 3) (.lend 27 1 [(.int 4)]))) σ3 = some (.val (.int (mm : Nat)), σ4) := by
    refine ev_min (ev_var (d := .int (o : Nat)) rfl) (ev_bin ev_int r1 (mb_int (c := ((3 + r : Nat) : Int)) (by rw [ib_add]; push_cast; rfl))) ?_
    rw [hmm]
    rcases Nat.le_total o (3 + r) with q | q
    · rw [Nat.min_eq_left q, if_neg (by (first | lia | omega))]
    · rw [Nat.min_eq_right q]
      split
      · rfl
      · (first | lia | omega)
  have hm1 : 1 ≤ mm := by (first | lia | omega)
  have r3 : evt P (lnOf tab) (.range2 (.int 1) (.min (.var 5) (.bin .add (.int 3) (.lend 27 1 [(.int 4)])))) σ3 = some (rangeUp (1 : Nat) (mm : Nat), σ4) := by
    rw [evt, ev_int]
    simp only [r2]
    have q1 : ((mm : Nat) : Int) - 1 < 4096 := by (first | lia | omega)
    have q2 : (-4096 : Int) < (mm : Nat) := by (first | lia | omega)
    have q3 : ((mm : Nat) : Int) < 4096 := by (first | lia | omega)
    rw [decide_eq_true q1, decide_eq_true q2, decide_eq_true q3]
    rfl
  obtain ⟨σ5, e5, ⟨s1, s9, s10, s11, s12, s13, s14, s15, x, gs, rfl, b9, hgl, hsum, hgb, n14, n15⟩⟩ := main_loop (S := S) (s1 := .own (Wh (c + 1) sp)) (s9 := .own (Fs w n [n])) (s10 := .own (Fs w n [0])) (s11 := .own (M [0])) (s12 := .unset) (s13 := .unset) (s14 := .unset) (s15 := .unset) hw hw' h5 hn ha ha0 hm1 (by (first | lia | omega)) (by (first | lia | omega)) hlive (.inl rfl) (.inl rfl) (.inl rfl) (nl_own _) nl_unset nl_unset nl_unset nl_unset
  let σ6 := sl w n S s1 a o x s9 s10 s11 s12 s13 (.val (Fr w n 0)) s15
  let σ7 := sl w n S s1 a o x (.val (.lst (Fs w n gs))) s10 s11 s12 s13 (.val (Fr w n 0)) s15
  obtain ⟨s15', e6⟩ := sum_loop (S := S) (s1 := s1) (s9 := .val (.lst (Fs w n gs))) (s10 := s10) (s11 := s11) (s12 := s12) (s13 := s13) (a := a) (o := o) (x := x) hw hw' h5 hn hsum hgb n15
  let σ8 := sl w n S s1 a o x (.val (.lst (Fs w n gs))) s10 s11 s12 s13 (.val (Fr w n n)) s15'
  have v9 : evt P (lnOf tab) (.seq (.var 9)) σ6 = some (Fs w n gs, σ7) := evt_seq (ev_bears (σ := σ6) rfl b9) rfl (by rw [Fs_len]; (first | lia | omega))
  refine ⟨σ8, ?_⟩
  unfold ir_law
  simp only [List.drop_succ_cons, List.drop_zero]
  rw [exs_step (σ₁ := σ1) (by rw [ex]; exact hloop)]
  rw [exs_step st2]
  show exs P _ _ σ2 = _
  rw [exs_step st3]
  show exs P _ _ σ3 = _
  simp only [tA, tB, tC, List.cons_append, List.nil_append] at e5
  rw [exs_step (ex_for1 r3 (by rw [rangeUp_nat, List.length_map, List.length_range]; (first | lia | omega)) e5)]
  rw [exs_step (ex_assign (z0 _) (x := 14) (t := s14) rfl n14)]
  show exs P _ _ σ6 = _
  rw [exs_step (ex_for1 v9 (by rw [Fs_len]; (first | lia | omega)) e6)]
  have p : ∀ x, MV.plain 8 (Fr w n x) = true := plain_Fr 5
  have t9 : ev P (lnOf tab) (.cmp .eq (.var 14) (.var 6)) σ8 = some (.val (.bool true), σ8) := by
    refine ev_cmp (ev_var rfl) (ev_var rfl) ?_
    show (if MV.plain 8 (Fr w n n) && MV.plain 8 (Fr w n n) then some (MV.eqv (Fr w n n) (Fr w n n)) else none) = _
    rw [p, eqv_Fr (by (first | lia | omega)) (by (first | lia | omega)), decide_eq_true rfl]
    rfl
  exact exs_ret (ex_ret t9)
end

theorem law_pure (ns : List Int) (hl : ns.length ≤ 63) : Phi tab 13 33 [.lst (ns.map MV.int)] = some (.bool true, []) := by
  rw [phi_succ 12 33 _ (fd := ir_law) rfl]
  let P := Phi tab 12
  let S : MV := .lst (ns.map MV.int)
  obtain ⟨sp, hsp⟩ : ∃ sp, sp = (ns.take 4).map Int.natAbs := ⟨_, rfl⟩
  have hspl : sp.length < 4096 := by rw [hsp, List.length_map, List.length_take]; (first | lia | omega)
  have hSl : (ns.map MV.int).length < 4096 := by rw [List.length_map]; (first | lia | omega)
  let σ0 : Store := [.val S, .unset, .unset, .unset, .unset, .unset, .unset, .unset, .unset, .unset, .unset, .unset, .unset, .unset, .unset, .unset]
  obtain ⟨r1, hr1, p1⟩ := rolled_spec 11 (c := 0) (many := 6) (sp := sp) hspl (by (first | lia | omega)) (by (first | lia | omega)) (by (first | lia | omega))
  obtain ⟨r2, hr2, p2⟩ := rolled_spec 11 (c := 1) (many := 20) (sp := sp) hspl (by (first | lia | omega)) (by (first | lia | omega)) (by (first | lia | omega))
  obtain ⟨w, hw⟩ : ∃ w, w = 3 + r1 := ⟨_, rfl⟩
  obtain ⟨n, hn⟩ : ∃ n, n = 5 + r2 := ⟨_, rfl⟩
  obtain ⟨r3, hr3, p3⟩ := rolled_spec 11 (c := 2) (many := n - 1) (sp := sp) hspl (by (first | lia | omega)) (by (first | lia | omega)) (by (first | lia | omega))
  obtain ⟨a, ha⟩ : ∃ a, a = 1 + r3 := ⟨_, rfl⟩
  obtain ⟨σ', htail⟩ := law_tail (w := w) (n := n) (S := S) (sp := sp) (a := a) (by (first | lia | omega)) (by (first | lia | omega)) (by (first | lia | omega)) (by (first | lia | omega)) (by (first | lia | omega)) (by (first | lia | omega)) hspl (c := 3) (by (first | lia | omega))
  -- the wheel
  have x1 : evt P (lnOf tab) (.seq (.slicev 0 .none (.int 4))) σ0 = some ((ns.take 4).map MV.int, σ0) := by
    have := evt_seq (P := P) (ln := lnOf tab) (σ := σ0) (ev_slice_to (j := 0) (y := 4) (s := .val S) (l := ns.map MV.int) rfl ev_int rfl rfl hSl) rfl (by rw [List.length_take]; (first | lia | omega))
    rw [← List.map_take] at this
    exact this
  have x2 : ev P (lnOf tab) (.comp (.abs (.toInt (.var 16))) (.seq (.slicev 0 .none (.int 4)))) σ0 = some (.new (M sp), σ0) := by
    have := ev_comp (P := P) (ln := lnOf tab) (elt := .abs (.toInt (.var 16))) (ds := (ns.take 4).map fun z => MV.int ((z.natAbs : Nat) : Int)) x1 (by rw [short_len, List.length_map, List.length_take]; (first | lia | omega)) (by
      refine compL_map (fun z : Int => MV.int ((z.natAbs : Nat) : Int)) _ _ (by simp) fun i v z hv hz => ?_
      rw [List.getElem?_map, hz] at hv
      cases hv
      have t1 : ev P (lnOf tab) (.toInt (.var 16)) ((σ0.map calm).map hide ++ [.val (.int z)]) = some (.val (.int z), (σ0.map calm).map hide ++ [.val (.int z)]) := by
        rw [ev, ev_var (d := .int z) rfl]
      have t2 : ev P (lnOf tab) (.abs (.toInt (.var 16))) ((σ0.map calm).map hide ++ [.val (.int z)]) = some (.val (.int ((z.natAbs : Nat) : Int)), (σ0.map calm).map hide ++ [.val (.int z)]) := by
        rw [ev, t1]
        have : (if z < 0 then -z else z) = ((z.natAbs : Nat) : Int) := by split <;> (first | lia | omega)
        simp only [this]
      rw [t2]
      rfl)
    rw [this, hsp, M, List.map_map]
    rfl
  have x3 : ev P (lnOf tab) (.list [(.int 0), (.comp (.abs (.toInt (.var 16))) (.seq (.slicev 0 .none (.int 4))))]) σ0 = some (.new (Wh 0 sp), σ0) := ev_list (evs2 ev_int x2) (by simp)
  let σ1 : Store := [.val S, .own (Wh 0 sp), .unset, .unset, .unset, .unset, .unset, .unset, .unset, .unset, .unset, .unset, .unset, .unset, .unset, .unset]
  let σ1' : Store := [.val S, .own (Wh 1 sp), .unset, .unset, .unset, .unset, .unset, .unset, .unset, .unset, .unset, .unset, .unset, .unset, .unset, .unset]
  let σ1'' : Store := [.val S, .own (Wh 2 sp), .unset, .unset, .unset, .unset, .unset, .unset, .unset, .unset, .unset, .unset, .unset, .unset, .unset, .unset]
  let σ2 : Store := [.val S, .own (Wh 2 sp), .val (.int (w : Nat)), .val (.int (n : Nat)), .unset, .unset, .unset, .unset, .unset, .unset, .unset, .unset, .unset, .unset, .unset, .unset]
  let σ2' : Store := [.val S, .own (Wh 3 sp), .val (.int (w : Nat)), .val (.int (n : Nat)), .unset, .unset, .unset, .unset, .unset, .unset, .unset, .unset, .unset, .unset, .unset, .unset]
  let σ3 : Store := [.val S, .own (Wh 3 sp), .val (.int (w : Nat)), .val (.int (n : Nat)), .val (.int (a : Nat)), .val (.int (1 : Nat)), .val (Fr w n n), .unset, .unset, .unset, .unset, .unset, .unset, .unset, .unset, .unset]
  have y1 : ev P (lnOf tab) (.lend 27 1 [(.int 6)]) σ1 = some (.val (.int (r1 : Nat)), σ1') := ev_lend (by decide) rfl (evs1 ev_int) rfl p1
  have y2 : ev P (lnOf tab) (.lend 27 1 [(.int 20)]) σ1' = some (.val (.int (r2 : Nat)), σ1'') := ev_lend (by decide) rfl (evs1 ev_int) rfl p2
  have y3 : ev P (lnOf tab) (.bin .add (.int 3) (.lend 27 1 [(.int 6)])) σ1 = some (.val (.int (w : Nat)), σ1') := ev_bin ev_int y1 (mb_int (by rw [ib_add, hw]; push_cast; rfl))
  have y4 : ev P (lnOf tab) (.bin .add (.int 5) (.lend 27 1 [(.int 20)])) σ1' = some (.val (.int (n : Nat)), σ1'') := ev_bin ev_int y2 (mb_int (by rw [ib_add, hn]; push_cast; rfl))
  have st2 := ex_assigns (xs := [2, 3]) (evr_two y3 y4) (puts_two (t := .unset) (u := .unset) (by decide) rfl rfl nl_unset nl_unset)
  have z1 : ev P (lnOf tab) (.bin .sub (.var 3) (.int 1)) σ2 = some (.val (.int ((n - 1 : Nat))), σ2) := ev_bin (ev_var (d := .int (n : Nat)) rfl) ev_int (mb_int (by rw [ib_sub]; exact congrArg some (by (first | lia | omega))))
  have z2 : ev P (lnOf tab) (.lend 27 1 [(.bin .sub (.var 3) (.int 1))]) σ2 = some (.val (.int (r3 : Nat)), σ2') := ev_lend (by decide) rfl (evs1 z1) rfl p3
  have z3 : ev P (lnOf tab) (.bin .add (.int 1) (.lend 27 1 [(.bin .sub (.var 3) (.int 1))])) σ2 = some (.val (.int (a : Nat)), σ2') := ev_bin ev_int z2 (mb_int (by rw [ib_add, ha]; push_cast; rfl))
  have z4 : ev P (lnOf tab) (.tup [(.tup [(.bool false), (.list [(.int 1)])]), (.list [(.int 1)])]) σ2' = some (.val (Fr w n n), σ2') := by
    rw [Fr_one (by (first | lia | omega)) (by (first | lia | omega))]
    have o1 : ev P (lnOf tab) (.list [(.int 1)]) σ2' = some (.new [.int 1], σ2') := ev_list (evs1 ev_int) (by simp)
    exact ev_tup (evs2 (ev_tup (evs2 ev_bool o1) (by simp)) o1) (by simp)
  have st3 := ex_assigns (xs := [4, 5, 6]) (evr_three z3 (ev_int (i := 1)) z4) (puts_three (t := .unset) (u := .unset) (v := .unset) (by decide) (by decide) (by decide) rfl rfl rfl nl_unset nl_unset nl_unset)
  refine run_plain (σ₁ := σ') rfl (by decide) rfl ?_
  show exs P _ ir_law.body σ0 = _
  have split : ir_law.body = ir_law.body.take 3 ++ ir_law.body.drop 3 := (List.take_append_drop 3 _).symm
  rw [split]
  have first : exs P (lnOf tab) (ir_law.body.take 3) σ0 = some (.next, σ3) := by
    unfold ir_law
    simp only [List.take_succ_cons, List.take_zero]
    rw [exs_step (ex_assign x3 (t := .unset) rfl nl_unset)]
    show exs P _ _ σ1 = _
    rw [exs_step st2]
    show exs P _ _ σ2 = _
    rw [exs_step st3, exs_nil]
    rfl
  rw [exs_app first]
  exact htail
end Mine

end
-- SimA
section
set_option autoImplicit false
set_option maxRecDepth 100000
set_option bootstrap.genMatcherCode false
namespace Mine
open PySem PySem.Calls PyProof.Rows

noncomputable abbrev listO (vs : Array Value) (n : Nat) : Obj := { cls := .type "list", data := .seq vs n }
noncomputable abbrev tupO (vs : Array Value) (n : Nat) : Obj := { cls := .type "tuple", data := .seq vs n }
noncomputable abbrev Fz := Addr → Option Obj
noncomputable abbrev NM := Str → Option Value

section
variable (mg : NM) (fns : List Str) (F : Fz)
mutual
inductive Rep : Value → MV → Prop
  | none : Rep .none .none
  | bool (b : Bool) : Rep (.bool b) (.bool b)
  | int (i : Int) (t : Tok) : Rep (.int i t) (.int i)
  | tup {a : Addr} {vs : List Value} {n : Nat} {ds : List MV} : F a = some (tupO vs.toArray n) → Reps vs ds → Rep (.ref a) (.tup ds)
  | lst {a : Addr} {vs : List Value} {n : Nat} {ds : List MV} : F a = some (listO vs.toArray n) → Reps vs ds → Rep (.ref a) (.lst ds)
  | fn {a : Addr} {f : Nat} {x : Str} : fns[f]? = some x → mg x = some (.ref a) → Rep (.ref a) (.fn f)
inductive Reps : List Value → List MV → Prop
  | nil : Reps [] []
  | cons {v : Value} {vs : List Value} {d : MV} {ds : List MV} : Rep v d → Reps vs ds → Reps (v :: vs) (d :: ds)
end
end

section
variable {mg : NM} {fns : List Str} {F F' : Fz}
mutual
theorem Rep.mono (h : ∀ a o, F a = some o → F' a = some o) : ∀ {v : Value} {d : MV}, Rep mg fns F v d → Rep mg fns F' v d
  | _, _, .none => .none
  | _, _, .bool b => .bool b
  | _, _, .int i t => .int i t
  | _, _, .tup e r => .tup (h _ _ e) (Reps.mono h r)
  | _, _, .lst e r => .lst (h _ _ e) (Reps.mono h r)
  | _, _, .fn e r => .fn e r
theorem Reps.mono (h : ∀ a o, F a = some o → F' a = some o) : ∀ {v : List Value} {d : List MV}, Reps mg fns F v d → Reps mg fns F' v d
  | _, _, .nil => .nil
  | _, _, .cons e r => .cons (Rep.mono h e) (Reps.mono h r)
end
theorem Reps.length : ∀ {v : List Value} {d : List MV}, Reps mg fns F v d → v.length = d.length
  | _, _, .nil => rfl
  | _, _, .cons _ r => by rw [List.length_cons, List.length_cons, r.length]
theorem Reps.append : ∀ {v v' : List Value} {d d' : List MV}, Reps mg fns F v d → Reps mg fns F v' d' → Reps mg fns F (v ++ v') (d ++ d')
  | _, _, _, _, .nil, h => h
  | _, _, _, _, .cons e r, h => .cons e (r.append h)
theorem Reps.get : ∀ {v : List Value} {d : List MV}, Reps mg fns F v d → ∀ {k : Nat} {x : MV}, d[k]? = some x → ∃ u, v[k]? = some u ∧ Rep mg fns F u x
  | _, _, .nil, k, x, h => by simp at h
  | _, _, .cons e r, 0, x, h => by simp at h; subst h; exact ⟨_, rfl, e⟩
  | _, _, .cons e r, k + 1, x, h => by
    simp only [List.getElem?_cons_succ] at h
    obtain ⟨u, hu, hr⟩ := r.get h
    exact ⟨u, by simpa using hu, hr⟩
theorem Reps.take : ∀ {v : List Value} {d : List MV} (k : Nat), Reps mg fns F v d → Reps mg fns F (v.take k) (d.take k)
  | _, _, 0, _ => by simp; exact .nil
  | _, _, k + 1, .nil => .nil
  | _, _, k + 1, .cons e r => by rw [List.take_succ_cons, List.take_succ_cons]; exact .cons e (r.take k)
theorem Reps.drop : ∀ {v : List Value} {d : List MV} (k : Nat), Reps mg fns F v d → Reps mg fns F (v.drop k) (d.drop k)
  | _, _, 0, h => h
  | _, _, k + 1, .nil => .nil
  | _, _, k + 1, .cons e r => by rw [List.drop_succ_cons, List.drop_succ_cons]; exact r.drop k
theorem Reps.set : ∀ {v : List Value} {d : List MV} (k : Nat) {u : Value} {x : MV}, Reps mg fns F v d → Rep mg fns F u x → Reps mg fns F (v.set k u) (d.set k x)
  | _, _, _, _, _, .nil, _ => .nil
  | _, _, 0, _, _, .cons _ r, h => .cons h r
  | _, _, k + 1, _, _, .cons e r, h => .cons e (r.set k h)
theorem Reps.replicate {v : List Value} {d : List MV} (h : Reps mg fns F v d) : ∀ n : Nat, Reps mg fns F (List.replicate n v).flatten (List.replicate n d).flatten
  | 0 => by simp; exact .nil
  | n + 1 => by rw [List.replicate_succ, List.replicate_succ, List.flatten_cons, List.flatten_cons]; exact h.append (h.replicate n)
theorem Rep.int_inv {v : Value} {i : Int} (h : Rep mg fns F v (.int i)) : ∃ t, v = .int i t := by cases h; exact ⟨_, rfl⟩
theorem Rep.bool_inv {v : Value} {b : Bool} (h : Rep mg fns F v (.bool b)) : v = .bool b := by cases h; rfl
theorem Rep.none_inv {v : Value} (h : Rep mg fns F v .none) : v = .none := by cases h; rfl
theorem Rep.lst_inv {v : Value} {l : List MV} (h : Rep mg fns F v (.lst l)) : ∃ a vs n, v = .ref a ∧ F a = some (listO vs.toArray n) ∧ Reps mg fns F vs l := by
  cases h with
  | lst e r => exact ⟨_, _, _, rfl, e, r⟩
theorem Rep.tup_inv {v : Value} {l : List MV} (h : Rep mg fns F v (.tup l)) : ∃ a vs n, v = .ref a ∧ F a = some (tupO vs.toArray n) ∧ Reps mg fns F vs l := by
  cases h with
  | tup e r => exact ⟨_, _, _, rfl, e, r⟩
theorem Rep.fn_inv {v : Value} {f : Nat} (h : Rep mg fns F v (.fn f)) : ∃ a x, v = .ref a ∧ fns[f]? = some x ∧ mg x = some (.ref a) := by
  cases h with
  | fn e r => exact ⟨_, _, rfl, e, r⟩
theorem Reps.ints : ∀ {vs : List Value} {ns : List Int}, IntsAre vs ns → Reps mg fns F vs (ns.map MV.int)
  | _, _, .nil => .nil
  | _, _, .cons _ _ h => .cons (.int _ _) (Reps.ints h)
theorem Reps.intsAre : ∀ {vs : List Value} {ds : List MV} {ns : List Int}, Reps mg fns F vs ds → allInts ds = some ns → IntsAre vs ns
  | _, _, ns, .nil, h => by simp [allInts] at h; subst h; exact .nil
  | _, d :: _, ns, .cons e r, h => by
    cases d <;> simp only [allInts, Option.map_eq_some_iff, reduceCtorEq] at h
    obtain ⟨ms, hm, rfl⟩ := h
    obtain ⟨t, rfl⟩ := e.int_inv
    exact .cons _ _ (r.intsAre hm)
end

/-- what stays the same through the whole call of the law -/
structure Wd where
  prog : Program
  w : World
  base : Heap
  s0 : Shared
  mg : NM
  mb : NM
  fns : List Str

noncomputable abbrev Wd.Rep (W : Wd) := Mine.Rep W.mg W.fns
noncomputable abbrev Wd.Reps (W : Wd) := Mine.Reps W.mg W.fns
noncomputable abbrev Wd.M (W : Wd) : Model := model W.prog W.w

/-- a state of the run, with the frozen objects F -/
structure St (W : Wd) (F : Fz) (s : Shared) : Prop where
  sh : s = { W.s0 with heap := s.heap, toks := s.toks }
  base : ∀ b o, W.base.get? b = some o → s.heap.get? b = some o
  frz : ∀ a o, F a = some o → s.heap.get? a = some o
  seq : ∀ a o, F a = some o → ∃ vs n, o.data = .seq vs n

/-- the object of a name's own list -/
noncomputable def OwnAt (F : Fz) (W : Wd) (h : Heap) (v : Option Value) (l : List MV) : Prop :=
  ∃ a vs n, v = some (.ref a) ∧ h.get? a = some (listO (List.toArray vs) n) ∧ W.Reps F vs l ∧ F a = none ∧ W.base.get? a = none

noncomputable def SlotOk (W : Wd) (F : Fz) (h : Heap) (v : Option Value) : Slot → Prop
  | .unset => True
  | .val d => ∃ u, v = some u ∧ W.Rep F u d
  | .own l => OwnAt F W h v l
  | .lent l => OwnAt F W h v l

noncomputable def Slot.mut : Slot → Bool
  | .own _ => true
  | .lent _ => true
  | _ => false

/-- a is the list of one of the names -/
noncomputable def Own (vars : List Str) (m : NM) (σ : Store) (a : Addr) : Prop :=
  ∃ (i : Nat) (x : Str) (sl : Slot), vars[i]? = some x ∧ σ[i]? = some sl ∧ sl.mut = true ∧ m x = some (.ref a)

/-- a frame: its names' values m, its store σ -/
structure Rl (W : Wd) (env : Env) (vars : List Str) (m : NM) (F : Fz) (σ : Store) (s : Shared) : Prop extends St W F s where
  ns : ∃ ml, s.heap.Ns env.locals ml ∧ ∀ x, env.kindOf x = some .local → ml x = m x
  cell : ∀ x, env.kindOf x = some .cell → ∃ c, env.cells.lookup x = some c ∧ s.heap.IsCell c (m x)
  len : σ.length = vars.length
  slots : ∀ (i : Nat) (x : Str) (sl : Slot), vars[i]? = some x → σ[i]? = some sl → SlotOk W F s.heap (m x) sl
  apart : ∀ (i j : Nat) (x y : Str) (sl tl : Slot) (a : Addr), vars[i]? = some x → vars[j]? = some y → σ[i]? = some sl → σ[j]? = some tl → sl.mut = true → tl.mut = true →
    m x = some (.ref a) → m y = some (.ref a) → i = j

/-- a step of an expression: names keep their values -/
structure Step (W : Wd) (env : Env) (vars : List Str) (m : NM) (F : Fz) (σ : Store) (s : Shared) (F' : Fz) (σ' : Store) (s' : Shared) : Prop where
  rl0 : Rl W env vars m F σ s
  rl : Rl W env vars m F' σ' s'
  stay : ∀ b, s'.heap.get? b = none → s.heap.get? b = none
  le : ∀ a o, F a = some o → F' a = some o
  grow : ∀ a o, F' a = some o → F a = some o ∨ s.heap.get? a = none ∨ Own vars m σ a
  frame : ∀ b o, s.heap.get? b = some o → ¬ Own vars m σ b → s'.heap.get? b = some o
  owns : ∀ (i : Nat) (l : List MV), σ'[i]? = some (.own l) → ∃ l', σ[i]? = some (.own l')
  lents : ∀ (i : Nat) (l : List MV), σ'[i]? = some (.lent l) → ∃ l', σ[i]? = some (.lent l')

section
variable {W : Wd} {env : Env} {vars : List Str} {m : NM} {F F' F₁ F₂ : Fz} {σ σ' σ₁ σ₂ : Store} {s s' s₁ s₂ : Shared}

theorem Step.own (h : Step W env vars m F σ s F' σ' s') {a : Addr} (o : Own vars m σ' a) : Own vars m σ a := by
  obtain ⟨i, x, sl, hx, hs, hm, ha⟩ := o
  cases sl with
  | unset => cases hm
  | val d => cases hm
  | own l => obtain ⟨l', hl⟩ := h.owns i l hs; exact ⟨i, x, _, hx, hl, rfl, ha⟩
  | lent l => obtain ⟨l', hl⟩ := h.lents i l hs; exact ⟨i, x, _, hx, hl, rfl, ha⟩

theorem Rl.own_at (h : Rl W env vars m F σ s) {a : Addr} (o : Own vars m σ a) : ∃ vs n, s.heap.get? a = some (listO vs n) ∧ F a = none := by
  obtain ⟨i, x, sl, hx, hs, hm, ha⟩ := o
  have := h.slots i x sl hx hs
  cases sl with
  | unset => cases hm
  | val d => cases hm
  | own l => obtain ⟨b, vs, n, hb, hg, _, hf, _⟩ := this; rw [ha] at hb; cases hb; exact ⟨_, n, hg, hf⟩
  | lent l => obtain ⟨b, vs, n, hb, hg, _, hf, _⟩ := this; rw [ha] at hb; cases hb; exact ⟨_, n, hg, hf⟩

theorem Step.refl (h : Rl W env vars m F σ s) : Step W env vars m F σ s F σ s :=
  ⟨h, h, fun _ e => e, fun _ _ e => e, fun _ _ e => .inl e, fun _ _ e _ => e, fun _ l h => ⟨l, h⟩, fun _ l h => ⟨l, h⟩⟩

theorem Step.trans (h : Step W env vars m F σ s F₁ σ₁ s₁) (k : Step W env vars m F₁ σ₁ s₁ F₂ σ₂ s₂) : Step W env vars m F σ s F₂ σ₂ s₂ where
  rl0 := h.rl0
  rl := k.rl
  stay := fun b e => h.stay b (k.stay b e)
  le := fun a o e => k.le a o (h.le a o e)
  grow := fun a o e => by
    rcases k.grow a o e with e | e | e
    · exact h.grow a o e
    · exact .inr (.inl (h.stay a e))
    · exact .inr (.inr (h.own e))
  frame := fun b o e hn => k.frame b o (h.frame b o e hn) fun ho => hn (h.own ho)
  owns := fun i l e => by obtain ⟨l', e'⟩ := k.owns i l e; exact h.owns i l' e'
  lents := fun i l e => by obtain ⟨l', e'⟩ := k.lents i l e; exact h.lents i l' e'

/-- the heap has grown, nothing that stood has changed; new objects may be frozen -/
theorem Step.extF (h : Rl W env vars m F σ s) {H : Heap} {tk : Nat} (hk : ∀ b o, s.heap.get? b = some o → H.get? b = some o)
    (le : ∀ a o, F a = some o → F' a = some o) (grow : ∀ a o, F' a = some o → F a = some o ∨ s.heap.get? a = none)
    (frz : ∀ a o, F' a = some o → H.get? a = some o) (seq : ∀ a o, F' a = some o → ∃ vs n, o.data = .seq vs n) :
    Step W env vars m F σ s F' σ { s with heap := H, toks := tk } := by
  have own : ∀ (v : Option Value) (l : List MV), OwnAt F W s.heap v l → OwnAt F' W H v l := by
    rintro v l ⟨a, vs, n, e1, e2, e3, e4, e5⟩
    refine ⟨a, vs, n, e1, hk _ _ e2, e3.mono le, ?_, e5⟩
    cases e : F' a with
    | none => rfl
    | some o =>
      rcases grow a o e with q | q
      · rw [e4] at q; cases q
      · rw [e2] at q; cases q
  exact {
    rl0 := h
    stay := fun b e => by
      cases hs : s.heap.get? b with
      | none => rfl
      | some q => rw [hk b q hs] at e; cases e
    rl := {
      sh := by rw [h.sh]
      base := fun b o e => hk b o (h.base b o e)
      frz := frz
      seq := seq
      ns := by obtain ⟨ml, hn, hm⟩ := h.ns; exact ⟨ml, hn.keeps hk, hm⟩
      cell := fun x hx => by obtain ⟨c, hc, hv⟩ := h.cell x hx; exact ⟨c, hc, hv.keeps hk⟩
      len := h.len
      slots := fun i x sl hx hs => by
        have := h.slots i x sl hx hs
        cases sl with
        | unset => trivial
        | val d => obtain ⟨u, hu, hr⟩ := this; exact ⟨u, hu, hr.mono le⟩
        | own l => exact own _ _ this
        | lent l => exact own _ _ this
      apart := h.apart }
    le := le
    grow := fun a o e => (grow a o e).imp id .inl
    frame := fun b o e _ => hk b o e
    owns := fun _ l e => ⟨l, e⟩
    lents := fun _ l e => ⟨l, e⟩ }

theorem Step.ext (h : Rl W env vars m F σ s) {H : Heap} {tk : Nat} (hk : ∀ b o, s.heap.get? b = some o → H.get? b = some o) :
    Step W env vars m F σ s F σ { s with heap := H, toks := tk } :=
  Step.extF h hk (fun _ _ e => e) (fun _ _ e => .inl e) (fun a o e => hk a o (h.frz a o e)) h.seq

theorem Step.toks (h : Rl W env vars m F σ s) (tk : Nat) : Step W env vars m F σ s F σ { s with toks := tk } := Step.ext h (H := s.heap) (tk := tk) fun _ _ e => e

noncomputable def ins (F : Fz) (a : Addr) (o : Obj) : Fz := fun b => if b = a then some o else F b
theorem ins_self (F : Fz) (a : Addr) (o : Obj) : ins F a o a = some o := by simp [ins]
theorem ins_ne {F : Fz} {a b : Addr} {o : Obj} (h : b ≠ a) : ins F a o b = F b := by simp [ins, h]

/-- an object that was made by this step is frozen -/
theorem Step.freeze (h : Step W env vars m F σ s F₁ σ₁ s₁) {a : Addr} {o : Obj} {vs : Array Value} {n : Nat} (ho : o.data = .seq vs n) (ha : s.heap.get? a = none) (hb : s₁.heap.get? a = some o) :
    Step W env vars m F σ s (ins F₁ a o) σ₁ s₁ ∧ ∀ b q, F₁ b = some q → ins F₁ a o b = some q := by
  have le : ∀ b q, F₁ b = some q → ins F₁ a o b = some q := by
    intro b q e
    unfold ins
    split
    · rename_i hba
      rw [← h.rl.frz b q e, hba, hb]
    · exact e
  have own : ∀ b, Own vars m σ₁ b → b ≠ a := by
    rintro b ob rfl
    obtain ⟨vs, n, e, _⟩ := h.rl0.own_at (h.own ob)
    rw [ha] at e; cases e
  have slot : ∀ (i : Nat) (x : Str) (l : List MV) (sl : Slot), vars[i]? = some x → σ₁[i]? = some sl → sl.mut = true → OwnAt F₁ W s₁.heap (m x) l → OwnAt (ins F₁ a o) W s₁.heap (m x) l := by
    rintro i x l sl hx hs hm ⟨b, ws, k, e1, e2, e3, e4, e5⟩
    have hba : b ≠ a := own b ⟨i, x, sl, hx, hs, hm, e1⟩
    exact ⟨b, ws, k, e1, e2, e3.mono le, by rw [ins_ne hba]; exact e4, e5⟩
  refine ⟨{ rl0 := h.rl0, stay := h.stay, rl := ?_, le := fun b q e => le b q (h.le b q e), grow := ?_, frame := h.frame, owns := h.owns, lents := h.lents }, le⟩
  · refine { sh := h.rl.sh, base := h.rl.base, frz := ?_, seq := ?_, ns := h.rl.ns, cell := h.rl.cell, len := h.rl.len, slots := ?_, apart := h.rl.apart }
    · intro b q e
      unfold ins at e
      split at e
      · rename_i hba; cases e; rw [hba]; exact hb
      · exact h.rl.frz b q e
    · intro b q e
      unfold ins at e
      split at e
      · cases e; exact ⟨_, _, ho⟩
      · exact h.rl.seq b q e
    · intro i x sl hx hs
      have q := h.rl.slots i x sl hx hs
      cases sl with
      | unset => trivial
      | val d => obtain ⟨u, hu, hr⟩ := q; exact ⟨u, hu, hr.mono le⟩
      | own l => exact slot i x l _ hx hs rfl q
      | lent l => exact slot i x l _ hx hs rfl q
  · intro b q e
    unfold ins at e
    split at e
    · rename_i hba; exact .inr (.inl (by rw [hba]; exact ha))
    · exact h.grow b q e
end
end Mine

end
-- SimB
section
set_option autoImplicit false
set_option maxRecDepth 100000
set_option bootstrap.genMatcherCode false
namespace Mine
open PySem PySem.Calls PyProof.Rows

/-- the answer of an expression; h is the heap before it -/
noncomputable def RepR (W : Wd) (F : Fz) (h : Heap) (s' : Shared) (v : Value) : MR → Prop
  | .val d => W.Rep F v d
  | .new l => ∃ a vs n, v = .ref a ∧ h.get? a = none ∧ s'.heap.get? a = some (listO (List.toArray vs) n) ∧ W.Reps F vs l ∧ F a = none

section
variable {W : Wd} {A : Around} {env : Env} {vars : List Str} {m : NM} {F F' F₁ F₂ : Fz} {σ σ' σ₁ σ₂ : Store} {s s' s₁ s₂ : Shared}

theorem RepR.from (h : Step W env vars m F σ s F₁ σ₁ s₁) {v : Value} {r : MR} (x : RepR W F₂ s₁.heap s₂ v r) : RepR W F₂ s.heap s₂ v r := by
  cases r with
  | val d => exact x
  | new l => obtain ⟨a, vs, n, h1, h2, h3⟩ := x; exact ⟨a, vs, n, h1, h.stay a h2, h3⟩

/-- a fresh list is frozen -/
theorem RepR.freeze (h : Step W env vars m F σ s F₁ σ₁ s₁) {v : Value} {r : MR} (x : RepR W F₁ s.heap s₁ v r) :
    ∃ F₂, Step W env vars m F σ s F₂ σ₁ s₁ ∧ W.Rep F₂ v r.mv := by
  cases r with
  | val d => exact ⟨F₁, h, x⟩
  | new l =>
    obtain ⟨a, vs, n, rfl, h1, h2, h3, h4⟩ := x
    obtain ⟨h5, le⟩ := h.freeze (o := listO vs.toArray n) rfl h1 h2
    exact ⟨_, h5, .lst (ins_self _ _ _) (h3.mono le)⟩

/-- a new object at the heap's end -/
theorem Step.push (h : Rl W env vars m F σ s) (o : Obj) (tk : Nat) : Step W env vars m F σ s F σ { s with heap := s.heap.push o, toks := tk } :=
  Step.ext h fun _ _ e => Heap.get?_push_of_some _ e
theorem get_size (h : Heap) : h.get? h.objs.size = none := by
  cases e : h.get? h.objs.size with
  | none => rfl
  | some o => exact absurd (Heap.lt_size e) (Nat.lt_irrefl _)
theorem frz_size (h : St W F s) : F s.heap.objs.size = none := by
  cases e : F s.heap.objs.size with
  | none => rfl
  | some o => exact absurd (Heap.lt_size (h.frz _ _ e)) (Nat.lt_irrefl _)
theorem new_list (h : Rl W env vars m F σ s) {vs : List Value} {l : List MV} (x : W.Reps F vs l) (tk : Nat) :
    RepR W F s.heap { s with heap := s.heap.push (listO vs.toArray 0), toks := tk } (.ref s.heap.objs.size) (.new l) :=
  ⟨_, vs, 0, rfl, get_size _, Heap.get?_push_size _ rfl, x, frz_size h.toSt⟩
end

noncomputable def okOp : Bop → Operator → Bool
  | .add, .Add => true
  | .sub, .Sub => true
  | .mul, .Mult => true
  | .fdiv, .FloorDiv => true
  | .mod, .Mod => true
  | .pow, .Pow => true
  | .shl, .LShift => true
  | .shr, .RShift => true
  | .band, .BitAnd => true
  | .bor, .BitOr => true
  | _, _ => false
noncomputable def okC : Cop → CmpOp → Bool
  | .lt, .Lt => true
  | .le, .LtE => true
  | .gt, .Gt => true
  | .ge, .GtE => true
  | .eq, .Eq => true
  | .ne, .NotEq => true
  | .notIn, .NotIn => true
  | _, _ => false

theorem of_ite {α : Type} {c : Prop} [Decidable c] {x : α} {y : α} (h : (if c then some x else none) = some y) : c ∧ x = y := by
  by_cases hc : c
  · rw [if_pos hc] at h; exact ⟨hc, Option.some.inj h⟩
  · rw [if_neg hc] at h; cases h
theorem of_ite' {α : Type} {c : Prop} [Decidable c] {x : Option α} {y : α} (h : (if c then x else none) = some y) : c ∧ x = some y := by
  by_cases hc : c
  · rw [if_pos hc] at h; exact ⟨hc, h⟩
  · rw [if_neg hc] at h; cases h
theorem band_eq {a b : Int} (ha : 0 ≤ a) (hb : 0 ≤ b) : Builtin.bitAnd a b = Int.ofNat (a.toNat &&& b.toNat) := by
  unfold Builtin.bitAnd
  simp [ha, hb]
theorem bor_eq {a b : Int} (ha : 0 ≤ a) (hb : 0 ≤ b) : Builtin.bitOr a b = Int.ofNat (a.toNat ||| b.toNat) := by
  unfold Builtin.bitOr Builtin.bitAnd Builtin.bitNot
  have h1 : ¬ (0 ≤ -a - 1) := by (first | lia | omega)
  have h2 : ¬ (0 ≤ -b - 1) := by (first | lia | omega)
  have e1 : (-(-a - 1) - 1) = a := by (first | lia | omega)
  have e2 : (-(-b - 1) - 1) = b := by (first | lia | omega)
  simp only [h1, h2, decide_false, e1, e2]
  show -(-((a.toNat ||| b.toNat : Nat) : Int) - 1) - 1 = _
  simp only [Int.ofNat_eq_natCast]
  (first | lia | omega)
theorem small_iff {a : Int} (h : small a = true) : -9223372036854775808 < a ∧ a < 9223372036854775808 := by
  simpa [small] using h
theorem natAbs_small {a : Int} (h : small a = true) : a.natAbs < 2 ^ 63 := by
  have := small_iff h
  (first | lia | omega)

section
variable {W : Wd} {A : Around} {s : Shared} {E : Value → Shared → Prop} {Q : Value → Shared → Prop}

theorem pow_fits {a b : Int} (h1 : 0 ≤ a) (h2 : a < 256) (h3 : 0 ≤ b) (h4 : b < 64) : (Builtin.Int.intBits a : Int) * b ≤ 2 ^ 27 := by
  have q : Builtin.Int.intBits a ≤ 8 := intBits_le (by (first | lia | omega))
  have : (Builtin.Int.intBits a : Int) * b ≤ 8 * 64 := Int.mul_le_mul (by (first | lia | omega)) (by (first | lia | omega)) h3 (by (first | lia | omega))
  (first | lia | omega)

theorem op_ibin {o : Bop} {op : Operator} (ho : okOp o op = true) {a b c : Int} {t u : Tok} (e : ibin o a b = some c) (h : Q (.int c s.toks) { s with toks := s.toks + 1 }) :
    wpAny W.M A (binaryOp op (.int a t) (.int b u)) Q E s := by
  cases o <;> cases op <;> simp only [okOp, Bool.false_eq_true] at ho <;> simp only [ibin] at e
  case add.Add => cases e; exact P.add_int h
  case sub.Sub => cases e; exact P.sub_int h
  all_goals (obtain ⟨hs, rfl⟩ := of_ite e; simp only [Bool.and_eq_true, decide_eq_true_eq, bne_iff_ne, ne_eq] at hs)
  case mul.Mult =>
    have := small_iff hs.1
    exact P.mul_int h (.of_left (intBits_le_64 (by (first | lia | omega)) (by (first | lia | omega))))
  case fdiv.FloorDiv => exact floordiv_int hs.2 h (Or.inl (PyProof.noPylong_small (by (first | lia | omega))))
  case mod.Mod => exact mod_int' hs h
  case pow.Pow => exact pow_int hs.1.2 (pow_fits hs.1.1.1 hs.1.1.2 hs.1.2 hs.2) h
  case shl.LShift =>
    have := natAbs_small hs.1.1
    exact lshift_int_small hs.1.2 (by (first | lia | omega)) (by (first | lia | omega)) h
  case shr.RShift => exact rshift_int hs h
  case band.BitAnd => exact and_int (by rw [band_eq hs.1 hs.2]; exact h)
  case bor.BitOr => exact or_int (by rw [bor_eq hs.1 hs.2]; exact h)

theorem op_iaug {o : Bop} {op : Operator} (ho : okOp o op = true) {a b c : Int} {t u : Tok} (e : ibin o a b = some c) (h : Q (.int c s.toks) { s with toks := s.toks + 1 }) :
    wpAny W.M A (inplaceOp op (.int a t) (.int b u)) Q E s := by
  cases o <;> cases op <;> simp only [okOp, Bool.false_eq_true] at ho <;> simp only [ibin] at e
  case add.Add => cases e; exact P.iadd_int h
  case sub.Sub => cases e; exact P.isub_int h
  all_goals (obtain ⟨hs, rfl⟩ := of_ite e; simp only [Bool.and_eq_true, decide_eq_true_eq, bne_iff_ne, ne_eq] at hs)
  case mul.Mult =>
    have := small_iff hs.1
    exact P.imul_int h (.of_left (intBits_le_64 (by (first | lia | omega)) (by (first | lia | omega))))
  case fdiv.FloorDiv => exact ifloordiv_int hs.2 h (Or.inl (PyProof.noPylong_small (by (first | lia | omega))))
  case mod.Mod => exact imod_int hs h
  case pow.Pow => exact ipow_int hs.1.2 (pow_fits hs.1.1.1 hs.1.1.2 hs.1.2 hs.2) h
  case shl.LShift =>
    have := natAbs_small hs.1.1
    exact ilshift_int_small hs.1.2 (by (first | lia | omega)) (by (first | lia | omega)) h
  case shr.RShift => exact irshift_int hs h
  case band.BitAnd => exact iand_int (by rw [band_eq hs.1 hs.2]; exact h)
  case bor.BitOr => exact ior_int (by rw [bor_eq hs.1 hs.2]; exact h)

theorem op_icmp {o : Cop} {op : CmpOp} (ho : okC o op = true) {a b : Int} {c : Bool} {t u : Tok} (e : icmp o a b = some c) (h : Q (.bool c) s) :
    wpAny W.M A (compareOp op (.int a t) (.int b u)) Q E s := by
  cases o <;> cases op <;> simp only [okC, Bool.false_eq_true] at ho <;> simp only [icmp] at e <;> cases e
  · exact P.lt_int h
  · exact P.le_int h
  · exact P.gt_int h
  · exact P.ge_int h
  · exact P.eq_int h
  · exact P.ne_int h
end

theorem foldl_flat (n : Nat) (vs : List Value) : List.foldl (fun (x1 x2 : Array Value) => x1 ++ x2) #[] (List.replicate n vs.toArray) = (List.replicate n vs).flatten.toArray := by
  have gen : ∀ (n : Nat) (acc : List Value), List.foldl (fun (x1 x2 : Array Value) => x1 ++ x2) acc.toArray (List.replicate n vs.toArray) = (acc ++ (List.replicate n vs).flatten).toArray := by
    intro n
    induction n with
    | zero => intro acc; simp
    | succ n ih =>
      intro acc
      rw [List.replicate_succ, List.foldl_cons, List.append_toArray, ih]
      simp [List.replicate_succ]
  simpa using gen n []
theorem rep_flat (vs : List Value) (n : Nat) : (List.replicate (if vs.toArray.isEmpty = true then 0 else n) vs).flatten = (List.replicate n vs).flatten := by
  cases vs with
  | nil => simp
  | cons v r => simp

section
variable {W : Wd} {A : Around} {env : Env} {vars : List Str} {m : NM} {F : Fz} {σ : Store} {s : Shared} {E : Value → Shared → Prop} {Q : Value → Shared → Prop}

theorem op_bin (h : Rl W env vars m F σ s) {va vb : Value} {x y : MV} {r : MR} {o : Bop} {op : Operator} (rx : W.Rep F va x) (ry : W.Rep F vb y) (ho : okOp o op = true) (e : mbin o x y = some r)
    (k : ∀ v F' s', Step W env vars m F σ s F' σ s' → RepR W F' s.heap s' v r → Q v s') : wpAny W.M A (binaryOp op va vb) Q E s := by
  unfold mbin at e
  split at e
  · obtain ⟨t, rfl⟩ := rx.int_inv
    obtain ⟨u, rfl⟩ := ry.int_inv
    obtain ⟨c, hc, rfl⟩ := Option.map_eq_some_iff.mp e
    exact op_ibin ho hc (k _ _ _ (Step.toks h _) (.int _ _))
  · rename_i xs ys
    split at e
    · obtain ⟨hs, rfl⟩ := of_ite e
      simp only [short, Bool.and_eq_true, decide_eq_true_eq] at hs
      obtain ⟨a, vs, n, rfl, ha, rs⟩ := rx.lst_inv
      obtain ⟨b, ws, n', rfl, hb, rt⟩ := ry.lst_inv
      have l1 := rs.length
      have l2 := rt.length
      cases op <;> simp only [okOp, Bool.false_eq_true] at ho
      refine P.add_list (h.frz _ _ ha) (h.frz _ _ hb) ?_ (by simp only [List.size_toArray, sizeLine_eq]; (first | lia | omega))
      have := new_list h (rs.append rt) s.toks
      rw [← List.append_toArray] at this
      exact k _ _ _ (Step.push h _ s.toks) this
    · cases e
  · rename_i xs n
    split at e
    · obtain ⟨hs, rfl⟩ := of_ite e
      simp only [short, Bool.and_eq_true, decide_eq_true_eq] at hs
      obtain ⟨a, vs, n', rfl, ha, rs⟩ := rx.lst_inv
      obtain ⟨u, rfl⟩ := ry.int_inv
      have l1 := rs.length
      cases op <;> simp only [okOp, Bool.false_eq_true] at ho
      have hl := h.frz _ _ ha
      have sz : vs.length * n.toNat ≤ 4095 * 4095 := Nat.mul_le_mul (by (first | lia | omega)) (by (first | lia | omega))
      refine wpAny_binaryOp_repeat_ref (T := "list") (U := "int") (by decide) ⟨_, hl, rfl⟩ (fun s' => typeIs_int s' n u) noFill_list_mul PySem.F.fills_int_mul PySem.F.slot_int_rmul repeat_list PySem.F.slot_int_index.lookup ?_
      refine call_meets PySem.F.slot_int_rmul (typeIs_int s n u) PySem.F.entry_int_rmul (PySem.F.args_int_rmul_2 _ _) (int___rmul___int_list n u a vs.toArray n') ⟨hl, rfl, ⟨_, hl, rfl⟩, ?_⟩
      refine call_meets PySem.F.slot_list_mul ⟨_, hl, rfl⟩ PySem.F.entry_list_mul (PySem.F.args_list_mul_2 _ _) (AutoListH.list___mul___list_int_3 a vs.toArray n' n u (by simp [Builtin.List.listFitsIndex]; (first | lia | omega)) (by rw [List.size_toArray]; (first | lia | omega)) (by rw [List.size_toArray]; simp [Builtin.List.listTooLong, sizeLine]; (first | lia | omega))) ⟨hl, ?_⟩
      rw [foldl_flat, rep_flat]
      exact k _ _ _ (Step.push h _ s.toks) (new_list h (rs.replicate _) s.toks)
    · cases e
  · cases e
end
end Mine

end
-- SimC
section
set_option autoImplicit false
set_option maxRecDepth 100000
set_option bootstrap.genMatcherCode false
namespace Mine
open PySem PySem.Calls PyProof.Rows PySem.Spec PySem.SeqAt

theorem plains_cons {n : Nat} {d : MV} {r : List MV} (h : MV.plains n (d :: r) = true) : MV.plain n d = true ∧ MV.plains n r = true := by
  rw [MV.plains, Bool.and_eq_true] at h
  exact h

mutual
noncomputable def toPy : MV → PyData
  | .none => .none
  | .bool b => .bool b
  | .int i => .int i
  | .tup l => .tuple (toPys l)
  | .lst l => .list (toPys l)
  | .fn _ => .none
noncomputable def toPys : List MV → List PyData
  | [] => []
  | d :: r => toPy d :: toPys r
end

section
variable {mg : NM} {fns : List Str} {F : Fz} {h : Heap}
mutual
theorem Rep.reads (hf : ∀ a o, F a = some o → h.get? a = some o) : ∀ {v : Value} {d : MV} (n : Nat), Rep mg fns F v d → MV.plain n d = true → ∃ as, Reads h v (toPy d) as
  | _, _, _, .none, _ => ⟨_, Reads.none⟩
  | _, _, _, .bool b, _ => ⟨_, Reads.bool b⟩
  | _, _, _, .int i t, _ => ⟨_, Reads.int i t⟩
  | _, _, 0, .tup _ _, hk => by simp [MV.plain] at hk
  | _, _, 0, .lst _ _, hk => by simp [MV.plain] at hk
  | _, _, n + 1, .tup e r, hk => by
    obtain ⟨as, q⟩ := r.reads hf n (by simpa [MV.plain] using hk)
    rw [toPy]
    exact ⟨_, reads_tuple_at (hf _ _ e) rfl rfl (by simpa using q)⟩
  | _, _, n + 1, .lst e r, hk => by
    obtain ⟨as, q⟩ := r.reads hf n (by simpa [MV.plain] using hk)
    rw [toPy]
    exact ⟨_, reads_list_at (hf _ _ e) rfl rfl (by simpa using q)⟩
  | _, _, n, .fn _ _, hk => by cases n <;> simp [MV.plain] at hk
theorem Reps.reads (hf : ∀ a o, F a = some o → h.get? a = some o) : ∀ {v : List Value} {d : List MV} (n : Nat), Reps mg fns F v d → MV.plains n d = true → ∃ as, ReadsAll h v (toPys d) as
  | _, _, _, .nil, _ => ⟨_, ReadsAll.nil⟩
  | _, _, n, .cons e r, hk => by
    have hk' := plains_cons hk
    obtain ⟨as, q⟩ := e.reads hf n hk'.1
    obtain ⟨bs, p⟩ := r.reads hf n hk'.2
    rw [toPys]
    exact ⟨_, ReadsAll.cons q p⟩
end
end

mutual
theorem plain_lay : ∀ (n : Nat) (d : MV), MV.plain n d = true → (toPy d).canLay0 = true ∧ (toPy d).depth ≤ n
  | _, .none, _ => by simp [toPy, PyData.canLay0, PyData.depth]
  | _, .bool _, _ => by simp [toPy, PyData.canLay0, PyData.depth]
  | _, .int _, _ => by simp [toPy, PyData.canLay0, PyData.depth]
  | 0, .tup _, h => by simp [MV.plain] at h
  | 0, .lst _, h => by simp [MV.plain] at h
  | n, .fn _, h => by cases n <;> simp [MV.plain] at h
  | n + 1, .tup l, h => by
    have := plains_lay n l (by simpa [MV.plain] using h)
    simp only [toPy, PyData.canLay0, PyData.depth, this.1, true_and]
    have := this.2
    (first | lia | omega)
  | n + 1, .lst l, h => by
    have := plains_lay n l (by simpa [MV.plain] using h)
    simp only [toPy, PyData.canLay0, PyData.depth, this.1, true_and]
    have := this.2
    (first | lia | omega)
theorem plains_lay : ∀ (n : Nat) (d : List MV), MV.plains n d = true → PyData.canLayAll0 (toPys d) = true ∧ PyData.depthAll (toPys d) ≤ n
  | _, [], _ => by simp [toPys, PyData.canLayAll0, PyData.depthAll]
  | n, d :: r, h => by
    have h' := plains_cons h
    have h1 := plain_lay n d h'.1
    have h2 := plains_lay n r h'.2
    simp only [toPys, PyData.canLayAll0, PyData.depthAll, h1.1, h2.1, Bool.and_self, true_and]
    have := h1.2
    have := h2.2
    (first | lia | omega)
end
theorem plain_shaped {d : MV} (h : MV.plain 8 d = true) : shaped (toPy d) = true := by
  obtain ⟨h1, h2⟩ := plain_lay 8 d h
  simp only [shaped, h1, Bool.true_and, decide_eq_true_eq]
  (first | lia | omega)

mutual
theorem eqv_py : ∀ (n : Nat) (a b : MV) (k : Nat), MV.plain n a = true → MV.plain k b = true → PyData.eqv (toPy a) (toPy b) = MV.eqv a b
  | n, .fn _, _, _, h, _ => by cases n <;> simp [MV.plain] at h
  | 0, .tup _, _, _, h, _ => by simp [MV.plain] at h
  | 0, .lst _, _, _, h, _ => by simp [MV.plain] at h
  | _, .none, b, k, _, h => by cases b <;> first | (cases k <;> simp [MV.plain] at h; done) | simp [toPy, PyData.eqv, MV.eqv]
  | _, .bool _, b, k, _, h => by cases b <;> first | (cases k <;> simp [MV.plain] at h; done) | simp [toPy, PyData.eqv, MV.eqv]
  | _, .int _, b, k, _, h => by cases b <;> first | (cases k <;> simp [MV.plain] at h; done) | simp [toPy, PyData.eqv, MV.eqv]
  | n + 1, .tup l, b, k, h, h' => by
    cases b with
    | tup l' =>
      cases k with
      | zero => simp [MV.plain] at h'
      | succ k =>
        simp only [toPy, PyData.eqv, MV.eqv]
        exact eqvs_py n l l' k (by simpa [MV.plain] using h) (by simpa [MV.plain] using h')
    | fn _ => cases k <;> simp [MV.plain] at h'
    | _ => simp [toPy, PyData.eqv, MV.eqv]
  | n + 1, .lst l, b, k, h, h' => by
    cases b with
    | lst l' =>
      cases k with
      | zero => simp [MV.plain] at h'
      | succ k =>
        simp only [toPy, PyData.eqv, MV.eqv]
        exact eqvs_py n l l' k (by simpa [MV.plain] using h) (by simpa [MV.plain] using h')
    | fn _ => cases k <;> simp [MV.plain] at h'
    | _ => simp [toPy, PyData.eqv, MV.eqv]
theorem eqvs_py : ∀ (n : Nat) (a b : List MV) (k : Nat), MV.plains n a = true → MV.plains k b = true → PyData.eqvAll (toPys a) (toPys b) = MV.eqvs a b
  | _, [], b, _, _, _ => by cases b <;> simp [toPys, PyData.eqvAll, MV.eqvs]
  | n, d :: r, [], k, h, h' => by simp [toPys, PyData.eqvAll, MV.eqvs]
  | n, d :: r, e :: t, k, h, h' => by
    have g := plains_cons h
    have g' := plains_cons h'
    simp only [toPys, PyData.eqvAll, MV.eqvs]
    rw [eqv_py n d e k g.1 g'.1, eqvs_py n r t k g.2 g'.2]
end
theorem any_py {n k : Nat} {a : MV} (ha : MV.plain k a = true) : ∀ {l : List MV}, MV.plains n l = true → ((toPys l).any fun y => PyData.eqv y (toPy a)) = l.any fun y => MV.eqv y a
  | [], _ => rfl
  | d :: r, h => by
    have g := plains_cons h
    simp only [toPys, List.any_cons]
    rw [eqv_py n d a k g.1 ha, any_py ha g.2]

/-- room on the stacks for k calls one within the other -/
structure AOk (A : Around) (k : Nat) : Prop where
  handled : A.handled = none
  depth : A.depth + k < recursionLimit
  units : A.units + 8 * k + 200 < cLine

theorem AOk.less {A : Around} {k : Nat} (h : AOk A (k + 1)) : AOk A k := ⟨h.handled, by have := h.depth; (first | lia | omega), by have := h.units; (first | lia | omega)⟩

section
variable {W : Wd} {A : Around} {env : Env} {vars : List Str} {m : NM} {F : Fz} {σ : Store} {s : Shared} {E : Value → Shared → Prop} {Q : Value → Shared → Prop} {k : Nat}

theorem op_cmp (hA : AOk A k) (h : Rl W env vars m F σ s) {va vb : Value} {x y : MV} {r : Bool} {o : Cop} {op : CmpOp} (rx : W.Rep F va x) (ry : W.Rep F vb y) (ho : okC o op = true) (e : mcmp o x y = some r)
    (q : ∀ tk, Q (.bool r) { s with toks := tk }) : wpAny W.M A (compareOp op va vb) Q E s := by
  have hu : A.units + 64 < cLine := by have := hA.units; (first | lia | omega)
  unfold mcmp at e
  split at e
  · obtain ⟨t, rfl⟩ := rx.int_inv
    obtain ⟨u, rfl⟩ := ry.int_inv
    exact op_icmp ho e (q s.toks)
  · obtain rfl := rx.bool_inv
    obtain rfl := ry.bool_inv
    split at e
    · cases op <;> simp only [okC, Bool.false_eq_true] at ho
      cases e
      exact eq_dataH (Reads.bool _) (Reads.bool _) rfl rfl hu (q s.toks)
    · cases op <;> simp only [okC, Bool.false_eq_true] at ho
      cases e
      exact ne_dataH (Reads.bool _) (Reads.bool _) rfl rfl hu (q s.toks)
    · cases e
  · split at e
    · cases op <;> simp only [okC, Bool.false_eq_true] at ho
      obtain ⟨hp, rfl⟩ := of_ite e
      obtain ⟨h1, h2⟩ := Bool.and_eq_true_iff.mp hp
      obtain ⟨as, ra⟩ := rx.reads h.frz 8 h1
      obtain ⟨bs, rb⟩ := ry.reads h.frz 8 h2
      refine eq_dataH ra rb (plain_shaped h1) (plain_shaped h2) hu ?_
      rw [eqv_py 8 _ _ 8 h1 h2]
      exact q s.toks
    · cases op <;> simp only [okC, Bool.false_eq_true] at ho
      obtain ⟨hp, rfl⟩ := of_ite e
      obtain ⟨h1, h2⟩ := Bool.and_eq_true_iff.mp hp
      obtain ⟨as, ra⟩ := rx.reads h.frz 8 h1
      obtain ⟨bs, rb⟩ := ry.reads h.frz 8 h2
      refine ne_dataH ra rb (plain_shaped h1) (plain_shaped h2) hu ?_
      rw [eqv_py 8 _ _ 8 h1 h2]
      exact q s.toks
    · split at e
      · cases op <;> simp only [okC, Bool.false_eq_true] at ho
        obtain ⟨hp, rfl⟩ := of_ite e
        obtain ⟨h1, h2⟩ := Bool.and_eq_true_iff.mp hp
        obtain ⟨as, ra⟩ := rx.reads h.frz 8 h1
        obtain ⟨bs, rb⟩ := ry.reads h.frz 8 h2
        have l1 := plain_lay 8 _ h1
        have l2 := plain_lay 8 _ h2
        rw [toPy] at rb l2
        rename_i l _ _
        have h2' : MV.plains 7 l = true := by simpa [MV.plain] using h2
        have l3 := plains_lay 7 _ h2'
        refine notIn_list_reads rb ra l3.1 l1.1 (by have := l1.2; (first | lia | omega)) ?_
        rw [any_py h1 h2']
        exact q s.toks
      · cases e
    · cases e
end
end Mine

end
-- SimD
section
set_option autoImplicit false
set_option maxRecDepth 100000
set_option bootstrap.genMatcherCode false
set_option backward.match.sparseCases false
namespace Mine
open PySem PySem.Calls PyProof.Rows PySem.Spec PySem.SeqAt

theorem pick_two (items : Array Value) {x y : Int} (hx : 0 ≤ x) (hy : 0 ≤ y) : slicePick items (some x) (some y) none = ((items.toList.take y.toNat).drop x.toNat).toArray := by
  have e : sliceBounds (some x) (some y) none items.size = (((min x.toNat items.size : Nat) : Int), ((min y.toNat items.size : Nat) : Int), 1) := by
    simp only [sliceBounds, Option.getD_none]
    have h1 : (1 : Int) > 0 := by decide
    simp only [h1, if_true]
    rw [if_neg (by (first | lia | omega)), if_neg (by (first | lia | omega))]
    congr 1
    · (first | lia | omega)
    · congr 1
      (first | lia | omega)
  unfold slicePick
  rw [e]
  dsimp only
  rw [sliceRange_one, pick_run]
  congr 1
  apply List.ext_getElem?
  intro i
  simp only [List.getElem?_take, List.getElem?_drop]
  have hl : items.toList.length = items.size := by simp
  by_cases h1 : x.toNat + i < items.size
  · have e1 : min x.toNat items.size = x.toNat := by (first | lia | omega)
    rw [e1]
    by_cases h2 : x.toNat + i < y.toNat
    · rw [if_pos (by (first | lia | omega)), if_pos h2]
    · rw [if_neg (by (first | lia | omega)), if_neg h2]
  · rw [List.getElem?_eq_none (l := items.toList) (i := x.toNat + i) (by (first | lia | omega))]
    rw [List.getElem?_eq_none (l := items.toList) (i := min x.toNat items.size + i) (by (first | lia | omega))]
    simp
theorem pick_from (items : Array Value) {x : Int} (hx : 0 ≤ x) : slicePick items (some x) none none = (items.toList.drop x.toNat).toArray := by
  have e : slicePick items (some x) none none = slicePick items (some x) (some (items.size : Int)) none := by
    unfold slicePick
    have : sliceBounds (some x) none none items.size = sliceBounds (some x) (some (items.size : Int)) none items.size := by
      simp only [sliceBounds, Option.getD_none]
      have h1 : (1 : Int) > 0 := by decide
      simp only [h1, if_true]
      rw [if_neg (show ¬ ((items.size : Int) < 0) by (first | lia | omega))]
      congr 2
      (first | lia | omega)
    rw [this]
  rw [e, pick_two items hx (by (first | lia | omega))]
  congr 1
  rw [Int.toNat_natCast, List.take_of_length_le (by simp)]
theorem pick_upto (items : Array Value) {y : Int} (hy : 0 ≤ y) : slicePick items none (some y) none = (items.toList.take y.toNat).toArray := by
  have e : slicePick items none (some y) none = slicePick items (some 0) (some y) none := by
    unfold slicePick
    have : sliceBounds none (some y) none items.size = sliceBounds (some 0) (some y) none items.size := by
      simp only [sliceBounds, Option.getD_none]
      have h1 : (1 : Int) > 0 := by decide
      simp only [h1, if_true]
      congr 1
    rw [this]
  rw [e, pick_two items (Int.le_refl 0) hy]
  simp

theorem insSorted_perm (x : Int) : ∀ l : List Int, (insSorted x l).Perm (x :: l)
  | [] => .refl _
  | y :: r => by
    unfold insSorted
    split
    · exact .refl _
    · exact ((insSorted_perm x r).cons y).trans (.swap x y r)
theorem sortInts_perm : ∀ l : List Int, (sortInts l).Perm l
  | [] => .refl _
  | x :: r => (insSorted_perm x _).trans ((sortInts_perm r).cons x)
theorem insSorted_sorted (x : Int) : ∀ l : List Int, l.Pairwise (· ≤ ·) → (insSorted x l).Pairwise (· ≤ ·)
  | [], _ => by simp [insSorted]
  | y :: r, h => by
    obtain ⟨h1, h2⟩ := List.pairwise_cons.mp h
    unfold insSorted
    split
    · rename_i hxy
      exact List.pairwise_cons.mpr ⟨fun z hz => by
        rcases List.mem_cons.mp hz with rfl | hz
        · exact hxy
        · exact Int.le_trans hxy (h1 z hz), h⟩
    · rename_i hxy
      refine List.pairwise_cons.mpr ⟨fun z hz => ?_, insSorted_sorted x r h2⟩
      rcases List.mem_cons.mp ((insSorted_perm x r).mem_iff.mp hz) with rfl | hz
      · (first | lia | omega)
      · exact h1 z hz
theorem sortInts_sorted : ∀ l : List Int, (sortInts l).Pairwise (· ≤ ·)
  | [] => .nil
  | x :: r => insSorted_sorted x _ (sortInts_sorted r)
theorem sorted_unique {l k : List Int} (hp : l.Perm k) (h1 : l.Pairwise (· ≤ ·)) (h2 : k.Pairwise (· ≤ ·)) : l = k :=
  List.Perm.eq_of_pairwise (le := fun a b => a ≤ b) (fun _ _ _ _ h1 h2 => Int.le_antisymm h1 h2) h1 h2 hp

noncomputable def isSlice : PySem.Expr → Bool
  | .Slice .. => true
  | _ => false
theorem subscripted_plain {sl : PySem.Expr} (h : isSlice sl = false) (o i : Value) : subscripted sl false o i = operate [o, i] (getItem o i) := by
  cases sl <;> first | rfl | cases h

section
variable {W : Wd} {A : Around} {env : Env} {vars : List Str} {m : NM} {F : Fz} {σ : Store} {s : Shared} {E : Value → Shared → Prop} {Q : Value → Shared → Prop} {k : Nat}

/-- a sequence of the heap at hand -/
noncomputable def SeqAt' (W : Wd) (F : Fz) (h : Heap) (v : Value) (l : List MV) : Prop :=
  ∃ a c vs n, v = .ref a ∧ (c = "list" ∨ c = "tuple") ∧ h.get? a = some ({ cls := .type c, data := .seq (List.toArray vs) n } : Obj) ∧ W.Reps F vs l

theorem Rep.seqAt (h : St W F s) {v : Value} {d : MV} {l : List MV} (r : W.Rep F v d) (e : d.items? = some l) : SeqAt' W F s.heap v l := by
  cases d <;> simp only [MV.items?, Option.some.injEq, reduceCtorEq] at e
  · subst e
    obtain ⟨a, vs, n, rfl, ha, rs⟩ := r.tup_inv
    exact ⟨a, "tuple", vs, n, rfl, .inr rfl, h.frz _ _ ha, rs⟩
  · subst e
    obtain ⟨a, vs, n, rfl, ha, rs⟩ := r.lst_inv
    exact ⟨a, "list", vs, n, rfl, .inl rfl, h.frz _ _ ha, rs⟩

theorem op_len {v : Value} {l : List MV} (h : SeqAt' W F s.heap v l) (hs : short l = true) (q : ∀ t tk, Q (.int l.length t) { s with toks := tk }) : wpAny W.M A (call (.builtin "len") [v]) Q E s := by
  obtain ⟨a, c, vs, n, rfl, hc, ha, rs⟩ := h
  have e : (l.length : Int) = (vs.toArray.size : Int) := by rw [← rs.length]; simp
  simp only [short, decide_eq_true_eq] at hs
  rcases hc with rfl | rfl
  · exact len_list ⟨_, ha, rfl, n, rfl⟩ (by rw [← e]; (first | lia | omega)) (by rw [← e]; exact q _ _)
  · exact len_tuple ⟨_, ha, rfl, n, rfl⟩ (by rw [← e]; (first | lia | omega)) (by rw [← e]; exact q _ _)

theorem pyIdx_at {l : List MV} {vs : List Value} (rs : W.Reps F vs l) {i : Int} {d : MV} (e : pyIdx l i = some d) : ∃ (j : Nat) (u : Value), seqIndex? i vs.length = some j ∧ vs[j]? = some u ∧ W.Rep F u d ∧ -(l.length : Int) ≤ i ∧ i < l.length ∧
    (0 ≤ i → j = i.toNat) ∧ (i < 0 → j = (i + vs.length).toNat) := by
  have hl := rs.length
  unfold pyIdx at e
  split at e
  · rename_i h0
    obtain ⟨u, hu, hr⟩ := rs.get e
    have : i.toNat < l.length := (List.getElem?_eq_some_iff.mp e).1
    exact ⟨i.toNat, u, seqIndex_of h0 (by (first | lia | omega)), hu, hr, by (first | lia | omega), by (first | lia | omega), fun _ => rfl, fun hn => absurd hn (by (first | lia | omega))⟩
  · rename_i h0
    split at e
    · rename_i h1
      obtain ⟨u, hu, hr⟩ := rs.get e
      exact ⟨(i + l.length).toNat, u, by rw [hl]; exact seqIndex_neg (by (first | lia | omega)) h1, hu, hr, h1, by (first | lia | omega), fun hn => absurd hn h0, fun _ => by rw [hl]⟩
    · cases e

theorem op_idx {v : Value} {l : List MV} (h : SeqAt' W F s.heap v l) (hs : short l = true) {i : Int} {t : Tok} {d : MV} (e : pyIdx l i = some d) {value slice : PySem.Expr} (hsl : isSlice slice = false)
    (q : ∀ u, W.Rep F u d → Q u s) : wpAny W.M A (subscriptTail value slice v (.int i t)) Q E s := by
  obtain ⟨a, c, vs, n, rfl, hc, ha, rs⟩ := h
  obtain ⟨j, u, hj, hu, hr, h1, h2, h3, h4⟩ := pyIdx_at rs e
  have hl := rs.length
  simp only [short, decide_eq_true_eq] at hs
  rcases hc with rfl | rfl
  · have hL : s.heap.IsList a vs.toArray := ⟨_, ha, rfl, n, rfl⟩
    refine tail_any hL.typeIs slot_list_getitem.lookup ?_ (subscripted_plain hsl _ _)
    by_cases h0 : 0 ≤ i
    · exact wpAny_getItem_list hL h0 (by (first | lia | omega)) (by rw [← h3 h0]; simpa using hu) (q u hr)
    · exact wpAny_getItem_list_neg hL (by (first | lia | omega)) (by simp only [List.size_toArray]; (first | lia | omega)) (by (first | lia | omega)) (by rw [List.size_toArray, ← h4 (by (first | lia | omega))]; simpa using hu) (q u hr)
  · exact item_tupleT ⟨_, ha, rfl, n, rfl⟩ (by (first | lia | omega)) (by (first | lia | omega)) hj hu (q u hr) (subscripted_plain hsl _ _)

theorem op_sorted (h : Rl W env vars m F σ s) {v : Value} {l : List MV} {ns : List Int} (r : W.Rep F v (.lst l)) (hn : allInts l = some ns) (h64 : ns.length < 64)
    (q : ∀ v F' s', Step W env vars m F σ s F' σ s' → RepR W F' s.heap s' v (.new ((sortInts ns).map MV.int)) → Q v s') : wpAny W.M A (call (.builtin "sorted") [v]) Q E s := by
  obtain ⟨a, vs, n, rfl, ha, rs⟩ := r.lst_inv
  have hI := rs.intsAre hn
  have hL : s.heap.IsList a vs.toArray := ⟨_, h.frz _ _ ha, rfl, n, rfl⟩
  have h64' : vs.length < 64 := by rw [hI.length]; exact h64
  refine sorted_ints hL hI h64' fun out ns' a1 a2 a3 => ?_
  obtain ⟨e, he⟩ := sortedAll_at s.heap vs out
  have old : ∀ b o, s.heap.get? b = some o → (sortedAll s.heap vs out).get? b = some o := fun _ _ => sortedAll_old
  have st := Step.ext h (H := sortedAll s.heap vs out) (tk := s.toks) old
  have hns : ns' = sortInts ns := sorted_unique (a2.trans (sortInts_perm ns).symm) a3 (sortInts_sorted ns)
  subst hns
  have hnone : s.heap.get? (s.heap.objs.size + 1) = none := by
    cases hq : s.heap.get? (s.heap.objs.size + 1) with
    | none => rfl
    | some o => exact absurd (Heap.lt_size hq) (Nat.not_lt.mpr (Nat.le_succ _))
  refine q _ F _ st ⟨_, out.toList, e, rfl, hnone, by rw [Array.toArray_toList]; exact he, Reps.ints a1, ?_⟩
  cases hq : F (s.heap.objs.size + 1) with
  | none => rfl
  | some o => rw [h.frz _ _ hq] at hnone; cases hnone

theorem op_min (hA : AOk A k) (h : Rl W env vars m F σ s) {i j : Int} {t u : Tok}
    (q : ∀ v s', Step W env vars m F σ s F σ s' → W.Rep F v (.int (if j < i then j else i)) → Q v s') : wpAny W.M A (call (.builtin "min") [.int i t, .int j u]) Q E s := by
  refine min_two_ints hA.handled fun h' tk hk => ?_
  refine q _ _ (Step.ext h hk) ?_
  split
  · exact .int _ _
  · exact .int _ _

theorem bits_len {i : Int} (h : 0 ≤ i) : Builtin.Int.intBits i = bitLen i.toNat := by
  unfold Builtin.Int.intBits bitLen
  by_cases h0 : i = 0
  · subst h0; simp
  · have h1 : ¬ i.toNat = 0 := by (first | lia | omega)
    have h2 : i.natAbs = i.toNat := by (first | lia | omega)
    simp [h0, h1, h2]
end
end Mine

end
-- ChkA
section
set_option autoImplicit false
set_option maxRecDepth 100000
set_option bootstrap.genMatcherCode false
namespace Mine
open PySem PySem.Calls PyProof.Rows

noncomputable def isGlob (sc : Scope) (x : Str) : Bool := decide (sc.names.lookup x = some .globalImplicit) && !(x == ("__debug__" : Str))
noncomputable def isVar (sc : Scope) (x : Str) : Bool := (decide (sc.names.lookup x = some .local) || decide (sc.names.lookup x = some .cell)) && !(x == ("__debug__" : Str))
noncomputable def relab (scope sc : Scope) : Scope :=
  { scope with names := scope.names.map fun (n, k) => if (k == .free && sc.kind == .function && sc.names.lookup n == some .cell) then (n, .cell) else (n, k) }

/-- a comprehension's scope within sc: its own name x, free names that are cells of sc -/
noncomputable def okComp (scope sc : Scope) (vars : List Str) (x : Str) : Bool :=
  decide (scope.kind = .function) && decide (sc.kind = .function) && decide (scope.names.lookup x = some .local) && !vars.contains x && !vars.contains (".0" : Str) &&
  scope.names.all (fun y => decide (y.2 = .free) && decide (sc.names.lookup y.1 = some .cell) || decide (y.2 = .local) && (y.1 == x || y.1 == (".0" : Str)) && decide (scope.names.lookup y.1 = some .local) || decide (y.2 = .globalImplicit))

noncomputable def plainIter : PySem.Expr → Bool
  | .Name .. | .Call .. | .Subscript .. => true
  | _ => false

noncomputable def onName (e : PySem.Expr) (k : Str → Pos → Bool) : Bool :=
  if hc : e.ctorIdx = 23 then PySem.Expr.Name.elim (motive_1 := fun _ => Bool) e hc k else false
theorem elName {e : PySem.Expr} {k : Str → Pos → Bool} {C : PySem.Expr → Prop} (h : onName e k = true) (H : ∀ x p, k x p = true → C (.Name x p)) : C e := by
  by_cases hc : e.ctorIdx = 23
  · exact PySem.Expr.Name.elim (motive_1 := fun e => onName e k = true → C e) e hc (fun x p h => H x p h) h
  · rw [onName, dif_neg hc] at h; cases h

noncomputable def onConst (e : PySem.Expr) (k : Const → Nat → Pos → Bool) : Bool :=
  if hc : e.ctorIdx = 19 then PySem.Expr.Constant.elim (motive_1 := fun _ => Bool) e hc k else false
theorem elConst {e : PySem.Expr} {k : Const → Nat → Pos → Bool} {C : PySem.Expr → Prop} (h : onConst e k = true) (H : ∀ c n p, k c n p = true → C (.Constant c n p)) : C e := by
  by_cases hc : e.ctorIdx = 19
  · exact PySem.Expr.Constant.elim (motive_1 := fun e => onConst e k = true → C e) e hc (fun c n p h => H c n p h) h
  · rw [onConst, dif_neg hc] at h; cases h

noncomputable def onBin (e : PySem.Expr) (k : PySem.Expr → Operator → PySem.Expr → Pos → Bool) : Bool :=
  if hc : e.ctorIdx = 2 then PySem.Expr.BinOp.elim (motive_1 := fun _ => Bool) e hc k else false
theorem elBin {e : PySem.Expr} {k : PySem.Expr → Operator → PySem.Expr → Pos → Bool} {C : PySem.Expr → Prop} (h : onBin e k = true) (H : ∀ l o r p, k l o r p = true → C (.BinOp l o r p)) : C e := by
  by_cases hc : e.ctorIdx = 2
  · exact PySem.Expr.BinOp.elim (motive_1 := fun e => onBin e k = true → C e) e hc (fun l o r p h => H l o r p h) h
  · rw [onBin, dif_neg hc] at h; cases h

noncomputable def onUn (e : PySem.Expr) (k : UnaryOp → PySem.Expr → Pos → Bool) : Bool :=
  if hc : e.ctorIdx = 3 then PySem.Expr.UnaryOp.elim (motive_1 := fun _ => Bool) e hc k else false
theorem elUn {e : PySem.Expr} {k : UnaryOp → PySem.Expr → Pos → Bool} {C : PySem.Expr → Prop} (h : onUn e k = true) (H : ∀ o x p, k o x p = true → C (.UnaryOp o x p)) : C e := by
  by_cases hc : e.ctorIdx = 3
  · exact PySem.Expr.UnaryOp.elim (motive_1 := fun e => onUn e k = true → C e) e hc (fun o x p h => H o x p h) h
  · rw [onUn, dif_neg hc] at h; cases h

noncomputable def onCmpL (e : PySem.Expr) (k : PySem.Expr → List CmpOp → List PySem.Expr → Pos → Bool) : Bool :=
  if hc : e.ctorIdx = 15 then PySem.Expr.Compare.elim (motive_1 := fun _ => Bool) e hc k else false
theorem elCmpL {e : PySem.Expr} {k : PySem.Expr → List CmpOp → List PySem.Expr → Pos → Bool} {C : PySem.Expr → Prop} (h : onCmpL e k = true) (H : ∀ l os rs p, k l os rs p = true → C (.Compare l os rs p)) : C e := by
  by_cases hc : e.ctorIdx = 15
  · exact PySem.Expr.Compare.elim (motive_1 := fun e => onCmpL e k = true → C e) e hc (fun l os rs p h => H l os rs p h) h
  · rw [onCmpL, dif_neg hc] at h; cases h

noncomputable def onBoolL (e : PySem.Expr) (k : BoolOp → List PySem.Expr → Pos → Bool) : Bool :=
  if hc : e.ctorIdx = 0 then PySem.Expr.BoolOp.elim (motive_1 := fun _ => Bool) e hc k else false
theorem elBoolL {e : PySem.Expr} {k : BoolOp → List PySem.Expr → Pos → Bool} {C : PySem.Expr → Prop} (h : onBoolL e k = true) (H : ∀ o l p, k o l p = true → C (.BoolOp o l p)) : C e := by
  by_cases hc : e.ctorIdx = 0
  · exact PySem.Expr.BoolOp.elim (motive_1 := fun e => onBoolL e k = true → C e) e hc (fun o l p h => H o l p h) h
  · rw [onBoolL, dif_neg hc] at h; cases h

noncomputable def onIf (e : PySem.Expr) (k : PySem.Expr → PySem.Expr → PySem.Expr → Pos → Bool) : Bool :=
  if hc : e.ctorIdx = 5 then PySem.Expr.IfExp.elim (motive_1 := fun _ => Bool) e hc k else false
theorem elIf {e : PySem.Expr} {k : PySem.Expr → PySem.Expr → PySem.Expr → Pos → Bool} {C : PySem.Expr → Prop} (h : onIf e k = true) (H : ∀ t x y p, k t x y p = true → C (.IfExp t x y p)) : C e := by
  by_cases hc : e.ctorIdx = 5
  · exact PySem.Expr.IfExp.elim (motive_1 := fun e => onIf e k = true → C e) e hc (fun t x y p h => H t x y p h) h
  · rw [onIf, dif_neg hc] at h; cases h

noncomputable def onCallK (e : PySem.Expr) (k : PySem.Expr → List PySem.Expr → List Keyword → Pos → Bool) : Bool :=
  if hc : e.ctorIdx = 16 then PySem.Expr.Call.elim (motive_1 := fun _ => Bool) e hc k else false
theorem elCallK {e : PySem.Expr} {k : PySem.Expr → List PySem.Expr → List Keyword → Pos → Bool} {C : PySem.Expr → Prop} (h : onCallK e k = true) (H : ∀ f l ks p, k f l ks p = true → C (.Call f l ks p)) : C e := by
  by_cases hc : e.ctorIdx = 16
  · exact PySem.Expr.Call.elim (motive_1 := fun e => onCallK e k = true → C e) e hc (fun f l ks p h => H f l ks p h) h
  · rw [onCallK, dif_neg hc] at h; cases h

noncomputable def onSub (e : PySem.Expr) (k : PySem.Expr → PySem.Expr → Pos → Bool) : Bool :=
  if hc : e.ctorIdx = 21 then PySem.Expr.Subscript.elim (motive_1 := fun _ => Bool) e hc k else false
theorem elSub {e : PySem.Expr} {k : PySem.Expr → PySem.Expr → Pos → Bool} {C : PySem.Expr → Prop} (h : onSub e k = true) (H : ∀ a g p, k a g p = true → C (.Subscript a g p)) : C e := by
  by_cases hc : e.ctorIdx = 21
  · exact PySem.Expr.Subscript.elim (motive_1 := fun e => onSub e k = true → C e) e hc (fun a g p h => H a g p h) h
  · rw [onSub, dif_neg hc] at h; cases h

noncomputable def onAttr (e : PySem.Expr) (k : PySem.Expr → Str → Pos → Bool) : Bool :=
  if hc : e.ctorIdx = 20 then PySem.Expr.Attribute.elim (motive_1 := fun _ => Bool) e hc k else false
theorem elAttr {e : PySem.Expr} {k : PySem.Expr → Str → Pos → Bool} {C : PySem.Expr → Prop} (h : onAttr e k = true) (H : ∀ a n p, k a n p = true → C (.Attribute a n p)) : C e := by
  by_cases hc : e.ctorIdx = 20
  · exact PySem.Expr.Attribute.elim (motive_1 := fun e => onAttr e k = true → C e) e hc (fun a n p h => H a n p h) h
  · rw [onAttr, dif_neg hc] at h; cases h

noncomputable def onSliceS (e : PySem.Expr) (k : Option PySem.Expr → Option PySem.Expr → Option PySem.Expr → Pos → Bool) : Bool :=
  if hc : e.ctorIdx = 26 then PySem.Expr.Slice.elim (motive_1 := fun _ => Bool) e hc k else false
theorem elSliceS {e : PySem.Expr} {k : Option PySem.Expr → Option PySem.Expr → Option PySem.Expr → Pos → Bool} {C : PySem.Expr → Prop} (h : onSliceS e k = true) (H : ∀ l u s p, k l u s p = true → C (.Slice l u s p)) : C e := by
  by_cases hc : e.ctorIdx = 26
  · exact PySem.Expr.Slice.elim (motive_1 := fun e => onSliceS e k = true → C e) e hc (fun l u s p h => H l u s p h) h
  · rw [onSliceS, dif_neg hc] at h; cases h

noncomputable def onList (e : PySem.Expr) (k : List PySem.Expr → Pos → Bool) : Bool :=
  if hc : e.ctorIdx = 24 then PySem.Expr.List.elim (motive_1 := fun _ => Bool) e hc k else false
theorem elList {e : PySem.Expr} {k : List PySem.Expr → Pos → Bool} {C : PySem.Expr → Prop} (h : onList e k = true) (H : ∀ l p, k l p = true → C (.List l p)) : C e := by
  by_cases hc : e.ctorIdx = 24
  · exact PySem.Expr.List.elim (motive_1 := fun e => onList e k = true → C e) e hc (fun l p h => H l p h) h
  · rw [onList, dif_neg hc] at h; cases h

noncomputable def onTup (e : PySem.Expr) (k : List PySem.Expr → Nat → Pos → Bool) : Bool :=
  if hc : e.ctorIdx = 25 then PySem.Expr.Tuple.elim (motive_1 := fun _ => Bool) e hc k else false
theorem elTup {e : PySem.Expr} {k : List PySem.Expr → Nat → Pos → Bool} {C : PySem.Expr → Prop} (h : onTup e k = true) (H : ∀ l n p, k l n p = true → C (.Tuple l n p)) : C e := by
  by_cases hc : e.ctorIdx = 25
  · exact PySem.Expr.Tuple.elim (motive_1 := fun e => onTup e k = true → C e) e hc (fun l n p h => H l n p h) h
  · rw [onTup, dif_neg hc] at h; cases h

noncomputable def onCompL (e : PySem.Expr) (k : PySem.Expr → List Comprehension → Scope → Pos → Bool) : Bool :=
  if hc : e.ctorIdx = 8 then PySem.Expr.ListComp.elim (motive_1 := fun _ => Bool) e hc k else false
theorem elCompL {e : PySem.Expr} {k : PySem.Expr → List Comprehension → Scope → Pos → Bool} {C : PySem.Expr → Prop} (h : onCompL e k = true) (H : ∀ e g s p, k e g s p = true → C (.ListComp e g s p)) : C e := by
  by_cases hc : e.ctorIdx = 8
  · exact PySem.Expr.ListComp.elim (motive_1 := fun e => onCompL e k = true → C e) e hc (fun e g s p h => H e g s p h) h
  · rw [onCompL, dif_neg hc] at h; cases h

noncomputable def onAssignL (e : PySem.Stmt) (k : List PySem.Expr → PySem.Expr → Pos → Bool) : Bool :=
  if hc : e.ctorIdx = 5 then PySem.Stmt.Assign.elim (motive_2 := fun _ => Bool) e hc k else false
theorem elAssignL {e : PySem.Stmt} {k : List PySem.Expr → PySem.Expr → Pos → Bool} {C : PySem.Stmt → Prop} (h : onAssignL e k = true) (H : ∀ t v p, k t v p = true → C (.Assign t v p)) : C e := by
  by_cases hc : e.ctorIdx = 5
  · exact PySem.Stmt.Assign.elim (motive_2 := fun e => onAssignL e k = true → C e) e hc (fun t v p h => H t v p h) h
  · rw [onAssignL, dif_neg hc] at h; cases h

noncomputable def onExprS (e : PySem.Stmt) (k : PySem.Expr → Pos → Bool) : Bool :=
  if hc : e.ctorIdx = 24 then PySem.Stmt.Expr.elim (motive_2 := fun _ => Bool) e hc k else false
theorem elExprS {e : PySem.Stmt} {k : PySem.Expr → Pos → Bool} {C : PySem.Stmt → Prop} (h : onExprS e k = true) (H : ∀ v p, k v p = true → C (.Expr v p)) : C e := by
  by_cases hc : e.ctorIdx = 24
  · exact PySem.Stmt.Expr.elim (motive_2 := fun e => onExprS e k = true → C e) e hc (fun v p h => H v p h) h
  · rw [onExprS, dif_neg hc] at h; cases h

noncomputable def onAugE (e : PySem.Stmt) (k : PySem.Expr → Operator → PySem.Expr → Pos → Bool) : Bool :=
  if hc : e.ctorIdx = 7 then PySem.Stmt.AugAssign.elim (motive_2 := fun _ => Bool) e hc k else false
theorem elAugE {e : PySem.Stmt} {k : PySem.Expr → Operator → PySem.Expr → Pos → Bool} {C : PySem.Stmt → Prop} (h : onAugE e k = true) (H : ∀ t o v p, k t o v p = true → C (.AugAssign t o v p)) : C e := by
  by_cases hc : e.ctorIdx = 7
  · exact PySem.Stmt.AugAssign.elim (motive_2 := fun e => onAugE e k = true → C e) e hc (fun t o v p h => H t o v p h) h
  · rw [onAugE, dif_neg hc] at h; cases h

noncomputable def onIfS (e : PySem.Stmt) (k : PySem.Expr → List Stmt → List Stmt → Pos → Bool) : Bool :=
  if hc : e.ctorIdx = 12 then PySem.Stmt.If.elim (motive_2 := fun _ => Bool) e hc k else false
theorem elIfS {e : PySem.Stmt} {k : PySem.Expr → List Stmt → List Stmt → Pos → Bool} {C : PySem.Stmt → Prop} (h : onIfS e k = true) (H : ∀ t x y p, k t x y p = true → C (.If t x y p)) : C e := by
  by_cases hc : e.ctorIdx = 12
  · exact PySem.Stmt.If.elim (motive_2 := fun e => onIfS e k = true → C e) e hc (fun t x y p h => H t x y p h) h
  · rw [onIfS, dif_neg hc] at h; cases h

noncomputable def onWhileL (e : PySem.Stmt) (k : PySem.Expr → List Stmt → List Stmt → Pos → Bool) : Bool :=
  if hc : e.ctorIdx = 11 then PySem.Stmt.While.elim (motive_2 := fun _ => Bool) e hc k else false
theorem elWhileL {e : PySem.Stmt} {k : PySem.Expr → List Stmt → List Stmt → Pos → Bool} {C : PySem.Stmt → Prop} (h : onWhileL e k = true) (H : ∀ t x y p, k t x y p = true → C (.While t x y p)) : C e := by
  by_cases hc : e.ctorIdx = 11
  · exact PySem.Stmt.While.elim (motive_2 := fun e => onWhileL e k = true → C e) e hc (fun t x y p h => H t x y p h) h
  · rw [onWhileL, dif_neg hc] at h; cases h

noncomputable def onForL (e : PySem.Stmt) (k : PySem.Expr → PySem.Expr → List Stmt → List Stmt → Pos → Bool) : Bool :=
  if hc : e.ctorIdx = 9 then PySem.Stmt.For.elim (motive_2 := fun _ => Bool) e hc k else false
theorem elForL {e : PySem.Stmt} {k : PySem.Expr → PySem.Expr → List Stmt → List Stmt → Pos → Bool} {C : PySem.Stmt → Prop} (h : onForL e k = true) (H : ∀ t i b y p, k t i b y p = true → C (.For t i b y p)) : C e := by
  by_cases hc : e.ctorIdx = 9
  · exact PySem.Stmt.For.elim (motive_2 := fun e => onForL e k = true → C e) e hc (fun t i b y p h => H t i b y p h) h
  · rw [onForL, dif_neg hc] at h; cases h

noncomputable def onRetO (e : PySem.Stmt) (k : Option PySem.Expr → Pos → Bool) : Bool :=
  if hc : e.ctorIdx = 3 then PySem.Stmt.Return.elim (motive_2 := fun _ => Bool) e hc k else false
theorem elRetO {e : PySem.Stmt} {k : Option PySem.Expr → Pos → Bool} {C : PySem.Stmt → Prop} (h : onRetO e k = true) (H : ∀ v p, k v p = true → C (.Return v p)) : C e := by
  by_cases hc : e.ctorIdx = 3
  · exact PySem.Stmt.Return.elim (motive_2 := fun e => onRetO e k = true → C e) e hc (fun v p h => H v p h) h
  · rw [onRetO, dif_neg hc] at h; cases h


noncomputable def on0 {α : Type} (l : List α) (b : Bool) : Bool := match l with
  | [] => b
  | _ :: _ => false
theorem el0 {α : Type} {l : List α} {b : Bool} {C : List α → Prop} (h : on0 l b = true) (H : b = true → C []) : C l := by
  cases l with
  | nil => exact H h
  | cons _ _ => cases h
noncomputable def onC {α : Type} (l : List α) (k : α → List α → Bool) : Bool := match l with
  | [] => false
  | a :: r => k a r
theorem elC {α : Type} {l : List α} {k : α → List α → Bool} {C : List α → Prop} (h : onC l k = true) (H : ∀ a r, k a r = true → C (a :: r)) : C l := by
  cases l with
  | nil => cases h
  | cons a r => exact H a r h
noncomputable def onO {α : Type} (l : Option α) (k : α → Bool) : Bool := match l with
  | none => false
  | some a => k a
theorem elO {α : Type} {l : Option α} {k : α → Bool} {C : Option α → Prop} (h : onO l k = true) (H : ∀ a, k a = true → C (some a)) : C l := by
  cases l with
  | none => cases h
  | some a => exact H a h
noncomputable def onN {α : Type} (l : Option α) (b : Bool) : Bool := match l with
  | none => b
  | some _ => false
theorem elN {α : Type} {l : Option α} {b : Bool} {C : Option α → Prop} (h : onN l b = true) (H : b = true → C none) : C l := by
  cases l with
  | none => exact H h
  | some a => cases h

noncomputable def on1 (e : List PySem.Expr) (k : PySem.Expr → Bool) : Bool := onC e fun a r => on0 r (k a)
theorem el1 {e : List PySem.Expr} {k : PySem.Expr → Bool} {C : List PySem.Expr → Prop} (h : on1 e k = true) (H : ∀ a, k a = true → C ([a])) : C e :=
  elC h fun a r h => el0 (C := fun r => C (a :: r)) h fun h => H a h

noncomputable def on2 (e : List PySem.Expr) (k : PySem.Expr → PySem.Expr → Bool) : Bool := onC e fun a r => on1 r fun b => k a b
theorem el2 {e : List PySem.Expr} {k : PySem.Expr → PySem.Expr → Bool} {C : List PySem.Expr → Prop} (h : on2 e k = true) (H : ∀ a b, k a b = true → C ([a, b])) : C e :=
  elC h fun a r h => el1 (C := fun r => C (a :: r)) h fun b h => H a b h

noncomputable def on3 (e : List PySem.Expr) (k : PySem.Expr → PySem.Expr → PySem.Expr → Bool) : Bool := onC e fun a r => on2 r fun b c => k a b c
theorem el3 {e : List PySem.Expr} {k : PySem.Expr → PySem.Expr → PySem.Expr → Bool} {C : List PySem.Expr → Prop} (h : on3 e k = true) (H : ∀ a b c, k a b c = true → C ([a, b, c])) : C e :=
  elC h fun a r h => el2 (C := fun r => C (a :: r)) h fun b c h => H a b c h

noncomputable def onInt (e : PySem.Expr) (k : Int → Nat → Pos → Bool) : Bool := onConst e fun c n p => match c with
  | .int j => k j n p
  | _ => false
theorem elInt {e : PySem.Expr} {k : Int → Nat → Pos → Bool} {C : PySem.Expr → Prop} (h : onInt e k = true) (H : ∀ j n p, k j n p = true → C (.Constant (.int j) n p)) : C e :=
  elConst h fun c n p h => by
    cases c
    case int j => exact H j n p h
    all_goals cases h
noncomputable def onBool (e : PySem.Expr) (k : Bool → Nat → Pos → Bool) : Bool := onConst e fun c n p => match c with
  | .bool j => k j n p
  | _ => false
theorem elBool {e : PySem.Expr} {k : Bool → Nat → Pos → Bool} {C : PySem.Expr → Prop} (h : onBool e k = true) (H : ∀ j n p, k j n p = true → C (.Constant (.bool j) n p)) : C e :=
  elConst h fun c n p h => by
    cases c
    case bool j => exact H j n p h
    all_goals cases h

noncomputable def onCmp (e : PySem.Expr) (k : PySem.Expr → CmpOp → PySem.Expr → Pos → Bool) : Bool := onCmpL e fun l os rs p => onC os fun o os => on0 os (on1 rs fun r => k l o r p)
theorem elCmp {e : PySem.Expr} {k : PySem.Expr → CmpOp → PySem.Expr → Pos → Bool} {C : PySem.Expr → Prop} (h : onCmp e k = true) (H : ∀ l o r p, k l o r p = true → C (.Compare l [o] [r] p)) : C e :=
  elCmpL h fun l os rs p h => elC (C := fun os => C (.Compare l os rs p)) h fun o os h => el0 (C := fun os => C (.Compare l (o :: os) rs p)) h fun h => el1 (C := fun rs => C (.Compare l [o] rs p)) h fun r h => H l o r p h

noncomputable def onBoolOp (e : PySem.Expr) (k : BoolOp → PySem.Expr → PySem.Expr → Pos → Bool) : Bool := onBoolL e fun o l p => on2 l fun x y => k o x y p
theorem elBoolOp {e : PySem.Expr} {k : BoolOp → PySem.Expr → PySem.Expr → Pos → Bool} {C : PySem.Expr → Prop} (h : onBoolOp e k = true) (H : ∀ o x y p, k o x y p = true → C (.BoolOp o [x, y] p)) : C e :=
  elBoolL h fun o l p h => el2 (C := fun l => C (.BoolOp o l p)) h fun x y h => H o x y p h

noncomputable def onCallE (e : PySem.Expr) (k : PySem.Expr → List PySem.Expr → Pos → Bool) : Bool := onCallK e fun f l ks p => on0 ks (k f l p)
theorem elCallE {e : PySem.Expr} {k : PySem.Expr → List PySem.Expr → Pos → Bool} {C : PySem.Expr → Prop} (h : onCallE e k = true) (H : ∀ f l p, k f l p = true → C (.Call f l [] p)) : C e :=
  elCallK h fun f l ks p h => el0 (C := fun ks => C (.Call f l ks p)) h fun h => H f l p h

noncomputable def onCall (e : PySem.Expr) (k : Str → Pos → List PySem.Expr → Pos → Bool) : Bool := onCallE e fun f l p => onName f fun x p1 => k x p1 l p
theorem elCall {e : PySem.Expr} {k : Str → Pos → List PySem.Expr → Pos → Bool} {C : PySem.Expr → Prop} (h : onCall e k = true) (H : ∀ x p1 l p, k x p1 l p = true → C (.Call (.Name x p1) l [] p)) : C e :=
  elCallE h fun f l p h => elName (C := fun f => C (.Call f l [] p)) h fun x p1 h => H x p1 l p h

noncomputable def onSubN (e : PySem.Expr) (k : Str → Pos → PySem.Expr → Pos → Bool) : Bool := onSub e fun a g p => onName a fun x p1 => k x p1 g p
theorem elSubN {e : PySem.Expr} {k : Str → Pos → PySem.Expr → Pos → Bool} {C : PySem.Expr → Prop} (h : onSubN e k = true) (H : ∀ x p1 g p, k x p1 g p = true → C (.Subscript (.Name x p1) g p)) : C e :=
  elSub h fun a g p h => elName (C := fun a => C (.Subscript a g p)) h fun x p1 h => H x p1 g p h

noncomputable def onSlice (e : PySem.Expr) (k : Option PySem.Expr → Option PySem.Expr → Pos → Bool) : Bool := onSliceS e fun l u s p => onN s (k l u p)
theorem elSlice {e : PySem.Expr} {k : Option PySem.Expr → Option PySem.Expr → Pos → Bool} {C : PySem.Expr → Prop} (h : onSlice e k = true) (H : ∀ l u p, k l u p = true → C (.Slice l u none p)) : C e :=
  elSliceS h fun l u s p h => elN (C := fun s => C (.Slice l u s p)) h fun h => H l u p h

noncomputable def onBits (e : PySem.Expr) (k : PySem.Expr → PySem.Expr → Pos → Str → Pos → Pos → Bool) : Bool := onCallE e fun f l p => onAttr f fun a nm p2 => onSub a fun v i p1 => on0 l (k v i p1 nm p2 p)
theorem elBits {e : PySem.Expr} {k : PySem.Expr → PySem.Expr → Pos → Str → Pos → Pos → Bool} {C : PySem.Expr → Prop} (h : onBits e k = true) (H : ∀ v i p1 nm p2 p, k v i p1 nm p2 p = true → C (.Call (.Attribute (.Subscript v i p1) nm p2) [] [] p)) : C e :=
  elCallE h fun f l p h => elAttr (C := fun f => C (.Call f l [] p)) h fun a nm p2 h => elSub (C := fun a => C (.Call (.Attribute a nm p2) l [] p)) h fun v i p1 h => el0 (C := fun l => C (.Call (.Attribute (.Subscript v i p1) nm p2) l [] p)) h fun h => H v i p1 nm p2 p h

noncomputable def onAppend (e : PySem.Expr) (k : Str → Pos → Str → Pos → PySem.Expr → Pos → Bool) : Bool := onCallE e fun f l p => onAttr f fun a nm p2 => onName a fun n p1 => on1 l fun g => k n p1 nm p2 g p
theorem elAppend {e : PySem.Expr} {k : Str → Pos → Str → Pos → PySem.Expr → Pos → Bool} {C : PySem.Expr → Prop} (h : onAppend e k = true) (H : ∀ n p1 nm p2 g p, k n p1 nm p2 g p = true → C (.Call (.Attribute (.Name n p1) nm p2) [g] [] p)) : C e :=
  elCallE h fun f l p h => elAttr (C := fun f => C (.Call f l [] p)) h fun a nm p2 h => elName (C := fun a => C (.Call (.Attribute a nm p2) l [] p)) h fun n p1 h => el1 (C := fun l => C (.Call (.Attribute (.Name n p1) nm p2) l [] p)) h fun g h => H n p1 nm p2 g p h

noncomputable def onTwo (e : PySem.Expr) (k : Str → Pos → Str → Pos → Nat → Pos → Bool) : Bool := onTup e fun l c p => on2 l fun a b => onName a fun n p1 => onName b fun m p2 => k n p1 m p2 c p
theorem elTwo {e : PySem.Expr} {k : Str → Pos → Str → Pos → Nat → Pos → Bool} {C : PySem.Expr → Prop} (h : onTwo e k = true) (H : ∀ n p1 m p2 c p, k n p1 m p2 c p = true → C (.Tuple [.Name n p1, .Name m p2] c p)) : C e :=
  elTup h fun l c p h => el2 (C := fun l => C (.Tuple l c p)) h fun a b h => elName (C := fun a => C (.Tuple [a, b] c p)) h fun n p1 h => elName (C := fun b => C (.Tuple [.Name n p1, b] c p)) h fun m p2 h => H n p1 m p2 c p h

noncomputable def onComp (e : PySem.Expr) (k : PySem.Expr → Str → Pos → PySem.Expr → List PySem.Expr → Scope → Pos → Bool) : Bool :=
  onCompL e fun e g s p => onC g fun c g => on0 g (onName c.target fun x p1 => decide (c.is_async = 0) && k e x p1 c.iter c.ifs s p)
theorem elComp {e : PySem.Expr} {k : PySem.Expr → Str → Pos → PySem.Expr → List PySem.Expr → Scope → Pos → Bool} {C : PySem.Expr → Prop} (h : onComp e k = true)
    (H : ∀ e x p1 i ifs s p, k e x p1 i ifs s p = true → C (.ListComp e [⟨.Name x p1, i, ifs, 0⟩] s p)) : C e :=
  elCompL h fun e g s p h => elC (C := fun g => C (.ListComp e g s p)) h fun c g h => el0 (C := fun g => C (.ListComp e (c :: g) s p)) h fun h => by
    cases c with | mk t i ifs n =>
    refine elName (C := fun t => C (.ListComp e [⟨t, i, ifs, n⟩] s p)) h fun x p1 h => ?_
    rw [Bool.and_eq_true, decide_eq_true_eq] at h
    obtain ⟨h1, h2⟩ := h
    cases h1
    exact H e x p1 i ifs s p h2
noncomputable def onFirst (e : List PySem.Expr) (k : Str → Pos → List PySem.Expr → Bool) : Bool := onC e fun a r => onName a fun y p => k y p r
theorem elFirst {e : List PySem.Expr} {k : Str → Pos → List PySem.Expr → Bool} {C : List PySem.Expr → Prop} (h : onFirst e k = true) (H : ∀ y p r, k y p r = true → C (.Name y p :: r)) : C e :=
  elC h fun a r h => elName (C := fun a => C (a :: r)) h fun y p h => H y p r h

noncomputable def onAssign (e : PySem.Stmt) (k : PySem.Expr → PySem.Expr → Pos → Bool) : Bool := onAssignL e fun l v p => on1 l fun t => k t v p
theorem elAssign {e : PySem.Stmt} {k : PySem.Expr → PySem.Expr → Pos → Bool} {C : PySem.Stmt → Prop} (h : onAssign e k = true) (H : ∀ t v p, k t v p = true → C (.Assign [t] v p)) : C e :=
  elAssignL h fun l v p h => el1 (C := fun l => C (.Assign l v p)) h fun t h => H t v p h

noncomputable def onAug (e : PySem.Stmt) (k : Str → Pos → Operator → PySem.Expr → Pos → Bool) : Bool := onAugE e fun t o v p => onName t fun n p1 => k n p1 o v p
theorem elAug {e : PySem.Stmt} {k : Str → Pos → Operator → PySem.Expr → Pos → Bool} {C : PySem.Stmt → Prop} (h : onAug e k = true) (H : ∀ n p1 o v p, k n p1 o v p = true → C (.AugAssign (.Name n p1) o v p)) : C e :=
  elAugE h fun t o v p h => elName (C := fun t => C (.AugAssign t o v p)) h fun n p1 h => H n p1 o v p h

noncomputable def onWhile (e : PySem.Stmt) (k : PySem.Expr → List Stmt → Pos → Bool) : Bool := onWhileL e fun t x y p => on0 y (k t x p)
theorem elWhile {e : PySem.Stmt} {k : PySem.Expr → List Stmt → Pos → Bool} {C : PySem.Stmt → Prop} (h : onWhile e k = true) (H : ∀ t x p, k t x p = true → C (.While t x [] p)) : C e :=
  elWhileL h fun t x y p h => el0 (C := fun y => C (.While t x y p)) h fun h => H t x p h

noncomputable def onFor (e : PySem.Stmt) (k : PySem.Expr → PySem.Expr → List Stmt → Pos → Bool) : Bool := onForL e fun t i b y p => on0 y (k t i b p)
theorem elFor {e : PySem.Stmt} {k : PySem.Expr → PySem.Expr → List Stmt → Pos → Bool} {C : PySem.Stmt → Prop} (h : onFor e k = true) (H : ∀ t i b p, k t i b p = true → C (.For t i b [] p)) : C e :=
  elForL h fun t i b y p h => el0 (C := fun y => C (.For t i b y p)) h fun h => H t i b p h

noncomputable def onRet (e : PySem.Stmt) (k : PySem.Expr → Pos → Bool) : Bool := onRetO e fun v p => onO v fun v => k v p
theorem elRet {e : PySem.Stmt} {k : PySem.Expr → Pos → Bool} {C : PySem.Stmt → Prop} (h : onRet e k = true) (H : ∀ v p, k v p = true → C (.Return (some v) p)) : C e :=
  elRetO h fun v p h => elO (C := fun v => C (.Return v p)) h fun v h => H v p h

section
variable (fns : List Str)
mutual
noncomputable def okE : IE → Scope → List Str → PySem.Expr → Bool
  | .int i, _, _, ex => onInt ex fun j _ _ => decide (i = j)
  | .bool b, _, _, ex => onBool ex fun c _ _ => b == c
  | .var i, sc, vars, ex => onName ex fun x _ => decide (vars[i]? = some x) && isVar sc x
  | .fn f, sc, _, ex => onName ex fun x _ => decide (fns[f]? = some x) && isGlob sc x
  | .bin o a b, sc, vars, ex => onBin ex fun l op r _ => okOp o op && okE a sc vars l && okE b sc vars r
  | .neg a, sc, vars, ex => onUn ex fun op x _ => decide (op = .USub) && okE a sc vars x
  | .not a, sc, vars, ex => onUn ex fun op x _ => decide (op = .Not) && okE a sc vars x
  | .cmp o a b, sc, vars, ex => onCmp ex fun l op r _ => okC o op && !behindInMarks op r && okE a sc vars l && okE b sc vars r
  | .and a b, sc, vars, ex => onBoolOp ex fun op x y _ => decide (op = .And) && okE a sc vars x && okE b sc vars y
  | .or a b, sc, vars, ex => onBoolOp ex fun op x y _ => decide (op = .Or) && okE a sc vars x && okE b sc vars y
  | .ite c a b, sc, vars, ex => onIf ex fun t x y _ => okE c sc vars t && okE a sc vars x && okE b sc vars y
  | .call f as, sc, vars, ex => onCall ex fun x _ l _ => decide (fns[f]? = some x) && isGlob sc x && okEs as sc vars l && !l.isEmpty
  | .callv i as, sc, vars, ex => onCall ex fun x _ l _ => decide (vars[i]? = some x) && isVar sc x && okEs as sc vars l && !l.isEmpty
  | .lend f i as, sc, vars, ex => onCall ex fun x _ l _ => onFirst l fun y _ r => decide (fns[f]? = some x) && isGlob sc x && decide (vars[i]? = some y) && isVar sc y && okEs as sc vars r
  | .len a, sc, vars, ex => onCall ex fun x _ l _ => on1 l fun e => x == ("len" : Str) && isGlob sc x && okE a sc vars e
  | .lenv i, sc, vars, ex => onCall ex fun x _ l _ => on1 l fun e => onName e fun y _ => x == ("len" : Str) && isGlob sc x && decide (vars[i]? = some y) && isVar sc y
  | .abs a, sc, vars, ex => onCall ex fun x _ l _ => on1 l fun e => x == ("abs" : Str) && isGlob sc x && okE a sc vars e
  | .toInt a, sc, vars, ex => onCall ex fun x _ l _ => on1 l fun e => x == ("int" : Str) && isGlob sc x && okE a sc vars e
  | .min a b, sc, vars, ex => onCall ex fun x _ l _ => on2 l fun e g => x == ("min" : Str) && isGlob sc x && okE a sc vars e && okE b sc vars g
  | .sorted a, sc, vars, ex => onCall ex fun x _ l _ => on1 l fun e => x == ("sorted" : Str) && isGlob sc x && okE a sc vars e
  | .bits a, sc, vars, ex => onBits ex fun v i p1 nm p2 p => nm == ("bit_length" : Str) && p2.endLine == p.line && okE a sc vars (.Subscript v i p1)
  | .idx a i, sc, vars, ex => onSub ex fun e g _ => !isSlice g && okE a sc vars e && okE i sc vars g
  | .idxv j i, sc, vars, ex => onSubN ex fun x _ g _ => !isSlice g && decide (vars[j]? = some x) && isVar sc x && okE i sc vars g
  | .slicev j lo hi, sc, vars, ex => onSubN ex fun x _ g _ => onSlice g fun l u _ => decide (vars[j]? = some x) && isVar sc x && okP lo sc vars l && okP hi sc vars u
  | .list es, sc, vars, ex => onList ex fun l _ => okEs es sc vars l
  | .tup es, sc, vars, ex => onTup ex fun l _ _ => okEs es sc vars l
  | .comp elt it, sc, vars, ex => onComp ex fun e x _ iter ifs scope _ => on0 ifs (okComp scope sc vars x && plainIter iter && okT it sc vars iter && okE elt (relab scope sc) (vars ++ [x]) e)
  | .compIf elt cond it, sc, vars, ex => onComp ex fun e x _ iter ifs scope _ => on1 ifs fun c => okComp scope sc vars x && plainIter iter && okT it sc vars iter && okE elt (relab scope sc) (vars ++ [x]) e && okE cond (relab scope sc) (vars ++ [x]) c
  | .none, _, _, _ => false
noncomputable def okP : IE → Scope → List Str → Option PySem.Expr → Bool
  | .none, _, _, e => onN e true
  | .int i, _, _, e => onO e fun e => onInt e fun j _ _ => decide (i = j)
  | .var i, sc, vars, e => onO e fun e => onName e fun x _ => decide (vars[i]? = some x) && isVar sc x
  | .bin o a b, sc, vars, e => onO e fun e => onBin e fun l op r _ => okOp o op && okE a sc vars l && okE b sc vars r
  | _, _, _, _ => false
noncomputable def okEs : List IE → Scope → List Str → List PySem.Expr → Bool
  | [], _, _, l => on0 l true
  | a :: r, sc, vars, l => onC l fun e t => okE a sc vars e && okEs r sc vars t
noncomputable def okT : IT → Scope → List Str → PySem.Expr → Bool
  | .seq a, sc, vars, e => okE a sc vars e
  | .range1 a, sc, vars, ex => onCall ex fun x _ l _ => on1 l fun e => x == ("range" : Str) && isGlob sc x && okE a sc vars e
  | .range2 a b, sc, vars, ex => onCall ex fun x _ l _ => on2 l fun e g => x == ("range" : Str) && isGlob sc x && okE a sc vars e && okE b sc vars g
  | .down a b, sc, vars, ex => onCall ex fun x _ l _ => on3 l fun e g z => onUn z fun op n _ => onInt n fun j _ _ => x == ("range" : Str) && isGlob sc x && okE a sc vars e && okE b sc vars g && decide (op = .USub) && decide (j = 1)
end

noncomputable def notComp : PySem.Expr → Bool
  | .ListComp .. | .SetComp .. | .DictComp .. => false
  | _ => true
noncomputable def varsAre (sc : Scope) (vars : List Str) : List Nat → List PySem.Expr → Bool
  | [], [] => true
  | i :: r, .Name x _ :: t => decide (vars[i]? = some x) && isVar sc x && varsAre sc vars r t
  | _, _ => false

mutual
noncomputable def okS : IS → Scope → List Str → Stmt → Bool
  | .assign x e, sc, vars, st => onAssign st fun t v _ => onName t fun n _ => decide (vars[x]? = some n) && isVar sc n && notComp v && okE fns e sc vars v
  | .assigns xs es, sc, vars, st => onAssign st fun t v _ => onTup t fun ts _ _ => onTup v fun vs _ _ => decide (xs.length < 64) && decide xs.Nodup && varsAre sc vars xs ts && okEs fns es sc vars vs && !(vs.all (constantsAlone 8))
  | .unpack xs e, sc, vars, st => onAssign st fun t v _ => onTup t fun ts _ _ => onCallK v fun f l ks p => decide xs.Nodup && varsAre sc vars xs ts && okE fns e sc vars (.Call f l ks p)
  | .setItem x i e, sc, vars, st => onAssign st fun t v _ => onSubN t fun n _ g _ => !isSlice g && decide (vars[x]? = some n) && isVar sc n && notComp v && okE fns i sc vars g && okE fns e sc vars v
  | .append x e, sc, vars, st => onExprS st fun v _ => onAppend v fun n _ nm p2 g p => nm == ("append" : Str) && p2.endLine == p.line && decide (vars[x]? = some n) && isVar sc n && okE fns e sc vars g
  | .aug x o e, sc, vars, st => onAug st fun n _ op v _ => okOp o op && decide (vars[x]? = some n) && isVar sc n && okE fns e sc vars v
  | .ite c a b, sc, vars, st => onIfS st fun t x y _ => okE fns c sc vars t && okSs a sc vars x && okSs b sc vars y
  | .loop c a, sc, vars, st => onWhile st fun t x _ => okE fns c sc vars t && okSs a sc vars x
  | .for1 x i a, sc, vars, st => onFor st fun t iter body _ => onName t fun n _ => decide (vars[x]? = some n) && isVar sc n && plainIter iter && okT fns i sc vars iter && okSs a sc vars body
  | .for2 x y e a, sc, vars, st => onFor st fun t iter body _ => onTwo t fun n _ m _ _ _ => onCall iter fun f _ l _ => on1 l fun g =>
      f == ("enumerate" : Str) && isGlob sc f && decide (vars[x]? = some n) && isVar sc n && decide (vars[y]? = some m) && isVar sc m && decide (x ≠ y) && okE fns e sc vars g && okSs a sc vars body
  | .ret e, sc, vars, st => onRet st fun v _ => okE fns e sc vars v
  | .expr e, sc, vars, st => onExprS st fun v _ => notComp v && okE fns e sc vars v
  | .fail, _, _, _ => true
noncomputable def okSs : List IS → Scope → List Str → List Stmt → Bool
  | [], _, _, l => on0 l true
  | a :: r, sc, vars, l => onC l fun s t => okS a sc vars s && okSs r sc vars t
end

noncomputable def okF (fd : IFun) (vars : List Str) (params : Arguments) (body : List Stmt) (sc : Scope) : Bool :=
  params.posonlyargs.isEmpty && params.vararg.isNone && params.kwonlyargs.isEmpty && params.kw_defaults.isEmpty && params.kwarg.isNone && params.defaults.isEmpty &&
  decide (params.args.map (·.arg) = vars.take fd.np) && decide (fd.nv = vars.length) && decide (fd.np ≤ fd.nv) && decide vars.Nodup && decide (fd.lends = true → 0 < fd.np) &&
  decide (sc.kind = .function) && !sc.isCoroutine && !sc.isGenerator && vars.all (isVar sc) && decide ((sc.names.map (·.1)).Nodup) &&
  sc.names.all (fun y => decide (y.2 = .local) || decide (y.2 = .cell) || decide (y.2 = .globalImplicit)) && okSs fns fd.body sc vars body
end
end Mine

end
-- MiniNames
section
set_option autoImplicit false
namespace Mine
noncomputable def fnames : List PySem.Str := [(.ofString "normal"), (.ofString "compare"), (.ofString "add"), (.ofString "sub"), (.ofString "divrem_limb"), (.ofString "shift_left"), (.ofString "shift_right"), (.ofString "bits"), (.ofString "signed"), (.ofString "s_neg"), (.ofString "s_compare"), (.ofString "s_add"), (.ofString "s_mul"), (.ofString "common"), (.ofString "cut_signed"), (.ofString "signed_of"), (.ofString "r_neg"), (.ofString "r_add"), (.ofString "r_sub"), (.ofString "r_compare"), (.ofString "mul_school"), (.ofString "divrem_small"), (.ofString "guessed_limb"), (.ofString "take_away"), (.ofString "put_back"), (.ofString "divide_rows"), (.ofString "divrem_school"), (.ofString "_law_rolled"), (.ofString "_law_limbs"), (.ofString "_law_least"), (.ofString "_law_gaps"), (.ofString "_law_due"), (.ofString "_law_three_right"), (.ofString "law")]
noncomputable def vnames : List (List PySem.Str) := [[(.ofString "a"), (.ofString "end")], [(.ofString "a"), (.ofString "b"), (.ofString "at")], [(.ofString "a"), (.ofString "b"), (.ofString "w"), (.ofString "found"), (.ofString "carry"), (.ofString "mask"), (.ofString "at")], [(.ofString "a"), (.ofString "b"), (.ofString "w"), (.ofString "found"), (.ofString "borrow"), (.ofString "base"), (.ofString "at"), (.ofString "limb")], [(.ofString "a"), (.ofString "limb"), (.ofString "w"), (.ofString "found"), (.ofString "rest"), (.ofString "at")], [(.ofString "a"), (.ofString "n"), (.ofString "w"), (.ofString "spots"), (.ofString "few"), (.ofString "found"), (.ofString "carry"), (.ofString "mask"), (.ofString "one")], [(.ofString "a"), (.ofString "n"), (.ofString "w"), (.ofString "spots"), (.ofString "few"), (.ofString "found"), (.ofString "mask"), (.ofString "at"), (.ofString "above")], [(.ofString "a"), (.ofString "w")], [(.ofString "is_below"), (.ofString "nat")], [(.ofString "x")], [(.ofString "x"), (.ofString "y")], [(.ofString "x"), (.ofString "y"), (.ofString "w")], [(.ofString "x"), (.ofString "y"), (.ofString "w"), (.ofString "mul")], [(.ofString "a"), (.ofString "b"), (.ofString "w"), (.ofString "divrem")], [(.ofString "x"), (.ofString "d"), (.ofString "w"), (.ofString "divrem")], [(.ofString "nat")], [(.ofString "x")], [(.ofString "x"), (.ofString "y"), (.ofString "w"), (.ofString "mul"), (.ofString "divrem"), (.ofString "told"), (.ofString "here"), (.ofString "there"), (.ofString "top"), (.ofString "out")], [(.ofString "x"), (.ofString "y"), (.ofString "w"), (.ofString "mul"), (.ofString "divrem")], [(.ofString "x"), (.ofString "y"), (.ofString "w"), (.ofString "mul")], [(.ofString "a"), (.ofString "b"), (.ofString "w"), (.ofString "found"), (.ofString "mask"), (.ofString "at"), (.ofString "limb"), (.ofString "carry"), (.ofString "spot"), (.ofString "other")], [(.ofString "a"), (.ofString "b"), (.ofString "w"), (.ofString "quotient"), (.ofString "rest")], [(.ofString "top"), (.ofString "first"), (.ofString "second"), (.ofString "w"), (.ofString "high"), (.ofString "base"), (.ofString "limb"), (.ofString "rest")], [(.ofString "rest"), (.ofString "b"), (.ofString "limb"), (.ofString "at"), (.ofString "w"), (.ofString "carry"), (.ofString "base"), (.ofString "spot"), (.ofString "other"), (.ofString "here")], [(.ofString "rest"), (.ofString "b"), (.ofString "at"), (.ofString "w"), (.ofString "carry"), (.ofString "mask"), (.ofString "spot"), (.ofString "other")], [(.ofString "rest"), (.ofString "b"), (.ofString "w"), (.ofString "size"), (.ofString "quotient"), (.ofString "at"), (.ofString "limb")], [(.ofString "a"), (.ofString "b"), (.ofString "w"), (.ofString "shift"), (.ofString "divisor"), (.ofString "rest"), (.ofString "quotient")], [(.ofString "wheel"), (.ofString "many")], [(.ofString "number"), (.ofString "w"), (.ofString "found")], [(.ofString "top"), (.ofString "bottom"), (.ofString "w"), (.ofString "here"), (.ofString "there")], [(.ofString "places"), (.ofString "w"), (.ofString "found"), (.ofString "at"), (.ofString "later")], [(.ofString "rests"), (.ofString "n"), (.ofString "w")], [(.ofString "gaps"), (.ofString "w"), (.ofString "unlike"), (.ofString "one"), (.ofString "spot")], [(.ofString "script"), (.ofString "wheel"), (.ofString "w"), (.ofString "n"), (.ofString "a"), (.ofString "order"), (.ofString "one"), (.ofString "step"), (.ofString "here"), (.ofString "gaps"), (.ofString "places"), (.ofString "rests"), (.ofString "k"), (.ofString "at"), (.ofString "whole"), (.ofString "one_gap")]]
end Mine

end
-- SimE
section
set_option autoImplicit false
set_option maxRecDepth 100000
set_option bootstrap.genMatcherCode false
namespace Mine
open PySem PySem.Calls PyProof.Rows PySem.Spec PySem.SeqAt

structure EnvOk (env : Env) (sc : Scope) : Prop where
  scope : env.scope = sc
  kind : sc.kind = .function
  globals : env.globals = mainGlobals
  builtins : env.builtins = builtinsNs

theorem EnvOk.kindOf {env : Env} {sc : Scope} (h : EnvOk env sc) (x : Str) : env.kindOf x = sc.names.lookup x := by
  unfold Env.kindOf; rw [h.scope]
theorem EnvOk.fn {env : Env} {sc : Scope} (h : EnvOk env sc) : env.scope.kind = .function := by rw [h.scope]; exact h.kind

noncomputable def names9 : List (Str × Value) := [("len", .builtin "len"), ("abs", .builtin "abs"), ("min", .builtin "min"), ("sorted", .builtin "sorted"), ("int", .type "int"), ("range", .type "range"), ("enumerate", .type "enumerate")]

structure WOk (W : Wd) : Prop where
  g : W.base.Ns mainGlobals W.mg
  b : W.base.Ns builtinsNs W.mb
  nolimit : W.base.NoLimit
  bi : ∀ p ∈ names9, W.mg p.1 = none ∧ W.mb p.1 = some p.2
  fn : ∀ (f : Nat) (x : Str), W.fns[f]? = some x → ∃ a o fd, W.mg x = some (.ref a) ∧ W.base.get? a = some o ∧ o.data = .func fd

/-- what has grown -/
structure Grow (F : Fz) (h : Heap) (F' : Fz) (h' : Heap) : Prop where
  le : ∀ a o, F a = some o → F' a = some o
  grow : ∀ a o, F' a = some o → F a = some o ∨ h.get? a = none
  frz : ∀ a o, F' a = some o → h'.get? a = some o
  seq : ∀ a o, F' a = some o → ∃ vs n, o.data = .seq vs n

/-- the table's functions do what P says -/
structure CallOk (W : Wd) (ln : Nat → Bool) (k : Nat) (P : Fns) : Prop where
  plain : ∀ (f : Nat) (x : Str) (a : Addr) (ds : List MV) (r : MV) (out : List MV), P f ds = some (r, out) → ln f = false → W.fns[f]? = some x → W.mg x = some (.ref a) →
    ∀ (A : Around) (F : Fz) (s : Shared) (vs : List Value) (Q E : Value → Shared → Prop), AOk A k → St W F s → W.Reps F vs ds →
      (∀ v F' h' tk, (∀ b o, s.heap.get? b = some o → h'.get? b = some o) → Grow F s.heap F' h' → W.Rep F' v r → Q v { s with heap := h', toks := tk }) →
      wpAny W.M A (call (.ref a) vs) Q E s
  lend : ∀ (f : Nat) (x : Str) (a : Addr) (l ds : List MV) (r : MV) (out : List MV), P f (.lst l :: ds) = some (r, out) → ln f = true → W.fns[f]? = some x → W.mg x = some (.ref a) →
    ∀ (A : Around) (F : Fz) (s : Shared) (b : Addr) (ws : List Value) (n : Nat) (vs : List Value) (Q E : Value → Shared → Prop), AOk A k → St W F s →
      s.heap.get? b = some (listO ws.toArray n) → F b = none → W.base.get? b = none → W.Reps F ws l → W.Reps F vs ds →
      (∀ v F' h' tk ws' n', (∀ c o, c ≠ b → s.heap.get? c = some o → h'.get? c = some o) → h'.get? b = some (listO (List.toArray ws') n') → Grow F s.heap F' h' → F' b = none → W.Reps F' ws' out →
        W.Rep F' v r → Q v { s with heap := h', toks := tk }) →
      wpAny W.M A (call (.ref a) (.ref b :: vs)) Q E s

section
variable {W : Wd} {A : Around} {env : Env} {sc : Scope} {vars : List Str} {m : NM} {F F₁ : Fz} {σ σ₁ : Store} {s s₁ : Shared} {E : Value → Shared → Prop} {Q : Value → Shared → Prop}

theorem isVar_iff {x : Str} (h : isVar sc x = true) : (sc.names.lookup x = some .local ∨ sc.names.lookup x = some .cell) ∧ (x == ("__debug__" : Str)) = false := by
  simpa [isVar] using h
theorem isGlob_iff {x : Str} (h : isGlob sc x = true) : sc.names.lookup x = some .globalImplicit ∧ (x == ("__debug__" : Str)) = false := by
  simpa [isGlob] using h

theorem ld_name (hE : EnvOk env sc) (h : Rl W env vars m F σ s) {x : Str} (hx : isVar sc x = true) {v : Value} (hv : m x = some v) (q : Q v s) : wpAny W.M A (loadName env x) Q E s := by
  obtain ⟨h1, h2⟩ := isVar_iff hx
  rw [← hE.kindOf] at h1
  rcases h1 with h1 | h1
  · obtain ⟨ml, hn, hm⟩ := h.ns
    exact wpAny_loadName_local hE.fn h1 hn ((hm x h1).trans hv) q
  · obtain ⟨c, hc, hi⟩ := h.cell x h1
    exact wpAny_loadName_cell hE.fn h1 hc (by rw [hv] at hi; exact hi) q
theorem ld_var (hE : EnvOk env sc) (h : Rl W env vars m F σ s) {x : Str} (hx : isVar sc x = true) {pos : Pos} {v : Value} (hv : m x = some v) (q : Q v s) : wpAny W.M A (eval (.Name x pos) env) Q E s :=
  wpAny_Name (ld_name hE h hx hv q) (isVar_iff hx).2
theorem ld_fun (hW : WOk W) (hE : EnvOk env sc) (h : St W F s) {x : Str} (hx : isGlob sc x = true) {pos : Pos} {v : Value} (hv : W.mg x = some v) (q : Q v s) : wpAny W.M A (eval (.Name x pos) env) Q E s := by
  obtain ⟨h1, h2⟩ := isGlob_iff hx
  exact Name_function_global hE.fn (by rw [hE.kindOf]; exact h1) (loadGlobal_global (by rw [hE.globals]; exact hW.g.keeps h.base) hv q) h2
theorem ld_bi (hW : WOk W) (hE : EnvOk env sc) (h : St W F s) {x : Str} (hx : isGlob sc x = true) {pos : Pos} {v : Value} (hp : (x, v) ∈ names9) (q : Q v s) : wpAny W.M A (eval (.Name x pos) env) Q E s := by
  obtain ⟨h1, h2⟩ := isGlob_iff hx
  obtain ⟨h3, h4⟩ := hW.bi _ hp
  exact Name_function_global hE.fn (by rw [hE.kindOf]; exact h1) (loadGlobal_builtin (by rw [hE.globals]; exact hW.g.keeps h.base) h3 (by rw [hE.builtins]; exact hW.b.keeps h.base) h4 q) h2

/-- own lists become values -/
theorem Step.still (h : Rl W env vars m F σ s) {σ' : Store} (hlen : σ'.length = σ.length)
    (hσ : ∀ (i : Nat) (sl : Slot), σ'[i]? = some sl → σ[i]? = some sl ∨ ∃ l, σ[i]? = some (.own l) ∧ sl = .val (.lst l)) :
    ∃ F', Step W env vars m F σ s F' σ' s ∧ ∀ (i : Nat) (x : Str) (l : List MV) (a : Addr), vars[i]? = some x → σ[i]? = some (.own l) → σ'[i]? = some (.val (.lst l)) → m x = some (.ref a) → W.Rep F' (.ref a) (.lst l) := by
  classical
  let Z : Addr → Prop := fun b => ∃ (i : Nat) (x : Str) (l : List MV), vars[i]? = some x ∧ σ[i]? = some (.own l) ∧ σ'[i]? = some (.val (.lst l)) ∧ m x = some (.ref b)
  let F' : Fz := fun b => if Z b then s.heap.get? b else F b
  have zo : ∀ b, Z b → Own vars m σ b := fun b ⟨i, x, l, h1, h2, _, h4⟩ => ⟨i, x, _, h1, h2, rfl, h4⟩
  have le : ∀ a o, F a = some o → F' a = some o := by
    intro a o e
    show (if Z a then _ else _) = _
    rw [if_neg]
    · exact e
    · intro hz
      obtain ⟨_, _, _, q⟩ := h.own_at (zo a hz)
      rw [e] at q; cases q
  have rep : ∀ (i : Nat) (x : Str) (l : List MV) (a : Addr), vars[i]? = some x → σ[i]? = some (.own l) → σ'[i]? = some (.val (.lst l)) → m x = some (.ref a) → W.Rep F' (.ref a) (.lst l) := by
    intro i x l a hx hs hs' hm
    obtain ⟨b, vs, n, e1, e2, e3, e4⟩ := h.slots i x _ hx hs
    rw [hm] at e1; cases e1
    refine .lst (vs := vs) (n := n) ?_ (e3.mono le)
    show (if Z a then _ else _) = _
    rw [if_pos ⟨i, x, l, hx, hs, hs', hm⟩]
    exact e2
  have mut' : ∀ (i : Nat) (sl : Slot), σ'[i]? = some sl → sl.mut = true → σ[i]? = some sl := by
    intro i sl hs hm
    rcases hσ i sl hs with q | ⟨l, _, rfl⟩
    · exact q
    · cases hm
  have own : ∀ (i : Nat) (x : Str) (l : List MV) (sl : Slot), vars[i]? = some x → σ'[i]? = some sl → σ[i]? = some sl → sl.mut = true → OwnAt F W s.heap (m x) l → OwnAt F' W s.heap (m x) l := by
    rintro i x l sl hx hs' hs hm ⟨a, vs, n, e1, e2, e3, e4, e5⟩
    refine ⟨a, vs, n, e1, e2, e3.mono le, ?_, e5⟩
    show (if Z a then _ else _) = _
    rw [if_neg, e4]
    rintro ⟨j, y, l', hy, ht, ht', hm'⟩
    have := h.apart i j x y _ _ a hx hy hs ht hm rfl e1 hm'
    subst this
    rw [hs'] at ht'; cases ht'; cases hm
  refine ⟨F', ?_, rep⟩
  exact {
    rl0 := h
    stay := fun _ e => e
    rl := {
      sh := h.sh
      base := h.base
      frz := fun a o e => by
        by_cases hz : Z a
        · have e' : s.heap.get? a = some o := by
            have : F' a = s.heap.get? a := if_pos hz
            rw [← this]; exact e
          exact e'
        · have : F' a = F a := if_neg hz
          rw [this] at e
          exact h.frz a o e
      seq := fun a o e => by
        by_cases hz : Z a
        · have this : F' a = s.heap.get? a := if_pos hz
          rw [this] at e
          obtain ⟨vs, n, q, _⟩ := h.own_at (zo a hz)
          rw [q] at e; cases e
          exact ⟨_, _, rfl⟩
        · have : F' a = F a := if_neg hz
          rw [this] at e
          exact h.seq a o e
      ns := h.ns
      cell := h.cell
      len := by rw [hlen]; exact h.len
      slots := fun i x sl hx hs => by
        rcases hσ i sl hs with q | ⟨l, q, rfl⟩
        · have := h.slots i x sl hx q
          cases sl with
          | unset => trivial
          | val d => obtain ⟨u, hu, hr⟩ := this; exact ⟨u, hu, hr.mono le⟩
          | own l => exact own i x l _ hx hs q rfl this
          | lent l => exact own i x l _ hx hs q rfl this
        · obtain ⟨a, vs, n, e1, _⟩ := h.slots i x _ hx q
          exact ⟨_, e1, rep i x l a hx q hs e1⟩
      apart := fun i j x y sl tl a hx hy hs ht hm hm' => h.apart i j x y sl tl a hx hy (mut' i sl hs hm) (mut' j tl ht hm') hm hm' }
    le := le
    grow := fun a o e => by
      by_cases hz : Z a
      · exact .inr (.inr (zo a hz))
      · have : F' a = F a := if_neg hz
        rw [this] at e
        exact .inl e
    frame := fun _ _ e _ => e
    owns := fun i l e => ⟨l, mut' i _ e rfl⟩
    lents := fun i l e => ⟨l, mut' i _ e rfl⟩ }

theorem Step.calm (h : Rl W env vars m F σ s) : ∃ F', Step W env vars m F σ s F' (σ.map Mine.calm) s := by
  obtain ⟨F', st, _⟩ := Step.still h (σ' := σ.map Mine.calm) (by simp) (fun i sl e => by
    rw [List.getElem?_map] at e
    cases hs : σ[i]? with
    | none => rw [hs] at e; cases e
    | some t =>
      rw [hs] at e
      simp only [Option.map_some, Option.some.injEq] at e
      cases t with
      | own l => exact .inr ⟨l, rfl, e.symm⟩
      | unset => exact .inl (by rw [← e]; rfl)
      | val d => exact .inl (by rw [← e]; rfl)
      | lent l => exact .inl (by rw [← e]; rfl))
  exact ⟨F', st⟩
end
end Mine

end
-- SimF
section
set_option autoImplicit false
set_option maxRecDepth 100000
set_option bootstrap.genMatcherCode false
namespace Mine
open PySem PySem.Calls PyProof.Rows PySem.Spec PySem.SeqAt

/-- an iterator over the values l; h₀ is the heap before it -/
structure Iter (W : Wd) (A : Around) (F : Fz) (h₀ h : Heap) (I : Addr) (fp wr : List Addr) (P : Nat → Value → Prop) (T : Nat → Heap → Prop) (l : List MV) : Prop where
  walks : Walks W.prog W.w A I fp wr l.length P T
  start : T 0 h
  old : ∀ b o, h₀.get? b = some o → h.get? b = some o
  fresh : ∀ b ∈ wr, h₀.get? b = none ∧ h.get? b ≠ none
  foot : ∀ b ∈ fp, h.get? b ≠ none ∧ (b ∈ wr ∨ F b ≠ none)
  live : ∀ i h', T i h' → ∀ b ∈ wr, h'.get? b ≠ none
  vals : ∀ i v, i < l.length → P i v → ∃ d, l[i]? = some d ∧ W.Rep F v d

noncomputable abbrev IterK (W : Wd) (A : Around) (F : Fz) (s : Shared) (l : List MV) (Q : Value → Shared → Prop) : Prop :=
  ∀ I fp wr P T H tk, Iter W A F s.heap H I fp wr P T l → Q (.ref I) { s with heap := H, toks := tk }

section
variable {W : Wd} {A : Around} {env : Env} {sc : Scope} {vars : List Str} {m : NM} {F F₁ : Fz} {σ σ₁ : Store} {s s₁ : Shared} {E : Value → Shared → Prop} {Q : Value → Shared → Prop} {k : Nat}

theorem F_none (h : St W F s) {a : Addr} (e : s.heap.get? a = none) : F a = none := by
  cases q : F a with
  | none => rfl
  | some o => rw [h.frz a o q] at e; cases e

theorem iter_list (hA : AOk A k) (h : St W F s) {v : Value} {l : List MV} (r : W.Rep F v (.lst l)) (q : IterK W A F s l Q) : wpAny W.M A (pyIter v) Q E s := by
  obtain ⟨a, vs, n, rfl, ha, rs⟩ := r.lst_inv
  have hl := h.frz _ _ ha
  have hL : s.heap.IsList a vs.toArray := ⟨_, hl, rfl, n, rfl⟩
  refine wpAny_pyIter_list hL ?_
  have hne : a ≠ s.heap.objs.size := Nat.ne_of_lt (Heap.lt_size hl)
  have Wk := Walks.list (prog := W.prog) (w := W.w) hA.handled s.heap.objs.size a hne vs.toArray
  have hlen : vs.toArray.size = l.length := by rw [List.size_toArray, rs.length]
  rw [hlen] at Wk
  refine q _ _ _ _ _ _ s.toks ⟨Wk, ⟨⟨_, Heap.get?_push_size _ rfl, rfl, rfl⟩, hL.push _⟩, fun _ _ e => Heap.get?_push_of_some _ e, ?_, ?_, ?_, ?_⟩
  · intro b hb
    rw [List.mem_singleton.mp hb]
    exact ⟨get_size _, by rw [Heap.get?_push_size _ rfl]; simp⟩
  · intro b hb
    rcases List.mem_cons.mp hb with rfl | hb
    · exact ⟨by rw [Heap.get?_push_size _ rfl]; simp, .inl (List.mem_singleton.mpr rfl)⟩
    · rw [List.mem_singleton.mp hb]
      exact ⟨by rw [Heap.get?_push_of_some _ hl]; simp, .inr (by rw [ha]; simp)⟩
  · rintro i h' ⟨⟨o, e, _⟩, _⟩ b hb
    rw [List.mem_singleton.mp hb, e]; simp
  · intro i u _ hu
    have hu' : vs[i]? = some u := by simpa using hu
    have hi : i < vs.length := (List.getElem?_eq_some_iff.mp hu').1
    have hi' : i < l.length := by rw [← rs.length]; exact hi
    obtain ⟨u', h1, h2⟩ := rs.get (List.getElem?_eq_getElem hi')
    rw [hu'] at h1; cases h1
    exact ⟨_, List.getElem?_eq_getElem hi', h2⟩

theorem iter_range (hA : AOk A k) {r : Addr} {a b c : Int} {t u v : Tok} {l : List MV} (hr : IsRange s.heap r a b c t u v) (hsm : Builtin.Range.small a b c = true)
    (hn : Builtin.Range.rangeSize a b c = l.length) (hl : ∀ i, i < l.length → l[i]? = some (.int (a + i * c))) (q : IterK W A F s l Q) : wpAny W.M A (pyIter (.ref r)) Q E s := by
  refine wpAny_pyIter_range hr hsm ?_
  have Wk := Walks.range (prog := W.prog) (w := W.w) (A := A) hA.handled s.heap.objs.size a c l.length
  have hit : IsRangeIter (s.heap.push { cls := .type "range_iterator", data := .fields #[rawInt a, rawInt (Builtin.Range.rangeSize a b c), rawInt c] }) s.heap.objs.size (a + (0 : Nat) * c) ((l.length : Int) - (0 : Nat)) c := by
    have : a + ((0 : Nat) : Int) * c = a := by simp
    rw [this, hn]
    simp only [Int.natCast_zero, Int.sub_zero]
    exact Heap.get?_push_size _ rfl
  refine q _ _ _ _ _ _ s.toks ⟨Wk, hit, fun _ _ e => Heap.get?_push_of_some _ e, ?_, ?_, ?_, ?_⟩
  · intro b hb
    rw [List.mem_singleton.mp hb]
    exact ⟨get_size _, by rw [Heap.get?_push_size _ rfl]; simp⟩
  · intro b hb
    rw [List.mem_singleton.mp hb]
    exact ⟨by rw [Heap.get?_push_size _ rfl]; simp, .inl (List.mem_singleton.mpr rfl)⟩
  · intro i h' e b hb
    have e' : h'.get? s.heap.objs.size = _ := e
    rw [List.mem_singleton.mp hb, e']; simp
  · rintro i w hi ⟨tk, rfl⟩
    exact ⟨_, hl i hi, .int _ _⟩

theorem Iter.from {h₀ h₁ h : Heap} {I : Addr} {fp wr : List Addr} {P : Nat → Value → Prop} {T : Nat → Heap → Prop} {l : List MV} (x : Iter W A F h₁ h I fp wr P T l) (hk : ∀ b o, h₀.get? b = some o → h₁.get? b = some o) :
    Iter W A F h₀ h I fp wr P T l where
  walks := x.walks
  start := x.start
  old := fun b o e => x.old b o (hk b o e)
  fresh := fun b hb => by
    refine ⟨?_, (x.fresh b hb).2⟩
    cases e : h₀.get? b with
    | none => rfl
    | some o =>
      have := hk b o e
      rw [(x.fresh b hb).1] at this
      cases this
  foot := x.foot
  live := x.live
  vals := x.vals

theorem rangeUp_len (a b : Int) : (rangeUp a b).length = (b - a).toNat := by simp [rangeUp]
theorem rangeDown_len (a b : Int) : (rangeDown a b).length = (a - b).toNat := by simp [rangeDown]
theorem rangeUp_get (a b : Int) (i : Nat) (h : i < (rangeUp a b).length) : (rangeUp a b)[i]? = some (.int (a + i * 1)) := by
  rw [rangeUp_len] at h
  simp only [rangeUp, List.getElem?_map, List.getElem?_range h, Option.map_some, Int.mul_one]
theorem rangeDown_get (a b : Int) (i : Nat) (h : i < (rangeDown a b).length) : (rangeDown a b)[i]? = some (.int (a + i * (-1))) := by
  rw [rangeDown_len] at h
  simp only [rangeDown, List.getElem?_map, List.getElem?_range h, Option.map_some]
  congr 2
  (first | lia | omega)
theorem rangeSize_down (a b : Int) : Builtin.Range.rangeSize a b (-1) = (a - b).toNat := by
  unfold Builtin.Range.rangeSize
  simp only [show ¬ ((-1 : Int) > 0) by decide, if_false]
  split
  · rw [show (-(-1) : Int) = 1 by decide, Int.ediv_one]; (first | lia | omega)
  · (first | lia | omega)
theorem small_down {a b : Int} (ha : -4096 < a) (ha' : a < 4096) (hb : -4096 < b) (hb' : b < 4096) : Builtin.Range.small a b (-1) = true := by
  unfold Builtin.Range.small
  rw [rangeSize_down]
  simp only [Builtin.Range.rangeFitsLong, Bool.and_eq_true, Bool.or_eq_true, decide_eq_true_eq, beq_iff_eq, show ¬ ((-1 : Int) > 0) by decide, if_false]
  (first | lia | omega)
theorem rangeSize_up (a b : Int) : Builtin.Range.rangeSize a b 1 = (b - a).toNat := by
  rw [rangeSize_one]
  split <;> (first | lia | omega)

theorem call_range1 (hA : AOk A k) {j : Int} {t : Tok} (h1 : -4096 < j) (h2 : j < 4096) (q : IterK W A F s (rangeUp 0 j) Q) :
    wpAny W.M A (call (.type "range") [.int j t]) (fun x s₁ => wpAny W.M A (pyIter x) Q E s₁) E s := by
  refine call_range_1 ?_
  refine iter_range (F := F) hA (IsRange.new _ _ _ _ _ _ _) (small_one (by (first | lia | omega)) (by (first | lia | omega)) (by (first | lia | omega)) (by (first | lia | omega))) (by rw [rangeSize_up, rangeUp_len]) (rangeUp_get 0 j) ?_
  intro I fp wr P T H tk x
  exact q I fp wr P T H tk (x.from fun _ _ e => Heap.get?_push_of_some _ e)
theorem call_range2 (hA : AOk A k) {i j : Int} {t u : Tok} (h1 : -4096 < i) (h2 : i < 4096) (h3 : -4096 < j) (h4 : j < 4096) (q : IterK W A F s (rangeUp i j) Q) :
    wpAny W.M A (call (.type "range") [.int i t, .int j u]) (fun x s₁ => wpAny W.M A (pyIter x) Q E s₁) E s := by
  refine call_range_2 ?_
  refine iter_range (F := F) hA (IsRange.new _ _ _ _ _ _ _) (small_one (by (first | lia | omega)) (by (first | lia | omega)) (by (first | lia | omega)) (by (first | lia | omega))) (by rw [rangeSize_up, rangeUp_len]) (rangeUp_get i j) ?_
  intro I fp wr P T H tk x
  exact q I fp wr P T H tk (x.from fun _ _ e => Heap.get?_push_of_some _ e)
theorem call_range3 (hA : AOk A k) {i j : Int} {t u v : Tok} (h1 : -4096 < i) (h2 : i < 4096) (h3 : -4096 < j) (h4 : j < 4096) (q : IterK W A F s (rangeDown i j) Q) :
    wpAny W.M A (call (.type "range") [.int i t, .int j u, .int (-1) v]) (fun x s₁ => wpAny W.M A (pyIter x) Q E s₁) E s := by
  refine call_range_3 (by decide) ?_ (Or.inl (PyProof.noPylong_small (by decide)))
  refine iter_range (F := F) hA (IsRange.new _ _ _ _ _ _ _) (small_down h1 h2 h3 h4) (by rw [rangeSize_down, rangeDown_len]) (rangeDown_get i j) ?_
  intro I fp wr P T H tk x
  exact q I fp wr P T H tk (x.from fun _ _ e => Heap.get?_push_of_some _ e)
end

theorem compL_snoc {f : MV → Option (Option MV)} {v : MV} : ∀ {l ds : List MV}, compL f l = some ds → ∀ {x : Option MV}, f v = some x → compL f (l ++ [v]) = some (ds ++ x.toList)
  | [], ds, h, x, hv => by
    simp only [compL, Option.some.injEq] at h
    subst h
    cases x <;> simp [compL, hv]
  | u :: r, ds, h, x, hv => by
    simp only [compL] at h
    simp only [List.cons_append, compL]
    split at h
    · rename_i d hu
      cases hr : compL f r with
      | none => rw [hr] at h; cases h
      | some es =>
        rw [hr] at h; cases h
        rw [compL_snoc hr hv]
        rfl
    · exact compL_snoc h hv
    · cases h
theorem compL_some {f : MV → Option (Option MV)} : ∀ {l ds : List MV}, compL f l = some ds → ∀ v ∈ l, ∃ x, f v = some x
  | [], _, _, _, hv => nomatch hv
  | u :: r, ds, h, v, hv => by
    simp only [compL] at h
    split at h
    · rename_i d hu
      rcases List.mem_cons.mp hv with rfl | hv
      · exact ⟨_, hu⟩
      · cases hr : compL f r with
        | none => rw [hr] at h; cases h
        | some es => exact compL_some hr v hv
    · rename_i hu
      rcases List.mem_cons.mp hv with rfl | hv
      · exact ⟨_, hu⟩
      · exact compL_some h v hv
    · cases h
theorem compL_len {f : MV → Option (Option MV)} : ∀ {l ds : List MV}, compL f l = some ds → ds.length ≤ l.length
  | [], ds, h => by simp only [compL, Option.some.injEq] at h; subst h; simp
  | u :: r, ds, h => by
    simp only [compL] at h
    split at h
    · cases hr : compL f r with
      | none => rw [hr] at h; cases h
      | some es => rw [hr] at h; cases h; have := compL_len hr; simp; exact this
    · have := compL_len h; simp; (first | lia | omega)
    · cases h

/-- the names' values within a comprehension -/
noncomputable def innerM (x : Str) (v : Value) (loc : Str → Bool) (ml m : NM) : NM := fun y => if y = x then some v else if loc y = true then ml y else m y

theorem no_own {vars : List Str} {m : NM} {σ : Store} (h : ∀ (i : Nat) (sl : Slot), σ[i]? = some sl → sl.mut = false) (a : Addr) : ¬ Own vars m σ a := by
  rintro ⟨i, x, sl, _, hs, hm, _⟩
  rw [h i sl hs] at hm; cases hm
theorem inner_mut (σ : Store) (d : MV) (i : Nat) (sl : Slot) (h : (σ.map hide ++ [Slot.val d])[i]? = some sl) : sl.mut = false := by
  rw [List.getElem?_append] at h
  split at h
  · rw [List.getElem?_map] at h
    cases hs : σ[i]? with
    | none => rw [hs] at h; cases h
    | some t =>
      rw [hs] at h
      simp only [Option.map_some, Option.some.injEq] at h
      subst h
      cases t <;> rfl
  · rename_i hi
    cases hj : i - (σ.map hide).length with
    | zero => rw [hj] at h; simp at h; subst h; rfl
    | succ j => rw [hj] at h; simp at h

section
variable {W : Wd} {A : Around} {env cenv : Env} {sc scope : Scope} {vars : List Str} {m : NM} {F F' F₁ : Fz} {σ σ₁ : Store} {s s₁ s' : Shared} {E : Value → Shared → Prop} {k : Nat}

/-- the frame of a comprehension, within the frame of its function -/
theorem inner_rl (hE : EnvOk env sc) (hC : EnvOk cenv (relab scope sc)) {x : Str} (hok : okComp scope sc vars x = true) (h : Rl W env vars m F σ s₁) (hk : ∀ b o, s₁.heap.get? b = some o → s'.heap.get? b = some o)
    (hst : St W F' s') (le : ∀ a o, F a = some o → F' a = some o) {v : Value} {d : MV} (hv : W.Rep F' v d) {ml : NM} (hn : s'.heap.Ns cenv.locals ml) (hx : ml x = some v)
    (hcl : ∀ y, (relab scope sc).names.lookup y = some .cell → cenv.cells.lookup y = env.cells.lookup y ∧ sc.names.lookup y = some .cell ∧ y ≠ x) :
    Rl W cenv (vars ++ [x]) (innerM x v (fun y => decide ((relab scope sc).names.lookup y = some .local)) ml m) F' (σ.map hide ++ [.val d]) s' := by
  simp only [okComp, Bool.and_eq_true, Bool.not_eq_true', decide_eq_true_eq, List.all_eq_true] at hok
  obtain ⟨⟨⟨⟨⟨h1, h2⟩, h3⟩, h4⟩, h5⟩, h6⟩ := hok
  have hxv : x ∉ vars := fun hm => by rw [List.contains_iff_mem.mpr hm] at h4; cases h4
  have h0v : (".0" : Str) ∉ vars := fun hm => by rw [List.contains_iff_mem.mpr hm] at h5; cases h5
  -- no outer name is local within
  have hloc : ∀ y ∈ vars, ¬ (relab scope sc).names.lookup y = some .local := by
    intro y hy hl
    have hm : (y, NameKind.local) ∈ (relab scope sc).names := mem_of_lookup hl
    obtain ⟨p, hp, he⟩ := List.mem_map.mp hm
    obtain ⟨n, kd⟩ := p
    have := h6 _ hp
    dsimp only at he this
    split at he
    · cases he
    · cases he
      simp only [Bool.or_eq_true, Bool.and_eq_true, decide_eq_true_eq, reduceCtorEq, false_and, false_or, true_and, or_false, beq_iff_eq] at this
      rcases this.1 with rfl | rfl
      · exact hxv hy
      · exact h0v hy
  have hm' : ∀ y ∈ vars, innerM x v (fun y => decide ((relab scope sc).names.lookup y = some .local)) ml m y = m y := by
    intro y hy
    unfold innerM
    rw [if_neg (fun e : y = x => hxv (e ▸ hy)), if_neg (by simpa using hloc y hy)]
  exact {
    toSt := hst
    ns := ⟨ml, hn, fun y hy => by
      rw [hC.kindOf] at hy
      unfold innerM
      split
      · rename_i e; rw [e, hx]
      · rw [if_pos (by simpa using hy)]⟩
    cell := fun y hy => by
      rw [hC.kindOf] at hy
      obtain ⟨e1, e2, e3⟩ := hcl y hy
      obtain ⟨c, hc, hi⟩ := h.cell y (by rw [hE.kindOf]; exact e2)
      refine ⟨c, e1.trans hc, ?_⟩
      have : innerM x v (fun y => decide ((relab scope sc).names.lookup y = some .local)) ml m y = m y := by
        unfold innerM
        rw [if_neg e3, if_neg (by simp [hy])]
      rw [this]
      exact hi.keeps hk
    len := by simp [h.len]
    slots := fun i y sl hy hs => by
      rw [List.getElem?_append] at hs hy
      have hl : (σ.map hide).length = vars.length := by simp [h.len]
      rw [hl] at hs
      split at hs
      · rename_i hi
        rw [if_pos hi] at hy
        rw [hm' y (List.mem_of_getElem? hy)]
        rw [List.getElem?_map] at hs
        cases ht : σ[i]? with
        | none => rw [ht] at hs; cases hs
        | some t =>
          rw [ht] at hs
          simp only [Option.map_some, Option.some.injEq] at hs
          subst hs
          have := h.slots i y t hy ht
          cases t with
          | val d => obtain ⟨u, hu, hr⟩ := this; exact ⟨u, hu, hr.mono le⟩
          | unset => trivial
          | own l => trivial
          | lent l => trivial
      · rename_i hi
        rw [if_neg hi] at hy
        cases hj : i - vars.length with
        | zero =>
          rw [hj] at hs hy
          simp at hs hy
          subst hs hy
          exact ⟨v, by simp [innerM], hv⟩
        | succ j => rw [hj] at hs; simp at hs
    apart := fun i j x y sl tl a _ _ hs _ hm => by
      rw [inner_mut σ d i sl hs] at hm; cases hm }
end
end Mine

end
-- SimG
section
set_option autoImplicit false
set_option maxRecDepth 100000
set_option bootstrap.genMatcherCode false
namespace Mine
open PySem PySem.Calls PyProof.Rows PySem.Spec PySem.SeqAt

theorem relabel_eq {scope sc : Scope} {env : Env} (h : env.scope = sc) : relabel scope env = relab scope sc := by
  subst h; rfl

theorem closure_ok {env : Env} {scope : Scope} (h : ∀ y ∈ scope.names, y.2 = .free → (env.cells.lookup y.1).isSome = true) :
    ∃ cl, closureFor scope env = pure cl ∧ ∀ y, (y, NameKind.free) ∈ scope.names → cl.lookup y = env.cells.lookup y := by
  have gen : ∀ (names : List (Str × NameKind)) (acc : List (Str × Addr)), (∀ y ∈ names, y.2 = .free → (env.cells.lookup y.1).isSome = true) → (∀ y a, (y, a) ∈ acc → env.cells.lookup y = some a) →
      ∃ cl, (forIn names acc (fun (x : Str × NameKind) (cs : List (Str × Addr)) => (match x with | (name, kind) => if kind == .free then (do let a ← cellOf env name; pure (ForInStep.yield ((name, a) :: cs))) else pure (ForInStep.yield cs) : Sem (ForInStep (List (Str × Addr))))) : Sem (List (Str × Addr))) = pure cl ∧
        (∀ y a, (y, a) ∈ cl → env.cells.lookup y = some a) ∧ (∀ p ∈ acc, p ∈ cl) ∧ (∀ y, (y, NameKind.free) ∈ names → ∃ a, (y, a) ∈ cl) := by
    intro names
    induction names with
    | nil => intro acc _ h2; exact ⟨acc, rfl, h2, fun _ hp => hp, fun _ hp => nomatch hp⟩
    | cons x r ih =>
      intro acc h1 h2
      obtain ⟨n, kd⟩ := x
      rw [List.forIn_cons]
      by_cases hk : kd = .free
      · subst hk
        obtain ⟨c, hc⟩ := Option.isSome_iff_exists.mp (h1 _ (List.mem_cons_self ..) rfl)
        obtain ⟨cl, e, q1, q2, q3⟩ := ih ((n, c) :: acc) (fun y hy => h1 y (List.mem_cons_of_mem _ hy)) (fun y a hm => by
          rcases List.mem_cons.mp hm with e | hm
          · cases e; exact hc
          · exact h2 y a hm)
        refine ⟨cl, ?_, q1, fun p hp => q2 p (List.mem_cons_of_mem _ hp), fun y hy => ?_⟩
        · rw [← e]
          simp only [beq_self_eq_true, if_true, cellOf, hc]
          rfl
        · rcases List.mem_cons.mp hy with e' | hy
          · cases e'; exact ⟨c, q2 _ (List.mem_cons_self ..)⟩
          · exact q3 y hy
      · obtain ⟨cl, e, q1, q2, q3⟩ := ih acc (fun y hy => h1 y (List.mem_cons_of_mem _ hy)) h2
        refine ⟨cl, ?_, q1, q2, fun y hy => ?_⟩
        · rw [← e]
          have : (kd == NameKind.free) = false := by simpa using hk
          simp only [this, Bool.false_eq_true, if_false]
          rfl
        · rcases List.mem_cons.mp hy with e' | hy
          · cases e'; exact absurd rfl hk
          · exact q3 y hy
  obtain ⟨cl, e, q1, _, q3⟩ := gen scope.names [] h (fun _ _ hm => nomatch hm)
  refine ⟨cl, ?_, fun y hy => ?_⟩
  · unfold closureFor
    first
      | exact (congrArg (fun t => t >>= fun cs => pure cs) e).trans rfl
      | (refine Eq.trans ?_ e; rfl)
  · obtain ⟨a, ha⟩ := q3 y hy
    rw [q1 y a ha]
    cases hl : cl.lookup y with
    | none =>
      exfalso
      have : ∀ {l : List (Str × Addr)}, (y, a) ∈ l → l.lookup y ≠ none := by
        intro l
        induction l with
        | nil => intro hm; cases hm
        | cons p r ih =>
          intro hm
          obtain ⟨z, b⟩ := p
          rw [List.lookup_cons]
          cases hz : y == z with
          | true => simp
          | false =>
            rcases List.mem_cons.mp hm with e | hm
            · cases e; simp at hz
            · exact ih hm
      exact this ha hl
    | some b => rw [← q1 y b (mem_of_lookup hl), q1 y a ha]

section
variable {W : Wd} {A : Around} {env cenv : Env} {sc scope : Scope} {vars : List Str} {m : NM} {F F' F₁ : Fz} {σ σ' σ₁ : Store} {s s₁ s' : Shared} {k : Nat}

/-- a step that leaves all as it stood -/
theorem Step.flat (hno : ∀ a, ¬ Own vars m σ a) (h : Step W env vars m F σ s F' σ' s') :
    s' = { s with heap := s'.heap, toks := s'.toks } ∧ (∀ b o, s.heap.get? b = some o → s'.heap.get? b = some o) ∧ Grow F s.heap F' s'.heap := by
  refine ⟨?_, fun b o e => h.frame b o e (hno b), h.le, fun a o e => ?_, h.rl.frz, h.rl.seq⟩
  · rw [h.rl.sh, h.rl0.sh]
  · rcases h.grow a o e with q | q | q
    · exact .inl q
    · exact .inr q
    · exact absurd q (hno a)

theorem Grow.trans {h₀ h₁ h₂ : Heap} {F₀ F₁ F₂ : Fz} (x : Grow F₀ h₀ F₁ h₁) (y : Grow F₁ h₁ F₂ h₂) (hk : ∀ b o, h₀.get? b = some o → h₁.get? b ≠ none) : Grow F₀ h₀ F₂ h₂ where
  le := fun a o e => y.le a o (x.le a o e)
  grow := fun a o e => by
    rcases y.grow a o e with q | q
    · exact x.grow a o q
    · refine .inr ?_
      cases hh : h₀.get? a with
      | none => rfl
      | some p => exact absurd q (hk a p hh)
  frz := y.frz
  seq := y.seq

theorem okComp_cells (hE : EnvOk env sc) (h : Rl W env vars m F σ s) {x : Str} (hok : okComp scope sc vars x = true) :
    ∃ cl, closureFor scope env = pure cl ∧ ∀ y, (relab scope sc).names.lookup y = some .cell → cl.lookup y = env.cells.lookup y ∧ sc.names.lookup y = some .cell ∧ y ≠ x := by
  simp only [okComp, Bool.and_eq_true, Bool.not_eq_true', decide_eq_true_eq, List.all_eq_true] at hok
  obtain ⟨⟨⟨⟨⟨h1, h2⟩, h3⟩, h4⟩, h5⟩, h6⟩ := hok
  obtain ⟨cl, e, hcl⟩ := closure_ok (env := env) (scope := scope) (fun y hy hf => by
    have := h6 y hy
    simp only [hf, Bool.or_eq_true, Bool.and_eq_true, decide_eq_true_eq, reduceCtorEq, false_and, or_false, true_and] at this
    obtain ⟨c, hc, _⟩ := h.cell y.1 (by rw [hE.kindOf]; exact this)
    rw [hc]; rfl)
  refine ⟨cl, e, fun y hy => ?_⟩
  obtain ⟨p, hp, he⟩ := List.mem_map.mp (mem_of_lookup hy)
  obtain ⟨n, kd⟩ := p
  have h6' := h6 _ hp
  dsimp only at he h6'
  split at he
  · rename_i hc
    cases he
    simp only [Bool.and_eq_true, beq_iff_eq] at hc
    have hc2 : sc.names.lookup y = some .cell := by
      have := hc.2
      simpa using this
    refine ⟨hcl y (by rw [hc.1.1] at hp; exact hp), hc2, ?_⟩
    rintro rfl
    have hl := lookup_relabel_local (env := { env with scope := sc }) h3
    have hl' : (relab scope sc).names.lookup y = some .local := hl
    rw [hy] at hl'; cases hl'
  · cases he
    simp at h6'

/-- the tests of a comprehension's turn -/
noncomputable abbrev tests (ifs : List PySem.Expr) (cenv : Env) : Sem Bool :=
  forIn ifs true fun c r => if r = true then do let ok ← isTrue c cenv (eval c cenv); pure (ForInStep.yield ok) else pure (ForInStep.yield r)

/-- within a comprehension: the tests say b, the element is r -/
noncomputable def TestOk (W : Wd) (A : Around) (sc scope : Scope) (vars : List Str) (x : Str) (ifs : List PySem.Expr) (τ : Store) (b : Bool) : Prop :=
  ∀ (cenv : Env) (m : NM) (F : Fz) (s : Shared) (Q : Bool → Shared → Prop) (E : Value → Shared → Prop), EnvOk cenv (relab scope sc) → Rl W cenv (vars ++ [x]) m F τ s →
    (∀ F' H tk, (∀ b o, s.heap.get? b = some o → H.get? b = some o) → Grow F s.heap F' H → Q b { s with heap := H, toks := tk }) → wpAny W.M A (tests ifs cenv) Q E s
noncomputable def EltOk (W : Wd) (A : Around) (sc scope : Scope) (vars : List Str) (x : Str) (elt : PySem.Expr) (τ : Store) (r : MV) : Prop :=
  ∀ (cenv : Env) (m : NM) (F : Fz) (s : Shared) (Q : Value → Shared → Prop) (E : Value → Shared → Prop), EnvOk cenv (relab scope sc) → Rl W cenv (vars ++ [x]) m F τ s →
    (∀ v F' H tk, (∀ b o, s.heap.get? b = some o → H.get? b = some o) → Grow F s.heap F' H → W.Rep F' v r → Q v { s with heap := H, toks := tk }) → wpAny W.M A (eval elt cenv) Q E s

theorem shrink_none {h h' : Heap} (hk : ∀ b o, h.get? b = some o → h'.get? b = some o) {a : Addr} (e : h'.get? a = none) : h.get? a = none := by
  cases q : h.get? a with
  | none => rfl
  | some o => rw [hk a o q] at e; cases e

theorem comp_loop {R : Result → Shared → Prop} {elt iter : PySem.Expr} {x : Str} {px pos : Pos} {ifs : List PySem.Expr} {l ds : List MV} {I D : Addr} {fp wr : List Addr} {P : Nat → Value → Prop} {T : Nat → Heap → Prop}
    {f : MV → Option (Option MV)} (hE : EnvOk env sc) (hC : EnvOk cenv (relab scope sc)) (hok : okComp scope sc vars x = true) (h : Rl W env vars m F σ s₁)
    (it : Iter W A F s₁.heap s.heap I fp wr P T l) (hs : s = { s₁ with heap := s.heap, toks := s.toks })
    (hcl : ∀ y, (relab scope sc).names.lookup y = some .cell → cenv.cells.lookup y = env.cells.lookup y ∧ sc.names.lookup y = some .cell ∧ y ≠ x)
    (hx : cenv.kindOf x = some .local) (hl : l.length < 4096) (hf : compL f l = some ds)
    (ht : ∀ d r, d ∈ l → f d = some r → TestOk W A sc scope vars x ifs (σ.map hide ++ [.val d]) r.isSome)
    (he : ∀ d r, d ∈ l → f d = some (some r) → EltOk W A sc scope vars x elt (σ.map hide ++ [.val d]) r)
    (hD : s.heap.PlainList D #[]) (hD1 : s₁.heap.get? D = none) (hC1 : s₁.heap.get? cenv.locals = none) (hDw : D ∉ wr) (hCw : cenv.locals ∉ wr) (hDC : D ≠ cenv.locals) {ml : NM} (hn : s.heap.Ns cenv.locals ml)
    (hR : ∀ F' H tk ml' ys n, (∀ b o, s₁.heap.get? b = some o → H.get? b = some o) → Grow F s₁.heap F' H → H.Ns cenv.locals ml' → H.get? D = some (listO (List.toArray ys) n) → W.Reps F' ys ds → F' D = none → F' cenv.locals = none →
      R (.ok .next) { s₁ with heap := H, toks := tk }) :
    codeAny W.M A (.compLoop (.ListComp elt [⟨.Name x px, iter, ifs, 0⟩] scope pos) 0 (.ref I) (.ref D) cenv) R s := by
  have hp : (cenv.scope.kind == .class || (cenv.scope.kind == .module && cenv.locals != cenv.globals)) = false := by rw [hC.fn]; rfl
  -- nothing of the comprehension's own is frozen at its start
  have hF0 : ∀ b, s₁.heap.get? b = none → F b = none := fun b e => F_none h.toSt e
  have hDf : D ∉ fp := fun hm => by
    rcases (it.foot D hm).2 with q | q
    · exact hDw q
    · exact q (hF0 D hD1)
  have hCf : cenv.locals ∉ fp := fun hm => by
    rcases (it.foot _ hm).2 with q | q
    · exact hCw q
    · exact q (hF0 _ hC1)
  refine codeAny_compLoop_tests (prog := W.prog) (w := W.w)
    (fun k s' => ∃ (i : Nat) (F' : Fz) (ys : List Value) (es : List MV) (n : Nat) (ml' : NM) (H : Heap) (tk : Nat), s' = { s₁ with heap := H, toks := tk } ∧ i ≤ l.length ∧ k = l.length + 1 - i ∧ T i H ∧
      (∀ b o, s₁.heap.get? b = some o → H.get? b = some o) ∧ Grow F s₁.heap F' H ∧ (∀ b ∈ wr, F' b = none) ∧ F' D = none ∧ F' cenv.locals = none ∧
      H.Ns cenv.locals ml' ∧ H.get? D = some (listO ys.toArray n) ∧ W.Reps F' ys es ∧ compL f (l.take i) = some es) ?_ (l.length + 1) ?_
  · rintro k s' ⟨i, F', ys, es, n, ml', H, tk, rfl, hi, rfl, hT, hk, hG, hw, hFD, hFC, hN, hDo, hys, hes⟩
    have old₁ : ∀ b o, s₁.heap.get? b = some o → b ∉ wr ∧ b ≠ cenv.locals ∧ b ≠ D := fun b o e => by
      refine ⟨fun hm => ?_, fun q => ?_, fun q => ?_⟩
      · rw [(it.fresh b hm).1] at e; cases e
      · rw [q, hC1] at e; cases e
      · rw [q, hD1] at e; cases e
    by_cases hlt : i < l.length
    · refine it.walks.item i _ _ _ hlt hT fun v h₁ tk₁ hPv hT₁ hk₁ => ?_
      obtain ⟨d, hd, hv⟩ := it.vals i v hlt hPv
      have hdm : d ∈ l := List.mem_of_getElem? hd
      obtain ⟨r, hr⟩ := compL_some hf d hdm
      have htake : l.take (i + 1) = l.take i ++ [d] := by rw [List.take_add_one, hd]; rfl
      have hnext : compL f (l.take (i + 1)) = some (es ++ r.toList) := by rw [htake]; exact compL_snoc hes hr
      -- the turn's name
      refine wpAny_assign_Name (wpAny_storeName_local hx (hN.at' fun o e => hk₁ _ o hCw e) (fun h₂ hN₂ hs₂ => ?_) hp)
      have up₂ : ∀ b o, b ≠ cenv.locals → b ∉ wr → H.get? b = some o → h₂.get? b = some o := fun b o hbC hbw e => hs₂.extBut b o hbC (hk₁ b o hbw e)
      have keep₂ : ∀ b o, s₁.heap.get? b = some o → h₂.get? b = some o := fun b o e => up₂ b o (old₁ b o e).2.1 (old₁ b o e).1 (hk b o e)
      have hT₂ : T (i + 1) h₂ := it.walks.frame _ _ _ hT₁ fun b hb o e => hs₂.extBut b o (fun q => hCf (q ▸ hb)) e
      have frz₂ : ∀ a o, F' a = some o → h₂.get? a = some o := fun a o e => by
        refine up₂ a o (fun q => ?_) (fun q => ?_) (hG.frz a o e)
        · rw [q, hFC] at e; cases e
        · rw [hw a q] at e; cases e
      have hG₂ : Grow F s₁.heap F' h₂ := ⟨hG.le, hG.grow, frz₂, hG.seq⟩
      have st₂ : St W F' { s₁ with heap := h₂, toks := tk₁ + 1 } := ⟨by rw [h.sh], fun b o e => keep₂ b o (h.base b o e), frz₂, hG.seq⟩
      have hD₂ : h₂.get? D = some (listO ys.toArray n) := up₂ D _ hDC hDw hDo
      have rl₂ := inner_rl (s' := { s₁ with heap := h₂, toks := tk₁ + 1 }) hE hC hok h keep₂ st₂ hG.le (hv.mono hG.le) hN₂ (by simp) hcl
      refine ht d r hdm hr cenv _ _ _ _ _ hC rl₂ fun F₃ h₃ tk₃ hk₃ hG₃ => ?_
      have hT₃ : T (i + 1) h₃ := it.walks.frame _ _ _ hT₂ fun b _ o e => hk₃ b o e
      have keep₃ : ∀ b o, s₁.heap.get? b = some o → h₃.get? b = some o := fun b o e => hk₃ b o (keep₂ b o e)
      have G₃ : Grow F s₁.heap F₃ h₃ := hG₂.trans hG₃ fun b o e => by rw [keep₂ b o e]; simp
      have none₃ : ∀ b, h₂.get? b ≠ none → F' b = none → F₃ b = none := fun b e e' => by
        cases q : F₃ b with
        | none => rfl
        | some o =>
          rcases hG₃.grow b o q with q' | q'
          · rw [e'] at q'; cases q'
          · exact absurd q' e
      have hw₃ : ∀ b ∈ wr, F₃ b = none := fun b hb => none₃ b (it.live _ _ hT₂ b hb) (hw b hb)
      have hCex : h₂.get? cenv.locals ≠ none := by obtain ⟨o, _, _, e, _⟩ := hN₂; rw [e]; simp
      have hFD₃ : F₃ D = none := none₃ D (by rw [hD₂]; simp) hFD
      have hFC₃ : F₃ cenv.locals = none := none₃ _ hCex hFC
      have hN₃ := hN₂.keeps hk₃
      have hD₃ := hk₃ _ _ hD₂
      cases r with
      | none =>
        simp only [Option.isSome_none, Bool.false_eq_true, if_false]
        exact ⟨l.length + 1 - (i + 1), by (first | lia | omega), i + 1, F₃, ys, es, n, (fun y => if y = x then some v else ml' y), h₃, tk₃, rfl, hlt, rfl, hT₃, keep₃, G₃, hw₃, hFD₃, hFC₃, hN₃, hD₃, hys.mono hG₃.le, by simpa using hnext⟩
      | some r =>
        simp only [Option.isSome_some, if_true]
        have st₃ : St W F₃ { s₁ with heap := h₃, toks := tk₃ } := ⟨by rw [h.sh], fun b o e => keep₃ b o (h.base b o e), G₃.frz, G₃.seq⟩
        have rl₃ := inner_rl (s' := { s₁ with heap := h₃, toks := tk₃ }) hE hC hok h keep₃ st₃ G₃.le (hv.mono G₃.le) hN₃ (by simp) hcl
        refine he d r hdm hr cenv _ _ _ _ _ hC rl₃ fun y F₄ h₄ tk₄ hk₄ hG₄ hy => ?_
        have keep₄ : ∀ b o, s₁.heap.get? b = some o → h₄.get? b = some o := fun b o e => hk₄ b o (keep₃ b o e)
        have hT₄ : T (i + 1) h₄ := it.walks.frame _ _ _ hT₃ fun b _ o e => hk₄ b o e
        have G₄ : Grow F s₁.heap F₄ h₄ := G₃.trans hG₄ fun b o e => by rw [keep₃ b o e]; simp
        have none₄ : ∀ b, h₃.get? b ≠ none → F₃ b = none → F₄ b = none := fun b e e' => by
          cases q : F₄ b with
          | none => rfl
          | some o =>
            rcases hG₄.grow b o q with q' | q'
            · rw [e'] at q'; cases q'
            · exact absurd q' e
        have hCex₃ : h₃.get? cenv.locals ≠ none := by obtain ⟨o, _, _, e, _⟩ := hN₃; rw [e]; simp
        have hFD₄ : F₄ D = none := none₄ D (by rw [hD₃]; simp) hFD₃
        have hlen : ys.length ≤ l.length := by
          have := compL_len hes
          rw [hys.length]
          simp only [List.length_take] at this
          (first | lia | omega)
        refine wpAny_list_append_plain ⟨n, hk₄ _ _ hD₃⟩ (fun h₅ hD₅ hs₅ => ?_) (by simp only [List.size_toArray, sizeLine_eq]; (first | lia | omega))
        obtain ⟨n₅, hD₅⟩ := hD₅
        have hDs₁ : ∀ b o, s₁.heap.get? b = some o → b ≠ D := fun b o e => (old₁ b o e).2.2
        refine ⟨l.length + 1 - (i + 1), by (first | lia | omega), i + 1, F₄, ys ++ [y], es ++ [r], n₅, (fun y => if y = x then some v else ml' y), h₅, tk₄, rfl, hlt, rfl, ?_, fun b o e => hs₅.extBut b o (hDs₁ b o e) (keep₄ b o e), ?_, ?_, hFD₄, ?_, ?_, ?_, ?_, by simpa using hnext⟩
        · exact it.walks.frame _ _ _ hT₄ fun b hb o e => hs₅.extBut b o (fun q => hDf (q ▸ hb)) e
        · exact ⟨G₄.le, G₄.grow, fun a o e => hs₅.extBut a o (fun q => by rw [q, hFD₄] at e; cases e) (G₄.frz a o e), G₄.seq⟩
        · exact fun b hb => none₄ b (it.live _ _ hT₃ b hb) (hw₃ b hb)
        · exact none₄ _ hCex₃ hFC₃
        · exact (hN₃.keeps hk₄).sameBut hs₅ (Ne.symm hDC)
        · rw [hD₅]; simp
        · exact (hys.mono (fun a o e => hG₄.le a o (hG₃.le a o e))).append (.cons hy .nil)
    · have hin : i = l.length := by (first | lia | omega)
      subst hin
      refine it.walks.done _ _ _ hT fun h₁ tk₁ hk₁ => ?_
      rw [List.take_length] at hes
      rw [hf] at hes; cases hes
      refine hR F' h₁ tk₁ ml' ys n (fun b o e => hk₁ b o (old₁ b o e).1 (hk b o e)) ⟨hG.le, hG.grow, fun a o e => hk₁ a o (fun q => by rw [hw a q] at e; cases e) (hG.frz a o e), hG.seq⟩ (hN.at' fun o e => hk₁ _ o hCw e) (hk₁ _ _ hDw hDo) hys hFD hFC
  · obtain ⟨n, hD⟩ := hD
    refine ⟨0, F, [], [], n, ml, s.heap, s.toks, hs, Nat.zero_le _, rfl, it.start, it.old, ⟨fun _ _ e => e, fun _ _ e => .inl e, fun a o e => it.old a o (h.frz a o e), h.seq⟩, fun b hb => hF0 b (it.fresh b hb).1, hF0 D hD1, hF0 _ hC1, hn, by simpa using hD, .nil, rfl⟩

/-- an iterable expression -/
noncomputable def GT (W : Wd) (A : Around) (env : Env) (vars : List Str) (t : Sem Value) (σ : Store) (l : List MV) (σ' : Store) : Prop :=
  ∀ (m : NM) (F : Fz) (s : Shared) (Q : Value → Shared → Prop) (E : Value → Shared → Prop), Rl W env vars m F σ s → (∀ F' s', Step W env vars m F σ s F' σ' s' → IterK W A F' s' l Q) →
    wpAny W.M A t (fun x s₁ => wpAny W.M A (pyIter x) Q E s₁) E s
/-- an expression -/
noncomputable def GE (W : Wd) (A : Around) (env : Env) (vars : List Str) (t : Sem Value) (σ : Store) (r : MR) (σ' : Store) : Prop :=
  ∀ (m : NM) (F : Fz) (s : Shared) (Q : Value → Shared → Prop) (E : Value → Shared → Prop), Rl W env vars m F σ s → (∀ v F' s', Step W env vars m F σ s F' σ' s' → RepR W F' s.heap s' v r → Q v s') →
    wpAny W.M A t Q E s

theorem folded_plain {iter : PySem.Expr} (h : plainIter iter = true) (env : Env) (x : Value) : foldedSetIterable iter env x = pure x := by
  cases iter <;> first | rfl | cases h

theorem Iter.mono {h₀ h : Heap} {I : Addr} {fp wr : List Addr} {P : Nat → Value → Prop} {T : Nat → Heap → Prop} {l : List MV} (x : Iter W A F h₀ h I fp wr P T l) (le : ∀ a o, F a = some o → F' a = some o) :
    Iter W A F' h₀ h I fp wr P T l where
  walks := x.walks
  start := x.start
  old := x.old
  fresh := x.fresh
  foot := fun b hb => ⟨(x.foot b hb).1, (x.foot b hb).2.imp id fun q => by
    cases e : F b with
    | none => exact absurd e q
    | some o => rw [le b o e]; simp⟩
  live := x.live
  vals := fun i v hi hp => by obtain ⟨d, h1, h2⟩ := x.vals i v hi hp; exact ⟨d, h1, h2.mono le⟩

theorem comp_run {elt iter : PySem.Expr} {x : Str} {px pos : Pos} {ifs : List PySem.Expr} {l ds : List MV} {f : MV → Option (Option MV)} (hE : EnvOk env sc) (hok : okComp scope sc vars x = true) (hpl : plainIter iter = true)
    (hit : GT W A env vars (eval iter env) σ l σ₁) (hl : l.length < 4096) (hf : compL f l = some ds)
    (ht : ∀ d r, d ∈ l → f d = some r → TestOk W A sc scope vars x ifs ((σ₁.map calm).map hide ++ [.val d]) r.isSome)
    (he : ∀ d r, d ∈ l → f d = some (some r) → EltOk W A sc scope vars x elt ((σ₁.map calm).map hide ++ [.val d]) r) :
    GE W A env vars (eval (.ListComp elt [⟨.Name x px, iter, ifs, 0⟩] scope pos) env) σ (.new ds) (σ₁.map calm) := by
  intro m F s Q E hR hQ
  have hok' := hok
  simp only [okComp, Bool.and_eq_true, Bool.not_eq_true', decide_eq_true_eq, List.all_eq_true] at hok'
  obtain ⟨⟨⟨⟨⟨h1, h2⟩, h3⟩, h4⟩, h5⟩, h6⟩ := hok'
  obtain ⟨cl, hclos, hcl⟩ := okComp_cells hE hR hok
  have hnames : ∀ y ∈ scope.names, y.2 = .local → scope.names.lookup y.1 = some .local := by
    intro y hy hl
    have := h6 y hy
    simp only [hl, Bool.or_eq_true, Bool.and_eq_true, decide_eq_true_eq, reduceCtorEq, false_and, false_or, true_and, or_false] at this
    exact this.2
  have hnc : ∀ y ∈ scope.names, y.2 ≠ .cell := by
    intro y hy hc
    have := h6 y hy
    simp [hc] at this
  rw [eval_ListComp]
  refine wpAny_comprehension_free (use := none) rfl (folded_plain hpl env) hclos h1 hnames ?_
  refine hit m F s _ _ hR fun F₁ s₁ st I fp wr P T H tk it => ?_
  obtain ⟨F₂, stc⟩ := Step.calm st.rl
  have it₂ := it.mono stc.le
  have rl₂ := stc.rl
  refine wpAny_newObj_type (wpAny_newFunctionEnv hnc (by intro y hy; simp at hy) (fun h₁ hns₁ hsb₁ => ?_) h1)
  dsimp only at hns₁ hsb₁ ⊢
  generalize hH2 : H.push { cls := .type "list", dict := none, data := .seq ([] : List Value).toArray } = H2 at hns₁ hsb₁ ⊢
  have hsz : H2.objs.size = H.objs.size + 1 := by rw [← hH2, Heap.size_push]
  have hDC : H.objs.size ≠ H2.objs.size := by rw [hsz]; exact Nat.ne_of_lt (Nat.lt_succ_self _)
  have keepH : ∀ b o, H.get? b = some o → h₁.get? b = some o := fun b o e =>
    hsb₁.extBut b o (by rw [hsz]; exact Nat.ne_of_lt (Nat.lt_succ_of_lt (Heap.lt_size e))) (Heap.get?_push_of_some _ (hH2 ▸ Heap.get?_push_of_some _ e))
  have hacc : h₁.PlainList H.objs.size #[] := ⟨_, hsb₁.extBut _ _ hDC (Heap.get?_push_of_some _ (hH2 ▸ Heap.get?_push_size _ rfl))⟩
  have hDn : s₁.heap.get? H.objs.size = none := shrink_none it.old (get_size H)
  have hCn : s₁.heap.get? H2.objs.size = none := by
    refine shrink_none it.old ?_
    cases e : H.get? H2.objs.size with
    | none => rfl
    | some o => have := Heap.lt_size e; rw [hsz] at this; exact absurd this (Nat.not_lt.mpr (Nat.le_succ _))
  have hDw : H.objs.size ∉ wr := fun hm => absurd (get_size H) (it.fresh _ hm).2
  have hCw : H2.objs.size ∉ wr := fun hm => by
    have q := (it.fresh _ hm).2
    cases e : H.get? H2.objs.size with
    | none => exact q e
    | some o => have := Heap.lt_size e; rw [hsz] at this; exact absurd this (Nat.not_lt.mpr (Nat.le_succ _))
  rw [relabel_eq hE.scope]
  have hC : EnvOk { (newEnv scope H2.objs.size env.globals cl env.qual none .none (some env) 0 : Env) with scope := relab scope sc } (relab scope sc) :=
    ⟨rfl, by simp [relab, h1], hE.globals, hE.builtins⟩
  have hx' : (relab scope sc).names.lookup x = some .local := by
    have := lookup_relabel_local (env := { env with scope := sc }) h3
    exact this
  have it₃ : Iter W A F₂ s₁.heap h₁ I fp wr P T l := {
    walks := it₂.walks
    start := it₂.walks.frame _ _ _ it₂.start fun b _ o e => keepH b o e
    old := fun b o e => keepH b o (it₂.old b o e)
    fresh := fun b hb => ⟨(it₂.fresh b hb).1, by
      cases e : H.get? b with
      | none => exact absurd e (it₂.fresh b hb).2
      | some o => rw [keepH b o e]; simp⟩
    foot := fun b hb => ⟨by
      cases e : H.get? b with
      | none => exact absurd e (it₂.foot b hb).1
      | some o => rw [keepH b o e]; simp, (it₂.foot b hb).2⟩
    live := it₂.live
    vals := it₂.vals }
  have loop : codeAny W.M A (.compLoop (.ListComp elt [⟨.Name x px, iter, ifs, 0⟩] scope pos) 0 (.ref I) (.ref H.objs.size) { (newEnv scope H2.objs.size env.globals cl env.qual none .none (some env) 0 : Env) with scope := relab scope sc })
      (compPost W.M A E none Q (.ref H.objs.size) H2.objs.size) { s₁ with heap := h₁, toks := tk + ([] : List (Str × Value)).length } := by
    refine comp_loop (s := { s₁ with heap := h₁, toks := tk + ([] : List (Str × Value)).length }) hE hC hok rl₂ it₃ rfl hcl hx' hl hf ht he hacc hDn hCn hDw hCw hDC hns₁ ?_
    intro F' H' tk' ml' ys n hk hG hN hD hys hFD hFC
    replace hFC : F' H2.objs.size = none := hFC
    refine ⟨ml', hN, fun h'' hs'' => ?_⟩
    have hk'' : ∀ b o, s₁.heap.get? b = some o → h''.get? b = some o := fun b o e => hs''.extBut b o (by rintro rfl; rw [hCn] at e; cases e) (hk b o e)
    have fin := Step.extF (tk := tk') rl₂ hk'' hG.le hG.grow (fun a o e => hs''.extBut a o (by rintro rfl; rw [hFC] at e; cases e) (hG.frz a o e)) hG.seq
    refine hQ _ F' _ ((st.trans stc).trans fin) ⟨_, ys, n, rfl, st.stay _ hDn, ?_, hys, hFD⟩
    exact (hs''.2 _ hDC).trans hD
  exact codeAny_compStart_list loop (it₃.walks.self 0 _ _ _ it₃.start loop)
end
end Mine

end
-- SimH
section
set_option autoImplicit false
set_option maxRecDepth 100000
set_option bootstrap.genMatcherCode false
set_option backward.match.sparseCases false
namespace Mine
open PySem PySem.Calls PyProof.Rows PySem.Spec PySem.SeqAt

section
variable (W : Wd) (A : Around) (env : Env) (vars : List Str)
noncomputable def GV (t : Sem Value) (σ : Store) (d : MV) (σ' : Store) : Prop :=
  ∀ (m : NM) (F : Fz) (s : Shared) (Q : Value → Shared → Prop) (E : Value → Shared → Prop), Rl W env vars m F σ s → (∀ v F' s', Step W env vars m F σ s F' σ' s' → W.Rep F' v d → Q v s') → wpAny W.M A t Q E s
noncomputable def GB (t : Sem Bool) (σ : Store) (b : Bool) (σ' : Store) : Prop :=
  ∀ (m : NM) (F : Fz) (s : Shared) (Q : Bool → Shared → Prop) (E : Value → Shared → Prop), Rl W env vars m F σ s → (∀ F' s', Step W env vars m F σ s F' σ' s' → Q b s') → wpAny W.M A t Q E s
noncomputable def GL (t : Sem (List Value)) (σ : Store) (ds : List MV) (σ' : Store) : Prop :=
  ∀ (m : NM) (F : Fz) (s : Shared) (Q : List Value → Shared → Prop) (E : Value → Shared → Prop), Rl W env vars m F σ s → (∀ vs F' s', Step W env vars m F σ s F' σ' s' → W.Reps F' vs ds → Q vs s') → wpAny W.M A t Q E s
end

section
variable {W : Wd} {A : Around} {env : Env} {sc : Scope} {vars : List Str} {σ σ' σ₁ σ₂ : Store} {t : Sem Value} {k : Nat}

theorem GE.v {r : MR} (h : GE W A env vars t σ r σ') : GV W A env vars t σ r.mv σ' := by
  intro m F s Q E hR hQ
  refine h m F s Q E hR fun v F' s' st x => ?_
  obtain ⟨F₂, st₂, y⟩ := x.freeze st
  exact hQ v F₂ s' st₂ y
theorem GE.of_v {d : MV} (h : GV W A env vars t σ d σ') : GE W A env vars t σ (.val d) σ' := h

theorem g_int {i : Int} {kk : Nat} {pos : Pos} : GE W A env vars (eval (.Constant (.int i) kk pos) env) σ (.val (.int i)) σ := by
  intro m F s Q E hR hQ
  exact wpAny_Constant_int (hQ _ _ _ (Step.toks hR _) (.int _ _))
theorem g_bool {b : Bool} {kk : Nat} {pos : Pos} : GE W A env vars (eval (.Constant (.bool b) kk pos) env) σ (.val (.bool b)) σ := by
  intro m F s Q E hR hQ
  exact wpAny_Constant_bool (hQ _ _ _ (Step.refl hR) (.bool _))

theorem g_var (hE : EnvOk env sc) {x : Str} {i : Nat} {d : MV} {pos : Pos} (hv : vars[i]? = some x) (hx : isVar sc x = true) (hs : σ[i]? = some (.val d)) : GE W A env vars (eval (.Name x pos) env) σ (.val d) σ := by
  intro m F s Q E hR hQ
  obtain ⟨u, hu, hr⟩ := hR.slots i x _ hv hs
  exact ld_var hE hR hx hu (hQ _ _ _ (Step.refl hR) hr)

theorem g_var_own (hE : EnvOk env sc) {x : Str} {i : Nat} {l : List MV} {pos : Pos} (hv : vars[i]? = some x) (hx : isVar sc x = true) (hs : σ[i]? = some (.own l)) :
    GE W A env vars (eval (.Name x pos) env) σ (.val (.lst l)) (σ.set i (.val (.lst l))) := by
  intro m F s Q E hR hQ
  obtain ⟨a, vs, n, e1, e2, e3, e4⟩ := hR.slots i x _ hv hs
  have hi : i < σ.length := (List.getElem?_eq_some_iff.mp hs).1
  obtain ⟨F', st, rep⟩ := Step.still hR (σ' := σ.set i (.val (.lst l))) (by simp) (fun j sl e => by
    rw [List.getElem?_set] at e
    split at e
    · rename_i hij
      subst hij
      cases e
      exact .inr ⟨l, hs, rfl⟩
    · exact .inl e)
  refine ld_var hE hR hx e1 (hQ _ _ _ st (rep i x l a hv hs ?_ e1))
  rw [List.getElem?_set, if_pos rfl, if_pos hi]

theorem g_fn (hW : WOk W) (hE : EnvOk env sc) {x : Str} {f : Nat} {pos : Pos} (hf : W.fns[f]? = some x) (hx : isGlob sc x = true) : GE W A env vars (eval (.Name x pos) env) σ (.val (.fn f)) σ := by
  intro m F s Q E hR hQ
  obtain ⟨a, o, fd, h1, _⟩ := hW.fn f x hf
  exact ld_fun hW hE hR.toSt hx h1 (hQ _ _ _ (Step.refl hR) (.fn hf h1))

theorem g_bin {l r : PySem.Expr} {pos : Pos} {x y : MR} {z : MR} {o : Bop} {op : Operator} (ha : GE W A env vars (eval l env) σ x σ₁) (hb : GE W A env vars (eval r env) σ₁ y σ₂) (ho : okOp o op = true) (e : mbin o x.mv y.mv = some z) :
    GE W A env vars (eval (.BinOp l op r pos) env) σ z σ₂ := by
  intro m F s Q E hR hQ
  refine wpAny_BinOp (ha.v m F s _ _ hR fun va F₁ s₁ st₁ ra => hb.v m F₁ s₁ _ _ st₁.rl fun vb F₂ s₂ st₂ rb => ?_)
  refine op_bin st₂.rl (ra.mono st₂.le) rb ho e fun v F₃ s₃ st₃ r₃ => ?_
  exact hQ v F₃ s₃ ((st₁.trans st₂).trans st₃) (RepR.from (st₁.trans st₂) r₃)

theorem g_neg {x : PySem.Expr} {pos : Pos} {i : Int} (ha : GE W A env vars (eval x env) σ (.val (.int i)) σ₁) : GE W A env vars (eval (.UnaryOp .USub x pos) env) σ (.val (.int (-i))) σ₁ := by
  intro m F s Q E hR hQ
  refine wpAny_UnaryOp (ha m F s _ _ hR fun v F₁ s₁ st₁ r => ?_)
  obtain ⟨u, rfl⟩ := Rep.int_inv r
  exact P.neg_int (hQ _ _ _ (st₁.trans (Step.toks st₁.rl _)) (.int _ _))

theorem g_not {x : PySem.Expr} {pos : Pos} {b : Bool} (ha : GE W A env vars (eval x env) σ (.val (.bool b)) σ₁) : GE W A env vars (eval (.UnaryOp .Not x pos) env) σ (.val (.bool (!b))) σ₁ := by
  intro m F s Q E hR hQ
  refine wpAny_UnaryOp (ha m F s _ _ hR fun v F₁ s₁ st₁ r => ?_)
  obtain rfl := Rep.bool_inv r
  exact not_value (wpAny_truthy_bool (hQ _ _ _ st₁ (.bool _)))
theorem t_not {x : PySem.Expr} {pos : Pos} {b : Bool} {whole : Sem Value} (ha : GB W A env vars (isTrue x env (eval x env)) σ b σ₁) : GB W A env vars (isTrue (.UnaryOp .Not x pos) env whole) σ (!b) σ₁ := by
  intro m F s Q E hR hQ
  exact wpAny_isTrue_Not (ha m F s _ _ hR fun F₁ s₁ st₁ => hQ _ _ st₁)

theorem g_cmp (hA : AOk A k) {l r : PySem.Expr} {pos : Pos} {x y : MR} {b : Bool} {o : Cop} {op : CmpOp} (ha : GE W A env vars (eval l env) σ x σ₁) (hb : GE W A env vars (eval r env) σ₁ y σ₂) (ho : okC o op = true) (hm : behindInMarks op r = false)
    (e : mcmp o x.mv y.mv = some b) : GE W A env vars (eval (.Compare l [op] [r] pos) env) σ (.val (.bool b)) σ₂ := by
  intro m F s Q E hR hQ
  refine wpAny_Compare1 (ha.v m F s _ _ hR fun va F₁ s₁ st₁ ra => hb.v m F₁ s₁ _ _ st₁.rl fun vb F₂ s₂ st₂ rb => ?_) hm
  exact op_cmp hA st₂.rl (ra.mono st₂.le) rb ho e fun tk => hQ _ _ _ ((st₁.trans st₂).trans (Step.toks st₂.rl tk)) (.bool _)
theorem t_cmp (hA : AOk A k) {l r : PySem.Expr} {pos : Pos} {x y : MR} {b : Bool} {o : Cop} {op : CmpOp} {whole : Sem Value} (ha : GE W A env vars (eval l env) σ x σ₁) (hb : GE W A env vars (eval r env) σ₁ y σ₂) (ho : okC o op = true)
    (hm : behindInMarks op r = false) (e : mcmp o x.mv y.mv = some b) : GB W A env vars (isTrue (.Compare l [op] [r] pos) env whole) σ b σ₂ := by
  intro m F s Q E hR hQ
  refine wpAny_isTrue_Compare1 (ha.v m F s _ _ hR fun va F₁ s₁ st₁ ra => hb.v m F₁ s₁ _ _ st₁.rl fun vb F₂ s₂ st₂ rb => ?_) hm
  exact op_cmp hA st₂.rl (ra.mono st₂.le) rb ho e fun tk => wpAny_truthy_bool (hQ _ _ ((st₁.trans st₂).trans (Step.toks st₂.rl tk)))

theorem g_and_t {x y : PySem.Expr} {pos : Pos} {b : Bool} (ha : GE W A env vars (eval x env) σ (.val (.bool true)) σ₁) (hb : GE W A env vars (eval y env) σ₁ (.val (.bool b)) σ₂) : GE W A env vars (eval (.BoolOp .And [x, y] pos) env) σ (.val (.bool b)) σ₂ := by
  intro m F s Q E hR hQ
  refine wpAny_And2 (ha m F s _ _ hR fun va F₁ s₁ st₁ ra => ?_)
  obtain rfl := Rep.bool_inv ra
  refine wpAny_truthy_bool ?_
  exact hb m F₁ s₁ _ _ st₁.rl fun vb F₂ s₂ st₂ rb => hQ _ _ _ (st₁.trans st₂) rb
theorem g_and_f {x y : PySem.Expr} {pos : Pos} (ha : GE W A env vars (eval x env) σ (.val (.bool false)) σ₁) : GE W A env vars (eval (.BoolOp .And [x, y] pos) env) σ (.val (.bool false)) σ₁ := by
  intro m F s Q E hR hQ
  refine wpAny_And2 (ha m F s _ _ hR fun va F₁ s₁ st₁ ra => ?_)
  obtain rfl := Rep.bool_inv ra
  exact wpAny_truthy_bool (hQ _ _ _ st₁ (.bool _))
theorem g_or_f {x y : PySem.Expr} {pos : Pos} {b : Bool} (ha : GE W A env vars (eval x env) σ (.val (.bool false)) σ₁) (hb : GE W A env vars (eval y env) σ₁ (.val (.bool b)) σ₂) : GE W A env vars (eval (.BoolOp .Or [x, y] pos) env) σ (.val (.bool b)) σ₂ := by
  intro m F s Q E hR hQ
  refine wpAny_Or2 (ha m F s _ _ hR fun va F₁ s₁ st₁ ra => ?_)
  obtain rfl := Rep.bool_inv ra
  refine wpAny_truthy_bool ?_
  exact hb m F₁ s₁ _ _ st₁.rl fun vb F₂ s₂ st₂ rb => hQ _ _ _ (st₁.trans st₂) rb
theorem g_or_t {x y : PySem.Expr} {pos : Pos} (ha : GE W A env vars (eval x env) σ (.val (.bool true)) σ₁) : GE W A env vars (eval (.BoolOp .Or [x, y] pos) env) σ (.val (.bool true)) σ₁ := by
  intro m F s Q E hR hQ
  refine wpAny_Or2 (ha m F s _ _ hR fun va F₁ s₁ st₁ ra => ?_)
  obtain rfl := Rep.bool_inv ra
  exact wpAny_truthy_bool (hQ _ _ _ st₁ (.bool _))
theorem t_and_t {x y : PySem.Expr} {pos : Pos} {b : Bool} {whole : Sem Value} (ha : GB W A env vars (isTrue x env (eval x env)) σ true σ₁) (hb : GB W A env vars (isTrue y env (eval y env)) σ₁ b σ₂) :
    GB W A env vars (isTrue (.BoolOp .And [x, y] pos) env whole) σ b σ₂ := by
  intro m F s Q E hR hQ
  refine wpAny_isTrue_BoolOp (wpAny_allTrue_And_cons (ha m F s _ _ hR fun F₁ s₁ st₁ => ?_))
  refine wpAny_allTrue_And_cons (hb m F₁ s₁ _ _ st₁.rl fun F₂ s₂ st₂ => ?_)
  have := hQ _ _ (st₁.trans st₂)
  cases b with
  | true => exact wpAny_allTrue_And_nil this
  | false => exact this
theorem t_and_f {x y : PySem.Expr} {pos : Pos} {whole : Sem Value} (ha : GB W A env vars (isTrue x env (eval x env)) σ false σ₁) : GB W A env vars (isTrue (.BoolOp .And [x, y] pos) env whole) σ false σ₁ := by
  intro m F s Q E hR hQ
  exact wpAny_isTrue_BoolOp (wpAny_allTrue_And_cons (ha m F s _ _ hR fun F₁ s₁ st₁ => hQ _ _ st₁))
theorem t_or_f {x y : PySem.Expr} {pos : Pos} {b : Bool} {whole : Sem Value} (ha : GB W A env vars (isTrue x env (eval x env)) σ false σ₁) (hb : GB W A env vars (isTrue y env (eval y env)) σ₁ b σ₂) :
    GB W A env vars (isTrue (.BoolOp .Or [x, y] pos) env whole) σ b σ₂ := by
  intro m F s Q E hR hQ
  refine wpAny_isTrue_BoolOp (wpAny_allTrue_Or_cons (ha m F s _ _ hR fun F₁ s₁ st₁ => ?_))
  refine wpAny_allTrue_Or_cons (hb m F₁ s₁ _ _ st₁.rl fun F₂ s₂ st₂ => ?_)
  have := hQ _ _ (st₁.trans st₂)
  cases b with
  | true => exact this
  | false => exact wpAny_allTrue_Or_nil this
theorem t_or_t {x y : PySem.Expr} {pos : Pos} {whole : Sem Value} (ha : GB W A env vars (isTrue x env (eval x env)) σ true σ₁) : GB W A env vars (isTrue (.BoolOp .Or [x, y] pos) env whole) σ true σ₁ := by
  intro m F s Q E hR hQ
  exact wpAny_isTrue_BoolOp (wpAny_allTrue_Or_cons (ha m F s _ _ hR fun F₁ s₁ st₁ => hQ _ _ st₁))

theorem g_ite_t {c x y : PySem.Expr} {pos : Pos} {r : MR} (hc : GB W A env vars (isTrue c env (eval c env)) σ true σ₁) (ha : GE W A env vars (eval x env) σ₁ r σ₂) : GE W A env vars (eval (.IfExp c x y pos) env) σ r σ₂ := by
  intro m F s Q E hR hQ
  refine wpAny_IfExp (hc m F s _ _ hR fun F₁ s₁ st₁ => ?_)
  exact ha m F₁ s₁ _ _ st₁.rl fun v F₂ s₂ st₂ rv => hQ _ _ _ (st₁.trans st₂) (RepR.from st₁ rv)
theorem g_ite_f {c x y : PySem.Expr} {pos : Pos} {r : MR} (hc : GB W A env vars (isTrue c env (eval c env)) σ false σ₁) (ha : GE W A env vars (eval y env) σ₁ r σ₂) : GE W A env vars (eval (.IfExp c x y pos) env) σ r σ₂ := by
  intro m F s Q E hR hQ
  refine wpAny_IfExp (hc m F s _ _ hR fun F₁ s₁ st₁ => ?_)
  exact ha m F₁ s₁ _ _ st₁.rl fun v F₂ s₂ st₂ rv => hQ _ _ _ (st₁.trans st₂) (RepR.from st₁ rv)
theorem t_ite_t {c x y : PySem.Expr} {pos : Pos} {b : Bool} {whole : Sem Value} (hc : GB W A env vars (isTrue c env (eval c env)) σ true σ₁) (ha : GB W A env vars (isTrue x env (eval x env)) σ₁ b σ₂) : GB W A env vars (isTrue (.IfExp c x y pos) env whole) σ b σ₂ := by
  intro m F s Q E hR hQ
  refine isTrue_IfExp (hc m F s _ _ hR fun F₁ s₁ st₁ => ?_)
  exact ha m F₁ s₁ _ _ st₁.rl fun F₂ s₂ st₂ => hQ _ _ (st₁.trans st₂)
theorem t_ite_f {c x y : PySem.Expr} {pos : Pos} {b : Bool} {whole : Sem Value} (hc : GB W A env vars (isTrue c env (eval c env)) σ false σ₁) (ha : GB W A env vars (isTrue y env (eval y env)) σ₁ b σ₂) : GB W A env vars (isTrue (.IfExp c x y pos) env whole) σ b σ₂ := by
  intro m F s Q E hR hQ
  refine isTrue_IfExp (hc m F s _ _ hR fun F₁ s₁ st₁ => ?_)
  exact ha m F₁ s₁ _ _ st₁.rl fun F₂ s₂ st₂ => hQ _ _ (st₁.trans st₂)

/-- expressions whose truth is asked of their value -/
noncomputable def special : PySem.Expr → Bool
  | .UnaryOp .Not _ _ => true
  | .BoolOp .. => true
  | .IfExp .. => true
  | .Compare .. => true
  | _ => false
theorem isTrue_plain' {ex : PySem.Expr} (h : special ex = false) (whole : Sem Value) : isTrue ex env whole = (do let v ← whole; standAt ex.pos; holding [v] (truthy v)) := by
  cases ex <;> first | rfl | cases h | (rename_i op _ _; cases op <;> first | rfl | cases h)
theorem t_of {ex : PySem.Expr} (hs : special ex = false) {b : Bool} (h : GE W A env vars (eval ex env) σ (.val (.bool b)) σ') : GB W A env vars (isTrue ex env (eval ex env)) σ b σ' := by
  intro m F s Q E hR hQ
  refine wpAny_isTrue_value (h m F s _ _ hR fun v F₁ s₁ st₁ r => ?_) (isTrue_plain' hs _)
  obtain rfl := Rep.bool_inv r
  exact wpAny_truthy_bool (hQ _ _ st₁)
end
end Mine

end
-- SimI
section
set_option autoImplicit false
set_option maxRecDepth 100000
set_option bootstrap.genMatcherCode false
namespace Mine
open PySem PySem.Calls PyProof.Rows PySem.Spec PySem.SeqAt

noncomputable def notStar : PySem.Expr → Bool
  | .Starred .. => false
  | _ => true
theorem star_cons {e : PySem.Expr} (h : notStar e = true) (rest : List PySem.Expr) (env : Env) : starEach (e :: rest) env = (false, eval e env) :: starEach rest env := by
  cases e <;> first | rfl | cases h

section
variable {W : Wd} {A : Around} {env : Env} {sc : Scope} {vars : List Str} {m : NM} {F F' F₁ : Fz} {σ σ' σ₁ σ₂ : Store} {s s₁ : Shared} {k : Nat} {E : Value → Shared → Prop}

/-- the slot's sequence, as it stands -/
theorem slot_seq (h : Rl W env vars m F σ s) {i : Nat} {x : Str} {sl : Slot} {l : List MV} (hv : vars[i]? = some x) (hs : σ[i]? = some sl) (e : sl.items? = some l) : ∃ v, m x = some v ∧ SeqAt' W F s.heap v l := by
  have q := h.slots i x sl hv hs
  cases sl with
  | unset => cases e
  | val d => obtain ⟨u, hu, hr⟩ := q; exact ⟨u, hu, hr.seqAt h.toSt e⟩
  | own l' =>
    cases e
    obtain ⟨a, vs, n, e1, e2, e3, _⟩ := q
    exact ⟨_, e1, a, "list", vs, n, rfl, .inl rfl, e2, e3⟩
  | lent l' =>
    cases e
    obtain ⟨a, vs, n, e1, e2, e3, _⟩ := q
    exact ⟨_, e1, a, "list", vs, n, rfl, .inl rfl, e2, e3⟩
theorem live_val (h : Rl W env vars m F σ s) {i : Nat} {x : Str} (hv : vars[i]? = some x) (hl : live σ i = true) : ∃ v, m x = some v := by
  unfold live at hl
  split at hl
  · rename_i d hs; obtain ⟨u, hu, _⟩ := h.slots i x _ hv hs; exact ⟨u, hu⟩
  · rename_i l hs; obtain ⟨a, _, _, e, _⟩ := h.slots i x _ hv hs; exact ⟨_, e⟩
  · rename_i l hs; obtain ⟨a, _, _, e, _⟩ := h.slots i x _ hv hs; exact ⟨_, e⟩
  · cases hl
/-- a list alone -/
theorem slot_list (h : Rl W env vars m F σ s) {i : Nat} {x : Str} {sl : Slot} {l : List MV} (hv : vars[i]? = some x) (hs : σ[i]? = some sl) (e : sl.list? = some l) :
    ∃ a vs n, m x = some (.ref a) ∧ s.heap.get? a = some (listO (List.toArray vs) n) ∧ W.Reps F vs l := by
  have q := h.slots i x sl hv hs
  cases sl with
  | unset => cases e
  | val d =>
    obtain ⟨u, hu, hr⟩ := q
    cases d <;> simp only [Slot.list?, Option.some.injEq, reduceCtorEq] at e
    subst e
    obtain ⟨a, vs, n, rfl, h1, h2⟩ := hr.lst_inv
    exact ⟨a, vs, n, hu, h.frz _ _ h1, h2⟩
  | own l' =>
    cases e
    obtain ⟨a, vs, n, e1, e2, e3, _⟩ := q
    exact ⟨a, vs, n, e1, e2, e3⟩
  | lent l' =>
    cases e
    obtain ⟨a, vs, n, e1, e2, e3, _⟩ := q
    exact ⟨a, vs, n, e1, e2, e3⟩

theorem list_items {sl : Slot} {l : List MV} (e : sl.list? = some l) : sl.items? = some l := by
  cases sl with
  | unset => cases e
  | val d => cases d <;> simp only [Slot.list?, Option.some.injEq, reduceCtorEq] at e; subst e; rfl
  | own l' => exact e
  | lent l' => exact e

/-- a name's list has new items -/
theorem Step.relist (h : Rl W env vars m F σ s) {i : Nat} {y : Str} {sl sl' : Slot} {out : List MV} {b : Addr} (hv : vars[i]? = some y) (hs : σ[i]? = some sl)
    (hsl : (∃ l, sl = .own l ∧ sl' = .own out) ∨ (∃ l, sl = .lent l ∧ sl' = .lent out)) (hb : m y = some (.ref b)) {H : Heap} {tk : Nat} {ws : List Value} {n : Nat}
    (hk : ∀ c o, c ≠ b → s.heap.get? c = some o → H.get? c = some o) (hb' : H.get? b = some (listO ws.toArray n)) (g : Grow F s.heap F' H) (hF : F' b = none) (hr : W.Reps F' ws out) :
    Step W env vars m F σ s F' (σ.set i sl') { s with heap := H, toks := tk } := by
  have hi : i < σ.length := (List.getElem?_eq_some_iff.mp hs).1
  have hm : sl.mut = true := by rcases hsl with ⟨l, rfl, _⟩ | ⟨l, rfl, _⟩ <;> rfl
  have hm' : sl'.mut = true := by rcases hsl with ⟨l, _, rfl⟩ | ⟨l, _, rfl⟩ <;> rfl
  have hown : Own vars m σ b := ⟨i, y, sl, hv, hs, hm, hb⟩
  obtain ⟨vs₀, n₀, hold, _⟩ := h.own_at hown
  have hbase : W.base.get? b = none := by
    have q := h.slots i y sl hv hs
    rcases hsl with ⟨l, rfl, _⟩ | ⟨l, rfl, _⟩ <;> (obtain ⟨a, _, _, e1, _, _, _, e5⟩ := q; rw [hb] at e1; cases e1; exact e5)
  have setAt : ∀ (j : Nat) (t : Slot), (σ.set i sl')[j]? = some t → (j = i ∧ t = sl') ∨ (j ≠ i ∧ σ[j]? = some t) := by
    intro j t e
    rw [List.getElem?_set] at e
    split at e
    · rename_i hij
      subst hij
      simp only [Option.some.injEq] at e
      exact .inl ⟨rfl, e.symm⟩
    · rename_i hij
      exact .inr ⟨fun q => hij q.symm, e⟩
  have own' : ∀ (j : Nat) (x : Str) (l : List MV) (t : Slot), j ≠ i → vars[j]? = some x → σ[j]? = some t → t.mut = true → OwnAt F W s.heap (m x) l → OwnAt F' W H (m x) l := by
    rintro j x l t hj hx ht htm ⟨a, vs, n', e1, e2, e3, e4, e5⟩
    have hab : a ≠ b := by
      rintro rfl
      exact hj (h.apart j i x y t sl a hx hv ht hs htm hm e1 hb)
    refine ⟨a, vs, n', e1, hk a _ hab e2, e3.mono g.le, ?_, e5⟩
    cases q : F' a with
    | none => rfl
    | some o =>
      rcases g.grow a o q with q' | q'
      · rw [e4] at q'; cases q'
      · rw [e2] at q'; cases q'
  exact {
    rl0 := h
    stay := fun c e => by
      cases q : s.heap.get? c with
      | none => rfl
      | some o =>
        by_cases hc : c = b
        · subst hc; rw [hb'] at e; cases e
        · rw [hk c o hc q] at e; cases e
    rl := {
      sh := by rw [h.sh]
      base := fun c o e => hk c o (by rintro rfl; rw [hbase] at e; cases e) (h.base c o e)
      frz := g.frz
      seq := g.seq
      ns := by
        obtain ⟨ml, hn, hml⟩ := h.ns
        refine ⟨ml, hn.at' fun o e => hk _ o ?_ e, hml⟩
        rintro rfl
        obtain ⟨o', _, _, e', hd, _⟩ := hn
        rw [hold] at e'; cases e'; cases hd
      cell := fun x hx => by
        obtain ⟨c, hc, o, ho, hd⟩ := h.cell x hx
        refine ⟨c, hc, o, hk c o ?_ ho, hd⟩
        rintro rfl
        rw [hold] at ho; cases ho; cases hd
      len := by rw [List.length_set]; exact h.len
      slots := fun j x t hx ht => by
        rcases setAt j t ht with ⟨rfl, rfl⟩ | ⟨hj, ht⟩
        · rw [hv] at hx; cases hx
          have own : OwnAt F' W H (m y) out := ⟨b, ws, n, hb, hb', hr, hF, hbase⟩
          rcases hsl with ⟨l, _, rfl⟩ | ⟨l, _, rfl⟩ <;> exact own
        · have q := h.slots j x t hx ht
          cases t with
          | unset => trivial
          | val d => obtain ⟨u, hu, hr⟩ := q; exact ⟨u, hu, hr.mono g.le⟩
          | own l => exact own' j x l _ hj hx ht rfl q
          | lent l => exact own' j x l _ hj hx ht rfl q
      apart := fun j j' x x' t t' a hx hx' ht ht' hm1 hm2 e e' => by
        have back : ∀ (j : Nat) (x : Str) (t : Slot), vars[j]? = some x → (σ.set i sl')[j]? = some t → t.mut = true → ∃ t₀ : Slot, σ[j]? = some t₀ ∧ t₀.mut = true := by
          intro j x t hx ht hmt
          rcases setAt j t ht with ⟨rfl, rfl⟩ | ⟨_, ht⟩
          · exact ⟨sl, hs, hm⟩
          · exact ⟨t, ht, hmt⟩
        obtain ⟨t₀, h1, h2⟩ := back j x t hx ht hm1
        obtain ⟨t₀', h1', h2'⟩ := back j' x' t' hx' ht' hm2
        exact h.apart j j' x x' t₀ t₀' a hx hx' h1 h1' h2 h2' e e' }
    le := g.le
    grow := fun a o e => (g.grow a o e).imp id .inl
    frame := fun c o e hn => hk c o (by rintro rfl; exact hn hown) e
    owns := fun j l e => by
      rcases setAt j _ e with ⟨rfl, q⟩ | ⟨_, q⟩
      · rcases hsl with ⟨l', rfl, rfl⟩ | ⟨l', _, rfl⟩
        · exact ⟨l', hs⟩
        · cases q
      · exact ⟨l, q⟩
    lents := fun j l e => by
      rcases setAt j _ e with ⟨rfl, q⟩ | ⟨_, q⟩
      · rcases hsl with ⟨l', _, rfl⟩ | ⟨l', rfl, rfl⟩
        · cases q
        · exact ⟨l', hs⟩
      · exact ⟨l, q⟩ }
end

section
variable {W : Wd} {A : Around} {env : Env} {sc : Scope} {vars : List Str} {σ σ' σ₁ σ₂ : Store} {k : Nat} {P : Fns} {ln : Nat → Bool}

theorem l_nil {pos : Pos} : GL W A env vars (spliced (backTo pos (starEach [] env))) σ [] σ := by
  intro m F s Q E hR hQ
  exact args_nil (hQ _ _ _ (Step.refl hR) .nil)
theorem l_cons {pos : Pos} {e : PySem.Expr} {rest : List PySem.Expr} {d : MR} {ds : List MV} (hn : notStar e = true) (ha : GE W A env vars (eval e env) σ d σ₁) (hr : GL W A env vars (spliced (backTo pos (starEach rest env))) σ₁ ds σ₂) :
    GL W A env vars (spliced (backTo pos (starEach (e :: rest) env))) σ (d.mv :: ds) σ₂ := by
  intro m F s Q E hR hQ
  refine args_cons (ha.v m F s _ _ hR fun v F₁ s₁ st₁ r₁ => ?_) (star_cons hn rest env)
  exact hr m F₁ s₁ _ _ st₁.rl fun vs F₂ s₂ st₂ r₂ => hQ _ _ _ (st₁.trans st₂) (.cons (r₁.mono st₂.le) r₂)

theorem g_call_at {m : NM} {F : Fz} {s : Shared} {Q E : Value → Shared → Prop} {a : Addr} {x : Str} {f : Nat} {ds : List MV} {r : MV} {out : List MV} (hW : WOk W) (hA : AOk A k) (hC : CallOk W ln k P) (hfx : W.fns[f]? = some x) (hmg : W.mg x = some (.ref a))
    (hP : P f ds = some (r, out)) (hln : ln f = false) {pos : Pos} {args : List PySem.Expr} (hne : args ≠ []) (hst : ∀ e ∈ args, notStar e = true) (hR : Rl W env vars m F σ s)
    (hargs : GL W A env vars (spliced (backTo pos (starEach args env))) σ ds σ₁) (hQ : ∀ v F' s', Step W env vars m F σ s F' σ₁ s' → W.Rep F' v r → Q v s') :
    wpAny W.M A (callWith pos (.ref a) [] (backTo pos (starEach args env)) []) Q E s := by
  obtain ⟨a', o, fd, h1, h2, h3⟩ := hW.fn f x hfx
  rw [hmg] at h1; cases h1
  cases args with
  | nil => exact absurd rfl hne
  | cons e rest =>
    refine callWith_def h3 ?_ (star_cons (hst e (List.mem_cons_self ..)) rest env)
    refine hargs m F s _ _ hR fun vs F₁ s₁ st₁ r₁ => ⟨st₁.rl.base _ _ h2, ?_⟩
    refine hC.plain f x a ds r out hP hln hfx hmg A F₁ s₁ vs Q E hA st₁.rl.toSt r₁ fun v F' h' tk hk g rv => ?_
    exact hQ _ _ _ (st₁.trans (Step.extF st₁.rl hk g.le g.grow g.frz g.seq)) rv

theorem g_call (hW : WOk W) (hA : AOk A k) (hE : EnvOk env sc) (hC : CallOk W ln k P) {x : Str} {f : Nat} {ds : List MV} {r : MV} {out : List MV} {p pos : Pos} {args : List PySem.Expr} (hfx : W.fns[f]? = some x) (hx : isGlob sc x = true)
    (hP : P f ds = some (r, out)) (hln : ln f = false) (hne : args ≠ []) (hst : ∀ e ∈ args, notStar e = true) (hargs : GL W A env vars (spliced (backTo pos (starEach args env))) σ ds σ₁) :
    GE W A env vars (eval (.Call (.Name x p) args [] pos) env) σ (.val r) σ₁ := by
  intro m F s Q E hR hQ
  obtain ⟨a, o, fd, h1, h2, h3⟩ := hW.fn f x hfx
  exact Call_ (ld_fun hW hE hR.toSt hx h1 (g_call_at hW hA hC hfx h1 hP hln hne hst hR hargs hQ))
theorem g_callv (hW : WOk W) (hA : AOk A k) (hE : EnvOk env sc) (hC : CallOk W ln k P) {x : Str} {i f : Nat} {ds : List MV} {r : MV} {out : List MV} {p pos : Pos} {args : List PySem.Expr} (hv : vars[i]? = some x) (hx : isVar sc x = true)
    (hs : σ[i]? = some (.val (.fn f))) (hP : P f ds = some (r, out)) (hln : ln f = false) (hne : args ≠ []) (hst : ∀ e ∈ args, notStar e = true) (hargs : GL W A env vars (spliced (backTo pos (starEach args env))) σ ds σ₁) :
    GE W A env vars (eval (.Call (.Name x p) args [] pos) env) σ (.val r) σ₁ := by
  intro m F s Q E hR hQ
  obtain ⟨u, hu, hr⟩ := hR.slots i x _ hv hs
  obtain ⟨a, y, rfl, h1, h2⟩ := hr.fn_inv
  exact Call_ (ld_var hE hR hx hu (g_call_at hW hA hC h1 h2 hP hln hne hst hR hargs hQ))

theorem g_lend (hW : WOk W) (hA : AOk A k) (hE : EnvOk env sc) (hC : CallOk W ln k P) {x y : Str} {i f : Nat} {l ds : List MV} {r : MV} {out : List MV} {p p' pos : Pos} {args : List PySem.Expr} {sl sl' : Slot} (hfx : W.fns[f]? = some x) (hx : isGlob sc x = true)
    (hv : vars[i]? = some y) (hy : isVar sc y = true) (hlv : live σ i = true) (hs : σ₁[i]? = some sl) (hsl : (sl = .own l ∧ sl' = .own out) ∨ (sl = .lent l ∧ sl' = .lent out)) (hP : P f (.lst l :: ds) = some (r, out)) (hln : ln f = true)
    (hargs : GL W A env vars (spliced (backTo pos (starEach args env))) σ ds σ₁) :
    GE W A env vars (eval (.Call (.Name x p) (.Name y p' :: args) [] pos) env) σ (.val r) (σ₁.set i sl') := by
  intro m F s Q E hR hQ
  obtain ⟨a, o, fd, h1, h2, h3⟩ := hW.fn f x hfx
  obtain ⟨v, hmv⟩ := live_val hR hv hlv
  refine Call_ (ld_fun hW hE hR.toSt hx h1 ?_)
  refine callWith_def h3 ?_ rfl
  refine args_cons (ld_var hE hR hy hmv ?_) rfl
  refine hargs m F s _ _ hR fun vs F₁ s₁ st₁ rs => ?_
  have q : OwnAt F₁ W s₁.heap (m y) l := by
    have q := st₁.rl.slots i y sl hv hs
    rcases hsl with ⟨rfl, _⟩ | ⟨rfl, _⟩ <;> exact q
  obtain ⟨b, ws, n, e1, e2, e3, e4, e5⟩ := q
  rw [hmv] at e1; cases e1
  refine ⟨st₁.rl.base _ _ h2, ?_⟩
  refine hC.lend f x a l ds r out hP hln hfx h1 A F₁ s₁ b ws n vs Q E hA st₁.rl.toSt e2 e4 e5 e3 rs fun v F' h' tk ws' n' hk hb' g hF' hr' hv' => ?_
  refine hQ _ _ _ (st₁.trans (Step.relist st₁.rl hv hs ?_ hmv hk hb' g hF' hr')) hv'
  rcases hsl with ⟨rfl, rfl⟩ | ⟨rfl, rfl⟩
  · exact .inl ⟨l, rfl, rfl⟩
  · exact .inr ⟨l, rfl, rfl⟩

theorem g_len (hW : WOk W) (hE : EnvOk env sc) {x : Str} {e : PySem.Expr} {p pos : Pos} {r : MR} {l : List MV} (hn : x = ("len" : Str)) (hx : isGlob sc x = true) (hst : notStar e = true) (ha : GE W A env vars (eval e env) σ r σ₁)
    (hi : r.mv.items? = some l) (hs : short l = true) : GE W A env vars (eval (.Call (.Name x p) [e] [] pos) env) σ (.val (.int l.length)) σ₁ := by
  intro m F s Q E hR hQ
  subst hn
  refine Call_ (ld_bi (v := .builtin "len") hW hE hR.toSt hx (by simp [names9]) ?_)
  refine callWith_builtin1 ?_ (star_cons hst [] env)
  refine args_cons (ha.v m F s _ _ hR fun v F₁ s₁ st₁ r₁ => args_nil ?_) (star_cons hst [] env)
  exact op_len (F := F₁) (r₁.seqAt st₁.rl.toSt hi) hs fun t tk => hQ _ _ _ (st₁.trans (Step.toks st₁.rl tk)) (.int _ _)
theorem g_lenv (hW : WOk W) (hE : EnvOk env sc) {x y : Str} {i : Nat} {p p' pos : Pos} {sl : Slot} {l : List MV} (hn : x = ("len" : Str)) (hx : isGlob sc x = true) (hv : vars[i]? = some y) (hy : isVar sc y = true) (hs : σ[i]? = some sl)
    (hi : sl.items? = some l) (hsh : short l = true) : GE W A env vars (eval (.Call (.Name x p) [.Name y p'] [] pos) env) σ (.val (.int l.length)) σ := by
  intro m F s Q E hR hQ
  subst hn
  obtain ⟨v, hmv, hq⟩ := slot_seq hR hv hs hi
  refine Call_ (ld_bi (v := .builtin "len") hW hE hR.toSt hx (by simp [names9]) ?_)
  refine callWith_builtin1 ?_ rfl
  refine args_cons (ld_var hE hR hy hmv (args_nil ?_)) rfl
  exact op_len hq hsh fun t tk => hQ _ _ _ (Step.toks hR tk) (.int _ _)

theorem g_abs (hW : WOk W) (hE : EnvOk env sc) {x : Str} {e : PySem.Expr} {p pos : Pos} {i : Int} (hn : x = ("abs" : Str)) (hx : isGlob sc x = true) (hst : notStar e = true) (ha : GE W A env vars (eval e env) σ (.val (.int i)) σ₁) :
    GE W A env vars (eval (.Call (.Name x p) [e] [] pos) env) σ (.val (.int (if i < 0 then -i else i))) σ₁ := by
  intro m F s Q E hR hQ
  subst hn
  refine Call_ (ld_bi (v := .builtin "abs") hW hE hR.toSt hx (by simp [names9]) ?_)
  refine callWith_builtin1 ?_ (star_cons hst [] env)
  refine args_cons (ha m F s _ _ hR fun v F₁ s₁ st₁ r₁ => args_nil ?_) (star_cons hst [] env)
  obtain ⟨u, rfl⟩ := Rep.int_inv r₁
  exact call_abs_int fun u tk => hQ _ _ _ (st₁.trans (Step.toks st₁.rl tk)) (.int _ _)
theorem g_toInt (hW : WOk W) (hE : EnvOk env sc) {x : Str} {e : PySem.Expr} {p pos : Pos} {i : Int} (hn : x = ("int" : Str)) (hx : isGlob sc x = true) (hst : notStar e = true) (ha : GE W A env vars (eval e env) σ (.val (.int i)) σ₁) :
    GE W A env vars (eval (.Call (.Name x p) [e] [] pos) env) σ (.val (.int i)) σ₁ := by
  intro m F s Q E hR hQ
  subst hn
  refine Call_ (ld_bi (v := .type "int") hW hE hR.toSt hx (by simp [names9]) ?_)
  refine PyProof.Rows.callWith_type1 ?_ (star_cons hst [] env)
  refine args_cons (ha m F s _ _ hR fun v F₁ s₁ st₁ r₁ => args_nil ?_) (star_cons hst [] env)
  obtain ⟨u, rfl⟩ := Rep.int_inv r₁
  exact call_int_int (hQ _ _ _ st₁ (.int _ _))
theorem g_min (hW : WOk W) (hA : AOk A k) (hE : EnvOk env sc) {x : Str} {e g : PySem.Expr} {p pos : Pos} {i j : Int} (hn : x = ("min" : Str)) (hx : isGlob sc x = true) (hst : notStar e = true) (hst' : notStar g = true)
    (ha : GE W A env vars (eval e env) σ (.val (.int i)) σ₁) (hb : GE W A env vars (eval g env) σ₁ (.val (.int j)) σ₂) :
    GE W A env vars (eval (.Call (.Name x p) [e, g] [] pos) env) σ (.val (.int (if j < i then j else i))) σ₂ := by
  intro m F s Q E hR hQ
  subst hn
  refine Call_ (ld_bi (v := .builtin "min") hW hE hR.toSt hx (by simp [names9]) ?_)
  refine callWith_builtin1 ?_ (star_cons hst [g] env) (by rw [star_cons hst' [] env]; rfl)
  refine args_cons (ha m F s _ _ hR fun v F₁ s₁ st₁ r₁ => ?_) (star_cons hst [g] env)
  refine args_cons (hb m F₁ s₁ _ _ st₁.rl fun u F₂ s₂ st₂ r₂ => args_nil ?_) (star_cons hst' [] env)
  obtain ⟨t, rfl⟩ := Rep.int_inv r₁
  obtain ⟨t', rfl⟩ := Rep.int_inv r₂
  exact op_min hA st₂.rl fun v s' st r => hQ _ _ _ ((st₁.trans st₂).trans st) r
theorem g_sorted (hW : WOk W) (hE : EnvOk env sc) {x : Str} {e : PySem.Expr} {p pos : Pos} {r : MR} {l : List MV} {ns : List Int} (hn : x = ("sorted" : Str)) (hx : isGlob sc x = true) (hst : notStar e = true) (ha : GE W A env vars (eval e env) σ r σ₁)
    (hl : r.mv = .lst l) (hi : allInts l = some ns) (h64 : ns.length < 64) : GE W A env vars (eval (.Call (.Name x p) [e] [] pos) env) σ (.new ((sortInts ns).map MV.int)) σ₁ := by
  intro m F s Q E hR hQ
  subst hn
  refine Call_ (ld_bi (v := .builtin "sorted") hW hE hR.toSt hx (by simp [names9]) ?_)
  refine callWith_builtin1 ?_ (star_cons hst [] env)
  refine args_cons (ha.v m F s _ _ hR fun v F₁ s₁ st₁ r₁ => args_nil ?_) (star_cons hst [] env)
  rw [hl] at r₁
  exact op_sorted st₁.rl r₁ hi h64 fun v F' s' st r => hQ _ _ _ (st₁.trans st) (RepR.from st₁ r)

theorem g_bits {v g : PySem.Expr} {p pos : Pos} {nm : Str} {apos : Pos} {i : Int} (hn : nm = ("bit_length" : Str)) (hline : (apos.endLine == pos.line) = true) (ha : GE W A env vars (eval (.Subscript v g p) env) σ (.val (.int i)) σ₁) (h0 : 0 ≤ i) :
    GE W A env vars (eval (.Call (.Attribute (.Subscript v g p) nm apos) [] [] pos) env) σ (.val (.int (bitLen i.toNat))) σ₁ := by
  intro m F s Q E hR hQ
  subst hn
  refine wpAny_Call_method (T := "int") (id := "int.bit_length") rfl rfl hline PySem.F.plainAttrs_int PySem.F.slot_int_bit_length PySem.F.type_int_bit_length ?_
  refine ha m F s _ _ hR fun v F₁ s₁ st₁ r₁ => ?_
  obtain ⟨u, rfl⟩ := Rep.int_inv r₁
  refine ⟨typeIs_int s₁ i u, fun a e => (by cases e), ?_⟩
  refine callWith_method0 (call_int_bit_length ?_)
  rw [bits_len h0]
  exact hQ _ _ _ (st₁.trans (Step.toks st₁.rl _)) (.int _ _)

theorem g_idx {e g : PySem.Expr} {pos : Pos} {r : MR} {l : List MV} {i : Int} {d : MV} (hg : isSlice g = false) (ha : GE W A env vars (eval e env) σ r σ₁) (hb : GE W A env vars (eval g env) σ₁ (.val (.int i)) σ₂) (hi : r.mv.items? = some l)
    (hs : short l = true) (hd : pyIdx l i = some d) : GE W A env vars (eval (.Subscript e g pos) env) σ (.val d) σ₂ := by
  intro m F s Q E hR hQ
  refine Subscript_ (ha.v m F s _ _ hR fun v F₁ s₁ st₁ r₁ => hb m F₁ s₁ _ _ st₁.rl fun u F₂ s₂ st₂ r₂ => ?_)
  obtain ⟨t, rfl⟩ := Rep.int_inv r₂
  exact op_idx (F := F₂) ((r₁.mono st₂.le).seqAt st₂.rl.toSt hi) hs hd hg fun u ru => hQ _ _ _ (st₁.trans st₂) ru
theorem g_idxv (hE : EnvOk env sc) {x : Str} {j : Nat} {g : PySem.Expr} {p pos : Pos} {sl : Slot} {l : List MV} {i : Int} {d : MV} (hg : isSlice g = false) (hv : vars[j]? = some x) (hx : isVar sc x = true) (hlv : live σ j = true)
    (hb : GE W A env vars (eval g env) σ (.val (.int i)) σ₁) (hs : σ₁[j]? = some sl) (hi : sl.items? = some l) (hsh : short l = true) (hd : pyIdx l i = some d) : GE W A env vars (eval (.Subscript (.Name x p) g pos) env) σ (.val d) σ₁ := by
  intro m F s Q E hR hQ
  obtain ⟨v, hmv⟩ := live_val hR hv hlv
  refine Subscript_ (ld_var hE hR hx hmv (hb m F s _ _ hR fun u F₁ s₁ st₁ r₁ => ?_))
  obtain ⟨t, rfl⟩ := Rep.int_inv r₁
  obtain ⟨v', hmv', hq⟩ := slot_seq st₁.rl hv hs hi
  rw [hmv] at hmv'; cases hmv'
  exact op_idx hq hsh hd hg fun u ru => hQ _ _ _ st₁ ru

/-- one end of a slice -/
noncomputable def GP (W : Wd) (A : Around) (env : Env) (vars : List Str) (e : Option PySem.Expr) (σ : Store) (d : MV) (σ' : Store) : Prop := GV W A env vars (evalPart e env) σ d σ'
theorem p_none : GP W A env vars none σ .none σ := by
  intro m F s Q E hR hQ
  exact wpAny_evalPart_none (hQ _ _ _ (Step.refl hR) .none)
theorem p_some {e : PySem.Expr} {d : MV} (h : GE W A env vars (eval e env) σ (.val d) σ') : GP W A env vars (some e) σ d σ' := by
  intro m F s Q E hR hQ
  exact wpAny_evalPart_some (h m F s Q E hR hQ)

noncomputable def cutOf (l : List MV) : MV → MV → Option (List MV)
  | .none, .none => some l
  | .int x, .none => if 0 ≤ x then some (l.drop x.toNat) else Option.none
  | .none, .int y => if 0 ≤ y then some (l.take y.toNat) else Option.none
  | .int x, .int y => if 0 ≤ x ∧ 0 ≤ y then some ((l.take y.toNat).drop x.toNat) else Option.none
  | _, _ => Option.none

theorem cut_rep {F : Fz} {vs : List Value} {l l' : List MV} (hr : W.Reps F vs l) {a b : MV} {va vb : Value} (ra : W.Rep F va a) (rb : W.Rep F vb b) (e : cutOf l a b = some l') :
    ∃ lo hi ws, IsPart va lo ∧ IsPart vb hi ∧ slicePick vs.toArray lo hi none = List.toArray ws ∧ W.Reps F ws l' := by
  unfold cutOf at e
  split at e
  · cases e
    obtain rfl := ra.none_inv
    obtain rfl := rb.none_inv
    exact ⟨none, none, vs, .none, .none, slicePick_all _, hr⟩
  · obtain ⟨h0, rfl⟩ := of_ite e
    obtain ⟨t, rfl⟩ := ra.int_inv
    obtain rfl := rb.none_inv
    exact ⟨_, none, _, .int _ _, .none, by rw [pick_from _ h0], by simpa using hr.drop _⟩
  · obtain ⟨h0, rfl⟩ := of_ite e
    obtain ⟨t, rfl⟩ := rb.int_inv
    obtain rfl := ra.none_inv
    exact ⟨none, _, _, .none, .int _ _, by rw [pick_upto _ h0], by simpa using hr.take _⟩
  · obtain ⟨h0, rfl⟩ := of_ite e
    obtain ⟨t, rfl⟩ := rb.int_inv
    obtain ⟨t', rfl⟩ := ra.int_inv
    exact ⟨_, _, _, .int _ _, .int _ _, by rw [pick_two _ h0.1 h0.2], by simpa using (hr.take _).drop _⟩
  · cases e

theorem g_slicev (hE : EnvOk env sc) {x : Str} {j : Nat} {lo hi : Option PySem.Expr} {p p' pos : Pos} {sl : Slot} {l l' : List MV} {a b : MV} (hv : vars[j]? = some x) (hx : isVar sc x = true) (hlv : live σ j = true)
    (ha : GP W A env vars lo σ a σ₁) (hb : GP W A env vars hi σ₁ b σ₂) (hs : σ₂[j]? = some sl) (hi' : sl.list? = some l) (hsh : short l = true) (hd : cutOf l a b = some l') :
    GE W A env vars (eval (.Subscript (.Name x p) (.Slice lo hi none p') pos) env) σ (.new l') σ₂ := by
  intro m F s Q E hR hQ
  obtain ⟨v, hmv⟩ := live_val hR hv hlv
  refine wpAny_Subscript_list_slice (ld_var hE hR hx hmv (ha m F s _ _ hR fun va F₁ s₁ st₁ ra => hb m F₁ s₁ _ _ st₁.rl fun vb F₂ s₂ st₂ rb => ?_))
  obtain ⟨a', vs, n, e1, e2, e3⟩ := slot_list st₂.rl hv hs hi'
  rw [hmv] at e1; cases e1
  obtain ⟨lo', hi'', ws, h1, h2, h3, h4⟩ := cut_rep e3 (ra.mono st₂.le) rb hd
  refine ⟨a', vs.toArray, lo', hi'', rfl, ⟨_, e2, rfl, n, rfl⟩, ?_, h1, h2, ?_⟩
  · have := e3.length
    simp only [short, decide_eq_true_eq] at hsh
    simp only [List.size_toArray, sizeLine_eq]; (first | lia | omega)
  · rw [h3]
    have st₃ := Step.push st₂.rl ({ cls := .type "slice", data := .fields #[va, vb, .none] } : Obj) s₂.toks
    have st₄ := Step.push st₃.rl (listO ws.toArray 0) s₂.toks
    have nl := new_list st₃.rl h4 s₂.toks
    simp only [Heap.size_push] at nl
    exact hQ _ _ _ (((st₁.trans st₂).trans st₃).trans st₄) (RepR.from ((st₁.trans st₂).trans st₃) nl)

theorem g_list {es : List PySem.Expr} {pos : Pos} {ds : List MV} (hs : short ds = true) (h : GL W A env vars (spliced (backTo pos (starEach es env))) σ ds σ₁) : GE W A env vars (eval (.List es pos) env) σ (.new ds) σ₁ := by
  intro m F s Q E hR hQ
  refine wpAny_List (h m F s _ _ hR fun vs F₁ s₁ st₁ r => ⟨?_, ?_⟩)
  · have := r.length
    simp only [short, decide_eq_true_eq] at hs
    rw [sizeLine_eq]; (first | lia | omega)
  · exact hQ _ _ _ (st₁.trans (Step.push st₁.rl _ s₁.toks)) (RepR.from st₁ (new_list st₁.rl r s₁.toks))
theorem g_tup {es : List PySem.Expr} {kk : Nat} {pos : Pos} {ds : List MV} (hs : short ds = true) (h : GL W A env vars (spliced (backTo pos (starEach es env))) σ ds σ₁) : GE W A env vars (eval (.Tuple es kk pos) env) σ (.val (.tup ds)) σ₁ := by
  intro m F s Q E hR hQ
  refine wpAny_Tuple (h m F s _ _ hR fun vs F₁ s₁ st₁ r => ⟨?_, ?_⟩)
  · have := r.length
    simp only [short, decide_eq_true_eq] at hs
    rw [sizeLine_eq]; (first | lia | omega)
  · have st₂ := Step.push st₁.rl (tupO vs.toArray 0) s₁.toks
    have st := st₁.trans st₂
    obtain ⟨st', le⟩ := st.freeze (a := s₁.heap.objs.size) (o := tupO vs.toArray 0) rfl (st₁.stay _ (get_size _)) (Heap.get?_push_size _ rfl)
    exact hQ _ _ _ st' (.tup (ins_self _ _ _) (r.mono le))
end
end Mine

end
-- SimJ
section
set_option autoImplicit false
set_option maxRecDepth 100000
set_option bootstrap.genMatcherCode false
namespace Mine
open PySem PySem.Calls PyProof.Rows PySem.Spec PySem.SeqAt

section
variable {W : Wd} {A : Around} {env : Env} {sc scope : Scope} {vars : List Str} {σ σ' σ₁ σ₂ : Store} {k : Nat} {P : Fns} {ln : Nat → Bool}

theorem g_seq (hA : AOk A k) {e : PySem.Expr} {r : MR} {l : List MV} (h : GE W A env vars (eval e env) σ r σ₁) (hl : r.mv = .lst l) : GT W A env vars (eval e env) σ l σ₁ := by
  intro m F s Q E hR hQ
  refine h.v m F s _ _ hR fun v F₁ s₁ st₁ r₁ => ?_
  rw [hl] at r₁
  exact iter_list hA st₁.rl.toSt r₁ (hQ F₁ s₁ st₁)
theorem g_range1 (hW : WOk W) (hA : AOk A k) (hE : EnvOk env sc) {x : Str} {e : PySem.Expr} {p pos : Pos} {j : Int} (hn : x = ("range" : Str)) (hx : isGlob sc x = true) (hst : notStar e = true) (ha : GE W A env vars (eval e env) σ (.val (.int j)) σ₁)
    (h1 : -4096 < j) (h2 : j < 4096) : GT W A env vars (eval (.Call (.Name x p) [e] [] pos) env) σ (rangeUp 0 j) σ₁ := by
  intro m F s Q E hR hQ
  subst hn
  refine Call_ (ld_bi (v := .type "range") hW hE hR.toSt hx (by simp [names9]) ?_)
  refine PyProof.Rows.callWith_type1 ?_ (star_cons hst [] env)
  refine args_cons (ha m F s _ _ hR fun v F₁ s₁ st₁ r₁ => args_nil ?_) (star_cons hst [] env)
  obtain ⟨u, rfl⟩ := Rep.int_inv r₁
  exact call_range1 hA h1 h2 (hQ F₁ s₁ st₁)
theorem g_range2 (hW : WOk W) (hA : AOk A k) (hE : EnvOk env sc) {x : Str} {e g : PySem.Expr} {p pos : Pos} {i j : Int} (hn : x = ("range" : Str)) (hx : isGlob sc x = true) (hst : notStar e = true) (hst' : notStar g = true)
    (ha : GE W A env vars (eval e env) σ (.val (.int i)) σ₁) (hb : GE W A env vars (eval g env) σ₁ (.val (.int j)) σ₂)
    (h1 : -4096 < i) (h2 : i < 4096) (h3 : -4096 < j) (h4 : j < 4096) : GT W A env vars (eval (.Call (.Name x p) [e, g] [] pos) env) σ (rangeUp i j) σ₂ := by
  intro m F s Q E hR hQ
  subst hn
  refine Call_ (ld_bi (v := .type "range") hW hE hR.toSt hx (by simp [names9]) ?_)
  refine PyProof.Rows.callWith_type1 ?_ (star_cons hst [g] env) (by rw [star_cons hst' [] env]; rfl)
  refine args_cons (ha m F s _ _ hR fun v F₁ s₁ st₁ r₁ => ?_) (star_cons hst [g] env)
  refine args_cons (hb m F₁ s₁ _ _ st₁.rl fun u F₂ s₂ st₂ r₂ => args_nil ?_) (star_cons hst' [] env)
  obtain ⟨u, rfl⟩ := Rep.int_inv r₁
  obtain ⟨u', rfl⟩ := Rep.int_inv r₂
  exact call_range2 hA h1 h2 h3 h4 (hQ F₂ s₂ (st₁.trans st₂))
theorem g_down (hW : WOk W) (hA : AOk A k) (hE : EnvOk env sc) {x : Str} {e g : PySem.Expr} {kk : Nat} {p pos p1 p2 : Pos} {i j : Int} (hn : x = ("range" : Str)) (hx : isGlob sc x = true) (hst : notStar e = true) (hst' : notStar g = true)
    (ha : GE W A env vars (eval e env) σ (.val (.int i)) σ₁) (hb : GE W A env vars (eval g env) σ₁ (.val (.int j)) σ₂)
    (h1 : -4096 < i) (h2 : i < 4096) (h3 : -4096 < j) (h4 : j < 4096) : GT W A env vars (eval (.Call (.Name x p) [e, g, .UnaryOp .USub (.Constant (.int 1) kk p1) p2] [] pos) env) σ (rangeDown i j) σ₂ := by
  intro m F s Q E hR hQ
  subst hn
  refine Call_ (ld_bi (v := .type "range") hW hE hR.toSt hx (by simp [names9]) ?_)
  refine PyProof.Rows.callWith_type1 ?_ (star_cons hst _ env) (by rw [star_cons hst' _ env]; rfl)
  refine args_cons (ha m F s _ _ hR fun v F₁ s₁ st₁ r₁ => ?_) (star_cons hst _ env)
  refine args_cons (hb m F₁ s₁ _ _ st₁.rl fun u F₂ s₂ st₂ r₂ => ?_) (star_cons hst' _ env)
  obtain ⟨u, rfl⟩ := Rep.int_inv r₁
  obtain ⟨u', rfl⟩ := Rep.int_inv r₂
  refine args_cons (wpAny_UnaryOp (wpAny_Constant_int (P.neg_int (args_nil ?_)))) rfl
  have st₃ := Step.toks st₂.rl (s₂.toks + 1 + 1)
  exact call_range3 hA h1 h2 h3 h4 (hQ F₂ _ ((st₁.trans st₂).trans st₃))

theorem elt_of {x : Str} {elt : PySem.Expr} {d r : MV} {τ : Store} (h : ∀ cenv, EnvOk cenv (relab scope sc) → GV W A cenv (vars ++ [x]) (eval elt cenv) (σ.map hide ++ [.val d]) r τ) : EltOk W A sc scope vars x elt (σ.map hide ++ [.val d]) r := by
  intro cenv m F s Q E hC hR hQ
  refine h cenv hC m F s Q E hR fun v F' s' st rv => ?_
  obtain ⟨e, hk, hg⟩ := Step.flat (no_own (inner_mut σ d)) st
  rw [e]
  exact hQ v F' s'.heap s'.toks hk hg rv
theorem test_nil {x : Str} {τ : Store} : TestOk W A sc scope vars x [] τ true := by
  intro cenv m F s Q E hC hR hQ
  have := hQ F s.heap s.toks (fun _ _ e => e) ⟨fun _ _ e => e, fun _ _ e => .inl e, hR.frz, hR.seq⟩
  exact wpAny_tests_nil this
theorem test_one {x : Str} {c : PySem.Expr} {d : MV} {b : Bool} {τ : Store} (h : ∀ cenv, EnvOk cenv (relab scope sc) → GB W A cenv (vars ++ [x]) (isTrue c cenv (eval c cenv)) (σ.map hide ++ [.val d]) b τ) :
    TestOk W A sc scope vars x [c] (σ.map hide ++ [.val d]) b := by
  intro cenv m F s Q E hC hR hQ
  refine wpAny_tests_one (h cenv hC m F s Q E hR fun F' s' st => ?_)
  obtain ⟨e, hk, hg⟩ := Step.flat (no_own (inner_mut σ d)) st
  rw [e]
  exact hQ F' s'.heap s'.toks hk hg

theorem okE_star {fns : List Str} {a : IE} {ex : PySem.Expr} (h : okE fns a sc vars ex = true) : notStar ex = true := by
  cases hs : notStar ex with
  | true => rfl
  | false =>
    have : ∃ e p, ex = .Starred e p := by
      unfold notStar at hs
      split at hs
      · exact ⟨_, _, rfl⟩
      · cases hs
    obtain ⟨e, p, rfl⟩ := this
    cases a <;> exact absurd (show false = true from h) Bool.false_ne_true
theorem okEs_star {fns : List Str} : ∀ {as : List IE} {es : List PySem.Expr}, okEs fns as sc vars es = true → ∀ e ∈ es, notStar e = true
  | [], es, h => el0 (C := fun es => ∀ e ∈ es, notStar e = true) h fun _ _ hm => nomatch hm
  | a :: as, es, h => elC (C := fun es => ∀ e ∈ es, notStar e = true) h fun e es h x hm => by
    rw [Bool.and_eq_true] at h
    rcases List.mem_cons.mp hm with rfl | hm
    · exact okE_star h.1
    · exact okEs_star h.2 x hm

/-- both readings of an expression -/
noncomputable def GX (W : Wd) (A : Around) (env : Env) (vars : List Str) (ex : PySem.Expr) (σ : Store) (r : MR) (σ' : Store) : Prop :=
  GE W A env vars (eval ex env) σ r σ' ∧ ∀ b, r = .val (.bool b) → GB W A env vars (isTrue ex env (eval ex env)) σ b σ'
theorem GX.of {ex : PySem.Expr} {r : MR} (h : GE W A env vars (eval ex env) σ r σ') (hs : special ex = false) : GX W A env vars ex σ r σ' := ⟨h, fun b e => by subst e; exact t_of hs h⟩
end
end Mine

end
-- SimK
section
set_option autoImplicit false
set_option maxRecDepth 100000
set_option bootstrap.genMatcherCode false
namespace Mine
open PySem PySem.Calls PyProof.Rows PySem.Spec PySem.SeqAt

section
variable {W : Wd} {k : Nat} {P : Fns} {ln : Nat → Bool} (hW : WOk W) (hC : CallOk W ln k P)
include hW hC

mutual
theorem sim (e : IE) {A : Around} {env : Env} {sc : Scope} {vars : List Str} {ex : PySem.Expr} {σ : Store} {r : MR} {σ' : Store} (hA : AOk A k) (hE : EnvOk env sc) (ok : okE W.fns e sc vars ex = true) (he : ev P ln e σ = some (r, σ')) :
    GX W A env vars ex σ r σ' := by
  match e with
  | .int i =>
    apply elInt ok; intro j n p ok
    simp only [decide_eq_true_eq] at ok; subst ok
    rw [ev] at he; cases he
    exact GX.of g_int rfl
  | .bool b =>
    apply elBool ok; intro j n p ok
    simp only [beq_iff_eq] at ok; subst ok
    rw [ev] at he; cases he
    exact GX.of g_bool rfl
  | .none => cases ok
  | .var i =>
    apply elName ok; intro x p ok
    simp only [Bool.and_eq_true, decide_eq_true_eq] at ok
    rw [ev] at he
    split at he
    · rename_i d hs; cases he; exact GX.of (g_var hE ok.1 ok.2 hs) rfl
    · rename_i l hs; cases he; exact GX.of (g_var_own hE ok.1 ok.2 hs) rfl
    · cases he
  | .fn f =>
    apply elName ok; intro x p ok
    simp only [Bool.and_eq_true, decide_eq_true_eq] at ok
    rw [ev] at he; cases he
    exact GX.of (g_fn hW hE ok.1 ok.2) rfl
  | .bin o a b =>
    apply elBin ok; intro l op y' p ok
    simp only [Bool.and_eq_true] at ok
    rw [ev] at he
    split at he <;> try (cases he; done)
    rename_i x σ₁ h1
    split at he <;> try (cases he; done)
    rename_i y σ₂ h2
    obtain ⟨z, hz, hzr⟩ := Option.map_eq_some_iff.mp he
    cases hzr
    exact GX.of (g_bin (sim a hA hE ok.1.2 h1).1 (sim b hA hE ok.2 h2).1 ok.1.1 hz) rfl
  | .neg a =>
    apply elUn ok; intro op x p ok
    simp only [Bool.and_eq_true, decide_eq_true_eq] at ok
    obtain ⟨rfl, ok⟩ := ok
    rw [ev] at he
    split at he <;> try (cases he; done)
    rename_i i σ₁ h1
    cases he
    exact GX.of (g_neg (sim a hA hE ok h1).1) rfl
  | .not a =>
    apply elUn ok; intro op x p ok
    simp only [Bool.and_eq_true, decide_eq_true_eq] at ok
    obtain ⟨rfl, ok⟩ := ok
    rw [ev] at he
    split at he <;> try (cases he; done)
    rename_i b σ₁ h1
    cases he
    have := sim a hA hE ok h1
    exact ⟨g_not this.1, fun c e => by cases e; exact t_not (this.2 _ rfl)⟩
  | .cmp o a b =>
    apply elCmp ok; intro l op y' p ok
    simp only [Bool.and_eq_true, Bool.not_eq_true'] at ok
    rw [ev] at he
    split at he <;> try (cases he; done)
    rename_i x σ₁ h1
    split at he <;> try (cases he; done)
    rename_i y σ₂ h2
    obtain ⟨z, hz, hzr⟩ := Option.map_eq_some_iff.mp he
    cases hzr
    have g1 := (sim a hA hE ok.1.2 h1).1
    have g2 := (sim b hA hE ok.2 h2).1
    exact ⟨g_cmp hA g1 g2 ok.1.1.1 ok.1.1.2 hz, fun c e => by cases e; exact t_cmp hA g1 g2 ok.1.1.1 ok.1.1.2 hz⟩
  | .and a b =>
    apply elBoolOp ok; intro op x y' p ok
    simp only [Bool.and_eq_true, decide_eq_true_eq] at ok
    obtain ⟨⟨rfl, o1⟩, o2⟩ := ok
    have ok := And.intro o1 o2
    rw [ev] at he
    split at he
    · rename_i σ₁ h1
      split at he <;> try (cases he; done)
      rename_i c σ₂ h2
      cases he
      have g1 := sim a hA hE ok.1 h1
      have g2 := sim b hA hE ok.2 h2
      exact ⟨g_and_t g1.1 g2.1, fun c e => by cases e; exact t_and_t (g1.2 _ rfl) (g2.2 _ rfl)⟩
    · rename_i σ₁ h1
      cases he
      have g1 := sim a hA hE ok.1 h1
      exact ⟨g_and_f g1.1, fun c e => by cases e; exact t_and_f (g1.2 _ rfl)⟩
    · cases he
  | .or a b =>
    apply elBoolOp ok; intro op x y' p ok
    simp only [Bool.and_eq_true, decide_eq_true_eq] at ok
    obtain ⟨⟨rfl, o1⟩, o2⟩ := ok
    have ok := And.intro o1 o2
    rw [ev] at he
    split at he
    · rename_i σ₁ h1
      split at he <;> try (cases he; done)
      rename_i c σ₂ h2
      cases he
      have g1 := sim a hA hE ok.1 h1
      have g2 := sim b hA hE ok.2 h2
      exact ⟨g_or_f g1.1 g2.1, fun c e => by cases e; exact t_or_f (g1.2 _ rfl) (g2.2 _ rfl)⟩
    · rename_i σ₁ h1
      cases he
      have g1 := sim a hA hE ok.1 h1
      exact ⟨g_or_t g1.1, fun c e => by cases e; exact t_or_t (g1.2 _ rfl)⟩
    · cases he
  | .ite c a b =>
    apply elIf ok; intro t' x y' p ok
    simp only [Bool.and_eq_true] at ok
    rw [ev] at he
    split at he
    · rename_i σ₁ h1
      have g1 := sim c hA hE ok.1.1 h1
      have g2 := sim a hA hE ok.1.2 he
      exact ⟨g_ite_t (g1.2 _ rfl) g2.1, fun c e => t_ite_t (g1.2 _ rfl) (g2.2 c e)⟩
    · rename_i σ₁ h1
      have g1 := sim c hA hE ok.1.1 h1
      have g2 := sim b hA hE ok.2 he
      exact ⟨g_ite_f (g1.2 _ rfl) g2.1, fun c e => t_ite_f (g1.2 _ rfl) (g2.2 c e)⟩
    · cases he
  | .call f as =>
    apply elCall ok; intro x p1 as' p ok
    simp only [Bool.and_eq_true, decide_eq_true_eq, Bool.not_eq_true', List.isEmpty_eq_false_iff] at ok
    rw [ev] at he
    split at he
    · cases he
    · rename_i hln
      split at he <;> try (cases he; done)
      rename_i ds σ₁ h1
      obtain ⟨⟨d, out⟩, hz, hzr⟩ := Option.map_eq_some_iff.mp he
      cases hzr
      exact GX.of (g_call hW hA hE hC ok.1.1.1 ok.1.1.2 hz (by simpa using hln) ok.2 (okEs_star ok.1.2) (simEs as hA hE ok.1.2 h1)) rfl
  | .callv i as =>
    apply elCall ok; intro x p1 as' p ok
    simp only [Bool.and_eq_true, decide_eq_true_eq, Bool.not_eq_true', List.isEmpty_eq_false_iff] at ok
    rw [ev] at he
    split at he <;> try (cases he; done)
    rename_i f hs
    split at he
    · cases he
    · rename_i hln
      split at he <;> try (cases he; done)
      rename_i ds σ₁ h1
      obtain ⟨⟨d, out⟩, hz, hzr⟩ := Option.map_eq_some_iff.mp he
      cases hzr
      exact GX.of (g_callv hW hA hE hC ok.1.1.1 ok.1.1.2 hs hz (by simpa using hln) ok.2 (okEs_star ok.1.2) (simEs as hA hE ok.1.2 h1)) rfl
  | .lend f i as =>
    apply elCall ok; intro x p1 as' p ok
    apply elFirst ok; intro y' p2 r' ok
    simp only [Bool.and_eq_true, decide_eq_true_eq] at ok
    rw [ev] at he
    obtain ⟨hln, he⟩ := of_ite' he
    simp only [Bool.and_eq_true] at hln
    split at he <;> try (cases he; done)
    rename_i ds σ₁ h1
    have g1 := fun pos => simEs as (pos := pos) hA hE ok.2 h1
    split at he
    · rename_i l hs
      obtain ⟨⟨d, out⟩, hz, hzr⟩ := Option.map_eq_some_iff.mp he
      cases hzr
      exact GX.of (g_lend hW hA hE hC ok.1.1.1.1 ok.1.1.1.2 ok.1.1.2 ok.1.2 hln.2 hs (.inl ⟨rfl, rfl⟩) hz hln.1 (g1 _)) rfl
    · rename_i l hs
      obtain ⟨⟨d, out⟩, hz, hzr⟩ := Option.map_eq_some_iff.mp he
      cases hzr
      exact GX.of (g_lend hW hA hE hC ok.1.1.1.1 ok.1.1.1.2 ok.1.1.2 ok.1.2 hln.2 hs (.inr ⟨rfl, rfl⟩) hz hln.1 (g1 _)) rfl
    · cases he
  | .len a =>
    apply elCall ok; intro x p1 as' p ok
    apply el1 ok; intro e' ok
    simp only [Bool.and_eq_true, beq_iff_eq] at ok
    rw [ev] at he
    split at he <;> try (cases he; done)
    rename_i x σ₁ h1
    split at he <;> try (cases he; done)
    rename_i l hl
    obtain ⟨hs, hz⟩ := of_ite he
    cases hz
    exact GX.of (g_len hW hE ok.1.1 ok.1.2 (okE_star ok.2) (sim a hA hE ok.2 h1).1 hl hs) rfl
  | .lenv i =>
    apply elCall ok; intro x p1 as' p ok
    apply el1 ok; intro e' ok
    apply elName ok; intro y' p2 ok
    simp only [Bool.and_eq_true, beq_iff_eq, decide_eq_true_eq] at ok
    rw [ev] at he
    split at he <;> try (cases he; done)
    rename_i s hs
    split at he <;> try (cases he; done)
    rename_i l hl
    obtain ⟨hsh, hz⟩ := of_ite he
    cases hz
    exact GX.of (g_lenv hW hE ok.1.1.1 ok.1.1.2 ok.1.2 ok.2 hs hl hsh) rfl
  | .abs a =>
    apply elCall ok; intro x p1 as' p ok
    apply el1 ok; intro e' ok
    simp only [Bool.and_eq_true, beq_iff_eq] at ok
    rw [ev] at he
    split at he <;> try (cases he; done)
    rename_i i σ₁ h1
    cases he
    exact GX.of (g_abs hW hE ok.1.1 ok.1.2 (okE_star ok.2) (sim a hA hE ok.2 h1).1) rfl
  | .toInt a =>
    apply elCall ok; intro x p1 as' p ok
    apply el1 ok; intro e' ok
    simp only [Bool.and_eq_true, beq_iff_eq] at ok
    rw [ev] at he
    split at he <;> try (cases he; done)
    rename_i i σ₁ h1
    cases he
    exact GX.of (g_toInt hW hE ok.1.1 ok.1.2 (okE_star ok.2) (sim a hA hE ok.2 h1).1) rfl
  | .min a b =>
    apply elCall ok; intro x p1 as' p ok
    apply el2 ok; intro e' g' ok
    simp only [Bool.and_eq_true, beq_iff_eq] at ok
    rw [ev] at he
    split at he <;> try (cases he; done)
    rename_i i σ₁ h1
    split at he <;> try (cases he; done)
    rename_i j σ₂ h2
    cases he
    exact GX.of (g_min hW hA hE ok.1.1.1 ok.1.1.2 (okE_star ok.1.2) (okE_star ok.2) (sim a hA hE ok.1.2 h1).1 (sim b hA hE ok.2 h2).1) rfl
  | .sorted a =>
    apply elCall ok; intro x p1 as' p ok
    apply el1 ok; intro e' ok
    simp only [Bool.and_eq_true, beq_iff_eq] at ok
    rw [ev] at he
    split at he <;> try (cases he; done)
    rename_i x σ₁ h1
    split at he <;> try (cases he; done)
    rename_i l hl
    split at he <;> try (cases he; done)
    rename_i ns hns
    obtain ⟨h64, hz⟩ := of_ite he
    cases hz
    exact GX.of (g_sorted hW hE ok.1.1 ok.1.2 (okE_star ok.2) (sim a hA hE ok.2 h1).1 hl hns (by simpa using h64)) rfl
  | .bits a =>
    apply elBits ok; intro v' i' p1 nm p2 p ok
    simp only [Bool.and_eq_true, beq_iff_eq] at ok
    rw [ev] at he
    split at he <;> try (cases he; done)
    rename_i i σ₁ h1
    obtain ⟨h0, hz⟩ := of_ite he
    cases hz
    exact GX.of (g_bits ok.1.1 (by rw [ok.1.2]; simp) (sim a hA hE ok.2 h1).1 (by simpa using h0)) rfl
  | .idx a i =>
    apply elSub ok; intro a' g' p ok
    simp only [Bool.and_eq_true, Bool.not_eq_true'] at ok
    rw [ev] at he
    split at he <;> try (cases he; done)
    rename_i x σ₁ h1
    split at he <;> try (cases he; done)
    rename_i j σ₂ h2
    split at he <;> try (cases he; done)
    rename_i l hl
    obtain ⟨hs, he⟩ := of_ite' he
    obtain ⟨z, hz, hzr⟩ := Option.map_eq_some_iff.mp he
    cases hzr
    exact GX.of (g_idx ok.1.1 (sim a hA hE ok.1.2 h1).1 (sim i hA hE ok.2 h2).1 hl hs hz) rfl
  | .idxv j i =>
    apply elSubN ok; intro x p1 g' p ok
    simp only [Bool.and_eq_true, Bool.not_eq_true', decide_eq_true_eq] at ok
    rw [ev] at he
    obtain ⟨hlv, he⟩ := of_ite' he
    split at he <;> try (cases he; done)
    rename_i j' σ₁ h1
    split at he <;> try (cases he; done)
    rename_i s hs
    split at he <;> try (cases he; done)
    rename_i l hl
    obtain ⟨hsh, he⟩ := of_ite' he
    obtain ⟨z, hz, hzr⟩ := Option.map_eq_some_iff.mp he
    cases hzr
    exact GX.of (g_idxv hE ok.1.1.1 ok.1.1.2 ok.1.2 hlv (sim i hA hE ok.2 h1).1 hs hl hsh hz) rfl
  | .slicev j lo hi =>
    apply elSubN ok; intro x p1 g' p ok
    apply elSlice ok; intro l' u' p2 ok
    simp only [Bool.and_eq_true, decide_eq_true_eq] at ok
    rw [ev] at he
    obtain ⟨hlv, he⟩ := of_ite' he
    split at he <;> try (cases he; done)
    rename_i a σ₁ h1
    split at he <;> try (cases he; done)
    rename_i b σ₂ h2
    split at he <;> try (cases he; done)
    rename_i s hs
    split at he <;> try (cases he; done)
    rename_i l hl
    obtain ⟨hsh, he⟩ := of_ite' he
    have hcut : ∃ l', cutOf l a b = some l' ∧ r = .new l' ∧ σ' = σ₂ := by
      unfold cutOf
      split at he
      · cases he; exact ⟨_, rfl, rfl, rfl⟩
      · obtain ⟨h0, hz⟩ := of_ite he; cases hz; exact ⟨_, if_pos h0, rfl, rfl⟩
      · obtain ⟨h0, hz⟩ := of_ite he; cases hz; exact ⟨_, if_pos h0, rfl, rfl⟩
      · obtain ⟨h0, hz⟩ := of_ite he; cases hz; exact ⟨_, if_pos h0, rfl, rfl⟩
      · cases he
    obtain ⟨l', hl', rfl, rfl⟩ := hcut
    exact GX.of (g_slicev hE ok.1.1.1 ok.1.1.2 hlv (simP lo hA hE ok.1.2 h1) (simP hi hA hE ok.2 h2) hs hl hsh hl') rfl
  | .list es =>
    apply elList ok; intro l' p ok
    rw [ev] at he
    split at he <;> try (cases he; done)
    rename_i ds σ₁ h1
    obtain ⟨hs, hz⟩ := of_ite he
    cases hz
    exact GX.of (g_list hs (simEs es hA hE ok h1)) rfl
  | .tup es =>
    apply elTup ok; intro l' n p ok
    rw [ev] at he
    split at he <;> try (cases he; done)
    rename_i ds σ₁ h1
    obtain ⟨hs, hz⟩ := of_ite he
    cases hz
    exact GX.of (g_tup hs (simEs es hA hE ok h1)) rfl
  | .comp elt it =>
    apply elComp ok; intro e' x p1 iter ifs scope p ok
    refine el0 (C := fun ifs => GX W A env vars (.ListComp e' [⟨.Name x p1, iter, ifs, 0⟩] scope p) σ r σ') ok fun ok => ?_
    simp only [Bool.and_eq_true] at ok
    rw [ev] at he
    split at he <;> try (cases he; done)
    rename_i vs σ₁ h1
    obtain ⟨hs, he⟩ := of_ite' he
    split at he <;> try (cases he; done)
    rename_i ds hds
    cases he
    refine GX.of (comp_run hE ok.1.1.1 ok.1.1.2 (simT it hA hE ok.1.2 h1) (by simpa [short] using hs) hds ?_ ?_) rfl
    · intro d r _ hr
      split at hr
      · cases hr; exact test_nil
      · cases hr
    · intro d r _ hr
      split at hr
      · rename_i x τ hx
        cases hr
        exact elt_of fun cenv hce => (sim elt hA hce ok.2 hx).1.v
      · cases hr
  | .compIf elt cond it =>
    apply elComp ok; intro e' x p1 iter ifs scope p ok
    refine el1 (C := fun ifs => GX W A env vars (.ListComp e' [⟨.Name x p1, iter, ifs, 0⟩] scope p) σ r σ') ok fun c' ok => ?_
    simp only [Bool.and_eq_true] at ok
    rw [ev] at he
    split at he <;> try (cases he; done)
    rename_i vs σ₁ h1
    obtain ⟨hs, he⟩ := of_ite' he
    split at he <;> try (cases he; done)
    rename_i ds hds
    cases he
    refine GX.of (comp_run hE ok.1.1.1.1 ok.1.1.1.2 (simT it hA hE ok.1.1.2 h1) (by simpa [short] using hs) hds ?_ ?_) rfl
    · intro d r _ hr
      split at hr
      · rename_i τ hx
        split at hr
        · cases hr; exact test_one fun cenv hce => (sim cond hA hce ok.2 hx).2 _ rfl
        · cases hr
      · rename_i τ hx
        cases hr
        exact test_one fun cenv hce => (sim cond hA hce ok.2 hx).2 _ rfl
      · cases hr
    · intro d r _ hr
      split at hr
      · split at hr
        · rename_i x τ hx
          cases hr
          exact elt_of fun cenv hce => (sim elt hA hce ok.1.2 hx).1.v
        · cases hr
      · cases hr
      · cases hr
theorem simP (e : IE) {A : Around} {env : Env} {sc : Scope} {vars : List Str} {ex : Option PySem.Expr} {σ : Store} {d : MV} {σ' : Store} (hA : AOk A k) (hE : EnvOk env sc) (ok : okP W.fns e sc vars ex = true) (he : ev P ln e σ = some (.val d, σ')) :
    GP W A env vars ex σ d σ' := by
  match e with
  | .none =>
    cases ex with
    | none => rw [ev] at he; cases he; exact p_none
    | some _ => cases ok
  | .int i =>
    apply elO ok; intro e' ok
    apply elInt ok; intro j n p ok
    simp only [decide_eq_true_eq] at ok; subst ok
    rw [ev] at he; cases he
    exact p_some g_int
  | .var i =>
    apply elO ok; intro e' ok
    apply elName ok; intro x p ok
    simp only [Bool.and_eq_true, decide_eq_true_eq] at ok
    rw [ev] at he
    split at he
    · rename_i d hs; cases he; exact p_some (g_var hE ok.1 ok.2 hs)
    · rename_i l hs; cases he; exact p_some (g_var_own hE ok.1 ok.2 hs)
    · cases he
  | .bin o a b =>
    apply elO ok; intro e' ok
    apply elBin ok; intro l op y' p ok
    simp only [Bool.and_eq_true] at ok
    rw [ev] at he
    split at he <;> try (cases he; done)
    rename_i x σ₁ h1
    split at he <;> try (cases he; done)
    rename_i y σ₂ h2
    obtain ⟨z, hz, hzr⟩ := Option.map_eq_some_iff.mp he
    cases hzr
    exact p_some (g_bin (sim a hA hE ok.1.2 h1).1 (sim b hA hE ok.2 h2).1 ok.1.1 hz)
  | .bool _ => cases ok
  | .fn _ => cases ok
  | .neg _ => cases ok
  | .not _ => cases ok
  | .cmp .. => cases ok
  | .and .. => cases ok
  | .or .. => cases ok
  | .ite .. => cases ok
  | .call .. => cases ok
  | .callv .. => cases ok
  | .lend .. => cases ok
  | .len _ => cases ok
  | .lenv _ => cases ok
  | .abs _ => cases ok
  | .toInt _ => cases ok
  | .min .. => cases ok
  | .sorted _ => cases ok
  | .bits _ => cases ok
  | .idx .. => cases ok
  | .idxv .. => cases ok
  | .slicev .. => cases ok
  | .list _ => cases ok
  | .tup _ => cases ok
  | .comp .. => cases ok
  | .compIf .. => cases ok
theorem simEs (es : List IE) {A : Around} {env : Env} {sc : Scope} {vars : List Str} {pos : Pos} {exs : List PySem.Expr} {σ : Store} {ds : List MV} {σ' : Store} (hA : AOk A k) (hE : EnvOk env sc) (ok : okEs W.fns es sc vars exs = true)
    (he : evs P ln es σ = some (ds, σ')) : GL W A env vars (spliced (backTo pos (starEach exs env))) σ ds σ' := by
  match es with
  | [] => apply el0 ok; intro _; rw [evs] at he; cases he; exact l_nil
  | a :: as =>
    apply elC ok; intro x xs ok
    rw [Bool.and_eq_true] at ok
    rw [evs] at he
    split at he <;> try (cases he; done)
    rename_i d σ₁ h1
    split at he <;> try (cases he; done)
    rename_i ds' σ₂ h2
    cases he
    exact l_cons (okE_star ok.1) (sim a hA hE ok.1 h1).1 (simEs as hA hE ok.2 h2)
theorem simT (t : IT) {A : Around} {env : Env} {sc : Scope} {vars : List Str} {ex : PySem.Expr} {σ : Store} {l : List MV} {σ' : Store} (hA : AOk A k) (hE : EnvOk env sc) (ok : okT W.fns t sc vars ex = true) (he : evt P ln t σ = some (l, σ')) :
    GT W A env vars (eval ex env) σ l σ' := by
  match t with
  | .seq a =>
    rw [evt] at he
    split at he <;> try (cases he; done)
    rename_i x σ₁ h1
    split at he <;> try (cases he; done)
    rename_i l' hl
    obtain ⟨hs, hz⟩ := of_ite he
    cases hz
    exact g_seq hA (sim a hA hE ok h1).1 hl
  | .range1 a =>
    apply elCall ok; intro x p1 as' p ok
    apply el1 ok; intro e' ok
    simp only [Bool.and_eq_true, beq_iff_eq] at ok
    rw [evt] at he
    split at he <;> try (cases he; done)
    rename_i j σ₁ h1
    obtain ⟨hs, hz⟩ := of_ite he
    cases hz
    simp only [Bool.and_eq_true, decide_eq_true_eq] at hs
    exact g_range1 hW hA hE ok.1.1 ok.1.2 (okE_star ok.2) (sim a hA hE ok.2 h1).1 hs.1 hs.2
  | .range2 a b =>
    apply elCall ok; intro x p1 as' p ok
    apply el2 ok; intro e' g' ok
    simp only [Bool.and_eq_true, beq_iff_eq] at ok
    rw [evt] at he
    split at he <;> try (cases he; done)
    rename_i i σ₁ h1
    split at he <;> try (cases he; done)
    rename_i j σ₂ h2
    obtain ⟨hs, hz⟩ := of_ite he
    cases hz
    simp only [Bool.and_eq_true, decide_eq_true_eq] at hs
    exact g_range2 hW hA hE ok.1.1.1 ok.1.1.2 (okE_star ok.1.2) (okE_star ok.2) (sim a hA hE ok.1.2 h1).1 (sim b hA hE ok.2 h2).1 hs.1.1.1.2 hs.1.1.2 hs.1.2 hs.2
  | .down a b =>
    apply elCall ok; intro x p1 as' p ok
    apply el3 ok; intro e' g' z' ok
    apply elUn ok; intro op n' p2 ok
    apply elInt ok; intro j n p3 ok
    simp only [Bool.and_eq_true, beq_iff_eq, decide_eq_true_eq] at ok
    obtain ⟨⟨o9, rfl⟩, rfl⟩ := ok
    have ok := o9
    rw [evt] at he
    split at he <;> try (cases he; done)
    rename_i i σ₁ h1
    split at he <;> try (cases he; done)
    rename_i j σ₂ h2
    obtain ⟨hs, hz⟩ := of_ite he
    cases hz
    simp only [Bool.and_eq_true, decide_eq_true_eq] at hs
    exact g_down hW hA hE ok.1.1.1 ok.1.1.2 (okE_star ok.1.2) (okE_star ok.2) (sim a hA hE ok.1.2 h1).1 (sim b hA hE ok.2 h2).1 hs.1.1.1.2 hs.1.1.2 hs.1.2 hs.2
end
end
end Mine

end
-- SimL
section
set_option autoImplicit false
set_option maxRecDepth 100000
set_option bootstrap.genMatcherCode false
namespace Mine
open PySem PySem.Calls PyProof.Rows PySem.Spec PySem.SeqAt

/-- where the frame's names lie -/
noncomputable def Loc (env : Env) (b : Addr) : Prop := b = env.locals ∨ ∃ x, env.cells.lookup x = some b

structure EnvFresh (W : Wd) (env : Env) : Prop where
  base : ∀ b, Loc env b → W.base.get? b = none
  apart : ∀ x y c, env.cells.lookup x = some c → env.cells.lookup y = some c → x = y
  kind : ∀ x c, env.cells.lookup x = some c → env.kindOf x = some .cell

/-- a step of a statement: names may take new values -/
structure StepS (W : Wd) (env : Env) (vars : List Str) (m : NM) (F : Fz) (σ : Store) (s : Shared) (m' : NM) (F' : Fz) (σ' : Store) (s' : Shared) : Prop where
  rl0 : Rl W env vars m F σ s
  rl : Rl W env vars m' F' σ' s'
  stay : ∀ b, s'.heap.get? b = none → s.heap.get? b = none
  le : ∀ a o, F a = some o → F' a = some o
  grow : ∀ a o, F' a = some o → F a = some o ∨ s.heap.get? a = none ∨ Own vars m σ a
  frame : ∀ b o, s.heap.get? b = some o → ¬ Loc env b → ¬ Own vars m σ b → s'.heap.get? b = some o
  own : ∀ b, Own vars m' σ' b → Own vars m σ b ∨ s.heap.get? b = none
  lents : ∀ (i : Nat) (x : Str) (l : List MV), vars[i]? = some x → σ'[i]? = some (.lent l) → ∃ l', σ[i]? = some (.lent l') ∧ m' x = m x

section
variable {W : Wd} {env : Env} {sc : Scope} {vars : List Str} {m m' m₁ m₂ : NM} {F F' F₁ F₂ : Fz} {σ σ' σ₁ σ₂ : Store} {s s' s₁ s₂ : Shared}

theorem Step.toS (h : Step W env vars m F σ s F' σ' s') : StepS W env vars m F σ s m F' σ' s' where
  rl0 := h.rl0
  rl := h.rl
  stay := h.stay
  le := h.le
  grow := h.grow
  frame := fun b o e _ hn => h.frame b o e hn
  own := fun b e => .inl (h.own e)
  lents := fun i x l _ e => by obtain ⟨l', q⟩ := h.lents i l e; exact ⟨l', q, rfl⟩

theorem StepS.refl (h : Rl W env vars m F σ s) : StepS W env vars m F σ s m F σ s := (Step.refl h).toS

theorem StepS.trans (h : StepS W env vars m F σ s m₁ F₁ σ₁ s₁) (k : StepS W env vars m₁ F₁ σ₁ s₁ m₂ F₂ σ₂ s₂) : StepS W env vars m F σ s m₂ F₂ σ₂ s₂ where
  rl0 := h.rl0
  rl := k.rl
  stay := fun b e => h.stay b (k.stay b e)
  le := fun a o e => k.le a o (h.le a o e)
  grow := fun a o e => by
    rcases k.grow a o e with e | e | e
    · exact h.grow a o e
    · exact .inr (.inl (h.stay a e))
    · rcases h.own a e with e | e
      · exact .inr (.inr e)
      · exact .inr (.inl e)
  frame := fun b o e hl hn => k.frame b o (h.frame b o e hl hn) hl fun ho => by
    rcases h.own b ho with q | q
    · exact hn q
    · rw [e] at q; cases q
  own := fun b e => by
    rcases k.own b e with e | e
    · exact h.own b e
    · exact .inr (h.stay b e)
  lents := fun i x l hx e => by
    obtain ⟨l', e', q⟩ := k.lents i x l hx e
    obtain ⟨l'', e'', q'⟩ := h.lents i x l' hx e'
    exact ⟨l'', e'', q.trans q'⟩

theorem Rl.loc_ns (h : Rl W env vars m F σ s) : ∃ o, s.heap.get? env.locals = some o ∧ ∃ es n, o.data = .dict es n := by
  obtain ⟨ml, ⟨o, es, n, e, hd, _⟩, _⟩ := h.ns
  exact ⟨o, e, es, n, hd⟩

noncomputable def upd (m : NM) (x : Str) (v : Value) : NM := fun y => if y = x then some v else m y

/-- what a fresh list is, as long as no name holds it -/
noncomputable def Loose (vars : List Str) (m : NM) (σ : Store) (v : Value) (r : MR) : Prop := ∀ a l, r = .new l → v = .ref a → ¬ Own vars m σ a

/-- a name takes a value: the frame's storage b alone has changed -/
theorem StepS.put (h : StepS W env vars m F σ s m₁ F₁ σ₁ s₁) (nd : vars.Nodup) {i : Nat} {x : Str} (hv : vars[i]? = some x) (hl : lentAt σ₁ i = false) {v : Value} {r : MR} (hr : RepR W F₁ s.heap s₁ v r) (hlo : Loose vars m₁ σ₁ v r)
    {H : Heap} {tk : Nat} {b : Addr} (hb : Loc env b) (hbase : W.base.get? b = none) (hbe : s₁.heap.get? b ≠ none) (hbn : ∀ vs n c, s₁.heap.get? b ≠ some ({ cls := c, data := .seq vs n } : Obj)) (hbq : ∀ vs n (o : Obj), s₁.heap.get? b = some o → o.data ≠ .seq vs n) (hs : Heap.SameBut b s₁.heap H) (hHb : H.get? b ≠ none)
    (hns : ∃ ml, H.Ns env.locals ml ∧ ∀ y, env.kindOf y = some .local → ml y = upd m₁ x v y) (hcell : ∀ y, env.kindOf y = some .cell → ∃ c, env.cells.lookup y = some c ∧ H.IsCell c (upd m₁ x v y)) :
    StepS W env vars m F σ s (upd m₁ x v) F₁ (σ₁.set i r.slot) { s₁ with heap := H, toks := tk } := by
  have hi : i < σ₁.length := by rw [h.rl.len]; exact (List.getElem?_eq_some_iff.mp hv).1
  have setAt : ∀ (j : Nat) (t : Slot), (σ₁.set i r.slot)[j]? = some t → (j = i ∧ t = r.slot) ∨ (j ≠ i ∧ σ₁[j]? = some t) := by
    intro j t e
    rw [List.getElem?_set] at e
    split at e
    · rename_i hij
      subst hij
      simp only [Option.some.injEq] at e
      exact .inl ⟨rfl, by simpa using e.symm⟩
    · rename_i hij
      exact .inr ⟨fun q => hij q.symm, e⟩
  have name : ∀ (j : Nat) (y : Str), vars[j]? = some y → j ≠ i → y ≠ x := by
    rintro j y hy hj rfl
    exact hj ((List.getElem?_inj (List.getElem?_eq_some_iff.mp hy).1 nd).mp (hy.trans hv.symm))
  have other : ∀ (j : Nat) (y : Str), vars[j]? = some y → j ≠ i → upd m₁ x v y = m₁ y := fun j y hy hj => by simp [upd, name j y hy hj]
  have this' : upd m₁ x v x = some v := by simp [upd]
  have keep : ∀ c o, c ≠ b → s₁.heap.get? c = some o → H.get? c = some o := fun c o hc e => (hs.2 c hc).trans e
  have frzb : F₁ b = none := by
    cases q : F₁ b with
    | none => rfl
    | some o =>
      obtain ⟨vs, n, hd⟩ := h.rl.seq b o q
      exact absurd hd (hbq vs n o (h.rl.frz b o q))
  have ownb : ∀ a vs n, s₁.heap.get? a = some (listO vs n) → a ≠ b := by
    rintro a vs n e rfl
    exact hbn vs n _ e
  -- the new list's place
  have new : ∀ a l, r = .new l → v = .ref a → s.heap.get? a = none ∧ OwnAt F₁ W H (some v) l ∧ ¬ Own vars m₁ σ₁ a := by
    rintro a l rfl rfl
    obtain ⟨a', vs, n, e1, e2, e3, e4, e5⟩ := hr
    cases e1
    refine ⟨e2, ⟨a, vs, n, rfl, keep a _ (ownb a _ n e3) e3, e4, e5, ?_⟩, hlo a l rfl rfl⟩
    cases q : W.base.get? a with
    | none => rfl
    | some o => rw [h.rl0.base a o q] at e2; cases e2
  have slotMut : r.slot.mut = true → ∃ a l, r = .new l ∧ v = .ref a ∧ r.slot = .own l := by
    intro hm
    cases r with
    | val d => cases hm
    | new l =>
      obtain ⟨a, _, _, e1, _⟩ := hr
      exact ⟨a, l, rfl, e1, rfl⟩
  have ownAfter : ∀ c, Own vars (upd m₁ x v) (σ₁.set i r.slot) c → Own vars m₁ σ₁ c ∨ (v = .ref c ∧ ∃ l, r = .new l) := by
    rintro c ⟨j, y, t, hy, ht, hm, hc⟩
    rcases setAt j t ht with ⟨rfl, rfl⟩ | ⟨hj, ht⟩
    · rw [hv] at hy; cases hy
      rw [this'] at hc
      obtain ⟨a, l, e1, e2, _⟩ := slotMut hm
      cases hc
      exact .inr ⟨rfl, l, e1⟩
    · rw [other j y hy hj] at hc
      exact .inl ⟨j, y, t, hy, ht, hm, hc⟩
  have rl : Rl W env vars (upd m₁ x v) F₁ (σ₁.set i r.slot) { s₁ with heap := H, toks := tk } := {
    sh := by rw [h.rl.sh]
    base := fun c o e => keep c o (by rintro rfl; rw [hbase] at e; cases e) (h.rl.base c o e)
    frz := fun a o e => keep a o (by rintro rfl; rw [frzb] at e; cases e) (h.rl.frz a o e)
    seq := h.rl.seq
    ns := hns
    cell := hcell
    len := by rw [List.length_set]; exact h.rl.len
    slots := fun j y t hy ht => by
      rcases setAt j t ht with ⟨rfl, rfl⟩ | ⟨hj, ht⟩
      · rw [hv] at hy; cases hy
        rw [this']
        cases r with
        | val d => exact ⟨v, rfl, hr⟩
        | new l =>
          obtain ⟨a, _, _, e1, _⟩ := id hr
          exact (new a l rfl e1).2.1
      · rw [other j y hy hj]
        have q := h.rl.slots j y t hy ht
        cases t with
        | unset => trivial
        | val d => exact q
        | own l => obtain ⟨a, vs, n, e1, e2, e3, e4, e5⟩ := q; exact ⟨a, vs, n, e1, keep a _ (ownb a _ n e2) e2, e3, e4, e5⟩
        | lent l => obtain ⟨a, vs, n, e1, e2, e3, e4, e5⟩ := q; exact ⟨a, vs, n, e1, keep a _ (ownb a _ n e2) e2, e3, e4, e5⟩
    apart := fun j j' y y' t t' a hy hy' ht ht' hm hm' e e' => by
      rcases setAt j t ht with ⟨rfl, rfl⟩ | ⟨hj, _⟩
      · rw [hv] at hy; cases hy
        rw [this'] at e
        rcases setAt j' t' ht' with ⟨rfl, rfl⟩ | ⟨hj', ht'⟩
        · rfl
        · exfalso
          rw [other j' y' hy' hj'] at e'
          obtain ⟨a', l, e1, e2, _⟩ := slotMut hm
          rw [e2] at e; cases e
          exact (new a l e1 e2).2.2 ⟨j', y', t', hy', ht', hm', e'⟩
      · rw [other j y hy hj] at e
        rename_i htt
        rcases setAt j' t' ht' with ⟨rfl, rfl⟩ | ⟨hj', ht'⟩
        · exfalso
          rw [hv] at hy'; cases hy'
          rw [this'] at e'
          obtain ⟨a', l, e1, e2, _⟩ := slotMut hm'
          rw [e2] at e'; cases e'
          exact (new a l e1 e2).2.2 ⟨j, y, t, hy, htt, hm, e⟩
        · rw [other j' y' hy' hj'] at e'
          exact h.rl.apart j j' y y' t t' a hy hy' htt ht' hm hm' e e' }
  exact {
    rl0 := h.rl0
    rl := rl
    stay := fun c e => by
      refine h.stay c ?_
      by_cases hc : c = b
      · subst hc; exact absurd e hHb
      · rw [← hs.2 c hc]; exact e
    le := h.le
    grow := h.grow
    frame := fun c o e hlc hn => keep c o (by rintro rfl; exact hlc hb) (h.frame c o e hlc hn)
    own := fun c e => by
      rcases ownAfter c e with q | ⟨q, l, hl'⟩
      · exact h.own c q
      · exact .inr (new c l hl' q).1
    lents := fun j y l hy e => by
      rcases setAt j _ e with ⟨rfl, q⟩ | ⟨hj, q⟩
      · exfalso
        cases r <;> cases q
      · rw [other j y hy hj]
        exact h.lents j y l hy q }

theorem lt_store (hE : EnvOk env sc) (hF : EnvFresh W env) (h : StepS W env vars m F σ s m₁ F₁ σ₁ s₁) (nd : vars.Nodup) {A : Around} {E : Value → Shared → Prop} {i : Nat} {x : Str} (hv : vars[i]? = some x) (hx : isVar sc x = true)
    (hl : lentAt σ₁ i = false) {v : Value} {r : MR} (hr : RepR W F₁ s.heap s₁ v r) (hlo : Loose vars m₁ σ₁ v r) {Q : Unit → Shared → Prop}
    (q : ∀ H tk, (∀ c o, ¬ Loc env c → s₁.heap.get? c = some o → H.get? c = some o) → StepS W env vars m F σ s (upd m₁ x v) F₁ (σ₁.set i r.slot) { s₁ with heap := H, toks := tk } → Q () { s₁ with heap := H, toks := tk }) :
    wpAny W.M A (storeName env x v) Q E s₁ := by
  obtain ⟨h1, h2⟩ := isVar_iff hx
  rw [← hE.kindOf] at h1
  obtain ⟨ml, hn, hml⟩ := h.rl.ns
  have hp : (env.scope.kind == .class || (env.scope.kind == .module && env.locals != env.globals)) = false := by rw [hE.fn]; rfl
  rcases h1 with h1 | h1
  · refine wpAny_storeName_local h1 hn (fun H hn' hs => ?_) hp
    obtain ⟨o, eo, es, n, hd⟩ := h.rl.loc_ns
    have cellNe : ∀ c u, s₁.heap.IsCell c u → c ≠ env.locals := by
      rintro c u ⟨oc, e, hc⟩ rfl
      rw [eo] at e; cases e
      rw [hd] at hc; cases hc
    refine q H _ (fun c o' hc e => (hs.2 c fun e' => hc (.inl e')).trans e) (StepS.put h nd hv hl hr hlo (b := env.locals) (.inl rfl) (hF.base _ (.inl rfl)) (by rw [eo]; simp) (fun vs k c e => by rw [eo] at e; cases e; cases hd) (fun vs k o' e hd' => by rw [eo] at e; cases e; rw [hd] at hd'; cases hd') hs ?_ ?_ ?_)
    · obtain ⟨o', _, _, e', _⟩ := hn'; rw [e']; simp
    · refine ⟨_, hn', fun y hy => ?_⟩
      simp only [upd]
      split
      · rfl
      · exact hml y hy
    · intro y hy
      obtain ⟨c, hc, hi⟩ := h.rl.cell y hy
      refine ⟨c, hc, ?_⟩
      have hyx : y ≠ x := by rintro rfl; rw [h1] at hy; cases hy
      have : upd m₁ x v y = m₁ y := by simp [upd, hyx]
      rw [this]
      exact hi.sameBut hs (cellNe c _ hi)
  · obtain ⟨c, hc, hi⟩ := h.rl.cell x h1
    refine wpAny_storeName_cell hE.fn h1 hc hi fun H hi' hs => ?_
    obtain ⟨oc, eoc, hdc⟩ := id hi
    obtain ⟨o, eo, es, n, hd⟩ := h.rl.loc_ns
    have hcL : c ≠ env.locals := by
      rintro rfl
      rw [eo] at eoc; cases eoc
      rw [hd] at hdc; cases hdc
    refine q H s₁.toks (fun c' o' hc' e => (hs.2 c' fun e' => hc' (.inr ⟨x, by rw [e']; exact hc⟩)).trans e) (StepS.put h nd hv hl hr hlo (b := c) (.inr ⟨x, hc⟩) (hF.base _ (.inr ⟨x, hc⟩)) (by rw [eoc]; simp) (fun vs k cc e => by rw [eoc] at e; cases e; cases hdc) (fun vs k o' e hd' => by rw [eoc] at e; cases e; rw [hdc] at hd'; cases hd') hs ?_ ?_ ?_)
    · obtain ⟨o', e', _⟩ := hi'; rw [e']; simp
    · refine ⟨ml, hn.sameBut hs (Ne.symm hcL), fun y hy => ?_⟩
      have hyx : y ≠ x := by rintro rfl; rw [h1] at hy; cases hy
      simp [upd, hyx, hml y hy]
    · intro y hy
      obtain ⟨c', hc', hi''⟩ := h.rl.cell y hy
      refine ⟨c', hc', ?_⟩
      by_cases hyx : y = x
      · subst hyx
        rw [hc] at hc'; cases hc'
        simpa [upd] using hi'
      · have : upd m₁ x v y = m₁ y := by simp [upd, hyx]
        rw [this]
        refine hi''.sameBut hs ?_
        rintro rfl
        exact hyx (hF.apart y x c' hc' hc)
end
end Mine

end
-- SimM
section
set_option autoImplicit false
set_option maxRecDepth 100000
set_option bootstrap.genMatcherCode false
namespace Mine
open PySem PySem.Calls PyProof.Rows PySem.Spec PySem.SeqAt

section
variable {W : Wd} {A : Around} {env : Env} {sc : Scope} {vars : List Str} {m m' m₁ m₂ : NM} {F F' F₁ F₂ : Fz} {σ σ' σ₁ σ₂ : Store} {s s' s₁ s₂ : Shared} {k : Nat} {E : Value → Shared → Prop}

/-- a list's object is not where a name lies -/
theorem list_off (hF : EnvFresh W env) (h : Rl W env vars m F σ s) {a : Addr} {vs : Array Value} {n : Nat} {c : Value} (e : s.heap.get? a = some ({ cls := c, data := .seq vs n } : Obj)) : ¬ Loc env a := by
  rintro (rfl | ⟨x, hx⟩)
  · obtain ⟨o, eo, es, n', hd⟩ := h.loc_ns
    rw [eo] at e; cases e; cases hd
  · obtain ⟨c', hc', o, eo, hd⟩ := h.cell x (hF.kind x a hx)
    rw [hx] at hc'; cases hc'
    rw [eo] at e; cases e; cases hd

theorem own_put {i : Nat} {x : Str} {v : Value} {sl : Slot} (nd : vars.Nodup) (hv : vars[i]? = some x) {c : Addr} (h : Own vars (upd m x v) (σ.set i sl) c) : Own vars m σ c ∨ (v = .ref c ∧ sl.mut = true) := by
  obtain ⟨j, y, t, hy, ht, hm, hc⟩ := h
  rw [List.getElem?_set] at ht
  split at ht
  · rename_i hij
    subst hij
    rw [hv] at hy; cases hy
    simp only [upd, if_true] at hc
    split at ht
    · cases ht; cases hc; exact .inr ⟨rfl, hm⟩
    · cases ht
  · rename_i hij
    have hyx : y ≠ x := by
      rintro rfl
      exact hij ((List.getElem?_inj (List.getElem?_eq_some_iff.mp hv).1 nd).mp (hv.trans hy.symm))
    simp only [upd, hyx, if_false] at hc
    exact .inl ⟨j, y, t, hy, ht, hm, hc⟩
theorem lentAt_set {i j : Nat} {sl : Slot} (h : i ≠ j) : lentAt (σ.set i sl) j = lentAt σ j := by
  unfold lentAt
  rw [List.getElem?_set_ne h]

noncomputable def Act (env : Env) (t : Value → Sem Unit) (x : Str) : Prop := ∀ {M : Model} {A : Around} {E : Value → Shared → Prop} {s : Shared} {Q : Unit → Shared → Prop} (v : Value), wpAny M A (storeName env x v) Q E s → wpAny M A (t v) Q E s

/-- a name's number, the name, its new value, what it stands for -/
structure Put where
  i : Nat
  x : Str
  v : Value
  r : MR

noncomputable def foldSet (ps : List Put) (σ : Store) : Store := ps.foldl (fun σ p => σ.set p.i p.r.slot) σ

structure PutOk (W : Wd) (sc : Scope) (vars : List Str) (m : NM) (F : Fz) (h₀ : Heap) (σ : Store) (s : Shared) (p : Put) : Prop where
  hv : vars[p.i]? = some p.x
  hx : isVar sc p.x = true
  hl : lentAt σ p.i = false
  hr : RepR W F h₀ s p.v p.r
  lo : Loose vars m σ p.v p.r

noncomputable def Apart (p q : Put) : Prop := ∀ a l l', p.r = .new l → q.r = .new l' → p.v = .ref a → q.v ≠ .ref a

inductive Acts (env : Env) : List (Value → Sem Unit) → List Put → Prop
  | nil : Acts env [] []
  | cons {t ts p ps} : Act env t p.x → Acts env ts ps → Acts env (t :: ts) (p :: ps)

theorem stores (hE : EnvOk env sc) (hF : EnvFresh W env) (nd : vars.Nodup) {Q : Unit → Shared → Prop} : ∀ (ps : List Put) (acts : List (Value → Sem Unit)) {m₁ : NM} {σ₁ : Store} {s₁ : Shared}, Acts env acts ps → (ps.map Put.i).Nodup → ps.Pairwise Apart →
    StepS W env vars m F σ s m₁ F₁ σ₁ s₁ → (∀ p ∈ ps, PutOk W sc vars m₁ F₁ s.heap σ₁ s₁ p) →
    (∀ m₂ s₂, StepS W env vars m F σ s m₂ F₁ (foldSet ps σ₁) s₂ → Q () s₂) → wpAny W.M A (assignInOrder acts (ps.map Put.v)) Q E s₁
  | [], _, m₁, σ₁, s₁, .nil, _, _, st, _, q => wpAny_assignInOrder_none (q m₁ s₁ st)
  | p :: ps, _, m₁, σ₁, s₁, .cons ha hs, hnd, hap, st, hp, q => by
    obtain ⟨hn1, hn2⟩ := List.nodup_cons.mp hnd
    obtain ⟨hp1, hp2⟩ := List.pairwise_cons.mp hap
    have P0 := hp p (List.mem_cons_self ..)
    refine wpAny_assignInOrder_more (ha p.v (lt_store hE hF st nd P0.hv P0.hx P0.hl P0.hr P0.lo fun H tk hk st₂ => ?_))
    refine stores hE hF nd ps _ hs hn2 hp2 st₂ (fun p' hp' => ?_) q
    have P1 := hp p' (List.mem_cons_of_mem _ hp')
    have hij : p.i ≠ p'.i := fun e => hn1 (by rw [e]; exact List.mem_map.mpr ⟨p', hp', rfl⟩)
    refine ⟨P1.hv, P1.hx, by rw [lentAt_set hij]; exact P1.hl, ?_, ?_⟩
    · have r := P1.hr
      cases e : p'.r with
      | val d => rw [e] at r; exact r
      | new l =>
        rw [e] at r
        obtain ⟨a, vs, n, e1, e2, e3, e4⟩ := r
        exact ⟨a, vs, n, e1, e2, hk a _ (list_off hF st.rl e3) e3, e4⟩
    · intro a l e1 e2 ho
      rcases own_put nd P0.hv ho with h1 | ⟨h1, h2⟩
      · exact P1.lo a l e1 e2 h1
      · cases e : p.r with
        | val d => rw [e] at h2; cases h2
        | new l' => exact hp1 p' hp' a l' l e e1 h1 e2

theorem foldSet_comm {i : Nat} {sl : Slot} : ∀ (ps : List Put) (σ : Store), i ∉ ps.map Put.i → foldSet ps (σ.set i sl) = (foldSet ps σ).set i sl
  | [], _, _ => rfl
  | p :: ps, σ, h => by
    have h1 : i ≠ p.i := fun e => h (by rw [e]; exact List.mem_cons_self ..)
    have h2 : i ∉ ps.map Put.i := fun e => h (List.mem_cons_of_mem _ e)
    show foldSet ps ((σ.set i sl).set p.i p.r.slot) = (foldSet ps (σ.set p.i p.r.slot)).set i sl
    rw [List.set_comm _ _ h1, foldSet_comm ps _ h2]
theorem foldSet_rev : ∀ (ps : List Put) (σ : Store), (ps.map Put.i).Nodup → foldSet ps.reverse σ = foldSet ps σ
  | [], _, _ => rfl
  | p :: ps, σ, h => by
    obtain ⟨h1, h2⟩ := List.nodup_cons.mp h
    rw [List.reverse_cons]
    show (ps.reverse ++ [p]).foldl _ σ = foldSet ps (σ.set p.i p.r.slot)
    rw [List.foldl_append, foldSet_comm ps σ h1]
    show (foldSet ps.reverse σ).set p.i p.r.slot = _
    rw [foldSet_rev ps σ h2]

/-- values of a written tuple, and what they stand for -/
inductive Holds (W : Wd) (F : Fz) (h₀ : Heap) (s' : Shared) : List Value → List MR → Prop
  | nil : Holds W F h₀ s' [] []
  | cons {v : Value} {vs : List Value} {r : MR} {rs : List MR} : RepR W F h₀ s' v r → (∀ a l, r = .new l → v = .ref a → ∀ p ∈ vs.zip rs, ∀ l', p.2 = .new l' → p.1 ≠ .ref a) → Holds W F h₀ s' vs rs → Holds W F h₀ s' (v :: vs) (r :: rs)
theorem Holds.length {h₀ : Heap} : ∀ {vs : List Value} {rs : List MR}, Holds W F h₀ s' vs rs → vs.length = rs.length
  | _, _, .nil => rfl
  | _, _, .cons _ _ t => by rw [List.length_cons, List.length_cons, t.length]
theorem Holds.mem {h₀ : Heap} : ∀ {vs : List Value} {rs : List MR}, Holds W F h₀ s' vs rs → ∀ p ∈ vs.zip rs, RepR W F h₀ s' p.1 p.2
  | _, _, .nil, p, hp => by simp at hp
  | _, _, .cons h _ t, p, hp => by
    rcases List.mem_cons.mp hp with rfl | hp
    · exact h
    · exact t.mem p hp

noncomputable def GR (W : Wd) (A : Around) (env : Env) (vars : List Str) (t : Sem (List Value)) (σ : Store) (rs : List MR) (σ' : Store) : Prop :=
  ∀ (m : NM) (F : Fz) (s : Shared) (Q : List Value → Shared → Prop) (E : Value → Shared → Prop), Rl W env vars m F σ s → (∀ vs F' s', Step W env vars m F σ s F' σ' s' → Holds W F' s.heap s' vs rs → Q vs s') → wpAny W.M A t Q E s

/-- a fresh list stays through a step -/
theorem RepR.through {h₀ : Heap} (st₁ : Step W env vars m F σ s F₁ σ₁ s₁) (st₂ : Step W env vars m F₁ σ₁ s₁ F₂ σ₂ s₂) (hh : h₀ = s.heap) {v : Value} {r : MR} (h : RepR W F₁ h₀ s₁ v r) : RepR W F₂ h₀ s₂ v r := by
  cases r with
  | val d => exact Rep.mono st₂.le h
  | new l =>
    obtain ⟨a, vs, n, e1, e2, e3, e4, e5⟩ := h
    subst hh
    have hno : ¬ Own vars m σ₁ a := fun ho => by
      obtain ⟨_, _, q, _⟩ := st₁.rl0.own_at (st₁.own ho)
      rw [e2] at q; cases q
    refine ⟨a, vs, n, e1, e2, st₂.frame a _ e3 hno, e4.mono st₂.le, ?_⟩
    cases q : F₂ a with
    | none => rfl
    | some o =>
      rcases st₂.grow a o q with q | q | q
      · rw [e5] at q; cases q
      · rw [e3] at q; cases q
      · exact absurd q hno

theorem r_nil {pos : Pos} : GR W A env vars (spliced (backTo pos (starEach [] env))) σ [] σ := by
  intro m F s Q E hR hQ
  exact args_nil (hQ _ _ _ (Step.refl hR) .nil)
theorem r_cons {pos : Pos} {e : PySem.Expr} {rest : List PySem.Expr} {r : MR} {rs : List MR} (hn : notStar e = true) (ha : GE W A env vars (eval e env) σ r σ₁) (hr : GR W A env vars (spliced (backTo pos (starEach rest env))) σ₁ rs σ₂) :
    GR W A env vars (spliced (backTo pos (starEach (e :: rest) env))) σ (r :: rs) σ₂ := by
  intro m F s Q E hR hQ
  refine args_cons (ha m F s _ _ hR fun v F₁ s₁ st₁ r₁ => ?_) (star_cons hn rest env)
  refine hr m F₁ s₁ _ _ st₁.rl fun vs F₂ s₂ st₂ r₂ => hQ _ _ _ (st₁.trans st₂) (.cons (RepR.through st₁ st₂ rfl r₁) ?_ ?_)
  · rintro a l rfl rfl p hp l' hl' hpa
    obtain ⟨_, vs₁, n₁, e1, _, e3, _⟩ := r₁
    cases e1
    have q := r₂.mem p hp
    rw [hl'] at q
    obtain ⟨a', _, _, e1', e2', _⟩ := q
    rw [hpa] at e1'; cases e1'
    rw [e3] at e2'; cases e2'
  · have lift : ∀ {vs : List Value} {rs : List MR}, Holds W F₂ s₁.heap s₂ vs rs → Holds W F₂ s.heap s₂ vs rs := by
      intro vs rs h
      induction h with
      | nil => exact .nil
      | cons a b _ ih => exact .cons (RepR.from st₁ a) b ih
    exact lift r₂
end
end Mine

end
-- SimN
section
set_option autoImplicit false
set_option maxRecDepth 100000
set_option bootstrap.genMatcherCode false
namespace Mine
open PySem PySem.Calls PyProof.Rows PySem.Spec PySem.SeqAt

/-- how a block ends -/
noncomputable def FlOk (W : Wd) (F : Fz) (fl : Fl) (f : Flow) : Prop :=
  match fl with
  | .next => f = .next
  | .ret d => ∃ v, f = .ret v ∧ W.Rep F v d

/-- a statement, or a block -/
noncomputable def SX (W : Wd) (A : Around) (env : Env) (vars : List Str) (t : Sem Flow) (σ : Store) (fl : Fl) (σ' : Store) : Prop :=
  ∀ (m : NM) (F : Fz) (s : Shared) (Q : Flow → Shared → Prop) (E : Value → Shared → Prop), Rl W env vars m F σ s →
    (∀ f m' F' s', StepS W env vars m F σ s m' F' σ' s' → FlOk W F' fl f → Q f s') → wpAny W.M A t Q E s

section
variable {W : Wd} {A : Around} {env : Env} {sc : Scope} {vars : List Str} {σ σ' σ₁ σ₂ : Store} {k : Nat}

theorem swaps_plain {v : PySem.Expr} (h : notComp v = true) (t : Option PySem.Expr) (n : Nat) : swapsWith v t n env = pure false := by
  cases v <;> first | rfl | cases h

theorem put_inv {x : Nat} {sl : Slot} (h : put σ x sl = some σ') : lentAt σ x = false ∧ σ' = σ.set x sl := by
  unfold put at h
  split at h
  · rename_i hc
    simp only [Bool.and_eq_true, Bool.not_eq_true'] at hc
    cases h
    exact ⟨hc.2, rfl⟩
  · cases h

theorem loose_of {m : NM} {F F₁ : Fz} {s s₁ : Shared} {v : Value} {r : MR} (st : Step W env vars m F σ s F₁ σ₁ s₁) (hr : RepR W F₁ s.heap s₁ v r) : Loose vars m σ₁ v r := by
  rintro a l rfl rfl ho
  obtain ⟨a', vs, n, e1, e2, _⟩ := hr
  cases e1
  obtain ⟨_, _, q, _⟩ := st.rl0.own_at (st.own ho)
  rw [e2] at q; cases q

theorem inter_fn (hE : EnvOk env sc) : interactive env = false := by
  simp [interactive, hE.fn]

theorem s_nil : SX W A env vars (execs [] env) σ .next σ := fun m F s Q E hR hQ => wpAny_execs_nil (hQ _ _ _ _ (StepS.refl hR) rfl)

theorem s_cons {st : Stmt} {rest : List Stmt} {fl : Fl} (ha : SX W A env vars (exec st env) σ .next σ₁) (hb : SX W A env vars (execs rest env) σ₁ fl σ₂) :
    SX W A env vars (execs (st :: rest) env) σ fl σ₂ := by
  intro m F s Q E hR hQ
  refine wpAny_execs_cons (ha m F s _ _ hR fun f m₁ F₁ s₁ st₁ hf => ?_)
  cases (show f = .next from hf)
  exact hb m₁ F₁ s₁ _ _ st₁.rl fun f' m₂ F₂ s₂ st₂ hf' => hQ _ _ _ _ (st₁.trans st₂) hf'

theorem s_cons_ret {st : Stmt} {rest : List Stmt} {d : MV} (ha : SX W A env vars (exec st env) σ (.ret d) σ₁) :
    SX W A env vars (execs (st :: rest) env) σ (.ret d) σ₁ := by
  intro m F s Q E hR hQ
  refine wpAny_execs_cons (ha m F s _ _ hR fun f m₁ F₁ s₁ st₁ hf => ?_)
  obtain ⟨v, rfl, hv⟩ := id hf
  exact hQ _ _ _ _ st₁ hf

theorem s_assign (hE : EnvOk env sc) (hF : EnvFresh W env) (nd : vars.Nodup) {x : Nat} {n : Str} {v : PySem.Expr} {pn pos : Pos} {r : MR} (hv : vars[x]? = some n) (hx : isVar sc n = true) (hnc : notComp v = true)
    (ha : GE W A env vars (eval v env) σ r σ₁) (hp : put σ₁ x r.slot = some σ₂) : SX W A env vars (exec (.Assign [.Name n pn] v pos) env) σ .next σ₂ := by
  obtain ⟨hl, rfl⟩ := put_inv hp
  intro m F s Q E hR hQ
  refine wpAny_Assign_Name (ha m F s _ _ hR fun u F₁ s₁ st r => ?_) (swaps_plain hnc _ _)
  exact lt_store hE hF st.toS nd hv hx hl r (loose_of st r) fun H tk hk st₂ => hQ _ _ _ _ st₂ rfl

theorem s_aug (hE : EnvOk env sc) (hF : EnvFresh W env) (nd : vars.Nodup) {x : Nat} {n : Str} {v : PySem.Expr} {pn pos : Pos} {o : Bop} {op : Operator} {i j c : Int} (ho : okOp o op = true) (hv : vars[x]? = some n) (hx : isVar sc n = true)
    (hs : σ[x]? = some (.val (.int i))) (ha : GE W A env vars (eval v env) σ (.val (.int j)) σ₁) (hc : ibin o i j = some c) (hp : put σ₁ x (.val (.int c)) = some σ₂) :
    SX W A env vars (exec (.AugAssign (.Name n pn) op v pos) env) σ .next σ₂ := by
  obtain ⟨hl, rfl⟩ := put_inv hp
  intro m F s Q E hR hQ
  obtain ⟨u, hu, ru⟩ := hR.slots x n _ hv hs
  obtain ⟨t, rfl⟩ := ru.int_inv
  refine wpAny_AugAssign_Name (ld_name hE hR hx hu (ha m F s _ _ hR fun u F₁ s₁ st r => ?_))
  obtain ⟨t', rfl⟩ := Rep.int_inv r
  refine op_iaug ho hc ?_
  have r' : RepR W F₁ s.heap { s₁ with toks := s₁.toks + 1 } (.int c s₁.toks) (.val (.int c)) := Rep.int _ _
  exact lt_store hE hF (st.trans (Step.toks st.rl (s₁.toks + 1))).toS nd hv hx hl r' (by intro _ _ e; cases e) fun H tk hk st₂ => hQ _ _ _ _ st₂ rfl

theorem s_if {c : PySem.Expr} {a b : List Stmt} {pos : Pos} {t : Bool} {fl : Fl} (hc : GB W A env vars (isTrue c env (eval c env)) σ t σ₁) (hb : SX W A env vars (execs (if t then a else b) env) σ₁ fl σ₂) :
    SX W A env vars (exec (.If c a b pos) env) σ fl σ₂ := by
  intro m F s Q E hR hQ
  refine wpAny_If (hc m F s _ _ hR fun F₁ s₁ st => ?_)
  cases t
  · exact hb m F₁ s₁ _ _ st.rl fun f m₂ F₂ s₂ st₂ hf => hQ _ _ _ _ (st.toS.trans st₂) hf
  · exact hb m F₁ s₁ _ _ st.rl fun f m₂ F₂ s₂ st₂ hf => hQ _ _ _ _ (st.toS.trans st₂) hf

theorem s_ret {v : PySem.Expr} {pos : Pos} {r : MR} (ha : GE W A env vars (eval v env) σ r σ₁) : SX W A env vars (exec (.Return (some v) pos) env) σ (.ret r.mv) σ₁ := by
  intro m F s Q E hR hQ
  exact wpAny_Return_some (ha.v m F s _ _ hR fun v F₁ s₁ st r => hQ _ _ _ _ st.toS ⟨v, rfl, r⟩)

theorem s_expr (hE : EnvOk env sc) {v : PySem.Expr} {pos : Pos} (hnc : notComp v = true) (ha : GE W A env vars (eval v env) σ (.val .none) σ₁) : SX W A env vars (exec (.Expr v pos) env) σ .next σ₁ := by
  intro m F s Q E hR hQ
  refine wpAny_Expr (ha m F s _ _ hR fun v F₁ s₁ st r => ?_) (inter_fn hE) (swaps_plain hnc _ _)
  cases Rep.none_inv r
  exact hQ _ _ _ _ st.toS rfl

theorem short_iff {l : List MV} : short l = true ↔ l.length < 4096 := by simp [short]

theorem relist_inv {x : Nat} {l : List MV} (h : relist σ x l = some σ') : ∃ sl sl', σ[x]? = some sl ∧ σ' = σ.set x sl' ∧ ((∃ l₀, sl = .own l₀ ∧ sl' = .own l) ∨ (∃ l₀, sl = .lent l₀ ∧ sl' = .lent l)) := by
  unfold relist at h
  split at h
  · rename_i l₀ e; cases h; exact ⟨_, _, e, rfl, .inl ⟨l₀, rfl, rfl⟩⟩
  · rename_i l₀ e; cases h; exact ⟨_, _, e, rfl, .inr ⟨l₀, rfl, rfl⟩⟩
  · cases h

/-- the same name's list at a later state -/
theorem held_list {m : NM} {F : Fz} {s : Shared} (hR : Rl W env vars m F σ s) {x : Nat} {n : Str} (hv : vars[x]? = some n) (hh : held σ x = true) : ∃ b vs k, m n = some (.ref b) ∧ s.heap.get? b = some (listO (List.toArray vs) k) := by
  unfold held at hh
  split at hh
  · rename_i l e; obtain ⟨a, vs, k, e1, e2, _⟩ := hR.slots x n _ hv e; exact ⟨a, vs, k, e1, e2⟩
  · rename_i l e; obtain ⟨a, vs, k, e1, e2, _⟩ := hR.slots x n _ hv e; exact ⟨a, vs, k, e1, e2⟩
  · cases hh

/-- a name's list gets new items -/
theorem items_step {m : NM} {F F₁ : Fz} {s s₁ : Shared} (st : Step W env vars m F σ s F₁ σ₁ s₁) {x : Nat} {n : Str} (hv : vars[x]? = some n) {b : Addr} (hb : m n = some (.ref b)) {ws : List Value} {nn : Nat} {out : List MV} (hr : W.Reps F₁ ws out)
    (hp : relist σ₁ x out = some σ₂) {H : Heap} {tk : Nat} (hs : Heap.SameBut b s₁.heap H) (hH : H.get? b = some (listO ws.toArray nn)) : Step W env vars m F σ s F₁ σ₂ { s₁ with heap := H, toks := tk } := by
  obtain ⟨sl, sl', e1, rfl, h⟩ := relist_inv hp
  have hFb : F₁ b = none := by
    have q := st.rl.slots x n sl hv e1
    rcases h with ⟨l, rfl, _⟩ | ⟨l, rfl, _⟩ <;> (obtain ⟨a, _, _, e1, _, _, e4, _⟩ := q; rw [hb] at e1; cases e1; exact e4)
  refine st.trans (Step.relist st.rl hv e1 h hb (fun c o hc e => (hs.2 c hc).trans e) hH ⟨fun _ _ e => e, fun _ _ e => .inl e, fun a o e => (hs.2 a (by rintro rfl; rw [hFb] at e; cases e)).trans (st.rl.frz a o e), st.rl.seq⟩ hFb hr)

/-- a list's name: append -/
theorem s_append (hE : EnvOk env sc) {x : Nat} {n : Str} {nm : Str} {g : PySem.Expr} {pn apos pos pos' : Pos} {r : MR} {l : List MV} {sl : Slot} (hn : nm = ("append" : Str)) (hline : (apos.endLine == pos.line) = true) (hst : notStar g = true)
    (hv : vars[x]? = some n) (hx : isVar sc n = true) (hlv : held σ x = true) (ha : GE W A env vars (eval g env) σ r σ₁) (hs : σ₁[x]? = some sl) (hl : sl.list? = some l) (hsh : short l = true)
    (hp : relist σ₁ x (l ++ [r.mv]) = some σ₂) : SX W A env vars (exec (.Expr (.Call (.Attribute (.Name n pn) nm apos) [g] [] pos) pos') env) σ .next σ₂ := by
  subst hn
  intro m F s Q E hR hQ
  obtain ⟨b, vs₀, k₀, hb, hb₀⟩ := held_list hR hv hlv
  refine wpAny_Expr (wpAny_Call_append rfl (by rw [star_cons hst]; rfl) hline (by rw [star_cons hst]; rfl) (ld_var hE hR hx hb ⟨b, vs₀.toArray, rfl, ⟨_, _, hb₀, rfl, rfl, rfl⟩, ?_⟩)) (inter_fn hE) rfl
  refine ha m F s _ _ hR fun v F₁ s₁ st r₁ => ?_
  obtain ⟨F₂, st₂, rv⟩ := RepR.freeze st r₁
  obtain ⟨a', vs, kk, e1, e2, e3⟩ := slot_list st₂.rl hv hs hl
  rw [hb] at e1; cases e1
  refine wpAny_list_append_plain ⟨kk, e2⟩ (fun H hH hs' => ?_) ?_
  · obtain ⟨kk', hH⟩ := hH
    refine hQ _ _ _ _ (items_step (nn := kk') (ws := vs ++ [v]) st₂ hv hb (e3.append (.cons rv .nil)) hp hs' (tk := s₁.toks) (by rw [hH]; simp)).toS rfl
  · have := e3.length
    rw [short_iff] at hsh
    rw [sizeLine_eq]; simp; (first | lia | omega)

theorem setItem_plain {M : Wd} {A : Around} {E : Value → Shared → Prop} {s : Shared} {a : Addr} {vs : Array Value} {n : Nat} {k : Int} {t : Tok} {v : Value} {Q : Unit → Shared → Prop} (ho : s.heap.get? a = some (listO vs n)) (h0 : 0 ≤ k) (hfit : k < 2 ^ 63) (hn : k < vs.size)
    (hQ : ∀ h', h'.get? a = some (listO (vs.setIfInBounds k.toNat v) n) → Heap.SameBut a s.heap h' → Q () { s with heap := h' }) :
    wpAny M.M A (setItem (.ref a) (.int k t) v) Q E s := by
  have hl : s.heap.IsList a vs := ⟨_, ho, rfl, n, rfl⟩
  have hd : (listO vs n).data = .seq vs n := rfl
  unfold setItem
  try with_reducible refine wpAny_holding ?_
  first | refine wpAny_bind (wpAny_pure ?_) | skip
  refine wpAny_bind (wpAny_sequenceKey hl.typeIs (by decide) ?_)
  refine wpAny_bind (wpAny_callSpecial?_slot (name := Str.ofString "__setitem__") hl.typeIs F.slot_list_setitem
    (wpAny_call_entry F.slot_list_setitem hl.typeIs F.entry_list_setitem ?_ (PySem.args_list_setitem _ _ _)))
  show wpAny _ _ (Builtin.List.listSubscript? (.int k t) >>= _) _ _ s
  refine wpAny_bind (wpAny_listSubscript_int (fitsIndex_of h0 hfit) ?_)
  clear hfit
  obtain ⟨j, rfl⟩ := Int.eq_ofNat_of_zero_le h0
  have hj : j < vs.size := by (first | lia | omega)
  have hx' : vs[j]? = some vs[j] := Array.getElem?_eq_getElem hj
  show wpAny _ _ ((seqItemAt a j >>= fun r => pure (r.map (j, ·))) >>= _) _ _ s
  refine wpAny_bind (wpAny_bind (wpAny_seqItemAt ho hd (wpAny_pure ?_)))
  rw [hx']
  show wpAny _ _ (setSeqItemAt a j v >>= _) _ _ s
  have he : Obj.mapSeq (·.setIfInBounds j v) (listO vs n) = listO (vs.setIfInBounds j v) n := by simp [Obj.mapSeq]
  have hfin : (s.heap.update a (Obj.mapSeq (·.setIfInBounds j v))).get? a = some (listO (vs.setIfInBounds j v) n) := by
    rw [Heap.get?_update_self _ ho (by rw [he]; rfl), he]
  refine wpAny_bind (wpAny_setSeqItemAt ho hd ?_)
  first
    | exact wpAny_bind (wpAny_pure (wpAny_pure ⟨.none, rfl, wpAny_pure (hQ _ hfin (Heap.SameBut.update ..))⟩))
    | exact wpAny_pure ⟨.none, rfl, wpAny_pure (hQ _ hfin (Heap.SameBut.update ..))⟩

theorem s_setItem (hE : EnvOk env sc) {x : Nat} {n : Str} {v g : PySem.Expr} {pn ps pos : Pos} {r : MR} {l : List MV} {sl : Slot} {j : Int} {σ₃ : Store} (hnc : notComp v = true) (hv : vars[x]? = some n) (hx : isVar sc n = true)
    (ha : GE W A env vars (eval v env) σ r σ₁) (hlv : live σ₁ x = true) (hi : GE W A env vars (eval g env) σ₁ (.val (.int j)) σ₂) (hs : σ₂[x]? = some sl) (hl : sl.list? = some l) (h0 : 0 ≤ j) (hj : j < l.length) (hsh : short l = true)
    (hp : relist σ₂ x (l.set j.toNat r.mv) = some σ₃) : SX W A env vars (exec (.Assign [.Subscript (.Name n pn) g ps] v pos) env) σ .next σ₃ := by
  intro m F s Q E hR hQ
  refine wpAny_Assign_Subscript (ha m F s _ _ hR fun v F₁ s₁ st r₁ => ?_) (swaps_plain hnc _ _)
  obtain ⟨F₂, st, rv⟩ := RepR.freeze st r₁
  obtain ⟨w, hw⟩ := live_val st.rl hv hlv
  refine ld_var hE st.rl hx hw ?_
  refine hi m F₂ s₁ _ _ st.rl fun i F₃ s₂ st₂ ri => ?_
  obtain ⟨t, rfl⟩ := Rep.int_inv ri
  obtain ⟨b, vs, kk, e1, e2, e3⟩ := slot_list st₂.rl hv hs hl
  rw [hw] at e1; cases e1
  have hlen := e3.length
  rw [short_iff] at hsh
  refine setItem_plain e2 h0 (by (first | lia | omega)) (by simp; (first | lia | omega)) fun H hH hs' => ?_
  exact hQ _ _ _ _ (items_step (nn := kk) (ws := vs.set j.toNat v) (st.trans st₂) hv hw (e3.set _ (Rep.mono st₂.le rv)) hp hs' (tk := s₂.toks) (by rw [hH]; simp)).toS rfl
end
end Mine

end
-- SimO
section
set_option autoImplicit false
set_option maxRecDepth 100000
set_option bootstrap.genMatcherCode false
namespace Mine
open PySem PySem.Calls PyProof.Rows PySem.Spec PySem.SeqAt

noncomputable def tnames : List PySem.Expr → List Str
  | [] => []
  | .Name x _ :: r => x :: tnames r
  | _ :: r => tnames r

theorem names_of (f : PySem.Expr → Option Str) (hf : ∀ x p, f (.Name x p) = some x ∨ f (.Name x p) = none) (hn : ∀ t, (∀ x p, t ≠ .Name x p) → f t = none) : ∀ ts : List PySem.Expr, (ts.filterMap f).length = ts.length → ts.filterMap f = tnames ts
  | [], _ => rfl
  | t :: ts, h => by
    have le : (ts.filterMap f).length ≤ ts.length := List.length_filterMap_le f ts
    cases e : f t with
    | none =>
      rw [List.filterMap_cons_none e] at h
      simp only [List.length_cons] at h
      (first | lia | omega)
    | some y =>
      rw [List.filterMap_cons_some e] at h ⊢
      simp only [List.length_cons, Nat.add_right_cancel_iff] at h
      rw [names_of f hf hn ts h]
      by_cases hx : ∃ x p, t = .Name x p
      · obtain ⟨x, p, rfl⟩ := hx
        rcases hf x p with q | q
        · rw [q] at e; cases e; rfl
        · rw [q] at e; cases e
      · rw [hn t fun x p q => hx ⟨x, p, q⟩] at e; cases e

theorem swapped_some {ts vs : List PySem.Expr} {a c : Nat} {b d : Pos} {env : Env} (hna : (vs.all (constantsAlone 8)) = false) :
    swappedStores [.Tuple ts a b] (.Tuple vs c d) env = pure none ∨ swappedStores [.Tuple ts a b] (.Tuple vs c d) env = pure (some (tnames ts)) := by
  unfold swappedStores
  dsimp only
  split
  · exact .inl rfl
  split
  · exact .inl rfl
  split
  · exact .inl rfl
  split
  · exact .inl rfl
  split
  · rename_i h; rw [hna] at h; cases h
  rename_i h1 h2 h3 h4 h5
  right
  simp only [Bool.or_eq_true, bne_iff_ne, ne_eq, not_or, Classical.not_not] at h3
  rw [names_of _ ?_ ?_ ts h3.1]
  · intro x p
    dsimp only
    split
    · exact .inl rfl
    · exact .inr rfl
  · intro t ht
    cases t <;> first | rfl | exact absurd rfl (ht _ _)
theorem swapped_call {ts : List PySem.Expr} {a : Nat} {b : Pos} {f : PySem.Expr} {as ks} {p : Pos} {env : Env} : swappedStores [.Tuple ts a b] (.Call f as ks p) env = pure none := rfl

section
variable {W : Wd} {A : Around} {env : Env} {sc : Scope} {vars : List Str} {m m₁ : NM} {F F₁ : Fz} {σ σ' σ₁ σ₂ : Store} {s s₁ : Shared} {k : Nat}

theorem puts_inv : ∀ (xs : List Nat) (sls : List Slot) {σ σ' : Store}, xs.Nodup → puts σ xs sls = some σ' → xs.length = sls.length ∧ (∀ x ∈ xs, lentAt σ x = false) ∧ σ' = (xs.zip sls).foldl (fun σ p => σ.set p.1 p.2) σ
  | [], [], σ, σ', _, h => by cases h; exact ⟨rfl, by simp, rfl⟩
  | [], _ :: _, σ, σ', _, h => by cases h
  | _ :: _, [], σ, σ', _, h => by cases h
  | x :: xs, sl :: sls, σ, σ', nd, h => by
    obtain ⟨h1, h2⟩ := List.nodup_cons.mp nd
    simp only [puts] at h
    split at h
    · rename_i σ₁ e
      obtain ⟨hl, rfl⟩ := put_inv e
      obtain ⟨q1, q2, q3⟩ := puts_inv xs sls h2 h
      refine ⟨by simp [q1], ?_, q3⟩
      intro y hy
      rcases List.mem_cons.mp hy with rfl | hy
      · exact hl
      · rw [← q2 y hy, lentAt_set]
        rintro rfl
        exact h1 hy
    · cases h

/-- the names of a tuple, with their new values -/
theorem mk_puts {h₀ : Heap} : ∀ (xs : List Nat) (ts : List PySem.Expr) {vs : List Value} {rs : List MR}, varsAre sc vars xs ts = true → xs.length = rs.length → Holds W F h₀ s vs rs →
    ∃ ps : List Put, ps.map Put.i = xs ∧ ps.map Put.x = tnames ts ∧ ps.map Put.v = vs ∧ (ps.map fun p => p.r) = rs ∧ (∀ p ∈ ps, vars[p.i]? = some p.x ∧ isVar sc p.x = true ∧ RepR W F h₀ s p.v p.r) ∧ ps.Pairwise Apart ∧
      Acts env ((assignEach ts env).map (·.2)) ps ∧ (assignEach ts env).length = ps.length ∧ (assignEach ts env).findIdx? (·.1) = none
  | [], [], _, _, _, hl, .nil => ⟨[], rfl, rfl, rfl, rfl, by simp, .nil, .nil, rfl, rfl⟩
  | [], [], _, _, _, hl, .cons _ _ _ => by simp at hl
  | [], _ :: _, _, _, h, _, _ => by simp [varsAre] at h
  | _ :: _, [], _, _, h, _, _ => by simp [varsAre] at h
  | x :: xs, t :: ts, _, _, h, hl, .nil => by simp at hl
  | x :: xs, t :: ts, v :: vs, r :: rs, h, hl, .cons a b c => by
    cases t <;> try (simp [varsAre] at h; done)
    rename_i n p
    simp only [varsAre, Bool.and_eq_true, decide_eq_true_eq] at h
    simp only [List.length_cons, Nat.add_right_cancel_iff] at hl
    obtain ⟨ps, q1, q2, q3, q4, q5, q6, q7, q8, q9⟩ := mk_puts xs ts h.2 hl c
    refine ⟨⟨x, n, v, r⟩ :: ps, by simp [q1], by simp [q2, tnames], by simp [q3], by simp [q4], ?_, ?_, ?_, ?_, ?_⟩
    · intro p hp
      rcases List.mem_cons.mp hp with rfl | hp
      · exact ⟨h.1.1, h.1.2, a⟩
      · exact q5 p hp
    · refine .cons ?_ q6
      intro p hp a' l l' e1 e2 e3 e4
      refine b a' l e1 e3 (p.v, p.r) ?_ l' e2 e4
      rw [← q3, ← q4]
      clear q1 q2 q3 q4 q5 q6 q7 q8 q9 b c
      induction ps with
      | nil => cases hp
      | cons q ps ih =>
        rcases List.mem_cons.mp hp with rfl | hp
        · exact List.mem_cons_self ..
        · exact List.mem_cons_of_mem _ (ih hp)
    · exact .cons (fun v h => wpAny_assign_Name h) q7
    · show (assignEach ts env).length + 1 = _; rw [q8]; rfl
    · show ((false, assign (.Name n p) env) :: assignEach ts env).findIdx? _ = none
      rw [List.findIdx?_cons]
      simp [q9]

theorem fold_eq : ∀ (ps : List Put) (σ : Store), ((ps.map Put.i).zip ((ps.map fun p => p.r).map MR.slot)).foldl (fun σ p => σ.set p.1 p.2) σ = foldSet ps σ
  | [], _ => rfl
  | p :: ps, σ => fold_eq ps (σ.set p.i p.r.slot)

theorem acts_names : ∀ ps : List Put, Acts env ((ps.map Put.x).map fun n => bindName env n) ps
  | [] => .nil
  | p :: ps => .cons (fun v h => wpAny_bindName h) (acts_names ps)

theorem isTuple_of {a : Addr} {vs : Array Value} {n : Nat} (h : s.heap.get? a = some (tupO vs n)) : s.heap.IsTuple a vs := ⟨_, h, rfl, n, rfl⟩

theorem step_but (h : Rl W env vars m F σ s) {H : Heap} (hx : Heap.ExtBut s.heap.objs.size s.heap H) : Step W env vars m F σ s F σ { s with heap := H } :=
  Step.ext (tk := s.toks) h fun b o e => hx b o (by rintro rfl; rw [get_size] at e; cases e) e

/-- several names take their values -/
theorem many (hE : EnvOk env sc) (hF : EnvFresh W env) (nd : vars.Nodup) {E : Value → Shared → Prop} {Q : Unit → Shared → Prop} {acts : List (Value → Sem Unit)} {ps : List Put} (ha : Acts env acts ps) (hn : (ps.map Put.i).Nodup) (hap : ps.Pairwise Apart)
    (st : Step W env vars m F σ s F₁ σ₁ s₁) (hp : ∀ p ∈ ps, vars[p.i]? = some p.x ∧ isVar sc p.x = true ∧ RepR W F₁ s.heap s₁ p.v p.r) (hl : ∀ p ∈ ps, lentAt σ₁ p.i = false)
    (q : ∀ m₂ s₂, StepS W env vars m F σ s m₂ F₁ (foldSet ps σ₁) s₂ → Q () s₂) : wpAny W.M A (assignInOrder acts (ps.map Put.v)) Q E s₁ :=
  stores hE hF nd ps acts ha hn hap st.toS (fun p hp' => ⟨(hp p hp').1, (hp p hp').2.1, hl p hp', (hp p hp').2.2, loose_of st (hp p hp').2.2⟩) q

theorem Holds.through {h₀ : Heap} {F₂ : Fz} {s₂ : Shared} {σ₂ : Store} (st₁ : Step W env vars m F σ s F₁ σ₁ s₁) (st₂ : Step W env vars m F₁ σ₁ s₁ F₂ σ₂ s₂) (hh : h₀ = s.heap) : ∀ {vs : List Value} {rs : List MR}, Holds W F₁ h₀ s₁ vs rs → Holds W F₂ h₀ s₂ vs rs
  | _, _, .nil => .nil
  | _, _, .cons a b c => .cons (RepR.through st₁ st₂ hh a) b (Holds.through st₁ st₂ hh c)

theorem Holds.of_reps {h₀ : Heap} : ∀ {vs : List Value} {l : List MV}, W.Reps F vs l → Holds W F h₀ s vs (l.map MR.val)
  | _, _, .nil => .nil
  | _, _, .cons a b => .cons a (by intro _ _ e; cases e) (Holds.of_reps b)
theorem map_slot : ∀ l : List MV, (l.map MR.val).map MR.slot = l.map Slot.val
  | [] => rfl
  | _ :: r => by simp only [List.map_cons, map_slot r]; rfl

theorem s_unpack (hA : AOk A k) (hE : EnvOk env sc) (hF : EnvFresh W env) (nd : vars.Nodup) {xs : List Nat} {ts as : List PySem.Expr} {ks : List Keyword} {f : PySem.Expr} {a : Nat} {b p pos : Pos} {l : List MV} (hnd : xs.Nodup) (hts : varsAre sc vars xs ts = true)
    (ha : GE W A env vars (eval (.Call f as ks p) env) σ (.val (.tup l)) σ₁) (hp : puts σ₁ xs (l.map Slot.val) = some σ₂) : SX W A env vars (exec (.Assign [.Tuple ts a b] (.Call f as ks p) pos) env) σ .next σ₂ := by
  intro m F s Q E hR hQ
  obtain ⟨q1, q2, q3⟩ := puts_inv xs _ hnd hp
  rw [exec_Assign_arm]
  refine wpAny_bind (wpAny_standAt (wpAny_bind (wpAny_of_eq (a := false) rfl ?_)))
  refine wpAny_bind (ha m F s _ _ hR fun v F₁ s₁ st r => ?_)
  refine wpAny_bind (wpAny_of_eq swapped_call ?_)
  refine wpAny_bind (?_ : wpAny W.M A (assign (.Tuple ts a b) env v) _ _ _)
  obtain ⟨t, vs, n, rfl, e1, e2⟩ := Rep.tup_inv r
  obtain ⟨ps, p1, p2, p3, p4, p5, p6, p7, p8, p9⟩ := mk_puts (env := env) (h₀ := s.heap) (s := s₁) xs ts hts (rs := l.map MR.val) (by simpa using q1) (Holds.of_reps e2)
  have hlen : (assignEach ts env).length = vs.toArray.size := by rw [p8, ← p3]; simp
  refine wpAny_assign_Tuple hA.handled (isTuple_of (st.rl.frz _ _ e1)) hlen p9 fun H hH => ?_
  have st₂ := step_but st.rl hH
  rw [show vs.toArray.toList = ps.map Put.v by simp [p3]]
  refine many hE hF nd p7 (by rw [p1]; exact hnd) p6 (st.trans st₂) (fun p hp' => ⟨(p5 p hp').1, (p5 p hp').2.1, RepR.through st st₂ rfl (p5 p hp').2.2⟩) (fun p hp' => q2 _ (by rw [← p1]; exact List.mem_map.mpr ⟨p, hp', rfl⟩)) fun m₂ s₂ st₃ => ?_
  refine wpAny_pure (hQ .next m₂ F₁ s₂ ?_ rfl)
  rw [q3, ← map_slot, ← p1, ← p4, fold_eq]
  exact st₃

theorem s_assigns (hA : AOk A k) (hE : EnvOk env sc) (hF : EnvFresh W env) (nd : vars.Nodup) {xs : List Nat} {ts es : List PySem.Expr} {a c : Nat} {b d pos : Pos} {rs : List MR} (hnd : xs.Nodup) (hlt : xs.length < 64) (hts : varsAre sc vars xs ts = true)
    (hna : (es.all (constantsAlone 8)) = false) (ha : GR W A env vars (spliced (backTo d (starEach es env))) σ rs σ₁) (hp : puts σ₁ xs (rs.map MR.slot) = some σ₂) :
    SX W A env vars (exec (.Assign [.Tuple ts a b] (.Tuple es c d) pos) env) σ .next σ₂ := by
  intro m F s Q E hR hQ
  obtain ⟨q1, q2, q3⟩ := puts_inv xs _ hnd hp
  rw [exec_Assign_arm]
  refine wpAny_bind (wpAny_standAt (wpAny_bind (wpAny_of_eq (a := false) rfl ?_)))
  refine wpAny_bind (wpAny_Tuple (ha m F s _ _ hR fun vs F₁ s₁ st r => ⟨?_, ?_⟩))
  · have := r.length
    simp only [List.length_map] at q1
    rw [sizeLine_eq]; (first | lia | omega)
  have st₁ := Step.push st.rl (tupO vs.toArray 0) s₁.toks
  obtain ⟨ps, p1, p2, p3, p4, p5, p6, p7, p8, p9⟩ := mk_puts (env := env) (h₀ := s.heap) xs ts hts (rs := rs) (by simpa using q1) (Holds.through st st₁ rfl r)
  have hlen : (assignEach ts env).length = vs.toArray.size := by rw [p8, ← p3]; simp
  have htup := isTuple_of (s := { s₁ with heap := s₁.heap.push (tupO vs.toArray 0), toks := s₁.toks }) (Heap.get?_push_size s₁.heap (o := tupO vs.toArray 0) rfl)
  have fin : ∀ (H : Heap), Heap.ExtBut (s₁.heap.push (tupO vs.toArray 0)).objs.size (s₁.heap.push (tupO vs.toArray 0)) H → ∀ (acts : List (Value → Sem Unit)) (ps' : List Put), ps' = ps ∨ ps' = ps.reverse → Acts env acts ps' →
      wpAny W.M A (assignInOrder acts (ps'.map Put.v)) (fun _ => Q .next) E { s₁ with heap := H } := by
    intro H hH acts ps' hps hac
    have st₂ := step_but st₁.rl hH
    have hmem : ∀ p, p ∈ ps' → p ∈ ps := by rcases hps with rfl | rfl <;> intro p hp' <;> simpa using hp'
    have hfold : foldSet ps' σ₁ = σ₂ := by
      have e : foldSet ps σ₁ = σ₂ := by rw [q3, ← p1, ← p4, fold_eq]
      rcases hps with rfl | rfl
      · exact e
      · rw [foldSet_rev _ _ (by rw [p1]; exact hnd)]; exact e
    refine many hE hF nd hac ?_ ?_ ((st.trans st₁).trans st₂) (fun p hp' => ⟨(p5 p (hmem p hp')).1, (p5 p (hmem p hp')).2.1, RepR.through (st.trans st₁) st₂ rfl (p5 p (hmem p hp')).2.2⟩)
      (fun p hp' => q2 _ (by rw [← p1]; exact List.mem_map.mpr ⟨p, hmem p hp', rfl⟩)) fun m₂ s₂ st₃ => ?_
    · rcases hps with rfl | rfl
      · rw [p1]; exact hnd
      · rw [List.map_reverse, p1]; exact (List.reverse_perm _).nodup_iff.mpr hnd
    · rcases hps with rfl | rfl
      · exact p6
      · rw [List.pairwise_reverse]
        exact p6.imp fun h a l l' e1 e2 e3 e4 => h a l' l e2 e1 e4 e3
    · rw [hfold] at st₃
      exact hQ .next m₂ F₁ s₂ st₃ rfl
  rcases swapped_some (ts := ts) (a := a) (c := c) (b := b) (d := d) (env := env) hna with e | e
  · refine wpAny_bind (wpAny_of_eq e ?_)
    refine wpAny_bind (?_ : wpAny W.M A (assign (.Tuple ts a b) env _) _ _ _)
    refine wpAny_assign_Tuple hA.handled htup hlen p9 fun H hH => ?_
    rw [show vs.toArray.toList = ps.map Put.v by simp [p3]]
    exact wpAny_mono (fin H hH _ ps (.inl rfl) p7) (fun _ _ h => wpAny_pure h) fun _ _ h => h
  · refine wpAny_bind (wpAny_of_eq e ?_)
    show wpAny _ _ (rule "assign.swapped-stores" >>= _) _ _ _
    refine wpAny_bind (wpAny_rule (wpAny_bind ?_))
    rw [show (tnames ts).length = vs.toArray.size by rw [← p2, ← p3]; simp]
    refine wpAny_unpackItems_tuple hA.handled htup fun H hH => ?_
    refine wpAny_bind ?_
    have e2 : vs.toArray.toList.reverse = (ps.reverse).map Put.v := by rw [List.map_reverse, p3]
    have e3 : (tnames ts).reverse = (ps.reverse).map Put.x := by rw [List.map_reverse, p2]
    rw [e2, e3]
    exact wpAny_mono (fin H hH _ ps.reverse (.inr rfl) (acts_names _)) (fun _ _ h => wpAny_pure h) fun _ _ h => h
end
end Mine

end
-- SimP
section
set_option autoImplicit false
set_option maxRecDepth 100000
set_option bootstrap.genMatcherCode false
namespace Mine
open PySem PySem.Calls PyProof.Rows PySem.Spec PySem.SeqAt

section
variable {W : Wd} {A : Around} {env : Env} {sc : Scope} {vars : List Str} {m m' m₁ : NM} {F F' F₁ : Fz} {σ σ' σ₁ σ₂ : Store} {s s' s₀ s₁ : Shared} {wr : List Addr} {k : Nat}

theorem s_while {c : PySem.Expr} {a : List Stmt} {pos : Pos} {test : Store → Option (MR × Store)} {body : Store → Option (Fl × Store)} {n : Nat} {fl : Fl}
    (hc : ∀ σ b σ', test σ = some (.val (.bool b), σ') → GB W A env vars (isTrue c env (eval c env)) σ b σ') (hb : ∀ σ fl σ', body σ = some (fl, σ') → SX W A env vars (execs a env) σ fl σ')
    (h : whileL test body n σ = some (fl, σ₂)) : SX W A env vars (exec (.While c a [] pos) env) σ fl σ₂ := by
  intro m F s Q E hR hQ
  refine wpAny_While (codeAny_whileLoop (fun n s' => ∃ m' F' σ', StepS W env vars m F σ s m' F' σ' s' ∧ whileL test body n σ' = some (fl, σ₂)) ?_ n ⟨m, F, σ, StepS.refl hR, h⟩)
  rintro n s' ⟨m', F', σ', st, hw⟩
  cases n with
  | zero => cases hw
  | succ n =>
    unfold whileL at hw
    split at hw
    · rename_i σ₁ e
      refine hc _ _ _ e m' F' s' _ _ st.rl fun F₁ s₁ st₁ => ?_
      rw [if_pos rfl]
      split at hw
      · rename_i σ₃ e'
        refine hb _ _ _ e' m' F₁ s₁ _ _ st₁.rl fun f m₂ F₂ s₂ st₂ hf => ?_
        cases (show f = .next from hf)
        exact ⟨n, Nat.lt_succ_self _, m₂, F₂, σ₃, (st.trans st₁.toS).trans st₂, hw⟩
      · rename_i hne
        refine hb _ _ _ hw m' F₁ s₁ _ _ st₁.rl fun f m₂ F₂ s₂ st₂ hf => ?_
        cases fl with
        | next => exact absurd hw (hne _)
        | ret d =>
          obtain ⟨v, rfl, hv⟩ := id hf
          exact hQ _ _ _ _ ((st.trans st₁.toS).trans st₂) hf
    · rename_i σ₁ e
      cases hw
      refine hc _ _ _ e m' F' s' _ _ st.rl fun F₁ s₁ st₁ => ?_
      rw [if_neg (by decide)]
      exact wpAny_execs_nil (hQ _ _ _ _ (st.trans st₁.toS) rfl)
    · cases hw

/-- an iterator's objects are nobody else's -/
structure Aside (W : Wd) (env : Env) (vars : List Str) (m : NM) (F : Fz) (σ : Store) (s₀ s : Shared) (wr : List Addr) : Prop where
  fresh : ∀ b ∈ wr, s₀.heap.get? b = none
  here : ∀ b ∈ wr, s.heap.get? b ≠ none
  frz : ∀ b ∈ wr, F b = none
  own : ∀ b ∈ wr, ¬ Own vars m σ b
  loc : ∀ b ∈ wr, ¬ Loc env b

theorem loc_off (hF : EnvFresh W env) (h : Rl W env vars m F σ s) {a : Addr} {o : Obj} {vs : Array Value} {n : Nat} (e : s.heap.get? a = some o) (hd : o.data = .seq vs n) : ¬ Loc env a := by
  rintro (rfl | ⟨x, hx⟩)
  · obtain ⟨o', eo, es, n', hd'⟩ := h.loc_ns
    rw [eo] at e; cases e; rw [hd'] at hd; cases hd
  · obtain ⟨c', hc', o', eo, hd'⟩ := h.cell x (hF.kind x a hx)
    rw [hx] at hc'; cases hc'
    rw [eo] at e; cases e; rw [hd'] at hd; cases hd

theorem loc_there (hF : EnvFresh W env) (h : Rl W env vars m F σ s) {a : Addr} (ha : Loc env a) : s.heap.get? a ≠ none := by
  rcases ha with rfl | ⟨x, hx⟩
  · obtain ⟨o', eo, _⟩ := h.loc_ns
    rw [eo]; simp
  · obtain ⟨c', hc', o', eo, hd'⟩ := h.cell x (hF.kind x a hx)
    rw [hx] at hc'; cases hc'
    rw [eo]; simp

theorem Aside.step (h : Aside W env vars m F σ s₀ s wr) (st : StepS W env vars m F σ s m' F' σ' s') : Aside W env vars m' F' σ' s₀ s' wr where
  fresh := h.fresh
  here := fun b hb e => h.here b hb (st.stay b e)
  frz := fun b hb => by
    cases q : F' b with
    | none => rfl
    | some o =>
      rcases st.grow b o q with q' | q' | q'
      · rw [h.frz b hb] at q'; cases q'
      · exact absurd q' (h.here b hb)
      · exact absurd q' (h.own b hb)
  own := fun b hb ho => by
    rcases st.own b ho with q | q
    · exact h.own b hb q
    · exact h.here b hb q
  loc := h.loc

theorem StepS.churn (h : StepS W env vars m F σ s m' F' σ' s') {wr : List Addr} (hw : Aside W env vars m' F' σ' s s' wr) {H : Heap} {tk : Nat} (hk : ∀ b o, b ∉ wr → s'.heap.get? b = some o → H.get? b = some o) :
    StepS W env vars m F σ s m' F' σ' { s' with heap := H, toks := tk } := by
  have own : ∀ (i : Nat) (x : Str) (sl : Slot) (l : List MV), vars[i]? = some x → σ'[i]? = some sl → sl.mut = true → OwnAt F' W s'.heap (m' x) l → OwnAt F' W H (m' x) l := by
    rintro i x sl l hx hs hm ⟨a, vs, n, e1, e2, e3⟩
    exact ⟨a, vs, n, e1, hk a _ (fun hb => hw.own a hb ⟨i, x, sl, hx, hs, hm, e1⟩) e2, e3⟩
  have stay : ∀ b, H.get? b = none → s.heap.get? b = none := by
    intro b e
    by_cases hb : b ∈ wr
    · exact hw.fresh b hb
    · refine h.stay b ?_
      cases q : s'.heap.get? b with
      | none => rfl
      | some o => rw [hk b o hb q] at e; cases e
  have old : ∀ b o, s.heap.get? b = some o → b ∉ wr := fun b o e hb => by rw [hw.fresh b hb] at e; cases e
  have hloc : ∀ b, Loc env b → b ∉ wr := fun b hl hb => hw.loc b hb hl
  exact {
    rl0 := h.rl0
    rl := {
      sh := by rw [h.rl.sh]
      base := fun b o e => hk b o (old b o (h.rl0.base b o e)) (h.rl.base b o e)
      frz := fun a o e => hk a o (fun hb => by rw [hw.frz a hb] at e; cases e) (h.rl.frz a o e)
      seq := h.rl.seq
      ns := by
        obtain ⟨ml, ⟨o, es, n, e, r⟩, hm⟩ := h.rl.ns
        exact ⟨ml, ⟨o, es, n, hk _ _ (hloc _ (.inl rfl)) e, r⟩, hm⟩
      cell := fun x hx => by
        obtain ⟨c, hc, o, e, r⟩ := h.rl.cell x hx
        exact ⟨c, hc, o, hk _ _ (hloc _ (.inr ⟨x, hc⟩)) e, r⟩
      len := h.rl.len
      slots := fun i x sl hx hs => by
        have := h.rl.slots i x sl hx hs
        cases sl with
        | unset => trivial
        | val d => exact this
        | own l => exact own i x _ _ hx hs rfl this
        | lent l => exact own i x _ _ hx hs rfl this
      apart := h.rl.apart }
    stay := stay
    le := h.le
    grow := h.grow
    frame := fun b o e hl hn => hk b o (old b o e) (h.frame b o e hl hn)
    own := h.own
    lents := h.lents }

theorem fp_keep (hF : EnvFresh W env) {F₀ : Fz} {fp : List Addr} (as : Aside W env vars m F σ s₀ s wr) (foot : ∀ b ∈ fp, b ∈ wr ∨ F₀ b ≠ none) (le : ∀ a o, F₀ a = some o → F a = some o) (st : StepS W env vars m F σ s m' F' σ' s') :
    ∀ b ∈ fp, ∀ o, s.heap.get? b = some o → s'.heap.get? b = some o := by
  intro b hb o e
  rcases foot b hb with q | q
  · exact st.frame b o e (as.loc b q) (as.own b q)
  · cases q' : F₀ b with
    | none => exact absurd q' q
    | some o' =>
      have e' := st.rl0.frz b o' (le b o' q')
      obtain ⟨vs, n, hd⟩ := st.rl0.seq b o' (le b o' q')
      refine st.frame b o e (loc_off hF st.rl0 e' hd) fun ho => ?_
      obtain ⟨_, _, _, q2⟩ := st.rl0.own_at ho
      rw [le b o' q'] at q2; cases q2

theorem s_for (hE : EnvOk env sc) (hF : EnvFresh W env) (nd : vars.Nodup) {x : Nat} {n : Str} {iter : PySem.Expr} {body : List Stmt} {pn pos : Pos} {l : List MV} {bodyF : Store → Option (Fl × Store)} {fl : Fl} (hv : vars[x]? = some n) (hx : isVar sc n = true)
    (hpl : plainIter iter = true) (hit : GT W A env vars (eval iter env) σ l σ₁) (hb : ∀ σ fl σ', bodyF σ = some (fl, σ') → SX W A env vars (execs body env) σ fl σ') (h : forL x bodyF l σ₁ = some (fl, σ₂)) :
    SX W A env vars (exec (.For (.Name n pn) iter body [] pos) env) σ fl σ₂ := by
  intro m F s Q E hR hQ
  refine wpAny_For (hit m F s _ _ hR fun F₁ s₁ st I fp wr P T H tk it => ?_) (folded_plain hpl env)
  have as₀ : Aside W env vars m F₁ σ₁ s₁ { s₁ with heap := H, toks := tk } wr := {
    fresh := fun b hb => (it.fresh b hb).1
    here := fun b hb => (it.fresh b hb).2
    frz := fun b hb => F_none st.rl.toSt (it.fresh b hb).1
    own := fun b hb ho => by
      obtain ⟨_, _, q, _⟩ := st.rl.own_at ho
      rw [(it.fresh b hb).1] at q; cases q
    loc := fun b hb hl => loc_there hF st.rl hl (it.fresh b hb).1 }
  refine codeAny_forLoop (fun n s' => ∃ i m' F' σ', n + i = l.length ∧ StepS W env vars m F₁ σ₁ s₁ m' F' σ' s' ∧ Aside W env vars m' F' σ' s₁ s' wr ∧ T i s'.heap ∧ forL x bodyF (l.drop i) σ' = some (fl, σ₂)) ?_ l.length
    ⟨0, m, F₁, σ₁, rfl, (Step.ext st.rl it.old).toS, as₀, it.start, h⟩
  rintro n s' ⟨i, m', F', σ', hn, stS, as, hT, hw⟩
  by_cases hi : i < l.length
  · refine it.walks.item i s' _ _ hi hT fun v h' tk' hP hT' hk => ?_
    have st₂ := stS.churn as (tk := tk') hk
    have as₂ : Aside W env vars m' F' σ' s₁ { s' with heap := h', toks := tk' } wr := { as with here := it.live (i + 1) h' hT' }
    obtain ⟨d, hd, rd⟩ := it.vals i v hi hP
    have hdrop : l.drop i = d :: l.drop (i + 1) := by
      obtain ⟨hi', e⟩ := List.getElem?_eq_some_iff.mp hd
      rw [List.drop_eq_getElem_cons hi', e]
    rw [hdrop] at hw
    unfold forL at hw
    split at hw
    · rename_i σ₃ e
      obtain ⟨hl, rfl⟩ := put_inv e
      have rr : RepR W F' h' { s' with heap := h', toks := tk' } v (.val d) := Rep.mono st₂.le rd
      refine wpAny_assign_Name (lt_store hE hF (StepS.refl st₂.rl) nd hv hx hl rr (by intro _ _ e; cases e) fun H₃ tk₃ hk₃ st₃ => ?_)
      have keep₃ := fp_keep hF as₂ (fun b hb => (it.foot b hb).2) st₂.le st₃
      have as₃ := as₂.step st₃
      have hT₃ := it.walks.frame _ _ _ hT' keep₃
      have st₃' := st₂.trans st₃
      split at hw
      · rename_i σ₄ e'
        refine hb _ _ _ e' _ F' _ _ _ st₃.rl fun f m₄ F₄ s₄ st₄ hf => ?_
        cases (show f = .next from hf)
        exact ⟨n - 1, by (first | lia | omega), i + 1, m₄, F₄, σ₄, by (first | lia | omega), st₃'.trans st₄, as₃.step st₄, it.walks.frame _ _ _ hT₃ (fp_keep hF as₃ (fun b hb => (it.foot b hb).2) st₃'.le st₄), hw⟩
      · rename_i hne
        refine hb _ _ _ hw _ F' _ _ _ st₃.rl fun f m₄ F₄ s₄ st₄ hf => ?_
        cases fl with
        | next => exact absurd hw (hne _)
        | ret d =>
          obtain ⟨v, rfl, hv⟩ := id hf
          exact hQ _ _ _ _ (st.toS.trans (st₃'.trans st₄)) hf
    · cases hw
  · have hil : i = l.length := by (first | lia | omega)
    rw [List.drop_eq_nil_of_le (by (first | lia | omega))] at hw
    cases hw
    subst hil
    refine it.walks.done s' _ _ hT fun h' tk' hk => ?_
    exact wpAny_execs_nil (hQ _ _ _ _ (st.toS.trans (stS.churn as (tk := tk') hk)) rfl)
end
end Mine

end
-- SimQ
section
set_option autoImplicit false
set_option maxRecDepth 100000
set_option bootstrap.genMatcherCode false
namespace Mine
open PySem PySem.Calls PyProof.Rows PySem.Spec PySem.SeqAt

section
variable {W : Wd} {A : Around} {env : Env} {sc : Scope} {vars : List Str} {m m' m₁ : NM} {F F' F₁ : Fz} {σ σ' σ₁ σ₂ : Store} {s s' s₀ s₁ : Shared} {wr : List Addr} {k : Nat}

theorem s_enum (hW : WOk W) (hA : AOk A k) (hE : EnvOk env sc) (hF : EnvFresh W env) (nd : vars.Nodup) {x y : Nat} {n1 n2 f : Str} {g : PySem.Expr} {body : List Stmt} {p1 p2 p3 p4 p5 pos : Pos} {c : Nat} {l : List MV} {r : MR} {bodyF : Store → Option (Fl × Store)} {fl : Fl}
    (hf : f = ("enumerate" : Str)) (hfg : isGlob sc f = true) (hst : notStar g = true) (hvx : vars[x]? = some n1) (hx : isVar sc n1 = true) (hvy : vars[y]? = some n2) (hy : isVar sc n2 = true) (hxy : x ≠ y)
    (ha : GE W A env vars (eval g env) σ r σ₁) (hr : r.mv = .lst l) (hb : ∀ σ fl σ', bodyF σ = some (fl, σ') → SX W A env vars (execs body env) σ fl σ') (h : forE x y bodyF 0 l σ₁ = some (fl, σ₂)) :
    SX W A env vars (exec (.For (.Tuple [.Name n1 p1, .Name n2 p2] c p3) (.Call (.Name f p4) [g] [] p5) body [] pos) env) σ fl σ₂ := by
  intro m F s Q E hR hQ
  subst hf
  refine wpAny_For ?_ (folded_plain rfl env)
  refine Call_ (ld_bi (v := .type "enumerate") hW hE hR.toSt hfg (by simp [names9]) ?_)
  refine PyProof.Rows.callWith_type1 ?_ (star_cons hst [] env)
  refine args_cons (ha.v m F s _ _ hR fun v F₁ s₁ st rv => args_nil ?_) (star_cons hst [] env)
  rw [hr] at rv
  obtain ⟨a, vs, n, rfl, eF, rs⟩ := Rep.lst_inv rv
  have el := st.rl.frz _ _ eF
  refine call_enumerate_1 el fun H he hit hsz hk => ?_
  refine wpAny_pyIter_enum he ?_
  generalize hI0 : s₁.heap.objs.size = I0 at he hit hsz
  have fI : s₁.heap.get? I0 = none := by rw [← hI0]; exact get_size _
  have fE : s₁.heap.get? (I0 + 1) = none := by
    cases q : s₁.heap.get? (I0 + 1) with
    | none => rfl
    | some o =>
      have := Heap.lt_size q
      rw [hI0] at this
      exact absurd (Nat.lt_trans (Nat.lt_succ_self I0) this) (Nat.lt_irrefl _)
  have hne : I0 + 1 ≠ I0 := Nat.succ_ne_self I0
  have hfr : ∀ b ∈ [I0 + 1, I0], s₁.heap.get? b = none := by
    intro b hb
    simp only [List.mem_cons, List.not_mem_nil, or_false] at hb
    rcases hb with rfl | rfl
    · exact fE
    · exact fI
  have hereOf : ∀ (h : Heap) (i : Int) (j : Nat) (old : Value), IsEnum h (I0 + 1) I0 i old → h.IsListIter I0 a j → ∀ b ∈ [I0 + 1, I0], h.get? b ≠ none := by
    intro h i j old q1 q2 b hb
    simp only [List.mem_cons, List.not_mem_nil, or_false] at hb
    rcases hb with rfl | rfl
    · rw [q1]; simp
    · obtain ⟨o, e, _⟩ := q2
      rw [e]; simp
  have as₀ : Aside W env vars m F₁ σ₁ s₁ { s₁ with heap := H } [I0 + 1, I0] := {
    fresh := hfr
    here := hereOf _ _ _ _ he hit
    frz := fun b hb => F_none st.rl.toSt (hfr b hb)
    own := fun b hb ho => by
      obtain ⟨_, _, q, _⟩ := st.rl.own_at ho
      rw [hfr b hb] at q; cases q
    loc := fun b hb hl => loc_there hF st.rl hl (hfr b hb) }
  have hlen := rs.length
  refine codeAny_forLoop_any (fun n s' => ∃ i m' F' σ' old, n + i = l.length ∧ StepS W env vars m F₁ σ₁ s₁ m' F' σ' s' ∧ Aside W env vars m' F' σ' s₁ s' [I0 + 1, I0] ∧ IsEnum s'.heap (I0 + 1) I0 (i : Nat) old ∧ s'.heap.IsListIter I0 a i ∧
    forE x y bodyF i (l.drop i) σ' = some (fl, σ₂)) ?_ l.length ⟨0, m, F₁, σ₁, .none, rfl, (Step.ext (tk := s₁.toks) st.rl hk).toS, as₀, he, hit, h⟩
  rintro n' s' ⟨i, m', F', σ', old, hn, stS, as, hT, hL, hw⟩
  have el' : s'.heap.IsList a vs.toArray := ⟨_, stS.rl.frz _ _ (stS.le _ _ eF), rfl, n, rfl⟩
  by_cases hi : i < l.length
  · obtain ⟨d, hd⟩ : ∃ d, l[i]? = some d := ⟨_, List.getElem?_eq_getElem hi⟩
    obtain ⟨u, hu, ru⟩ := rs.get hd
    refine wpAny_pyNext_enum_item hT hL el' (by simpa using hu) hne fun h' e1 e2 e3 e4 hk' => ?_
    refine wpAny_letOwnedTupleGo_enum e1 fun h'' e5 hs'' => ?_
    have hk'' : ∀ b o, b ∉ [I0 + 1, I0] → s'.heap.get? b = some o → h''.get? b = some o := by
      intro b o hb e
      simp only [List.mem_cons, List.not_mem_nil, or_false, not_or] at hb
      exact (hs''.2 b hb.1).trans (hk' b o hb.1 hb.2 e)
    have e2' : h''.IsListIter I0 a (i + 1) := by
      obtain ⟨o, e, r⟩ := e2
      exact ⟨o, (hs''.2 _ (Ne.symm hne)).trans e, r⟩
    have e5' : IsEnum h'' (I0 + 1) I0 ((i + 1 : Nat) : Int) u := e5
    have st₂ := stS.churn as (tk := s'.toks + 1) hk''
    have as₂ : Aside W env vars m' F' σ' s₁ { s' with heap := h'', toks := s'.toks + 1 } [I0 + 1, I0] := { as with here := hereOf _ _ _ _ e5' e2' }
    have hTn : s'.heap.objs.size ≠ I0 + 1 := fun q => as.here (I0 + 1) (List.mem_cons_self ..) (by rw [← q]; exact get_size _)
    have e3' : h''.get? s'.heap.objs.size = some (tupO #[.int i s'.toks, u] 0) := (hs''.2 _ hTn).trans e3
    have ru' : W.Reps F' [.int i s'.toks, u] [.int i, d] := .cons (.int _ _) (.cons (Rep.mono st₂.le ru) .nil)
    have hts : varsAre sc vars [x, y] [.Name n1 p1, .Name n2 p2] = true := by simp [varsAre, hvx, hx, hvy, hy]
    have hnd : [x, y].Nodup := by simp [hxy]
    obtain ⟨ps, q1, q2, q3, q4, q5, q6, q7, q8, q9⟩ := mk_puts (W := W) (F := F') (env := env) (h₀ := h'') (s := { s' with heap := h'', toks := s'.toks + 1 }) [x, y] [.Name n1 p1, .Name n2 p2] hts (rs := [MV.int i, d].map MR.val) rfl (Holds.of_reps ru')
    refine wpAny_assign_Tuple hA.handled (isTuple_of (s := { s' with heap := h'', toks := s'.toks + 1 }) e3') rfl q9 fun H₃ hH₃ => ?_
    have st₃ := step_but st₂.rl hH₃
    rw [show (#[Value.int i s'.toks, u] : Array Value).toList = ps.map Put.v from q3.symm]
    have hdrop : l.drop i = d :: l.drop (i + 1) := by
      obtain ⟨hi', e⟩ := List.getElem?_eq_some_iff.mp hd
      rw [List.drop_eq_getElem_cons hi', e]
    rw [hdrop] at hw
    unfold forE at hw
    split at hw
    · rename_i σ₃ e
      obtain ⟨w1, w2, w3⟩ := puts_inv _ _ hnd e
      refine many hE hF nd q7 (by rw [q1]; exact hnd) q6 st₃ (fun p hp' => ⟨(q5 p hp').1, (q5 p hp').2.1, RepR.through (Step.refl st₂.rl) st₃ rfl (q5 p hp').2.2⟩)
        (fun p hp' => w2 _ (by rw [← q1]; exact List.mem_map.mpr ⟨p, hp', rfl⟩)) fun m₂ s₂ st₄ => ?_
      have hσ : foldSet ps σ' = σ₃ := by
        rw [w3, ← fold_eq, q1, q4, map_slot]
        rfl
      rw [hσ] at st₄
      have keep : ∀ {m F' σ' s' m'' F'' σ'' s''}, Aside W env vars m F' σ' s₁ s' [I0 + 1, I0] → StepS W env vars m F' σ' s' m'' F'' σ'' s'' → ∀ j : Nat, IsEnum s'.heap (I0 + 1) I0 (j : Int) u → s'.heap.IsListIter I0 a j → IsEnum s''.heap (I0 + 1) I0 (j : Int) u ∧ s''.heap.IsListIter I0 a j := by
        intro m F' σ' s' m'' F'' σ'' s'' as st j q1 q2
        have k := fp_keep hF (F₀ := fun _ => none) as (fun b hb => .inl hb) (by intro _ _ e; cases e) st
        obtain ⟨o, e, r⟩ := q2
        exact ⟨k _ (by simp) _ q1, o, k _ (by simp) _ e, r⟩
      obtain ⟨k1, k2⟩ := keep as₂ st₄ _ e5' e2'
      have as₄ := as₂.step st₄
      have st₄' := st₂.trans st₄
      split at hw
      · rename_i σ₅ e'
        refine hb _ _ _ e' _ F' _ _ _ st₄.rl fun f m₅ F₅ s₅ st₅ hf => ?_
        cases (show f = .next from hf)
        obtain ⟨k3, k4⟩ := keep as₄ st₅ _ k1 k2
        exact ⟨n' - 1, by (first | lia | omega), i + 1, m₅, F₅, σ₅, u, by (first | lia | omega), st₄'.trans st₅, as₄.step st₅, k3, k4, hw⟩
      · rename_i hne
        refine hb _ _ _ hw _ F' _ _ _ st₄.rl fun f m₅ F₅ s₅ st₅ hf => ?_
        cases fl with
        | next => exact absurd hw (hne _)
        | ret d =>
          obtain ⟨v, rfl, hv⟩ := id hf
          exact hQ _ _ _ _ (st.toS.trans (st₄'.trans st₅)) hf
    · cases hw
  · have hil : i = l.length := by (first | lia | omega)
    rw [List.drop_eq_nil_of_le (by (first | lia | omega))] at hw
    cases hw
    refine wpAny_pyNext_enum_end hA.handled hT hL el' (by simp; (first | lia | omega)) fun h' hx' => ?_
    exact wpAny_execs_nil (hQ _ _ _ _ (st.toS.trans (stS.churn as (tk := s'.toks) fun b o hb e => hx' b o (by rintro rfl; simp at hb) e)) rfl)
end
end Mine

end
-- SimR
section
set_option autoImplicit false
set_option maxRecDepth 100000
set_option bootstrap.genMatcherCode false
namespace Mine
open PySem PySem.Calls PyProof.Rows PySem.Spec PySem.SeqAt

section
variable {W : Wd} {k : Nat} {P : Fns} {ln : Nat → Bool} (hW : WOk W) (hC : CallOk W ln k P)
include hW hC

theorem simR (es : List IE) {A : Around} {env : Env} {sc : Scope} {vars : List Str} {pos : Pos} {exs : List PySem.Expr} {σ : Store} {rs : List MR} {σ' : Store} (hA : AOk A k) (hE : EnvOk env sc) (ok : okEs W.fns es sc vars exs = true)
    (he : evr P ln es σ = some (rs, σ')) : GR W A env vars (spliced (backTo pos (starEach exs env))) σ rs σ' := by
  match es with
  | [] => apply el0 ok; intro _; rw [evr] at he; cases he; exact r_nil
  | a :: as =>
    apply elC ok; intro x xs ok
    rw [Bool.and_eq_true] at ok
    rw [evr] at he
    split at he <;> try (cases he; done)
    rename_i d σ₁ h1
    split at he <;> try (cases he; done)
    rename_i ds' σ₂ h2
    cases he
    exact r_cons (okE_star ok.1) (sim hW hC a hA hE ok.1 h1).1 (simR as hA hE ok.2 h2)

mutual
theorem simS (st : IS) {A : Around} {env : Env} {sc : Scope} {vars : List Str} {ex' : Stmt} {σ : Store} {fl : Fl} {σ' : Store} (hA : AOk A k) (hE : EnvOk env sc) (hF : EnvFresh W env) (nd : vars.Nodup) (ok : okS W.fns st sc vars ex' = true) (he : ex P ln st σ = some (fl, σ')) :
    SX W A env vars (exec ex' env) σ fl σ' := by
  match st with
  | .assign x e =>
    apply elAssign ok; intro t' v' p ok
    apply elName ok; intro n' p1 ok
    simp only [Bool.and_eq_true, decide_eq_true_eq] at ok
    rw [ex] at he
    split at he <;> try (cases he; done)
    rename_i r σ₁ h1
    split at he <;> try (cases he; done)
    rename_i σ₂ h2
    cases he
    exact s_assign hE hF nd ok.1.1.1 ok.1.1.2 ok.1.2 (sim hW hC e hA hE ok.2 h1).1 h2
  | .assigns xs es =>
    apply elAssign ok; intro t' v' p ok
    apply elTup ok; intro ts' k1 p1 ok
    apply elTup ok; intro vs' k2 p2 ok
    simp only [Bool.and_eq_true, decide_eq_true_eq, Bool.not_eq_true'] at ok
    rw [ex] at he
    split at he <;> try (cases he; done)
    rename_i rs σ₁ h1
    split at he <;> try (cases he; done)
    rename_i σ₂ h2
    cases he
    exact s_assigns hA hE hF nd ok.1.1.1.2 ok.1.1.1.1 ok.1.1.2 ok.2 (simR hW hC es hA hE ok.1.2 h1) h2
  | .unpack xs e =>
    apply elAssign ok; intro t' v' p ok
    apply elTup ok; intro ts' k1 p1 ok
    apply elCallK ok; intro f' as' ks' p2 ok
    simp only [Bool.and_eq_true, decide_eq_true_eq] at ok
    rw [ex] at he
    split at he <;> try (cases he; done)
    rename_i l σ₁ h1
    split at he <;> try (cases he; done)
    rename_i σ₂ h2
    cases he
    exact s_unpack hA hE hF nd ok.1.1 ok.1.2 (sim hW hC e hA hE ok.2 h1).1 h2
  | .setItem x i e =>
    apply elAssign ok; intro t' v' p ok
    apply elSubN ok; intro n' p1 g' p2 ok
    simp only [Bool.and_eq_true, decide_eq_true_eq, Bool.not_eq_true'] at ok
    rw [ex] at he
    split at he <;> try (cases he; done)
    rename_i r σ₁ h1
    split at he <;> try (cases he; done)
    rename_i hlv
    split at he <;> try (cases he; done)
    rename_i j σ₂ h2
    split at he <;> try (cases he; done)
    rename_i sl h3
    split at he <;> try (cases he; done)
    rename_i l h4
    split at he <;> try (cases he; done)
    rename_i h5
    simp only [Bool.and_eq_true, decide_eq_true_eq] at h5
    split at he <;> try (cases he; done)
    rename_i σ₃ h6
    cases he
    exact s_setItem hE ok.1.1.2 ok.1.1.1.1.2 ok.1.1.1.2 (sim hW hC e hA hE ok.2 h1).1 hlv (sim hW hC i hA hE ok.1.2 h2).1 h3 h4 h5.1.1 h5.1.2 h5.2 h6
  | .append x e =>
    apply elExprS ok; intro v' p ok
    apply elAppend ok; intro n' p1 nm p2 g' p3 ok
    simp only [Bool.and_eq_true, decide_eq_true_eq, beq_iff_eq] at ok
    rw [ex] at he
    split at he <;> try (cases he; done)
    rename_i hh
    split at he <;> try (cases he; done)
    rename_i r σ₁ h1
    split at he <;> try (cases he; done)
    rename_i sl h3
    split at he <;> try (cases he; done)
    rename_i l h4
    split at he <;> try (cases he; done)
    rename_i h5
    split at he <;> try (cases he; done)
    rename_i σ₃ h6
    cases he
    exact s_append hE ok.1.1.1.1 (by rw [beq_iff_eq]; exact ok.1.1.1.2) (okE_star ok.2) ok.1.1.2 ok.1.2 hh (sim hW hC e hA hE ok.2 h1).1 h3 h4 h5 h6
  | .aug x o e =>
    apply elAug ok; intro n' p1 op v' p ok
    simp only [Bool.and_eq_true, decide_eq_true_eq] at ok
    rw [ex] at he
    split at he <;> try (cases he; done)
    rename_i i h0
    split at he <;> try (cases he; done)
    rename_i j σ₁ h1
    split at he <;> try (cases he; done)
    rename_i c h2
    split at he <;> try (cases he; done)
    rename_i σ₂ h3
    cases he
    exact s_aug hE hF nd ok.1.1.1 ok.1.1.2 ok.1.2 h0 (sim hW hC e hA hE ok.2 h1).1 h2 h3
  | .ite c a b =>
    apply elIfS ok; intro t' x' y' p ok
    simp only [Bool.and_eq_true, decide_eq_true_eq] at ok
    rw [ex] at he
    split at he <;> try (cases he; done)
    · rename_i σ₁ h1
      exact s_if (t := true) ((sim hW hC c hA hE ok.1.1 h1).2 true rfl) (simSs a hA hE hF nd ok.1.2 he)
    · rename_i σ₁ h1
      exact s_if (t := false) ((sim hW hC c hA hE ok.1.1 h1).2 false rfl) (simSs b hA hE hF nd ok.2 he)
  | .loop c a =>
    apply elWhile ok; intro t' x' p ok
    simp only [Bool.and_eq_true] at ok
    rw [ex] at he
    exact s_while (fun σ b σ' h => (sim hW hC c hA hE ok.1 h).2 b rfl) (fun σ fl σ' h => simSs a hA hE hF nd ok.2 h) he
  | .for1 x t a =>
    apply elFor ok; intro t' i' b' p ok
    apply elName ok; intro n' p1 ok
    simp only [Bool.and_eq_true, decide_eq_true_eq] at ok
    rw [ex] at he
    split at he <;> try (cases he; done)
    rename_i vs σ₁ h1
    split at he <;> try (cases he; done)
    exact s_for hE hF nd ok.1.1.1.1 ok.1.1.1.2 ok.1.1.2 (simT hW hC t hA hE ok.1.2 h1) (fun σ fl σ' h => simSs a hA hE hF nd ok.2 h) he
  | .for2 x y e a =>
    apply elFor ok; intro t' i' b' p ok
    apply elTwo ok; intro n' p1 m' p2 c' p3 ok
    apply elCall ok; intro f' p4 as' p5 ok
    apply el1 ok; intro g' ok
    simp only [Bool.and_eq_true, decide_eq_true_eq, beq_iff_eq] at ok
    rw [ex] at he
    split at he <;> try (cases he; done)
    rename_i r σ₁ h1
    split at he <;> try (cases he; done)
    rename_i l hl
    split at he <;> try (cases he; done)
    have o9 := ok.2; have o8 := ok.1.2; have o7 := ok.1.1.2; have o6 := ok.1.1.1.2; have o5 := ok.1.1.1.1.2; have o4 := ok.1.1.1.1.1.2; have o3 := ok.1.1.1.1.1.1.2
    exact s_enum hW hA hE hF nd ok.1.1.1.1.1.1.1.1 ok.1.1.1.1.1.1.1.2 (okE_star o8) o3 o4 o5 o6 o7 (sim hW hC e hA hE o8 h1).1 hl (fun σ fl σ' h => simSs a hA hE hF nd o9 h) he
  | .ret e =>
    apply elRet ok; intro v' p ok
    rw [ex] at he
    split at he <;> try (cases he; done)
    rename_i r σ₁ h1
    cases he
    exact s_ret (sim hW hC e hA hE ok h1).1
  | .expr e =>
    apply elExprS ok; intro v' p ok
    simp only [Bool.and_eq_true] at ok
    rw [ex] at he
    split at he <;> try (cases he; done)
    rename_i σ₁ h1
    cases he
    exact s_expr hE ok.1 (sim hW hC e hA hE ok.2 h1).1
  | .fail => rw [ex] at he; cases he
theorem simSs (l : List IS) {A : Around} {env : Env} {sc : Scope} {vars : List Str} {sts : List Stmt} {σ : Store} {fl : Fl} {σ' : Store} (hA : AOk A k) (hE : EnvOk env sc) (hF : EnvFresh W env) (nd : vars.Nodup) (ok : okSs W.fns l sc vars sts = true) (he : exs P ln l σ = some (fl, σ')) :
    SX W A env vars (execs sts env) σ fl σ' := by
  match l with
  | [] => apply el0 ok; intro _; rw [exs] at he; cases he; exact s_nil
  | a :: r =>
    apply elC ok; intro s t ok
    rw [Bool.and_eq_true] at ok
    rw [exs] at he
    split at he
    · rename_i σ₁ h1
      exact s_cons (simS a hA hE hF nd ok.1 h1) (simSs r hA hE hF nd ok.2 he)
    · rename_i hne
      cases fl with
      | next => exact absurd he (hne _)
      | ret d => exact s_cons_ret (simS a hA hE hF nd ok.1 he)
end
end
end Mine

end
-- SimS
section
set_option autoImplicit false
set_option maxRecDepth 100000
set_option bootstrap.genMatcherCode false
namespace Mine
open PySem PySem.Calls PyProof.Rows PySem.Spec PySem.SeqAt

theorem lookup_zip : ∀ {ns : List Str} {vs : List Value}, ns.Nodup → vs.length = ns.length → ∀ {i : Nat} {n : Str} {v : Value}, ns[i]? = some n → vs[i]? = some v → (ns.zip vs).lookup n = some v
  | [], _, _, _, i, n, v, h, _ => by simp at h
  | a :: ns, [], _, h, _, _, _, _, _ => by simp at h
  | a :: ns, u :: vs, nd, hl, i, n, v, h1, h2 => by
    obtain ⟨q1, q2⟩ := List.nodup_cons.mp nd
    simp only [List.zip_cons_cons, List.lookup_cons]
    cases i with
    | zero =>
      simp at h1 h2; subst h1; subst h2; simp
    | succ i =>
      simp only [List.getElem?_cons_succ] at h1 h2
      have hne : (n == a) = false := by
        rw [beq_eq_false_iff_ne]; rintro rfl
        exact q1 (List.mem_of_getElem? h1)
      rw [hne]
      exact lookup_zip q2 (by simpa using hl) h1 h2

theorem lookup_none {ns : List Str} {vs : List Value} {n : Str} (h : n ∉ ns) : (ns.zip vs).lookup n = none := by
  induction ns generalizing vs with
  | nil => rfl
  | cons a ns ih =>
    cases vs with
    | nil => rfl
    | cons v vs =>
      simp only [List.mem_cons, not_or] at h
      rw [List.zip_cons_cons, List.lookup_cons, beq_eq_false_iff_ne.mpr h.1]
      exact ih h.2

theorem filterMap_zip : ∀ (ns : List Str) (vs : List Value) (g : Str → Option Value), vs.length = ns.length → (∀ (i : Nat) (n : Str) (v : Value), ns[i]? = some n → vs[i]? = some v → g n = some v) →
    ns.filterMap (fun n => (g n).map (n, ·)) = ns.zip vs
  | [], [], _, _, _ => rfl
  | [], _ :: _, _, h, _ => by simp at h
  | _ :: _, [], _, h, _ => by simp at h
  | n :: ns, v :: vs, g, hl, h => by
    have h0 := h 0 n v rfl rfl
    rw [List.filterMap_cons_some (b := (n, v)) (by rw [h0]; rfl), List.zip_cons_cons, filterMap_zip ns vs g (by simpa using hl) fun i m u h1 h2 => h (i + 1) m u h1 h2]

theorem bind_pos {fd : FuncData} {as : List Arg} {vals : List Value} (hp : fd.params = ⟨[], as, none, [], [], none, []⟩) (hd : fd.defaults = .none) (hnd : (as.map (·.arg)).Nodup) (hlen : vals.length = as.length) :
    bindArgs fd ⟨vals, []⟩ = pure ((as.map (·.arg)).zip vals) := by
  have hlen' : vals.length = (as.map (·.arg)).length := by simpa using hlen
  have hmiss : (as.map (·.arg)).filter (fun n => (((as.map (·.arg)).zip vals).lookup n).isNone) = [] := by
    rw [List.filter_eq_nil_iff]
    intro n hn
    obtain ⟨i, hi, e⟩ := List.getElem_of_mem hn
    have : (vals[i]? : Option Value) = some (vals[i]'(by (first | lia | omega))) := List.getElem?_eq_getElem _
    rw [lookup_zip hnd hlen' (by rw [List.getElem?_eq_getElem hi, e]) this]
    simp
  have hf := filterMap_zip (as.map (·.arg)) vals (fun n => ((as.map (·.arg)).zip vals).lookup n) hlen' fun i n v h1 h2 => lookup_zip hnd hlen' h1 h2
  unfold bindArgs
  rw [hp, hd]
  simp only [List.map_nil, List.nil_append, List.forIn_nil]
  have e1 : seqItems? Value.none = pure Option.none := rfl
  rw [e1]
  have pb : ∀ {α β : Type} (a : α) (f : α → Sem β), (pure a >>= f) = f a := fun _ _ => rfl
  have e2 : ¬ ((decide (vals.length > (as.map (·.arg)).length) && Option.isNone (Option.none : Option Arg)) = true) := by simp [hlen]
  simp only [pb, Option.getD_none, List.length_nil, Nat.zero_sub, List.drop_nil, Nat.sub_zero, List.take_length, hmiss, List.isEmpty_nil, Bool.not_true, Bool.false_eq_true, if_false, List.drop_length, List.zip_nil_left, List.forIn_nil, List.append_nil, hf]
  rw [if_neg e2]

theorem cells_sound : ∀ (names : List (Str × NameKind)) (n : Nat) (acc : List (Str × Addr)) {x : Str} {c : Addr}, (cellsFrom n names acc).lookup x = some c → (x, NameKind.cell) ∈ names ∨ acc.lookup x = some c
  | [], _, _, _, _, h => .inr h
  | (y, kd) :: r, n, acc, x, c, h => by
    unfold cellsFrom at h
    split at h
    · rename_i hk
      rcases cells_sound r _ _ h with q | q
      · exact .inl (List.mem_cons_of_mem _ q)
      · rw [List.lookup_cons] at q
        split at q
        · rename_i hb
          rw [beq_iff_eq] at hb hk
          subst hb; subst hk
          exact .inl (List.mem_cons_self ..)
        · exact .inr q
    · rcases cells_sound r _ _ h with q | q
      · exact .inl (List.mem_cons_of_mem _ q)
      · exact .inr q

theorem cells_acc : ∀ (names : List (Str × NameKind)) (n : Nat) (acc : List (Str × Addr)) {x : Str}, (acc.lookup x).isSome = true → ((cellsFrom n names acc).lookup x).isSome = true
  | [], _, _, _, h => h
  | (y, kd) :: r, n, acc, x, h => by
    unfold cellsFrom
    split
    · refine cells_acc r _ _ ?_
      rw [List.lookup_cons]
      split
      · rfl
      · exact h
    · exact cells_acc r _ _ h

theorem cells_full : ∀ (names : List (Str × NameKind)) (n : Nat) (acc : List (Str × Addr)) {x : Str}, (x, NameKind.cell) ∈ names → ((cellsFrom n names acc).lookup x).isSome = true
  | (y, kd) :: r, n, acc, x, h => by
    unfold cellsFrom
    rcases List.mem_cons.mp h with e | h
    · cases e
      rw [if_pos (by rfl)]
      exact cells_acc r _ _ (by rw [List.lookup_cons]; simp)
    · split
      · exact cells_full r _ _ h
      · exact cells_full r _ _ h

theorem lookup_mem_nodup : ∀ {names : List (Str × NameKind)} {x : Str} {kd : NameKind}, (names.map (·.1)).Nodup → (x, kd) ∈ names → names.lookup x = some kd
  | (y, k') :: r, x, kd, nd, h => by
    rw [List.map_cons] at nd
    obtain ⟨q1, q2⟩ := List.nodup_cons.mp nd
    rw [List.lookup_cons]
    rcases List.mem_cons.mp h with e | h'
    · cases e; simp
    · have hne : (x == y) = false := by
        rw [beq_eq_false_iff_ne]; rintro rfl
        exact q1 (List.mem_map.mpr ⟨_, h', rfl⟩)
      rw [hne]
      exact lookup_mem_nodup q2 h'

theorem mem_of_look : ∀ {names : List (Str × NameKind)} {x : Str} {kd : NameKind}, names.lookup x = some kd → (x, kd) ∈ names
  | (y, k') :: r, x, kd, h => by
    rw [List.lookup_cons] at h
    split at h
    · rename_i hb; rw [beq_iff_eq] at hb; cases h; subst hb; exact List.mem_cons_self ..
    · exact List.mem_cons_of_mem _ (mem_of_look h)

theorem bindL_eq (kd : Str → Option NameKind) {x : Str} (hx : kd x = some .local) : ∀ (ns : List Str) (vs : List Value) (m : NM), ns.Nodup → bindL kd (ns.zip vs) m x = ((ns.zip vs).lookup x).or (m x)
  | [], _, m, _ => by simp [bindL]
  | _ :: _, [], m, _ => by simp [bindL]
  | n :: ns, v :: vs, m, nd => by
    obtain ⟨q1, q2⟩ := List.nodup_cons.mp nd
    rw [List.zip_cons_cons, bindL, bindL_eq kd hx ns vs _ q2, List.lookup_cons]
    by_cases hxn : x = n
    · subst hxn
      rw [lookup_none q1]
      simp [hx]
    · rw [beq_eq_false_iff_ne.mpr hxn]
      split <;> simp [hxn]

theorem bindC_eq (kd : Str → Option NameKind) {x : Str} (hx : kd x = some .cell) : ∀ (ns : List Str) (vs : List Value) (m : NM), ns.Nodup → bindC kd (ns.zip vs) m x = ((ns.zip vs).lookup x).or (m x)
  | [], _, m, _ => by simp [bindC]
  | _ :: _, [], m, _ => by simp [bindC]
  | n :: ns, v :: vs, m, nd => by
    obtain ⟨q1, q2⟩ := List.nodup_cons.mp nd
    rw [List.zip_cons_cons, bindC, bindC_eq kd hx ns vs _ q2, List.lookup_cons]
    by_cases hxn : x = n
    · subst hxn
      rw [lookup_none q1]
      simp [hx]
    · rw [beq_eq_false_iff_ne.mpr hxn]
      split <;> simp [hxn]

structure TabOk (W : Wd) (tab : List IFun) : Prop where
  get : ∀ (f : Nat) (x : Str) (fd : IFun), W.fns[f]? = some x → tab[f]? = some fd → ∃ vars params body sc a o pm code doc, okF W.fns fd vars params body sc = true ∧ W.mg x = some (.ref a) ∧ W.base.get? a = some o ∧
    o.data = .func (docDef x params body sc pm code doc) ∧ W.base.CodeRec code x

theorem AOk.deeper {A : Around} {k : Nat} (h : AOk A (k + 1)) (env : Env) : AOk (A.deeper env) k where
  handled := h.handled
  depth := by have := h.depth; show A.depth + 1 + k < _; (first | lia | omega)
  units := by have := h.units; show A.units + 3 + 8 * k + 200 < _; (first | lia | omega)

/-- the frame's first store stands for the arguments -/
structure Start (W : Wd) (F : Fz) (h : Heap) (vars : List Str) (m : NM) (σ : Store) : Prop where
  len : σ.length = vars.length
  slots : ∀ (i : Nat) (x : Str) (sl : Slot), vars[i]? = some x → σ[i]? = some sl → SlotOk W F h (m x) sl
  apart : ∀ (i j : Nat) (x y : Str) (sl tl : Slot) (a : Addr), vars[i]? = some x → vars[j]? = some y → σ[i]? = some sl → σ[j]? = some tl → sl.mut = true → tl.mut = true →
    m x = some (.ref a) → m y = some (.ref a) → i = j

theorem enter {W : Wd} {tab : List IFun} {k : Nat} (hW : WOk W) (hC : CallOk W (lnOf tab) k (Phi tab k)) {fd : IFun} {vars : List Str} {params : Arguments} {body : List Stmt} {sc : Scope} {a : Addr} {o : Obj} {x : Str} {pm code doc : Value}
    (ok : okF W.fns fd vars params body sc = true) (ha : W.base.get? a = some o) (hd : o.data = .func (docDef x params body sc pm code doc)) (hcd : W.base.CodeRec code x)
    {A : Around} {F : Fz} {s : Shared} {vs : List Value} {σ σ₁ : Store} {fl : Fl} {Q E : Value → Shared → Prop} (hA : AOk A (k + 1)) (hs : St W F s) (hl : vs.length = fd.np)
    (start : ∀ m, (∀ i n, i < fd.np → vars[i]? = some n → m n = vs[i]?) → Start W F s.heap vars m σ) (hx : exs (Phi tab k) (lnOf tab) fd.body σ = some (fl, σ₁))
    (fin : ∀ env m s₀ f m' F' s', EnvFresh W env → (∀ b, Loc env b → s.heap.get? b = none) → (∀ b o, s.heap.get? b = some o → s₀.heap.get? b = some o) → (∀ i n, i < fd.np → vars[i]? = some n → m n = vs[i]?) →
      StepS W env vars m F σ s₀ m' F' σ₁ s' → FlOk W F' fl f → s' = { s with heap := s'.heap, toks := s'.toks } → Q (match f with | .ret v => v | _ => .none) s') :
    wpAny W.M A (call (.ref a) vs) Q E s := by
  simp only [okF, Bool.and_eq_true, decide_eq_true_eq, List.isEmpty_iff, Option.isNone_iff_eq_none, Bool.not_eq_true'] at ok
  obtain ⟨⟨⟨⟨⟨⟨⟨⟨⟨⟨⟨⟨⟨⟨⟨⟨⟨p1, p2⟩, p3⟩, p4⟩, p5⟩, p6⟩, p7⟩, p8⟩, p9⟩, p10⟩, p11⟩, p12⟩, p13⟩, p14⟩, p15⟩, p16⟩, p17⟩, p18⟩ := ok
  obtain ⟨po, as, va, ko, kd, kw, de⟩ := params
  simp only at p1 p2 p3 p4 p5 p6 p7
  subst p1; subst p2; subst p3; subst p4; subst p5; subst p6
  have hnames : (as.map (·.arg)).Nodup := by rw [p7]; exact List.Nodup.sublist (List.take_sublist _ _) p10
  have hlas : vs.length = as.length := by
    have := congrArg List.length p7
    simp only [List.length_map, List.length_take] at this
    (first | lia | omega)
  have hfd := docDef x ⟨[], as, none, [], [], none, []⟩ body sc pm code doc
  refine wpAny_call (codeAny_call_cells (fd := docDef x ⟨[], as, none, [], [], none, []⟩ body sc pm code doc) (body := body) (binds := (as.map (·.arg)).zip vs) (by have := hA.depth; (first | lia | omega)) (hs.base _ _ ha) hd (hW.nolimit.keeps hs.base)
    (hcd.keeps hs.base) rfl (bind_pos rfl rfl hnames hlas) rfl ?_ (fun s₁ hin => ?_) p13 p14 p12)
  · intro y hy
    have hyn : y.1 ∈ vars := by
      have := (List.of_mem_zip hy).1
      rw [p7] at this
      exact List.mem_of_mem_take this
    have := List.all_eq_true.mp p15 _ hyn
    obtain ⟨q, _⟩ := isVar_iff this
    rcases q with q | q
    · exact .inl q
    · exact .inr ⟨q, cells_full _ _ _ (mem_of_look q)⟩
  · generalize hL : s.heap.objs.size = L at hin ⊢
    generalize hen : callEnvC (docDef x ⟨[], as, none, [], [], none, []⟩ body sc pm code doc) L a = env at hin ⊢
    have hE : EnvOk env sc := by subst hen; exact ⟨rfl, p12, rfl, rfl⟩
    have hLoc : ∀ b, Loc env b → s.heap.get? b = none := by
      rintro b (rfl | ⟨n, hn⟩)
      · subst hen; subst hL; exact get_size _
      · have h1 := hin.above n b (mem_of_lookup hn)
        cases q : s.heap.get? b with
        | none => rfl
        | some o =>
          have h2 := Heap.lt_size q
          have h3 : env.locals = L := by subst hen; rfl
          rw [h3, ← hL] at h1
          exact absurd (Nat.lt_trans h1 h2) (Nat.lt_irrefl _)
    have hcellsEq : env.cells = cellsFrom (L + 1) sc.names [] := by subst hen; rfl
    have hF : EnvFresh W env := {
      base := fun b hb => by
        cases q : W.base.get? b with
        | none => rfl
        | some o => have := hs.base b o q; rw [hLoc b hb] at this; cases this
      apart := fun y z c h1 h2 => name_of_addr hin.apart (mem_of_lookup h1) (mem_of_lookup h2)
      kind := fun y c h => by
        rw [hE.kindOf]
        rw [hcellsEq] at h
        rcases cells_sound _ _ _ h with q | q
        · exact lookup_mem_nodup p16 q
        · cases q }
    let m : NM := fun y => ((as.map (·.arg)).zip vs).lookup y
    have hm : ∀ i n, i < fd.np → vars[i]? = some n → m n = vs[i]? := by
      intro i n hi hn
      have h1 : (as.map (·.arg))[i]? = some n := by rw [p7, List.getElem?_take_of_lt hi]; exact hn
      have hv : (vs[i]? : Option Value) = some (vs[i]'(by (first | lia | omega))) := List.getElem?_eq_getElem _
      show ((as.map (·.arg)).zip vs).lookup n = _
      rw [hv]
      exact lookup_zip hnames (by simpa using hlas) h1 hv
    have S := start m hm
    obtain ⟨hh, tt, hsame⟩ := hin.toInCall.same
    have rl : Rl W env vars m F σ s₁ := {
      sh := by
        have h1 := hs.sh
        rw [hsame]
        show _ = _
        rw [h1]
      base := fun b o e => hin.toInCall.keep b o (hs.base b o e)
      frz := fun b o e => hin.toInCall.keep b o (hs.frz b o e)
      seq := hs.seq
      ns := ⟨_, hin.toInCall.ns, fun y hy => by rw [bindL_eq _ hy _ _ _ hnames]; simp [m]⟩
      cell := fun y hy => by
        have hy' := hy
        rw [hE.kindOf] at hy'
        have := cells_full sc.names (L + 1) [] (mem_of_look hy')
        rw [← hcellsEq] at this
        obtain ⟨c, hc⟩ := Option.isSome_iff_exists.mp this
        refine ⟨c, hc, ?_⟩
        have q := hin.cell y c hc
        rw [bindC_eq _ hy _ _ _ hnames] at q
        simpa [m] using q
      len := S.len
      slots := fun i y sl hy hsl => by
        have q := S.slots i y sl hy hsl
        have own : ∀ l, OwnAt F W s.heap (m y) l → OwnAt F W s₁.heap (m y) l := by
          rintro l ⟨a, vs, n, e1, e2, e3⟩
          exact ⟨a, vs, n, e1, hin.toInCall.keep _ _ e2, e3⟩
        cases sl with
        | unset => trivial
        | val d => exact q
        | own l => exact own l q
        | lent l => exact own l q
      apart := S.apart }
    refine simSs hW hC fd.body (hA.deeper _) hE hF p10 p18 hx m F s₁ _ _ rl fun f m' F' s' st hf => ?_
    have := fin env m s₁ f m' F' s' hF hLoc hin.toInCall.keep hm st hf ?_
    · exact this
    · have h1 := st.rl.sh
      rw [hs.sh]
      exact h1
end Mine

end
-- SimU
section
set_option autoImplicit false
set_option maxRecDepth 100000
set_option bootstrap.genMatcherCode false
namespace Mine
open PySem PySem.Calls PyProof.Rows PySem.Spec PySem.SeqAt

theorem okF_parts {fns : List Str} {fd : IFun} {vars : List Str} {params : Arguments} {body : List Stmt} {sc : Scope} (ok : okF fns fd vars params body sc = true) : fd.nv = vars.length ∧ fd.np ≤ fd.nv ∧ (fd.lends = true → 0 < fd.np) := by
  simp only [okF, Bool.and_eq_true, decide_eq_true_eq] at ok
  obtain ⟨⟨⟨⟨⟨⟨⟨⟨⟨⟨⟨⟨⟨⟨⟨⟨⟨p1, p2⟩, p3⟩, p4⟩, p5⟩, p6⟩, p7⟩, p8⟩, p9⟩, p10⟩, p11⟩, p12⟩, p13⟩, p14⟩, p15⟩, p16⟩, p17⟩, p18⟩ := ok
  exact ⟨p8, p9, p11⟩

section
variable {W : Wd} {tab : List IFun} {k : Nat}

theorem vals_at {ds : List MV} {n : Nat} {i : Nat} {sl : Slot} (h : (ds.map Slot.val ++ List.replicate n Slot.unset)[i]? = some sl) : (∃ d, ds[i]? = some d ∧ sl = .val d) ∨ sl = .unset := by
  rw [List.getElem?_append] at h
  split at h
  · rw [List.getElem?_map] at h
    cases q : ds[i]? with
    | none => rw [q] at h; cases h
    | some d => rw [q] at h; cases h; exact .inl ⟨d, rfl, rfl⟩
  · rw [List.getElem?_replicate] at h
    split at h
    · cases h; exact .inr rfl
    · cases h

theorem store0_plain {fd : IFun} {ds : List MV} {σ : Store} (h : store0 fd ds = some σ) (hl : fd.lends = false) : ds.length = fd.np ∧ σ = ds.map Slot.val ++ List.replicate (fd.nv - fd.np) Slot.unset := by
  unfold store0 at h
  split at h
  · rename_i hc
    rw [hl] at h
    cases h
    exact ⟨hc.1, rfl⟩
  · cases h
theorem store0_lend {fd : IFun} {l ds : List MV} {σ : Store} (h : store0 fd (.lst l :: ds) = some σ) (hl : fd.lends = true) : ds.length + 1 = fd.np ∧ σ = .lent l :: (ds.map Slot.val ++ List.replicate (fd.nv - fd.np) Slot.unset) := by
  unfold store0 at h
  split at h
  · rename_i hc
    rw [hl] at h
    cases h
    exact ⟨hc.1, rfl⟩
  · cases h

theorem runF_inv {P : Fns} {ln : Nat → Bool} {fd : IFun} {ds : List MV} {r : MV} {out : List MV} (h : runF P ln fd ds = some (r, out)) : ∃ σ fl σ₁, store0 fd ds = some σ ∧ exs P ln fd.body σ = some (fl, σ₁) ∧ out0 fd σ₁ = some out ∧ (fl = .ret r ∨ (fl = .next ∧ r = .none)) := by
  unfold runF at h
  split at h
  · rename_i σ e
    split at h
    · rename_i d σ₁ e'
      cases q : out0 fd σ₁ with
      | none => rw [q] at h; cases h
      | some l => rw [q] at h; cases h; exact ⟨σ, _, σ₁, e, e', q, .inl rfl⟩
    · rename_i σ₁ e'
      cases q : out0 fd σ₁ with
      | none => rw [q] at h; cases h
      | some l => rw [q] at h; cases h; exact ⟨σ, _, σ₁, e, e', q, .inr ⟨rfl, rfl⟩⟩
    · cases h
  · cases h

theorem FlOk.value {F : Fz} {fl : Fl} {f : Flow} {r : MV} : FlOk W F fl f → (fl = .ret r ∨ (fl = .next ∧ r = .none)) → W.Rep F (match f with | .ret v => v | _ => .none) r := by
  intro h e
  rcases e with rfl | ⟨rfl, rfl⟩
  · obtain ⟨v, rfl, q⟩ := h; exact q
  · cases (show f = .next from h); exact .none

theorem call_step (hW : WOk W) (hT : TabOk W tab) (hC : CallOk W (lnOf tab) k (Phi tab k)) : CallOk W (lnOf tab) (k + 1) (Phi tab (k + 1)) where
  plain := by
    intro f x a ds r out hP hln hfx hmg A F s vs Q E hA hs hr hQ
    unfold Phi at hP
    split at hP <;> try (cases hP; done)
    rename_i fd hfd
    have hlend : fd.lends = false := by simpa [lnOf, hfd] using hln
    obtain ⟨vars, params, body, sc, a', o, pm, code, doc, ok, h1, h2, h3, h4⟩ := hT.get f x fd hfx hfd
    rw [hmg] at h1; cases h1
    obtain ⟨σ, fl, σ₁, e1, e2, e3, e4⟩ := runF_inv hP
    obtain ⟨hnv, hnp, _⟩ := okF_parts ok
    obtain ⟨hlen, rfl⟩ := store0_plain e1 hlend
    have nomut : ∀ (i : Nat) (sl : Slot), (ds.map Slot.val ++ List.replicate (fd.nv - fd.np) Slot.unset)[i]? = some sl → sl.mut = false := by
      intro i sl h
      rcases vals_at h with ⟨d, _, rfl⟩ | rfl <;> rfl
    refine enter hW hC ok h2 h3 h4 hA hs (by rw [hr.length]; exact hlen) (fun m hm => ?_) e2 ?_
    · refine ⟨by simp; (first | lia | omega), fun i y sl hy hsl => ?_, fun i j y z sl tl b hy hz hi hj q => ?_⟩
      · rcases vals_at hsl with ⟨d, hd, rfl⟩ | rfl
        · have hi : i < fd.np := by rw [← hlen]; exact (List.getElem?_eq_some_iff.mp hd).1
          obtain ⟨u, hu, ru⟩ := hr.get hd
          exact ⟨u, (hm i y hi hy).trans hu, ru⟩
        · trivial
      · rw [nomut i sl hi] at q; cases q
    · intro env m s₀ f' m' F' s' hF hloc hk hm st hf hsame
      have noOwn := no_own (vars := vars) (m := m) nomut
      rw [hsame]
      refine hQ _ F' s'.heap s'.toks (fun b o e => st.frame b o (hk b o e) (fun hl => by rw [hloc b hl] at e; cases e) (noOwn b)) ⟨st.le, fun c o e => ?_, st.rl.frz, st.rl.seq⟩ (hf.value e4)
      rcases st.grow c o e with q | q | q
      · exact .inl q
      · refine .inr ?_
        cases q' : s.heap.get? c with
        | none => rfl
        | some o' => rw [hk c o' q'] at q; cases q
      · exact absurd q (noOwn c)
  lend := by
    intro f x a l ds r out hP hln hfx hmg A F s b ws n vs Q E hA hs hb hFb hbase hwl hr hQ
    unfold Phi at hP
    split at hP <;> try (cases hP; done)
    rename_i fd hfd
    have hlend : fd.lends = true := by simpa [lnOf, hfd] using hln
    obtain ⟨vars, params, body, sc, a', o, pm, code, doc, ok, h1, h2, h3, h4⟩ := hT.get f x fd hfx hfd
    rw [hmg] at h1; cases h1
    obtain ⟨σ, fl, σ₁, e1, e2, e3, e4⟩ := runF_inv hP
    obtain ⟨hnv, hnp, hnp0⟩ := okF_parts ok
    obtain ⟨hlen, rfl⟩ := store0_lend e1 hlend
    have hnp0 := hnp0 hlend
    have onlyZero : ∀ (i : Nat) (sl : Slot), (Slot.lent l :: (ds.map Slot.val ++ List.replicate (fd.nv - fd.np) Slot.unset))[i]? = some sl → sl.mut = true → i = 0 := by
      intro i sl h q
      cases i with
      | zero => rfl
      | succ i =>
        rw [List.getElem?_cons_succ] at h
        rcases vals_at h with ⟨d, _, rfl⟩ | rfl <;> cases q
    obtain ⟨n0, hn0⟩ : ∃ n0, vars[0]? = some n0 := ⟨_, List.getElem?_eq_getElem (by (first | lia | omega))⟩
    refine enter hW hC ok h2 h3 h4 hA hs (by rw [List.length_cons, hr.length]; exact hlen) (fun m hm => ?_) e2 ?_
    · refine ⟨by simp; (first | lia | omega), fun i y sl hy hsl => ?_, fun i j y z sl tl b hy hz hi hj q q' _ _ => ?_⟩
      · cases i with
        | zero =>
          cases hsl
          exact ⟨b, ws, n, hm 0 y hnp0 hy, hb, hwl, hFb, hbase⟩
        | succ i =>
          rw [List.getElem?_cons_succ] at hsl
          rcases vals_at hsl with ⟨d, hd, rfl⟩ | rfl
          · have hi : i < ds.length := (List.getElem?_eq_some_iff.mp hd).1
            obtain ⟨u, hu, ru⟩ := hr.get hd
            exact ⟨u, (hm (i + 1) y (by (first | lia | omega)) hy).trans hu, ru⟩
          · trivial
      · rw [onlyZero i sl hi q, onlyZero j tl hj q']
    · intro env m s₀ f' m' F' s' hF hloc hk hm st hf hsame
      have hm0 : m n0 = some (.ref b) := hm 0 n0 hnp0 hn0
      have own : ∀ c, Own vars m (Slot.lent l :: (ds.map Slot.val ++ List.replicate (fd.nv - fd.np) Slot.unset)) c → c = b := by
        rintro c ⟨i, y, sl, hy, hsl, hmut, hc⟩
        have := onlyZero i sl hsl hmut
        subst this
        rw [hn0] at hy; cases hy
        rw [hm0] at hc; cases hc; rfl
      have hout : σ₁[0]? = some (.lent out) := by
        unfold out0 at e3
        rw [if_pos hlend] at e3
        split at e3
        · rename_i l' q; cases e3; exact q
        · cases e3
      obtain ⟨_, _, hm'⟩ := st.lents 0 n0 out hn0 hout
      obtain ⟨b', ws', n', q1, q2, q3, q4, q5⟩ := st.rl.slots 0 n0 _ hn0 hout
      rw [hm', hm0] at q1; cases q1
      rw [hsame]
      refine hQ _ F' s'.heap s'.toks ws' n' (fun c o hc e => st.frame c o (hk c o e) (fun hl => by rw [hloc c hl] at e; cases e) fun ho => hc (own c ho)) q2 ⟨st.le, fun c o e => ?_, st.rl.frz, st.rl.seq⟩ q4 q3 (hf.value e4)
      rcases st.grow c o e with q | q | q
      · exact .inl q
      · refine .inr ?_
        cases q' : s.heap.get? c with
        | none => rfl
        | some o' => rw [hk c o' q'] at q; cases q
      · rw [own c q, q4] at e; cases e

theorem call_all (hW : WOk W) (hT : TabOk W tab) : ∀ k, CallOk W (lnOf tab) k (Phi tab k)
  | 0 => ⟨fun f x a ds r out h => (by cases h), fun f x a l ds r out h => (by cases h)⟩
  | k + 1 => call_step hW hT (call_all hW hT k)
end
end Mine

end
-- SimV
section
set_option autoImplicit false
set_option maxRecDepth 100000
set_option bootstrap.genMatcherCode false
namespace Mine
open PySem PySem.Calls PyProof.Rows PySem.Spec PySem.SeqAt

noncomputable def rowOk (p : DefRec × Str × IFun × List Str) : Bool := decide (p.1.name = p.2.1) && okF fnames p.2.2.1 p.2.2.2 p.1.params p.1.body p.1.scope

/-- the names that the builtins bear are no names of the program's -/
noncomputable def freeOk (p : Program) (loose : List Str) : Prop := ∀ y ∈ names9, y.1 ∉ startupNames ∧ y.1 ∉ loose ∧ y.1 ∉ (recsOf p).map (·.name) ∧ y.1 ∉ (litsOf p).map (·.1) ∧ y.1 ∉ (clssOf p loose).map (·.name)

theorem len_fnames : fnames.length = 34 := by decide +kernel
theorem len_tab : tab.length = 34 := by decide +kernel
theorem len_vnames : vnames.length = 34 := by decide +kernel
theorem law_name : fnames[33]? = some ("law" : Str) := by decide +kernel
theorem law_plain : lnOf tab 33 = false := by decide +kernel
theorem boot_names : ∀ y ∈ names9, y.1 ≠ "__name__" ∧ bootBuiltins y.1 = some y.2 := by
  intro y hy
  simp only [names9, List.mem_cons, List.not_mem_nil, or_false] at hy
  rcases hy with rfl | rfl | rfl | rfl | rfl | rfl | rfl <;> exact ⟨by decide, by rfl⟩

section
variable {p prog : Program} {loose : List Str} {mean : ExcName → Option Value} {mg mb : Str → Option Value} {s₁ : Shared} {w : World}

noncomputable def wd (prog : Program) (w : World) (s₁ : Shared) (mg mb : NM) : Wd := { prog := prog, w := w, base := s₁.heap, s0 := s₁, mg := mg, mb := mb, fns := fnames }

theorem tab_ok (T : Top p loose mean mg mb s₁.heap) (h1 : (recsOf p).length = 34) (h2 : ((recsOf p).zip (fnames.zip (tab.zip vnames))).all rowOk = true) : TabOk (wd prog w s₁ mg mb) tab where
  get := by
    intro f x fd hf ht
    have hlt : f < 34 := by rw [← len_tab]; exact (List.getElem?_eq_some_iff.mp ht).1
    obtain ⟨d, hd⟩ : ∃ d, (recsOf p)[f]? = some d := ⟨_, List.getElem?_eq_getElem (by (first | lia | omega))⟩
    obtain ⟨vars, hv⟩ : ∃ v, vnames[f]? = some v := ⟨_, List.getElem?_eq_getElem (by rw [len_vnames]; (first | lia | omega))⟩
    have hmem : (d, x, fd, vars) ∈ (recsOf p).zip (fnames.zip (tab.zip vnames)) := by
      refine List.mem_of_getElem? (i := f) ?_
      rw [List.getElem?_zip_eq_some]
      refine ⟨hd, ?_⟩
      rw [List.getElem?_zip_eq_some]
      refine ⟨hf, ?_⟩
      rw [List.getElem?_zip_eq_some]
      exact ⟨ht, hv⟩
    have hok := List.all_eq_true.mp h2 _ hmem
    simp only [rowOk, Bool.and_eq_true, decide_eq_true_eq] at hok
    obtain ⟨e, hok⟩ := hok
    obtain ⟨a, o, pm, code, doc, q1, q2, q3, q4⟩ := T.fn d (List.mem_of_getElem? hd)
    rw [e] at q1 q3 q4
    exact ⟨vars, d.params, d.body, d.scope, a, o, pm, code, doc, hok, q1, q2, q3, q4⟩

theorem w_ok (T : Top p loose mean mg mb s₁.heap) (h1 : (recsOf p).length = 34) (h2 : ((recsOf p).zip (fnames.zip (tab.zip vnames))).all rowOk = true) (h3 : freeOk p loose) : WOk (wd prog w s₁ mg mb) where
  g := T.g
  b := T.b
  nolimit := T.nolimit
  bi := fun y hy => by
    obtain ⟨q1, q2, q3, q4, q5⟩ := h3 y hy
    obtain ⟨q6, q7⟩ := boot_names y hy
    exact ⟨T.free y.1 q1 q2 q3 q4 q5, (T.builtins y.1 q6).trans q7⟩
  fn := fun f x hf => by
    have hlt : f < 34 := by rw [← len_fnames]; exact (List.getElem?_eq_some_iff.mp hf).1
    obtain ⟨fd, hfd⟩ : ∃ d, tab[f]? = some d := ⟨_, List.getElem?_eq_getElem (by rw [len_tab]; (first | lia | omega))⟩
    obtain ⟨_, _, _, _, a, o, pm, code, doc, _, q1, q2, q3, _⟩ := (tab_ok (prog := prog) (w := w) T h1 h2).get f x fd hf hfd
    exact ⟨a, o, _, q1, q2, q3⟩

theorem caller_ok : AOk callerA 13 := ⟨rfl, by decide, by decide⟩

theorem law_run (T : Top p loose mean mg mb s₁.heap) (h1 : (recsOf p).length = 34) (h2 : ((recsOf p).zip (fnames.zip (tab.zip vnames))).all rowOk = true) (h3 : freeOk p loose) {fa a : Addr} {vs : List Value} {n : Nat} {ns : List Int}
    (hmg : mg ("law" : Str) = some (.ref fa)) (hl : s₁.heap.get? a = some (listO vs.toArray n)) (hI : IntsAre vs ns) (hp : Phi tab 13 33 [.lst (ns.map MV.int)] = some (.bool true, [])) {Q E : Value → Shared → Prop}
    (hQ : ∀ h' tk, (∀ b o, s₁.heap.get? b = some o → h'.get? b = some o) → Q (.bool true) { s₁ with heap := h', toks := tk }) : wpAny (model prog w) callerA (call (.ref fa) [.ref a]) Q E s₁ := by
  have hW := w_ok (prog := prog) (w := w) T h1 h2 h3
  have C := call_all hW (tab_ok T h1 h2) 13
  let F : Fz := ins (fun _ => none) a (listO vs.toArray n)
  have hF : ∀ b o, F b = some o → b = a ∧ o = listO vs.toArray n := by
    intro b o e
    simp only [F, ins] at e
    split at e
    · rename_i q; cases e; exact ⟨q, rfl⟩
    · cases e
  have st : St (wd prog w s₁ mg mb) F s₁ := {
    sh := rfl
    base := fun _ _ e => e
    frz := fun b o e => by obtain ⟨rfl, rfl⟩ := hF b o e; exact hl
    seq := fun b o e => by obtain ⟨rfl, rfl⟩ := hF b o e; exact ⟨_, _, rfl⟩ }
  refine C.plain 33 "law" fa [.lst (ns.map MV.int)] (.bool true) [] hp law_plain law_name hmg callerA F s₁ [.ref a] Q E caller_ok st (.cons (.lst (ins_self _ _ _) (Reps.ints hI)) .nil) fun v F' h' tk hk g hr => ?_
  cases Rep.bool_inv hr
  exact hQ h' tk hk
end
end Mine

end
open PySem PySem.W PyProof.Rows
set_option Elab.async false
set_option maxRecDepth 100000
set_option maxHeartbeats 8000000
namespace Mine
noncomputable def noAssign : Stmt → Bool | .Assign .. => false | _ => true
noncomputable def vw : Program := { PySem.Challenge.pw_xm0403_01 with main := { PySem.Challenge.pw_xm0403_01.main with body := PySem.Challenge.pw_xm0403_01.main.body.filter noAssign } }
noncomputable def goT (st : SharedT → Thread → Option (SharedT × Thread)) (ok : Thread → Bool) : Nat → SharedT → Thread → Option SharedT
  | 0, _, _ => none
  | n + 1, s, t => match through t with
    | true => some s
    | false => match ok t with
      | false => none
      | true => match st s t with
        | some (s', t') => goT st ok n s' t'
        | none => none
theorem goT_of {tb : String → Option Builtin} {p : Program} {w : World} {n₀ : Nat} {ann : Option Value} : ∀ {n : Nat} {s s' : SharedT} {t : Thread}, goT (stepT (denote tb) p w) (PySem.W.stepOk n₀ ann) n s t = some s' → topRun tb p w n₀ ann n s.abs t = some s'.abs
  | 0, _, _, _, h => by cases h
  | n + 1, s, s', t, h => by
    rw [goT] at h
    rw [topRun]
    cases ht : through t with
    | true => rw [ht] at h; cases h; rfl
    | false =>
      rw [ht] at h
      cases hk : PySem.W.stepOk n₀ ann t with
      | false => rw [hk] at h; cases h
      | true =>
        rw [hk] at h
        cases hs : stepT (denote tb) p w s t with
        | none => rw [hs] at h; cases h
        | some r => obtain ⟨s₂, t₂⟩ := r; rw [hs] at h; rw [stepT_spec hs]; exact goT_of h
noncomputable def treeOf : List Obj → Nat → BT → BT
  | [], _, t => t
  | o :: r, i, t => treeOf r (i + 1) (t.ins i o)
noncomputable def boot (w : World) (os : OsState) : SharedT := ⟨treeOf (boot_heap w.params).objs.toList 0 .nil, (boot_heap w.params).objs.size, (boot_heap w.params).life, Array.mk [], boot_drawn, boot_toks, os⟩
theorem boot_abs (w : World) (os : OsState) : (boot w os).abs = ⟨boot_heap w.params, Array.mk [], boot_drawn, boot_toks, os⟩ := by kernel_rfl
theorem boot_ns (w : World) : ((boot_heap w.params).isNs mainGlobals && (Array.mk ([] : List GenState)).size == 0) = true := by kernel_rfl
theorem left_boot {p q : Program} {loose : List Str} {Xt : Shared → Bool} {N : Nat} (e : opening p = plainProg p.main.scope.names) (hN : Nat.ble 600 N = true) (f : ∀ s, fenceModules? p s = some s)
    (h : ∀ w os, (goT (stepT (denote treeTable) p w) (PySem.W.stepOk (boot_heap w.params).objs.size ((boot_heap w.params).nsMap mainGlobals "__annotations__")) N (boot w os) (topStub p)).map
      (fun s => (staticsOk (importedModules p.main.body) (boot_heap w.params) s.abs.heap && namesBound p s.abs.heap && gensDone s.abs && laidKept (boot_heap w.params) s.abs.heap, openSeen q loose (importedModules p.main.body) Xt true s.abs)) = some (true, openGood q loose)) :
    LeftO p q loose Xt Hook.none.obs Hook.none.val N := fun w => by
  obtain ⟨s, hs, hv⟩ := Option.map_eq_some_iff.mp (boot_open e hN f w)
  cases s with | mk h0 g0 d0 k0 os =>
  simp only [Prod.mk.injEq] at hv
  obtain ⟨rfl, rfl, rfl, rfl⟩ := hv
  obtain ⟨s, h1, h2⟩ := Option.map_eq_some_iff.mp (h w os)
  obtain ⟨h3, h4⟩ := Prod.mk.inj h2
  have h5 := goT_of h1
  rw [boot_abs] at h5
  unfold openEnds
  rw [hs, Option.bind_some]
  unfold topFrom
  rw [boot_ns]
  dsimp only
  rw [h5, Option.bind_some, h3, Option.map_some, h4]
  rfl
theorem top (w : World) (os : OsState) : (goT (stepT (denote treeTable) PySem.Challenge.pw_xm0403_01 w) (PySem.W.stepOk (boot_heap w.params).objs.size ((boot_heap w.params).nsMap mainGlobals "__annotations__")) 4000 (boot w os) (topStub PySem.Challenge.pw_xm0403_01)).map
      (fun s => (staticsOk (importedModules PySem.Challenge.pw_xm0403_01.main.body) (boot_heap w.params) s.abs.heap && namesBound PySem.Challenge.pw_xm0403_01 s.abs.heap && gensDone s.abs && laidKept (boot_heap w.params) s.abs.heap, openSeen vw [] (importedModules PySem.Challenge.pw_xm0403_01.main.body) (fun s => xlAt vw [] s && recOk (RowW.records PySem.Challenge.rw_xm0403_01.row.toRowW) s) true s.abs)) = some (true, openGood vw []) := by
  unfold staticsOk namesBound laidKept gensDone openGood expectedOf plainGoodE plainGoodD wideGood clsGoodW xlAt recOk
  rw [PySem.W.Fast.te4187177175401517315, PySem.W.Fast.te14364793385576792824, PySem.W.Fast.te10156331382660048174, PySem.W.Fast.te6613529449190102663, PySem.W.Fast.te11892475500146522536]
  simp only [PySem.W.Fast.te3399658132070893891, PySem.W.Fast.te3247288618530077131, PySem.W.Fast.te821141287760084731, PySem.W.Fast.te5923862056798008813, PySem.W.Fast.te8920871248978507458]
  kernel_rfl
theorem left : LeftO PySem.Challenge.pw_xm0403_01 vw [] (fun s => xlAt vw [] s && recOk (RowW.records PySem.Challenge.rw_xm0403_01.row.toRowW) s) Hook.none.obs Hook.none.val 4000 :=
  left_boot (by kernel_rfl) (by decide) (fun s => rfl) top
theorem recs_len : (recsOf vw).length = 34 := by decide +kernel
theorem recs_ok : ((recsOf vw).zip (fnames.zip (tab.zip vnames))).all rowOk = true := by decide +kernel
theorem recs_free : freeOk vw (looseW vw []) := by unfold freeOk; decide +kernel
theorem said : PySem.Challenge.rw_xm0403_01.wellSaid = true := by
  unfold OpenLaw.wellSaid OpenRow.wellSaid OpenRow.partSaid looksOpen
  repeat' (with_reducible apply look_both)
  all_goals (
    try rw [PySem.W.Fast.te8326940854005059898]
    try rw [PySem.W.Fast.te8377067652309620493]
    try rw [PySem.W.Fast.te17119622794617984870]
    decide +kernel)
theorem ok_chains : chainsOk vw = true := by decide +kernel
theorem ok_opens : opensWell PySem.Challenge.pw_xm0403_01 = true := by
  unfold opensWell
  with_reducible apply look_both
  all_goals decide +kernel
theorem ok_frees : (frees PySem.Challenge.rw_xm0403_01.row.toRowW && PySem.Challenge.rw_xm0403_01.row.toRowW.within.isEmpty) = true := by decide +kernel
end Mine
theorem PySem.Challenge.cw_xm0403_01_holds : PySem.Challenge.rw_xm0403_01.Holds := by
  refine holds_law Mine.said fun said => ?_
  refine holds_open (q := Mine.vw) (loose := []) (Xt := fun s => xlAt Mine.vw [] s && recOk (RowW.records PySem.Challenge.rw_xm0403_01.row.toRowW) s) (XP := XL Mine.vw []) (Yf := Hook.none.obs) (Ya := Hook.none.val) (YP := Hook.none.says) (N := 4000)
    Mine.left Hook.none.of Hook.none.keeps (fun s e => xl_of s (Bool.and_eq_true_iff.mp e).1) XL.keeps (by rfl) (by rfl) (by rfl) (fun s e => recFacts_of (Bool.and_eq_true_iff.mp e).2) rfl said (look_both (look_both Mine.ok_chains Mine.ok_opens) Mine.ok_frees) ⟨rfl, rfl, rfl, rfl, rfl, by decide +kernel⟩ ?hw ?hc
  case hw => w_witness2
  case hc =>
    intro w s₀ s₁ mg mb G Y fa o pm cd doc dV kV ho hd hcd hD hmg hg args vals as hpre hlay hrd hwl hlo
    refine Ground.open G ?_
    intro T B D TE TW
    wrow_args hpre hlay hrd hwl hlo
    rename_i ns _ _ _ _ _ _ _ a vs _ hL _ w1 _ hI _ hcond _
    have hlen : ns.length ≤ 63 := by omega
    refine Mine.law_run T Mine.recs_len Mine.recs_ok Mine.recs_free hmg (a := a) (vs := vs) (n := 0) (ns := ns) ?_ hI (Mine.law_pure ns hlen) fun h' tk hk => ?_
    · simp only [ofPy] at w1
      cases w1 with
      | list e _ =>
        obtain ⟨o', e', _, n', hd'⟩ := hL
        rw [e] at e'
        cases e'
        cases hd'
        exact e
    · refine GoodW.toG ⟨.inl ⟨_, _, [], rfl, fun _ => rfl, .bool true, ?_, fun _ => ⟨.nil, fun _ h => nomatch h⟩⟩, hk, rfl, hg⟩
      wrow_post

