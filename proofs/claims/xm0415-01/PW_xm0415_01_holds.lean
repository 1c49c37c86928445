import PyProof.Rows.All
import Wide.All
import OpenK.AllK
import Wide.FinOn
import PySem.Challenge.RW_xm0415_01
set_option Elab.async false
set_option linter.unusedSimpArgs false
set_option linter.unusedVariables false

section
namespace Mine

inductive AV where
  | unb | none | bool (b : Bool) | int (i : Int) | ptr (n : Nat) | fn (f : Nat)

inductive AO where
  | list (xs : List AV) | tup (xs : List AV)

noncomputable abbrev AH := List AO

inductive Bop where
  | add | sub | mul | fdiv | mod | shl | shr | band | bor | pow
inductive Cop where
  | eq | ne | lt | le | gt | ge

inductive Ex where
  | int (i : Int) | bool (b : Bool) | loc (i : Nat) | glob (v : AV) | omit
  | bin (op : Bop) (a b : Ex) | cmp (op : Cop) (a b : Ex)
  | neg (a : Ex) | not (a : Ex) | and (a b : Ex) | ite (t a b : Ex)
  | nil | cons (e r : Ex) | list (es : Ex) | tup (es : Ex)
  | call (f es : Ex)
  | len (a : Ex) | abs (a : Ex) | min (a b : Ex) | toInt (a : Ex)
  | idx (a i : Ex) | slice (a lo hi : Ex)
  | comp (x : Nat) (src elt : Ex) | compR (x : Nat) (args elt : Ex)
  | append (o x : Ex) | bitlen (a : Ex) | index (o x : Ex) | isin (x o : Ex)

inductive St where
  | skip | seq (a b : St)
  | asg (x : Nat) (e : Ex) | asgs (xs : List Nat) (es : Ex) | unpk (xs : List Nat) (e : Ex)
  | put (o i e : Ex) | swap (o i p j e f : Ex)
  | aug (x : Nat) (op : Bop) (e : Ex)
  | iff (t : Ex) (a b : St) | whl (t : Ex) (b : St)
  | forR (x : Nat) (args : Ex) (b : St) | forL (x : Nat) (e : Ex) (b : St) | forE (x y : Nat) (e : Ex) (b : St)
  | ret (e : Ex) | expr (e : Ex)

inductive Fl where
  | nxt | ret (v : AV)

noncomputable def big : Nat := 18446744073709551616
noncomputable def cap : Nat := 100000
noncomputable def fuel : Nat := 1000000

noncomputable def frozen : Nat := 5

noncomputable def listAt (H : AH) (p : Nat) : Option (List AV) := match H[p]? with
  | some (.list xs) => some xs
  | _ => .none
noncomputable def tupAt (H : AH) (p : Nat) : Option (List AV) := match H[p]? with
  | some (.tup xs) => some xs
  | _ => .none

noncomputable def okv : AV → Option AV
  | .unb => .none
  | v => some v

noncomputable def truth : AV → Option Bool
  | .bool b => some b
  | .int i => some (i != 0)
  | _ => .none

noncomputable def binI (op : Bop) (x y : Int) : Option Int := match op with
  | .add => some (x + y)
  | .sub => some (x - y)
  | .mul => if x.natAbs < big then some (x * y) else .none
  | .fdiv => if y = 0 ∨ 1073741824 ≤ y.natAbs then .none else some (x.fdiv y)
  | .mod => if y = 0 then .none else some (x.fmod y)
  | .shl => if 0 ≤ y ∧ y ≤ 1000000 ∧ x.natAbs < big then some (x * 2 ^ y.toNat) else .none
  | .shr => if 0 ≤ y then some (x.fdiv (2 ^ y.toNat)) else .none
  | .band => if 0 ≤ x ∧ 0 ≤ y then some ((x.toNat &&& y.toNat : Nat) : Int) else .none
  | .bor => if 0 ≤ x ∧ 0 ≤ y then some ((x.toNat ||| y.toNat : Nat) : Int) else .none
  | .pow => if 0 ≤ y ∧ y ≤ 1000000 ∧ x.natAbs < big then some (x ^ y.toNat) else .none

noncomputable def binop (op : Bop) (a b : AV) (H : AH) : Option (AV × AH) := match a, b with
  | .int x, .int y => (binI op x y).map fun i => (.int i, H)
  | .ptr p, .ptr q => match op, listAt H p, listAt H q with
    | .add, some xs, some ys => if xs.length + ys.length ≤ cap then some (.ptr H.length, H ++ [.list (xs ++ ys)]) else .none
    | _, _, _ => .none
  | .ptr p, .int n => match op, listAt H p with
    | .mul, some [x] => if frozen ≤ p ∧ -1000000 ≤ n ∧ n ≤ cap then some (.ptr H.length, H ++ [.list (List.replicate n.toNat x)]) else .none
    | _, _ => .none
  | _, _ => .none

noncomputable def cmpI (op : Cop) (x y : Int) : Bool := match op with
  | .eq => x == y
  | .ne => x != y
  | .lt => decide (x < y)
  | .le => decide (x ≤ y)
  | .gt => decide (x > y)
  | .ge => decide (x ≥ y)

noncomputable def ints? : List AV → Option (List Int)
  | [] => some []
  | .int i :: r => (ints? r).map (i :: ·)
  | _ => .none

noncomputable def numAt (H : AH) (v : AV) : Option (Bool × List Int) := match v with
  | .ptr p => match tupAt H p with
    | some [.bool b, .ptr l] => match listAt H l with
      | some xs => (ints? xs).map fun ns => (b, ns)
      | _ => .none
    | _ => .none
  | _ => .none

noncomputable def cmpop (op : Cop) (a b : AV) (H : AH) : Option Bool := match a, b with
  | .int x, .int y => some (cmpI op x y)
  | .bool x, .bool y => match op with
    | .eq => some (x == y)
    | .ne => some (x != y)
    | _ => .none
  | .ptr p, .ptr q => match op, numAt H (.ptr p), numAt H (.ptr q) with
    | .eq, some x, some y => some (x.1 == y.1 && x.2 == y.2)
    | .ne, some x, some y => some (!(x.1 == y.1 && x.2 == y.2))
    | _, _, _ => .none
  | _, _ => .none

noncomputable def place (n : Nat) (i : Int) : Nat := if i < 0 then (i + n).toNat else i.toNat

noncomputable def item (a i : AV) (H : AH) : Option AV := match a, i with
  | .ptr p, .int k => match H[p]? with
    | some (.list xs) => if -(xs.length : Int) ≤ k ∧ k < xs.length ∧ xs.length ≤ cap then xs[place xs.length k]? else .none
    | some (.tup xs) => if 0 ≤ k ∧ k < xs.length ∧ xs.length ≤ cap then xs[k.toNat]? else .none
    | _ => .none
  | _, _ => .none

noncomputable def part (d : Nat) : AV → Option Nat
  | .none => some d
  | .int k => if 0 ≤ k then some k.toNat else .none
  | _ => .none

noncomputable def cut (a lo hi : AV) (H : AH) : Option (AV × AH) := match a with
  | .ptr p => (listAt H p).bind fun xs => if xs.length ≤ cap then
      (part 0 lo).bind fun l => (part xs.length hi).bind fun h => some (.ptr H.length, H ++ [.list ((xs.take h).drop l)])
    else .none
  | _ => .none

noncomputable def rangeOf : List AV → Option (Int × Int × Nat)
  | [.int h] => if -1000 ≤ h ∧ h ≤ cap then some (0, 1, h.toNat) else .none
  | [.int l, .int h] => if -1000 ≤ l ∧ l ≤ cap ∧ -1000 ≤ h ∧ h ≤ cap then some (l, 1, (h - l).toNat) else .none
  | [.int l, .int h, .int s] => if s = -1 ∧ -1000 ≤ l ∧ l ≤ cap ∧ -1000 ≤ h ∧ h ≤ cap then some (l, -1, (l - h).toNat) else .none
  | _ => .none

noncomputable def compL (f : AV → AH → Option (AV × AH)) (p : Nat) : Nat → Nat → AH → Option (List AV × AH)
  | 0, _, _ => .none
  | k + 1, i, H => (listAt H p).bind fun xs => match xs[i]? with
    | .none => some ([], H)
    | some a => (f a H).bind fun r => (compL f p k (i + 1) r.2).bind fun q => some (r.1 :: q.1, q.2)

noncomputable def compN (f : AV → AH → Option (AV × AH)) (st : Int) : Nat → Int → AH → Option (List AV × AH)
  | 0, _, H => some ([], H)
  | k + 1, i, H => (f (.int i) H).bind fun r => (compN f st k (i + st) r.2).bind fun q => some (r.1 :: q.1, q.2)

noncomputable def boxed (r : List AV × AH) : Option (AV × AH) := if r.1.length ≤ cap then some (.ptr r.2.length, r.2 ++ [.list r.1]) else .none

noncomputable def minV : AV → AV → Option AV
  | .int x, .int y => some (.int (if y < x then y else x))
  | _, _ => .none

noncomputable def bitLen (i : Int) : Nat := if i = 0 then 0 else i.natAbs.log2 + 1

noncomputable def lenOf (a : AV) (H : AH) : Option Nat := match a with
  | .ptr p => (listAt H p).bind fun xs => if xs.length ≤ cap then some xs.length else .none
  | _ => .none

section
variable (call : Nat → List AV → AH → Option (AV × AH))

mutual
noncomputable def ev : Ex → List AV → AH → Option (AV × AH)
  | .int i, _, H => some (.int i, H)
  | .bool b, _, H => some (.bool b, H)
  | .loc i, ρ, H => (ρ[i]?).bind fun v => (okv v).map fun v => (v, H)
  | .glob v, _, H => some (v, H)
  | .omit, _, H => some (.none, H)
  | .bin op a b, ρ, H => (ev a ρ H).bind fun r => (ev b ρ r.2).bind fun q => binop op r.1 q.1 q.2
  | .cmp op a b, ρ, H => (ev a ρ H).bind fun r => (ev b ρ r.2).bind fun q => (cmpop op r.1 q.1 q.2).map fun c => (.bool c, q.2)
  | .neg a, ρ, H => (ev a ρ H).bind fun r => match r.1 with
    | .int i => some (.int (-i), r.2)
    | _ => .none
  | .not a, ρ, H => (ev a ρ H).bind fun r => (truth r.1).map fun b => (.bool (!b), r.2)
  | .and a b, ρ, H => (ev a ρ H).bind fun r => (truth r.1).bind fun t => if t then ev b ρ r.2 else some r
  | .ite t a b, ρ, H => (ev t ρ H).bind fun r => (truth r.1).bind fun c => if c then ev a ρ r.2 else ev b ρ r.2
  | .list es, ρ, H => (evs es ρ H).bind boxed
  | .tup es, ρ, H => (evs es ρ H).bind fun r => if r.1.length ≤ cap then some (.ptr r.2.length, r.2 ++ [.tup r.1]) else .none
  | .call f es, ρ, H => (ev f ρ H).bind fun r => match r.1 with
    | .fn n => (evs es ρ r.2).bind fun q => call n q.1 q.2
    | _ => .none
  | .len a, ρ, H => (ev a ρ H).bind fun r => (lenOf r.1 r.2).map fun (n : Nat) => (.int (n : Int), r.2)
  | .abs a, ρ, H => (ev a ρ H).bind fun r => match r.1 with
    | .int i => some (.int (if i < 0 then -i else i), r.2)
    | _ => .none
  | .min a b, ρ, H => (ev a ρ H).bind fun r => (ev b ρ r.2).bind fun q => (minV r.1 q.1).map fun v => (v, q.2)
  | .toInt a, ρ, H => (ev a ρ H).bind fun r => match r.1 with
    | .int i => some (.int i, r.2)
    | _ => .none
  | .idx a i, ρ, H => (ev a ρ H).bind fun r => (ev i ρ r.2).bind fun q => (item r.1 q.1 q.2).map fun v => (v, q.2)
  | .slice a lo hi, ρ, H => (ev a ρ H).bind fun r => (ev lo ρ r.2).bind fun q => (ev hi ρ q.2).bind fun z => cut r.1 q.1 z.1 z.2
  | .comp x src elt, ρ, H => (ev src ρ H).bind fun r => match r.1 with
    | .ptr p => (compL (fun a H => ev elt (ρ.set x a) H) p fuel 0 r.2).bind boxed
    | _ => .none
  | .compR x args elt, ρ, H => (evs args ρ H).bind fun r => (rangeOf r.1).bind fun g =>
      (compN (fun a H => ev elt (ρ.set x a) H) g.2.1 g.2.2 g.1 r.2).bind boxed
  | .append o x, ρ, H => (ev o ρ H).bind fun r => match r.1 with
    | .ptr p => (listAt r.2 p).bind fun _ => (ev x ρ r.2).bind fun q => (listAt q.2 p).bind fun xs =>
      if frozen ≤ p ∧ xs.length ≤ cap then some (.none, q.2.set p (.list (xs ++ [q.1]))) else .none
    | _ => .none
  | .bitlen a, ρ, H => (ev a ρ H).bind fun r => match r.1 with
    | .int i => some (.int (bitLen i), r.2)
    | _ => .none
  | .index o x, ρ, H => (ev o ρ H).bind fun r => match r.1 with
    | .ptr p => (listAt r.2 p).bind fun _ => (ev x ρ r.2).bind fun q => match q.1 with
      | .int i => (listAt q.2 p).bind fun xs => (ints? xs).bind fun ns => if frozen ≤ p ∧ i ∈ ns ∧ ns.length ≤ cap then some (.int (ns.idxOf i), q.2) else .none
      | _ => .none
    | _ => .none
  | .isin x o, ρ, H => (ev x ρ H).bind fun r => (ev o ρ r.2).bind fun q => match r.1, q.1 with
    | .int i, .ptr p => (listAt q.2 p).bind fun xs => (ints? xs).map fun ns => (.bool (ns.any (· == i)), q.2)
    | _, _ => .none
  | .nil, _, _ => .none
  | .cons _ _, _, _ => .none
noncomputable def evs : Ex → List AV → AH → Option (List AV × AH)
  | .nil, _, H => some ([], H)
  | .cons e r, ρ, H => (ev e ρ H).bind fun a => (evs r ρ a.2).bind fun b => some (a.1 :: b.1, b.2)
  | _, _, _ => .none
end

noncomputable def setAll : List Nat → List AV → List AV → Option (List AV)
  | [], [], ρ => some ρ
  | x :: xs, v :: vs, ρ => setAll xs vs (ρ.set x v)
  | _, _, _ => .none

noncomputable def putAt (o i v : AV) (H : AH) : Option AH := match o, i with
  | .ptr p, .int k => if frozen ≤ p then (listAt H p).bind fun xs => if 0 ≤ k ∧ k < xs.length ∧ xs.length ≤ cap then some (H.set p (.list (xs.set k.toNat v))) else .none else .none
  | _, _ => .none

noncomputable abbrev Body := List AV → AH → Option (Fl × List AV × AH)

noncomputable def whlL (t : List AV → AH → Option (Bool × AH)) (b : Body) : Nat → Body
  | 0, _, _ => .none
  | k + 1, ρ, H => (t ρ H).bind fun r => if r.1 then (b ρ r.2).bind fun q => match q.1 with
      | .nxt => whlL t b k q.2.1 q.2.2
      | .ret v => some (.ret v, q.2)
    else some (.nxt, ρ, r.2)

noncomputable def forN (x : Nat) (b : Body) (st : Int) : Nat → Int → Body
  | 0, _, ρ, H => some (.nxt, ρ, H)
  | k + 1, i, ρ, H => (b (ρ.set x (.int i)) H).bind fun q => match q.1 with
      | .nxt => forN x b st k (i + st) q.2.1 q.2.2
      | .ret v => some (.ret v, q.2)

noncomputable def forI (x : Nat) (b : Body) (p : Nat) : Nat → Nat → Body
  | 0, _, _, _ => .none
  | k + 1, i, ρ, H => (listAt H p).bind fun xs => match xs[i]? with
    | .none => some (.nxt, ρ, H)
    | some a => (b (ρ.set x a) H).bind fun q => match q.1 with
      | .nxt => forI x b p k (i + 1) q.2.1 q.2.2
      | .ret v => some (.ret v, q.2)

noncomputable def forEn (x y : Nat) (b : Body) (p : Nat) : Nat → Nat → Body
  | 0, _, _, _ => .none
  | k + 1, i, ρ, H => (listAt H p).bind fun xs => match xs[i]? with
    | .none => some (.nxt, ρ, H)
    | some a => (b ((ρ.set x (.int i)).set y a) H).bind fun q => match q.1 with
      | .nxt => forEn x y b p k (i + 1) q.2.1 q.2.2
      | .ret v => some (.ret v, q.2)

noncomputable def ex : St → Body
  | .skip, ρ, H => some (.nxt, ρ, H)
  | .seq a b, ρ, H => (ex a ρ H).bind fun q => match q.1 with
    | .nxt => ex b q.2.1 q.2.2
    | .ret v => some (.ret v, q.2)
  | .asg x e, ρ, H => (ev call e ρ H).bind fun r => some (.nxt, ρ.set x r.1, r.2)
  | .asgs xs es, ρ, H => (evs call es ρ H).bind fun r => (setAll xs r.1 ρ).bind fun ρ' => some (.nxt, ρ', r.2)
  | .unpk xs e, ρ, H => (ev call e ρ H).bind fun r => match r.1 with
    | .ptr p => (tupAt r.2 p).bind fun vs => (setAll xs vs ρ).bind fun ρ' => some (.nxt, ρ', r.2)
    | _ => .none
  | .put o i e, ρ, H => (ev call e ρ H).bind fun r => (ev call o ρ r.2).bind fun q => (ev call i ρ q.2).bind fun z =>
      (putAt q.1 z.1 r.1 z.2).bind fun H' => some (.nxt, ρ, H')
  | .swap o i p j e f, ρ, H => (ev call e ρ H).bind fun r => (ev call f ρ r.2).bind fun s =>
      (ev call o ρ s.2).bind fun q => (ev call i ρ q.2).bind fun z => (putAt q.1 z.1 r.1 z.2).bind fun H₁ =>
      (ev call p ρ H₁).bind fun q₂ => (ev call j ρ q₂.2).bind fun z₂ => (putAt q₂.1 z₂.1 s.1 z₂.2).bind fun H₂ => some (.nxt, ρ, H₂)
  | .aug x op e, ρ, H => (ρ[x]?).bind fun a => (ev call e ρ H).bind fun r => match a, r.1 with
    | .int i, .int j => (binI op i j).bind fun k => some (.nxt, ρ.set x (.int k), r.2)
    | _, _ => .none
  | .iff t a b, ρ, H => (ev call t ρ H).bind fun r => (truth r.1).bind fun c => if c then ex a ρ r.2 else ex b ρ r.2
  | .whl t b, ρ, H => whlL (fun ρ H => (ev call t ρ H).bind fun r => (truth r.1).map fun c => (c, r.2)) (ex b) fuel ρ H
  | .forR x args b, ρ, H => (evs call args ρ H).bind fun r => (rangeOf r.1).bind fun g => forN x (ex b) g.2.1 g.2.2 g.1 ρ r.2
  | .forL x e b, ρ, H => (ev call e ρ H).bind fun r => match r.1 with
    | .ptr p => forI x (ex b) p fuel 0 ρ r.2
    | _ => .none
  | .forE x y e b, ρ, H => (ev call e ρ H).bind fun r => match r.1 with
    | .ptr p => if frozen ≤ p then forEn x y (ex b) p fuel 0 ρ r.2 else .none
    | _ => .none
  | .ret e, ρ, H => (ev call e ρ H).bind fun r => some (.ret r.1, ρ, r.2)
  | .expr e, ρ, H => (ev call e ρ H).bind fun r => match r.1 with
    | .none => some (.nxt, ρ, r.2)
    | _ => .none
end

structure Df where
  params : Nat
  names : Nat
  body : St

noncomputable def callF (defs : List Df) : Nat → Nat → List AV → AH → Option (AV × AH)
  | 0, _, _, _ => .none
  | n + 1, f, args, H => (defs[f]?).bind fun d => if args.length = d.params then
      (ex (callF defs n) d.body (args ++ List.replicate (d.names - d.params) .unb) H).bind fun q => match q.1 with
        | .nxt => some (.none, q.2.2)
        | .ret v => some (v, q.2.2)
    else .none

inductive E2 {α0 α1 : Type} (p : α0 → α1 → Prop) : Prop
  | mk (a0 : α0) (a1 : α1) (h : p a0 a1) : E2 p
inductive E3 {α0 α1 α2 : Type} (p : α0 → α1 → α2 → Prop) : Prop
  | mk (a0 : α0) (a1 : α1) (a2 : α2) (h : p a0 a1 a2) : E3 p
inductive E4 {α0 α1 α2 α3 : Type} (p : α0 → α1 → α2 → α3 → Prop) : Prop
  | mk (a0 : α0) (a1 : α1) (a2 : α2) (a3 : α3) (h : p a0 a1 a2 a3) : E4 p
inductive E5 {α0 α1 α2 α3 α4 : Type} (p : α0 → α1 → α2 → α3 → α4 → Prop) : Prop
  | mk (a0 : α0) (a1 : α1) (a2 : α2) (a3 : α3) (a4 : α4) (h : p a0 a1 a2 a3 a4) : E5 p
inductive E6 {α0 α1 α2 α3 α4 α5 : Type} (p : α0 → α1 → α2 → α3 → α4 → α5 → Prop) : Prop
  | mk (a0 : α0) (a1 : α1) (a2 : α2) (a3 : α3) (a4 : α4) (a5 : α5) (h : p a0 a1 a2 a3 a4 a5) : E6 p
inductive E7 {α0 α1 α2 α3 α4 α5 α6 : Type} (p : α0 → α1 → α2 → α3 → α4 → α5 → α6 → Prop) : Prop
  | mk (a0 : α0) (a1 : α1) (a2 : α2) (a3 : α3) (a4 : α4) (a5 : α5) (a6 : α6) (h : p a0 a1 a2 a3 a4 a5 a6) : E7 p
inductive E9 {α0 α1 α2 α3 α4 α5 α6 α7 α8 : Type} (p : α0 → α1 → α2 → α3 → α4 → α5 → α6 → α7 → α8 → Prop) : Prop
  | mk (a0 : α0) (a1 : α1) (a2 : α2) (a3 : α3) (a4 : α4) (a5 : α5) (a6 : α6) (a7 : α7) (a8 : α8) (h : p a0 a1 a2 a3 a4 a5 a6 a7 a8) : E9 p
inductive E10 {α0 α1 α2 α3 α4 α5 α6 α7 α8 α9 : Type} (p : α0 → α1 → α2 → α3 → α4 → α5 → α6 → α7 → α8 → α9 → Prop) : Prop
  | mk (a0 : α0) (a1 : α1) (a2 : α2) (a3 : α3) (a4 : α4) (a5 : α5) (a6 : α6) (a7 : α7) (a8 : α8) (a9 : α9) (h : p a0 a1 a2 a3 a4 a5 a6 a7 a8 a9) : E10 p
inductive A3 (p0 p1 p2 : Prop) : Prop
  | mk (h0 : p0) (h1 : p1) (h2 : p2) : A3 p0 p1 p2
inductive A4 (p0 p1 p2 p3 : Prop) : Prop
  | mk (h0 : p0) (h1 : p1) (h2 : p2) (h3 : p3) : A4 p0 p1 p2 p3
inductive A5 (p0 p1 p2 p3 p4 : Prop) : Prop
  | mk (h0 : p0) (h1 : p1) (h2 : p2) (h3 : p3) (h4 : p4) : A5 p0 p1 p2 p3 p4
inductive A6 (p0 p1 p2 p3 p4 p5 : Prop) : Prop
  | mk (h0 : p0) (h1 : p1) (h2 : p2) (h3 : p3) (h4 : p4) (h5 : p5) : A6 p0 p1 p2 p3 p4 p5
inductive A7 (p0 p1 p2 p3 p4 p5 p6 : Prop) : Prop
  | mk (h0 : p0) (h1 : p1) (h2 : p2) (h3 : p3) (h4 : p4) (h5 : p5) (h6 : p6) : A7 p0 p1 p2 p3 p4 p5 p6
inductive A8 (p0 p1 p2 p3 p4 p5 p6 p7 : Prop) : Prop
  | mk (h0 : p0) (h1 : p1) (h2 : p2) (h3 : p3) (h4 : p4) (h5 : p5) (h6 : p6) (h7 : p7) : A8 p0 p1 p2 p3 p4 p5 p6 p7
inductive A9 (p0 p1 p2 p3 p4 p5 p6 p7 p8 : Prop) : Prop
  | mk (h0 : p0) (h1 : p1) (h2 : p2) (h3 : p3) (h4 : p4) (h5 : p5) (h6 : p6) (h7 : p7) (h8 : p8) : A9 p0 p1 p2 p3 p4 p5 p6 p7 p8
inductive A10 (p0 p1 p2 p3 p4 p5 p6 p7 p8 p9 : Prop) : Prop
  | mk (h0 : p0) (h1 : p1) (h2 : p2) (h3 : p3) (h4 : p4) (h5 : p5) (h6 : p6) (h7 : p7) (h8 : p8) (h9 : p9) : A10 p0 p1 p2 p3 p4 p5 p6 p7 p8 p9
end Mine
end

section
namespace Mine

noncomputable def bNormal : St := (.seq (.asg 1 (.len (.loc 0)))
  (.seq (.whl (.and (.cmp .gt (.loc 1) (.int 0)) (.cmp .eq (.idx (.loc 0) (.bin .sub (.loc 1) (.int 1))) (.int 0))) (.seq (.aug 1 .sub (.int 1))
  .skip))
  (.seq (.ret (.slice (.loc 0) .omit (.loc 1)))
  .skip)))
noncomputable def bNatOf : St := (.seq (.iff (.cmp .lt (.loc 0) (.int 0)) (.seq (.expr .nil)
  .skip) .skip)
  (.seq (.asgs [2, 3] (.cons (.list .nil) (.cons (.bin .sub (.bin .shl (.int 1) (.loc 1)) (.int 1)) .nil)))
  (.seq (.whl (.cmp .gt (.loc 0) (.int 0)) (.seq (.expr (.append (.loc 2) (.bin .band (.loc 0) (.loc 3))))
  (.seq (.aug 0 .shr (.loc 1))
  .skip)))
  (.seq (.ret (.loc 2))
  .skip))))
noncomputable def bCompare : St := (.seq (.iff (.cmp .ne (.len (.loc 0)) (.len (.loc 1))) (.seq (.ret (.ite (.cmp .lt (.len (.loc 0)) (.len (.loc 1))) (.neg (.int 1)) (.int 1)))
  .skip) .skip)
  (.seq (.forR 2 (.cons (.bin .sub (.len (.loc 0)) (.int 1)) (.cons (.neg (.int 1)) (.cons (.neg (.int 1)) .nil))) (.seq (.iff (.cmp .ne (.idx (.loc 0) (.loc 2)) (.idx (.loc 1) (.loc 2))) (.seq (.ret (.ite (.cmp .lt (.idx (.loc 0) (.loc 2)) (.idx (.loc 1) (.loc 2))) (.neg (.int 1)) (.int 1)))
  .skip) .skip)
  .skip))
  (.seq (.ret (.int 0))
  .skip)))
noncomputable def bAdd : St := (.seq (.iff (.cmp .lt (.len (.loc 0)) (.len (.loc 1))) (.seq (.asgs [0, 1] (.cons (.loc 1) (.cons (.loc 0) .nil)))
  .skip) .skip)
  (.seq (.asgs [3, 4, 5] (.cons (.list .nil) (.cons (.int 0) (.cons (.bin .sub (.bin .shl (.int 1) (.loc 2)) (.int 1)) .nil))))
  (.seq (.forR 6 (.cons (.len (.loc 1)) .nil) (.seq (.aug 4 .add (.bin .add (.idx (.loc 0) (.loc 6)) (.idx (.loc 1) (.loc 6))))
  (.seq (.expr (.append (.loc 3) (.bin .band (.loc 4) (.loc 5))))
  (.seq (.aug 4 .shr (.loc 2))
  .skip))))
  (.seq (.forR 6 (.cons (.len (.loc 1)) (.cons (.len (.loc 0)) .nil)) (.seq (.aug 4 .add (.idx (.loc 0) (.loc 6)))
  (.seq (.expr (.append (.loc 3) (.bin .band (.loc 4) (.loc 5))))
  (.seq (.aug 4 .shr (.loc 2))
  .skip))))
  (.seq (.iff (.cmp .gt (.loc 4) (.int 0)) (.seq (.expr (.append (.loc 3) (.loc 4)))
  .skip) .skip)
  (.seq (.ret (.loc 3))
  .skip))))))
noncomputable def bSub : St := (.seq (.iff (.cmp .lt (.call (.glob (.fn 2)) (.cons (.loc 0) (.cons (.loc 1) .nil))) (.int 0)) (.seq (.expr .nil)
  .skip) .skip)
  (.seq (.asgs [3, 4, 5] (.cons (.list .nil) (.cons (.int 0) (.cons (.bin .shl (.int 1) (.loc 2)) .nil))))
  (.seq (.forR 6 (.cons (.len (.loc 0)) .nil) (.seq (.asg 7 (.bin .sub (.bin .sub (.idx (.loc 0) (.loc 6)) (.loc 4)) (.ite (.cmp .lt (.loc 6) (.len (.loc 1))) (.idx (.loc 1) (.loc 6)) (.int 0))))
  (.seq (.asg 4 (.ite (.cmp .lt (.loc 7) (.int 0)) (.int 1) (.int 0)))
  (.seq (.expr (.append (.loc 3) (.ite (.cmp .lt (.loc 7) (.int 0)) (.bin .add (.loc 7) (.loc 5)) (.loc 7))))
  .skip))))
  (.seq (.ret (.call (.glob (.fn 0)) (.cons (.loc 3) .nil)))
  .skip))))
noncomputable def bDivremLimb : St := (.seq (.iff (.cmp .eq (.loc 1) (.int 0)) (.seq (.expr .nil)
  .skip) .skip)
  (.seq (.asgs [3, 4] (.cons (.bin .mul (.list (.cons (.int 0) .nil)) (.len (.loc 0))) (.cons (.int 0) .nil)))
  (.seq (.forR 5 (.cons (.bin .sub (.len (.loc 0)) (.int 1)) (.cons (.neg (.int 1)) (.cons (.neg (.int 1)) .nil))) (.seq (.asg 4 (.bin .bor (.bin .shl (.loc 4) (.loc 2)) (.idx (.loc 0) (.loc 5))))
  (.seq (.put (.loc 3) (.loc 5) (.bin .fdiv (.loc 4) (.loc 1)))
  (.seq (.aug 4 .mod (.loc 1))
  .skip))))
  (.seq (.ret (.tup (.cons (.call (.glob (.fn 0)) (.cons (.loc 3) .nil)) (.cons (.loc 4) .nil))))
  .skip))))
noncomputable def bShiftLeft : St := (.seq (.iff (.cmp .eq (.len (.loc 0)) (.int 0)) (.seq (.ret (.list .nil))
  .skip) .skip)
  (.seq (.asgs [3, 4] (.cons (.bin .fdiv (.loc 1) (.loc 2)) (.cons (.bin .mod (.loc 1) (.loc 2)) .nil)))
  (.seq (.asgs [5, 6, 7] (.cons (.bin .mul (.list (.cons (.int 0) .nil)) (.loc 3)) (.cons (.int 0) (.cons (.bin .sub (.bin .shl (.int 1) (.loc 2)) (.int 1)) .nil))))
  (.seq (.forL 8 (.loc 0) (.seq (.aug 6 .bor (.bin .shl (.loc 8) (.loc 4)))
  (.seq (.expr (.append (.loc 5) (.bin .band (.loc 6) (.loc 7))))
  (.seq (.aug 6 .shr (.loc 2))
  .skip))))
  (.seq (.iff (.cmp .gt (.loc 6) (.int 0)) (.seq (.expr (.append (.loc 5) (.loc 6)))
  .skip) .skip)
  (.seq (.ret (.loc 5))
  .skip))))))
noncomputable def bShiftRight : St := (.seq (.asgs [3, 4] (.cons (.bin .fdiv (.loc 1) (.loc 2)) (.cons (.bin .mod (.loc 1) (.loc 2)) .nil)))
  (.seq (.asgs [5, 6] (.cons (.list .nil) (.cons (.bin .sub (.bin .shl (.int 1) (.loc 2)) (.int 1)) .nil)))
  (.seq (.forR 7 (.cons (.loc 3) (.cons (.len (.loc 0)) .nil)) (.seq (.asg 8 (.ite (.cmp .lt (.bin .add (.loc 7) (.int 1)) (.len (.loc 0))) (.idx (.loc 0) (.bin .add (.loc 7) (.int 1))) (.int 0)))
  (.seq (.expr (.append (.loc 5) (.bin .band (.bin .bor (.bin .shr (.idx (.loc 0) (.loc 7)) (.loc 4)) (.bin .shl (.loc 8) (.bin .sub (.loc 2) (.loc 4)))) (.loc 6))))
  .skip)))
  (.seq (.ret (.call (.glob (.fn 0)) (.cons (.loc 5) .nil)))
  .skip))))
noncomputable def bBits : St := (.seq (.ret (.ite (.cmp .gt (.len (.loc 0)) (.int 0)) (.bin .add (.bin .mul (.bin .sub (.len (.loc 0)) (.int 1)) (.loc 1)) (.bitlen (.idx (.loc 0) (.neg (.int 1))))) (.int 0)))
  .skip)
noncomputable def bSigned : St := (.seq (.ret (.tup (.cons (.and (.loc 0) (.cmp .gt (.len (.loc 1)) (.int 0))) (.cons (.loc 1) .nil))))
  .skip)
noncomputable def bSOf : St := (.seq (.ret (.tup (.cons (.cmp .lt (.loc 0) (.int 0)) (.cons (.call (.glob (.fn 1)) (.cons (.abs (.loc 0)) (.cons (.loc 1) .nil))) .nil))))
  .skip)
noncomputable def bSNeg : St := (.seq (.ret (.call (.glob (.fn 9)) (.cons (.not (.idx (.loc 0) (.int 0))) (.cons (.idx (.loc 0) (.int 1)) .nil))))
  .skip)
noncomputable def bSSign : St := (.seq (.iff (.cmp .eq (.len (.idx (.loc 0) (.int 1))) (.int 0)) (.seq (.ret (.int 0))
  .skip) .skip)
  (.seq (.ret (.ite (.idx (.loc 0) (.int 0)) (.neg (.int 1)) (.int 1)))
  .skip))
noncomputable def bSAdd : St := (.seq (.iff (.cmp .eq (.idx (.loc 0) (.int 0)) (.idx (.loc 1) (.int 0))) (.seq (.ret (.call (.glob (.fn 9)) (.cons (.idx (.loc 0) (.int 0)) (.cons (.call (.glob (.fn 3)) (.cons (.idx (.loc 0) (.int 1)) (.cons (.idx (.loc 1) (.int 1)) (.cons (.loc 2) .nil)))) .nil))))
  .skip) .skip)
  (.seq (.iff (.cmp .lt (.call (.glob (.fn 2)) (.cons (.idx (.loc 0) (.int 1)) (.cons (.idx (.loc 1) (.int 1)) .nil))) (.int 0)) (.seq (.ret (.call (.glob (.fn 9)) (.cons (.idx (.loc 1) (.int 0)) (.cons (.call (.glob (.fn 4)) (.cons (.idx (.loc 1) (.int 1)) (.cons (.idx (.loc 0) (.int 1)) (.cons (.loc 2) .nil)))) .nil))))
  .skip) .skip)
  (.seq (.ret (.call (.glob (.fn 9)) (.cons (.idx (.loc 0) (.int 0)) (.cons (.call (.glob (.fn 4)) (.cons (.idx (.loc 0) (.int 1)) (.cons (.idx (.loc 1) (.int 1)) (.cons (.loc 2) .nil)))) .nil))))
  .skip)))
noncomputable def bSSub : St := (.seq (.ret (.call (.glob (.fn 13)) (.cons (.loc 0) (.cons (.call (.glob (.fn 11)) (.cons (.loc 1) .nil)) (.cons (.loc 2) .nil)))))
  .skip)
noncomputable def bSMul : St := (.seq (.ret (.call (.glob (.fn 9)) (.cons (.cmp .ne (.idx (.loc 0) (.int 0)) (.idx (.loc 1) (.int 0))) (.cons (.call (.loc 3) (.cons (.idx (.loc 0) (.int 1)) (.cons (.idx (.loc 1) (.int 1)) (.cons (.loc 2) .nil)))) .nil))))
  .skip)
noncomputable def bTdiv : St := (.seq (.iff (.cmp .eq (.len (.idx (.loc 1) (.int 1))) (.int 0)) (.seq (.expr .nil)
  .skip) .skip)
  (.seq (.unpk [4, 5] (.call (.loc 3) (.cons (.idx (.loc 0) (.int 1)) (.cons (.idx (.loc 1) (.int 1)) (.cons (.loc 2) .nil)))))
  (.seq (.ret (.tup (.cons (.call (.glob (.fn 9)) (.cons (.cmp .ne (.idx (.loc 0) (.int 0)) (.idx (.loc 1) (.int 0))) (.cons (.loc 4) .nil))) (.cons (.call (.glob (.fn 9)) (.cons (.idx (.loc 0) (.int 0)) (.cons (.loc 5) .nil))) .nil))))
  .skip)))
noncomputable def bMOf : St := (.seq (.ret (.comp 2 (.loc 0) (.comp 3 (.loc 2) (.call (.glob (.fn 10)) (.cons (.loc 3) (.cons (.loc 1) .nil))))))
  .skip)
noncomputable def bExact : St := (.seq (.unpk [4, 5] (.call (.glob (.fn 16)) (.cons (.loc 0) (.cons (.loc 1) (.cons (.loc 2) (.cons (.loc 3) .nil))))))
  (.seq (.ret (.loc 4))
  .skip))
noncomputable def bPivotRow : St := (.seq (.forR 3 (.cons (.loc 1) (.cons (.len (.loc 0)) .nil)) (.seq (.iff (.cmp .ne (.call (.glob (.fn 12)) (.cons (.idx (.idx (.loc 0) (.loc 3)) (.loc 2)) .nil)) (.int 0)) (.seq (.ret (.loc 3))
  .skip) .skip)
  .skip))
  (.seq (.ret (.neg (.int 1)))
  .skip))
noncomputable def bCleared : St := (.seq (.asgs [7, 8] (.cons (.idx (.loc 1) (.loc 2)) (.cons (.idx (.loc 0) (.loc 2)) .nil)))
  (.seq (.asg 9 (.list .nil))
  (.seq (.forE 10 11 (.loc 0) (.seq (.asg 12 (.call (.glob (.fn 14)) (.cons (.call (.glob (.fn 15)) (.cons (.loc 11) (.cons (.loc 7) (.cons (.loc 4) (.cons (.loc 5) .nil))))) (.cons (.call (.glob (.fn 15)) (.cons (.loc 8) (.cons (.idx (.loc 1) (.loc 10)) (.cons (.loc 4) (.cons (.loc 5) .nil))))) (.cons (.loc 4) .nil)))))
  (.seq (.expr (.append (.loc 9) (.call (.glob (.fn 18)) (.cons (.loc 12) (.cons (.loc 3) (.cons (.loc 4) (.cons (.loc 6) .nil)))))))
  .skip)))
  (.seq (.ret (.loc 9))
  .skip))))
noncomputable def bStepsDown : St := (.seq (.asgs [5, 6, 7, 8] (.cons (.comp 13 (.loc 0) (.slice (.loc 13) .omit .omit)) (.cons (.list .nil) (.cons (.bool false) (.cons (.glob (.ptr 2)) .nil)))))
  (.seq (.forR 9 (.cons (.loc 1) .nil) (.seq (.asg 10 (.len (.loc 6)))
  (.seq (.asg 11 (.call (.glob (.fn 19)) (.cons (.loc 5) (.cons (.loc 10) (.cons (.loc 9) .nil)))))
  (.seq (.iff (.cmp .ge (.loc 11) (.int 0)) (.seq (.iff (.cmp .ne (.loc 11) (.loc 10)) (.seq (.swap (.loc 5) (.loc 10) (.loc 5) (.loc 11) (.idx (.loc 5) (.loc 11)) (.idx (.loc 5) (.loc 10)))
  (.seq (.asg 7 (.not (.loc 7)))
  .skip)) .skip)
  (.seq (.forR 12 (.cons (.bin .add (.loc 10) (.int 1)) (.cons (.len (.loc 5)) .nil)) (.seq (.put (.loc 5) (.loc 12) (.call (.glob (.fn 20)) (.cons (.idx (.loc 5) (.loc 12)) (.cons (.idx (.loc 5) (.loc 10)) (.cons (.loc 9) (.cons (.loc 8) (.cons (.loc 2) (.cons (.loc 3) (.cons (.loc 4) .nil)))))))))
  .skip))
  (.seq (.asg 8 (.idx (.idx (.loc 5) (.loc 10)) (.loc 9)))
  (.seq (.expr (.append (.loc 6) (.loc 9)))
  .skip)))) .skip)
  .skip))))
  (.seq (.ret (.tup (.cons (.loc 5) (.cons (.loc 6) (.cons (.loc 7) .nil)))))
  .skip)))
noncomputable def bRank : St := (.seq (.iff (.cmp .eq (.len (.loc 0)) (.int 0)) (.seq (.ret (.int 0))
  .skip) .skip)
  (.seq (.ret (.len (.idx (.call (.glob (.fn 21)) (.cons (.loc 0) (.cons (.len (.idx (.loc 0) (.int 0))) (.cons (.loc 1) (.cons (.loc 2) (.cons (.loc 3) .nil)))))) (.int 1))))
  .skip))
noncomputable def bDetBareiss : St := (.seq (.iff (.cmp .eq (.len (.loc 0)) (.int 0)) (.seq (.ret (.glob (.ptr 2)))
  .skip) .skip)
  (.seq (.unpk [4, 5, 6] (.call (.glob (.fn 21)) (.cons (.loc 0) (.cons (.len (.loc 0)) (.cons (.loc 1) (.cons (.loc 2) (.cons (.loc 3) .nil)))))))
  (.seq (.iff (.cmp .lt (.len (.loc 5)) (.len (.loc 0))) (.seq (.ret (.glob (.ptr 0)))
  .skip) .skip)
  (.seq (.asg 7 (.idx (.idx (.loc 4) (.neg (.int 1))) (.bin .sub (.len (.loc 0)) (.int 1))))
  (.seq (.ret (.ite (.loc 6) (.call (.glob (.fn 11)) (.cons (.loc 7) .nil)) (.loc 7)))
  .skip)))))
noncomputable def bMulSchool : St := (.seq (.asgs [3, 4] (.cons (.bin .mul (.list (.cons (.int 0) .nil)) (.bin .add (.len (.loc 0)) (.len (.loc 1)))) (.cons (.bin .sub (.bin .shl (.int 1) (.loc 2)) (.int 1)) .nil)))
  (.seq (.forE 5 6 (.loc 0) (.seq (.asg 7 (.int 0))
  (.seq (.forE 8 9 (.loc 1) (.seq (.aug 7 .add (.bin .add (.idx (.loc 3) (.bin .add (.loc 5) (.loc 8))) (.bin .mul (.loc 6) (.loc 9))))
  (.seq (.put (.loc 3) (.bin .add (.loc 5) (.loc 8)) (.bin .band (.loc 7) (.loc 4)))
  (.seq (.aug 7 .shr (.loc 2))
  .skip))))
  (.seq (.put (.loc 3) (.bin .add (.loc 5) (.len (.loc 1))) (.loc 7))
  .skip))))
  (.seq (.ret (.call (.glob (.fn 0)) (.cons (.loc 3) .nil)))
  .skip)))
noncomputable def bDivremSmall : St := (.seq (.unpk [3, 4] (.call (.glob (.fn 5)) (.cons (.loc 0) (.cons (.idx (.loc 1) (.int 0)) (.cons (.loc 2) .nil)))))
  (.seq (.ret (.tup (.cons (.loc 3) (.cons (.ite (.cmp .gt (.loc 4) (.int 0)) (.list (.cons (.loc 4) .nil)) (.list .nil)) .nil))))
  .skip))
noncomputable def bGuessedLimb : St := (.seq (.asgs [4, 5] (.cons (.bin .bor (.bin .shl (.idx (.loc 0) (.int 2)) (.loc 3)) (.idx (.loc 0) (.int 1))) (.cons (.bin .shl (.int 1) (.loc 3)) .nil)))
  (.seq (.asg 6 (.min (.bin .fdiv (.loc 4) (.loc 1)) (.bin .sub (.loc 5) (.int 1))))
  (.seq (.asg 7 (.bin .sub (.loc 4) (.bin .mul (.loc 6) (.loc 1))))
  (.seq (.whl (.and (.cmp .lt (.loc 7) (.loc 5)) (.cmp .gt (.bin .mul (.loc 6) (.loc 2)) (.bin .bor (.bin .shl (.loc 7) (.loc 3)) (.idx (.loc 0) (.int 0))))) (.seq (.aug 6 .sub (.int 1))
  (.seq (.aug 7 .add (.loc 1))
  .skip)))
  (.seq (.ret (.loc 6))
  .skip)))))
noncomputable def bTakeAway : St := (.seq (.asgs [5, 6] (.cons (.int 0) (.cons (.bin .shl (.int 1) (.loc 4)) .nil)))
  (.seq (.forE 7 8 (.loc 1) (.seq (.asg 9 (.bin .sub (.idx (.loc 0) (.bin .add (.loc 3) (.loc 7))) (.bin .mod (.bin .add (.bin .mul (.loc 2) (.loc 8)) (.loc 5)) (.loc 6))))
  (.seq (.asg 5 (.bin .add (.bin .fdiv (.bin .add (.bin .mul (.loc 2) (.loc 8)) (.loc 5)) (.loc 6)) (.ite (.cmp .lt (.loc 9) (.int 0)) (.int 1) (.int 0))))
  (.seq (.put (.loc 0) (.bin .add (.loc 3) (.loc 7)) (.ite (.cmp .lt (.loc 9) (.int 0)) (.bin .add (.loc 9) (.loc 6)) (.loc 9)))
  .skip))))
  (.seq (.asg 9 (.bin .sub (.idx (.loc 0) (.bin .add (.loc 3) (.len (.loc 1)))) (.loc 5)))
  (.seq (.put (.loc 0) (.bin .add (.loc 3) (.len (.loc 1))) (.ite (.cmp .lt (.loc 9) (.int 0)) (.bin .add (.loc 9) (.loc 6)) (.loc 9)))
  (.seq (.ret (.ite (.cmp .lt (.loc 9) (.int 0)) (.int 1) (.int 0)))
  .skip)))))
noncomputable def bPutBack : St := (.seq (.asgs [4, 5] (.cons (.int 0) (.cons (.bin .sub (.bin .shl (.int 1) (.loc 3)) (.int 1)) .nil)))
  (.seq (.forE 6 7 (.loc 1) (.seq (.aug 4 .add (.bin .add (.idx (.loc 0) (.bin .add (.loc 2) (.loc 6))) (.loc 7)))
  (.seq (.put (.loc 0) (.bin .add (.loc 2) (.loc 6)) (.bin .band (.loc 4) (.loc 5)))
  (.seq (.aug 4 .shr (.loc 3))
  .skip))))
  (.seq (.put (.loc 0) (.bin .add (.loc 2) (.len (.loc 1))) (.bin .band (.bin .add (.idx (.loc 0) (.bin .add (.loc 2) (.len (.loc 1)))) (.loc 4)) (.loc 5)))
  .skip)))
noncomputable def bDivideRows : St := (.seq (.asg 3 (.len (.loc 1)))
  (.seq (.asg 4 (.bin .mul (.list (.cons (.int 0) .nil)) (.bin .sub (.len (.loc 0)) (.loc 3))))
  (.seq (.forR 5 (.cons (.bin .sub (.bin .sub (.len (.loc 0)) (.loc 3)) (.int 1)) (.cons (.neg (.int 1)) (.cons (.neg (.int 1)) .nil))) (.seq (.asg 6 (.call (.glob (.fn 26)) (.cons (.slice (.loc 0) (.bin .sub (.bin .add (.loc 5) (.loc 3)) (.int 2)) (.bin .add (.bin .add (.loc 5) (.loc 3)) (.int 1))) (.cons (.idx (.loc 1) (.bin .sub (.loc 3) (.int 1))) (.cons (.idx (.loc 1) (.bin .sub (.loc 3) (.int 2))) (.cons (.loc 2) .nil))))))
  (.seq (.iff (.cmp .eq (.call (.glob (.fn 27)) (.cons (.loc 0) (.cons (.loc 1) (.cons (.loc 6) (.cons (.loc 5) (.cons (.loc 2) .nil)))))) (.int 1)) (.seq (.aug 6 .sub (.int 1))
  (.seq (.expr (.call (.glob (.fn 28)) (.cons (.loc 0) (.cons (.loc 1) (.cons (.loc 5) (.cons (.loc 2) .nil))))))
  .skip)) .skip)
  (.seq (.put (.loc 4) (.loc 5) (.loc 6))
  .skip))))
  (.seq (.ret (.loc 4))
  .skip))))
noncomputable def bDivremSchool : St := (.seq (.iff (.cmp .eq (.len (.loc 1)) (.int 0)) (.seq (.expr .nil)
  .skip) .skip)
  (.seq (.iff (.cmp .lt (.call (.glob (.fn 2)) (.cons (.loc 0) (.cons (.loc 1) .nil))) (.int 0)) (.seq (.ret (.tup (.cons (.list .nil) (.cons (.slice (.loc 0) .omit .omit) .nil))))
  .skip) .skip)
  (.seq (.iff (.cmp .eq (.len (.loc 1)) (.int 1)) (.seq (.ret (.call (.glob (.fn 25)) (.cons (.loc 0) (.cons (.loc 1) (.cons (.loc 2) .nil)))))
  .skip) .skip)
  (.seq (.asg 3 (.bin .sub (.loc 2) (.call (.glob (.fn 8)) (.cons (.list (.cons (.idx (.loc 1) (.neg (.int 1))) .nil)) (.cons (.loc 2) .nil)))))
  (.seq (.asg 4 (.call (.glob (.fn 6)) (.cons (.loc 1) (.cons (.loc 3) (.cons (.loc 2) .nil)))))
  (.seq (.asg 5 (.call (.glob (.fn 6)) (.cons (.loc 0) (.cons (.loc 3) (.cons (.loc 2) .nil)))))
  (.seq (.asg 5 (.bin .add (.loc 5) (.bin .mul (.list (.cons (.int 0) .nil)) (.bin .sub (.bin .add (.len (.loc 0)) (.int 1)) (.len (.loc 5))))))
  (.seq (.asg 6 (.call (.glob (.fn 29)) (.cons (.loc 5) (.cons (.loc 4) (.cons (.loc 2) .nil)))))
  (.seq (.ret (.tup (.cons (.call (.glob (.fn 0)) (.cons (.loc 6) .nil)) (.cons (.call (.glob (.fn 7)) (.cons (.call (.glob (.fn 0)) (.cons (.loc 5) .nil)) (.cons (.loc 3) (.cons (.loc 2) .nil)))) .nil))))
  .skip)))))))))
noncomputable def bLawRooted : St := (.seq (.put (.loc 0) (.int 0) (.bin .add (.idx (.loc 0) (.int 0)) (.int 1)))
  (.seq (.iff (.cmp .le (.idx (.loc 0) (.int 0)) (.len (.idx (.loc 0) (.int 1)))) (.seq (.ret (.bin .mod (.idx (.idx (.loc 0) (.int 1)) (.bin .sub (.idx (.loc 0) (.int 0)) (.int 1))) (.loc 1)))
  .skip) .skip)
  (.seq (.ret (.bin .mod (.bin .add (.bin .add (.bin .mul (.int 5) (.idx (.loc 0) (.int 0))) (.bin .fdiv (.idx (.loc 0) (.int 0)) (.int 2))) (.int 9)) (.loc 1)))
  .skip)))
noncomputable def bLawLimbs : St := (.seq (.asg 2 (.list .nil))
  (.seq (.whl (.cmp .gt (.loc 0) (.int 0)) (.seq (.expr (.append (.loc 2) (.bin .mod (.loc 0) (.bin .pow (.int 2) (.loc 1)))))
  (.seq (.asg 0 (.bin .fdiv (.loc 0) (.bin .pow (.int 2) (.loc 1))))
  .skip)))
  (.seq (.ret (.loc 2))
  .skip)))
noncomputable def bLawPolynomial : St := (.seq (.asg 1 (.list (.cons (.int 1) .nil)))
  (.seq (.forL 2 (.loc 0) (.seq (.asgs [3, 4] (.cons (.bin .add (.loc 1) (.list (.cons (.int 0) .nil))) (.cons (.bin .add (.list (.cons (.int 0) .nil)) (.loc 1)) .nil)))
  (.seq (.asg 1 (.compR 5 (.cons (.len (.loc 3)) .nil) (.bin .sub (.idx (.loc 3) (.loc 5)) (.bin .mul (.loc 2) (.idx (.loc 4) (.loc 5))))))
  .skip)))
  (.seq (.ret (.loc 1))
  .skip)))
noncomputable def bLawRows : St := (.seq (.asgs [2, 3] (.cons (.bin .sub (.bin .add (.len (.loc 0)) (.len (.loc 1))) (.int 2)) (.cons (.list .nil) .nil)))
  (.seq (.forR 4 (.cons (.bin .sub (.len (.loc 1)) (.int 1)) .nil) (.seq (.expr (.append (.loc 3) (.bin .add (.bin .add (.bin .mul (.list (.cons (.int 0) .nil)) (.loc 4)) (.loc 0)) (.bin .mul (.list (.cons (.int 0) .nil)) (.bin .sub (.bin .sub (.loc 2) (.loc 4)) (.len (.loc 0)))))))
  .skip))
  (.seq (.forR 4 (.cons (.bin .sub (.len (.loc 0)) (.int 1)) .nil) (.seq (.expr (.append (.loc 3) (.bin .add (.bin .add (.bin .mul (.list (.cons (.int 0) .nil)) (.loc 4)) (.loc 1)) (.bin .mul (.list (.cons (.int 0) .nil)) (.bin .sub (.bin .sub (.loc 2) (.loc 4)) (.len (.loc 1)))))))
  .skip))
  (.seq (.ret (.loc 3))
  .skip))))
noncomputable def bLawNumber : St := (.seq (.ret (.tup (.cons (.cmp .lt (.loc 0) (.int 0)) (.cons (.call (.glob (.fn 32)) (.cons (.abs (.loc 0)) (.cons (.loc 1) .nil))) .nil))))
  .skip)
noncomputable def bLawDet : St := (.seq (.ret (.call (.glob (.fn 23)) (.cons (.call (.glob (.fn 17)) (.cons (.call (.glob (.fn 34)) (.cons (.loc 0) (.cons (.loc 1) .nil))) (.cons (.loc 2) .nil))) (.cons (.loc 2) (.cons (.glob (.fn 24)) (.cons (.glob (.fn 30)) .nil))))))
  .skip)
noncomputable def bLaw : St := (.seq (.asg 1 (.list (.cons (.int 0) (.cons (.comp 16 (.slice (.loc 0) .omit (.int 8)) (.abs (.toInt (.loc 16)))) .nil))))
  (.seq (.asg 2 (.bin .add (.int 3) (.call (.glob (.fn 31)) (.cons (.loc 1) (.cons (.int 6) .nil)))))
  (.seq (.asg 3 (.idx (.list (.cons (.tup (.cons (.int 2) (.cons (.int 1) .nil))) (.cons (.tup (.cons (.int 1) (.cons (.int 1) .nil))) (.cons (.tup (.cons (.int 2) (.cons (.int 2) .nil))) (.cons (.tup (.cons (.int 1) (.cons (.int 2) .nil))) .nil))))) (.call (.glob (.fn 31)) (.cons (.loc 1) (.cons (.int 4) .nil)))))
  (.seq (.asg 4 (.compR 17 (.cons (.idx (.loc 3) (.int 0)) .nil) (.bin .sub (.call (.glob (.fn 31)) (.cons (.loc 1) (.cons (.int 7) .nil))) (.int 3))))
  (.seq (.asg 5 (.compR 17 (.cons (.idx (.loc 3) (.int 1)) .nil) (.bin .sub (.call (.glob (.fn 31)) (.cons (.loc 1) (.cons (.int 7) .nil))) (.int 3))))
  (.seq (.asgs [6, 7, 8, 9, 10] (.cons (.call (.glob (.fn 33)) (.cons (.loc 4) .nil)) (.cons (.call (.glob (.fn 33)) (.cons (.loc 5) .nil)) (.cons (.int 1) (.cons (.int 1) (.cons (.loc 5) .nil))))))
  (.seq (.asg 11 (.int 0))
  (.seq (.forL 12 (.loc 4) (.seq (.forL 13 (.loc 5) (.seq (.asg 8 (.bin .mul (.loc 8) (.bin .sub (.loc 12) (.loc 13))))
  .skip))
  (.seq (.iff (.isin (.loc 12) (.loc 10)) (.seq (.asg 14 (.index (.loc 10) (.loc 12)))
  (.seq (.asgs [10, 11] (.cons (.bin .add (.slice (.loc 10) .omit (.loc 14)) (.slice (.loc 10) (.bin .add (.loc 14) (.int 1)) .omit)) (.cons (.bin .add (.loc 11) (.int 1)) .nil)))
  .skip)) .skip)
  .skip)))
  (.seq (.forR 14 (.cons (.len (.loc 4)) .nil) (.seq (.forR 13 (.cons (.len (.loc 4)) .nil) (.seq (.asg 9 (.bin .mul (.loc 9) (.ite (.cmp .ne (.loc 14) (.loc 13)) (.bin .sub (.idx (.loc 4) (.loc 14)) (.idx (.loc 4) (.loc 13))) (.int 1))))
  .skip))
  .skip))
  (.seq (.iff (.cmp .ne (.call (.glob (.fn 36)) (.cons (.loc 6) (.cons (.loc 7) (.cons (.loc 2) .nil)))) (.call (.glob (.fn 35)) (.cons (.loc 8) (.cons (.loc 2) .nil)))) (.seq (.ret (.bool false))
  .skip) .skip)
  (.seq (.iff (.cmp .ne (.call (.glob (.fn 36)) (.cons (.loc 7) (.cons (.loc 6) (.cons (.loc 2) .nil)))) (.call (.glob (.fn 35)) (.cons (.bin .mul (.loc 8) (.bin .sub (.int 1) (.bin .mul (.int 2) (.bin .mod (.bin .mul (.len (.loc 4)) (.len (.loc 5))) (.int 2))))) (.cons (.loc 2) .nil)))) (.seq (.ret (.bool false))
  .skip) .skip)
  (.seq (.iff (.cmp .ne (.call (.glob (.fn 22)) (.cons (.call (.glob (.fn 17)) (.cons (.call (.glob (.fn 34)) (.cons (.loc 6) (.cons (.loc 7) .nil))) (.cons (.loc 2) .nil))) (.cons (.loc 2) (.cons (.glob (.fn 24)) (.cons (.glob (.fn 30)) .nil))))) (.bin .sub (.bin .add (.len (.loc 4)) (.len (.loc 5))) (.loc 11))) (.seq (.ret (.bool false))
  .skip) .skip)
  (.seq (.asg 15 (.compR 18 (.cons (.len (.loc 4)) .nil) (.bin .mul (.idx (.loc 6) (.loc 18)) (.bin .sub (.len (.loc 4)) (.loc 18)))))
  (.seq (.ret (.cmp .eq (.call (.glob (.fn 36)) (.cons (.loc 6) (.cons (.loc 15) (.cons (.loc 2) .nil)))) (.call (.glob (.fn 35)) (.cons (.loc 9) (.cons (.loc 2) .nil)))))
  .skip))))))))))))))

noncomputable def defs : List Df := [
  ⟨1, 2, bNormal⟩,
  ⟨2, 4, bNatOf⟩,
  ⟨2, 3, bCompare⟩,
  ⟨3, 7, bAdd⟩,
  ⟨3, 8, bSub⟩,
  ⟨3, 6, bDivremLimb⟩,
  ⟨3, 9, bShiftLeft⟩,
  ⟨3, 9, bShiftRight⟩,
  ⟨2, 2, bBits⟩,
  ⟨2, 2, bSigned⟩,
  ⟨2, 2, bSOf⟩,
  ⟨1, 1, bSNeg⟩,
  ⟨1, 1, bSSign⟩,
  ⟨3, 3, bSAdd⟩,
  ⟨3, 3, bSSub⟩,
  ⟨4, 4, bSMul⟩,
  ⟨4, 6, bTdiv⟩,
  ⟨2, 4, bMOf⟩,
  ⟨4, 6, bExact⟩,
  ⟨3, 4, bPivotRow⟩,
  ⟨7, 13, bCleared⟩,
  ⟨5, 14, bStepsDown⟩,
  ⟨4, 4, bRank⟩,
  ⟨4, 8, bDetBareiss⟩,
  ⟨3, 10, bMulSchool⟩,
  ⟨3, 5, bDivremSmall⟩,
  ⟨4, 8, bGuessedLimb⟩,
  ⟨5, 10, bTakeAway⟩,
  ⟨4, 8, bPutBack⟩,
  ⟨3, 7, bDivideRows⟩,
  ⟨3, 7, bDivremSchool⟩,
  ⟨2, 2, bLawRooted⟩,
  ⟨2, 3, bLawLimbs⟩,
  ⟨1, 6, bLawPolynomial⟩,
  ⟨2, 5, bLawRows⟩,
  ⟨2, 2, bLawNumber⟩,
  ⟨3, 3, bLawDet⟩,
  ⟨1, 19, bLaw⟩]
end Mine
end

section
namespace Mine
noncomputable def C (c : Nat → List AV → AH → Option (AV × AH)) (f : Nat) (args : List AV) (H : AH) (Q : AV → AH → Prop) : Prop := ∃ v H', c f args H = some (v, H') ∧ Q v H'
@[reducible] noncomputable def O (o : Option (AV × AH)) (Q : AV → AH → Prop) : Prop := ∃ v H', o = some (v, H') ∧ Q v H'
noncomputable def Y (b : Body) (ρ : List AV) (H : AH) (N : List AV → AH → Prop) (R : AV → AH → Prop) : Prop := ∃ fl ρ' H', b ρ H = some (fl, ρ', H') ∧ match fl with
  | .nxt => N ρ' H'
  | .ret v => R v H'
@[reducible] noncomputable def OkV : AV → Prop → Prop
  | .unb, _ => False
  | .none, P => P
  | .bool _, P => P
  | .int _, P => P
  | .ptr _, P => P
  | .fn _, P => P
@[reducible] noncomputable def LocV : List AV → Nat → (AV → Prop) → Prop
  | [], _, _ => False
  | v :: _, 0, K => OkV v (K v)
  | _ :: l, n + 1, K => LocV l n K
@[reducible] noncomputable def AtV : List AV → Nat → (AV → Prop) → Prop
  | [], _, _ => False
  | v :: _, 0, K => K v
  | _ :: l, n + 1, K => AtV l n K
@[reducible] noncomputable def setV : List AV → Nat → AV → List AV
  | [], _, _ => []
  | _ :: l, 0, v => v :: l
  | a :: l, n + 1, v => a :: setV l n v
@[reducible] noncomputable def SetA : List Nat → List AV → List AV → (List AV → Prop) → Prop
  | [], [], ρ, K => K ρ
  | x :: xs, v :: vs, ρ, K => SetA xs vs (setV ρ x v) K
  | [], _ :: _, _, _ => False
  | _ :: _, [], _, _ => False
@[reducible] noncomputable def IntV : AV → (Int → Prop) → Prop
  | .int i, K => K i
  | .unb, _ => False | .none, _ => False | .bool _, _ => False | .ptr _, _ => False | .fn _, _ => False
@[reducible] noncomputable def PtrV : AV → (Nat → Prop) → Prop
  | .ptr i, K => K i
  | .unb, _ => False | .none, _ => False | .bool _, _ => False | .int _, _ => False | .fn _, _ => False
@[reducible] noncomputable def FnV : AV → (Nat → Prop) → Prop
  | .fn i, K => K i
  | .unb, _ => False | .none, _ => False | .bool _, _ => False | .int _, _ => False | .ptr _, _ => False
@[reducible] noncomputable def NoneV : AV → Prop → Prop
  | .none, P => P
  | .unb, _ => False | .fn _, _ => False | .bool _, _ => False | .int _, _ => False | .ptr _, _ => False
@[reducible] noncomputable def IntD : AV → (Int → Prop) → Prop → Prop
  | .int i, K, _ => K i
  | .unb, _, D => D | .none, _, D => D | .bool _, _, D => D | .ptr _, _, D => D | .fn _, _, D => D
@[reducible] noncomputable def B2 (op : Bop) (x y : AV) (H : AH) (Q : AV → AH → Prop) : Prop :=
  IntD x (fun i => IntD y (fun j => ∃ k, binI op i j = some k ∧ Q (.int k) H) (O (binop op x y H) Q)) (O (binop op x y H) Q)
@[reducible] noncomputable def Cm (op : Cop) (x y : AV) (H : AH) (K : Bool → Prop) : Prop :=
  IntD x (fun i => IntD y (fun j => K (cmpI op i j)) (∃ t, cmpop op x y H = some t ∧ K t)) (∃ t, cmpop op x y H = some t ∧ K t)
@[reducible] noncomputable def IfI (x y : Int) (P1 P2 : Prop) : Cop → Prop
  | .eq => if x = y then P1 else P2
  | .ne => if ¬ x = y then P1 else P2
  | .lt => if x < y then P1 else P2
  | .le => if x ≤ y then P1 else P2
  | .gt => if x > y then P1 else P2
  | .ge => if x ≥ y then P1 else P2
@[reducible] noncomputable def IfC (op : Cop) (x y : AV) (H : AH) (P1 P2 : Prop) : Prop :=
  IntD x (fun i => IntD y (fun j => IfI i j P1 P2 op) (∃ t, cmpop op x y H = some t ∧ if t = true then P1 else P2)) (∃ t, cmpop op x y H = some t ∧ if t = true then P1 else P2)
@[reducible] noncomputable def Br : AV → Prop → Prop → Prop
  | .bool d, P1, P2 => if d = true then P1 else P2
  | .int i, P1, P2 => if ¬ i = 0 then P1 else P2
  | .unb, _, _ => False | .none, _, _ => False | .ptr _, _, _ => False | .fn _, _, _ => False
@[reducible] noncomputable def AndV : AV → Prop → Prop → Prop
  | .bool d, P1, P2 => if d = true then P1 else P2
  | .int i, P1, P2 => if ¬ i = 0 then P1 else P2
  | .unb, _, _ => False | .none, _, _ => False | .ptr _, _, _ => False | .fn _, _, _ => False
@[reducible] noncomputable def NotV : AV → (AV → Prop) → Prop
  | .bool d, K => K (.bool (!d))
  | .int i, K => K (.bool (!(i != 0)))
  | .unb, _ => False | .none, _ => False | .ptr _, _ => False | .fn _, _ => False
@[reducible] noncomputable def LenN : List AV → Nat → Prop → Prop
  | [], _, P => P
  | _ :: l, n + 1, P => LenN l n P
  | _ :: _, 0, _ => False
@[reducible] noncomputable def LenOk (l : List AV) (P : Prop) : Prop := LenN l 4 P
section
variable (c : Nat → List AV → AH → Option (AV × AH))
mutual
@[reducible] noncomputable def V : Ex → List AV → AH → (AV → AH → Prop) → Prop
  | .int i, _, H, Q => Q (.int i) H
  | .bool b, _, H, Q => Q (.bool b) H
  | .loc i, ρ, H, Q => LocV ρ i fun v => Q v H
  | .glob v, _, H, Q => Q v H
  | .omit, _, H, Q => Q .none H
  | .bin op a b, ρ, H, Q => V a ρ H fun x H1 => V b ρ H1 fun y H2 => B2 op x y H2 Q
  | .cmp op a b, ρ, H, Q => V a ρ H fun x H1 => V b ρ H1 fun y H2 => Cm op x y H2 fun t => Q (.bool t) H2
  | .neg a, ρ, H, Q => V a ρ H fun x H1 => IntV x fun i => Q (.int (-i)) H1
  | .not a, ρ, H, Q => V a ρ H fun x H1 => NotV x fun v => Q v H1
  | .and a b, ρ, H, Q => V a ρ H fun x H1 => AndV x (V b ρ H1 Q) (Q x H1)
  | .ite t a b, ρ, H, Q => T t ρ H (fun H1 => V a ρ H1 Q) (fun H1 => V b ρ H1 Q)
  | .list es, ρ, H, Q => Vs es ρ H fun vs H1 => LenOk vs (Q (.ptr H1.length) (H1 ++ [.list vs]))
  | .tup es, ρ, H, Q => Vs es ρ H fun vs H1 => LenOk vs (Q (.ptr H1.length) (H1 ++ [.tup vs]))
  | .call f es, ρ, H, Q => V f ρ H fun x H1 => FnV x fun n => Vs es ρ H1 fun vs H2 => C c n vs H2 Q
  | .len a, ρ, H, Q => V a ρ H fun x H1 => ∃ n : Nat, lenOf x H1 = some n ∧ Q (.int n) H1
  | .abs a, ρ, H, Q => V a ρ H fun x H1 => IntV x fun i => Q (.int i.natAbs) H1
  | .min a b, ρ, H, Q => V a ρ H fun x H1 => V b ρ H1 fun y H2 => ∃ v, minV x y = some v ∧ Q v H2
  | .toInt a, ρ, H, Q => V a ρ H fun x H1 => IntV x fun i => Q (.int i) H1
  | .idx a i, ρ, H, Q => V a ρ H fun x H1 => V i ρ H1 fun y H2 => ∃ v, item x y H2 = some v ∧ Q v H2
  | .slice a lo hi, ρ, H, Q => V a ρ H fun x H1 => V lo ρ H1 fun y H2 => V hi ρ H2 fun z H3 => O (cut x y z H3) Q
  | .append o x, ρ, H, Q => V o ρ H fun z H1 => PtrV z fun p => (∃ ys, listAt H1 p = some ys) ∧ V x ρ H1 fun v H2 => ∃ xs, listAt H2 p = some xs ∧ frozen ≤ p ∧ xs.length ≤ cap ∧ Q .none (H2.set p (.list (xs ++ [v])))
  | .bitlen a, ρ, H, Q => V a ρ H fun x H1 => IntV x fun i => Q (.int (bitLen i)) H1
  | .comp x s e, ρ, H, Q => O (ev c (.comp x s e) ρ H) Q
  | .compR x s e, ρ, H, Q => O (ev c (.compR x s e) ρ H) Q
  | .index o x, ρ, H, Q => O (ev c (.index o x) ρ H) Q
  | .isin x o, ρ, H, Q => O (ev c (.isin x o) ρ H) Q
  | .nil, _, _, _ => False
  | .cons _ _, _, _, _ => False
@[reducible] noncomputable def Vs : Ex → List AV → AH → (List AV → AH → Prop) → Prop
  | .nil, _, H, Q => Q [] H
  | .cons e r, ρ, H, Q => V e ρ H fun v H1 => Vs r ρ H1 fun vs H2 => Q (v :: vs) H2
  | _, _, _, _ => False
@[reducible] noncomputable def T : Ex → List AV → AH → (AH → Prop) → (AH → Prop) → Prop
  | .cmp op a b, ρ, H, K1, K2 => V a ρ H fun x H1 => V b ρ H1 fun y H2 => IfC op x y H2 (K1 H2) (K2 H2)
  | .and a b, ρ, H, K1, K2 => T a ρ H (fun H1 => T b ρ H1 K1 K2) K2
  | .not a, ρ, H, K1, K2 => T a ρ H K2 K1
  | .loc i, ρ, H, K1, K2 => LocV ρ i fun v => Br v (K1 H) (K2 H)
  | .idx a i, ρ, H, K1, K2 => V a ρ H fun x H1 => V i ρ H1 fun y H2 => ∃ v, item x y H2 = some v ∧ Br v (K1 H2) (K2 H2)
  | .isin x o, ρ, H, K1, K2 => O (ev c (.isin x o) ρ H) fun v H1 => Br v (K1 H1) (K2 H1)
  | _, _, _, _, _ => False
end
@[reducible] noncomputable def X : St → List AV → AH → (List AV → AH → Prop) → (AV → AH → Prop) → Prop
  | .skip, ρ, H, N, _ => N ρ H
  | .seq a b, ρ, H, N, R => X a ρ H (fun ρ' H' => X b ρ' H' N R) R
  | .asg x e, ρ, H, N, _ => V c e ρ H fun v H' => N (setV ρ x v) H'
  | .asgs xs es, ρ, H, N, _ => Vs c es ρ H fun vs H' => SetA xs vs ρ fun ρ' => N ρ' H'
  | .unpk xs e, ρ, H, N, _ => V c e ρ H fun v H' => PtrV v fun p => ∃ vs, tupAt H' p = some vs ∧ SetA xs vs ρ fun ρ' => N ρ' H'
  | .put o i e, ρ, H, N, _ => V c e ρ H fun v H1 => V c o ρ H1 fun x H2 => V c i ρ H2 fun y H3 => ∃ H4, putAt x y v H3 = some H4 ∧ N ρ H4
  | .swap o i p j e f, ρ, H, N, _ => V c e ρ H fun v H1 => V c f ρ H1 fun u H2 => V c o ρ H2 fun x H3 => V c i ρ H3 fun y H4 => ∃ H5, putAt x y v H4 = some H5 ∧
    V c p ρ H5 fun x2 H6 => V c j ρ H6 fun y2 H7 => ∃ H8, putAt x2 y2 u H7 = some H8 ∧ N ρ H8
  | .aug x op e, ρ, H, N, _ => AtV ρ x fun a => V c e ρ H fun v H' => IntV a fun i => IntV v fun j => ∃ k, binI op i j = some k ∧ N (setV ρ x (.int k)) H'
  | .iff t a b, ρ, H, N, R => T c t ρ H (fun H1 => X a ρ H1 N R) (fun H1 => X b ρ H1 N R)
  | .ret e, ρ, H, _, R => V c e ρ H R
  | .expr e, ρ, H, N, _ => V c e ρ H fun v H' => NoneV v (N ρ H')
  | .whl t b, ρ, H, N, R => Y (ex c (.whl t b)) ρ H N R
  | .forR x a b, ρ, H, N, R => Y (ex c (.forR x a b)) ρ H N R
  | .forL x e b, ρ, H, N, R => Y (ex c (.forL x e b)) ρ H N R
  | .forE x y e b, ρ, H, N, R => Y (ex c (.forE x y e b)) ρ H N R
end

section
variable {c : Nat → List AV → AH → Option (AV × AH)} {ρ : List AV} {H : AH} {Q Q' : AV → AH → Prop} {N : List AV → AH → Prop} {R : AV → AH → Prop}
theorem C.mono {f : Nat} {args : List AV} (h : C c f args H Q) (k : ∀ v H', Q v H' → Q' v H') : C c f args H Q' :=
  let ⟨v, H', e, q⟩ := h; ⟨v, H', e, k v H' q⟩
theorem O.mono {o : Option (AV × AH)} (h : O o Q) (k : ∀ v H', Q v H' → Q' v H') : O o Q' :=
  let ⟨v, H', e, q⟩ := h; ⟨v, H', e, k v H' q⟩
theorem Y.mono {b : Body} {N' : List AV → AH → Prop} {R' : AV → AH → Prop} (h : Y b ρ H N R) (k : ∀ ρ' H', N ρ' H' → N' ρ' H') (k' : ∀ v H', R v H' → R' v H') : Y b ρ H N' R' := by
  obtain ⟨fl, ρ', H', e, q⟩ := h
  refine ⟨fl, ρ', H', e, ?_⟩
  cases fl with
  | nxt => exact k _ _ q
  | ret v => exact k' _ _ q
theorem O_pair {r : AV × AH} : O (some r) Q ↔ Q r.1 r.2 := ⟨fun ⟨_, _, e, q⟩ => by cases e; exact q, fun q => ⟨_, _, rfl, q⟩⟩
theorem O_of {v : AV} (h : Q v H) : O (some (v, H)) Q := ⟨v, H, rfl, h⟩
theorem O_bind {o : Option (AV × AH)} {f : AV × AH → Option (AV × AH)} (h : O o fun v H' => O (f (v, H')) Q) : O (o.bind f) Q := by
  obtain ⟨v, H', rfl, h⟩ := h; exact h
theorem O_ask {α : Type} {o : Option α} {f : α → AV} {P : α → Prop} (h : ∃ a, o = some a ∧ P a) (k : ∀ a, P a → Q (f a) H) : O (o.map fun a => (f a, H)) Q := by
  obtain ⟨a, rfl, h⟩ := h; exact ⟨_, _, rfl, k a h⟩
theorem setV_eq : ∀ (l : List AV) (n : Nat) (v : AV), setV l n v = l.set n v
  | [], _, _ => rfl
  | _ :: _, 0, _ => rfl
  | a :: l, n + 1, v => congrArg (a :: ·) (setV_eq l n v)
theorem OkV_ok {v : AV} {P : Prop} (h : OkV v P) : okv v = some v ∧ P := by cases v <;> first | exact ⟨rfl, h⟩ | exact h.elim
theorem LocV_ok : ∀ {l : List AV} {n : Nat} {K : AV → Prop}, LocV l n K → ∃ v, l[n]? = some v ∧ okv v = some v ∧ K v
  | v :: _, 0, K, h => ⟨v, rfl, OkV_ok (P := K v) h⟩
  | _ :: l, n + 1, K, h => LocV_ok (l := l) h
theorem LocV_of : ∀ {l : List AV} {n : Nat} {v : AV} {K : AV → Prop}, (l[n]?).bind okv = some v → K v → LocV l n K
  | .unb :: _, 0, _, _, h, _ => by cases h
  | .none :: _, 0, _, _, h, k => by cases h; exact k
  | .bool _ :: _, 0, _, _, h, k => by cases h; exact k
  | .int _ :: _, 0, _, _, h, k => by cases h; exact k
  | .ptr _ :: _, 0, _, _, h, k => by cases h; exact k
  | .fn _ :: _, 0, _, _, h, k => by cases h; exact k
  | _ :: l, n + 1, _, _, h, k => LocV_of (l := l) h k
  | [], _, _, _, h, _ => by simp at h
theorem AtV_ok : ∀ {l : List AV} {n : Nat} {K : AV → Prop}, AtV l n K → ∃ v, l[n]? = some v ∧ K v
  | v :: _, 0, _, h => ⟨v, rfl, h⟩
  | _ :: l, n + 1, K, h => AtV_ok (l := l) h
theorem SetA_ok : ∀ {xs : List Nat} {vs ρ : List AV} {K : List AV → Prop}, SetA xs vs ρ K → ∃ ρ', setAll xs vs ρ = some ρ' ∧ K ρ'
  | [], [], ρ, _, h => ⟨ρ, rfl, h⟩
  | x :: xs, v :: vs, ρ, K, h => by
    have := SetA_ok (xs := xs) (vs := vs) (K := K) h
    rw [setV_eq] at this; exact this
theorem IntV_ok {v : AV} {K : Int → Prop} (h : IntV v K) : ∃ i, v = .int i ∧ K i := by cases v <;> first | exact ⟨_, rfl, h⟩ | exact h.elim
theorem PtrV_ok {v : AV} {K : Nat → Prop} (h : PtrV v K) : ∃ i, v = .ptr i ∧ K i := by cases v <;> first | exact ⟨_, rfl, h⟩ | exact h.elim
theorem FnV_ok {v : AV} {K : Nat → Prop} (h : FnV v K) : ∃ i, v = .fn i ∧ K i := by cases v <;> first | exact ⟨_, rfl, h⟩ | exact h.elim
theorem NoneV_ok {v : AV} {P : Prop} (h : NoneV v P) : v = .none ∧ P := by cases v <;> first | exact ⟨rfl, h⟩ | exact h.elim
theorem bnd {α β : Type} {o : Option α} {f : α → Option β} {a : α} {r : Option β} (h : o = some a) (k : f a = r) : o.bind f = r := by subst h; exact k
theorem mpd {α β : Type} {o : Option α} {f : α → β} {a : α} (h : o = some a) : o.map f = some (f a) := by subst h; rfl
theorem IntD_ok {v : AV} {K : Int → Prop} {D : Prop} (h : IntD v K D) : (∃ i, v = .int i ∧ K i) ∨ D := by cases v <;> first | exact .inl ⟨_, rfl, h⟩ | exact .inr h
theorem IntD2 {x y : AV} {K : Int → Int → Prop} {D D' P : Prop} (h : IntD x (fun i => IntD y (K i) D) D) (h1 : ∀ i j, x = .int i → y = .int j → K i j → P) (h2 : D → P) : P := by
  rcases IntD_ok h with ⟨i, e, h⟩ | h
  · rcases IntD_ok h with ⟨j, e2, h⟩ | h
    · exact h1 i j e e2 h
    · exact h2 h
  · exact h2 h
theorem B2_ok {op : Bop} {x y : AV} (h : B2 op x y H Q) : O (binop op x y H) Q :=
  IntD2 (D' := True) h (fun i j e1 e2 ⟨k, e, q⟩ => by subst e1 e2; exact ⟨_, _, mpd e, q⟩) id
theorem Cm_ok {op : Cop} {x y : AV} {K : Bool → Prop} (h : Cm op x y H K) : ∃ t, cmpop op x y H = some t ∧ K t :=
  IntD2 (D' := True) h (fun i j e1 e2 q => by subst e1 e2; exact ⟨_, rfl, q⟩) id
theorem if_d {p : Prop} [Decidable p] {P1 P2 : Prop} (h : if p then P1 else P2) : if decide p = true then P1 else P2 := by
  by_cases q : p
  · rw [if_pos q] at h; rw [if_pos (decide_eq_true q)]; exact h
  · rw [if_neg q] at h; rw [if_neg (mt of_decide_eq_true q)]; exact h
theorem if_nd {p : Prop} [Decidable p] {P1 P2 : Prop} (h : if ¬p then P1 else P2) : if (!decide p) = true then P1 else P2 := by
  by_cases q : p
  · rw [if_neg (not_not_intro q)] at h; rw [decide_eq_true q]; exact h
  · rw [if_pos q] at h; rw [decide_eq_false q]; exact h
theorem IfC_ok {op : Cop} {x y : AV} {P1 P2 : Prop} (h : IfC op x y H P1 P2) : ∃ t, cmpop op x y H = some t ∧ if t = true then P1 else P2 :=
  IntD2 (D' := True) h (fun i j e1 e2 q => by
    subst e1 e2
    refine ⟨_, rfl, ?_⟩
    cases op <;> first | exact if_d q | exact if_nd q) id
theorem Br_ok {v : AV} {P1 P2 : Prop} (h : Br v P1 P2) : ∃ d, truth v = some d ∧ if d = true then P1 else P2 := by
  cases v <;> first | exact ⟨_, rfl, h⟩ | exact h.elim | (refine ⟨_, rfl, ?_⟩; simpa using h)
theorem AndV_ok {v : AV} {P1 P2 : Prop} (h : AndV v P1 P2) : ∃ d, truth v = some d ∧ if d = true then P1 else P2 := by
  cases v <;> first | exact ⟨_, rfl, h⟩ | exact h.elim | (refine ⟨_, rfl, ?_⟩; simpa using h)
theorem NotV_ok {v : AV} {K : AV → Prop} (h : NotV v K) : ∃ d, truth v = some d ∧ K (.bool (!d)) := by
  cases v <;> first | exact ⟨_, rfl, h⟩ | exact h.elim
theorem cap_eq : cap = 100000 := rfl
theorem fuel_eq : fuel = 1000000 := rfl
theorem LenN_ok : ∀ {l : List AV} {n : Nat} {P : Prop}, LenN l n P → l.length ≤ n ∧ P
  | [], _, _, h => ⟨Nat.zero_le _, h⟩
  | _ :: l, _ + 1, P, h => ⟨Nat.succ_le_succ (LenN_ok (l := l) (P := P) h).1, (LenN_ok (l := l) (P := P) h).2⟩
theorem LenOk_ok {l : List AV} {P : Prop} (h : LenOk l P) : l.length ≤ cap ∧ P := ⟨Nat.le_trans (LenN_ok h).1 (by rw [cap_eq]; exact Nat.le_of_ble_eq_true rfl), (LenN_ok h).2⟩
structure Snd (c : Nat → List AV → AH → Option (AV × AH)) (e : Ex) : Prop where
  v : ∀ ρ H Q, V c e ρ H Q → O (ev c e ρ H) Q
  s : ∀ ρ H Q, Vs c e ρ H Q → ∃ vs H', evs c e ρ H = some (vs, H') ∧ Q vs H'
  t : ∀ ρ H K1 K2, T c e ρ H K1 K2 → O (ev c e ρ H) fun v H' => ∃ d, truth v = some d ∧ if d = true then K1 H' else K2 H'
theorem wp_sound : ∀ e : Ex, Snd c e
  | .int _ => ⟨fun _ _ _ h => O_of h, fun _ _ _ h => h.elim, fun _ _ _ _ h => h.elim⟩
  | .bool _ => ⟨fun _ _ _ h => O_of h, fun _ _ _ h => h.elim, fun _ _ _ _ h => h.elim⟩
  | .glob _ => ⟨fun _ _ _ h => O_of h, fun _ _ _ h => h.elim, fun _ _ _ _ h => h.elim⟩
  | .omit => ⟨fun _ _ _ h => O_of h, fun _ _ _ h => h.elim, fun _ _ _ _ h => h.elim⟩
  | .loc i => ⟨fun ρ H Q h => by
      obtain ⟨v, e1, e2, q⟩ := LocV_ok h
      exact ⟨v, H, bnd e1 (mpd e2), q⟩, fun _ _ _ h => h.elim, fun ρ H K1 K2 h => by
      obtain ⟨v, e1, e2, q⟩ := LocV_ok h
      exact ⟨v, H, bnd e1 (mpd e2), Br_ok q⟩⟩
  | .bin op a b => ⟨fun ρ H Q h => O_bind (((wp_sound a).v _ _ _ h).mono fun _ _ h => O_bind (((wp_sound b).v _ _ _ h).mono fun _ _ h => B2_ok h)), fun _ _ _ h => h.elim, fun _ _ _ _ h => h.elim⟩
  | .cmp op a b => ⟨fun ρ H Q h => O_bind (((wp_sound a).v _ _ _ h).mono fun _ _ h => O_bind (((wp_sound b).v _ _ _ h).mono fun _ _ h => O_ask (Cm_ok h) fun _ h => h)), fun _ _ _ h => h.elim,
      fun ρ H K1 K2 h => O_bind (((wp_sound a).v _ _ _ h).mono fun _ _ h => O_bind (((wp_sound b).v _ _ _ h).mono fun _ _ h => O_ask (IfC_ok h) fun t h => ⟨t, rfl, h⟩))⟩
  | .neg a => ⟨fun ρ H Q h => O_bind (((wp_sound a).v _ _ _ h).mono fun _ _ h => by obtain ⟨i, rfl, q⟩ := IntV_ok h; exact O_of q), fun _ _ _ h => h.elim, fun _ _ _ _ h => h.elim⟩
  | .not a => ⟨fun ρ H Q h => O_bind (((wp_sound a).v _ _ _ h).mono fun _ _ h => O_ask (NotV_ok h) fun _ h => h), fun _ _ _ h => h.elim,
      fun ρ H K1 K2 h => O_bind (((wp_sound a).t _ _ _ _ h).mono fun _ _ h => O_ask h fun t h => ⟨!t, rfl, by cases t <;> exact h⟩)⟩
  | .and a b => ⟨fun ρ H Q h => O_bind (((wp_sound a).v _ _ _ h).mono fun v H1 h => by
      obtain ⟨d, e, h⟩ := AndV_ok h
      show O ((truth v).bind fun t => if t then ev c b ρ H1 else some (v, H1)) Q
      rw [e]
      cases d
      · exact O_of h
      · exact (wp_sound b).v _ _ _ h), fun _ _ _ h => h.elim,
      fun ρ H K1 K2 h => O_bind (((wp_sound a).t _ _ _ _ h).mono fun v H1 h => by
      obtain ⟨d, e, h⟩ := h
      show O ((truth v).bind fun t => if t then ev c b ρ H1 else some (v, H1)) _
      rw [e]
      cases d
      · exact O_of ⟨false, e, h⟩
      · exact (wp_sound b).t _ _ _ _ h)⟩
  | .ite t a b => ⟨fun ρ H Q h => O_bind (((wp_sound t).t _ _ _ _ h).mono fun v H1 h => by
      obtain ⟨d, e, h⟩ := h
      show O ((truth v).bind fun t => if t then ev c a ρ H1 else ev c b ρ H1) Q
      rw [e]
      cases d
      · exact (wp_sound b).v _ _ _ h
      · exact (wp_sound a).v _ _ _ h), fun _ _ _ h => h.elim, fun _ _ _ _ h => h.elim⟩
  | .nil => ⟨fun _ _ _ h => h.elim, fun _ _ _ h => ⟨_, _, rfl, h⟩, fun _ _ _ _ h => h.elim⟩
  | .cons e r => ⟨fun _ _ _ h => h.elim, fun ρ H Q h => by
      obtain ⟨v, H1, e1, h⟩ := (wp_sound e).v _ _ _ h
      obtain ⟨vs, H2, e2, h⟩ := (wp_sound r).s _ _ _ h
      exact ⟨v :: vs, H2, bnd e1 (bnd e2 rfl), h⟩, fun _ _ _ _ h => h.elim⟩
  | .list es => ⟨fun ρ H Q h => by
      obtain ⟨vs, H1, e, h⟩ := (wp_sound es).s _ _ _ h
      obtain ⟨h1, h2⟩ := LenOk_ok h
      exact ⟨_, _, bnd e (if_pos h1), h2⟩, fun _ _ _ h => h.elim, fun _ _ _ _ h => h.elim⟩
  | .tup es => ⟨fun ρ H Q h => by
      obtain ⟨vs, H1, e, h⟩ := (wp_sound es).s _ _ _ h
      obtain ⟨h1, h2⟩ := LenOk_ok h
      exact ⟨_, _, bnd e (if_pos h1), h2⟩, fun _ _ _ h => h.elim, fun _ _ _ _ h => h.elim⟩
  | .call f es => ⟨fun ρ H Q h => O_bind (((wp_sound f).v _ _ _ h).mono fun v H1 h => by
      obtain ⟨n, rfl, h⟩ := FnV_ok h
      obtain ⟨vs, H2, e, v, H3, e2, h⟩ := (wp_sound es).s _ _ _ h
      exact ⟨v, H3, bnd e e2, h⟩), fun _ _ _ h => h.elim, fun _ _ _ _ h => h.elim⟩
  | .len a => ⟨fun ρ H Q h => O_bind (((wp_sound a).v _ _ _ h).mono fun _ _ h => O_ask h fun _ h => h), fun _ _ _ h => h.elim, fun _ _ _ _ h => h.elim⟩
  | .abs a => ⟨fun ρ H Q h => O_bind (((wp_sound a).v _ _ _ h).mono fun _ _ h => by
      obtain ⟨i, rfl, q⟩ := IntV_ok h
      refine ⟨_, _, rfl, ?_⟩
      rw [show (if i < 0 then -i else i) = (i.natAbs : Int) by split <;> lia]; exact q), fun _ _ _ h => h.elim, fun _ _ _ _ h => h.elim⟩
  | .toInt a => ⟨fun ρ H Q h => O_bind (((wp_sound a).v _ _ _ h).mono fun _ _ h => by obtain ⟨i, rfl, q⟩ := IntV_ok h; exact O_of q), fun _ _ _ h => h.elim, fun _ _ _ _ h => h.elim⟩
  | .bitlen a => ⟨fun ρ H Q h => O_bind (((wp_sound a).v _ _ _ h).mono fun _ _ h => by obtain ⟨i, rfl, q⟩ := IntV_ok h; exact O_of q), fun _ _ _ h => h.elim, fun _ _ _ _ h => h.elim⟩
  | .min a b => ⟨fun ρ H Q h => O_bind (((wp_sound a).v _ _ _ h).mono fun _ _ h => O_bind (((wp_sound b).v _ _ _ h).mono fun _ _ h => O_ask (f := fun v => v) h fun _ h => h)), fun _ _ _ h => h.elim, fun _ _ _ _ h => h.elim⟩
  | .idx a b => ⟨fun ρ H Q h => O_bind (((wp_sound a).v _ _ _ h).mono fun _ _ h => O_bind (((wp_sound b).v _ _ _ h).mono fun _ _ h => O_ask (f := fun v => v) h fun _ h => h)), fun _ _ _ h => h.elim,
      fun ρ H K1 K2 h => O_bind (((wp_sound a).v _ _ _ h).mono fun _ _ h => O_bind (((wp_sound b).v _ _ _ h).mono fun _ _ h => O_ask (f := fun v => v) h fun _ h => Br_ok h))⟩
  | .slice a b d => ⟨fun ρ H Q h => O_bind (((wp_sound a).v _ _ _ h).mono fun _ _ h => O_bind (((wp_sound b).v _ _ _ h).mono fun _ _ h => O_bind (((wp_sound d).v _ _ _ h).mono fun _ _ h => h))), fun _ _ _ h => h.elim, fun _ _ _ _ h => h.elim⟩
  | .append o x => ⟨fun ρ H Q h => O_bind (((wp_sound o).v _ _ _ h).mono fun v H1 h => by
      obtain ⟨p, rfl, ⟨ys, e1⟩, h⟩ := PtrV_ok h
      obtain ⟨v, H2, e2, xs, e3, h1, h2, q⟩ := (wp_sound x).v _ _ _ h
      exact ⟨_, _, bnd e1 (bnd e2 (bnd e3 (if_pos ⟨h1, h2⟩))), q⟩), fun _ _ _ h => h.elim, fun _ _ _ _ h => h.elim⟩
  | .comp _ _ _ => ⟨fun _ _ _ h => h, fun _ _ _ h => h.elim, fun _ _ _ _ h => h.elim⟩
  | .compR _ _ _ => ⟨fun _ _ _ h => h, fun _ _ _ h => h.elim, fun _ _ _ _ h => h.elim⟩
  | .index _ _ => ⟨fun _ _ _ h => h, fun _ _ _ h => h.elim, fun _ _ _ _ h => h.elim⟩
  | .isin _ _ => ⟨fun _ _ _ h => h, fun _ _ _ h => h.elim, fun _ _ _ _ h => h.mono fun _ _ h => Br_ok h⟩
theorem V_sound {e : Ex} (h : V c e ρ H Q) : O (ev c e ρ H) Q := (wp_sound e).v _ _ _ h
theorem Vs_sound {e : Ex} {Q : List AV → AH → Prop} (h : Vs c e ρ H Q) : ∃ vs H', evs c e ρ H = some (vs, H') ∧ Q vs H' := (wp_sound e).s _ _ _ h

theorem Y_V {e : Ex} {s : St} {f : AV × AH → Option (Fl × List AV × AH)} (hs : ex c s ρ H = (ev c e ρ H).bind f) (h : V c e ρ H fun v H' => Y (fun _ _ => f (v, H')) ρ H N R) : Y (ex c s) ρ H N R := by
  obtain ⟨v, H', e1, fl, ρ', H1, e2, q⟩ := V_sound h
  exact ⟨fl, ρ', H1, by rw [hs, e1]; exact e2, q⟩
theorem Y_nxt {ρ0 ρ' : List AV} {H0 H' : AH} (h : N ρ' H') : Y (fun _ _ => some (.nxt, ρ', H')) ρ0 H0 N R := ⟨.nxt, _, _, rfl, h⟩
theorem V_mono {e : Ex} (h : V c e ρ H Q) (k : ∀ v H', Q v H' → Q' v H') : O (ev c e ρ H) Q' := (V_sound h).mono k
theorem X_sound : ∀ {s : St} {ρ : List AV} {H : AH} {N : List AV → AH → Prop} {R : AV → AH → Prop}, X c s ρ H N R → Y (ex c s) ρ H N R
  | .skip, _, _, _, _, h => ⟨.nxt, _, _, rfl, h⟩
  | .seq a b, ρ, H, N, R, h => by
    obtain ⟨fl, ρ1, H1, e, q⟩ := X_sound (s := a) h
    cases fl with
    | nxt =>
      obtain ⟨fl, ρ2, H2, e2, q⟩ := X_sound (s := b) q
      exact ⟨fl, ρ2, H2, bnd e e2, q⟩
    | ret v => exact ⟨.ret v, ρ1, H1, bnd e rfl, q⟩
  | .asg x e, ρ, H, N, R, h => by
    obtain ⟨v, H1, e1, q⟩ := V_sound h
    rw [setV_eq] at q
    exact ⟨.nxt, _, H1, bnd e1 rfl, q⟩
  | .asgs xs es, ρ, H, N, R, h => by
    obtain ⟨vs, H1, e1, q⟩ := Vs_sound h
    obtain ⟨ρ', e2, q⟩ := SetA_ok q
    exact ⟨.nxt, _, H1, bnd e1 (bnd e2 rfl), q⟩
  | .unpk xs e, ρ, H, N, R, h => by
    obtain ⟨v, H1, e1, q⟩ := V_sound h
    obtain ⟨p, rfl, vs, e2, q⟩ := PtrV_ok q
    obtain ⟨ρ', e3, q⟩ := SetA_ok q
    exact ⟨.nxt, _, H1, bnd e1 (bnd e2 (bnd e3 rfl)), q⟩
  | .put o i e, ρ, H, N, R, h => by
    obtain ⟨v, H1, e1, q⟩ := V_sound h
    obtain ⟨v2, H2, e2, q⟩ := V_sound q
    obtain ⟨v3, H3, e3, H4, e4, q⟩ := V_sound q
    exact ⟨.nxt, _, H4, bnd e1 (bnd e2 (bnd e3 (bnd e4 rfl))), q⟩
  | .swap o i p j e f, ρ, H, N, R, h => by
    obtain ⟨v, H1, e1, q⟩ := V_sound h
    obtain ⟨v2, H2, e2, q⟩ := V_sound q
    obtain ⟨v3, H3, e3, q⟩ := V_sound q
    obtain ⟨v4, H4, e4, H5, e5, q⟩ := V_sound q
    obtain ⟨v6, H6, e6, q⟩ := V_sound q
    obtain ⟨v7, H7, e7, H8, e8, q⟩ := V_sound q
    exact ⟨.nxt, _, H8, bnd e1 (bnd e2 (bnd e3 (bnd e4 (bnd e5 (bnd e6 (bnd e7 (bnd e8 rfl))))))), q⟩
  | .aug x op e, ρ, H, N, R, h => by
    obtain ⟨a, e0, h⟩ := AtV_ok h
    obtain ⟨v, H1, e1, h1⟩ := V_sound h
    obtain ⟨i, ei, h2⟩ := IntV_ok h1
    obtain ⟨j, ej, k, e2, q⟩ := IntV_ok h2
    subst ei ej
    rw [setV_eq] at q
    exact ⟨.nxt, _, H1, bnd e0 (bnd e1 (bnd e2 rfl)), q⟩
  | .iff t a b, ρ, H, N, R, h => by
    obtain ⟨v, H1, e1, d, e2, q⟩ := (wp_sound t).t _ _ _ _ h
    cases d with
    | true =>
      obtain ⟨fl, ρ', H', e3, q⟩ := X_sound (s := a) q
      exact ⟨fl, ρ', H', bnd e1 (bnd e2 e3), q⟩
    | false =>
      obtain ⟨fl, ρ', H', e3, q⟩ := X_sound (s := b) q
      exact ⟨fl, ρ', H', bnd e1 (bnd e2 e3), q⟩
  | .ret e, ρ, H, N, R, h => by
    obtain ⟨v, H1, e1, q⟩ := V_sound h
    exact ⟨.ret v, ρ, H1, bnd e1 rfl, q⟩
  | .expr e, ρ, H, N, R, h => by
    obtain ⟨v, H1, e1, q⟩ := V_sound h
    obtain ⟨rfl, q⟩ := NoneV_ok q
    exact ⟨.nxt, ρ, H1, bnd e1 rfl, q⟩
  | .whl _ _, _, _, _, _, h => h
  | .forR _ _ _, _, _, _, _, h => h
  | .forL _ _ _, _, _, _, _, h => h
  | .forE _ _ _ _, _, _, _, _, h => h
theorem forN_b {x : Nat} {b : Body} {st : Int} (I : Nat → List AV → AH → Prop) : ∀ (k : Nat) (j0 : Nat) (i : Int) (ρ : List AV) (H : AH), I j0 ρ H →
    (∀ j ρ H, j0 ≤ j → j < j0 + k → I j ρ H → Y b (ρ.set x (.int (i + ((j : Int) - j0) * st))) H (I (j + 1)) R) → (∀ ρ H, I (j0 + k) ρ H → N ρ H) → Y (forN x b st k i) ρ H N R
  | 0, j0, i, ρ, H, h0, _, hN => ⟨.nxt, ρ, H, rfl, hN ρ H h0⟩
  | k + 1, j0, i, ρ, H, h0, hs, hN => by
    obtain ⟨fl, ρ1, H1, e, q⟩ := hs j0 ρ H (Nat.le_refl _) (by lia) h0
    rw [show i + ((j0 : Int) - j0) * st = i by rw [Int.sub_self, Int.zero_mul, Int.add_zero]] at e
    cases fl with
    | nxt =>
      obtain ⟨fl, ρ2, H2, e2, q2⟩ := forN_b I k (j0 + 1) (i + st) ρ1 H1 q (fun j ρ H h1 h2 h3 => by
        have := hs j ρ H (by lia) (by lia) h3
        have e3 : i + ((j : Int) - j0) * st = i + st + ((j : Int) - (j0 + 1 : Nat)) * st := by
          have : ((j : Int) - j0) = 1 + ((j : Int) - (j0 + 1 : Nat)) := by lia
          rw [this, Int.add_mul, Int.one_mul, Int.add_assoc]
        rw [← e3]; exact this) (fun ρ H h => hN ρ H (by rw [show j0 + (k + 1) = j0 + 1 + k by lia]; exact h))
      exact ⟨fl, ρ2, H2, bnd e e2, q2⟩
    | ret v => exact ⟨.ret v, ρ1, H1, bnd e rfl, q⟩

theorem forN_rule {x : Nat} {b : St} {st : Int} (I : Nat → List AV → AH → Prop) (k : Nat) (j0 : Nat) (i : Int) (ρ : List AV) (H : AH) (h0 : I j0 ρ H)
    (hs : ∀ j ρ H, j0 ≤ j → j < j0 + k → I j ρ H → X c b (setV ρ x (.int (i + ((j : Int) - j0) * st))) H (I (j + 1)) R) (hN : ∀ ρ H, I (j0 + k) ρ H → N ρ H) : Y (forN x (ex c b) st k i) ρ H N R :=
  forN_b I k j0 i ρ H h0 (fun j ρ H h1 h2 h3 => by rw [← setV_eq]; exact X_sound (hs j ρ H h1 h2 h3)) hN
theorem X_forR {x : Nat} {args : Ex} {b : St} (h : Vs c args ρ H fun vs H1 => ∃ lo st k, rangeOf vs = some (lo, st, k) ∧ Y (forN x (ex c b) st k lo) ρ H1 N R) : Y (ex c (.forR x args b)) ρ H N R := by
  obtain ⟨vs, H1, e, lo, st, k, e2, fl, ρ', H', e3, q⟩ := Vs_sound h
  exact ⟨fl, ρ', H', bnd e (bnd e2 e3), q⟩

theorem forI_rule {x : Nat} {b : Body} {p : Nat} {xs : List AV} (I : Nat → List AV → AH → Prop) (hl : ∀ j ρ H, I j ρ H → listAt H p = some xs) (hs : ∀ j a ρ H, xs[j]? = some a → I j ρ H → Y b (ρ.set x a) H (I (j + 1)) R)
    (hN : ∀ ρ H, I xs.length ρ H → N ρ H) : ∀ (k : Nat) (j : Nat) (ρ : List AV) (H : AH), xs.length < j + k → j ≤ xs.length → I j ρ H → Y (forI x b p k j) ρ H N R
  | 0, j, ρ, H, h1, h2, _ => by lia
  | k + 1, j, ρ, H, h1, h2, h => by
    cases ha : xs[j]? with
    | none =>
      have : j = xs.length := by have := List.getElem?_eq_none_iff.mp ha; lia
      subst this
      exact ⟨.nxt, ρ, H, bnd (hl _ _ _ h) (by rw [ha]), hN _ _ h⟩
    | some a =>
      obtain ⟨fl, ρ1, H1, e, q⟩ := hs j a ρ H ha h
      have hj : j < xs.length := by
        rcases Nat.lt_or_ge j xs.length with h3 | h3
        · exact h3
        · rw [List.getElem?_eq_none h3] at ha; cases ha
      cases fl with
      | nxt =>
        obtain ⟨fl, ρ2, H2, e2, q2⟩ := forI_rule I hl hs hN k (j + 1) ρ1 H1 (by lia) (by lia) q
        exact ⟨fl, ρ2, H2, bnd (hl _ _ _ h) (by rw [ha]; exact bnd e e2), q2⟩
      | ret v => exact ⟨.ret v, ρ1, H1, bnd (hl _ _ _ h) (by rw [ha]; exact bnd e rfl), q⟩
theorem forEn_rule {x y : Nat} {b : Body} {p : Nat} {xs : List AV} (I : Nat → List AV → AH → Prop) (hl : ∀ j ρ H, I j ρ H → listAt H p = some xs) (hs : ∀ j a ρ H, xs[j]? = some a → I j ρ H → Y b ((ρ.set x (.int j)).set y a) H (I (j + 1)) R)
    (hN : ∀ ρ H, I xs.length ρ H → N ρ H) : ∀ (k : Nat) (j : Nat) (ρ : List AV) (H : AH), xs.length < j + k → j ≤ xs.length → I j ρ H → Y (forEn x y b p k j) ρ H N R
  | 0, j, ρ, H, h1, h2, _ => by lia
  | k + 1, j, ρ, H, h1, h2, h => by
    cases ha : xs[j]? with
    | none =>
      have : j = xs.length := by have := List.getElem?_eq_none_iff.mp ha; lia
      subst this
      exact ⟨.nxt, ρ, H, bnd (hl _ _ _ h) (by rw [ha]), hN _ _ h⟩
    | some a =>
      obtain ⟨fl, ρ1, H1, e, q⟩ := hs j a ρ H ha h
      have hj : j < xs.length := by
        rcases Nat.lt_or_ge j xs.length with h3 | h3
        · exact h3
        · rw [List.getElem?_eq_none h3] at ha; cases ha
      cases fl with
      | nxt =>
        obtain ⟨fl, ρ2, H2, e2, q2⟩ := forEn_rule I hl hs hN k (j + 1) ρ1 H1 (by lia) (by lia) q
        exact ⟨fl, ρ2, H2, bnd (hl _ _ _ h) (by rw [ha]; exact bnd e e2), q2⟩
      | ret v => exact ⟨.ret v, ρ1, H1, bnd (hl _ _ _ h) (by rw [ha]; exact bnd e rfl), q⟩
theorem X_forL {x : Nat} {e : Ex} {b : St} {xs : List AV} (I : Nat → List AV → AH → Prop) (h : V c e ρ H fun v H1 => PtrV v fun p => xs.length ≤ cap ∧ I 0 ρ H1 ∧ (∀ j ρ H, I j ρ H → listAt H p = some xs))
    (hs : ∀ j a ρ H, xs[j]? = some a → I j ρ H → X c b (setV ρ x a) H (I (j + 1)) R) (hN : ∀ ρ H, I xs.length ρ H → N ρ H) : Y (ex c (.forL x e b)) ρ H N R := by
  obtain ⟨v, H1, e1, h⟩ := V_sound h
  obtain ⟨p, rfl, hc, h0, hl⟩ := PtrV_ok h
  obtain ⟨fl, ρ', H', e3, q⟩ := forI_rule I hl (fun j a ρ H h1 h2 => by rw [← setV_eq]; exact X_sound (hs j a ρ H h1 h2)) hN fuel 0 ρ H1 (by rw [fuel_eq]; rw [cap_eq] at hc; lia) (Nat.zero_le _) h0
  exact ⟨fl, ρ', H', bnd e1 e3, q⟩
theorem X_forE {x y : Nat} {e : Ex} {b : St} {xs : List AV} (I : Nat → List AV → AH → Prop) (h : V c e ρ H fun v H1 => PtrV v fun p => frozen ≤ p ∧ xs.length ≤ cap ∧ I 0 ρ H1 ∧ (∀ j ρ H, I j ρ H → listAt H p = some xs))
    (hs : ∀ j a ρ H, xs[j]? = some a → I j ρ H → X c b (setV (setV ρ x (.int j)) y a) H (I (j + 1)) R) (hN : ∀ ρ H, I xs.length ρ H → N ρ H) : Y (ex c (.forE x y e b)) ρ H N R := by
  obtain ⟨v, H1, e1, h⟩ := V_sound h
  obtain ⟨p, rfl, hf, hc, h0, hl⟩ := PtrV_ok h
  obtain ⟨fl, ρ', H', e3, q⟩ := forEn_rule I hl (fun j a ρ H h1 h2 => by rw [← setV_eq, ← setV_eq]; exact X_sound (hs j a ρ H h1 h2)) hN fuel 0 ρ H1 (by rw [fuel_eq]; rw [cap_eq] at hc; lia) (Nat.zero_le _) h0
  exact ⟨fl, ρ', H', bnd e1 ((if_pos hf).trans e3), q⟩

theorem whl_rule {t : List AV → AH → Option (Bool × AH)} {b : Body} (I : Nat → List AV → AH → Prop) (hs : ∀ j ρ H, I j ρ H → ∃ d H1, t ρ H = some (d, H1) ∧ if d = true then Y b ρ H1 (fun ρ' H' => ∃ j', j' < j ∧ I j' ρ' H') R else N ρ H1) :
    ∀ (k : Nat) (j : Nat) (ρ : List AV) (H : AH), j < k → I j ρ H → Y (whlL t b k) ρ H N R
  | 0, j, _, _, h1, _ => by lia
  | k + 1, j, ρ, H, h1, h => by
    obtain ⟨d, H1, e, q⟩ := hs j ρ H h
    cases d with
    | false => exact ⟨.nxt, ρ, H1, bnd e rfl, q⟩
    | true =>
      obtain ⟨fl, ρ1, H2, e1, q⟩ := (q : Y b ρ H1 (fun ρ' H' => ∃ j', j' < j ∧ I j' ρ' H') R)
      cases fl with
      | nxt =>
        obtain ⟨j', hj, q⟩ := q
        obtain ⟨fl, ρ2, H3, e2, q2⟩ := whl_rule I hs k j' ρ1 H2 (by lia) q
        exact ⟨fl, ρ2, H3, bnd e (bnd e1 e2), q2⟩
      | ret v => exact ⟨.ret v, ρ1, H2, bnd e (bnd e1 rfl), q⟩
theorem X_whl {t : Ex} {b : St} (I : Nat → List AV → AH → Prop) (j0 : Nat) (hj : j0 < fuel) (h0 : I j0 ρ H)
    (hs : ∀ j ρ H, I j ρ H → T c t ρ H (fun H1 => X c b ρ H1 (fun ρ' H' => ∃ j', j' < j ∧ I j' ρ' H') R) (fun H1 => N ρ H1)) : Y (ex c (.whl t b)) ρ H N R := by
  obtain ⟨fl, ρ', H', e3, q⟩ := whl_rule (N := N) (R := R) (t := fun ρ H => (ev c t ρ H).bind fun r => (truth r.1).map fun c => (c, r.2)) (b := ex c b) I (fun j ρ H h => by
    obtain ⟨v, H1, e, d, e2, q⟩ := (wp_sound t).t _ _ _ _ (hs j ρ H h)
    refine ⟨d, H1, bnd e (mpd e2), ?_⟩
    cases d with
    | true => exact X_sound q
    | false => exact q) fuel j0 ρ H hj h0
  exact ⟨fl, ρ', H', e3, q⟩

theorem compN_rule {f : AV → AH → Option (AV × AH)} {st : Int} (I : Nat → List AV → AH → Prop) : ∀ (k j0 : Nat) (i : Int) (acc : List AV) (H : AH), I j0 acc H →
    (∀ j acc H, j0 ≤ j → j < j0 + k → I j acc H → O (f (.int (i + ((j : Int) - j0) * st)) H) fun v H' => I (j + 1) (acc ++ [v]) H') → ∃ vs H', compN f st k i H = some (vs, H') ∧ I (j0 + k) (acc ++ vs) H'
  | 0, j0, i, acc, H, h0, _ => ⟨[], H, rfl, by simpa using h0⟩
  | k + 1, j0, i, acc, H, h0, hs => by
    obtain ⟨v, H1, e, q⟩ := hs j0 acc H (Nat.le_refl _) (by lia) h0
    rw [show i + ((j0 : Int) - j0) * st = i by rw [Int.sub_self, Int.zero_mul, Int.add_zero]] at e
    obtain ⟨vs, H2, e2, q2⟩ := compN_rule I k (j0 + 1) (i + st) (acc ++ [v]) H1 q (fun j acc H h1 h2 h3 => by
      have := hs j acc H (by lia) (by lia) h3
      have e3 : i + ((j : Int) - j0) * st = i + st + ((j : Int) - (j0 + 1 : Nat)) * st := by
        have : ((j : Int) - j0) = 1 + ((j : Int) - (j0 + 1 : Nat)) := by lia
        rw [this, Int.add_mul, Int.one_mul, Int.add_assoc]
      rw [← e3]; exact this)
    exact ⟨v :: vs, H2, bnd e (bnd e2 rfl), by rw [show j0 + (k + 1) = j0 + 1 + k by lia]; simpa using q2⟩
theorem V_compR {x : Nat} {args elt : Ex} (I : Nat → List AV → AH → Prop) (h : Vs c args ρ H fun vs H1 => ∃ lo st k, rangeOf vs = some (lo, st, k) ∧ I 0 [] H1 ∧ (∀ j acc H, j < k → I j acc H → V c elt (setV ρ x (.int (lo + j * st))) H fun v H' => I (j + 1) (acc ++ [v]) H') ∧
    (∀ vs H2, I k vs H2 → vs.length ≤ cap ∧ Q (.ptr H2.length) (H2 ++ [.list vs]))) : O (ev c (.compR x args elt) ρ H) Q := by
  obtain ⟨vs, H1, e, lo, st, k, e2, h0, hs, hq⟩ := Vs_sound h
  obtain ⟨ws, H2, e3, q⟩ := compN_rule (f := fun a H => ev c elt (ρ.set x a) H) (st := st) I k 0 lo [] H1 h0 (fun j acc H _ h2 h3 => by
    have := V_sound (hs j acc H (by lia) h3)
    rw [show lo + ((j : Int) - (0 : Nat)) * st = lo + j * st by rw [Int.natCast_zero, Int.sub_zero]]
    rw [setV_eq] at this; exact this)
  rw [Nat.zero_add, List.nil_append] at q
  obtain ⟨q1, q2⟩ := hq _ _ q
  exact ⟨_, _, bnd e (bnd e2 (bnd e3 (if_pos q1))), q2⟩
theorem compL_rule {f : AV → AH → Option (AV × AH)} {p : Nat} {xs : List AV} (I : Nat → List AV → AH → Prop) (hl : ∀ j acc H, I j acc H → listAt H p = some xs) (hs : ∀ j a acc H, xs[j]? = some a → I j acc H → O (f a H) fun v H' => I (j + 1) (acc ++ [v]) H') :
    ∀ (k j : Nat) (acc : List AV) (H : AH), xs.length < j + k → j ≤ xs.length → I j acc H → ∃ vs H', compL f p k j H = some (vs, H') ∧ I xs.length (acc ++ vs) H'
  | 0, j, _, _, h1, h2, _ => by lia
  | k + 1, j, acc, H, h1, h2, h => by
    cases ha : xs[j]? with
    | none =>
      have : j = xs.length := by have := List.getElem?_eq_none_iff.mp ha; lia
      subst this
      exact ⟨[], H, bnd (hl _ _ _ h) (by rw [ha]), by simpa using h⟩
    | some a =>
      obtain ⟨v, H1, e, q⟩ := hs j a acc H ha h
      have hj : j < xs.length := by
        rcases Nat.lt_or_ge j xs.length with h3 | h3
        · exact h3
        · rw [List.getElem?_eq_none h3] at ha; cases ha
      obtain ⟨vs, H2, e2, q2⟩ := compL_rule I hl hs k (j + 1) (acc ++ [v]) H1 (by lia) (by lia) q
      exact ⟨v :: vs, H2, bnd (hl _ _ _ h) (by rw [ha]; exact bnd e (bnd e2 rfl)), by simpa using q2⟩
theorem V_comp {x : Nat} {src elt : Ex} {xs : List AV} (I : Nat → List AV → AH → Prop) (h : V c src ρ H fun v H1 => PtrV v fun p => xs.length ≤ cap ∧ I 0 [] H1 ∧ (∀ j acc H, I j acc H → listAt H p = some xs))
    (hs : ∀ j a acc H, xs[j]? = some a → I j acc H → V c elt (setV ρ x a) H fun v H' => I (j + 1) (acc ++ [v]) H') (hQ : ∀ vs H2, I xs.length vs H2 → vs.length ≤ cap ∧ Q (.ptr H2.length) (H2 ++ [.list vs])) : O (ev c (.comp x src elt) ρ H) Q := by
  obtain ⟨v, H1, e, h⟩ := V_sound h
  obtain ⟨p, rfl, hc, h0, hl⟩ := PtrV_ok h
  obtain ⟨ws, H2, e3, q⟩ := compL_rule (f := fun a H => ev c elt (ρ.set x a) H) I hl (fun j a acc H h1 h2 => by rw [← setV_eq]; exact V_sound (hs j a acc H h1 h2)) fuel 0 [] H1 (by rw [fuel_eq]; rw [cap_eq] at hc; lia) (Nat.zero_le _) h0
  rw [List.nil_append] at q
  obtain ⟨q1, q2⟩ := hQ _ _ q
  exact ⟨_, _, bnd e (bnd e3 (if_pos q1)), q2⟩
end

section
variable {c : Nat → List AV → AH → Option (AV × AH)} {R : AV → AH → Prop}
theorem OkV_mono {v : AV} {P P' : Prop} (h : OkV v P) (k : P → P') : OkV v P' := by cases v <;> first | exact k h | exact h
theorem LocV_mono {K K' : AV → Prop} (k : ∀ v, K v → K' v) : ∀ {l : List AV} {n : Nat}, LocV l n K → LocV l n K'
  | v :: _, 0, h => OkV_mono (P := K v) h (k _)
  | _ :: l, n + 1, h => LocV_mono k (l := l) h
theorem AtV_mono {K K' : AV → Prop} (k : ∀ v, K v → K' v) : ∀ {l : List AV} {n : Nat}, AtV l n K → AtV l n K'
  | _ :: _, 0, h => k _ h
  | _ :: l, n + 1, h => AtV_mono k (l := l) h
theorem SetA_mono {K K' : List AV → Prop} (k : ∀ v, K v → K' v) : ∀ {xs : List Nat} {vs ρ : List AV}, SetA xs vs ρ K → SetA xs vs ρ K'
  | [], [], _, h => k _ h
  | _ :: xs, _ :: vs, _, h => SetA_mono k (xs := xs) (vs := vs) h
theorem IntV_mono {v : AV} {K K' : Int → Prop} (k : ∀ i, K i → K' i) (h : IntV v K) : IntV v K' := by cases v <;> first | exact k _ h | exact h
theorem PtrV_mono {v : AV} {K K' : Nat → Prop} (k : ∀ i, K i → K' i) (h : PtrV v K) : PtrV v K' := by cases v <;> first | exact k _ h | exact h
theorem FnV_mono {v : AV} {K K' : Nat → Prop} (k : ∀ i, K i → K' i) (h : FnV v K) : FnV v K' := by cases v <;> first | exact k _ h | exact h
theorem NoneV_mono {v : AV} {P P' : Prop} (k : P → P') (h : NoneV v P) : NoneV v P' := by cases v <;> first | exact k h | exact h
theorem NotV_mono {v : AV} {K K' : AV → Prop} (k : ∀ i, K i → K' i) (h : NotV v K) : NotV v K' := by cases v <;> first | exact k _ h | exact h
theorem if_mono {p : Prop} [Decidable p] {P1 P2 P1' P2' : Prop} (k1 : P1 → P1') (k2 : P2 → P2') (h : if p then P1 else P2) : if p then P1' else P2' := by
  by_cases q : p
  · rw [if_pos q] at *; exact k1 h
  · rw [if_neg q] at *; exact k2 h
theorem Br_mono {v : AV} {P1 P2 P1' P2' : Prop} (k1 : P1 → P1') (k2 : P2 → P2') (h : Br v P1 P2) : Br v P1' P2' := by cases v <;> first | exact if_mono k1 k2 h | exact h
theorem AndV_mono {v : AV} {P1 P2 P1' P2' : Prop} (k1 : P1 → P1') (k2 : P2 → P2') (h : AndV v P1 P2) : AndV v P1' P2' := by cases v <;> first | exact if_mono k1 k2 h | exact h
theorem ask_mono {α : Type} {o : Option α} {P P' : α → Prop} (k : ∀ a, P a → P' a) (h : ∃ a, o = some a ∧ P a) : ∃ a, o = some a ∧ P' a := let ⟨a, e, q⟩ := h; ⟨a, e, k a q⟩
theorem IntD_mono {v : AV} {K K' : Int → Prop} {D D' : Prop} (k : ∀ i, K i → K' i) (k2 : D → D') (h : IntD v K D) : IntD v K' D' := by cases v <;> first | exact k2 h | exact k _ h
theorem B2_mono {op : Bop} {x y : AV} {H : AH} {Q Q' : AV → AH → Prop} (k : ∀ v H, Q v H → Q' v H) (h : B2 op x y H Q) : B2 op x y H Q' :=
  IntD_mono (fun _ h => IntD_mono (fun _ h => ask_mono (fun _ h => k _ _ h) h) (fun h => h.mono k) h) (fun h => h.mono k) h
theorem Cm_mono {op : Cop} {x y : AV} {H : AH} {K K' : Bool → Prop} (k : ∀ t, K t → K' t) (h : Cm op x y H K) : Cm op x y H K' :=
  IntD_mono (fun _ h => IntD_mono (fun _ h => k _ h) (ask_mono k) h) (ask_mono k) h
theorem IfC_mono {op : Cop} {x y : AV} {H : AH} {P1 P2 P1' P2' : Prop} (k1 : P1 → P1') (k2 : P2 → P2') (h : IfC op x y H P1 P2) : IfC op x y H P1' P2' :=
  IntD_mono (fun _ h => IntD_mono (fun _ h => by cases op <;> exact if_mono k1 k2 h) (ask_mono fun _ => if_mono k1 k2) h) (ask_mono fun _ => if_mono k1 k2) h
theorem LenN_mono {P P' : Prop} (k : P → P') : ∀ {l : List AV} {n : Nat}, LenN l n P → LenN l n P'
  | [], _, h => k h
  | _ :: l, _ + 1, h => LenN_mono k (l := l) h
theorem LenOk_mono {l : List AV} {P P' : Prop} (k : P → P') (h : LenOk l P) : LenOk l P' := LenN_mono k h
structure Mno (c : Nat → List AV → AH → Option (AV × AH)) (e : Ex) : Prop where
  v : ∀ {ρ H Q Q'}, (∀ v H', Q v H' → Q' v H') → V c e ρ H Q → V c e ρ H Q'
  s : ∀ {ρ H Q Q'}, (∀ v H', Q v H' → Q' v H') → Vs c e ρ H Q → Vs c e ρ H Q'
  t : ∀ {ρ H K1 K2 K1' K2'}, (∀ H', K1 H' → K1' H') → (∀ H', K2 H' → K2' H') → T c e ρ H K1 K2 → T c e ρ H K1' K2'
theorem wp_mono : ∀ e : Ex, Mno c e
  | .int _ => ⟨fun k h => k _ _ h, fun _ h => h, fun _ _ h => h⟩
  | .bool _ => ⟨fun k h => k _ _ h, fun _ h => h, fun _ _ h => h⟩
  | .glob _ => ⟨fun k h => k _ _ h, fun _ h => h, fun _ _ h => h⟩
  | .omit => ⟨fun k h => k _ _ h, fun _ h => h, fun _ _ h => h⟩
  | .loc i => ⟨fun k h => LocV_mono (fun _ h => k _ _ h) h, fun _ h => h, fun k1 k2 h => LocV_mono (fun _ h => Br_mono (k1 _) (k2 _) h) h⟩
  | .bin op a b => ⟨fun k h => (wp_mono a).v (fun _ _ h => (wp_mono b).v (fun _ _ h => B2_mono k h) h) h, fun _ h => h, fun _ _ h => h⟩
  | .cmp op a b => ⟨fun k h => (wp_mono a).v (fun _ _ h => (wp_mono b).v (fun _ _ h => Cm_mono (fun _ h => k _ _ h) h) h) h, fun _ h => h, fun k1 k2 h => (wp_mono a).v (fun _ _ h => (wp_mono b).v (fun _ _ h => IfC_mono (k1 _) (k2 _) h) h) h⟩
  | .neg a => ⟨fun k h => (wp_mono a).v (fun _ _ h => IntV_mono (fun _ h => k _ _ h) h) h, fun _ h => h, fun _ _ h => h⟩
  | .abs a => ⟨fun k h => (wp_mono a).v (fun _ _ h => IntV_mono (fun _ h => k _ _ h) h) h, fun _ h => h, fun _ _ h => h⟩
  | .toInt a => ⟨fun k h => (wp_mono a).v (fun _ _ h => IntV_mono (fun _ h => k _ _ h) h) h, fun _ h => h, fun _ _ h => h⟩
  | .bitlen a => ⟨fun k h => (wp_mono a).v (fun _ _ h => IntV_mono (fun _ h => k _ _ h) h) h, fun _ h => h, fun _ _ h => h⟩
  | .not a => ⟨fun k h => (wp_mono a).v (fun _ _ h => NotV_mono (fun _ h => k _ _ h) h) h, fun _ h => h, fun k1 k2 h => (wp_mono a).t k2 k1 h⟩
  | .and a b => ⟨fun k h => (wp_mono a).v (fun _ _ h => AndV_mono (fun h => (wp_mono b).v k h) (fun h => k _ _ h) h) h, fun _ h => h, fun k1 k2 h => (wp_mono a).t (fun _ h => (wp_mono b).t k1 k2 h) k2 h⟩
  | .ite t a b => ⟨fun k h => (wp_mono t).t (fun _ h => (wp_mono a).v k h) (fun _ h => (wp_mono b).v k h) h, fun _ h => h, fun _ _ h => h⟩
  | .nil => ⟨fun _ h => h, fun k h => k _ _ h, fun _ _ h => h⟩
  | .cons e r => ⟨fun _ h => h, fun k h => (wp_mono e).v (fun _ _ h => (wp_mono r).s (fun _ _ h => k _ _ h) h) h, fun _ _ h => h⟩
  | .list es => ⟨fun k h => (wp_mono es).s (fun _ _ h => LenOk_mono (k _ _) h) h, fun _ h => h, fun _ _ h => h⟩
  | .tup es => ⟨fun k h => (wp_mono es).s (fun _ _ h => LenOk_mono (k _ _) h) h, fun _ h => h, fun _ _ h => h⟩
  | .call f es => ⟨fun k h => (wp_mono f).v (fun _ _ h => FnV_mono (fun _ h => (wp_mono es).s (fun _ _ h => h.mono k) h) h) h, fun _ h => h, fun _ _ h => h⟩
  | .len a => ⟨fun k h => (wp_mono a).v (fun _ _ h => ask_mono (fun _ h => k _ _ h) h) h, fun _ h => h, fun _ _ h => h⟩
  | .min a b => ⟨fun k h => (wp_mono a).v (fun _ _ h => (wp_mono b).v (fun _ _ h => ask_mono (fun _ h => k _ _ h) h) h) h, fun _ h => h, fun _ _ h => h⟩
  | .idx a b => ⟨fun k h => (wp_mono a).v (fun _ _ h => (wp_mono b).v (fun _ _ h => ask_mono (fun _ h => k _ _ h) h) h) h, fun _ h => h, fun k1 k2 h => (wp_mono a).v (fun _ _ h => (wp_mono b).v (fun _ _ h => ask_mono (fun _ h => Br_mono (k1 _) (k2 _) h) h) h) h⟩
  | .slice a b d => ⟨fun k h => (wp_mono a).v (fun _ _ h => (wp_mono b).v (fun _ _ h => (wp_mono d).v (fun _ _ h => h.mono k) h) h) h, fun _ h => h, fun _ _ h => h⟩
  | .append o x => ⟨fun k h => (wp_mono o).v (fun _ _ h => PtrV_mono (fun _ h => ⟨h.1, (wp_mono x).v (fun _ _ h => let ⟨xs, a, b, d, q⟩ := h; ⟨xs, a, b, d, k _ _ q⟩) h.2⟩) h) h, fun _ h => h, fun _ _ h => h⟩
  | .comp _ _ _ => ⟨fun k h => h.mono k, fun _ h => h, fun _ _ h => h⟩
  | .compR _ _ _ => ⟨fun k h => h.mono k, fun _ h => h, fun _ _ h => h⟩
  | .index _ _ => ⟨fun k h => h.mono k, fun _ h => h, fun _ _ h => h⟩
  | .isin _ _ => ⟨fun k h => h.mono k, fun _ h => h, fun k1 k2 h => h.mono fun _ _ h => Br_mono (k1 _) (k2 _) h⟩
theorem X_mono : ∀ {s : St} {ρ : List AV} {H : AH} {N N' : List AV → AH → Prop}, (∀ ρ H, N ρ H → N' ρ H) → X c s ρ H N R → X c s ρ H N' R
  | .skip, _, _, _, _, k, h => k _ _ h
  | .seq a b, _, _, _, _, k, h => X_mono (s := a) (fun _ _ h => X_mono (s := b) k h) h
  | .asg _ e, _, _, _, _, k, h => (wp_mono e).v (fun _ _ h => k _ _ h) h
  | .asgs _ e, _, _, _, _, k, h => (wp_mono e).s (fun _ _ h => SetA_mono (fun _ h => k _ _ h) h) h
  | .unpk _ e, _, _, _, _, k, h => (wp_mono e).v (fun _ _ h => PtrV_mono (fun _ h => ask_mono (fun _ h => SetA_mono (fun _ h => k _ _ h) h) h) h) h
  | .put o i e, _, _, _, _, k, h => (wp_mono e).v (fun _ _ h => (wp_mono o).v (fun _ _ h => (wp_mono i).v (fun _ _ h => ask_mono (fun _ h => k _ _ h) h) h) h) h
  | .swap o i p j e f, _, _, _, _, k, h => (wp_mono e).v (fun _ _ h => (wp_mono f).v (fun _ _ h => (wp_mono o).v (fun _ _ h => (wp_mono i).v (fun _ _ h => ask_mono (fun _ h => (wp_mono p).v (fun _ _ h => (wp_mono j).v (fun _ _ h => ask_mono (fun _ h => k _ _ h) h) h) h) h) h) h) h) h
  | .aug _ _ e, _, _, _, _, k, h => AtV_mono (fun _ h => (wp_mono e).v (fun _ _ h => IntV_mono (fun _ h => IntV_mono (fun _ h => ask_mono (fun _ h => k _ _ h) h) h) h) h) h
  | .iff t a b, _, _, _, _, k, h => (wp_mono t).t (fun _ h => X_mono (s := a) k h) (fun _ h => X_mono (s := b) k h) h
  | .ret e, _, _, _, _, _, h => h
  | .expr e, _, _, _, _, k, h => (wp_mono e).v (fun _ _ h => NoneV_mono (k _ _) h) h
  | .whl _ _, _, _, _, _, k, h => h.mono k fun _ _ h => h
  | .forR _ _ _, _, _, _, _, k, h => h.mono k fun _ _ h => h
  | .forL _ _ _, _, _, _, _, k, h => h.mono k fun _ _ h => h
  | .forE _ _ _ _, _, _, _, _, k, h => h.mono k fun _ _ h => h
theorem X_cut {a b : St} {ρ : List AV} {H : AH} {M N : List AV → AH → Prop} (h : X c a ρ H M R) (k : ∀ ρ' H', M ρ' H' → X c b ρ' H' N R) : X c (.seq a b) ρ H N R := X_mono (s := a) k h
end
theorem ifp {p : Prop} [Decidable p] {A B : Prop} (h : p) (k : A) : if p then A else B := by rw [if_pos h]; exact k
theorem ifn {p : Prop} [Decidable p] {A B : Prop} (h : ¬p) (k : B) : if p then A else B := by rw [if_neg h]; exact k
theorem ifs {p : Prop} [Decidable p] {A B : Prop} (k1 : p → A) (k2 : ¬p → B) : if p then A else B := by
  by_cases h : p
  · rw [if_pos h]; exact k1 h
  · rw [if_neg h]; exact k2 h
theorem Cgen {c : Nat → List AV → AH → Option (AV × AH)} {f : Nat} {args : List AV} {H : AH} {Q : AV → AH → Prop} (h : ∀ Q' : AV → AH → Prop, (∀ v H', Q v H' → Q' v H') → C c f args H Q') : C c f args H Q := h Q fun _ _ h => h
theorem X_cutq {a b : St} {ρ : List AV} {H : AH} {M N : List AV → AH → Prop} {c : Nat → List AV → AH → Option (AV × AH)} {R : AV → AH → Prop} (h : ∀ M' : List AV → AH → Prop, (∀ ρ H, M ρ H → M' ρ H) → X c a ρ H M' R) (k : ∀ ρ' H', M ρ' H' → X c b ρ' H' N R) : X c (.seq a b) ρ H N R := X_cut (h M fun _ _ h => h) k
section
variable {c : Nat → List AV → AH → Option (AV × AH)} {ρ : List AV} {H : AH} {Q : AV → AH → Prop} {N : List AV → AH → Prop} {R : AV → AH → Prop}
theorem forN_ruleq {x : Nat} {b : St} {st : Int} (I : Nat → List AV → AH → Prop) (k : Nat) (j0 : Nat) (i : Int) (ρ : List AV) (H : AH) (h0 : I j0 ρ H)
    (hs : ∀ j ρ H, j0 ≤ j → j < j0 + k → I j ρ H → ∀ N' : List AV → AH → Prop, (∀ ρ H, I (j + 1) ρ H → N' ρ H) → X c b (setV ρ x (.int (i + ((j : Int) - j0) * st))) H N' R) (hN : ∀ ρ H, I (j0 + k) ρ H → N ρ H) : Y (forN x (ex c b) st k i) ρ H N R :=
  forN_rule I k j0 i ρ H h0 (fun j ρ H h1 h2 h3 => hs j ρ H h1 h2 h3 _ fun _ _ h => h) hN
theorem X_forLq {x : Nat} {e : Ex} {b : St} {xs : List AV} (I : Nat → List AV → AH → Prop) (h : V c e ρ H fun v H1 => PtrV v fun p => xs.length ≤ cap ∧ I 0 ρ H1 ∧ (∀ j ρ H, I j ρ H → listAt H p = some xs))
    (hs : ∀ j a ρ H, xs[j]? = some a → I j ρ H → ∀ N' : List AV → AH → Prop, (∀ ρ H, I (j + 1) ρ H → N' ρ H) → X c b (setV ρ x a) H N' R) (hN : ∀ ρ H, I xs.length ρ H → N ρ H) : Y (ex c (.forL x e b)) ρ H N R :=
  X_forL I h (fun j a ρ H h1 h2 => hs j a ρ H h1 h2 _ fun _ _ h => h) hN
theorem X_forEq {x y : Nat} {e : Ex} {b : St} {xs : List AV} (I : Nat → List AV → AH → Prop) (h : V c e ρ H fun v H1 => PtrV v fun p => frozen ≤ p ∧ xs.length ≤ cap ∧ I 0 ρ H1 ∧ (∀ j ρ H, I j ρ H → listAt H p = some xs))
    (hs : ∀ j a ρ H, xs[j]? = some a → I j ρ H → ∀ N' : List AV → AH → Prop, (∀ ρ H, I (j + 1) ρ H → N' ρ H) → X c b (setV (setV ρ x (.int j)) y a) H N' R) (hN : ∀ ρ H, I xs.length ρ H → N ρ H) : Y (ex c (.forE x y e b)) ρ H N R :=
  X_forE I h (fun j a ρ H h1 h2 => hs j a ρ H h1 h2 _ fun _ _ h => h) hN
theorem X_whlq {t : Ex} {b : St} (I : Nat → List AV → AH → Prop) (j0 : Nat) (hj : j0 < fuel) (h0 : I j0 ρ H)
    (hs : ∀ j ρ H, I j ρ H → ∀ N' : List AV → AH → Prop, (∀ ρ' H', (∃ j', j' < j ∧ I j' ρ' H') → N' ρ' H') → T c t ρ H (fun H1 => X c b ρ H1 N' R) (fun H1 => N ρ H1)) : Y (ex c (.whl t b)) ρ H N R :=
  X_whl I j0 hj h0 fun j ρ H h => hs j ρ H h _ fun _ _ h => h
theorem V_compRq {x : Nat} {args elt : Ex} (I : Nat → List AV → AH → Prop) (h : Vs c args ρ H fun vs H1 => ∃ lo st k, rangeOf vs = some (lo, st, k) ∧ I 0 [] H1 ∧ (∀ j acc H, j < k → I j acc H → ∀ Q' : AV → AH → Prop, (∀ v H', I (j + 1) (acc ++ [v]) H' → Q' v H') → V c elt (setV ρ x (.int (lo + j * st))) H Q') ∧
    (∀ vs H2, I k vs H2 → vs.length ≤ cap ∧ Q (.ptr H2.length) (H2 ++ [.list vs]))) : O (ev c (.compR x args elt) ρ H) Q :=
  V_compR I ((wp_mono args).s (fun _ _ h => let ⟨lo, st, k, e, h0, hs, hq⟩ := h; ⟨lo, st, k, e, h0, fun j acc H h1 h2 => hs j acc H h1 h2 _ fun _ _ h => h, hq⟩) h)
theorem V_compq {x : Nat} {src elt : Ex} {xs : List AV} (I : Nat → List AV → AH → Prop) (h : V c src ρ H fun v H1 => PtrV v fun p => xs.length ≤ cap ∧ I 0 [] H1 ∧ (∀ j acc H, I j acc H → listAt H p = some xs))
    (hs : ∀ j a acc H, xs[j]? = some a → I j acc H → ∀ Q' : AV → AH → Prop, (∀ v H', I (j + 1) (acc ++ [v]) H' → Q' v H') → V c elt (setV ρ x a) H Q') (hQ : ∀ vs H2, I xs.length vs H2 → vs.length ≤ cap ∧ Q (.ptr H2.length) (H2 ++ [.list vs])) : O (ev c (.comp x src elt) ρ H) Q :=
  V_comp I h (fun j a acc H h1 h2 => hs j a acc H h1 h2 _ fun _ _ h => h) hQ
end
theorem C_def {defs : List Df} {n f : Nat} {args : List AV} {H : AH} {Q : AV → AH → Prop} {D : Df} (h : defs[f]? = some D) (hl : args.length = D.params)
    (hx : X (callF defs n) D.body (args ++ List.replicate (D.names - D.params) .unb) H (fun _ H' => Q .none H') Q) : C (callF defs (n + 1)) f args H Q := by
  obtain ⟨fl, ρ', H', e, q⟩ := X_sound hx
  cases fl with
  | nxt => exact ⟨.none, H', bnd h ((if_pos hl).trans (bnd e rfl)), q⟩
  | ret v => exact ⟨v, H', bnd h ((if_pos hl).trans (bnd e rfl)), q⟩
end Mine
end

section
namespace Mine

structure Ext (H H' : AH) : Prop where
  len : H.length ≤ H'.length
  at_ : ∀ (i : Nat) (o : AO), H[i]? = some o → H'[i]? = some o

theorem lt_of_at {α : Type} {l : List α} {i : Nat} {a : α} (h : l[i]? = some a) : i < l.length := by
  rcases Nat.lt_or_ge i l.length with h1 | h1
  · exact h1
  · rw [List.getElem?_eq_none h1] at h; cases h
theorem Ext.refl (H : AH) : Ext H H := ⟨Nat.le_refl _, fun _ _ h => h⟩
theorem Ext.trans {H H' H'' : AH} (a : Ext H H') (b : Ext H' H'') : Ext H H'' := ⟨Nat.le_trans a.len b.len, fun i o h => b.at_ i o (a.at_ i o h)⟩
theorem Ext.push {H H' : AH} (a : Ext H H') (o : AO) : Ext H (H' ++ [o]) := ⟨by rw [List.length_append]; exact Nat.le_add_right_of_le a.len, fun i o' h => by
  rw [List.getElem?_append_left (lt_of_at (a.at_ i o' h))]; exact a.at_ i o' h⟩
theorem Ext.set {H H' : AH} (a : Ext H H') {p : Nat} (hp : H.length ≤ p) (o : AO) : Ext H (H'.set p o) := ⟨by rw [List.length_set]; exact a.len, fun i o' h => by
  rw [List.getElem?_set_ne (by have := lt_of_at h; lia)]; exact a.at_ i o' h⟩
theorem listAt_eq {H : AH} {p : Nat} {xs : List AV} : listAt H p = some xs ↔ H[p]? = some (.list xs) := by
  unfold listAt
  constructor
  · intro h; split at h
    · rename_i e; cases h; exact e
    · cases h
  · intro h; rw [h]
theorem tupAt_eq {H : AH} {p : Nat} {xs : List AV} : tupAt H p = some xs ↔ H[p]? = some (.tup xs) := by
  unfold tupAt
  constructor
  · intro h; split at h
    · rename_i e; cases h; exact e
    · cases h
  · intro h; rw [h]
theorem Ext.list {H H' : AH} (a : Ext H H') {p : Nat} {xs : List AV} (h : listAt H p = some xs) : listAt H' p = some xs := listAt_eq.mpr (a.at_ _ _ (listAt_eq.mp h))
theorem Ext.tup {H H' : AH} (a : Ext H H') {p : Nat} {xs : List AV} (h : tupAt H p = some xs) : tupAt H' p = some xs := tupAt_eq.mpr (a.at_ _ _ (tupAt_eq.mp h))
theorem list_lt {H : AH} {p : Nat} {xs : List AV} (h : listAt H p = some xs) : p < H.length := lt_of_at (listAt_eq.mp h)
theorem tup_lt {H : AH} {p : Nat} {xs : List AV} (h : tupAt H p = some xs) : p < H.length := lt_of_at (tupAt_eq.mp h)
theorem list_push {H : AH} {xs : List AV} : listAt (H ++ [.list xs]) H.length = some xs := listAt_eq.mpr (by simp)
theorem tup_push {H : AH} {xs : List AV} : tupAt (H ++ [.tup xs]) H.length = some xs := tupAt_eq.mpr (by simp)
theorem list_set {H : AH} {p : Nat} {xs ys : List AV} (h : listAt H p = some xs) : listAt (H.set p (.list ys)) p = some ys := listAt_eq.mpr (List.getElem?_set_self (list_lt h))
theorem list_set_ne {H : AH} {p q : Nat} {o : AO} (h : p ≠ q) : listAt (H.set p o) q = listAt H q := by unfold listAt; rw [List.getElem?_set_ne h]
theorem tup_set_ne {H : AH} {p q : Nat} {o : AO} (h : p ≠ q) : tupAt (H.set p o) q = tupAt H q := by unfold tupAt; rw [List.getElem?_set_ne h]

theorem item_list {H : AH} {p k : Nat} {xs : List AV} {v : AV} (h : listAt H p = some xs) (hk : xs[k]? = some v) (hc : xs.length ≤ cap) : item (.ptr p) (.int (k : Nat)) H = some v := by
  have hl := lt_of_at hk
  unfold item
  simp only [listAt_eq.mp h]
  rw [if_pos ⟨by lia, by lia, hc⟩]
  have : place xs.length (k : Int) = k := by unfold place; rw [if_neg (by lia)]; lia
  rw [this]; exact hk
theorem item_last {H : AH} {p k : Nat} {xs : List AV} {v : AV} (h : listAt H p = some xs) (hk : xs[k]? = some v) (hl : xs.length = k + 1) (hc : xs.length ≤ cap) : item (.ptr p) (.int (-1)) H = some v := by
  unfold item
  simp only [listAt_eq.mp h]
  rw [if_pos ⟨by lia, by lia, hc⟩]
  have : place xs.length (-1) = k := by unfold place; rw [if_pos (by lia)]; lia
  rw [this]; exact hk
theorem item_tup {H : AH} {p k : Nat} {xs : List AV} {v : AV} (h : tupAt H p = some xs) (hk : xs[k]? = some v) (hc : xs.length ≤ cap) : item (.ptr p) (.int (k : Nat)) H = some v := by
  have hl := lt_of_at hk
  unfold item
  simp only [tupAt_eq.mp h]
  rw [if_pos ⟨by lia, by lia, hc⟩, Int.toNat_natCast]; exact hk
theorem len_eq {H : AH} {p : Nat} {xs : List AV} (h : listAt H p = some xs) (hc : xs.length ≤ cap) : lenOf (.ptr p) H = some xs.length := by
  unfold lenOf; simp only [h, Option.bind_some, if_pos hc]
theorem put_eq {H : AH} {p k : Nat} {xs : List AV} {v : AV} (h : listAt H p = some xs) (hp : frozen ≤ p) (hk : k < xs.length) (hc : xs.length ≤ cap) : putAt (.ptr p) (.int (k : Nat)) v H = some (H.set p (.list (xs.set k v))) := by
  unfold putAt; simp only [if_pos hp, h, Option.bind_some]; rw [if_pos ⟨by lia, by lia, hc⟩, Int.toNat_natCast]
theorem cut_eq {H : AH} {p l h : Nat} {xs : List AV} {lo hi : AV} (hx : listAt H p = some xs) (hc : xs.length ≤ cap) (h1 : part 0 lo = some l) (h2 : part xs.length hi = some h) :
    cut (.ptr p) lo hi H = some (.ptr H.length, H ++ [.list ((xs.take h).drop l)]) := by
  unfold cut; simp only [hx, Option.bind_some, if_pos hc, h1, h2]
theorem cat_eq {H : AH} {p q : Nat} {xs ys : List AV} (h1 : listAt H p = some xs) (h2 : listAt H q = some ys) (hc : xs.length + ys.length ≤ cap) : binop .add (.ptr p) (.ptr q) H = some (.ptr H.length, H ++ [.list (xs ++ ys)]) := by
  unfold binop; simp only [h1, h2, if_pos hc]
theorem rep_eq {H : AH} {p n : Nat} {x : AV} (h1 : listAt H p = some [x]) (hp : frozen ≤ p) (hc : n ≤ cap) : binop .mul (.ptr p) (.int (n : Nat)) H = some (.ptr H.length, H ++ [.list (List.replicate n x)]) := by
  unfold binop; simp only [h1]; rw [if_pos ⟨hp, by lia, by lia⟩, Int.toNat_natCast]
theorem bin_int {op : Bop} {x y i : Int} {H : AH} (h : binI op x y = some i) : binop op (.int x) (.int y) H = some (.int i, H) := by
  unfold binop; simp only [h, Option.map_some]

theorem iAdd {a b : Nat} : binI .add (a : Nat) (b : Nat) = some ((a + b : Nat) : Int) := by simp [binI]
theorem iSub {a b : Nat} (h : b ≤ a) : binI .sub (a : Nat) (b : Nat) = some ((a - b : Nat) : Int) := by simp only [binI]; congr 1; lia
theorem iMul {a b : Nat} (h : a < big) : binI .mul (a : Nat) (b : Nat) = some ((a * b : Nat) : Int) := by
  simp only [binI, Int.natAbs_natCast, if_pos h]; congr 1
theorem iShl {a w : Nat} (h : a < big) (hw : w ≤ 1000000) : binI .shl (a : Nat) (w : Nat) = some ((a * 2 ^ w : Nat) : Int) := by
  simp only [binI, Int.natAbs_natCast, Int.toNat_natCast]; rw [if_pos ⟨by lia, by lia, h⟩]; congr 1
theorem iShr {a w : Nat} : binI .shr (a : Nat) (w : Nat) = some ((a / 2 ^ w : Nat) : Int) := by
  simp only [binI, Int.toNat_natCast]; rw [if_pos (by lia)]; congr 1
  rw [show ((2 : Int) ^ w) = ((2 ^ w : Nat) : Int) by simp]
  exact (Int.ofNat_fdiv a (2 ^ w)).symm
theorem iBand {a w : Nat} : binI .band (a : Nat) ((2 ^ w - 1 : Nat) : Int) = some ((a % 2 ^ w : Nat) : Int) := by
  simp only [binI, Int.toNat_natCast]; rw [if_pos ⟨by lia, by lia⟩, Nat.and_two_pow_sub_one_eq_mod]
theorem iDiv {a b : Nat} (h0 : 0 < b) (hb : b < 1073741824) : binI .fdiv (a : Nat) (b : Nat) = some ((a / b : Nat) : Int) := by
  simp only [binI, Int.natAbs_natCast]; rw [if_neg (by lia)]; exact congrArg some (Int.ofNat_fdiv a b).symm
theorem iMod {a b : Nat} (h0 : 0 < b) : binI .mod (a : Nat) (b : Nat) = some ((a % b : Nat) : Int) := by
  simp only [binI]; rw [if_neg (by lia), Int.fmod_eq_emod_of_nonneg _ (by lia)]; exact congrArg some (Int.natCast_emod a b).symm
theorem iBor {a b w : Nat} (hb : b < 2 ^ w) : binI .bor ((a * 2 ^ w : Nat) : Int) (b : Nat) = some ((a * 2 ^ w + b : Nat) : Int) := by
  simp only [binI, Int.toNat_natCast]; rw [if_pos ⟨by lia, by lia⟩]
  have := Nat.shiftLeft_add_eq_or_of_lt hb a
  rw [Nat.shiftLeft_eq] at this
  rw [this]

theorem cmp_int {op : Cop} {x y : Int} {H : AH} : cmpop op (.int x) (.int y) H = some (cmpI op x y) := rfl
theorem cmp_bool {x y : Bool} {H : AH} : cmpop .ne (.bool x) (.bool y) H = some (x != y) := rfl
theorem cmp_booleq {x y : Bool} {H : AH} : cmpop .eq (.bool x) (.bool y) H = some (x == y) := rfl
theorem O_bin {op : Bop} {x y : Int} {H : AH} {Q : AV → AH → Prop} : O (binop op (.int x) (.int y) H) Q ↔ ∃ i, binI op x y = some i ∧ Q (.int i) H :=
  ⟨fun ⟨v, H', e, q⟩ => by
    unfold binop at e
    obtain ⟨i, h1, h2⟩ := Option.map_eq_some_iff.mp e
    cases h2; exact ⟨i, h1, q⟩, fun ⟨i, e, q⟩ => ⟨_, _, bin_int e, q⟩⟩
theorem iSub1 {j : Nat} (h : 0 < j) : binI .sub (j : Nat) 1 = some ((j - 1 : Nat) : Int) := by simp only [binI]; congr 1; lia
theorem iMask {w : Nat} : binI .sub ((2 ^ w : Nat) : Int) 1 = some ((2 ^ w - 1 : Nat) : Int) := iSub1 (Nat.pow_pos (by decide))
theorem iShl1 {w : Nat} (h : w ≤ 8) : binI .shl 1 (w : Nat) = some ((2 ^ w : Nat) : Int) := by
  have := iShl (a := 1) (w := w) (by decide) (by lia)
  rw [Nat.one_mul] at this; exact this

noncomputable def nums (ds : List Nat) : List AV := ds.map fun d => .int (d : Nat)
noncomputable def DL (H : AH) (p : Nat) (ds : List Nat) : Prop := listAt H p = some (nums ds)
theorem nums_len (ds : List Nat) : (nums ds).length = ds.length := by simp [nums]
theorem nums_at {ds : List Nat} {i d : Nat} (h : ds[i]? = some d) : (nums ds)[i]? = some (.int (d : Nat)) := by simp [nums, h]
theorem nums_app (a b : List Nat) : nums (a ++ b) = nums a ++ nums b := by simp [nums]
theorem Ext.dl {H H' : AH} (a : Ext H H') {p : Nat} {ds : List Nat} (h : DL H p ds) : DL H' p ds := a.list h

noncomputable def va (B : Nat) : List Nat → Nat
  | [] => 0
  | d :: r => d + B * va B r
theorem va_append (B : Nat) : ∀ a b : List Nat, va B (a ++ b) = va B a + B ^ a.length * va B b
  | [], b => by simp [va]
  | d :: a, b => by
    simp only [List.cons_append, va, va_append B a b, List.length_cons, Nat.pow_succ]
    rw [Nat.mul_add, Nat.add_assoc, Nat.mul_comm (B ^ a.length) B, Nat.mul_assoc]
theorem va_snoc (B : Nat) (a : List Nat) (d : Nat) : va B (a ++ [d]) = va B a + B ^ a.length * d := by rw [va_append]; simp [va]
theorem va_lt {B : Nat} (hB : 0 < B) : ∀ {ds : List Nat}, (∀ d ∈ ds, d < B) → va B ds < B ^ ds.length
  | [], _ => by simp [va]
  | d :: r, h => by
    have h1 := h d (.head _)
    have h2 := va_lt hB fun x hx => h x (.tail _ hx)
    simp only [va, List.length_cons, Nat.pow_succ]
    calc d + B * va B r < B + B * va B r := by lia
      _ = B * (va B r + 1) := by rw [Nat.mul_add]; lia
      _ ≤ B * B ^ r.length := Nat.mul_le_mul_left _ h2
      _ = B ^ r.length * B := Nat.mul_comm _ _
structure Num (B : Nat) (ds : List Nat) (n : Nat) : Prop where
  small : ∀ d ∈ ds, d < B
  top : ds.getLast? ≠ some 0
  val : va B ds = n
theorem take_succ_at {α : Type} {l : List α} {i : Nat} {a : α} (h : l[i]? = some a) : l.take (i + 1) = l.take i ++ [a] := by
  rw [List.take_add_one, h]; rfl
theorem last_snoc {ds : List Nat} (h : ds ≠ []) : ∃ a d, ds = a ++ [d] := ⟨ds.dropLast, ds.getLast h, (List.dropLast_concat_getLast h).symm⟩
theorem Num.ge {B : Nat} {ds : List Nat} {n : Nat} (h : Num B ds n) (hne : ds ≠ []) : B ^ (ds.length - 1) ≤ n := by
  obtain ⟨a, d, rfl⟩ := last_snoc hne
  have := h.top
  simp at this
  rw [← h.val, va_snoc]
  have : B ^ a.length * 1 ≤ B ^ a.length * d := Nat.mul_le_mul_left _ (by lia)
  simp at *; lia
theorem Num.lt {B : Nat} (hB : 0 < B) {ds : List Nat} {n : Nat} (h : Num B ds n) : n < B ^ ds.length := h.val ▸ va_lt hB h.small
theorem Num.nil_iff {B : Nat} (hB : 0 < B) {ds : List Nat} {n : Nat} (h : Num B ds n) : ds = [] ↔ n = 0 := by
  constructor
  · rintro rfl; exact h.val.symm
  · intro e
    rcases Decidable.em (ds = []) with q | q
    · exact q
    · have := h.ge q
      have := Nat.pow_pos (n := ds.length - 1) hB
      lia
theorem va_inj {B : Nat} (hB : 0 < B) : ∀ {a b : List Nat}, (∀ d ∈ a, d < B) → (∀ d ∈ b, d < B) → a.length = b.length → va B a = va B b → a = b
  | [], [], _, _, _, _ => rfl
  | x :: a, y :: b, ha, hb, hl, h => by
    have h1 := ha x (.head _)
    have h2 := hb y (.head _)
    simp only [va] at h
    have e1 : (x + B * va B a) % B = x := by rw [Nat.add_mul_mod_self_left]; exact Nat.mod_eq_of_lt h1
    have e2 : (y + B * va B b) % B = y := by rw [Nat.add_mul_mod_self_left]; exact Nat.mod_eq_of_lt h2
    have e3 : x = y := by rw [← e1, ← e2, h]
    subst e3
    have e4 : va B a = va B b := Nat.eq_of_mul_eq_mul_left hB (by lia)
    rw [va_inj hB (fun d q => ha d (.tail _ q)) (fun d q => hb d (.tail _ q)) (by simpa using hl) e4]
theorem Num.inj {B : Nat} (hB : 1 < B) {a b : List Nat} {n : Nat} (ha : Num B a n) (hb : Num B b n) : a = b := by
  have hB0 : 0 < B := by lia
  have key : ∀ {a b : List Nat}, Num B a n → Num B b n → a.length ≤ b.length := fun {a b} ha hb => by
    rcases Decidable.em (a = []) with q | q
    · subst q; exact Nat.zero_le _
    · have h1 := ha.ge q
      have h2 := hb.lt hB0
      have h3 : a.length - 1 < b.length := (Nat.pow_lt_pow_iff_right hB).mp (Nat.lt_of_le_of_lt h1 h2)
      lia
  exact va_inj hB0 ha.small hb.small (Nat.le_antisymm (key ha hb) (key hb ha)) (ha.val.trans hb.val.symm)
theorem Num.len_le {B : Nat} (hB : 1 < B) {a : List Nat} {n k : Nat} (ha : Num B a n) (h : n < B ^ k) : a.length ≤ k := by
  rcases Decidable.em (a = []) with q | q
  · subst q; exact Nat.zero_le _
  · have h3 : a.length - 1 < k := (Nat.pow_lt_pow_iff_right hB).mp (Nat.lt_of_le_of_lt (ha.ge q) h)
    lia
theorem dig_zero {d : Nat} : AV.int (d : Nat) = .int (d : Nat) := rfl
end Mine
end

section
namespace Mine
theorem dl_len {H : AH} {p : Nat} {ds : List Nat} (h : DL H p ds) (hc : ds.length ≤ cap) : lenOf (.ptr p) H = some ds.length := by rw [len_eq h (by rw [nums_len]; exact hc), nums_len]
theorem dl_item {H : AH} {p k d : Nat} {ds : List Nat} (h : DL H p ds) (hk : ds[k]? = some d) (hc : ds.length ≤ cap) : item (.ptr p) (.int (k : Nat)) H = some (.int (d : Nat)) := item_list h (nums_at hk) (by rw [nums_len]; exact hc)
theorem dl_put {H : AH} {p k d : Nat} {ds : List Nat} (h : DL H p ds) (hp : frozen ≤ p) (hk : k < ds.length) (hc : ds.length ≤ cap) : putAt (.ptr p) (.int (k : Nat)) (.int (d : Nat)) H = some (H.set p (.list (nums (ds.set k d)))) := by
  rw [put_eq h hp (by rw [nums_len]; exact hk) (by rw [nums_len]; exact hc)]; simp [nums, List.map_set]
theorem dl_push {H : AH} {ds : List Nat} : DL (H ++ [.list (nums ds)]) H.length ds := list_push
theorem dl_set {H : AH} {p : Nat} {ds es : List Nat} (h : DL H p ds) : DL (H.set p (.list (nums es))) p es := list_set h
theorem dl_app {d : Nat} {ds : List Nat} : nums ds ++ [.int (d : Nat)] = nums (ds ++ [d]) := by simp [nums]
theorem cap_fuel {n : Nat} (h : n ≤ cap) : n < fuel := by rw [fuel_eq]; rw [cap_eq] at h; lia
theorem at_lt {α : Type} {l : List α} {i : Nat} (h : i < l.length) : ∃ a, l[i]? = some a := ⟨_, List.getElem?_eq_getElem h⟩
theorem mem_at {α : Type} {l : List α} {i : Nat} {a : α} (h : l[i]? = some a) : a ∈ l := List.mem_of_getElem? h

theorem normal_ok {n B : Nat} {H : AH} {p : Nat} {ds : List Nat} (hp : DL H p ds) (hc : ds.length ≤ cap) (hd : ∀ d ∈ ds, d < B) :
    C (callF defs (n + 1)) 0 [.ptr p] H fun v H' => ∃ es, v = .ptr H.length ∧ H' = H ++ [.list (nums es)] ∧ Num B es (va B ds) ∧ es.length ≤ ds.length := by
  refine Cgen fun Qz hQz => ?_
  refine C_def (D := ⟨1, 2, bNormal⟩) rfl rfl ?_
  show X _ bNormal [.ptr p, .unb] H _ _
  unfold bNormal
  refine ⟨_, dl_len hp hc, ?_⟩
  refine X_whl (fun j ρ G => A4 (ρ = [.ptr p, .int (j : Nat)]) (G = H) (j ≤ ds.length) (va B (ds.take j) = va B ds)) ds.length (cap_fuel hc) ⟨rfl, rfl, Nat.le_refl _, by rw [List.take_length]⟩ ?_
  rintro j ρ G ⟨rfl, rfl, hj, hv⟩
  have fin : (ds.take j).getLast? ≠ some 0 → ∃ es, AV.ptr G.length = .ptr G.length ∧ G ++ [.list (((nums ds).take j).drop 0)] = G ++ [.list (nums es)] ∧ Num B es (va B ds) ∧ es.length ≤ ds.length := fun ht =>
    ⟨ds.take j, rfl, by rw [List.drop_zero]; simp [nums], ⟨fun d q => hd d (List.mem_of_mem_take q), ht, hv⟩, by rw [List.length_take]; exact Nat.min_le_right _ _⟩
  have cutE : cut (.ptr p) .none (.int (j : Nat)) G = some (.ptr G.length, G ++ [.list (((nums ds).take j).drop 0)]) :=
    cut_eq hp (by rw [nums_len]; exact hc) rfl (by simp [part])
  rcases Nat.eq_zero_or_pos j with h0 | h0
  · subst h0
    (with_reducible conv => whnf)
    refine ifn (by simp) ?_
    refine ⟨_, _, cutE, ?_⟩
    exact hQz _ _ (fin (by simp))
  · obtain ⟨a, ha⟩ := at_lt (l := ds) (i := j - 1) (by lia)
    have hs : ds.take j = ds.take (j - 1) ++ [a] := by
      have := take_succ_at ha
      rw [Nat.sub_add_cancel h0] at this; exact this
    (with_reducible conv => whnf)
    refine ifp (by lia) ?_
    refine ⟨_, iSub1 h0, _, dl_item hp ha hc, ?_⟩
    (with_reducible conv => whnf)
    refine ifs (fun _ => ?_) (fun _ => ?_)
    · rename_i ha0
      have ha0 : a = 0 := by lia
      subst ha0
      refine ⟨_, iSub1 h0, j - 1, by lia, rfl, rfl, by lia, ?_⟩
      rw [← hv, hs, va_snoc, Nat.mul_zero, Nat.add_zero]
    · rename_i ha0
      refine ⟨_, _, cutE, ?_⟩
      refine hQz _ _ (fin ?_)
      rw [hs]; simp; lia
end Mine
end

section
namespace Mine
inductive New (B : Nat) (H : AH) (x : Nat) (v : AV) (H' : AH) : Prop
  | mk (h0 : Ext H H') (q : Nat) (ds : List Nat) (h1 : v = .ptr q) (h2 : H.length ≤ q) (h3 : DL H' q ds) (h4 : Num B ds x) : New B H x v H'

theorem nat_of_ok {n w x : Nat} {H : AH} (hH : frozen ≤ H.length) (hw1 : 1 ≤ w) (hw : w ≤ 8) (hx : x < 2 ^ 1000) :
    C (callF defs (n + 1)) 1 [.int (x : Nat), .int (w : Nat)] H (New (2 ^ w) H x) := by
  have hB : 0 < 2 ^ w := Nat.pow_pos (by decide)
  have hB2 : 2 ≤ 2 ^ w := by
    have : 2 ^ 1 ≤ 2 ^ w := Nat.pow_le_pow_right (by decide) hw1
    simpa using this
  refine Cgen fun Qz hQz => ?_
  refine C_def (D := ⟨2, 4, bNatOf⟩) rfl rfl ?_
  show X _ bNatOf [.int (x : Nat), .int (w : Nat), .unb, .unb] H _ _
  unfold bNatOf
  (with_reducible conv => whnf)
  refine ifn (by lia) ?_
  refine ⟨_, iShl1 hw, _, iMask, ?_⟩
  refine X_whl (fun j ρ G => E2 fun y ds => A8 (ρ = [.int (y : Nat), .int (w : Nat), .ptr H.length, .int ((2 ^ w - 1 : Nat) : Int)]) (Ext H G) (DL G H.length ds) ((∀ d ∈ ds, d < 2 ^ w)) (va (2 ^ w) ds + (2 ^ w) ^ ds.length * y = x) (y < (2 ^ w) ^ j) (ds.length + j ≤ 1000) ((y = 0 → ds.getLast? ≠ some 0))) 1000 (by rw [fuel_eq]; decide)
    ⟨x, [], rfl, (Ext.refl H).push _, dl_push (ds := []), by simp, by simp [va], ?_, by simp, by simp⟩ ?_
  · rw [← Nat.pow_mul]; exact Nat.lt_of_lt_of_le hx (Nat.pow_le_pow_right (by decide) (by lia))
  rintro j ρ G ⟨y, ds, rfl, hE, hD, hd, hv, hy, hl, ht⟩
  (with_reducible conv => whnf)
  refine ifs (fun _ => ?_) (fun _ => ?_)
  · rename_i hy0
    have hy0 : 0 < y := by lia
    refine ⟨⟨_, hD⟩, _, iBand, _, hD, hH, by rw [nums_len, cap_eq]; lia, _, iShr, ?_⟩
    obtain ⟨j, rfl⟩ : ∃ i, j = i + 1 := ⟨j - 1, by
      have : j ≠ 0 := fun q => by subst q; rw [Nat.pow_zero] at hy; lia
      lia⟩
    rw [dl_app]
    refine ⟨j, by lia, _, _, rfl, hE.set (Nat.le_refl _) _, dl_set hD, ?_, ?_, ?_, ?_, ?_⟩
    · intro d hq
      rcases List.mem_append.mp hq with hq | hq
      · exact hd d hq
      · rw [List.mem_singleton.mp hq]; exact Nat.mod_lt _ hB
    · rw [va_snoc, List.length_append, List.length_singleton, Nat.pow_succ, ← hv, Nat.add_assoc, Nat.mul_assoc, ← Nat.mul_add, Nat.mod_add_div]
    · rw [Nat.pow_succ] at hy
      exact Nat.div_lt_of_lt_mul (by rw [Nat.mul_comm]; exact hy)
    · rw [List.length_append, List.length_singleton]; lia
    · intro h0
      have : y < 2 ^ w := (Nat.div_eq_zero_iff_lt hB).mp h0
      simp [Nat.mod_eq_of_lt this]; lia
  · rename_i hy0
    have hy0 : y = 0 := by lia
    subst hy0
    exact hQz _ _ ⟨hE, _, ds, rfl, Nat.le_refl _, hD, hd, ht rfl, by rw [← hv, Nat.mul_zero, Nat.add_zero]⟩
end Mine
end

section
namespace Mine
theorem range_down {n : Nat} (h : n ≤ cap) : rangeOf [.int ((n : Int) - 1), .int (-1), .int (-1)] = some ((n : Int) - 1, -1, n) := by
  rw [cap_eq] at h
  simp only [rangeOf]
  rw [if_pos ⟨trivial, by lia, by rw [cap_eq]; lia, by lia, by rw [cap_eq]; lia⟩]
  have : ((n : Int) - 1 - -1).toNat = n := by lia
  rw [this]
theorem range_up {n : Nat} (h : n ≤ cap) : rangeOf [.int (n : Nat)] = some (0, 1, n) := by
  rw [cap_eq] at h
  simp only [rangeOf]
  rw [if_pos ⟨by lia, by rw [cap_eq]; lia⟩, Int.toNat_natCast]
theorem range_two {l n : Nat} (h : n ≤ cap) (hl : l ≤ cap) : rangeOf [.int (l : Nat), .int (n : Nat)] = some ((l : Int), 1, n - l) := by
  rw [cap_eq] at h hl
  simp only [rangeOf]
  rw [if_pos ⟨by lia, by rw [cap_eq]; lia, by lia, by rw [cap_eq]; lia⟩]
  have : ((n : Int) - (l : Int)).toNat = n - l := by lia
  rw [this]

theorem split_at {a : List Nat} {k d : Nat} (h : a[k]? = some d) : a = a.take k ++ d :: a.drop (k + 1) := by
  have hl := lt_of_at h
  rw [List.getElem?_eq_getElem hl] at h
  cases h
  rw [List.getElem_cons_drop, List.take_append_drop]
theorem drop_at_cons {α : Type} {a : List α} {k : Nat} {d : α} (h : a[k]? = some d) : a.drop k = d :: a.drop (k + 1) := by
  have hl := lt_of_at h
  rw [List.getElem?_eq_getElem hl] at h
  cases h
  rw [List.getElem_cons_drop]
theorem va_split {B : Nat} {a : List Nat} {k d : Nat} (h : a[k]? = some d) : va B a = va B (a.take k) + B ^ k * (d + B * va B (a.drop (k + 1))) := by
  have hl := lt_of_at h
  have e := split_at h
  have : va B a = va B (a.take k ++ d :: a.drop (k + 1)) := congrArg (va B) e
  rw [this, va_append, List.length_take, Nat.min_eq_left (Nat.le_of_lt hl)]; rfl
theorem va_less {B : Nat} (hB : 0 < B) {a b : List Nat} {k d e : Nat} (ha : ∀ d ∈ a, d < B) (h1 : a[k]? = some d) (h2 : b[k]? = some e) (hlt : d < e) (ht : a.drop (k + 1) = b.drop (k + 1)) : va B a < va B b := by
  rw [va_split h1, va_split h2, ht]
  have h3 := va_lt hB (ds := a.take k) fun x hx => ha x (List.mem_of_mem_take hx)
  rw [List.length_take, Nat.min_eq_left (Nat.le_of_lt (lt_of_at h1))] at h3
  generalize va B (b.drop (k + 1)) = D at *
  generalize va B (a.take k) = L at *
  have h4 : B ^ k * (d + 1 + B * D) ≤ B ^ k * (e + B * D) := Nat.mul_le_mul_left _ (by lia)
  have h5 : B ^ k * (d + 1 + B * D) = B ^ k * (d + B * D) + B ^ k := by rw [show d + 1 + B * D = (d + B * D) + 1 by lia, Nat.mul_succ]
  lia
theorem Num.less_len {B : Nat} (hB : 1 < B) {a b : List Nat} {x y : Nat} (ha : Num B a x) (hb : Num B b y) (h : a.length < b.length) : x < y := by
  have h1 := ha.lt (by lia)
  have hne : b ≠ [] := fun q => by subst q; simp at h
  have h2 := hb.ge hne
  have h3 : B ^ a.length ≤ B ^ (b.length - 1) := Nat.pow_le_pow_right (by lia) (by lia)
  lia

noncomputable def sgn3 (x y : Nat) : Int := if x < y then -1 else if x = y then 0 else 1

theorem compare_ok {n B x y : Nat} {H : AH} {p q : Nat} {a b : List Nat} (hB : 1 < B) (hp : DL H p a) (hq : DL H q b) (ha : Num B a x) (hb : Num B b y) (hla : a.length ≤ cap) (hlb : b.length ≤ cap) :
    C (callF defs (n + 1)) 2 [.ptr p, .ptr q] H fun v H' => v = .int (sgn3 x y) ∧ H' = H := by
  refine Cgen fun Qz hQz => ?_
  refine C_def (D := ⟨2, 3, bCompare⟩) rfl rfl ?_
  show X _ bCompare [.ptr p, .ptr q, .unb] H _ _
  unfold bCompare
  refine ⟨_, dl_len hp hla, _, dl_len hq hlb, ?_⟩
  (with_reducible conv => whnf)
  refine ifs (fun _ => ?_) (fun _ => ?_)
  · rename_i hne
    have hne : a.length ≠ b.length := by lia
    refine ⟨_, dl_len hp hla, _, dl_len hq hlb, ?_⟩
    (with_reducible conv => whnf)
    refine ifs (fun _ => ?_) (fun _ => ?_)
    · rename_i hlt
      have := ha.less_len hB hb (by lia)
      exact hQz _ _ ⟨by rw [sgn3, if_pos this], rfl⟩
    · have := hb.less_len hB ha (by lia)
      exact hQz _ _ ⟨by rw [sgn3, if_neg (by lia), if_neg (by lia)], rfl⟩
  · rename_i heq
    have heq : a.length = b.length := by lia
    refine X_forR ?_
    refine ⟨_, dl_len hp hla, _, rfl, _, _, _, range_down hla, ?_⟩
    refine forN_ruleq (fun j ρ G => ∃ z, A4 (ρ = [.ptr p, .ptr q, z]) (G = H) (j ≤ a.length) (a.drop (a.length - j) = b.drop (a.length - j))) a.length 0 _ _ _ ⟨_, rfl, rfl, Nat.zero_le _, ?_⟩ ?_ ?_
    · rw [Nat.sub_zero, List.drop_length, heq, List.drop_length]
    · rintro j ρ G _ hj ⟨z, rfl, rfl, hj2, hd⟩
      intro Nq hNq
      obtain ⟨k, hk⟩ : ∃ k : Nat, a.length = j + k + 1 := ⟨a.length - j - 1, by lia⟩
      have hi : ((a.length : Int) - 1 + ((j : Int) - (0 : Nat)) * -1) = ((k : Nat) : Int) := by lia
      rw [hi]
      obtain ⟨d, h1⟩ := at_lt (l := a) (i := k) (by lia)
      obtain ⟨e, h2⟩ := at_lt (l := b) (i := k) (by lia)
      rw [show a.length - j = k + 1 by lia] at hd
      refine ⟨_, dl_item hp h1 hla, _, dl_item hq h2 hlb, ?_⟩
      (with_reducible conv => whnf)
      refine ifs (fun _ => ?_) (fun _ => ?_)
      · rename_i hne
        have hne : d ≠ e := by lia
        refine ⟨_, dl_item hp h1 hla, _, dl_item hq h2 hlb, ?_⟩
        (with_reducible conv => whnf)
        refine ifs (fun _ => ?_) (fun _ => ?_)
        · rename_i hlt
          have := va_less (by lia) ha.small h1 h2 (by lia) hd
          rw [ha.val, hb.val] at this
          exact hQz _ _ ⟨by rw [sgn3, if_pos this], rfl⟩
        · rename_i hlt
          have := va_less (by lia) hb.small h2 h1 (by lia) hd.symm
          rw [ha.val, hb.val] at this
          exact hQz _ _ ⟨by rw [sgn3, if_neg (by lia), if_neg (by lia)], rfl⟩
      · rename_i he
        have he : d = e := by lia
        subst he
        refine hNq _ _ ⟨_, rfl, rfl, by lia, ?_⟩
        rw [show a.length - (j + 1) = k by lia, drop_at_cons h1, drop_at_cons h2, hd]
    · rintro ρ G ⟨z, rfl, rfl, _, hd⟩
      rw [Nat.zero_add, Nat.sub_self, List.drop_zero, List.drop_zero] at hd
      subst hd
      have := ha.val.symm.trans hb.val
      exact hQz _ _ ⟨by rw [sgn3, if_neg (by lia), if_pos this], rfl⟩
end Mine
end

section
namespace Mine
theorem carry_step (B P V s : Nat) : V + P * (s % B) + P * B * (s / B) = V + P * s := by
  rw [Nat.mul_assoc, Nat.add_assoc, ← Nat.mul_add, Nat.mod_add_div]
theorem top_of_ge {B : Nat} (hB : 0 < B) {ds : List Nat} (hd : ∀ d ∈ ds, d < B) (h : ds ≠ [] → B ^ (ds.length - 1) ≤ va B ds) : ds.getLast? ≠ some 0 := by
  rcases Decidable.em (ds = []) with q | q
  · subst q; simp
  · have h1 := h q
    obtain ⟨a, d, rfl⟩ := last_snoc q
    intro h2
    simp at h2
    subst h2
    rw [va_snoc, Nat.mul_zero, Nat.add_zero] at h1
    have := va_lt hB (ds := a) fun x hx => hd x (List.mem_append_left _ hx)
    simp at h1; lia
theorem small_app {B : Nat} {ds : List Nat} {d : Nat} (h : ∀ x ∈ ds, x < B) (hd : d < B) : ∀ x ∈ ds ++ [d], x < B := fun x hx => by
  rcases List.mem_append.mp hx with hx | hx
  · exact h x hx
  · rw [List.mem_singleton.mp hx]; exact hd
theorem two_le {w : Nat} (h : 1 ≤ w) : 2 ≤ 2 ^ w := by
  have : 2 ^ 1 ≤ 2 ^ w := Nat.pow_le_pow_right (by decide) h
  simpa using this
theorem va_take {B : Nat} {a : List Nat} {k d : Nat} (h : a[k]? = some d) : va B (a.take (k + 1)) = va B (a.take k) + B ^ k * d := by
  rw [take_succ_at h, va_snoc, List.length_take, Nat.min_eq_left (Nat.le_of_lt (lt_of_at h))]

theorem add_ok {n w x y : Nat} {H : AH} {p q : Nat} {a b : List Nat} (hH : frozen ≤ H.length) (hw1 : 1 ≤ w) (hw : w ≤ 8) (hp : DL H p a) (hq : DL H q b) (ha : Num (2 ^ w) a x) (hb : Num (2 ^ w) b y) (hla : a.length ≤ 90000) (hlb : b.length ≤ 90000) :
    C (callF defs (n + 1)) 3 [.ptr p, .ptr q, .int (w : Nat)] H (New (2 ^ w) H (x + y)) := by
  have hB2 := two_le hw1
  have hB : 0 < 2 ^ w := by lia
  refine Cgen fun Qz hQz => ?_
  refine C_def (D := ⟨3, 7, bAdd⟩) rfl rfl ?_
  show X _ bAdd [.ptr p, .ptr q, .int (w : Nat), .unb, .unb, .unb, .unb] H _ _
  unfold bAdd
  refine X_cutq (M := fun ρ' G => G = H ∧ E4 fun p q a b => A8 (ρ' = [.ptr p, .ptr q, .int (w : Nat), .unb, .unb, .unb, .unb]) (DL H p a) (DL H q b) (Num (2 ^ w) a (va (2 ^ w) a)) (Num (2 ^ w) b (va (2 ^ w) b)) (va (2 ^ w) a + va (2 ^ w) b = x + y) (a.length ≤ 90000) (b.length ≤ a.length)) ?_ ?_
  · intro Nq hNq
    skip
    refine ⟨_, dl_len hp (by rw [cap_eq]; lia), _, dl_len hq (by rw [cap_eq]; lia), ?_⟩
    have ha' := ha.val
    have hb' := hb.val
    subst ha' hb'
    (with_reducible conv => whnf)
    refine ifs (fun _ => ?_) (fun _ => ?_)
    · exact hNq _ _ ⟨rfl, _, _, _, _, rfl, hq, hp, hb, ha, Nat.add_comm _ _, hlb, by lia⟩
    · exact hNq _ _ ⟨rfl, _, _, _, _, rfl, hp, hq, ha, hb, rfl, hla, by lia⟩
  clear hp hq ha hb hla hlb
  rintro ρ' G ⟨rfl, p, q, a, b, rfl, hp, hq, ha, hb, hxy, hla, hlb⟩
  have hca : a.length ≤ cap := by rw [cap_eq]; lia
  have hcb : b.length ≤ cap := by lia
  refine ⟨_, iShl1 hw, _, iMask, ?_⟩
  refine X_forR ?_
  have E0 := (Ext.refl G).push (.list [])
  refine ⟨_, dl_len (E0.dl hq) hcb, _, _, _, range_up hcb, ?_⟩
  refine forN_ruleq (fun j ρ K => E3 fun z carry ds => A7 (ρ = [.ptr p, .ptr q, .int (w : Nat), .ptr G.length, .int (carry : Nat), .int ((2 ^ w - 1 : Nat) : Int), z]) (Ext G K) (DL K G.length ds) (ds.length = j) ((∀ d ∈ ds, d < 2 ^ w)) (va (2 ^ w) ds + (2 ^ w) ^ j * carry = va (2 ^ w) (a.take j) + va (2 ^ w) (b.take j)) (carry ≤ 1)) b.length 0 _ _ _ ⟨_, 0, [], rfl, E0, dl_push (ds := []), rfl, by simp, by simp [va], by simp⟩ ?_ ?_
  · rintro j ρ K _ hj ⟨z, carry, ds, rfl, hE, hD, hl, hd, hv, hc⟩
    intro Nq hNq
    have hi : ((0 : Int) + ((j : Int) - (0 : Nat)) * 1) = ((j : Nat) : Int) := by lia
    rw [hi]
    obtain ⟨d, h1⟩ := at_lt (l := a) (i := j) (by lia)
    obtain ⟨e, h2⟩ := at_lt (l := b) (i := j) (by lia)
    have hd1 := ha.small d (mem_at h1)
    have hd2 := hb.small e (mem_at h2)
    refine ⟨_, dl_item (hE.dl hp) h1 hca, _, dl_item (hE.dl hq) h2 hcb, ?_⟩
    refine ⟨_, iAdd, _, iAdd, ⟨_, hD⟩, _, iBand, _, hD, hH, by rw [nums_len, cap_eq]; lia, _, iShr, ?_⟩
    rw [dl_app]
    refine hNq _ _ ⟨_, _, _, rfl, hE.set (Nat.le_refl _) _, dl_set hD, by simp [hl], small_app hd (Nat.mod_lt _ hB), ?_, ?_⟩
    · rw [va_snoc, hl, Nat.pow_succ, carry_step, va_take h1, va_take h2, Nat.mul_add, Nat.mul_add]; lia
    · have : (carry + (d + e)) / 2 ^ w < 2 := Nat.div_lt_of_lt_mul (by lia)
      lia
  rintro ρ K ⟨z, carry, ds, rfl, hE, hD, hl, hd, hv, hc⟩
  rw [Nat.zero_add] at hl hv
  rw [List.take_length (l := b)] at hv
  refine X_forR ?_
  refine ⟨_, dl_len (hE.dl hq) hcb, _, dl_len (hE.dl hp) hca, _, _, _, range_two hca hcb, ?_⟩
  refine forN_rule (fun j ρ K => E3 fun z carry ds => A7 (ρ = [.ptr p, .ptr q, .int (w : Nat), .ptr G.length, .int (carry : Nat), .int ((2 ^ w - 1 : Nat) : Int), z]) (Ext G K) (DL K G.length ds) (ds.length = b.length + j) ((∀ d ∈ ds, d < 2 ^ w)) (va (2 ^ w) ds + (2 ^ w) ^ (b.length + j) * carry = va (2 ^ w) (a.take (b.length + j)) + va (2 ^ w) b) (carry ≤ 1)) (a.length - b.length) 0 _ _ _ ⟨_, carry, ds, rfl, hE, hD, hl, hd, hv, hc⟩ ?_ ?_
  · clear hE hD hl hd hv hc
    rintro j ρ K _ hj ⟨z, carry, ds, rfl, hE, hD, hl, hd, hv, hc⟩
    have hi : ((b.length : Int) + ((j : Int) - (0 : Nat)) * 1) = ((b.length + j : Nat) : Int) := by lia
    rw [hi]
    obtain ⟨d, h1⟩ := at_lt (l := a) (i := b.length + j) (by lia)
    have hd1 := ha.small d (mem_at h1)
    refine ⟨_, dl_item (hE.dl hp) h1 hca, _, iAdd, ⟨_, hD⟩, _, iBand, _, hD, hH, by rw [nums_len, cap_eq]; lia, _, iShr, ?_⟩
    rw [dl_app]
    refine ⟨_, _, _, rfl, hE.set (Nat.le_refl _) _, dl_set hD, by simp [hl]; lia, small_app hd (Nat.mod_lt _ hB), ?_, ?_⟩
    · rw [va_snoc, hl, show b.length + (j + 1) = b.length + j + 1 by lia, Nat.pow_succ, carry_step, va_take h1, Nat.mul_add]; lia
    · have : (carry + d) / 2 ^ w < 2 := Nat.div_lt_of_lt_mul (by lia)
      lia
  clear hE hD hl hd hv hc
  rintro ρ K ⟨z, carry, ds, rfl, hE, hD, hl, hd, hv, hc⟩
  rw [Nat.zero_add, Nat.add_sub_cancel' hlb] at hl hv
  rw [List.take_length (l := a)] at hv
  (with_reducible conv => whnf)
  refine ifs (fun _ => ?_) (fun _ => ?_)
  · rename_i h0
    have hc1 : carry = 1 := by lia
    subst hc1
    refine ⟨⟨_, hD⟩, _, hD, hH, by rw [nums_len, cap_eq]; lia, ?_⟩
    rw [dl_app]
    exact hQz _ _ ⟨hE.set (Nat.le_refl _) _, _, _, rfl, Nat.le_refl _, dl_set hD, small_app hd (by lia), by simp, by rw [va_snoc, hl]; lia⟩
  · rename_i h0
    have hc0 : carry = 0 := by lia
    subst hc0
    rw [Nat.mul_zero, Nat.add_zero] at hv
    refine hQz _ _ ⟨hE, _, _, rfl, Nat.le_refl _, hD, hd, top_of_ge hB hd fun hne => ?_, by lia⟩
    have hane : a ≠ [] := fun q => hne (List.length_eq_zero_iff.mp (by rw [hl, q]; rfl))
    have := ha.ge hane
    rw [hl]; lia
end Mine
end

section
namespace Mine
theorem va_takeD {B : Nat} {b : List Nat} {k e : Nat} (h : (b[k]?).getD 0 = e) : va B (b.take (k + 1)) = va B (b.take k) + B ^ k * e := by
  cases hb : b[k]? with
  | some d => rw [hb] at h; simp at h; subst h; exact va_take hb
  | none =>
    rw [hb] at h; simp at h; subst h
    have := List.getElem?_eq_none_iff.mp hb
    rw [List.take_of_length_le (by lia), List.take_of_length_le this]; simp

theorem sub_ok {n w x y : Nat} {H : AH} {p q : Nat} {a b : List Nat} (hH : frozen ≤ H.length) (hw1 : 1 ≤ w) (hw : w ≤ 8) (hp : DL H p a) (hq : DL H q b) (ha : Num (2 ^ w) a x) (hb : Num (2 ^ w) b y) (hla : a.length ≤ 90000) (hlb : b.length ≤ 90000) (hyx : y ≤ x) :
    C (callF defs (n + 2)) 4 [.ptr p, .ptr q, .int (w : Nat)] H (New (2 ^ w) H (x - y)) := by
  have hB2 := two_le hw1
  have hB : 0 < 2 ^ w := by lia
  have hca : a.length ≤ cap := by rw [cap_eq]; lia
  have hcb : b.length ≤ cap := by rw [cap_eq]; lia
  refine Cgen fun Qz hQz => ?_
  refine C_def (D := ⟨3, 8, bSub⟩) rfl rfl ?_
  show X _ bSub [.ptr p, .ptr q, .int (w : Nat), .unb, .unb, .unb, .unb, .unb] H _ _
  unfold bSub
  refine (compare_ok (n := n) hB2 hp hq ha hb hca hcb).mono ?_
  rintro v H' ⟨rfl, rfl⟩
  (with_reducible conv => whnf)
  refine ifn (by unfold sgn3; rw [if_neg (by lia)]; split <;> lia) ?_
  refine ⟨_, iShl1 hw, ?_⟩
  refine X_forR ?_
  have E0 := (Ext.refl H').push (.list [])
  have hbl : b.length ≤ a.length := by
    rcases Nat.lt_or_ge a.length b.length with q | q
    · have := ha.less_len hB2 hb q; lia
    · exact q
  refine ⟨_, dl_len (E0.dl hp) hca, _, _, _, range_up hca, ?_⟩
  refine forN_ruleq (fun j ρ K => E4 fun z1 z2 borrow ds => A7 (ρ = [.ptr p, .ptr q, .int (w : Nat), .ptr H'.length, .int (borrow : Nat), .int ((2 ^ w : Nat) : Int), z1, z2]) (Ext H' K) (DL K H'.length ds) (ds.length = j) ((∀ d ∈ ds, d < 2 ^ w)) (va (2 ^ w) ds + va (2 ^ w) (b.take j) = va (2 ^ w) (a.take j) + (2 ^ w) ^ j * borrow) (borrow ≤ 1)) a.length 0 _ _ _ ⟨_, _, 0, [], rfl, E0, dl_push (ds := []), rfl, by simp, by simp [va], by simp⟩ ?_ ?_
  · rintro j ρ K _ hj ⟨z1, z2, borrow, ds, rfl, hE, hD, hl, hd, hv, hc⟩ Nr hNr
    have hi : ((0 : Int) + ((j : Int) - (0 : Nat)) * 1) = ((j : Nat) : Int) := by lia
    rw [hi]
    obtain ⟨d, h1⟩ := at_lt (l := a) (i := j) (by lia)
    have hd1 := ha.small d (mem_at h1)
    obtain ⟨e, he⟩ : ∃ e, (b[j]?).getD 0 = e := ⟨_, rfl⟩
    have hd2 : e < 2 ^ w := by
      cases h2 : b[j]? with
      | none => rw [h2] at he; simp at he; lia
      | some d => rw [h2] at he; simp at he; subst he; exact hb.small _ (mem_at h2)
    have hT1 := va_take (B := 2 ^ w) h1
    have hT2 := va_takeD (B := 2 ^ w) he
    refine X_cutq (M := fun ρ' G => G = K ∧ ρ' = [.ptr p, .ptr q, .int (w : Nat), .ptr H'.length, .int (borrow : Nat), .int ((2 ^ w : Nat) : Int), .int (j : Nat), .int ((d : Int) - (borrow : Nat) - (e : Nat))]) ?_ ?_
    · intro Nq hNq
      skip
      refine ⟨_, dl_item (hE.dl hp) h1 hca, ?_⟩
      refine ⟨_, rfl, _, dl_len (hE.dl hq) hcb, ?_⟩
      (with_reducible conv => whnf)
      refine ifs (fun _ => ?_) (fun _ => ?_)
      · rename_i hj
        obtain ⟨e', h2⟩ := at_lt (l := b) (i := j) (by lia)
        rw [h2] at he; simp at he; subst he
        refine ⟨_, dl_item (hE.dl hq) h2 hcb, ?_⟩
        exact ⟨_, rfl, hNq _ _ ⟨rfl, rfl⟩⟩
      · rename_i hj
        rw [List.getElem?_eq_none (by lia)] at he; simp at he; subst he
        exact ⟨_, rfl, hNq _ _ ⟨rfl, rfl⟩⟩
    rintro ρ' G ⟨rfl, rfl⟩
    have fin : ∀ (u : AV) (s t : Nat), s < 2 ^ w → t ≤ 1 → d + 2 ^ w * t = s + borrow + e → Nr [AV.ptr p, .ptr q, .int (w : Nat), .ptr H'.length, .int (t : Nat), .int ((2 ^ w : Nat) : Int), .int (j : Nat), u] (G.set H'.length (.list (nums ds ++ [.int (s : Nat)]))) := fun u s t hs ht hst => by
      rw [dl_app]
      refine hNr _ _ ⟨_, _, t, _, rfl, hE.set (Nat.le_refl _) _, dl_set hD, by simp [hl], small_app hd hs, ?_, ht⟩
      rw [va_snoc, hl, hT1, hT2, Nat.pow_succ, Nat.mul_assoc]
      have := congrArg ((2 ^ w) ^ j * ·) hst
      simp only [Nat.mul_add] at this
      lia
    have hcap : (nums ds).length ≤ cap := by rw [nums_len, cap_eq]; lia
    (with_reducible conv => whnf)
    refine ifs (fun _ => ?_) (fun _ => ?_)
    · rename_i hneg
      refine ⟨⟨_, hD⟩, ?_⟩
      (with_reducible conv => whnf)
      refine ifp hneg ?_
      exact ⟨((d + 2 ^ w - borrow - e : Nat) : Int), by simp only [binI]; congr 1; lia, _, hD, hH, hcap, fin _ (d + 2 ^ w - borrow - e) 1 (by lia) (by lia) (by lia)⟩
    · rename_i hneg
      have hL : (d : Int) - (borrow : Nat) - (e : Nat) = ((d - borrow - e : Nat) : Int) := by lia
      rw [hL]
      refine ⟨⟨_, hD⟩, ?_⟩
      (with_reducible conv => whnf)
      refine ifn (by lia) ?_
      exact ⟨_, hD, hH, hcap, fin _ (d - borrow - e) 0 (by lia) (by lia) (by lia)⟩
  · rintro ρ K ⟨z1, z2, borrow, ds, rfl, hE, hD, hl, hd, hv, hc⟩
    rw [Nat.zero_add] at hl hv
    rw [List.take_length (l := a), List.take_of_length_le hbl, ha.val, hb.val] at hv
    have h1 := va_lt hB hd
    rw [hl] at h1
    have hb0 : borrow = 0 := by
      rcases Nat.eq_zero_or_pos borrow with q | q
      · exact q
      · have : borrow = 1 := by lia
        subst this; lia
    subst hb0
    refine (normal_ok (n := n) hD (by rw [cap_eq]; lia) hd).mono ?_
    rintro v G ⟨es, rfl, rfl, hN, _⟩
    rw [show va (2 ^ w) ds = x - y by lia] at hN
    exact hQz _ _ ⟨hE.push _, _, es, rfl, hE.len, dl_push, hN⟩
end Mine
end

section
namespace Mine
theorem drop_set_lt {α : Type} {l : List α} {k m : Nat} {v : α} (h : k < m) : (l.set k v).drop m = l.drop m := by
  apply List.ext_getElem?
  intro i
  rw [List.getElem?_drop, List.getElem?_drop, List.getElem?_set_ne (by lia)]
theorem take_set_le {α : Type} {l : List α} {k m : Nat} {v : α} (h : m ≤ k) : (l.set k v).take m = l.take m := by
  apply List.ext_getElem?
  intro i
  rcases Nat.lt_or_ge i m with q | q
  · rw [List.getElem?_take_of_lt q, List.getElem?_take_of_lt q, List.getElem?_set_ne (by lia)]
  · rw [List.getElem?_take_eq_none q, List.getElem?_take_eq_none q]
theorem small_set {B : Nat} {ds : List Nat} {k d : Nat} (h : ∀ x ∈ ds, x < B) (hd : d < B) : ∀ x ∈ ds.set k d, x < B := fun x hx => by
  rcases List.mem_or_eq_of_mem_set hx with q | q
  · exact h x q
  · rw [q]; exact hd
theorem rep_nums {n : Nat} : List.replicate n (AV.int 0) = nums (List.replicate n 0) := by simp [nums]

inductive LR (B : Nat) (H : AH) (x y : Nat) (v : AV) (H' : AH) : Prop
  | mk (h0 : Ext H H') (t q : Nat) (a : List Nat) (h1 : v = .ptr t) (h2 : tupAt H' t = some [.ptr q, .int ((x % y : Nat) : Int)]) (h3 : H.length ≤ q) (h4 : DL H' q a) (h5 : Num B a (x / y)) : LR B H x y v H'

theorem divrem_limb_ok {n w x l : Nat} {H : AH} {p : Nat} {a : List Nat} (hH : frozen ≤ H.length) (hw1 : 1 ≤ w) (hw : w ≤ 8) (hp : DL H p a) (ha : Num (2 ^ w) a x) (hla : a.length ≤ 90000) (hl0 : 0 < l) (hlB : l < 2 ^ w) :
    C (callF defs (n + 2)) 5 [.ptr p, .int (l : Nat), .int (w : Nat)] H (LR (2 ^ w) H x l) := by
  have hB2 := two_le hw1
  have hB : 0 < 2 ^ w := by lia
  have hB8 : 2 ^ w ≤ 256 := Nat.pow_le_pow_right (n := 2) (by decide) hw
  have hca : a.length ≤ cap := by rw [cap_eq]; lia
  refine Cgen fun Qz hQz => ?_
  refine C_def (D := ⟨3, 6, bDivremLimb⟩) rfl rfl ?_
  show X _ bDivremLimb [.ptr p, .int (l : Nat), .int (w : Nat), .unb, .unb, .unb] H _ _
  unfold bDivremLimb
  (with_reducible conv => whnf)
  refine ifn (by lia) ?_
  have E1 := (Ext.refl H).push (.list [.int 0])
  have E2 := E1.push (.list (nums (List.replicate a.length 0)))
  refine ⟨_, dl_len (E1.dl hp) hca, ?_⟩
  refine ⟨_, _, rep_eq (x := .int 0) (n := a.length) list_push hH hca, ?_⟩
  rw [rep_nums]
  refine X_forR ?_
  refine ⟨_, dl_len (E2.dl hp) hca, _, rfl, _, _, _, range_down hca, ?_⟩
  have hf : (H ++ [AO.list [.int 0]]).length = H.length + 1 := by simp
  refine forN_ruleq (fun j ρ K => E3 fun z r ds => A7 (ρ = [.ptr p, .int (l : Nat), .int (w : Nat), .ptr (H.length + 1), .int (r : Nat), z]) (Ext H K) (DL K (H.length + 1) ds) (ds.length = a.length) ((∀ d ∈ ds, d < 2 ^ w)) (r < l) (va (2 ^ w) (a.drop (a.length - j)) = l * va (2 ^ w) (ds.drop (a.length - j)) + r)) a.length 0 _ _ _ ⟨_, 0, List.replicate a.length 0, by rw [hf]; rfl, E2, hf ▸ dl_push, by simp, fun d hd => by rw [(List.mem_replicate.mp hd).2]; lia, hl0, by simp [va]⟩ ?_ ?_
  · rintro j ρ K _ hj ⟨z, r, ds, rfl, hE, hD, hl, hd, hr, hv⟩
    intro Nq hNq
    obtain ⟨k, hk⟩ : ∃ k : Nat, a.length = j + k + 1 := ⟨a.length - j - 1, by lia⟩
    have hi : ((a.length : Int) - 1 + ((j : Int) - (0 : Nat)) * -1) = ((k : Nat) : Int) := by lia
    rw [hi]
    rw [show a.length - j = k + 1 by lia] at hv
    obtain ⟨d, h1⟩ := at_lt (l := a) (i := k) (by lia)
    have hd1 := ha.small d (mem_at h1)
    refine ⟨_, iShl (by unfold big; lia) (by lia), _, dl_item (hE.dl hp) h1 hca, ?_⟩
    refine ⟨_, iBor hd1, _, iDiv hl0 (by lia), _, dl_put hD (by lia) (by lia) (by rw [cap_eq]; lia), _, iMod hl0, ?_⟩
    have hq : (r * 2 ^ w + d) / l < 2 ^ w := Nat.div_lt_of_lt_mul (by
      have : (r + 1) * 2 ^ w ≤ l * 2 ^ w := Nat.mul_le_mul_right _ hr
      rw [Nat.add_mul, Nat.one_mul] at this; lia)
    refine hNq _ _ ⟨_, _, _, rfl, hE.set (Nat.le_succ _) _, dl_set hD, by simp [hl], small_set hd hq, Nat.mod_lt _ hl0, ?_⟩
    rw [show a.length - (j + 1) = k by lia, drop_at_cons h1, drop_at_cons (a := ds.set k ((r * 2 ^ w + d) / l)) (List.getElem?_set_self (by lia)), drop_set_lt (by lia)]
    simp only [va]
    rw [hv, Nat.mul_add]
    have e1 := Nat.div_add_mod (r * 2 ^ w + d) l
    have e2 : l * (2 ^ w * va (2 ^ w) (ds.drop (k + 1))) = 2 ^ w * (l * va (2 ^ w) (ds.drop (k + 1))) := by rw [Nat.mul_left_comm]
    rw [Nat.mul_add, e2, Nat.mul_comm (2 ^ w) r]
    lia
  · rintro ρ K ⟨z, r, ds, rfl, hE, hD, hl, hd, hr, hv⟩
    rw [Nat.zero_add, Nat.sub_self, List.drop_zero, List.drop_zero, ha.val] at hv
    refine (normal_ok (n := n) hD (by rw [cap_eq]; lia) hd).mono ?_
    rintro v G ⟨es, rfl, rfl, hN, _⟩

    have e1 : x / l = va (2 ^ w) ds := by rw [hv, Nat.mul_add_div hl0, Nat.div_eq_of_lt hr, Nat.add_zero]
    have e2 : x % l = r := by rw [hv, Nat.mul_add_mod]; exact Nat.mod_eq_of_lt hr
    rw [← e1] at hN
    refine hQz _ _ ⟨(hE.push _).push _, _, _, es, rfl, ?_, hE.len, ((Ext.refl _).push _).dl dl_push, hN⟩
    rw [e2]; exact tup_push

inductive QR (B : Nat) (H : AH) (x y : Nat) (v : AV) (H' : AH) : Prop
  | mk (h0 : Ext H H') (t q r : Nat) (a b : List Nat) (h1 : v = .ptr t) (h2 : tupAt H' t = some [.ptr q, .ptr r]) (h3 : H.length ≤ q) (h4 : H.length ≤ r) (h5 : DL H' q a) (h6 : DL H' r b) (h7 : Num B a (x / y)) (h8 : Num B b (x % y)) : QR B H x y v H'

theorem divrem_small_ok {n w x l : Nat} {H : AH} {p q : Nat} {a : List Nat} (hH : frozen ≤ H.length) (hw1 : 1 ≤ w) (hw : w ≤ 8) (hp : DL H p a) (hq : DL H q [l]) (ha : Num (2 ^ w) a x) (hla : a.length ≤ 90000) (hl0 : 0 < l) (hlB : l < 2 ^ w) :
    C (callF defs (n + 3)) 25 [.ptr p, .ptr q, .int (w : Nat)] H (QR (2 ^ w) H x l) := by
  refine Cgen fun Qz hQz => ?_
  refine C_def (D := ⟨3, 5, bDivremSmall⟩) rfl rfl ?_
  show X _ bDivremSmall [.ptr p, .ptr q, .int (w : Nat), .unb, .unb] H _ _
  unfold bDivremSmall
  refine ⟨_, dl_item (k := 0) hq rfl (by show 1 ≤ cap; rw [cap_eq]; decide), ?_⟩
  refine (divrem_limb_ok (n := n) hH hw1 hw hp ha hla hl0 hlB).mono ?_
  rintro v G ⟨hE, t, q1, es, rfl, ht, hq1, hD, hN⟩
  refine ⟨_, ht, ?_⟩
  have hr := Nat.mod_lt x hl0
  (with_reducible conv => whnf)
  refine ifs (fun _ => ?_) (fun _ => ?_)
  · rename_i h0
    refine hQz _ _ ⟨(hE.push _).push _, _, _, _, es, [x % l], rfl, tup_push, hq1, hE.len, ?_, ((Ext.refl _).push _).dl list_push, hN, ?_⟩
    · exact ((Ext.refl _).push _).dl (((Ext.refl _).push _).dl hD)
    · refine ⟨fun d hd => by rw [List.mem_singleton.mp hd]; lia, ?_, by simp [va]⟩
      simp; lia
  · rename_i h0
    refine hQz _ _ ⟨(hE.push _).push _, _, _, _, es, [], rfl, tup_push, hq1, hE.len, ?_, ((Ext.refl _).push _).dl list_push, hN, ?_⟩
    · exact ((Ext.refl _).push _).dl (((Ext.refl _).push _).dl hD)
    · exact ⟨fun d hd => by simp at hd, by simp, by simp [va]; lia⟩
end Mine
end

section
namespace Mine
theorem nums_inv {ds : List Nat} {j : Nat} {v : AV} (h : (nums ds)[j]? = some v) : ∃ d, ds[j]? = some d ∧ v = .int (d : Nat) := by
  unfold nums at h
  rw [List.getElem?_map] at h
  obtain ⟨d, h1, h2⟩ := Option.map_eq_some_iff.mp h
  exact ⟨d, h1, h2.symm⟩
theorem iBor2 {a b w : Nat} (hb : b < 2 ^ w) : binI .bor (b : Nat) ((a * 2 ^ w : Nat) : Int) = some ((a * 2 ^ w + b : Nat) : Int) := by
  simp only [binI, Int.toNat_natCast]; rw [if_pos ⟨by lia, by lia⟩]
  have := Nat.shiftLeft_add_eq_or_of_lt hb a
  rw [Nat.shiftLeft_eq] at this
  rw [Nat.or_comm, this]

theorem shift_left_ok {n w x s : Nat} {H : AH} {p : Nat} {a : List Nat} (hH : frozen ≤ H.length) (hw1 : 1 ≤ w) (hw : w ≤ 8) (hs : s < w) (hp : DL H p a) (ha : Num (2 ^ w) a x) (hne : a ≠ []) (hla : a.length ≤ 90000) :
    C (callF defs (n + 1)) 6 [.ptr p, .int (s : Nat), .int (w : Nat)] H (New (2 ^ w) H (x * 2 ^ s)) := by
  have hB2 := two_le hw1
  have hB : 0 < 2 ^ w := by lia
  have hB8 : 2 ^ w ≤ 256 := Nat.pow_le_pow_right (n := 2) (by decide) hw
  have hS : 0 < 2 ^ s := Nat.pow_pos (by decide)
  have hca : a.length ≤ cap := by rw [cap_eq]; lia
  have hl0 : 0 < a.length := List.length_pos_iff.mpr hne
  refine Cgen fun Qz hQz => ?_
  refine C_def (D := ⟨3, 9, bShiftLeft⟩) rfl rfl ?_
  show X _ bShiftLeft [.ptr p, .int (s : Nat), .int (w : Nat), .unb, .unb, .unb, .unb, .unb, .unb] H _ _
  unfold bShiftLeft
  refine ⟨_, dl_len hp hca, ?_⟩
  (with_reducible conv => whnf)
  refine ifn (by lia) ?_
  have e1 : binI .fdiv (s : Nat) (w : Nat) = some ((0 : Nat) : Int) := by rw [iDiv (by lia) (by lia), Nat.div_eq_of_lt hs]
  have e2 : binI .mod (s : Nat) (w : Nat) = some ((s : Nat) : Int) := by rw [iMod (by lia), Nat.mod_eq_of_lt hs]
  refine ⟨_, e1, _, e2, ?_⟩
  refine ⟨_, _, rep_eq (x := .int 0) (n := 0) list_push hH (Nat.zero_le _), ?_⟩
  refine ⟨_, iShl1 hw, _, iMask, ?_⟩
  have E1 := (Ext.refl H).push (.list [.int 0])
  have E2 := E1.push (.list (nums []))
  have hf : (H ++ [AO.list [.int 0]]).length = H.length + 1 := by simp
  refine X_forLq (xs := nums a) (fun j ρ K => E3 fun z carry ds => A7 (ρ = [.ptr p, .int (s : Nat), .int (w : Nat), .int ((0 : Nat) : Int), .int (s : Nat), .ptr (H.length + 1), .int (carry : Nat), .int ((2 ^ w - 1 : Nat) : Int), z]) (Ext H K) (DL K (H.length + 1) ds) (ds.length = j) ((∀ d ∈ ds, d < 2 ^ w)) (va (2 ^ w) ds + (2 ^ w) ^ j * carry = 2 ^ s * va (2 ^ w) (a.take j)) (carry < 2 ^ s)) ?_ ?_ ?_
  · skip
    refine ⟨by rw [nums_len]; exact hca, ⟨_, 0, [], by rw [hf]; rfl, E2, hf ▸ dl_push (ds := []), rfl, by simp, by simp [va], hS⟩, ?_⟩
    rintro j ρ K ⟨z, carry, ds, rfl, hE, _⟩
    exact hE.dl hp
  · rintro j v ρ K hv0 ⟨z, carry, ds, rfl, hE, hD, hl, hd, hv, hc⟩
    intro Nq hNq
    obtain ⟨d, h1, rfl⟩ := nums_inv hv0
    have hj := lt_of_at h1
    have hd1 := ha.small d (mem_at h1)
    refine ⟨_, iShl (by unfold big; lia) (by lia), _, iBor2 hc, ⟨_, hD⟩, _, iBand, _, hD, by lia, by rw [nums_len, cap_eq]; lia, _, iShr, ?_⟩
    rw [dl_app]
    refine hNq _ _ ⟨_, _, _, rfl, hE.set (Nat.le_succ _) _, dl_set hD, by simp [hl], small_app hd (Nat.mod_lt _ hB), ?_, ?_⟩
    · rw [va_snoc, hl, Nat.pow_succ, carry_step, va_take h1, Nat.mul_add, Nat.mul_add, ← hv, ← Nat.mul_assoc, ← Nat.mul_assoc, Nat.mul_right_comm _ d, Nat.mul_comm _ (2 ^ s)]
      lia
    · refine Nat.div_lt_of_lt_mul ?_
      have : (d + 1) * 2 ^ s ≤ 2 ^ w * 2 ^ s := Nat.mul_le_mul_right _ hd1
      rw [Nat.add_mul, Nat.one_mul] at this; lia
  · rintro ρ K ⟨z, carry, ds, rfl, hE, hD, hl, hd, hv, hc⟩
    rw [nums_len] at hl hv
    rw [List.take_length (l := a), ha.val] at hv
    have hxge := ha.ge hne
    have hxs : x ≤ x * 2 ^ s := Nat.le_mul_of_pos_right _ hS
    rw [Nat.mul_comm (2 ^ s) x] at hv
    (with_reducible conv => whnf)
    refine ifs (fun _ => ?_) (fun _ => ?_)
    · rename_i h0
      have hcB : carry < 2 ^ w := Nat.lt_of_lt_of_le hc (Nat.pow_le_pow_right (by decide) (Nat.le_of_lt hs))
      refine ⟨⟨_, hD⟩, _, hD, by lia, by rw [nums_len, cap_eq]; lia, ?_⟩
      rw [dl_app]
      exact hQz _ _ ⟨hE.set (Nat.le_succ _) _, _, _, rfl, Nat.le_succ _, dl_set hD, small_app hd hcB, by simp; lia, by rw [va_snoc, hl]; exact hv⟩
    · rename_i h0
      have hc0 : carry = 0 := by lia
      subst hc0
      rw [Nat.mul_zero, Nat.add_zero] at hv
      refine hQz _ _ ⟨hE, _, _, rfl, Nat.le_succ _, hD, hd, top_of_ge hB hd fun _ => ?_, hv⟩
      rw [hl, hv]; lia

theorem shr_digit {u v s w : Nat} (hs : s < w) (hu : u < 2 ^ (w - s)) : (v * 2 ^ (w - s) + u) % 2 ^ w = (v % 2 ^ s) * 2 ^ (w - s) + u := by
  have e : 2 ^ w = 2 ^ s * 2 ^ (w - s) := by rw [← Nat.pow_add]; congr 1; lia
  have h1 : v * 2 ^ (w - s) + u = 2 ^ w * (v / 2 ^ s) + ((v % 2 ^ s) * 2 ^ (w - s) + u) := by
    have := Nat.div_add_mod v (2 ^ s)
    calc v * 2 ^ (w - s) + u = (2 ^ s * (v / 2 ^ s) + v % 2 ^ s) * 2 ^ (w - s) + u := by rw [this]
      _ = 2 ^ w * (v / 2 ^ s) + ((v % 2 ^ s) * 2 ^ (w - s) + u) := by rw [e, Nat.add_mul, Nat.mul_right_comm, Nat.add_assoc]
  have h2 : (v % 2 ^ s) * 2 ^ (w - s) + u < 2 ^ w := by
    have := Nat.mod_lt v (Nat.pow_pos (n := s) (show 0 < 2 by decide))
    have : (v % 2 ^ s + 1) * 2 ^ (w - s) ≤ 2 ^ s * 2 ^ (w - s) := Nat.mul_le_mul_right _ this
    rw [Nat.add_mul, Nat.one_mul, ← e] at this; lia
  rw [h1, Nat.mul_add_mod, Nat.mod_eq_of_lt h2]

theorem shift_right_ok {n w x s : Nat} {H : AH} {p : Nat} {a : List Nat} (hH : frozen ≤ H.length) (hw1 : 1 ≤ w) (hw : w ≤ 8) (hs : s < w) (hp : DL H p a) (ha : Num (2 ^ w) a x) (hla : a.length ≤ 90000) :
    C (callF defs (n + 2)) 7 [.ptr p, .int (s : Nat), .int (w : Nat)] H (New (2 ^ w) H (x / 2 ^ s)) := by
  have hB2 := two_le hw1
  have hB : 0 < 2 ^ w := by lia
  have hB8 : 2 ^ w ≤ 256 := Nat.pow_le_pow_right (n := 2) (by decide) hw
  have hS : 0 < 2 ^ s := Nat.pow_pos (by decide)
  have hSW : 2 ^ s * 2 ^ (w - s) = 2 ^ w := by rw [← Nat.pow_add]; congr 1; lia
  have hca : a.length ≤ cap := by rw [cap_eq]; lia
  refine Cgen fun Qz hQz => ?_
  refine C_def (D := ⟨3, 9, bShiftRight⟩) rfl rfl ?_
  show X _ bShiftRight [.ptr p, .int (s : Nat), .int (w : Nat), .unb, .unb, .unb, .unb, .unb, .unb] H _ _
  unfold bShiftRight
  have e1 : binI .fdiv (s : Nat) (w : Nat) = some ((0 : Nat) : Int) := by rw [iDiv (by lia) (by lia), Nat.div_eq_of_lt hs]
  have e2 : binI .mod (s : Nat) (w : Nat) = some ((s : Nat) : Int) := by rw [iMod (by lia), Nat.mod_eq_of_lt hs]
  refine ⟨_, e1, _, e2, _, iShl1 hw, _, iMask, ?_⟩
  have E0 := (Ext.refl H).push (.list (nums []))
  refine X_forR ?_
  refine ⟨_, dl_len (E0.dl hp) hca, _, _, _, range_two hca (Nat.zero_le _), ?_⟩
  refine forN_ruleq (fun j ρ K => E3 fun z1 z2 ds => A6 (ρ = [.ptr p, .int (s : Nat), .int (w : Nat), .int ((0 : Nat) : Int), .int (s : Nat), .ptr H.length, .int ((2 ^ w - 1 : Nat) : Int), z1, z2]) (Ext H K) (DL K H.length ds) (ds.length = j) ((∀ d ∈ ds, d < 2 ^ w)) (2 ^ s * va (2 ^ w) ds + (a[0]?).getD 0 % 2 ^ s = va (2 ^ w) (a.take j) + (2 ^ w) ^ j * ((a[j]?).getD 0 % 2 ^ s))) (a.length - 0) 0 _ _ _ ⟨_, _, [], rfl, E0, dl_push (ds := []), rfl, by simp, by simp [va]⟩ ?_ ?_
  · rintro j ρ K _ hj ⟨z1, z2, ds, rfl, hE, hD, hl, hd, hv⟩
    intro Nq hNq
    have hi : (((0 : Nat) : Int) + ((j : Int) - (0 : Nat)) * 1) = ((j : Nat) : Int) := by lia
    rw [hi]
    obtain ⟨d, h1⟩ := at_lt (l := a) (i := j) (by lia)
    have hd1 := ha.small d (mem_at h1)
    obtain ⟨e, he⟩ : ∃ e, (a[j + 1]?).getD 0 = e := ⟨_, rfl⟩
    have he1 : e < 2 ^ w := by
      cases h2 : a[j + 1]? with
      | none => rw [h2] at he; simp at he; lia
      | some d => rw [h2] at he; simp at he; subst he; exact ha.small _ (mem_at h2)
    have hj1 : binI .add (j : Nat) 1 = some ((j + 1 : Nat) : Int) := rfl
    refine X_cutq (M := fun ρ' G => G = K ∧ ρ' = [.ptr p, .int (s : Nat), .int (w : Nat), .int ((0 : Nat) : Int), .int (s : Nat), .ptr H.length, .int ((2 ^ w - 1 : Nat) : Int), .int (j : Nat), .int (e : Nat)]) ?_ ?_
    · intro Nq hNq
      skip
      refine ⟨_, hj1, _, dl_len (hE.dl hp) hca, ?_⟩
      (with_reducible conv => whnf)
      refine ifs (fun _ => ?_) (fun _ => ?_)
      · rename_i hj
        obtain ⟨e', h2⟩ := at_lt (l := a) (i := j + 1) (by lia)
        rw [h2] at he; simp at he; subst he
        exact ⟨_, hj1, _, dl_item (hE.dl hp) h2 hca, hNq _ _ ⟨rfl, rfl⟩⟩
      · rename_i hj
        rw [List.getElem?_eq_none (by lia)] at he; simp at he; subst he
        exact hNq _ _ ⟨rfl, rfl⟩
    rintro ρ' G ⟨rfl, rfl⟩
    have hu : d / 2 ^ s < 2 ^ (w - s) := Nat.div_lt_of_lt_mul (by rw [hSW]; exact hd1)
    refine ⟨⟨_, hD⟩, _, dl_item (hE.dl hp) h1 hca, ?_⟩
    refine ⟨_, iShr, _, iSub (by lia), _, iShl (by unfold big; lia) (by lia), _, iBor2 hu, _, iBand, _, hD, hH, by rw [nums_len, cap_eq]; lia, ?_⟩
    rw [dl_app]
    refine hNq _ _ ⟨_, _, _, rfl, hE.set (Nat.le_refl _) _, dl_set hD, by simp [hl], small_app hd (Nat.mod_lt _ hB), ?_⟩
    rw [va_snoc, hl, va_take h1, shr_digit hs hu, he, Nat.pow_succ]
    rw [h1] at hv
    simp only [Option.getD_some] at hv
    have e3 := Nat.div_add_mod d (2 ^ s)
    have e4 : 2 ^ s * ((2 ^ w) ^ j * (e % 2 ^ s * 2 ^ (w - s) + d / 2 ^ s)) = (2 ^ w) ^ j * 2 ^ w * (e % 2 ^ s) + (2 ^ w) ^ j * (2 ^ s * (d / 2 ^ s)) := by
      rw [Nat.mul_left_comm, Nat.mul_add, Nat.mul_add, Nat.mul_comm (e % 2 ^ s), ← Nat.mul_assoc (2 ^ s), hSW, Nat.mul_assoc]
    rw [Nat.mul_add, e4]
    have e5 : (2 ^ w) ^ j * d = (2 ^ w) ^ j * (2 ^ s * (d / 2 ^ s)) + (2 ^ w) ^ j * (d % 2 ^ s) := by rw [← Nat.mul_add, e3]
    rw [e5]
    lia
  · rintro ρ K ⟨z1, z2, ds, rfl, hE, hD, hl, hd, hv⟩
    rw [Nat.zero_add, Nat.sub_zero] at hl hv
    rw [List.take_length (l := a), ha.val, List.getElem?_eq_none (Nat.le_refl _)] at hv
    simp only [Option.getD_none, Nat.zero_mod, Nat.mul_zero, Nat.add_zero] at hv
    have hr := Nat.mod_lt ((a[0]?).getD 0) hS
    refine (normal_ok (n := n) hD (by rw [cap_eq]; lia) hd).mono ?_
    rintro v G ⟨es, rfl, rfl, hN, _⟩
    have e1 : x / 2 ^ s = va (2 ^ w) ds := by rw [← hv, Nat.mul_add_div hS, Nat.div_eq_of_lt hr, Nat.add_zero]
    rw [← e1] at hN
    exact hQz _ _ ⟨hE.push _, _, es, rfl, hE.len, dl_push, hN⟩

theorem bits_ok {n w d : Nat} {H : AH} {p : Nat} (hp : DL H p [d]) : C (callF defs (n + 1)) 8 [.ptr p, .int (w : Nat)] H fun v H' => v = .int (bitLen (d : Nat)) ∧ H' = H := by
  have hc : [d].length ≤ cap := by show 1 ≤ cap; rw [cap_eq]; decide
  refine C_def (D := ⟨2, 2, bBits⟩) rfl rfl ?_
  show X _ bBits [.ptr p, .int (w : Nat)] H _ _
  unfold bBits
  refine ⟨_, dl_len hp hc, ?_⟩
  (with_reducible conv => whnf)
  refine ifp (by simp) ?_
  refine ⟨_, dl_len hp hc, _, rfl, _, rfl, _, item_last hp (k := 0) rfl rfl (by rw [nums_len]; exact hc), _, rfl, ?_⟩
  simp
end Mine
end

section
namespace Mine
theorem va_set {B : Nat} : ∀ {ds : List Nat} {k o : Nat} (v : Nat), ds[k]? = some o → va B (ds.set k v) + B ^ k * o = va B ds + B ^ k * v
  | d :: ds, 0, o, v, h => by simp at h; subst h; simp [va]; lia
  | d :: ds, k + 1, o, v, h => by
    have := va_set (B := B) v (show ds[k]? = some o by simpa using h)
    simp only [List.set_cons_succ, va, Nat.pow_succ]
    have := congrArg (B * ·) this
    simp only [Nat.mul_add] at this
    rw [Nat.mul_comm (B ^ k) B, Nat.mul_assoc, Nat.mul_assoc]
    lia
  | [], _, _, _, h => by simp at h
theorem mul_small {B c o d e : Nat} (h1 : c < B) (h2 : o < B) (h3 : d < B) (h4 : e < B) : c + (o + d * e) < B * B := by
  obtain ⟨m, rfl⟩ : ∃ m, B = m + 1 := ⟨B - 1, by lia⟩
  have : d * e ≤ m * m := Nat.mul_le_mul (by lia) (by lia)
  have : (m + 1) * (m + 1) = m * m + m + m + 1 := by rw [Nat.add_mul, Nat.mul_add]; lia
  lia

theorem mul_school_ok {n w x y : Nat} {H : AH} {p q : Nat} {a b : List Nat} (hH : frozen ≤ H.length) (hw1 : 1 ≤ w) (hw : w ≤ 8) (hpf : frozen ≤ p) (hqf : frozen ≤ q) (hp : DL H p a) (hq : DL H q b) (ha : Num (2 ^ w) a x) (hb : Num (2 ^ w) b y) (hla : a.length ≤ 40000) (hlb : b.length ≤ 40000) :
    C (callF defs (n + 2)) 24 [.ptr p, .ptr q, .int (w : Nat)] H (New (2 ^ w) H (x * y)) := by
  have hB2 := two_le hw1
  have hB : 0 < 2 ^ w := by lia
  have hB8 : 2 ^ w ≤ 256 := Nat.pow_le_pow_right (n := 2) (by decide) hw
  have hca : a.length ≤ cap := by rw [cap_eq]; lia
  have hcb : b.length ≤ cap := by rw [cap_eq]; lia
  refine Cgen fun Qz hQz => ?_
  refine C_def (D := ⟨3, 10, bMulSchool⟩) rfl rfl ?_
  show X _ bMulSchool [.ptr p, .ptr q, .int (w : Nat), .unb, .unb, .unb, .unb, .unb, .unb, .unb] H _ _
  unfold bMulSchool
  have E1 := (Ext.refl H).push (.list [.int 0])
  have E2 := E1.push (.list (nums (List.replicate (a.length + b.length) 0)))
  have hf : (H ++ [AO.list [.int 0]]).length = H.length + 1 := by simp
  refine ⟨_, dl_len (E1.dl hp) hca, _, dl_len (E1.dl hq) hcb, _, iAdd, ?_⟩
  refine ⟨_, _, rep_eq (x := .int 0) (n := a.length + b.length) list_push hH (by rw [cap_eq]; lia), ?_⟩
  rw [rep_nums]
  refine ⟨_, iShl1 hw, _, iMask, ?_⟩
  refine X_forEq (xs := nums a) (fun j ρ K => E6 fun z5 z6 z7 z8 z9 ds => A7 (ρ = [.ptr p, .ptr q, .int (w : Nat), .ptr (H.length + 1), .int ((2 ^ w - 1 : Nat) : Int), z5, z6, z7, z8, z9]) (Ext H K) (DL K (H.length + 1) ds) (ds.length = a.length + b.length) ((∀ d ∈ ds, d < 2 ^ w)) (va (2 ^ w) ds = va (2 ^ w) (a.take j) * y) (∀ i, j + b.length ≤ i → i < a.length + b.length → ds[i]? = some 0)) ?_ ?_ ?_
  · skip
    refine ⟨hpf, by rw [nums_len]; exact hca, ⟨_, _, _, _, _, List.replicate (a.length + b.length) 0, by rw [hf], E2, hf ▸ dl_push, by simp, fun d hd => by rw [(List.mem_replicate.mp hd).2]; lia, ?_, ?_⟩, ?_⟩
    · have : ∀ k, va (2 ^ w) (List.replicate k 0) = 0 := fun k => by
        induction k with
        | zero => rfl
        | succ k ih => simp [List.replicate_succ, va, ih]
      simp [this, va]
    · intro i _ hi
      rw [List.getElem?_replicate, if_pos hi]
    · rintro j ρ K ⟨_, _, _, _, _, ds, rfl, hE, _⟩
      exact hE.dl hp
  · rintro j v ρ K hv0 ⟨z5, z6, z7, z8, z9, ds, rfl, hE, hD, hl, hd, hv, hz⟩
    intro Nq hNq
    obtain ⟨d, h1, rfl⟩ := nums_inv hv0
    have hj := lt_of_at h1
    have hd1 := ha.small d (mem_at h1)
    refine X_forEq (xs := nums b) (fun k ρ K' => E4 fun z8 z9 carry es => A8 (ρ = [.ptr p, .ptr q, .int (w : Nat), .ptr (H.length + 1), .int ((2 ^ w - 1 : Nat) : Int), .int (j : Nat), .int (d : Nat), .int (carry : Nat), z8, z9]) (Ext H K') (DL K' (H.length + 1) es) (es.length = a.length + b.length) ((∀ d ∈ es, d < 2 ^ w)) (va (2 ^ w) es + (2 ^ w) ^ (j + k) * carry = va (2 ^ w) ds + (2 ^ w) ^ j * d * va (2 ^ w) (b.take k)) (carry < 2 ^ w) (es.drop (j + k) = ds.drop (j + k))) ?_ ?_ ?_
    · skip
      refine ⟨hqf, by rw [nums_len]; exact hcb, ⟨_, _, 0, ds, rfl, hE, hD, hl, hd, by simp [va], hB, rfl⟩, ?_⟩
      rintro j ρ K ⟨_, _, _, _, rfl, hE, _⟩
      exact hE.dl hq
    · rintro k v ρ K' hv1 ⟨z8, z9, carry, es, rfl, hE', hD', hl', hd', hv', hc', hdr⟩
      intro Nq hNq
      obtain ⟨e, h2, rfl⟩ := nums_inv hv1
      have hk := lt_of_at h2
      have he1 := hb.small e (mem_at h2)
      obtain ⟨o, h3⟩ := at_lt (l := es) (i := j + k) (by lia)
      have ho := hd' o (mem_at h3)
      have hce : es.length ≤ cap := by rw [cap_eq]; lia
      refine ⟨_, iAdd, _, dl_item hD' h3 hce, ?_⟩
      have hs := mul_small hc' ho hd1 he1
      refine ⟨_, iMul (by unfold big; lia), _, iAdd, _, iAdd, _, iBand, _, iAdd, _, dl_put hD' (by lia) (by lia) hce, _, iShr, ?_⟩
      refine hNq _ _ ⟨_, _, _, _, rfl, hE'.set (Nat.le_succ _) _, dl_set hD', by simp [hl'], small_set hd' (Nat.mod_lt _ hB), ?_, Nat.div_lt_of_lt_mul hs, ?_⟩
      · have h4 := va_set (B := 2 ^ w) ((carry + (o + d * e)) % 2 ^ w) h3
        have h5 := carry_step (2 ^ w) ((2 ^ w) ^ (j + k)) 0 (carry + (o + d * e))
        have h6 : (2 ^ w) ^ j * d * ((2 ^ w) ^ k * e) = (2 ^ w) ^ (j + k) * (d * e) := by rw [Nat.pow_add, Nat.mul_mul_mul_comm]
        have h7 : (2 ^ w) ^ (j + k) * (carry + (o + d * e)) = (2 ^ w) ^ (j + k) * carry + ((2 ^ w) ^ (j + k) * o + (2 ^ w) ^ (j + k) * (d * e)) := by rw [Nat.mul_add, Nat.mul_add]
        rw [va_take h2, show j + (k + 1) = j + k + 1 by lia, Nat.pow_succ, Nat.mul_add ((2 ^ w) ^ j * d), h6]
        rw [h7] at h5
        generalize carry + (o + d * e) = s at *
        lia
      · have := congrArg (List.drop 1) hdr
        rw [List.drop_drop, List.drop_drop] at this
        rw [drop_set_lt (by lia)]; exact this
    · rintro ρ K' ⟨z8, z9, carry, es, rfl, hE', hD', hl', hd', hv', hc', hdr⟩
      rw [nums_len] at hv' hdr
      rw [List.take_length (l := b), hb.val] at hv'
      have hce : es.length ≤ cap := by rw [cap_eq]; lia
      have h0 : es[j + b.length]? = some 0 := by
        have := congrArg (·[0]?) hdr
        simp only [List.getElem?_drop, Nat.add_zero] at this
        rw [this]; exact hz _ (Nat.le_refl _) (by lia)
      refine ⟨_, dl_len (hE'.dl hq) hcb, _, iAdd, _, dl_put hD' (by lia) (by lia) hce, ?_⟩
      refine hNq _ _ ⟨_, _, _, _, _, _, rfl, hE'.set (Nat.le_succ _) _, dl_set hD', by simp [hl'], small_set hd' hc', ?_, ?_⟩
      · have h4 := va_set (B := 2 ^ w) carry h0
        rw [va_take h1, Nat.add_mul, ← hv]
        lia
      · intro i hi1 hi2
        rw [List.getElem?_set_ne (by lia)]
        have := congrArg (·[i - (j + b.length)]?) hdr
        simp only [List.getElem?_drop] at this
        rw [show j + b.length + (i - (j + b.length)) = i by lia] at this
        rw [this]; exact hz i (by lia) hi2
  · rintro ρ K ⟨_, _, _, _, _, ds, rfl, hE, hD, hl, hd, hv, hz⟩
    rw [nums_len, List.take_length (l := a), ha.val] at hv
    refine (normal_ok (n := n) hD (by rw [cap_eq]; lia) hd).mono ?_
    rintro v G ⟨es, rfl, rfl, hN, _⟩
    rw [hv] at hN
    exact hQz _ _ ⟨hE.push _, _, es, rfl, hE.len, dl_push, hN⟩
end Mine
end

section
namespace Mine
theorem minV_nat {a b : Nat} : minV (.int (a : Nat)) (.int (b : Nat)) = some (.int ((min a b : Nat) : Int)) := by
  simp only [minV]
  congr 2
  split
  · rw [Nat.min_eq_right (by lia)]
  · rw [Nat.min_eq_left (by lia)]

theorem guessed_ok {n w u0 u1 u2 f s : Nat} {H : AH} {p : Nat} (hw1 : 1 ≤ w) (hw : w ≤ 8) (hp : DL H p [u0, u1, u2]) (h0 : u0 < 2 ^ w) (h1 : u1 < 2 ^ w) (h2 : u2 < 2 ^ w) (hf0 : 0 < f) (hf : f < 2 ^ w) (hs : s < 2 ^ w) :
    C (callF defs (n + 1)) 26 [.ptr p, .int (f : Nat), .int (s : Nat), .int (w : Nat)] H fun v H' => v = .int ((min (((u2 * 2 ^ w + u1) * 2 ^ w + u0) / (f * 2 ^ w + s)) (2 ^ w - 1) : Nat) : Int) ∧ H' = H := by
  have hB2 := two_le hw1
  have hB : 0 < 2 ^ w := by lia
  have hB8 : 2 ^ w ≤ 256 := Nat.pow_le_pow_right (n := 2) (by decide) hw
  have hc : [u0, u1, u2].length ≤ cap := by show 3 ≤ cap; rw [cap_eq]; decide
  refine C_def (D := ⟨4, 8, bGuessedLimb⟩) rfl rfl ?_
  show X _ bGuessedLimb [.ptr p, .int (f : Nat), .int (s : Nat), .int (w : Nat), .unb, .unb, .unb, .unb] H _ _
  unfold bGuessedLimb
  refine ⟨_, dl_item (k := 2) hp rfl hc, ?_⟩
  refine ⟨_, iShl (by unfold big; lia) (by lia), _, dl_item (k := 1) hp rfl hc, ?_⟩
  have hhigh : u2 * 2 ^ w + u1 < 256 * 256 := by
    have : u2 * 2 ^ w ≤ 255 * 256 := Nat.mul_le_mul (by lia) (by lia)
    lia
  refine ⟨_, iBor h1, _, iShl1 hw, _, iDiv hf0 (by lia), _, iMask, _, minV_nat, ?_⟩
  obtain ⟨hi, ehi⟩ : ∃ hi, hi = u2 * 2 ^ w + u1 := ⟨_, rfl⟩
  rw [← ehi] at hhigh ⊢
  obtain ⟨B, eB⟩ : ∃ B, B = 2 ^ w := ⟨_, rfl⟩
  have hm0 : min (hi / f) (2 ^ w - 1) * f ≤ hi := Nat.le_trans (Nat.mul_le_mul_right _ (Nat.min_le_left _ _)) (Nat.div_mul_le_self _ _)
  have hV : 0 < f * 2 ^ w + s := by have := Nat.mul_le_mul_right (2 ^ w) hf0; lia
  refine ⟨_, iMul (by unfold big; have := Nat.min_le_right (hi / f) (2 ^ w - 1); lia), _, iSub hm0, ?_⟩
  refine X_whl (fun j ρ G => A5 (ρ = [.ptr p, .int (f : Nat), .int (s : Nat), .int (w : Nat), .int (hi : Nat), .int ((2 ^ w : Nat) : Int), .int (j : Nat), .int ((hi - j * f : Nat) : Int)]) (G = H) (j * f ≤ hi) (j ≤ 2 ^ w - 1) (min ((hi * 2 ^ w + u0) / (f * 2 ^ w + s)) (2 ^ w - 1) ≤ j)) _ (by rw [fuel_eq]; have := Nat.min_le_right (hi / f) (2 ^ w - 1); lia)
    ⟨rfl, rfl, hm0, Nat.min_le_right _ _, ?_⟩ ?_
  · refine Nat.le_min.mpr ⟨?_, Nat.min_le_right _ _⟩
    refine Nat.le_trans (Nat.min_le_left _ _) ?_
    rw [Nat.le_div_iff_mul_le hf0]
    have h3 := Nat.div_mul_le_self (hi * 2 ^ w + u0) (f * 2 ^ w + s)
    generalize (hi * 2 ^ w + u0) / (f * 2 ^ w + s) = q at *
    rw [Nat.mul_add, ← Nat.mul_assoc] at h3
    have h4 : q * f * 2 ^ w < (hi + 1) * 2 ^ w := by rw [Nat.add_mul, Nat.one_mul]; lia
    exact Nat.le_of_lt_succ (Nat.lt_of_mul_lt_mul_right h4)
  · rintro j ρ G ⟨rfl, rfl, hjf, hjB, hjm⟩
    have hdown : (hi - j * f) * 2 ^ w + u0 < j * s → hi * 2 ^ w + u0 < j * (f * 2 ^ w + s) := fun h => by
      rw [Nat.mul_add, ← Nat.mul_assoc]
      have : (hi - j * f) * 2 ^ w + j * f * 2 ^ w = hi * 2 ^ w := by rw [← Nat.add_mul, Nat.sub_add_cancel hjf]
      lia
    have hup : j * s ≤ (hi - j * f) * 2 ^ w + u0 → min ((hi * 2 ^ w + u0) / (f * 2 ^ w + s)) (2 ^ w - 1) = j := fun h => by
      refine Nat.le_antisymm hjm (Nat.le_min.mpr ⟨?_, hjB⟩)
      rw [Nat.le_div_iff_mul_le hV, Nat.mul_add, ← Nat.mul_assoc]
      have : (hi - j * f) * 2 ^ w + j * f * 2 ^ w = hi * 2 ^ w := by rw [← Nat.add_mul, Nat.sub_add_cancel hjf]
      lia
    (with_reducible conv => whnf)
    refine ifs (fun _ => ?_) (fun _ => ?_)
    · rename_i hlt
      have hlt : hi - j * f < 2 ^ w := by lia
      refine ⟨_, iMul (by unfold big; lia), _, iShl (by unfold big; lia) (by lia), _, dl_item (k := 0) hp rfl hc, ?_⟩
      refine ⟨_, iBor h0, ?_⟩
      (with_reducible conv => whnf)
      refine ifs (fun _ => ?_) (fun _ => ?_)
      · rename_i hgt
        have hgt : (hi - j * f) * 2 ^ w + u0 < j * s := by lia
        have hj0 : 0 < j := by
          rcases Nat.eq_zero_or_pos j with q | q
          · subst q; lia
          · exact q
        have h3 := hdown hgt
        have hjf1 : (j - 1) * f ≤ hi := Nat.le_trans (Nat.mul_le_mul_right _ (Nat.sub_le _ _)) hjf
        refine ⟨_, iSub1 hj0, _, iAdd, j - 1, by lia, ?_, rfl, hjf1, by lia, ?_⟩
        · have : hi - j * f + f = hi - (j - 1) * f := by
            have : j * f = (j - 1) * f + f := by
              have : j = (j - 1) + 1 := by lia
              rw [this, Nat.add_mul, Nat.one_mul]; simp
            lia
          rw [this]
        · refine Nat.le_trans (Nat.min_le_left _ _) ?_
          have : (hi * 2 ^ w + u0) / (f * 2 ^ w + s) < j := (Nat.div_lt_iff_lt_mul hV).mpr h3
          lia
      · rename_i hgt
        rw [hup (by lia)]
        trivial
    · rename_i hlt
      have hlt : 2 ^ w ≤ hi - j * f := by lia
      have h5 : j * s ≤ (hi - j * f) * 2 ^ w + u0 := by
        have h6 : j * s ≤ 2 ^ w * 2 ^ w := Nat.mul_le_mul (by lia) (by lia)
        have h7 : 2 ^ w * 2 ^ w ≤ (hi - j * f) * 2 ^ w := Nat.mul_le_mul_right _ hlt
        lia
      rw [hup h5]
      trivial
end Mine
end

section
namespace Mine
theorem dl_lt {H : AH} {p : Nat} {ds : List Nat} (h : DL H p ds) : p < H.length := list_lt h
theorem dl_set_ne {H : AH} {p q : Nat} {o : AO} {ds : List Nat} (h : p ≠ q) (hq : DL H q ds) : DL (H.set p o) q ds := by unfold DL; rw [list_set_ne h]; exact hq
theorem dl_self {H : AH} {p : Nat} {ds : List Nat} (h : DL H p ds) : H.set p (.list (nums ds)) = H := by
  apply List.ext_getElem?
  intro i
  by_cases hi : p = i
  · subst hi; rw [List.getElem?_set_self (dl_lt h)]; exact (listAt_eq.mp h).symm
  · rw [List.getElem?_set_ne hi]
theorem drop_next {a b : List Nat} {m : Nat} (h : a.drop m = b.drop m) : a.drop (m + 1) = b.drop (m + 1) := by
  have := congrArg (List.drop 1) h
  rw [List.drop_drop, List.drop_drop] at this; exact this
theorem drop_head {a b : List Nat} {m : Nat} (h : a.drop m = b.drop m) : a[m]? = b[m]? := by
  have := congrArg (·[0]?) h
  simp only [List.getElem?_drop, Nat.add_zero] at this; exact this

theorem take_away_ok {n w q t D : Nat} {H : AH} {pr pb : Nat} {rs bs : List Nat} (hw1 : 1 ≤ w) (hw : w ≤ 8) (hpr : frozen ≤ pr) (hpb : frozen ≤ pb) (hne : pr ≠ pb) (hr : DL H pr rs) (hb : DL H pb bs) (hrs : ∀ d ∈ rs, d < 2 ^ w) (hbs : ∀ d ∈ bs, d < 2 ^ w) (hD : va (2 ^ w) bs = D)
    (hlr : rs.length ≤ 90000) (hlb : bs.length ≤ 90000) (ht : t + bs.length < rs.length) (hq : q < 2 ^ w) :
    C (callF defs (n + 1)) 27 [.ptr pr, .ptr pb, .int (q : Nat), .int (t : Nat), .int (w : Nat)] H fun v H' => ∃ β : Nat, ∃ es : List Nat, v = .int (β : Nat) ∧ H' = H.set pr (.list (nums es)) ∧ es.length = rs.length ∧ (∀ d ∈ es, d < 2 ^ w) ∧ β ≤ 1 ∧
      va (2 ^ w) es + (2 ^ w) ^ t * (q * D) = va (2 ^ w) rs + (2 ^ w) ^ (t + bs.length + 1) * β ∧ es.drop (t + bs.length + 1) = rs.drop (t + bs.length + 1) := by
  have hB2 := two_le hw1
  have hB : 0 < 2 ^ w := by lia
  have hB8 : 2 ^ w ≤ 256 := Nat.pow_le_pow_right (n := 2) (by decide) hw
  have hcr : rs.length ≤ cap := by rw [cap_eq]; lia
  have hcb : bs.length ≤ cap := by rw [cap_eq]; lia
  refine Cgen fun Qz hQz => ?_
  refine C_def (D := ⟨5, 10, bTakeAway⟩) rfl rfl ?_
  show X _ bTakeAway [.ptr pr, .ptr pb, .int (q : Nat), .int (t : Nat), .int (w : Nat), .unb, .unb, .unb, .unb, .unb] H _ _
  unfold bTakeAway
  refine ⟨_, iShl1 hw, ?_⟩
  refine X_forEq (xs := nums bs) (fun k ρ K => E5 fun z7 z8 z9 c es => A7 (ρ = [.ptr pr, .ptr pb, .int (q : Nat), .int (t : Nat), .int (w : Nat), .int (c : Nat), .int ((2 ^ w : Nat) : Int), z7, z8, z9]) (K = H.set pr (.list (nums es))) (es.length = rs.length) ((∀ d ∈ es, d < 2 ^ w)) (va (2 ^ w) es + (2 ^ w) ^ t * (q * va (2 ^ w) (bs.take k)) = va (2 ^ w) rs + (2 ^ w) ^ (t + k) * c) (c ≤ 2 ^ w) (es.drop (t + k) = rs.drop (t + k))) ?_ ?_ ?_
  · skip
    refine ⟨hpb, by rw [nums_len]; exact hcb, ⟨_, _, _, 0, rs, rfl, (dl_self hr).symm, rfl, hrs, by simp [va], Nat.zero_le _, rfl⟩, ?_⟩
    rintro k ρ K ⟨_, _, _, _, es, rfl, rfl, _⟩
    exact dl_set_ne hne hb
  · rintro k v ρ K hv0 ⟨z7, z8, z9, c, es, rfl, rfl, hl, hd, hv, hc, hdr⟩ Nr hNr
    obtain ⟨o, h1, rfl⟩ := nums_inv hv0
    have hk := lt_of_at h1
    have ho := hbs o (mem_at h1)
    obtain ⟨r, h2⟩ := at_lt (l := es) (i := t + k) (by lia)
    have hr1 := hd r (mem_at h2)
    have hce : es.length ≤ cap := by lia
    have hDe : DL (H.set pr (.list (nums es))) pr es := dl_set hr
    refine ⟨_, iAdd, _, dl_item hDe h2 hce, _, iMul (by unfold big; lia), _, iAdd, _, iMod hB, ?_⟩
    refine ⟨_, rfl, _, iMul (by unfold big; lia), _, iAdd, _, iDiv hB (by lia), ?_⟩
    have hu := Nat.div_add_mod (q * o + c) (2 ^ w)
    have hum := Nat.mod_lt (q * o + c) hB
    have huq : (q * o + c) / 2 ^ w < 2 ^ w := by
      refine Nat.div_lt_of_lt_mul ?_
      obtain ⟨m, em⟩ : ∃ m, 2 ^ w = m + 1 := ⟨2 ^ w - 1, by lia⟩
      rw [em] at hq ho hc ⊢
      have : q * o ≤ m * m := Nat.mul_le_mul (by lia) (by lia)
      have : (m + 1) * (m + 1) = m * m + m + m + 1 := by rw [Nat.add_mul, Nat.mul_add]; lia
      lia
    have fin : ∀ (z9 : AV) (s β : Nat), s < 2 ^ w → β ≤ 1 → s + (q * o + c) % 2 ^ w = r + 2 ^ w * β → Nr [AV.ptr pr, .ptr pb, .int (q : Nat), .int (t : Nat), .int (w : Nat), .int (((q * o + c) / 2 ^ w + β : Nat) : Int), .int ((2 ^ w : Nat) : Int), .int (k : Nat), .int (o : Nat), z9] ((H.set pr (.list (nums es))).set pr (.list (nums (es.set (t + k) s)))) := fun z9 s β hs hβ hsr => by
      refine hNr _ _ ⟨_, _, _, (q * o + c) / 2 ^ w + β, es.set (t + k) s, rfl, by rw [List.set_set], by simp [hl], small_set hd hs, ?_, by lia, ?_⟩
      · have h4 := va_set (B := 2 ^ w) s h2
        rw [va_take h1, show t + (k + 1) = t + k + 1 by lia, Nat.pow_succ]
        have h5 : (2 ^ w) ^ t * (q * (va (2 ^ w) (bs.take k) + (2 ^ w) ^ k * o)) = (2 ^ w) ^ t * (q * va (2 ^ w) (bs.take k)) + (2 ^ w) ^ (t + k) * (q * o) := by
          rw [Nat.mul_add, Nat.mul_add, Nat.pow_add, Nat.mul_left_comm q, Nat.mul_assoc]
        rw [h5]
        have h6 := congrArg ((2 ^ w) ^ (t + k) * ·) hsr
        have h7 := congrArg ((2 ^ w) ^ (t + k) * ·) hu
        simp only [Nat.mul_add] at h6 h7
        rw [Nat.mul_add, Nat.mul_assoc, Nat.mul_assoc]
        lia
      · rw [drop_set_lt (by lia)]; exact drop_next hdr
    (with_reducible conv => whnf)
    refine ifs (fun _ => ?_) (fun _ => ?_)
    · rename_i hneg
      have h8 : (r : Int) - (((q * o + c) % 2 ^ w : Nat) : Int) < 0 := hneg
      refine ⟨_, rfl, ?_⟩
      have e9 : binI .add ((r : Int) - (((q * o + c) % 2 ^ w : Nat) : Int)) ((2 ^ w : Nat) : Int) = some ((r + 2 ^ w - (q * o + c) % 2 ^ w : Nat) : Int) := by simp only [binI]; congr 1; lia
      (with_reducible conv => whnf)
      refine ifp hneg ?_
      exact ⟨_, e9, _, iAdd, _, dl_put hDe hpr (by lia) hce, fin _ _ 1 (by lia) (by lia) (by lia)⟩
    · rename_i hneg
      have h8 : ¬ (r : Int) - (((q * o + c) % 2 ^ w : Nat) : Int) < 0 := hneg
      have e9 : (r : Int) - (((q * o + c) % 2 ^ w : Nat) : Int) = ((r - (q * o + c) % 2 ^ w : Nat) : Int) := by lia
      refine ⟨_, rfl, ?_⟩
      (with_reducible conv => whnf)
      rw [if_neg hneg, e9]
      exact ⟨_, iAdd, _, dl_put hDe hpr (by lia) hce, fin _ _ 0 (by lia) (by lia) (by lia)⟩
  · rintro ρ K ⟨z7, z8, z9, c, es, rfl, rfl, hl, hd, hv, hc, hdr⟩
    rw [nums_len] at hv hdr
    rw [List.take_length (l := bs), hD] at hv
    obtain ⟨r, h2⟩ := at_lt (l := es) (i := t + bs.length) (by lia)
    have hr1 := hd r (mem_at h2)
    have hce : es.length ≤ cap := by lia
    have hDe : DL (H.set pr (.list (nums es))) pr es := dl_set hr
    have hDb : DL (H.set pr (.list (nums es))) pb bs := dl_set_ne hne hb
    refine ⟨_, dl_len hDb hcb, _, iAdd, _, dl_item hDe h2 hce, ?_⟩
    refine ⟨_, rfl, ?_⟩
    have fin : ∀ (s β : Nat), s < 2 ^ w → β ≤ 1 → s + c = r + 2 ^ w * β → Qz (AV.int ((β : Nat) : Int)) ((H.set pr (.list (nums es))).set pr (.list (nums (es.set (t + bs.length) s)))) := fun s β hs hβ hsr => by
      refine hQz _ _ ⟨β, es.set (t + bs.length) s, rfl, by rw [List.set_set], by simp [hl], small_set hd hs, hβ, ?_, ?_⟩
      · have h4 := va_set (B := 2 ^ w) s h2
        have h6 := congrArg ((2 ^ w) ^ (t + bs.length) * ·) hsr
        simp only [Nat.mul_add] at h6
        rw [Nat.pow_succ, Nat.mul_assoc]
        lia
      · rw [drop_set_lt (by lia)]; exact drop_next hdr
    (with_reducible conv => whnf)
    refine ifs (fun _ => ?_) (fun _ => ?_)
    · rename_i hneg
      have e9 : binI .add ((r : Int) - (c : Nat)) ((2 ^ w : Nat) : Int) = some ((r + 2 ^ w - c : Nat) : Int) := by simp only [binI]; congr 1; lia
      refine ⟨_, e9, _, dl_len hDb hcb, _, iAdd, _, dl_put hDe hpr (by lia) hce, ?_⟩
      (with_reducible conv => whnf)
      refine ifp hneg ?_
      exact fin (r + 2 ^ w - c) 1 (by lia) (by lia) (by lia)
    · rename_i hneg
      have e9 : (r : Int) - (c : Nat) = ((r - c : Nat) : Int) := by lia
      rw [e9]
      refine ⟨_, dl_len hDb hcb, _, iAdd, _, dl_put hDe hpr (by lia) hce, ?_⟩
      (with_reducible conv => whnf)
      refine ifn (by lia) ?_
      exact fin (r - c) 0 (by lia) (by lia) (by lia)
end Mine
end

section
namespace Mine

theorem put_back_ok {n w t D : Nat} {H : AH} {pr pb : Nat} {rs bs : List Nat} (hw1 : 1 ≤ w) (hw : w ≤ 8) (hpr : frozen ≤ pr) (hpb : frozen ≤ pb) (hne : pr ≠ pb) (hr : DL H pr rs) (hb : DL H pb bs) (hrs : ∀ d ∈ rs, d < 2 ^ w) (hbs : ∀ d ∈ bs, d < 2 ^ w) (hD : va (2 ^ w) bs = D)
    (hlr : rs.length ≤ 90000) (hlb : bs.length ≤ 90000) (ht : t + bs.length < rs.length) :
    C (callF defs (n + 1)) 28 [.ptr pr, .ptr pb, .int (t : Nat), .int (w : Nat)] H fun v H' => ∃ κ : Nat, ∃ es : List Nat, v = .none ∧ H' = H.set pr (.list (nums es)) ∧ es.length = rs.length ∧ (∀ d ∈ es, d < 2 ^ w) ∧
      va (2 ^ w) es + (2 ^ w) ^ (t + bs.length + 1) * κ = va (2 ^ w) rs + (2 ^ w) ^ t * D ∧ es.drop (t + bs.length + 1) = rs.drop (t + bs.length + 1) := by
  have hB2 := two_le hw1
  have hB : 0 < 2 ^ w := by lia
  have hB8 : 2 ^ w ≤ 256 := Nat.pow_le_pow_right (n := 2) (by decide) hw
  have hcr : rs.length ≤ cap := by rw [cap_eq]; lia
  have hcb : bs.length ≤ cap := by rw [cap_eq]; lia
  refine Cgen fun Qz hQz => ?_
  refine C_def (D := ⟨4, 8, bPutBack⟩) rfl rfl ?_
  show X _ bPutBack [.ptr pr, .ptr pb, .int (t : Nat), .int (w : Nat), .unb, .unb, .unb, .unb] H _ _
  unfold bPutBack
  refine ⟨_, iShl1 hw, _, iMask, ?_⟩
  refine X_forEq (xs := nums bs) (fun k ρ K => E4 fun z6 z7 c es => A7 (ρ = [.ptr pr, .ptr pb, .int (t : Nat), .int (w : Nat), .int (c : Nat), .int ((2 ^ w - 1 : Nat) : Int), z6, z7]) (K = H.set pr (.list (nums es))) (es.length = rs.length) ((∀ d ∈ es, d < 2 ^ w)) (va (2 ^ w) es + (2 ^ w) ^ (t + k) * c = va (2 ^ w) rs + (2 ^ w) ^ t * va (2 ^ w) (bs.take k)) (c ≤ 1) (es.drop (t + k) = rs.drop (t + k))) ?_ ?_ ?_
  · skip
    refine ⟨hpb, by rw [nums_len]; exact hcb, ⟨_, _, 0, rs, rfl, (dl_self hr).symm, rfl, hrs, by simp [va], Nat.zero_le _, rfl⟩, ?_⟩
    rintro k ρ K ⟨_, _, _, es, rfl, rfl, _⟩
    exact dl_set_ne hne hb
  · rintro k v ρ K hv0 ⟨z6, z7, c, es, rfl, rfl, hl, hd, hv, hc, hdr⟩
    intro Nq hNq
    obtain ⟨o, h1, rfl⟩ := nums_inv hv0
    have hk := lt_of_at h1
    have ho := hbs o (mem_at h1)
    obtain ⟨r, h2⟩ := at_lt (l := es) (i := t + k) (by lia)
    have hr1 := hd r (mem_at h2)
    have hce : es.length ≤ cap := by lia
    have hDe : DL (H.set pr (.list (nums es))) pr es := dl_set hr
    refine ⟨_, iAdd, _, dl_item hDe h2 hce, ?_⟩
    refine ⟨_, iAdd, _, iAdd, _, iBand, _, iAdd, _, dl_put hDe hpr (by lia) hce, _, iShr, ?_⟩
    refine hNq _ _ ⟨_, _, _, es.set (t + k) ((c + (r + o)) % 2 ^ w), rfl, by rw [List.set_set], by simp [hl], small_set hd (Nat.mod_lt _ hB), ?_, ?_, ?_⟩
    · have h4 := va_set (B := 2 ^ w) ((c + (r + o)) % 2 ^ w) h2
      have h5 := carry_step (2 ^ w) ((2 ^ w) ^ (t + k)) 0 (c + (r + o))
      have h6 : (2 ^ w) ^ (t + k) * (c + (r + o)) = (2 ^ w) ^ (t + k) * c + ((2 ^ w) ^ (t + k) * r + (2 ^ w) ^ (t + k) * o) := by rw [Nat.mul_add, Nat.mul_add]
      rw [h6] at h5
      rw [va_take h1, show t + (k + 1) = t + k + 1 by lia, Nat.pow_succ, Nat.mul_add, ← Nat.mul_assoc, ← Nat.pow_add]
      generalize c + (r + o) = s at *
      lia
    · have : (c + (r + o)) / 2 ^ w < 2 := Nat.div_lt_of_lt_mul (by lia)
      lia
    · rw [drop_set_lt (by lia)]; exact drop_next hdr
  · rintro ρ K ⟨z6, z7, c, es, rfl, rfl, hl, hd, hv, hc, hdr⟩
    rw [nums_len] at hv hdr
    rw [List.take_length (l := bs), hD] at hv
    obtain ⟨r, h2⟩ := at_lt (l := es) (i := t + bs.length) (by lia)
    have hr1 := hd r (mem_at h2)
    have hce : es.length ≤ cap := by lia
    have hDe : DL (H.set pr (.list (nums es))) pr es := dl_set hr
    have hDb : DL (H.set pr (.list (nums es))) pb bs := dl_set_ne hne hb
    refine ⟨_, dl_len hDb hcb, _, iAdd, _, dl_item hDe h2 hce, ?_⟩
    refine ⟨_, iAdd, _, iBand, _, dl_len hDb hcb, _, iAdd, _, dl_put hDe hpr (by lia) hce, ?_⟩
    refine hQz _ _ ⟨(r + c) / 2 ^ w, es.set (t + bs.length) ((r + c) % 2 ^ w), rfl, by rw [List.set_set], by simp [hl], small_set hd (Nat.mod_lt _ hB), ?_, ?_⟩
    · have h4 := va_set (B := 2 ^ w) ((r + c) % 2 ^ w) h2
      have h5 := carry_step (2 ^ w) ((2 ^ w) ^ (t + bs.length)) 0 (r + c)
      rw [Nat.mul_add _ r c] at h5
      rw [Nat.pow_succ]
      lia
    · rw [drop_set_lt (by lia)]; exact drop_next hdr

theorem knuth {B P G U X V low lowD D : Nat} (hP : 0 < P) (hG : 0 < G) (hX : X = low + P * G * U) (hl : low < P * G) (hD : D = lowD + G * V) (hld : lowD < G) (hV : B ≤ V) (hB : 0 < B) (hXB : X < P * D * B) :
    X / (P * D) ≤ min (U / V) (B - 1) ∧ min (U / V) (B - 1) ≤ X / (P * D) + 1 := by
  have hV0 : 0 < V := by lia
  have hD0 : 0 < D := by have := Nat.mul_pos hG hV0; lia
  have hPD : 0 < P * D := Nat.mul_pos hP hD0
  have hGV : G * V ≤ D := by lia
  refine ⟨Nat.le_min.mpr ⟨?_, ?_⟩, ?_⟩
  · rw [Nat.le_div_iff_mul_le hV0]
    have h1 := Nat.div_mul_le_self X (P * D)
    generalize X / (P * D) = q at *
    have h2 : q * V * (P * G) ≤ q * (P * D) := by
      calc q * V * (P * G) = q * (P * (G * V)) := by rw [Nat.mul_assoc]; congr 1; rw [Nat.mul_left_comm]; congr 1; exact Nat.mul_comm _ _
        _ ≤ q * (P * D) := Nat.mul_le_mul_left _ (Nat.mul_le_mul_left _ hGV)
    have h3 : q * V * (P * G) < (U + 1) * (P * G) := by
      rw [Nat.add_mul, Nat.one_mul, Nat.mul_comm U]; lia
    exact Nat.le_of_lt_succ (Nat.lt_of_mul_lt_mul_right h3)
  · have : X / (P * D) < B := Nat.div_lt_of_lt_mul hXB
    lia
  · have h1 : X < (X / (P * D) + 1) * (P * D) := by
      have := Nat.div_add_mod X (P * D)
      have := Nat.mod_lt X hPD
      rw [Nat.add_mul, Nat.one_mul, Nat.mul_comm]; lia
    generalize X / (P * D) = q at *
    have h2 : min (U / V) (B - 1) * V ≤ U := Nat.le_trans (Nat.mul_le_mul_right _ (Nat.min_le_left _ _)) (Nat.div_mul_le_self _ _)
    have h3 := Nat.min_le_right (U / V) (B - 1)
    generalize min (U / V) (B - 1) = z at *
    rcases Nat.lt_or_ge (q + 1) z with h4 | h4
    · exfalso
      obtain ⟨y, rfl⟩ : ∃ y, z = y + 1 := ⟨z - 1, by lia⟩
      have h5 : (q + 1) * (P * D) ≤ y * (P * D) := Nat.mul_le_mul_right _ (by lia)
      have h6 : P * G * ((y + 1) * V) ≤ P * G * U := Nat.mul_le_mul_left _ h2
      have h7 : y * (P * D) = y * (P * lowD) + P * G * (y * V) := by
        rw [hD, Nat.mul_add, Nat.mul_add, ← Nat.mul_assoc P G V, Nat.mul_left_comm y (P * G) V]
      have h8 : P * G * ((y + 1) * V) = P * G * (y * V) + P * G * V := by rw [Nat.add_mul, Nat.one_mul, Nat.mul_add]
      have h9 : y * (P * lowD) ≤ y * (P * G) := Nat.mul_le_mul_left _ (Nat.mul_le_mul_left _ (Nat.le_of_lt hld))
      have h10 : P * G * V < P * G * y := by rw [Nat.mul_comm y (P * G)] at h9; lia
      have := Nat.lt_of_mul_lt_mul_left h10
      lia
    · exact h4
end Mine
end

section
namespace Mine
structure ExtB (p : Nat) (H H' : AH) : Prop where
  len : H.length ≤ H'.length
  at_ : ∀ (i : Nat) (o : AO), i ≠ p → H[i]? = some o → H'[i]? = some o
theorem ExtB.refl (p : Nat) (H : AH) : ExtB p H H := ⟨Nat.le_refl _, fun _ _ _ h => h⟩
theorem ExtB.push {p : Nat} {H H' : AH} (a : ExtB p H H') (o : AO) : ExtB p H (H' ++ [o]) := ⟨by rw [List.length_append]; exact Nat.le_add_right_of_le a.len, fun i o' hi h => by
  rw [List.getElem?_append_left (lt_of_at (a.at_ i o' hi h))]; exact a.at_ i o' hi h⟩
theorem ExtB.set {p q : Nat} {H H' : AH} (a : ExtB p H H') (hq : q = p ∨ H.length ≤ q) (o : AO) : ExtB p H (H'.set q o) := ⟨by rw [List.length_set]; exact a.len, fun i o' hi h => by
  rw [List.getElem?_set_ne (by have := lt_of_at h; lia)]; exact a.at_ i o' hi h⟩
theorem ExtB.dl {p : Nat} {H H' : AH} (a : ExtB p H H') {q : Nat} {ds : List Nat} (hq : q ≠ p) (h : DL H q ds) : DL H' q ds := listAt_eq.mpr (a.at_ _ _ hq (listAt_eq.mp h))

theorem three {ds : List Nat} {m u0 u1 u2 : Nat} (h0 : ds[m]? = some u0) (h1 : ds[m + 1]? = some u1) (h2 : ds[m + 2]? = some u2) : ((nums ds).take (m + 3)).drop m = nums [u0, u1, u2] := by
  apply List.ext_getElem?
  intro i
  rw [List.getElem?_drop]
  match i with
  | 0 => rw [List.getElem?_take_of_lt (by lia), Nat.add_zero, nums_at h0]; rfl
  | 1 => rw [List.getElem?_take_of_lt (by lia), nums_at h1]; rfl
  | 2 => rw [List.getElem?_take_of_lt (by lia), nums_at h2]; rfl
  | i + 3 => rw [List.getElem?_take_eq_none (by lia)]; rfl
theorem three_val {B : Nat} {ds : List Nat} {m u0 u1 u2 : Nat} (h0 : ds[m]? = some u0) (h1 : ds[m + 1]? = some u1) (h2 : ds[m + 2]? = some u2) :
    va B ds = va B (ds.take m) + B ^ m * ((u2 * B + u1) * B + u0 + B * B * B * va B (ds.drop (m + 3))) := by
  rw [va_split h0, drop_at_cons h1, drop_at_cons h2]
  congr 2
  simp only [va]
  rw [show m + 1 + 1 + 1 = m + 3 from rfl]
  generalize va B (ds.drop (m + 3)) = T
  grind

theorem divide_rows_ok {n w D m : Nat} {H : AH} {pr pb : Nat} {rs bs : List Nat} (hH : frozen ≤ H.length) (hw1 : 1 ≤ w) (hw : w ≤ 8) (hpr : frozen ≤ pr) (hpb : frozen ≤ pb) (hne : pr ≠ pb) (hr : DL H pr rs) (hb : DL H pb bs) (hrs : ∀ d ∈ rs, d < 2 ^ w) (hbs : ∀ d ∈ bs, d < 2 ^ w) (hD : va (2 ^ w) bs = D)
    (hlr : rs.length ≤ 90000) (hm : rs.length = m + bs.length) (hb2 : 2 ≤ bs.length) (htop : bs.getLast? ≠ some 0) (hX : va (2 ^ w) rs < D * (2 ^ w) ^ m) :
    C (callF defs (n + 2)) 29 [.ptr pr, .ptr pb, .int (w : Nat)] H fun v H' => ∃ pq qs es, v = .ptr pq ∧ H.length ≤ pq ∧ ExtB pr H H' ∧ DL H' pq qs ∧ DL H' pr es ∧ qs.length = m ∧ (∀ d ∈ qs, d < 2 ^ w) ∧ es.length = rs.length ∧ (∀ d ∈ es, d < 2 ^ w) ∧
      va (2 ^ w) rs = D * va (2 ^ w) qs + va (2 ^ w) es ∧ va (2 ^ w) es < D := by
  have hB2 := two_le hw1
  have hB : 0 < 2 ^ w := by lia
  have hB8 : 2 ^ w ≤ 256 := Nat.pow_le_pow_right (n := 2) (by decide) hw
  have hcr : rs.length ≤ cap := by rw [cap_eq]; lia
  have hcb : bs.length ≤ cap := by rw [cap_eq]; lia
  obtain ⟨k, hk⟩ : ∃ k, bs.length = k + 2 := ⟨bs.length - 2, by lia⟩
  obtain ⟨f, hf⟩ := at_lt (l := bs) (i := k + 1) (by lia)
  obtain ⟨s, hs⟩ := at_lt (l := bs) (i := k) (by lia)
  have hfB := hbs f (mem_at hf)
  have hsB := hbs s (mem_at hs)
  have hf0 : 0 < f := by
    rcases Nat.eq_zero_or_pos f with q | q
    · subst q
      refine absurd ?_ htop
      rw [List.getLast?_eq_getElem?, hk]; exact hf
    · exact q
  have hV : 2 ^ w ≤ f * 2 ^ w + s := by have := Nat.mul_le_mul_right (2 ^ w) hf0; lia
  have hDV : D = va (2 ^ w) (bs.take k) + (2 ^ w) ^ k * (f * 2 ^ w + s) := by
    rw [← hD, va_split hs, drop_at_cons hf, List.drop_of_length_le (by lia)]
    simp only [va, Nat.mul_zero, Nat.add_zero]
    rw [Nat.mul_comm (2 ^ w) f, Nat.add_comm s]
  have hld : va (2 ^ w) (bs.take k) < (2 ^ w) ^ k := by
    have := va_lt hB (ds := bs.take k) fun x hx => hbs x (List.mem_of_mem_take hx)
    rw [List.length_take, Nat.min_eq_left (by lia)] at this; exact this
  have hDlt : D < (2 ^ w) ^ bs.length := hD ▸ va_lt hB hbs
  have hD0 : 0 < D := by have := Nat.mul_pos (Nat.pow_pos (n := k) hB) (show 0 < f * 2 ^ w + s by lia); lia
  refine Cgen fun Qz hQz => ?_
  refine C_def (D := ⟨3, 7, bDivideRows⟩) rfl rfl ?_
  show X _ bDivideRows [.ptr pr, .ptr pb, .int (w : Nat), .unb, .unb, .unb, .unb] H _ _
  unfold bDivideRows
  have E1 := (Ext.refl H).push (.list [.int 0])
  have E2 := E1.push (.list (nums (List.replicate m 0)))
  have hf1 : (H ++ [AO.list [.int 0]]).length = H.length + 1 := by simp
  have hprl := dl_lt hr
  refine ⟨_, dl_len hb hcb, _, dl_len (E1.dl hr) hcr, _, iSub (by lia), ?_⟩
  rw [show rs.length - bs.length = m by lia]
  refine ⟨_, _, rep_eq (x := .int 0) (n := m) list_push hH (by rw [cap_eq]; lia), ?_⟩
  rw [rep_nums]
  refine X_forR ?_
  refine ⟨_, dl_len (E2.dl hr) hcr, _, iSub (by lia), _, rfl, ?_⟩
  rw [show rs.length - bs.length = m by lia]
  refine ⟨_, _, _, range_down (by rw [cap_eq]; lia), ?_⟩
  refine forN_ruleq (fun j ρ K => E4 fun z5 z6 qs es => A10 (ρ = [.ptr pr, .ptr pb, .int (w : Nat), .int (bs.length : Nat), .ptr (H.length + 1), z5, z6]) (ExtB pr H K) (DL K (H.length + 1) qs) (DL K pr es) (qs.length = m) ((∀ d ∈ qs, d < 2 ^ w)) (es.length = rs.length) ((∀ d ∈ es, d < 2 ^ w)) (va (2 ^ w) rs = D * ((2 ^ w) ^ (m - j) * va (2 ^ w) (qs.drop (m - j))) + va (2 ^ w) es) (va (2 ^ w) es < D * (2 ^ w) ^ (m - j))) m 0 _ _ _ ⟨_, _, List.replicate m 0, rs, by rw [hf1], ((ExtB.refl pr H).push _).push _, hf1 ▸ dl_push, E2.dl hr, by simp, fun d hd => by rw [(List.mem_replicate.mp hd).2]; lia, rfl, hrs, ?_, hX⟩ ?_ ?_
  · rw [List.drop_of_length_le (by simp)]; simp [va]
  · rintro j ρ K _ hj ⟨z5, z6, qs, es, rfl, hE, hq, he, hql, hqd, hel, hed, hv, hlt⟩ Nr hNr
    obtain ⟨t, ht⟩ : ∃ t : Nat, m = j + t + 1 := ⟨m - j - 1, by lia⟩
    have hi : ((m : Int) - 1 + ((j : Int) - (0 : Nat)) * -1) = ((t : Nat) : Int) := by lia
    rw [hi]
    rw [show m - j = t + 1 by lia] at hv hlt
    have hce : es.length ≤ cap := by lia
    obtain ⟨u0, h0⟩ := at_lt (l := es) (i := t + k) (by lia)
    obtain ⟨u1, h1⟩ := at_lt (l := es) (i := t + k + 1) (by lia)
    obtain ⟨u2, h2⟩ := at_lt (l := es) (i := t + k + 2) (by lia)
    have hbK := hE.dl (Ne.symm hne) hb
    obtain ⟨U, hU⟩ : ∃ U, U = (u2 * 2 ^ w + u1) * 2 ^ w + u0 := ⟨_, rfl⟩
    obtain ⟨z, hz⟩ : ∃ z, z = min (U / (f * 2 ^ w + s)) (2 ^ w - 1) := ⟨_, rfl⟩
    have hc3 : part (nums es).length (.int ((t + bs.length + 1 : Nat) : Int)) = some (t + k + 3) := by simp only [part]; rw [if_pos (by lia), Int.toNat_natCast, hk]; rfl
    have hc0 : part 0 (.int ((t + bs.length - 2 : Nat) : Int)) = some (t + k) := by simp only [part]; rw [if_pos (by lia), Int.toNat_natCast, hk]; rfl
    refine X_cut (M := fun ρ' G => ρ' = [.ptr pr, .ptr pb, .int (w : Nat), .int (bs.length : Nat), .ptr (H.length + 1), .int (t : Nat), .int (z : Nat)] ∧ G = K ++ [.list (nums [u0, u1, u2])]) ?_ ?_
    · skip
      refine ⟨_, iAdd, _, iSub (a := t + bs.length) (b := 2) (by lia), _, iAdd, _, iAdd (a := t + bs.length) (b := 1), ?_⟩
      rw [show ((t + bs.length + 1 : Nat) : Int) = ((t + bs.length + 1 : Nat) : Int) from rfl]
      refine ⟨_, _, cut_eq he (by rw [nums_len]; exact hce) hc0 hc3, ?_⟩
      rw [three h0 h1 h2]
      have E4 := (Ext.refl K).push (.list (nums [u0, u1, u2]))
      refine ⟨_, iSub (b := 1) (by lia), _, dl_item (E4.dl hbK) (by rw [hk]; exact hf) hcb, _, iSub (b := 2) (by lia), _, dl_item (E4.dl hbK) (by rw [hk]; exact hs) hcb, ?_⟩
      refine (guessed_ok (n := n) hw1 hw dl_push (hed _ (mem_at h0)) (hed _ (mem_at h1)) (hed _ (mem_at h2)) hf0 hfB hsB).mono ?_
      rintro v G ⟨rfl, rfl⟩
      rw [← hU, ← hz]
      trivial
    rintro ρ' G ⟨rfl, rfl⟩
    obtain ⟨G, hG⟩ : ∃ G, G = K ++ [.list (nums [u0, u1, u2])] := ⟨_, rfl⟩
    have E4 : Ext K G := hG ▸ (Ext.refl K).push _
    have E5 : ExtB pr H G := hG ▸ hE.push _
    rw [← hG]
    clear hG
    have hbG := E4.dl hbK
    have heG := E4.dl he
    have hqG := E4.dl hq
    have hP : 0 < (2 ^ w) ^ t := Nat.pow_pos hB
    have hGk : 0 < (2 ^ w) ^ k := Nat.pow_pos hB
    have hM : (2 ^ w) ^ (t + bs.length + 1) = (2 ^ w) ^ t * (2 ^ w) ^ bs.length * 2 ^ w := by rw [Nat.pow_succ, Nat.pow_add]
    have hXlt : va (2 ^ w) es < (2 ^ w) ^ t * D * 2 ^ w := by rw [Nat.mul_comm _ D, Nat.mul_assoc, ← Nat.pow_succ]; exact hlt
    have hDM : (2 ^ w) ^ t * D * 2 ^ w ≤ (2 ^ w) ^ (t + bs.length + 1) := by
      rw [hM]; exact Nat.mul_le_mul_right _ (Nat.mul_le_mul_left _ (Nat.le_of_lt hDlt))
    have hsplit : ∀ ds : List Nat, ds.length = es.length → va (2 ^ w) ds = va (2 ^ w) (ds.take (t + bs.length + 1)) + (2 ^ w) ^ (t + bs.length + 1) * va (2 ^ w) (ds.drop (t + bs.length + 1)) := fun ds hds => by
      have h := va_append (2 ^ w) (ds.take (t + bs.length + 1)) (ds.drop (t + bs.length + 1))
      rw [List.take_append_drop, List.length_take, Nat.min_eq_left (by lia)] at h
      exact h
    have hz0 : va (2 ^ w) (es.drop (t + bs.length + 1)) = 0 := by
      rcases Nat.eq_zero_or_pos (va (2 ^ w) (es.drop (t + bs.length + 1))) with q | q
      · exact q
      · have h1 := hsplit es rfl
        have h2 := Nat.mul_le_mul_left ((2 ^ w) ^ (t + bs.length + 1)) q
        rw [Nat.succ_eq_add_one, Nat.zero_add, Nat.mul_one] at h2
        lia
    have hbelow : ∀ ds : List Nat, ds.length = es.length → (∀ d ∈ ds, d < 2 ^ w) → ds.drop (t + bs.length + 1) = es.drop (t + bs.length + 1) → va (2 ^ w) ds < (2 ^ w) ^ (t + bs.length + 1) := fun ds h1 h2 h3 => by
      rw [hsplit ds h1, h3, hz0, Nat.mul_zero, Nat.add_zero]
      have := va_lt hB (ds := ds.take (t + bs.length + 1)) fun x hx => h2 x (List.mem_of_mem_take hx)
      rw [List.length_take, Nat.min_eq_left (by lia)] at this; exact this
    have hlow : va (2 ^ w) (es.take (t + k)) < (2 ^ w) ^ t * (2 ^ w) ^ k := by
      have := va_lt hB (ds := es.take (t + k)) fun x hx => hed x (List.mem_of_mem_take hx)
      rw [List.length_take, Nat.min_eq_left (by lia), Nat.pow_add] at this; exact this
    have hXU : va (2 ^ w) es = va (2 ^ w) (es.take (t + k)) + (2 ^ w) ^ t * (2 ^ w) ^ k * U := by
      have h := three_val (B := 2 ^ w) h0 h1 h2
      rw [show t + k + 3 = t + bs.length + 1 by lia, hz0, Nat.mul_zero, Nat.add_zero, Nat.pow_add, ← hU] at h
      exact h
    obtain ⟨hk1, hk2⟩ := knuth hP hGk hXU hlow hDV hld hV hB hXlt
    rw [← hz] at hk1 hk2
    have hzB : z < 2 ^ w := by have := Nat.min_le_right (U / (f * 2 ^ w + s)) (2 ^ w - 1); lia
    have hPD : 0 < (2 ^ w) ^ t * D := Nat.mul_pos hP hD0
    have hPDM : (2 ^ w) ^ t * D ≤ (2 ^ w) ^ (t + bs.length + 1) := Nat.le_trans (Nat.le_mul_of_pos_right _ hB) hDM
    obtain ⟨q, hqe⟩ : ∃ q, q = va (2 ^ w) es / ((2 ^ w) ^ t * D) := ⟨_, rfl⟩
    rw [← hqe] at hk1 hk2
    have hqm := Nat.div_add_mod (va (2 ^ w) es) ((2 ^ w) ^ t * D)
    have hqr := Nat.mod_lt (va (2 ^ w) es) hPD
    rw [← hqe] at hqm
    generalize va (2 ^ w) es % ((2 ^ w) ^ t * D) = r at hqm hqr
    have fin : ∀ (z6 : AV) (es' : List Nat), es'.length = es.length → (∀ d ∈ es', d < 2 ^ w) → va (2 ^ w) es' = r → ∃ H4, putAt (.ptr (H.length + 1)) (.int (t : Nat)) (.int (q : Nat)) (G.set pr (.list (nums es'))) = some H4 ∧ Nr [AV.ptr pr, .ptr pb, .int (w : Nat), .int (bs.length : Nat), .ptr (H.length + 1), .int (t : Nat), z6] H4 := fun z6 es' h1 h2 h3 => by
      have hq1 : DL (G.set pr (.list (nums es'))) (H.length + 1) qs := dl_set_ne (by lia) hqG
      refine ⟨_, dl_put hq1 (by lia) (by lia) (by rw [cap_eq]; lia), hNr _ _ ⟨_, _, qs.set t q, es', rfl, (E5.set (.inl rfl) _).set (.inr (Nat.le_succ _)) _, dl_set hq1, dl_set_ne (by lia) (dl_set heG), by simp [hql], small_set hqd (by lia), by lia, h2, ?_, ?_⟩⟩
      · rw [show m - (j + 1) = t by lia, drop_at_cons (a := qs.set t q) (List.getElem?_set_self (by lia)), drop_set_lt (by lia), hv, ← hqm, h3, Nat.pow_succ]
        simp only [va, Nat.mul_add]
        have e1 : D * ((2 ^ w) ^ t * 2 ^ w * va (2 ^ w) (qs.drop (t + 1))) = D * ((2 ^ w) ^ t * (2 ^ w * va (2 ^ w) (qs.drop (t + 1)))) := by rw [Nat.mul_assoc]
        have e2 : (2 ^ w) ^ t * D * q = D * ((2 ^ w) ^ t * q) := by rw [Nat.mul_right_comm, Nat.mul_comm]
        rw [e1, e2]; lia
      · rw [show m - (j + 1) = t by lia, h3, Nat.mul_comm D]; exact hqr
    refine (take_away_ok (n := n) hw1 hw hpr hpb hne heG hbG hed hbs hD (by lia) (by lia) (by lia) hzB).mono ?_
    rintro v H1 ⟨β, es1, rfl, rfl, hl1, hd1, hβ, hv1, hdr1⟩
    have hb1 := hbelow es1 hl1 hd1 hdr1
    (with_reducible conv => whnf)
    have e3 : ∀ x, (2 ^ w) ^ t * (x * D) = (2 ^ w) ^ t * D * x := fun x => by rw [Nat.mul_comm x D, Nat.mul_assoc]
    rw [e3] at hv1
    split
    · rename_i hb1'
      have hβ1 : β = 1 := by lia
      subst hβ1
      have hzq : z = q + 1 := by
        rcases Nat.lt_or_ge q z with h | h
        · lia
        · have := Nat.mul_le_mul_left ((2 ^ w) ^ t * D) h
          lia
      rw [hzq]
      refine ⟨_, iSub1 (Nat.succ_pos _), ?_⟩
      have he1 : DL (G.set pr (.list (nums es1))) pr es1 := dl_set heG
      have hbb1 : DL (G.set pr (.list (nums es1))) pb bs := dl_set_ne hne hbG
      refine (put_back_ok (n := n) (t := t) hw1 hw hpr hpb hne he1 hbb1 hd1 hbs hD (by lia) (by lia) (by lia)).mono ?_
      rintro v H2 ⟨κ, es2, rfl, rfl, hl2, hd2, hv2, hdr2⟩
      have hb2' := hbelow es2 (by lia) hd2 (hdr2.trans hdr1)
      (with_reducible conv => whnf)

      rw [List.set_set]
      refine fin _ es2 (by lia) hd2 ?_
      rw [hzq, Nat.mul_add, Nat.mul_one] at hv1
      have hκ : κ = 1 := by
        rcases Nat.lt_or_ge κ 1 with h | h
        · have : κ = 0 := by lia
          subst this
          lia
        · rcases Nat.lt_or_ge κ 2 with h' | h'
          · lia
          · have := Nat.mul_le_mul_left ((2 ^ w) ^ (t + bs.length + 1)) h'
            lia
      subst hκ
      lia
    · rename_i hb1'
      have hβ0 : β = 0 := by lia
      subst hβ0
      rw [Nat.mul_zero, Nat.add_zero] at hv1
      have hzq : z = q := by
        rcases Nat.lt_or_ge q z with h | h
        · have := Nat.mul_le_mul_left ((2 ^ w) ^ t * D) h
          rw [Nat.succ_eq_add_one, Nat.mul_add, Nat.mul_one] at this
          lia
        · lia
      rw [hzq] at hv1 ⊢
      exact fin _ es1 hl1 hd1 (by lia)
  · rintro ρ K ⟨z5, z6, qs, es, rfl, hE, hq, he, hql, hqd, hel, hed, hv, hlt⟩
    rw [Nat.zero_add, Nat.sub_self, Nat.pow_zero, Nat.one_mul, List.drop_zero] at hv
    rw [Nat.zero_add, Nat.sub_self, Nat.pow_zero, Nat.mul_one] at hlt
    exact hQz _ _ ⟨_, qs, es, rfl, Nat.le_succ _, hE, hq, he, hql, hqd, hel, hed, hv, hlt⟩
end Mine
end

section
namespace Mine
theorem Ext.but {p : Nat} {H K K' : AH} (a : Ext H K) (hp : H.length ≤ p) (b : ExtB p K K') : Ext H K' := ⟨Nat.le_trans a.len b.len, fun i o h => b.at_ i o (by have := lt_of_at h; lia) (a.at_ i o h)⟩
theorem bitLen_pos {d : Nat} (h : 0 < d) : bitLen (d : Nat) = d.log2 + 1 := by
  unfold bitLen; rw [if_neg (by lia), Int.natAbs_natCast]
theorem va_rep {B : Nat} : ∀ k, va B (List.replicate k 0) = 0
  | 0 => rfl
  | k + 1 => by simp [List.replicate_succ, va, va_rep k]

theorem divrem_school_ok {n w x y : Nat} {H : AH} {p q : Nat} {a b : List Nat} (hH : frozen ≤ H.length) (hw1 : 1 ≤ w) (hw : w ≤ 8) (hp : DL H p a) (hq : DL H q b) (ha : Num (2 ^ w) a x) (hb : Num (2 ^ w) b y) (hla : a.length ≤ 40000) (hlb : b.length ≤ 40000) (hy : 0 < y) :
    C (callF defs (n + 4)) 30 [.ptr p, .ptr q, .int (w : Nat)] H (QR (2 ^ w) H x y) := by
  have hB2 := two_le hw1
  have hB : 0 < 2 ^ w := by lia
  have hB8 : 2 ^ w ≤ 256 := Nat.pow_le_pow_right (n := 2) (by decide) hw
  have hca : a.length ≤ cap := by rw [cap_eq]; lia
  have hcb : b.length ≤ cap := by rw [cap_eq]; lia
  have hbne : b ≠ [] := fun h => by have := (hb.nil_iff hB).mp h; lia
  have hbl0 : 0 < b.length := List.length_pos_iff.mpr hbne
  refine Cgen fun Qz hQz => ?_
  refine C_def (D := ⟨3, 7, bDivremSchool⟩) rfl rfl ?_
  show X _ bDivremSchool [.ptr p, .ptr q, .int (w : Nat), .unb, .unb, .unb, .unb] H _ _
  unfold bDivremSchool
  refine ⟨_, dl_len hq hcb, ?_⟩
  (with_reducible conv => whnf)
  refine ifn (by lia) ?_
  refine (compare_ok (n := n + 2) hB2 hp hq ha hb hca hcb).mono ?_
  rintro v H' ⟨rfl, rfl⟩
  rcases Nat.lt_or_ge x y with hxy | hxy
  · (with_reducible conv => whnf)
    refine ifp (by unfold sgn3; rw [if_pos hxy]; decide) ?_
    have E1 := (Ext.refl H').push (.list (nums []))
    rw [show ([] : List AV) = nums [] from rfl]
    refine ⟨_, _, cut_eq (E1.dl hp) (by rw [nums_len]; exact hca) rfl (rfl : part _ .none = some _), ?_⟩
    rw [List.drop_zero, List.take_length]
    refine hQz _ _ ⟨(E1.push _).push _, _, _, _, [], a, rfl, tup_push, Nat.le_refl _, E1.len, ((Ext.refl _).push _).dl (((Ext.refl _).push _).dl (dl_push (ds := []))), ((Ext.refl _).push _).dl dl_push, ?_, ?_⟩
    · rw [Nat.div_eq_of_lt hxy]; exact ⟨fun d hd => by simp at hd, by simp, rfl⟩
    · rw [Nat.mod_eq_of_lt hxy]; exact ha
  (with_reducible conv => whnf)
  refine ifn (by unfold sgn3; rw [if_neg (by lia)]; split <;> lia) ?_
  refine ⟨_, dl_len hq hcb, ?_⟩
  (with_reducible conv => whnf)
  refine ifs (fun _ => ?_) (fun _ => ?_)
  · rename_i h1
    obtain ⟨l, rfl⟩ : ∃ l, b = [l] := by
      match b, h1 with
      | [l], _ => exact ⟨l, rfl⟩
      | [], h => simp at h
      | _ :: _ :: _, h => simp at h; lia
    have hyl : l = y := by have := hb.val; simpa [va] using this
    subst hyl
    exact (divrem_small_ok (n := n) hH hw1 hw hp hq ha (by lia) hy (hb.small _ (.head _))).mono hQz
  rename_i h1
  have hb2 : 2 ≤ b.length := by lia
  obtain ⟨b0, d, hbd⟩ := last_snoc hbne
  have hbl : b.length = b0.length + 1 := by rw [hbd]; simp
  have hd0 : 0 < d := by
    have := hb.top
    rw [hbd] at this
    simp at this; lia
  have hdB : d < 2 ^ w := hb.small d (by rw [hbd]; simp)
  have hdat : b[b0.length]? = some d := by rw [hbd]; simp
  have hlog1 := Nat.log2_self_le (n := d) (by lia)
  have hlog2 := Nat.lt_log2_self (n := d)
  have hlw : d.log2 < w := by
    have : 2 ^ d.log2 < 2 ^ w := Nat.lt_of_le_of_lt hlog1 hdB
    exact (Nat.pow_lt_pow_iff_right (by decide)).mp this
  obtain ⟨s, hs⟩ : ∃ s, s = w - (d.log2 + 1) := ⟨_, rfl⟩
  have hsw : s < w := by lia
  have hS : 0 < 2 ^ s := Nat.pow_pos (by decide)
  have hSw : 2 ^ (d.log2 + 1) * 2 ^ s = 2 ^ w := by rw [← Nat.pow_add]; congr 1; lia
  have hane : a ≠ [] := fun h => by have := (ha.nil_iff hB).mp h; lia
  have hba : b.length ≤ a.length := by
    rcases Nat.lt_or_ge a.length b.length with h | h
    · have := ha.less_len hB2 hb h; lia
    · exact h
  have hy1 := hb.ge hbne
  have hx1 := ha.lt hB
  -- the divisor
  have hylt : y * 2 ^ s < (2 ^ w) ^ b.length := by
    have e1 : y = va (2 ^ w) b0 + (2 ^ w) ^ b0.length * d := by rw [← hb.val, hbd, va_snoc]
    have e2 := va_lt hB (ds := b0) fun x hx => hb.small x (by rw [hbd]; exact List.mem_append_left _ hx)
    have e3 : y < (2 ^ w) ^ b0.length * (d + 1) := by rw [Nat.mul_add, Nat.mul_one]; lia
    have e4 : (2 ^ w) ^ b0.length * (d + 1) ≤ (2 ^ w) ^ b0.length * 2 ^ (d.log2 + 1) := Nat.mul_le_mul_left _ hlog2
    have e5 : y * 2 ^ s < (2 ^ w) ^ b0.length * 2 ^ (d.log2 + 1) * 2 ^ s := Nat.mul_lt_mul_of_pos_right (by lia) hS
    rw [Nat.mul_assoc, hSw, ← Nat.pow_succ, Nat.succ_eq_add_one, ← hbl] at e5
    exact e5
  have hyge : y ≤ y * 2 ^ s := Nat.le_mul_of_pos_right _ hS
  have hxs : x * 2 ^ s < (2 ^ w) ^ (a.length + 1) := by
    rw [Nat.pow_succ]
    have : 2 ^ s ≤ 2 ^ w := Nat.pow_le_pow_right (by decide) (by lia)
    calc x * 2 ^ s < (2 ^ w) ^ a.length * 2 ^ s := Nat.mul_lt_mul_of_pos_right hx1 hS
      _ ≤ _ := Nat.mul_le_mul_left _ this
  refine ⟨_, item_last hq (k := b0.length) (nums_at hdat) (by rw [nums_len]; exact hbl) (by rw [nums_len]; exact hcb), ?_⟩
  have E1 := (Ext.refl H').push (.list (nums [d]))
  refine (bits_ok (n := n + 2) (d := d) (list_push (xs := nums [d]))).mono ?_
  rintro v K ⟨rfl, rfl⟩
  rw [bitLen_pos hd0]
  refine ⟨_, iSub (b := d.log2 + 1) (by lia), ?_⟩
  rw [← hs]
  have hE1 : frozen ≤ (H' ++ [AO.list [AV.int (d : Nat)]]).length := by have := E1.len; exact Nat.le_trans hH this
  refine (shift_left_ok (n := n + 2) hE1 hw1 hw hsw (E1.dl hq) hb hbne (by lia)).mono ?_
  rintro v K1 ⟨F1, pb, bs, rfl, hpb, hDb, hNb⟩
  have E2 := E1.trans F1
  refine (shift_left_ok (n := n + 2) (Nat.le_trans hE1 F1.len) hw1 hw hsw (E2.dl hp) ha hane (by lia)).mono ?_
  rintro v K2 ⟨F2, pa, as, rfl, hpa, hDa, hNa⟩
  have E3 := E2.trans F2
  have hasl : as.length ≤ a.length + 1 := hNa.len_le hB2 hxs
  have hbsl : bs.length = b.length := by
    refine Nat.le_antisymm (hNb.len_le hB2 hylt) ?_
    rcases Nat.lt_or_ge bs.length b.length with h | h
    · have h2 := hNb.lt hB
      have h3 : (2 ^ w) ^ bs.length ≤ (2 ^ w) ^ (b.length - 1) := Nat.pow_le_pow_right hB (by lia)
      lia
    · exact h
  have E4 := E3.push (.list [.int 0])
  refine ⟨_, dl_len (E4.dl hp) hca, _, rfl, ?_⟩
  have F4 := (Ext.refl K2).push (.list [.int 0])
  refine ⟨_, dl_len (F4.dl hDa) (by rw [cap_eq]; lia), _, iSub (a := a.length + 1) (by lia), ?_⟩
  have hH2 : frozen ≤ K2.length := Nat.le_trans hH E3.len
  have F5 := F4.push (.list (nums (List.replicate (a.length + 1 - as.length) 0)))
  refine ⟨_, _, rep_eq (x := .int 0) (n := a.length + 1 - as.length) list_push hH2 (by rw [cap_eq]; lia), ?_⟩
  rw [rep_nums]
  refine ⟨_, _, cat_eq (F5.dl hDa) list_push (by rw [nums_len, nums_len, cap_eq, List.length_replicate]; lia), ?_⟩
  rw [← nums_app]
  obtain ⟨rs, hrs⟩ : ∃ rs, rs = as ++ List.replicate (a.length + 1 - as.length) 0 := ⟨_, rfl⟩
  rw [← hrs]
  have hrsv : va (2 ^ w) rs = x * 2 ^ s := by rw [hrs, va_append, va_rep, Nat.mul_zero, Nat.add_zero, hNa.val]
  have hrsl : rs.length = a.length + 1 := by rw [hrs]; simp; lia
  have hrsd : ∀ z ∈ rs, z < 2 ^ w := fun z hz => by
    rw [hrs] at hz
    rcases List.mem_append.mp hz with hz | hz
    · exact hNa.small z hz
    · rw [(List.mem_replicate.mp hz).2]; exact hB
  have F6 := F5.push (.list (nums rs))
  generalize hK3 : K2 ++ [AO.list [.int 0]] ++ [AO.list (nums (List.replicate (a.length + 1 - as.length) 0))] = K3 at F5 F6 ⊢
  have E6 := E3.trans F6
  have hpbK := dl_lt hDb
  have hK3l : K2.length ≤ K3.length := F5.len
  have hXD : va (2 ^ w) rs < y * 2 ^ s * (2 ^ w) ^ (a.length + 1 - b.length) := by
    rw [hrsv, Nat.mul_right_comm]
    refine Nat.mul_lt_mul_of_pos_right (Nat.lt_of_lt_of_le hx1 ?_) hS
    calc (2 ^ w) ^ a.length = (2 ^ w) ^ (b.length - 1) * (2 ^ w) ^ (a.length + 1 - b.length) := by rw [← Nat.pow_add]; congr 1; lia
      _ ≤ y * (2 ^ w) ^ (a.length + 1 - b.length) := Nat.mul_le_mul_right _ hy1
  have hlen0 : H'.length ≤ (H' ++ [AO.list [AV.int (d : Nat)]]).length := E1.len
  have hlenF1 := F1.len
  have hlenF2 := F2.len
  refine (divide_rows_ok (n := n + 1) (m := a.length + 1 - b.length) (D := y * 2 ^ s) (rs := rs) (bs := bs) (by have := E6.len; lia) hw1 hw (by lia) (by lia) (by lia) dl_push (F6.dl (F2.dl hDb)) hrsd hNb.small hNb.val (by lia) (by lia) (by lia) hNb.top hXD).mono ?_
  rintro v K4 ⟨pq, qs, es, rfl, hpq, hEB, hDq, hDe, hql, hqd, hel, hed, hv, hlt⟩
  have hH' : H'.length ≤ K3.length := by lia
  have E7 := E6.but hH' hEB
  rw [hrsv] at hv
  have hD0 : 0 < y * 2 ^ s := Nat.mul_pos hy hS
  have eq1 : va (2 ^ w) qs = x / y := by
    have : x * 2 ^ s / (y * 2 ^ s) = va (2 ^ w) qs := by rw [hv, Nat.mul_add_div hD0, Nat.div_eq_of_lt hlt, Nat.add_zero]
    rw [← this, Nat.mul_div_mul_right _ _ hS]
  have eq2 : va (2 ^ w) es = x % y * 2 ^ s := by
    have : x * 2 ^ s % (y * 2 ^ s) = va (2 ^ w) es := by rw [hv, Nat.mul_add_mod]; exact Nat.mod_eq_of_lt hlt
    rw [← this, Nat.mul_mod_mul_right]
  refine (normal_ok (n := n + 2) hDq (by rw [cap_eq]; lia) hqd).mono ?_
  rintro v K5 ⟨qs', rfl, rfl, hN1, hl1⟩
  rw [eq1] at hN1
  have F7 := (Ext.refl K4).push (.list (nums qs'))
  refine (normal_ok (n := n + 2) (F7.dl hDe) (by rw [cap_eq]; lia) hed).mono ?_
  rintro v K6 ⟨es', rfl, rfl, hN2, hl2⟩
  rw [eq2] at hN2
  have F8 := F7.push (.list (nums es'))
  have E8 := (E7.trans F8)
  refine (shift_right_ok (n := n + 1) (Nat.le_trans hH E8.len) hw1 hw hsw dl_push hN2 (by lia)).mono ?_
  rintro v K7 ⟨F9, pz, zs, rfl, hpz, hDz, hNz⟩
  rw [Nat.mul_div_cancel _ hS] at hNz
  have hq5 : DL K7 K4.length qs' := F9.dl (((Ext.refl _).push _).dl dl_push)
  refine hQz _ _ ⟨(E8.trans F9).push _, _, _, _, qs', zs, rfl, tup_push, E7.len, ?_, ((Ext.refl _).push _).dl hq5, ((Ext.refl _).push _).dl hDz, hN1, hNz⟩
  have := E8.len; lia
end Mine
end

section
namespace Mine
inductive SN (A : Nat → Prop) (B : Nat) (H : AH) (t : Nat) (z : Int) : Prop
  | mk (h0 : A t) (l : Nat) (ds : List Nat) (h1 : A l) (h2 : tupAt H t = some [.bool (decide (z < 0)), .ptr l]) (h3 : DL H l ds) (h4 : Num B ds z.natAbs) : SN A B H t z
theorem SN.weak {A A' : Nat → Prop} {B : Nat} {H : AH} {t : Nat} {z : Int} (h : SN A B H t z) (k : ∀ i, A i → A' i) : SN A' B H t z :=
  let ⟨a, l, ds, b, c, d, e⟩ := h; ⟨k _ a, l, ds, k _ b, c, d, e⟩
theorem SN.move {A : Nat → Prop} {B : Nat} {H H' : AH} {t : Nat} {z : Int} (h : SN A B H t z) (k : ∀ (i : Nat) (o : AO), A i → H[i]? = some o → H'[i]? = some o) : SN A B H' t z :=
  let ⟨a, l, ds, b, c, d, e⟩ := h; ⟨a, l, ds, b, tupAt_eq.mpr (k _ _ a (tupAt_eq.mp c)), listAt_eq.mpr (k _ _ b (listAt_eq.mp d)), e⟩
theorem SN.ext {A : Nat → Prop} {B : Nat} {H H' : AH} {t : Nat} {z : Int} (h : SN A B H t z) (E : Ext H H') : SN A B H' t z := h.move fun i o _ e => E.at_ i o e
inductive NewS (B : Nat) (H : AH) (z : Int) (v : AV) (H' : AH) : Prop
  | mk (h0 : Ext H H') (t : Nat) (h1 : v = .ptr t) (h2 : SN (H.length ≤ ·) B H' t z) : NewS B H z v H'
theorem pow_mono {w k : Nat} (h : 1 ≤ w) : 2 ^ k ≤ (2 ^ w) ^ k := by rw [← Nat.pow_mul]; exact Nat.pow_le_pow_right (by decide) (Nat.le_mul_of_pos_left k h)
theorem Num.len2 {w k n : Nat} {ds : List Nat} (hw : 1 ≤ w) (h : Num (2 ^ w) ds n) (hn : n < 2 ^ k) : ds.length ≤ k := h.len_le (two_le hw) (Nat.lt_of_lt_of_le hn (pow_mono hw))
theorem Num.len0 {w n : Nat} {ds : List Nat} (hw : 1 ≤ w) (h : Num (2 ^ w) ds n) : 0 < ds.length ↔ 0 < n := by
  have h1 := h.nil_iff (Nat.pow_pos (by decide))
  rcases Nat.eq_zero_or_pos n with q | q
  · rw [h1.mpr q, q]; simp
  · have : ds ≠ [] := fun e => by have := h1.mp e; lia
    have := List.length_pos_iff.mpr this
    lia
theorem getb {H : AH} {t l : Nat} {b : Bool} (h : tupAt H t = some [.bool b, .ptr l]) : item (.ptr t) (.int 0) H = some (.bool b) := item_tup (k := 0) h rfl (by show 2 ≤ cap; rw [cap_eq]; decide)
theorem getl {H : AH} {t l : Nat} {b : Bool} (h : tupAt H t = some [.bool b, .ptr l]) : item (.ptr t) (.int 1) H = some (.ptr l) := item_tup (k := 1) h rfl (by show 2 ≤ cap; rw [cap_eq]; decide)

theorem signed_ok {n : Nat} {H : AH} {l : Nat} {ds : List Nat} {b : Bool} (hD : DL H l ds) (hc : ds.length ≤ cap) :
    C (callF defs (n + 1)) 9 [.bool b, .ptr l] H fun v H' => v = .ptr H.length ∧ H' = H ++ [.tup [.bool (b && decide (0 < ds.length)), .ptr l]] := by
  refine C_def (D := ⟨2, 2, bSigned⟩) rfl rfl ?_
  show X _ bSigned [.bool b, .ptr l] H _ _
  unfold bSigned
  cases b with
  | false =>
    (with_reducible conv => whnf)
    refine ifn (by simp) ?_
    exact ⟨rfl, by simp⟩
  | true =>
    (with_reducible conv => whnf)
    refine ifp rfl ?_
    refine ⟨_, dl_len hD hc, rfl, ?_⟩
    simp [cmpI]

theorem s_of_ok {n w : Nat} {z : Int} {H : AH} (hH : frozen ≤ H.length) (hw1 : 1 ≤ w) (hw : w ≤ 8) (hz : z.natAbs < 2 ^ 1000) :
    C (callF defs (n + 2)) 10 [.int z, .int (w : Nat)] H (NewS (2 ^ w) H z) := by
  refine Cgen fun Qz hQz => ?_
  refine C_def (D := ⟨2, 2, bSOf⟩) rfl rfl ?_
  show X _ bSOf [.int z, .int (w : Nat)] H _ _
  unfold bSOf
  refine (nat_of_ok (n := n) hH hw1 hw hz).mono ?_
  rintro v H' ⟨E, q, ds, rfl, hq, hD, hN⟩
  refine hQz _ _ ⟨E.push _, _, rfl, E.len, q, ds, hq, tup_push, ((Ext.refl _).push _).dl hD, hN⟩

theorem s_neg_ok {n w t : Nat} {z : Int} {A : Nat → Prop} {H : AH} (hw1 : 1 ≤ w) (h : SN A (2 ^ w) H t z) (hz : z.natAbs < 2 ^ 4000) :
    C (callF defs (n + 2)) 11 [.ptr t] H fun v H' => Ext H H' ∧ ∃ t', v = .ptr t' ∧ SN (fun i => A i ∨ H.length ≤ i) (2 ^ w) H' t' (-z) := by
  obtain ⟨hA, l, ds, hl, ht, hD, hN⟩ := h
  refine Cgen fun Qz hQz => ?_
  refine C_def (D := ⟨1, 1, bSNeg⟩) rfl rfl ?_
  show X _ bSNeg [.ptr t] H _ _
  unfold bSNeg
  refine ⟨_, getb ht, ?_⟩
  refine ⟨_, getl ht, ?_⟩
  have hdl := hN.len2 hw1 hz
  refine (signed_ok (n := n) hD (by rw [cap_eq]; lia)).mono ?_
  rintro v H' ⟨rfl, rfl⟩
  refine hQz _ _ ⟨(Ext.refl _).push _, _, rfl, .inr (Nat.le_refl _), l, ds, .inl hl, ?_, ((Ext.refl _).push _).dl hD, by rw [Int.natAbs_neg]; exact hN⟩
  have h0 := hN.len0 hw1
  have e : (!decide (z < 0) && decide (0 < ds.length)) = decide (-z < 0) := by
    rw [Bool.eq_iff_iff]; simp; lia
  rw [e]; exact tup_push

theorem s_sign_ok {n w t : Nat} {z : Int} {A : Nat → Prop} {H : AH} (hw1 : 1 ≤ w) (h : SN A (2 ^ w) H t z) (hz : z.natAbs < 2 ^ 4000) :
    C (callF defs (n + 1)) 12 [.ptr t] H fun v H' => v = .int (if z = 0 then 0 else if z < 0 then -1 else 1) ∧ H' = H := by
  obtain ⟨hA, l, ds, hl, ht, hD, hN⟩ := h
  refine Cgen fun Qz hQz => ?_
  refine C_def (D := ⟨1, 1, bSSign⟩) rfl rfl ?_
  show X _ bSSign [.ptr t] H _ _
  unfold bSSign
  have hdl := hN.len2 hw1 hz
  have h0 := hN.len0 hw1
  refine ⟨_, getl ht, _, dl_len hD (by rw [cap_eq]; lia), ?_⟩
  (with_reducible conv => whnf)
  refine ifs (fun _ => ?_) (fun _ => ?_)
  · exact hQz _ _ ⟨by rw [if_pos (by lia)], rfl⟩
  · refine ⟨_, getb ht, ?_⟩
    (with_reducible conv => whnf)
    refine ifs (fun _ => ?_) (fun _ => ?_)
    · rename_i hz
      exact hQz _ _ ⟨by rw [if_neg (by lia), if_pos (by simpa using hz)], rfl⟩
    · rename_i hz
      exact hQz _ _ ⟨by rw [if_neg (by lia), if_neg (by simpa using hz)], rfl⟩

theorem abs_same {x y : Int} (h : x < 0 ↔ y < 0) : x.natAbs + y.natAbs = (x + y).natAbs := by
  rcases Int.lt_or_le x 0 with q | q
  · exact (Int.natAbs_add_of_nonpos (Int.le_of_lt q) (Int.le_of_lt (h.mp q))).symm
  · exact (Int.natAbs_add_of_nonneg q (Int.not_lt.mp fun r => Int.not_lt.mpr q (h.mpr r))).symm
theorem sg_same {x y : Int} (h : x < 0 ↔ y < 0) : decide (x < 0) = decide (x + y < 0) := by
  rw [decide_eq_decide]
  rcases Int.lt_or_le x 0 with q | q
  · have := h.mp q; lia
  · have := fun r => Int.not_lt.mpr q (h.mpr r); lia
theorem abs_opp {x y : Int} (h : ¬(x < 0 ↔ y < 0)) (l : x.natAbs ≤ y.natAbs) : y.natAbs - x.natAbs = (x + y).natAbs := by
  rcases Int.lt_or_le x 0 with q | q
  · have : ¬ y < 0 := fun r => h ⟨fun _ => r, fun _ => q⟩
    clear h; lia
  · have : y < 0 := Int.not_le.mp fun r => h ⟨fun z => absurd z (Int.not_lt.mpr q), fun z => absurd z (Int.not_lt.mpr r)⟩
    clear h; lia
theorem sg_opp {x y : Int} (h : ¬(x < 0 ↔ y < 0)) (l : 0 < y.natAbs - x.natAbs) : decide (y < 0) = decide (x + y < 0) := by
  rw [decide_eq_decide]
  rcases Int.lt_or_le x 0 with q | q
  · have : ¬ y < 0 := fun r => h ⟨fun _ => r, fun _ => q⟩
    clear h; lia
  · have : y < 0 := Int.not_le.mp fun r => h ⟨fun z => absurd z (Int.not_lt.mpr q), fun z => absurd z (Int.not_lt.mpr r)⟩
    clear h; lia
theorem abs_bd {x y : Int} {k : Nat} (h1 : x.natAbs < 2 ^ k) (h2 : y.natAbs < 2 ^ k) : (x + y).natAbs < 2 ^ (k + 1) := by
  rw [Nat.pow_succ, Nat.mul_two]; exact Nat.lt_of_le_of_lt (Int.natAbs_add_le x y) (Nat.add_lt_add h1 h2)
theorem le_cap {n : Nat} (h : n ≤ 4001) : n ≤ cap := Nat.le_trans h (by rw [cap_eq]; decide)
theorem tup_bit {b c : Bool} {n : Nat} (h : b = c) (hn : 0 < n) : (b && decide (0 < n)) = c := by rw [decide_eq_true hn, Bool.and_true, h]
theorem s_add_ok {n w t u : Nat} {x y : Int} {A A' : Nat → Prop} {H : AH} (hH : frozen ≤ H.length) (hw1 : 1 ≤ w) (hw : w ≤ 8) (hx : SN A (2 ^ w) H t x) (hy : SN A' (2 ^ w) H u y) (hxz : x.natAbs < 2 ^ 4000) (hyz : y.natAbs < 2 ^ 4000) :
    C (callF defs (n + 3)) 13 [.ptr t, .ptr u, .int (w : Nat)] H (NewS (2 ^ w) H (x + y)) := by
  obtain ⟨hA, l, ds, hl, ht, hD, hN⟩ := hx
  obtain ⟨hA', l', ds', hl', ht', hD', hN'⟩ := hy
  have hB2 := two_le hw1
  have hdl := hN.len2 hw1 hxz
  have hdl' := hN'.len2 hw1 hyz
  have h0 := hN.len0 hw1
  have h0' := hN'.len0 hw1
  have hc1 : ds.length ≤ cap := le_cap (Nat.le_succ_of_le hdl)
  have hc2 : ds'.length ≤ cap := le_cap (Nat.le_succ_of_le hdl')
  have fin : ∀ (b : Bool) (m : Nat) (v : AV) (G : AH), New (2 ^ w) H m v G → m = (x + y).natAbs → (0 < m → b = decide (x + y < 0)) → C (callF defs (n + 2)) 9 [.bool b, v] G (NewS (2 ^ w) H (x + y)) := fun b m v G hG hm hb => by
    obtain ⟨E, q, es, rfl, hq, hDe, hNe⟩ := hG
    refine (signed_ok (n := n + 1) hDe (le_cap (hNe.len2 hw1 (hm ▸ abs_bd hxz hyz)))).mono ?_
    rintro v G' ⟨rfl, rfl⟩
    refine ⟨E.push _, _, rfl, E.len, q, es, hq, ?_, ((Ext.refl _).push _).dl hDe, hm ▸ hNe⟩
    have h1 := hNe.len0 hw1
    have e : (b && decide (0 < es.length)) = decide (x + y < 0) := by
      rcases Nat.eq_zero_or_pos m with h | h
      · have h2 : ¬ (0 < es.length) := fun z => absurd (h1.mp z) (h ▸ Nat.lt_irrefl 0)
        have h3 : x + y = 0 := Int.natAbs_eq_zero.mp (hm ▸ h)
        rw [decide_eq_false h2, Bool.and_false, h3]; rfl
      · exact tup_bit (hb h) (h1.mpr h)
    rw [e]; exact tup_push
  refine Cgen fun Qz hQz => ?_
  refine C_def (D := ⟨3, 3, bSAdd⟩) rfl rfl ?_
  show X _ bSAdd [.ptr t, .ptr u, .int (w : Nat)] H _ _
  unfold bSAdd
  refine ⟨_, getb ht, _, getb ht', _, cmp_booleq, ?_⟩
  refine ifs (fun _ => ?_) (fun _ => ?_)
  · rename_i hs
    have hs : (x < 0) ↔ (y < 0) := by simpa using hs
    refine ⟨_, getb ht, ?_⟩
    refine ⟨_, getl ht, _, getl ht', ?_⟩
    refine (add_ok (n := n + 1) hH hw1 hw hD hD' hN hN' (by lia) (by lia)).mono ?_
    intro v G hG
    exact (fin _ _ _ _ hG (abs_same hs) (fun _ => sg_same hs)).mono hQz
  · rename_i hs
    have hs : ¬ ((x < 0) ↔ (y < 0)) := by simpa using hs
    refine ⟨_, getl ht, _, getl ht', ?_⟩
    refine (compare_ok (n := n + 1) hB2 hD hD' hN hN' hc1 hc2).mono ?_
    rintro v G ⟨rfl, rfl⟩
    (with_reducible conv => whnf)
    refine ifs (fun _ => ?_) (fun _ => ?_)
    · rename_i hlt
      have hlt : x.natAbs < y.natAbs := by
        unfold sgn3 at hlt; split at hlt
        · assumption
        · split at hlt <;> lia
      refine ⟨_, getb ht', _, getl ht', _, getl ht, ?_⟩
      refine (sub_ok (n := n) hH hw1 hw hD' hD hN' hN (by lia) (by lia) (by lia)).mono ?_
      intro v G hG
      exact (fin _ _ _ _ hG (abs_opp hs (Nat.le_of_lt hlt)) (fun h => sg_opp hs h)).mono hQz
    · rename_i hlt
      have hlt : y.natAbs ≤ x.natAbs := by
        unfold sgn3 at hlt; split at hlt
        · lia
        · lia
      refine ⟨_, getb ht, _, getl ht, _, getl ht', ?_⟩
      refine (sub_ok (n := n) hH hw1 hw hD hD' hN hN' (by lia) (by lia) (by lia)).mono ?_
      intro v G hG
      have hs' : ¬(y < 0 ↔ x < 0) := fun h => hs h.symm
      exact (fin _ _ _ _ hG ((abs_opp hs' hlt).trans (congrArg Int.natAbs (Int.add_comm y x))) (fun h => (sg_opp hs' h).trans (by rw [Int.add_comm]))).mono hQz
end Mine
end

section
namespace Mine
theorem s_sub_ok {n w t u : Nat} {x y : Int} {A A' : Nat → Prop} {H : AH} (hH : frozen ≤ H.length) (hw1 : 1 ≤ w) (hw : w ≤ 8) (hx : SN A (2 ^ w) H t x) (hy : SN A' (2 ^ w) H u y) (hxz : x.natAbs < 2 ^ 4000) (hyz : y.natAbs < 2 ^ 4000) :
    C (callF defs (n + 4)) 14 [.ptr t, .ptr u, .int (w : Nat)] H (NewS (2 ^ w) H (x - y)) := by
  refine C_def (D := ⟨3, 3, bSSub⟩) rfl rfl ?_
  show X _ bSSub [.ptr t, .ptr u, .int (w : Nat)] H _ _
  unfold bSSub
  refine (s_neg_ok (n := n + 1) hw1 hy hyz).mono ?_
  rintro v G ⟨E, t', rfl, hS⟩
  refine (s_add_ok (n := n) (Nat.le_trans hH E.len) hw1 hw (hx.ext E) hS hxz (by rw [Int.natAbs_neg]; exact hyz)).mono ?_
  rintro v G' ⟨E', t2, rfl, hS2⟩
  exact ⟨E.trans E', t2, rfl, hS2.weak fun i hi => Nat.le_trans E.len hi⟩

theorem sign_mul {x y : Int} (h : 0 < (x * y).natAbs) : ((decide (x < 0) != decide (y < 0)) = decide (x * y < 0)) := by
  have hx : x ≠ 0 := fun q => by subst q; simp at h
  have hy : y ≠ 0 := fun q => by subst q; simp at h
  rcases Int.lt_or_gt_of_ne hx with a | a <;> rcases Int.lt_or_gt_of_ne hy with b | b
  · have := Int.mul_pos_of_neg_of_neg a b
    simp [a, b]; lia
  · have := Int.mul_neg_of_neg_of_pos a b
    have : ¬ y < 0 := by lia
    simp [a, this]; lia
  · have := Int.mul_neg_of_pos_of_neg a b
    have : ¬ x < 0 := by lia
    simp [b, this]; lia
  · have := Int.mul_pos a b
    have h1 : ¬ x < 0 := by lia
    have h2 : ¬ y < 0 := by lia
    simp [h1, h2]; lia

theorem s_mul_ok {n w t u : Nat} {x y : Int} {A A' : Nat → Prop} {H : AH} (hH : frozen ≤ H.length) (hw1 : 1 ≤ w) (hw : w ≤ 8) (hx : SN A (2 ^ w) H t x) (hy : SN A' (2 ^ w) H u y) (hAf : ∀ i, A i → frozen ≤ i) (hAf' : ∀ i, A' i → frozen ≤ i) (hxz : x.natAbs < 2 ^ 1000) (hyz : y.natAbs < 2 ^ 1000) :
    C (callF defs (n + 3)) 15 [.ptr t, .ptr u, .int (w : Nat), .fn 24] H (NewS (2 ^ w) H (x * y)) := by
  obtain ⟨hA, l, ds, hl, ht, hD, hN⟩ := hx
  obtain ⟨hA', l', ds', hl', ht', hD', hN'⟩ := hy
  have hdl := hN.len2 hw1 hxz
  have hdl' := hN'.len2 hw1 hyz
  refine Cgen fun Qz hQz => ?_
  refine C_def (D := ⟨4, 4, bSMul⟩) rfl rfl ?_
  show X _ bSMul [.ptr t, .ptr u, .int (w : Nat), .fn 24] H _ _
  unfold bSMul
  refine ⟨_, getb ht, _, getb ht', _, cmp_bool, ?_⟩
  refine ⟨_, getl ht, _, getl ht', ?_⟩
  refine (mul_school_ok (n := n) hH hw1 hw (hAf _ hl) (hAf' _ hl') hD hD' hN hN' (by lia) (by lia)).mono ?_
  rintro v G ⟨E, q, es, rfl, hq, hDe, hNe⟩
  rw [← Int.natAbs_mul] at hNe
  have hel : es.length ≤ 2000 := hNe.len2 hw1 (by
    have e1 : 2 ^ 2000 = 2 ^ 1000 * 2 ^ 1000 := by rw [← Nat.pow_add]
    rw [e1, Int.natAbs_mul]; exact Nat.mul_lt_mul_of_lt_of_lt hxz hyz)
  refine (signed_ok (n := n + 1) hDe (by rw [cap_eq]; lia)).mono ?_
  rintro v G' ⟨rfl, rfl⟩
  refine hQz _ _ ⟨E.push _, _, rfl, E.len, q, es, hq, ?_, ((Ext.refl _).push _).dl hDe, hNe⟩
  have h1 := hNe.len0 hw1
  have e : ((decide (x < 0) != decide (y < 0)) && decide (0 < es.length)) = decide (x * y < 0) := by
    rcases Nat.eq_zero_or_pos (x * y).natAbs with h | h
    · have h2 : ¬ (0 < es.length) := by lia
      have h3 : ¬ (x * y < 0) := by lia
      simp [h2, h3]
    · have h2 : 0 < es.length := by lia
      rw [sign_mul h]; simp [h2]
  rw [e]; exact tup_push

theorem sign_tdiv {x y : Int} (hy : y ≠ 0) (h : 0 < (x.tdiv y).natAbs) : ((decide (x < 0) != decide (y < 0)) = decide (x.tdiv y < 0)) := by
  have e : ∀ a b : Nat, ((a : Int).tdiv (b : Int)) = ((a / b : Nat) : Int) := fun a b => rfl
  rcases Int.natAbs_eq x with hx | hx <;> rcases Int.natAbs_eq y with hy' | hy' <;> generalize x.natAbs = a at hx <;> generalize y.natAbs = b at hy' <;> subst hx hy'
  · rw [e] at h ⊢
    generalize a / b = k at h ⊢
    rw [decide_eq_false (show ¬ ((a : Int) < 0) by lia), decide_eq_false (show ¬ ((b : Int) < 0) by lia), decide_eq_false (show ¬ ((k : Int) < 0) by lia)]; rfl
  · rw [Int.tdiv_neg, e] at h ⊢
    generalize a / b = k at h ⊢
    rw [decide_eq_false (show ¬ ((a : Int) < 0) by lia), decide_eq_true (show (-(b : Int) < 0) by lia), decide_eq_true (show (-(k : Int) < 0) by lia)]; rfl
  · rw [Int.neg_tdiv, e] at h ⊢
    have h0 : a ≠ 0 := fun q => by subst q; simp at h
    generalize a / b = k at h ⊢
    rw [decide_eq_true (show (-(a : Int) < 0) by lia), decide_eq_false (show ¬ ((b : Int) < 0) by lia), decide_eq_true (show (-(k : Int) < 0) by lia)]; rfl
  · rw [Int.neg_tdiv_neg, e] at h ⊢
    have h0 : a ≠ 0 := fun q => by subst q; simp at h
    generalize a / b = k at h ⊢
    rw [decide_eq_true (show (-(a : Int) < 0) by lia), decide_eq_true (show (-(b : Int) < 0) by lia), decide_eq_false (show ¬ ((k : Int) < 0) by lia)]; rfl

theorem tdiv_ok {n w t u : Nat} {x y : Int} {A A' : Nat → Prop} {H : AH} (hH : frozen ≤ H.length) (hw1 : 1 ≤ w) (hw : w ≤ 8) (hx : SN A (2 ^ w) H t x) (hy : SN A' (2 ^ w) H u y) (hxz : x.natAbs < 2 ^ 4000) (hyz : y.natAbs < 2 ^ 4000) (hy0 : y ≠ 0) :
    C (callF defs (n + 5)) 16 [.ptr t, .ptr u, .int (w : Nat), .fn 30] H fun v H' => Ext H H' ∧ ∃ t' t1 t2, v = .ptr t' ∧ tupAt H' t' = some [.ptr t1, .ptr t2] ∧ SN (H.length ≤ ·) (2 ^ w) H' t1 (x.tdiv y) := by
  obtain ⟨hA, l, ds, hl, ht, hD, hN⟩ := hx
  obtain ⟨hA', l', ds', hl', ht', hD', hN'⟩ := hy
  have hdl := hN.len2 hw1 hxz
  have hdl' := hN'.len2 hw1 hyz
  have h0' := hN'.len0 hw1
  have hc2 : ds'.length ≤ cap := by rw [cap_eq]; lia
  refine Cgen fun Qz hQz => ?_
  refine C_def (D := ⟨4, 6, bTdiv⟩) rfl rfl ?_
  show X _ bTdiv [.ptr t, .ptr u, .int (w : Nat), .fn 30, .unb, .unb] H _ _
  unfold bTdiv
  refine ⟨_, getl ht', _, dl_len hD' hc2, ?_⟩
  (with_reducible conv => whnf)
  refine ifn (by lia) ?_
  refine ⟨_, getl ht, _, getl ht', ?_⟩
  refine (divrem_school_ok (n := n) hH hw1 hw hD hD' hN hN' (by lia) (by lia) (by lia)).mono ?_
  rintro v G ⟨E, tt, q, r, a, b, rfl, htt, hq, hr, hDa, hDb, hNa, hNb⟩
  refine ⟨_, htt, ?_⟩
  refine ⟨_, getb (E.tup ht), _, getb (E.tup ht'), _, cmp_bool, ?_⟩
  have hal : a.length ≤ 4000 := hNa.len2 hw1 (Nat.lt_of_le_of_lt (Nat.div_le_self _ _) hxz)
  have hbl : b.length ≤ 4000 := hNb.len2 hw1 (Nat.lt_of_le_of_lt (Nat.mod_le _ _) hxz)
  refine (signed_ok (n := n + 3) hDa (by rw [cap_eq]; lia)).mono ?_
  rintro v G1 ⟨rfl, rfl⟩
  have F1 := (Ext.refl G).push (.tup [.bool ((decide (x < 0) != decide (y < 0)) && decide (0 < a.length)), .ptr q])
  refine ⟨_, getb (F1.tup (E.tup ht)), ?_⟩
  refine (signed_ok (n := n + 3) (F1.dl hDb) (by rw [cap_eq]; lia)).mono ?_
  rintro v G2 ⟨rfl, rfl⟩
  have F2 := F1.push (.tup [.bool (decide (x < 0) && decide (0 < b.length)), .ptr r])
  refine hQz _ _ ⟨(E.trans F2).push _, _, _, _, rfl, tup_push, E.len, q, a, hq, ?_, (F2.push _).dl hDa, by rw [Int.natAbs_tdiv]; exact hNa⟩
  have e : ((decide (x < 0) != decide (y < 0)) && decide (0 < a.length)) = decide (x.tdiv y < 0) := by
    have h1 := hNa.len0 hw1
    have h4 : (x.tdiv y).natAbs = x.natAbs / y.natAbs := Int.natAbs_tdiv _ _
    rcases Nat.eq_zero_or_pos (x.tdiv y).natAbs with h | h
    · have h2 : ¬ (0 < a.length) := by lia
      have h3 : ¬ (x.tdiv y < 0) := by lia
      simp [h2, h3]
    · have h2 : 0 < a.length := by lia
      rw [sign_tdiv hy0 h]; simp [h2]
  rw [← e]
  exact ((Ext.refl _).push _).tup (((Ext.refl _).push _).tup tup_push)

theorem exact_ok {n w t u : Nat} {x y : Int} {A A' : Nat → Prop} {H : AH} (hH : frozen ≤ H.length) (hw1 : 1 ≤ w) (hw : w ≤ 8) (hx : SN A (2 ^ w) H t x) (hy : SN A' (2 ^ w) H u y) (hxz : x.natAbs < 2 ^ 4000) (hyz : y.natAbs < 2 ^ 4000) (hy0 : y ≠ 0) :
    C (callF defs (n + 6)) 18 [.ptr t, .ptr u, .int (w : Nat), .fn 30] H (NewS (2 ^ w) H (x.tdiv y)) := by
  refine Cgen fun Qz hQz => ?_
  refine C_def (D := ⟨4, 6, bExact⟩) rfl rfl ?_
  show X _ bExact [.ptr t, .ptr u, .int (w : Nat), .fn 30, .unb, .unb] H _ _
  unfold bExact
  refine (tdiv_ok (n := n) hH hw1 hw hx hy hxz hyz hy0).mono ?_
  rintro v G ⟨E, t', t1, t2, rfl, ht, hS⟩
  refine ⟨_, ht, ?_⟩
  exact hQz _ _ ⟨E, t1, rfl, hS⟩
end Mine
end

section
namespace Mine
inductive Z2 {α β : Type} (P : α → β → Prop) : List α → List β → Prop
  | nil : Z2 P [] []
  | cons {a : α} {b : β} {l : List α} {r : List β} : P a b → Z2 P l r → Z2 P (a :: l) (b :: r)
namespace Z2
variable {α β : Type} {P P' : α → β → Prop}
theorem len : ∀ {l : List α} {r : List β}, Z2 P l r → l.length = r.length
  | _, _, .nil => rfl
  | _, _, .cons _ t => by simp [len t]
theorem mono (k : ∀ a b, P a b → P' a b) : ∀ {l : List α} {r : List β}, Z2 P l r → Z2 P' l r
  | _, _, .nil => .nil
  | _, _, .cons h t => .cons (k _ _ h) (mono k t)
theorem snoc {a : α} {b : β} : ∀ {l : List α} {r : List β}, Z2 P l r → P a b → Z2 P (l ++ [a]) (r ++ [b])
  | _, _, .nil, h => .cons h .nil
  | _, _, .cons h t, q => .cons h (snoc t q)
theorem getr : ∀ {l : List α} {r : List β}, Z2 P l r → ∀ {i : Nat} {b : β}, r[i]? = some b → ∃ a, l[i]? = some a ∧ P a b
  | _, _, .nil, i, b, h => by simp at h
  | _, _, .cons h t, 0, b, e => by simp at e; subst e; exact ⟨_, rfl, h⟩
  | _, _, .cons h t, i + 1, b, e => by
    obtain ⟨a, h1, h2⟩ := getr t (show _ by simpa using e); exact ⟨a, by simpa using h1, h2⟩
theorem getl : ∀ {l : List α} {r : List β}, Z2 P l r → ∀ {i : Nat} {a : α}, l[i]? = some a → ∃ b, r[i]? = some b ∧ P a b
  | _, _, .nil, i, b, h => by simp at h
  | _, _, .cons h t, 0, b, e => by simp at e; subst e; exact ⟨_, rfl, h⟩
  | _, _, .cons h t, i + 1, b, e => by
    obtain ⟨a, h1, h2⟩ := getl t (show _ by simpa using e); exact ⟨a, by simpa using h1, h2⟩
theorem set {a : α} {b : β} (q : P a b) : ∀ {l : List α} {r : List β}, Z2 P l r → ∀ i, Z2 P (l.set i a) (r.set i b)
  | _, _, .nil, _ => .nil
  | _, _, .cons h t, 0 => .cons q t
  | _, _, .cons h t, i + 1 => .cons h (set q t i)
end Z2

noncomputable def ptrs (ts : List Nat) : List AV := ts.map .ptr
theorem ptrs_at {ts : List Nat} {i t : Nat} (h : ts[i]? = some t) : (ptrs ts)[i]? = some (.ptr t) := by simp [ptrs, h]
theorem ptrs_len (ts : List Nat) : (ptrs ts).length = ts.length := by simp [ptrs]
theorem ptrs_app {t : Nat} {ts : List Nat} : ptrs ts ++ [.ptr t] = ptrs (ts ++ [t]) := by simp [ptrs]
theorem ptrs_set {t i : Nat} {ts : List Nat} : (ptrs ts).set i (.ptr t) = ptrs (ts.set i t) := by simp [ptrs, List.map_set]
theorem ptrs_inv {ts : List Nat} {j : Nat} {v : AV} (h : (ptrs ts)[j]? = some v) : ∃ t, ts[j]? = some t ∧ v = .ptr t := by
  unfold ptrs at h
  rw [List.getElem?_map] at h
  obtain ⟨d, h1, h2⟩ := Option.map_eq_some_iff.mp h
  exact ⟨d, h1, h2.symm⟩

noncomputable def RW (A : Nat → Prop) (B : Nat) (H : AH) (p : Nat) (zs : List Int) : Prop := A p ∧ ∃ ts, listAt H p = some (ptrs ts) ∧ Z2 (SN A B H) ts zs
noncomputable def MX (A : Nat → Prop) (B : Nat) (H : AH) (p : Nat) (M : List (List Int)) : Prop := ∃ rs, listAt H p = some (ptrs rs) ∧ Z2 (RW A B H) rs M
theorem RW.weak {A A' : Nat → Prop} {B : Nat} {H : AH} {t : Nat} {z : List Int} (h : RW A B H t z) (k : ∀ i, A i → A' i) : RW A' B H t z :=
  let ⟨a, ts, b, c⟩ := h; ⟨k _ a, ts, b, c.mono fun _ _ h => h.weak k⟩
theorem RW.move {A : Nat → Prop} {B : Nat} {H H' : AH} {t : Nat} {z : List Int} (h : RW A B H t z) (k : ∀ (i : Nat) (o : AO), A i → H[i]? = some o → H'[i]? = some o) : RW A B H' t z :=
  let ⟨a, ts, b, c⟩ := h; ⟨a, ts, listAt_eq.mpr (k _ _ a (listAt_eq.mp b)), c.mono fun _ _ h => h.move k⟩
theorem RW.ext {A : Nat → Prop} {B : Nat} {H H' : AH} {t : Nat} {z : List Int} (h : RW A B H t z) (E : Ext H H') : RW A B H' t z := h.move fun i o _ e => E.at_ i o e
theorem MX.ext {A : Nat → Prop} {B : Nat} {H H' : AH} {t : Nat} {z : List (List Int)} (h : MX A B H t z) (E : Ext H H') : MX A B H' t z :=
  let ⟨ts, b, c⟩ := h; ⟨ts, E.list b, c.mono fun _ _ h => h.ext E⟩
theorem RW.get {A : Nat → Prop} {B : Nat} {H : AH} {p i : Nat} {z : Int} {zs : List Int} (h : RW A B H p zs) (hz : zs[i]? = some z) (hc : zs.length ≤ cap) : ∃ t, item (.ptr p) (.int (i : Nat)) H = some (.ptr t) ∧ SN A B H t z := by
  obtain ⟨_, ts, h1, h2⟩ := h
  obtain ⟨t, h3, h4⟩ := h2.getr hz
  exact ⟨t, item_list h1 (ptrs_at h3) (by rw [ptrs_len, h2.len]; exact hc), h4⟩
theorem MX.get {A : Nat → Prop} {B : Nat} {H : AH} {p i : Nat} {z : List Int} {zs : List (List Int)} (h : MX A B H p zs) (hz : zs[i]? = some z) (hc : zs.length ≤ cap) : ∃ t, item (.ptr p) (.int (i : Nat)) H = some (.ptr t) ∧ RW A B H t z := by
  obtain ⟨ts, h1, h2⟩ := h
  obtain ⟨t, h3, h4⟩ := h2.getr hz
  exact ⟨t, item_list h1 (ptrs_at h3) (by rw [ptrs_len, h2.len]; exact hc), h4⟩
theorem MX.len {A : Nat → Prop} {B : Nat} {H : AH} {p : Nat} {zs : List (List Int)} (h : MX A B H p zs) (hc : zs.length ≤ cap) : lenOf (.ptr p) H = some zs.length := by
  obtain ⟨ts, h1, h2⟩ := h
  rw [len_eq h1 (by rw [ptrs_len, h2.len]; exact hc), ptrs_len, h2.len]
theorem RW.rlen {A : Nat → Prop} {B : Nat} {H : AH} {p : Nat} {zs : List Int} (h : RW A B H p zs) (hc : zs.length ≤ cap) : lenOf (.ptr p) H = some zs.length := by
  obtain ⟨_, ts, h1, h2⟩ := h
  rw [len_eq h1 (by rw [ptrs_len, h2.len]; exact hc), ptrs_len, h2.len]

noncomputable def zints (zs : List Int) : List AV := zs.map .int
theorem ints_len (ts : List Int) : (zints ts).length = ts.length := by simp [zints]
theorem ints_inv {ts : List Int} {j : Nat} {v : AV} (h : (zints ts)[j]? = some v) : ∃ t, ts[j]? = some t ∧ v = .int t := by
  unfold zints at h
  rw [List.getElem?_map] at h
  obtain ⟨d, h1, h2⟩ := Option.map_eq_some_iff.mp h
  exact ⟨d, h1, h2.symm⟩
noncomputable def IM (H : AH) (p : Nat) (M : List (List Int)) : Prop := ∃ rs, listAt H p = some (ptrs rs) ∧ Z2 (fun r zs => listAt H r = some (zints zs)) rs M

theorem m_of_ok {n w p : Nat} {M : List (List Int)} {H : AH} (hH : frozen ≤ H.length) (hw1 : 1 ≤ w) (hw : w ≤ 8) (hM : IM H p M) (hl : M.length ≤ 1000) (hb : ∀ r ∈ M, r.length ≤ 1000 ∧ ∀ z ∈ r, z.natAbs < 2 ^ 1000) :
    C (callF defs (n + 3)) 17 [.ptr p, .int (w : Nat)] H fun v H' => Ext H H' ∧ ∃ q, v = .ptr q ∧ H.length ≤ q ∧ MX (H.length ≤ ·) (2 ^ w) H' q M := by
  obtain ⟨rs, hrs, hZ⟩ := hM
  refine C_def (D := ⟨2, 4, bMOf⟩) rfl rfl ?_
  show X _ bMOf [.ptr p, .int (w : Nat), .unb, .unb] H _ _
  unfold bMOf
  refine V_comp (xs := ptrs rs) (fun j acc K => Ext H K ∧ ∃ qs, acc = ptrs qs ∧ Z2 (RW (H.length ≤ ·) (2 ^ w) K) qs (M.take j)) ?_ ?_ ?_
  · skip
    exact ⟨by rw [ptrs_len, hZ.len, cap_eq]; lia, ⟨Ext.refl _, [], rfl, .nil⟩, fun j acc K h => h.1.list hrs⟩
  · rintro j v acc K hv ⟨E, qs, rfl, hq⟩
    obtain ⟨r, hr, rfl⟩ := ptrs_inv hv
    obtain ⟨zs, hzs, hrl⟩ := hZ.getl hr
    obtain ⟨hzl, hzb⟩ := hb zs (mem_at hzs)
    refine V_compq (xs := zints zs) (fun j acc K' => Ext K K' ∧ ∃ ts, acc = ptrs ts ∧ Z2 (SN (H.length ≤ ·) (2 ^ w) K') ts (zs.take j)) ?_ ?_ ?_
    · skip
      exact ⟨by rw [ints_len, cap_eq]; lia, ⟨Ext.refl _, [], rfl, .nil⟩, fun j acc K h => h.1.list (E.list hrl)⟩
    · rintro i v acc K' hv ⟨E', ts, rfl, ht⟩
      intro Nq hNq
      obtain ⟨z, hz, rfl⟩ := ints_inv hv
      refine (s_of_ok (n := n) (Nat.le_trans hH (Nat.le_trans E.len E'.len)) hw1 hw (hzb z (mem_at hz))).mono ?_
      rintro v K2 ⟨E2, t, rfl, hS⟩
      refine hNq _ _ ⟨E'.trans E2, _, ptrs_app, ?_⟩
      rw [take_succ_at hz]
      exact (ht.mono fun _ _ h => h.ext E2).snoc (hS.weak fun i hi => Nat.le_trans (Nat.le_trans E.len E'.len) hi)
    · rintro vs K2 ⟨E2, ts, rfl, ht⟩
      rw [ints_len, List.take_length] at ht
      refine ⟨by rw [ptrs_len, ht.len, cap_eq]; lia, E.trans (E2.push _), _, ptrs_app, ?_⟩
      rw [take_succ_at hzs]
      refine (hq.mono fun _ _ h => h.ext (E2.push _)).snoc ⟨Nat.le_trans E.len E2.len, ts, list_push, ht.mono fun _ _ h => h.ext ((Ext.refl _).push _)⟩
  · rintro vs K ⟨E, qs, rfl, hq⟩
    rw [ptrs_len, hZ.len, List.take_length] at hq
    refine ⟨by rw [ptrs_len, hq.len, cap_eq]; lia, E.push _, _, rfl, E.len, qs, list_push, hq.mono fun _ _ h => h.ext ((Ext.refl _).push _)⟩

noncomputable def entry (M : List (List Int)) (i c : Nat) : Int := ((M.getD i []).getD c 0)
theorem entry_at {M : List (List Int)} {i c : Nat} {r : List Int} {z : Int} (h1 : M[i]? = some r) (h2 : r[c]? = some z) : entry M i c = z := by
  simp [entry, List.getD_eq_getElem?_getD, h1, h2]
noncomputable def pivF (M : List (List Int)) (c : Nat) : Nat → Nat → Option Nat
  | 0, _ => none
  | k + 1, i => if entry M i c = 0 then pivF M c k (i + 1) else some i
noncomputable def pivI (o : Option Nat) : Int := match o with
  | some i => (i : Int)
  | none => -1
noncomputable def okM (L : Nat) (M : List (List Int)) : Bool := M.all fun r => r.length == L && r.all fun z => decide (z.natAbs < 2 ^ 1000)
theorem okM_at {L : Nat} {M : List (List Int)} (h : okM L M = true) {r : List Int} (hr : r ∈ M) : r.length = L ∧ ∀ z ∈ r, z.natAbs < 2 ^ 1000 := by
  have := List.all_eq_true.mp h r hr
  simp only [Bool.and_eq_true, beq_iff_eq, List.all_eq_true, decide_eq_true_eq] at this
  exact this

theorem p4000 {n : Nat} (h : n < 2 ^ 1000) : n < 2 ^ 4000 := Nat.lt_of_lt_of_le h (Nat.pow_le_pow_right (by decide) (by decide))

theorem pivot_ok {n w p top col L : Nat} {A : Nat → Prop} {M : List (List Int)} {H : AH} (hw1 : 1 ≤ w) (hM : MX A (2 ^ w) H p M) (hl : M.length ≤ 1000) (ht : top ≤ M.length) (hL : L ≤ 1000) (hc : col < L) (hok : okM L M = true) :
    C (callF defs (n + 2)) 19 [.ptr p, .int (top : Nat), .int (col : Nat)] H fun v H' => v = .int (pivI (pivF M col (M.length - top) top)) ∧ H' = H := by
  have hcl : M.length ≤ cap := by rw [cap_eq]; lia
  refine C_def (D := ⟨3, 4, bPivotRow⟩) rfl rfl ?_
  show X _ bPivotRow [.ptr p, .int (top : Nat), .int (col : Nat), .unb] H _ _
  unfold bPivotRow
  refine X_forR ?_
  refine ⟨_, hM.len hcl, _, _, _, range_two hcl (by lia), ?_⟩
  refine forN_ruleq (fun j ρ K => ∃ z, A3 (ρ = [.ptr p, .int (top : Nat), .int (col : Nat), z]) (K = H) (pivF M col (M.length - top) top = pivF M col (M.length - top - j) (top + j))) _ 0 _ _ _ ⟨_, rfl, rfl, rfl⟩ ?_ ?_
  · rintro j ρ K _ hj ⟨z, rfl, rfl, hp⟩
    intro Nq hNq
    have hi : ((top : Int) + ((j : Int) - (0 : Nat)) * 1) = ((top + j : Nat) : Int) := by lia
    rw [hi]
    obtain ⟨r, hr⟩ := at_lt (l := M) (i := top + j) (by lia)
    obtain ⟨hrl, hrb⟩ := okM_at hok (mem_at hr)
    obtain ⟨z, hz⟩ := at_lt (l := r) (i := col) (by lia)
    obtain ⟨tr, h1, hR⟩ := hM.get hr hcl
    obtain ⟨t, h2, hS⟩ := hR.get hz (by rw [cap_eq]; lia)
    refine ⟨_, h1, _, h2, ?_⟩
    refine (s_sign_ok (n := n) hw1 hS (p4000 (hrb z (mem_at hz)))).mono ?_
    rintro v K' ⟨rfl, rfl⟩
    obtain ⟨k, hk⟩ : ∃ k, M.length - top - j = k + 1 := ⟨M.length - top - j - 1, by lia⟩
    rw [hk] at hp
    simp only [pivF, entry_at hr hz] at hp
    have hs : ((if z = 0 then (0 : Int) else if z < 0 then -1 else 1) = 0) ↔ z = 0 := by
      split
      · rename_i q; simp [q]
      · rename_i q; split <;> simp [q]
    rcases Decidable.em (z = 0) with hz0 | hz0
    · (with_reducible conv => whnf)
      refine ifn (fun q => q (hs.mpr hz0)) ?_
      rw [if_pos hz0] at hp
      refine hNq _ _ ⟨_, rfl, rfl, ?_⟩
      rw [hp, show M.length - top - (j + 1) = k by lia]; rfl
    · (with_reducible conv => whnf)
      refine ifp (fun q => hz0 (hs.mp q)) ?_
      (with_reducible conv => whnf)
      rw [if_neg hz0] at hp
      rw [hp]
      exact ⟨rfl, rfl⟩
  · rintro ρ K ⟨z, rfl, rfl, hp⟩
    rw [show M.length - top - (0 + (M.length - top)) = 0 by lia] at hp
    (with_reducible conv => whnf)
    rw [hp]
    exact ⟨rfl, rfl⟩
end Mine
end

section
namespace Mine
noncomputable def clr (zs hs : List Int) (piv own b : Int) : List Int := List.zipWith (fun z h => (z * piv - own * h).tdiv b) zs hs
theorem clr_at {zs hs : List Int} {piv own b z h : Int} {j : Nat} (h1 : zs[j]? = some z) (h2 : hs[j]? = some h) : (clr zs hs piv own b)[j]? = some ((z * piv - own * h).tdiv b) := by
  simp [clr, List.getElem?_zipWith, h1, h2]
theorem clr_len {zs hs : List Int} {piv own b : Int} (h : zs.length ≤ hs.length) : (clr zs hs piv own b).length = zs.length := by simp [clr]; lia
theorem mul_bound {x y : Int} {k : Nat} (hx : x.natAbs < 2 ^ k) (hy : y.natAbs < 2 ^ k) : (x * y).natAbs < 2 ^ (k + k) := by
  rw [Int.natAbs_mul, Nat.pow_add]; exact Nat.mul_lt_mul_of_lt_of_lt hx hy
theorem p2000 {n : Nat} (h : n < 2 ^ (1000 + 1000)) : n < 2 ^ 4000 := Nat.lt_of_lt_of_le h (Nat.pow_le_pow_right (by decide) (by decide))
theorem sub_bound {x y : Int} (hx : x.natAbs < 2 ^ (1000 + 1000)) (hy : y.natAbs < 2 ^ (1000 + 1000)) : (x - y).natAbs < 2 ^ 4000 := by
  have e1 : 2 ^ (1000 + 1000 + 1) = 2 ^ (1000 + 1000) + 2 ^ (1000 + 1000) := by rw [Nat.pow_succ]; lia
  have e2 : 2 ^ (1000 + 1000 + 1) ≤ 2 ^ 4000 := Nat.pow_le_pow_right (by decide) (by decide)
  generalize 2 ^ (1000 + 1000) = a at *
  generalize 2 ^ (1000 + 1000 + 1) = b at *
  generalize 2 ^ 4000 = d at *
  lia

theorem cleared_ok {n w pr ph col tb : Nat} {A A' : Nat → Prop} {zs hs : List Int} {piv own b : Int} {H : AH} (hH : frozen ≤ H.length) (hw1 : 1 ≤ w) (hw : w ≤ 8) (hr : RW A (2 ^ w) H pr zs) (hh : RW A (2 ^ w) H ph hs) (hA : ∀ i, A i → frozen ≤ i) (hb : SN A' (2 ^ w) H tb b)
    (hl : zs.length = hs.length) (hl2 : hs.length ≤ 1000) (hpiv : hs[col]? = some piv) (hown : zs[col]? = some own) (hzb : ∀ z ∈ zs, z.natAbs < 2 ^ 1000) (hhb : ∀ z ∈ hs, z.natAbs < 2 ^ 1000) (hb0 : b ≠ 0) (hbb : b.natAbs < 2 ^ 1000) :
    C (callF defs (n + 7)) 20 [.ptr pr, .ptr ph, .int (col : Nat), .ptr tb, .int (w : Nat), .fn 24, .fn 30] H fun v H' => Ext H H' ∧ ∃ q, v = .ptr q ∧ RW (H.length ≤ ·) (2 ^ w) H' q (clr zs hs piv own b) := by
  have hcz : zs.length ≤ cap := by rw [cap_eq]; lia
  have hch : hs.length ≤ cap := by rw [cap_eq]; lia
  refine Cgen fun Qz hQz => ?_
  refine C_def (D := ⟨7, 13, bCleared⟩) rfl rfl ?_
  show X _ bCleared [.ptr pr, .ptr ph, .int (col : Nat), .ptr tb, .int (w : Nat), .fn 24, .fn 30, .unb, .unb, .unb, .unb, .unb, .unb] H _ _
  unfold bCleared
  obtain ⟨tp, h1, hSp⟩ := hh.get hpiv hch
  obtain ⟨to, h2, hSo⟩ := hr.get hown hcz
  refine ⟨_, h1, _, h2, ?_⟩
  have E0 := (Ext.refl H).push (.list (ptrs []))
  obtain ⟨ts0, hts0, hZ0⟩ := hr.2
  refine X_forEq (xs := ptrs ts0) (fun j ρ K => E3 fun z10 z11 z12 => A3 (ρ = [.ptr pr, .ptr ph, .int (col : Nat), .ptr tb, .int (w : Nat), .fn 24, .fn 30, .ptr tp, .ptr to, .ptr H.length, z10, z11, z12]) (Ext H K) (∃ ts, listAt K H.length = some (ptrs ts) ∧ Z2 (SN (H.length < ·) (2 ^ w) K) ts ((clr zs hs piv own b).take j))) ?_ ?_ ?_
  · skip
    refine ⟨hA _ hr.1, by rw [ptrs_len, hZ0.len]; exact hcz, ⟨_, _, _, rfl, E0, [], list_push, .nil⟩, ?_⟩
    rintro j ρ K ⟨_, _, _, rfl, E, _⟩
    exact E.list hts0
  · rintro j v ρ K hv ⟨z10, z11, z12, rfl, E, ts, hf, hZ⟩
    intro Nq hNq
    obtain ⟨t, ht, rfl⟩ := ptrs_inv hv
    obtain ⟨z, hz, hSz⟩ := hZ0.getl ht
    have hj := lt_of_at hz
    obtain ⟨h, hh1⟩ := at_lt (l := hs) (i := j) (by lia)
    obtain ⟨th, h3, hSh⟩ := hh.get hh1 hch
    have bz := hzb z (mem_at hz)
    have bh := hhb h (mem_at hh1)
    have bp := hhb piv (mem_at hpiv)
    have bo := hzb own (mem_at hown)
    have hKl : H.length < K.length := list_lt hf
    have hHK : frozen ≤ K.length := by lia
    refine (s_mul_ok (n := n + 3) hHK hw1 hw (hSz.ext E) (hSp.ext E) hA hA bz bp).mono ?_
    rintro v K1 ⟨E1, t1, rfl, hS1⟩
    obtain ⟨th', h3', hSh'⟩ := (hh.ext (E.trans E1)).get hh1 hch
    have hHK1 : frozen ≤ K1.length := Nat.le_trans hHK E1.len
    refine ⟨_, h3', ?_⟩
    refine (s_mul_ok (n := n + 3) hHK1 hw1 hw (hSo.ext (E.trans E1)) hSh' hA hA bo bh).mono ?_
    rintro v K2 ⟨E2, t2, rfl, hS2⟩
    have hHK2 : frozen ≤ K2.length := Nat.le_trans hHK1 E2.len
    refine (s_sub_ok (n := n + 2) hHK2 hw1 hw (hS1.ext E2) hS2 (p2000 (mul_bound bz bp)) (p2000 (mul_bound bo bh))).mono ?_
    rintro v K3 ⟨E3, t3, rfl, hS3⟩
    have E13 := E1.trans (E2.trans E3)
    refine ⟨⟨_, E13.list hf⟩, ?_⟩
    refine (exact_ok (n := n) (Nat.le_trans hHK2 E3.len) hw1 hw hS3 (hb.ext (E.trans E13)) (sub_bound (mul_bound bz bp) (mul_bound bo bh)) (p4000 hbb) hb0).mono ?_
    rintro v K4 ⟨E4, t4, rfl, hS4⟩
    have E14 := E13.trans E4
    have hf4 := E14.list hf
    have htl : ts.length ≤ j := by rw [hZ.len, List.length_take]; exact Nat.min_le_left _ _
    refine ⟨_, hf4, by lia, by rw [ptrs_len, cap_eq]; lia, ?_⟩
    refine hNq _ _ ⟨_, _, _, rfl, (E.trans E14).set (Nat.le_refl _) _, _, (by rw [list_set hf4, ptrs_app]), ?_⟩
    rw [take_succ_at (clr_at hz hh1)]
    have mv : ∀ (i : Nat) (o : AO), H.length < i → K4[i]? = some o → (K4.set H.length (.list (ptrs ts ++ [.ptr t4])))[i]? = some o := fun i o hi e => by
      rw [List.getElem?_set_ne (by lia)]; exact e
    refine (hZ.mono fun _ _ h => (h.ext E14).move mv).snoc ((hS4.weak fun i hi => ?_).move mv)
    have := E13.len; lia
  · rintro ρ K ⟨z10, z11, z12, rfl, E, ts, hf, hZ⟩
    rw [ptrs_len, hZ0.len, ← clr_len (zs := zs) (hs := hs) (piv := piv) (own := own) (b := b) (by lia), List.take_length] at hZ
    exact hQz _ _ ⟨E, _, rfl, Nat.le_refl _, ts, hf, hZ.mono fun _ _ h => h.weak fun i hi => Nat.le_of_lt hi⟩
end Mine
end

section
namespace Mine
noncomputable def clrAll (hd : List Int) (c : Nat) (b : Int) : Nat → Nat → List (List Int) → List (List Int)
  | 0, _, M => M
  | k + 1, i, M => clrAll hd c b k (i + 1) (M.set i (clr (M.getD i []) hd (hd.getD c 0) ((M.getD i []).getD c 0) b))
noncomputable abbrev Sta := List (List Int) × List Nat × Bool × Int
noncomputable def swapR (M : List (List Int)) (r top : Nat) : List (List Int) := if r = top then M else (M.set top (M.getD r [])).set r (M.getD top [])
noncomputable def colStep (L c : Nat) (s : Sta) : Option Sta := match pivF s.1 c (s.1.length - s.2.1.length) s.2.1.length with
  | none => some s
  | some r =>
    if s.2.2.2 ≠ 0 ∧ okM L (swapR s.1 r s.2.1.length) = true ∧ okM L (clrAll ((swapR s.1 r s.2.1.length).getD s.2.1.length []) c s.2.2.2 (s.1.length - (s.2.1.length + 1)) (s.2.1.length + 1) (swapR s.1 r s.2.1.length)) = true then
      some (clrAll ((swapR s.1 r s.2.1.length).getD s.2.1.length []) c s.2.2.2 (s.1.length - (s.2.1.length + 1)) (s.2.1.length + 1) (swapR s.1 r s.2.1.length), s.2.1 ++ [c], (if r = s.2.1.length then s.2.2.1 else !s.2.2.1), ((swapR s.1 r s.2.1.length).getD s.2.1.length []).getD c 0)
    else none
noncomputable def steps (L : Nat) : Nat → Nat → Sta → Option Sta
  | 0, _, s => some s
  | k + 1, c, s => (colStep L c s).bind (steps L k (c + 1))

theorem pivF_range {M : List (List Int)} {c : Nat} : ∀ {k i r : Nat}, pivF M c k i = some r → i ≤ r ∧ r < i + k
  | 0, _, _, h => by simp [pivF] at h
  | k + 1, i, r, h => by
    simp only [pivF] at h
    split at h
    · have := pivF_range h; lia
    · cases h; lia
theorem swapR_len {M : List (List Int)} {r t : Nat} : (swapR M r t).length = M.length := by unfold swapR; split <;> simp
theorem clrAll_len {hd : List Int} {c : Nat} {b : Int} : ∀ {k i : Nat} {M : List (List Int)}, (clrAll hd c b k i M).length = M.length
  | 0, _, _ => rfl
  | k + 1, i, M => by simp only [clrAll]; rw [clrAll_len]; simp
theorem getD_at {α : Type} {l : List α} {i : Nat} {a d : α} (h : l[i]? = some a) : l.getD i d = a := by simp [List.getD_eq_getElem?_getD, h]

theorem RW.inn {A : Nat → Prop} {B : Nat} {H : AH} {t : Nat} {z : Int} (h : SN A B H t z) : SN (fun i => A i ∧ i < H.length) B H t z :=
  let ⟨a, l, ds, b, c, d, e⟩ := h; ⟨⟨a, tup_lt c⟩, l, ds, ⟨b, dl_lt d⟩, c, d, e⟩
theorem MX.keep {A : Nat → Prop} {B : Nat} {H H' : AH} {p : Nat} {M : List (List Int)} (h : MX A B H p M) (k : ∀ (i : Nat) (o : AO), (A i ∨ i = p) → H[i]? = some o → H'[i]? = some o) : MX A B H' p M :=
  let ⟨ts, b, c⟩ := h; ⟨ts, listAt_eq.mpr (k _ _ (.inr rfl) (listAt_eq.mp b)), c.mono fun _ _ h => h.move fun i o ha e => k i o (.inl ha) e⟩
theorem MX.put {A : Nat → Prop} {B : Nat} {H : AH} {p i q : Nat} {M : List (List Int)} {zs : List Int} (h : MX A B H p M) (hi : i < M.length) (hq : RW A B H q zs) (hA : ∀ x, A x → x ≠ p) (hp : frozen ≤ p) (hc : M.length ≤ cap) :
    ∃ H', putAt (.ptr p) (.int (i : Nat)) (.ptr q) H = some H' ∧ MX A B H' p (M.set i zs) ∧ H'.length = H.length ∧ ∀ (x : Nat) (o : AO), x ≠ p → H[x]? = some o → H'[x]? = some o := by
  obtain ⟨ts, h1, h2⟩ := h
  have hl : (ptrs ts).length = M.length := by rw [ptrs_len, h2.len]
  have k : ∀ (x : Nat) (o : AO), x ≠ p → H[x]? = some o → (H.set p (.list ((ptrs ts).set i (.ptr q))))[x]? = some o := fun x o hx e => by rw [List.getElem?_set_ne (Ne.symm hx)]; exact e
  refine ⟨_, put_eq h1 hp (by lia) (by lia), ⟨ts.set i q, by rw [list_set h1, ptrs_set], ?_⟩, by simp, k⟩
  exact Z2.set (hq.move fun x o ha e => k x o (hA x ha) e) (h2.mono fun _ _ h => h.move fun x o ha e => k x o (hA x ha) e) i

theorem steps_ok {n w pa cols L : Nat} {A0 : Nat → Prop} {M0 : List (List Int)} {F : Sta} {H : AH} (hH : frozen ≤ H.length) (hw1 : 1 ≤ w) (hw : w ≤ 8) (hM : MX A0 (2 ^ w) H pa M0) (hA0 : ∀ i, A0 i → frozen ≤ i) (hl : M0.length ≤ 1000) (hL : L ≤ 1000) (hcols : cols ≤ L) (hok : okM L M0 = true)
    (hU : tupAt H 2 = some [.bool false, .ptr 3]) (hU2 : DL H 3 [1]) (hF : steps L cols 0 (M0, [], false, 1) = some F) :
    C (callF defs (n + 8)) 21 [.ptr pa, .int (cols : Nat), .int (w : Nat), .fn 24, .fn 30] H fun v H' => Ext H H' ∧ ∃ t pr pp, v = .ptr t ∧ tupAt H' t = some [.ptr pr, .ptr pp, .bool F.2.2.1] ∧ MX (frozen ≤ ·) (2 ^ w) H' pr F.1 ∧ DL H' pp F.2.1 ∧ okM L F.1 = true ∧ F.1.length = M0.length ∧ F.2.1.length ≤ F.1.length := by
  have hB2 := two_le hw1
  have hcm : M0.length ≤ cap := by rw [cap_eq]; lia
  refine Cgen fun Qz hQz => ?_
  refine C_def (D := ⟨5, 14, bStepsDown⟩) rfl rfl ?_
  show X _ bStepsDown [.ptr pa, .int (cols : Nat), .int (w : Nat), .fn 24, .fn 30, .unb, .unb, .unb, .unb, .unb, .unb, .unb, .unb, .unb] H _ _
  unfold bStepsDown
  obtain ⟨rs0, hrs0, hZ0⟩ := hM
  refine X_cutq (M := fun ρ K => ∃ pr, A6 (ρ = [.ptr pa, .int (cols : Nat), .int (w : Nat), .fn 24, .fn 30, .ptr pr, .ptr (pr + 1), .bool false, .ptr 2, .unb, .unb, .unb, .unb, .unb]) (frozen ≤ pr) (H.length ≤ pr) (Ext H K) (MX (fun i => frozen ≤ i ∧ i ≠ pr ∧ i ≠ pr + 1) (2 ^ w) K pr M0) (DL K (pr + 1) [])) ?_ ?_
  · intro Nq hNq
    skip
    refine V_compq (xs := ptrs rs0) (fun j acc K => Ext H K ∧ ∃ qs, acc = ptrs qs ∧ Z2 (fun q zs => (H.length ≤ q ∧ q < K.length) ∧ ∃ ts, listAt K q = some (ptrs ts) ∧ Z2 (SN A0 (2 ^ w) H) ts zs) qs (M0.take j)) ?_ ?_ ?_
    · skip
      exact ⟨by rw [ptrs_len, hZ0.len]; exact hcm, ⟨Ext.refl _, [], rfl, .nil⟩, fun j acc K h => h.1.list hrs0⟩
    · rintro j v acc K hv ⟨E, qs, rfl, hq⟩
      intro Nq hNq
      obtain ⟨r, hr, rfl⟩ := ptrs_inv hv
      obtain ⟨zs, hzs, hR⟩ := hZ0.getl hr
      obtain ⟨ts, hts, hZ⟩ := hR.2
      obtain ⟨hzl, hzb⟩ := okM_at hok (mem_at hzs)
      refine ⟨_, _, cut_eq (E.list hts) (by rw [ptrs_len, hZ.len, cap_eq]; lia) rfl (rfl : part _ .none = some _), ?_⟩
      rw [List.drop_zero, List.take_length]
      refine hNq _ _ ⟨E.push _, _, ptrs_app, ?_⟩
      rw [take_succ_at hzs]
      refine (hq.mono fun a b h => ⟨⟨h.1.1, by have := h.1.2; rw [List.length_append]; lia⟩, ?_⟩).snoc ⟨⟨E.len, by simp⟩, ts, list_push, hZ⟩
      obtain ⟨ts, h1, h2⟩ := h.2
      exact ⟨ts, ((Ext.refl _).push _).list h1, h2⟩
    · rintro vs K ⟨E, qs, rfl, hq⟩
      rw [ptrs_len, hZ0.len, List.take_length] at hq
      refine ⟨by rw [ptrs_len, hq.len]; exact hcm, ?_⟩
      have E1 := E.push (.list (ptrs qs))
      have F1 := (Ext.refl K).push (.list (ptrs qs))
      have F2 := F1.push (.list (nums []))
      have hlen : (K ++ [AO.list (ptrs qs)]).length = K.length + 1 := by simp
      refine hNq _ _ ⟨K.length, by rw [hlen], Nat.le_trans hH E.len, E.len, E1.push _, ⟨qs, ((Ext.refl _).push _).list list_push, ?_⟩, by rw [← hlen]; exact dl_push (ds := [])⟩
      refine hq.mono fun q zs h => ⟨⟨by lia, by lia, by lia⟩, ?_⟩
      obtain ⟨ts, h1, h2⟩ := h.2
      refine ⟨ts, F2.list h1, h2.mono fun t z hs => ?_⟩
      have hEl := E.len
      exact ((RW.inn hs).weak fun i hi => ⟨hA0 i hi.1, by lia, by lia⟩).ext (E1.push _)
  rintro ρ K ⟨pr, rfl, hpf, hpH, hE0, hMX0, hpl0⟩
  refine X_forR ?_
  refine ⟨_, _, _, range_up (by rw [cap_eq]; lia), ?_⟩
  obtain ⟨A, hA⟩ : ∃ A : Nat → Prop, A = fun i => frozen ≤ i ∧ i ≠ pr ∧ i ≠ pr + 1 := ⟨_, rfl⟩
  rw [← hA] at hMX0
  have hA1 : ∀ x, A x → x ≠ pr := fun x h => by rw [hA] at h; exact h.2.1
  have hA2 : ∀ x, A x → x ≠ pr + 1 := fun x h => by rw [hA] at h; exact h.2.2
  have hA3 : ∀ x, A x → frozen ≤ x := fun x h => by rw [hA] at h; exact h.1
  have hA4 : ∀ {K : AH}, pr + 1 < K.length → ∀ x, K.length ≤ x → A x := fun h x hx => by rw [hA]; exact ⟨by lia, by lia, by lia⟩
  refine forN_ruleq (fun j ρ K => E9 fun z9 z10 z11 z12 M pl odd bf tb => A10 (ρ = [.ptr pa, .int (cols : Nat), .int (w : Nat), .fn 24, .fn 30, .ptr pr, .ptr (pr + 1), .bool odd, .ptr tb, z9, z10, z11, z12, .unb]) (Ext H K) (MX A (2 ^ w) K pr M) (DL K (pr + 1) pl) (SN (fun i => i ≠ pr ∧ i ≠ pr + 1) (2 ^ w) K tb bf) (okM L M = true) (M.length = M0.length) (pl.length ≤ M.length) (bf.natAbs < 2 ^ 1000) (steps L (cols - j) j (M, pl, odd, bf) = some F)) cols 0 _ _ _ ⟨_, _, _, _, M0, [], false, 1, 2, rfl, hE0, hMX0, hpl0, ⟨by unfold frozen at hpf; lia, 3, [1], by unfold frozen at hpf; lia, hE0.tup hU, hE0.dl hU2, ⟨fun d hd => by rw [List.mem_singleton.mp hd]; lia, by simp, by simp [va]⟩⟩, hok, rfl, Nat.zero_le _, Nat.one_lt_two_pow (by decide), hF⟩ ?_ ?_
  · rintro j ρ K _ hj ⟨z9, z10, z11, z12, M, pl, odd, bf, tb, rfl, hE, hMX, hpl, hS, hokM, hMl, hpll, hbf, hst⟩
    intro Nq hNq
    have hi : ((0 : Int) + ((j : Int) - (0 : Nat)) * 1) = ((j : Nat) : Int) := by lia
    rw [hi]
    have hcM : M.length ≤ cap := by lia
    have hcp : pl.length ≤ cap := by lia
    obtain ⟨k, hk⟩ : ∃ k, cols - j = k + 1 := ⟨cols - j - 1, by lia⟩
    rw [hk] at hst
    simp only [steps] at hst
    obtain ⟨s', hs1, hs2⟩ := Option.bind_eq_some_iff.mp hst
    unfold colStep at hs1
    simp only at hs1
    have hpr1 : pr + 1 < K.length := dl_lt hpl
    refine X_cutq (M := fun ρ' G => G = K ∧ ρ' = [.ptr pa, .int (cols : Nat), .int (w : Nat), .fn 24, .fn 30, .ptr pr, .ptr (pr + 1), .bool odd, .ptr tb, .int (j : Nat), .int (pl.length : Nat), z11, z12, .unb]) ?_ ?_
    · intro Nq hNq
      skip
      exact ⟨_, dl_len hpl hcp, hNq _ _ ⟨rfl, rfl⟩⟩
    rintro ρ' G ⟨rfl, rfl⟩
    refine X_cut (M := fun ρ' G' => G' = G ∧ ρ' = [.ptr pa, .int (cols : Nat), .int (w : Nat), .fn 24, .fn 30, .ptr pr, .ptr (pr + 1), .bool odd, .ptr tb, .int (j : Nat), .int (pl.length : Nat), .int (pivI (pivF M j (M.length - pl.length) pl.length)), z12, .unb]) ?_ ?_
    · skip
      refine (pivot_ok (n := n + 5) hw1 hMX (by lia) hpll hL (by lia) hokM).mono ?_
      rintro v K1 ⟨rfl, rfl⟩
      exact ⟨rfl, rfl⟩
    rintro ρ' K ⟨rfl, rfl⟩
    cases hpv : pivF M j (M.length - pl.length) pl.length with
    | none =>
      rw [hpv] at hs1
      cases hs1
      (with_reducible conv => whnf)
      refine ifn (by unfold pivI; decide) ?_
      exact hNq _ _ ⟨_, _, _, _, M, pl, odd, bf, tb, rfl, hE, hMX, hpl, hS, hokM, hMl, hpll, hbf, by rw [show cols - (j + 1) = k by lia]; exact hs2⟩
    | some r =>
      obtain ⟨hr1, hr2⟩ := pivF_range hpv
      rw [show pivI (some r) = ((r : Nat) : Int) from rfl]
      rw [hpv] at hs1
      simp only at hs1
      split at hs1
      · rename_i hg
        cases hs1
        obtain ⟨hbf0, hok1, hok2⟩ := hg
        (with_reducible conv => whnf)
        refine ifp (by lia) ?_
        obtain ⟨M1, hM1⟩ : ∃ M1, M1 = swapR M r pl.length := ⟨_, rfl⟩
        rw [← hM1] at hs2 hok1 hok2
        have hM1l : M1.length = M.length := by rw [hM1]; exact swapR_len
        refine X_cutq (M := fun ρ' G => A5 (ρ' = [.ptr pa, .int (cols : Nat), .int (w : Nat), .fn 24, .fn 30, .ptr pr, .ptr (pr + 1), .bool (if r = pl.length then odd else !odd), .ptr tb, .int (j : Nat), .int (pl.length : Nat), .int (r : Nat), z12, .unb]) (Ext H G) (MX A (2 ^ w) G pr M1) (DL G (pr + 1) pl) (SN (fun i => i ≠ pr ∧ i ≠ pr + 1) (2 ^ w) G tb bf)) ?_ ?_
        · intro Nq hNq
          obtain ⟨x, hx⟩ := at_lt (l := M) (i := r) (by lia)
          obtain ⟨y, hy⟩ := at_lt (l := M) (i := pl.length) (by lia)
          obtain ⟨tx, h1, hRx⟩ := hMX.get hx hcM
          obtain ⟨ty, h2, hRy⟩ := hMX.get hy hcM
          (with_reducible conv => whnf)
          refine ifs (fun _ => ?_) (fun _ => ?_)
          · rename_i hne
            have hne : r ≠ pl.length := by lia
            refine ⟨_, h1, _, h2, ?_⟩
            obtain ⟨K1, e1, m1, l1, k1⟩ := hMX.put (i := pl.length) (by lia) hRx hA1 hpf hcM
            obtain ⟨K2, e2, m2, l2, k2⟩ := m1.put (i := r) (by simp; lia) (hRy.move fun i o ha e => k1 i o (hA1 i ha) e) hA1 hpf (by simp; lia)
            have kk : ∀ (i : Nat) (o : AO), i ≠ pr → K[i]? = some o → K2[i]? = some o := fun i o h e => k2 i o h (k1 i o h e)
            refine ⟨_, e1, _, e2, ?_⟩
            refine hNq _ _ ⟨by rw [if_neg hne], ⟨by have := hE.len; lia, fun i o h => kk i o (by have := lt_of_at h; lia) (hE.at_ i o h)⟩, ?_, ?_, ?_⟩
            · rw [hM1]; unfold swapR; rw [if_neg hne, getD_at hx, getD_at hy]; exact m2
            · exact listAt_eq.mpr (kk _ _ (by lia) (listAt_eq.mp hpl))
            · exact hS.move fun i o h e => kk i o h.1 e
          · rename_i hne
            have hne : r = pl.length := by lia
            refine hNq _ _ ⟨by rw [if_pos hne], hE, ?_, hpl, hS⟩
            rw [hM1]; unfold swapR; rw [if_pos hne]; exact hMX
        rintro ρ' G ⟨rfl, hE1, hMX1, hpl1, hS1⟩
        obtain ⟨hd, hhd⟩ := at_lt (l := M1) (i := pl.length) (by lia)
        rw [getD_at hhd] at hs2 hok2
        obtain ⟨hhl, hhb⟩ := okM_at hok1 (mem_at hhd)
        obtain ⟨pv, hpvv⟩ := at_lt (l := hd) (i := j) (by lia)
        rw [getD_at hpvv] at hs2
        obtain ⟨M2, hM2⟩ : ∃ M2, M2 = clrAll hd j bf (M.length - (pl.length + 1)) (pl.length + 1) M1 := ⟨_, rfl⟩
        rw [← hM2] at hs2 hok2
        refine X_cutq (M := fun ρ' G => ∃ z12, A6 (ρ' = [.ptr pa, .int (cols : Nat), .int (w : Nat), .fn 24, .fn 30, .ptr pr, .ptr (pr + 1), .bool (if r = pl.length then odd else !odd), .ptr tb, .int (j : Nat), .int (pl.length : Nat), .int (r : Nat), z12, .unb]) (Ext H G) (MX A (2 ^ w) G pr M2) (DL G (pr + 1) pl) (M2[pl.length]? = some hd) (M2.length = M.length)) ?_ ?_
        · intro Nq hNq
          refine X_forR ?_
          refine ⟨_, iAdd (b := 1), _, hMX1.len (by lia), _, _, _, range_two (by lia) (by lia), ?_⟩
          rw [hM1l]
          refine forN_ruleq (fun i ρ G => E2 fun z12 Mi => A9 (ρ = [.ptr pa, .int (cols : Nat), .int (w : Nat), .fn 24, .fn 30, .ptr pr, .ptr (pr + 1), .bool (if r = pl.length then odd else !odd), .ptr tb, .int (j : Nat), .int (pl.length : Nat), .int (r : Nat), z12, .unb]) (Ext H G) (MX A (2 ^ w) G pr Mi) (DL G (pr + 1) pl) (SN (fun i => i ≠ pr ∧ i ≠ pr + 1) (2 ^ w) G tb bf) (Mi.length = M.length) (Mi[pl.length]? = some hd) (Mi.drop (pl.length + 1 + i) = M1.drop (pl.length + 1 + i)) (clrAll hd j bf (M.length - (pl.length + 1) - i) (pl.length + 1 + i) Mi = M2)) (M.length - (pl.length + 1)) 0 _ _ _ ⟨_, M1, rfl, hE1, hMX1, hpl1, hS1, hM1l, hhd, rfl, hM2.symm⟩ ?_ ?_
          · rintro i ρ G1 _ hi ⟨z12, Mi, rfl, hE2, hMX2, hpl2, hS2, hMil, hMih, hMid, hcl⟩
            intro Nq hNq
            have hi2 : (((pl.length + 1 : Nat) : Int) + ((i : Int) - (0 : Nat)) * 1) = ((pl.length + 1 + i : Nat) : Int) := by lia
            rw [hi2]
            obtain ⟨zs, hzs1⟩ := at_lt (l := M1) (i := pl.length + 1 + i) (by lia)
            have hzs : Mi[pl.length + 1 + i]? = some zs := by
              have := congrArg (·[0]?) hMid
              simp only [List.getElem?_drop, Nat.add_zero] at this
              rw [this]; exact hzs1
            obtain ⟨hzl, hzb⟩ := okM_at hok1 (mem_at hzs1)
            obtain ⟨ow, how⟩ := at_lt (l := zs) (i := j) (by lia)
            obtain ⟨tz, h1, hRz⟩ := hMX2.get hzs (by lia)
            obtain ⟨th, h2, hRh⟩ := hMX2.get hMih (by lia)
            have hG1 : pr + 1 < G1.length := dl_lt hpl2
            refine ⟨_, h1, _, h2, ?_⟩
            refine (cleared_ok (n := n) (by lia) hw1 hw hRz hRh hA3 hS2 (by lia) (by lia) hpvv how hzb hhb hbf0 hbf).mono ?_
            rintro v G2 ⟨E2, q, rfl, hRq⟩
            obtain ⟨G3, e1, m1, l1, k1⟩ := (hMX2.ext E2).put (i := pl.length + 1 + i) (by lia) (hRq.weak (hA4 hG1)) hA1 hpf (by lia)
            refine ⟨_, e1, ?_⟩
            have hE3 := hE2.trans E2
            refine hNq _ _ ⟨_, _, rfl, ⟨by have := hE3.len; lia, fun i o h => k1 i o (by have := lt_of_at h; lia) (hE3.at_ i o h)⟩, m1, listAt_eq.mpr (k1 _ _ (by lia) (listAt_eq.mp (E2.dl hpl2))), (hS2.ext E2).move (fun i o h e => k1 i o h.1 e), by simp; lia, by rw [List.getElem?_set_ne (by lia)]; exact hMih, ?_, ?_⟩
            · rw [drop_set_lt (by lia)]
              have := congrArg (List.drop 1) hMid
              rw [List.drop_drop, List.drop_drop] at this; exact this
            · obtain ⟨m, hm⟩ : ∃ m, M.length - (pl.length + 1) - i = m + 1 := ⟨M.length - (pl.length + 1) - i - 1, by lia⟩
              rw [hm] at hcl
              simp only [clrAll] at hcl
              rw [getD_at hzs, getD_at hpvv, getD_at how] at hcl
              rw [show M.length - (pl.length + 1) - (i + 1) = m by lia]
              exact hcl
          · rintro ρ G1 ⟨z12, Mi, rfl, hE2, hMX2, hpl2, hS2, hMil, hMih, hMid, hcl⟩
            rw [show M.length - (pl.length + 1) - (0 + (M.length - (pl.length + 1))) = 0 by lia] at hcl
            simp only [clrAll] at hcl
            subst hcl
            exact hNq _ _ ⟨_, rfl, hE2, hMX2, hpl2, hMih, hMil⟩
        rintro ρ' G1 ⟨z12, rfl, hE2, hMX2, hpl2, hhd2, hM2l⟩
        obtain ⟨th, h1, hRh⟩ := hMX2.get hhd2 (by lia)
        obtain ⟨tp, h2, hSp⟩ := hRh.get hpvv (by rw [cap_eq]; lia)
        have hG1 : pr + 1 < G1.length := dl_lt hpl2
        refine ⟨_, h1, _, h2, ⟨_, hpl2⟩, _, hpl2, by lia, by rw [nums_len]; lia, ?_⟩
        rw [dl_app]
        have mv : ∀ (i : Nat) (o : AO), i ≠ pr + 1 → G1[i]? = some o → (G1.set (pr + 1) (.list (nums (pl ++ [j]))))[i]? = some o := fun i o hi e => by
          rw [List.getElem?_set_ne (Ne.symm hi)]; exact e
        refine hNq _ _ ⟨_, _, _, _, M2, pl ++ [j], _, pv, tp, rfl, ⟨by simp; exact hE2.len, fun i o h => mv i o (by have := lt_of_at h; lia) (hE2.at_ i o h)⟩, hMX2.keep (fun i o h e => mv i o ?_ e), dl_set hpl2, (hSp.move fun i o ha e => mv i o (hA2 i ha) e).weak (fun i ha => ⟨hA1 i ha, hA2 i ha⟩), hok2, by lia, by simp; lia, hhb pv (mem_at hpvv), by rw [show cols - (j + 1) = k by lia]; exact hs2⟩
        rcases h with h | h
        · exact hA2 i h
        · lia
      · cases hs1
  · rintro ρ K ⟨z9, z10, z11, z12, M, pl, odd, bf, tb, rfl, hE, hMX, hpl, hS, hokM, hMl, hpll, hbf, hst⟩
    rw [Nat.zero_add, Nat.sub_self] at hst
    cases hst
    refine hQz _ _ ⟨hE.push _, _, _, _, rfl, tup_push, ?_, ((Ext.refl _).push _).dl hpl, hokM, hMl, hpll⟩
    have := hMX.ext ((Ext.refl K).push (.tup [.ptr pr, .ptr (pr + 1), .bool odd]))
    obtain ⟨ts, h1, h2⟩ := this
    exact ⟨ts, h1, h2.mono fun _ _ h => h.weak hA3⟩
end Mine
end

section
namespace Mine
structure UN (H : AH) : Prop where
  a : tupAt H 0 = some [.bool false, .ptr 1]
  b : DL H 1 []
  c : tupAt H 2 = some [.bool false, .ptr 3]
  d : DL H 3 [1]
theorem UN.ext {H H' : AH} (h : UN H) (E : Ext H H') : UN H' := ⟨E.tup h.a, E.dl h.b, E.tup h.c, E.dl h.d⟩
theorem UN.len {H : AH} (h : UN H) : 4 ≤ H.length := dl_lt h.d

theorem rank_ok {n w pa L : Nat} {A0 : Nat → Prop} {M0 : List (List Int)} {F : Sta} {H : AH} (hH : frozen ≤ H.length) (hw1 : 1 ≤ w) (hw : w ≤ 8) (hM : MX A0 (2 ^ w) H pa M0) (hA0 : ∀ i, A0 i → frozen ≤ i) (hl : M0.length ≤ 1000) (hl0 : 0 < M0.length) (hL : L ≤ 1000) (hok : okM L M0 = true)
    (hU : UN H) (hF : steps L L 0 (M0, [], false, 1) = some F) :
    C (callF defs (n + 9)) 22 [.ptr pa, .int (w : Nat), .fn 24, .fn 30] H fun v H' => Ext H H' ∧ v = .int (F.2.1.length : Nat) := by
  have hcm : M0.length ≤ cap := by rw [cap_eq]; lia
  refine Cgen fun Qz hQz => ?_
  refine C_def (D := ⟨4, 4, bRank⟩) rfl rfl ?_
  show X _ bRank [.ptr pa, .int (w : Nat), .fn 24, .fn 30] H _ _
  unfold bRank
  refine ⟨_, hM.len hcm, ?_⟩
  (with_reducible conv => whnf)
  refine ifn (by lia) ?_
  obtain ⟨r, hr⟩ := at_lt (l := M0) (i := 0) hl0
  obtain ⟨hrl, _⟩ := okM_at hok (mem_at hr)
  obtain ⟨tr, h1, hR⟩ := hM.get hr hcm
  refine ⟨_, h1, _, hR.rlen (by rw [cap_eq]; lia), ?_⟩
  rw [hrl]
  refine (steps_ok (n := n) hH hw1 hw hM hA0 hl hL (Nat.le_refl _) hok hU.c hU.d hF).mono ?_
  rintro v G ⟨E, t, pr, pp, rfl, ht, hMX, hpl, hok2, hl2, hl3⟩
  refine ⟨_, item_tup (k := 1) ht rfl (by show 3 ≤ cap; rw [cap_eq]; decide), _, dl_len hpl (by lia), hQz _ _ ⟨E, rfl⟩⟩

noncomputable def detv (F : Sta) (L : Nat) : Int := if F.2.1.length < L then 0 else if F.2.2.1 then -(entry F.1 (L - 1) (L - 1)) else entry F.1 (L - 1) (L - 1)

theorem det_ok {n w pa L : Nat} {A0 : Nat → Prop} {M0 : List (List Int)} {F : Sta} {H : AH} (hH : frozen ≤ H.length) (hw1 : 1 ≤ w) (hw : w ≤ 8) (hM : MX A0 (2 ^ w) H pa M0) (hA0 : ∀ i, A0 i → frozen ≤ i) (hl : M0.length = L) (hl0 : 0 < L) (hL : L ≤ 1000) (hok : okM L M0 = true)
    (hU : UN H) (hF : steps L L 0 (M0, [], false, 1) = some F) :
    C (callF defs (n + 9)) 23 [.ptr pa, .int (w : Nat), .fn 24, .fn 30] H fun v H' => Ext H H' ∧ ∃ t, v = .ptr t ∧ SN (fun _ => True) (2 ^ w) H' t (detv F L) := by
  have hcm : M0.length ≤ cap := by rw [cap_eq]; lia
  refine C_def (D := ⟨4, 8, bDetBareiss⟩) rfl rfl ?_
  show X _ bDetBareiss [.ptr pa, .int (w : Nat), .fn 24, .fn 30, .unb, .unb, .unb, .unb] H _ _
  unfold bDetBareiss
  refine ⟨_, hM.len hcm, ?_⟩
  (with_reducible conv => whnf)
  refine ifn (by lia) ?_
  refine ⟨_, hM.len hcm, ?_⟩
  rw [hl]
  refine (steps_ok (n := n) hH hw1 hw hM hA0 (by lia) hL (Nat.le_refl _) hok hU.c hU.d hF).mono ?_
  rintro v G ⟨E, t, pr, pp, rfl, ht, hMX, hpl, hok2, hl2, hl3⟩
  refine ⟨_, ht, ?_⟩
  refine ⟨_, dl_len hpl (by lia), _, (hM.ext E).len hcm, ?_⟩
  rw [hl]
  (with_reducible conv => whnf)
  refine ifs (fun _ => ?_) (fun _ => ?_)
  · rename_i h
    refine ⟨E, _, rfl, trivial, 1, [], trivial, ?_, E.dl hU.b, ?_⟩
    · have : detv F L = 0 := by unfold detv; rw [if_pos (by lia)]
      rw [this]; exact E.tup hU.a
    have : detv F L = 0 := by unfold detv; rw [if_pos (by lia)]
    rw [this]
    exact ⟨fun d hd => by simp at hd, by simp, rfl⟩
  · rename_i h
    obtain ⟨rw', hrw⟩ := at_lt (l := F.1) (i := L - 1) (by lia)
    obtain ⟨hrl, hrb⟩ := okM_at hok2 (mem_at hrw)
    obtain ⟨z, hz⟩ := at_lt (l := rw') (i := L - 1) (by lia)
    obtain ⟨ts, hts, hZ⟩ := hMX
    obtain ⟨tr, htr, hR⟩ := hZ.getr hrw
    obtain ⟨tz, h2, hS⟩ := hR.get hz (by rw [cap_eq]; lia)
    have hlast : item (.ptr pr) (.int (-1)) G = some (.ptr tr) := item_last hts (ptrs_at htr) (by rw [ptrs_len, hZ.len]; lia) (by rw [ptrs_len, hZ.len, cap_eq]; lia)
    refine ⟨_, hlast, _, (hM.ext E).len hcm, _, iSub1 (by lia), ?_⟩
    rw [hl]
    refine ⟨_, h2, ?_⟩
    have e : entry F.1 (L - 1) (L - 1) = z := entry_at hrw hz
    have hn : ¬ F.2.1.length < L := by lia
    rcases Decidable.em (F.2.2.1 = true) with ho | ho
    · have hdv : detv F L = -z := by unfold detv; rw [if_neg hn, if_pos ho, e]
      (with_reducible conv => whnf)
      rw [if_pos ho, hdv]
      refine (s_neg_ok (n := n + 6) hw1 hS (p4000 (hrb z (mem_at hz)))).mono ?_
      rintro v G' ⟨E', t', rfl, hS'⟩
      exact ⟨E.trans E', t', rfl, hS'.weak fun _ _ => trivial⟩
    · have hdv : detv F L = z := by unfold detv; rw [if_neg hn, if_neg ho, e]
      (with_reducible conv => whnf)
      rw [if_neg ho, hdv]
      exact ⟨E, tz, rfl, hS.weak fun _ _ => trivial⟩

theorem iPow2 {w : Nat} (h : w ≤ 8) : binI .pow 2 (w : Nat) = some ((2 ^ w : Nat) : Int) := by
  simp only [binI, Int.toNat_natCast]; rw [if_pos ⟨by lia, by lia, by decide⟩]; simp

theorem limbs_ok {n w x : Nat} {H : AH} (hH : frozen ≤ H.length) (hw1 : 1 ≤ w) (hw : w ≤ 8) (hx : x < 2 ^ 1000) :
    C (callF defs (n + 1)) 32 [.int (x : Nat), .int (w : Nat)] H (New (2 ^ w) H x) := by
  have hB2 := two_le hw1
  have hB : 0 < 2 ^ w := by lia
  have hB8 : 2 ^ w ≤ 256 := Nat.pow_le_pow_right (n := 2) (by decide) hw
  refine Cgen fun Qz hQz => ?_
  refine C_def (D := ⟨2, 3, bLawLimbs⟩) rfl rfl ?_
  show X _ bLawLimbs [.int (x : Nat), .int (w : Nat), .unb] H _ _
  unfold bLawLimbs
  refine X_whl (fun j ρ G => E2 fun y ds => A8 (ρ = [.int (y : Nat), .int (w : Nat), .ptr H.length]) (Ext H G) (DL G H.length ds) ((∀ d ∈ ds, d < 2 ^ w)) (va (2 ^ w) ds + (2 ^ w) ^ ds.length * y = x) (y < (2 ^ w) ^ j) (ds.length + j ≤ 1000) ((y = 0 → ds.getLast? ≠ some 0))) 1000 (by rw [fuel_eq]; decide)
    ⟨x, [], rfl, (Ext.refl H).push _, dl_push (ds := []), by simp, by simp [va], Nat.lt_of_lt_of_le hx (pow_mono hw1), by simp, by simp⟩ ?_
  rintro j ρ G ⟨y, ds, rfl, hE, hD, hd, hv, hy, hl, ht⟩
  (with_reducible conv => whnf)
  refine ifs (fun _ => ?_) (fun _ => ?_)
  · rename_i hy0
    have hy0 : 0 < y := by lia
    refine ⟨⟨_, hD⟩, _, iPow2 hw, _, iMod hB, _, hD, hH, by rw [nums_len, cap_eq]; lia, _, iPow2 hw, _, iDiv hB (by lia), ?_⟩
    obtain ⟨j, rfl⟩ : ∃ i, j = i + 1 := ⟨j - 1, by
      have : j ≠ 0 := fun q => by subst q; rw [Nat.pow_zero] at hy; lia
      lia⟩
    rw [dl_app]
    refine ⟨j, by lia, _, _, rfl, hE.set (Nat.le_refl _) _, dl_set hD, small_app hd (Nat.mod_lt _ hB), ?_, ?_, ?_, ?_⟩
    · rw [va_snoc, List.length_append, List.length_singleton, Nat.pow_succ, ← hv, Nat.add_assoc, Nat.mul_assoc, ← Nat.mul_add, Nat.mod_add_div]
    · rw [Nat.pow_succ] at hy
      exact Nat.div_lt_of_lt_mul (by rw [Nat.mul_comm]; exact hy)
    · rw [List.length_append, List.length_singleton]; lia
    · intro h0
      have : y < 2 ^ w := (Nat.div_eq_zero_iff_lt hB).mp h0
      simp [Nat.mod_eq_of_lt this]; lia
  · rename_i hy0
    have hy0 : y = 0 := by lia
    subst hy0
    exact hQz _ _ ⟨hE, _, ds, rfl, Nat.le_refl _, hD, hd, ht rfl, by rw [← hv, Nat.mul_zero, Nat.add_zero]⟩

theorem number_ok {n w : Nat} {z : Int} {H : AH} (hH : frozen ≤ H.length) (hw1 : 1 ≤ w) (hw : w ≤ 8) (hz : z.natAbs < 2 ^ 1000) :
    C (callF defs (n + 2)) 35 [.int z, .int (w : Nat)] H (NewS (2 ^ w) H z) := by
  refine C_def (D := ⟨2, 2, bLawNumber⟩) rfl rfl ?_
  show X _ bLawNumber [.int z, .int (w : Nat)] H _ _
  unfold bLawNumber
  refine (limbs_ok (n := n) hH hw1 hw hz).mono ?_
  rintro v H' ⟨E, q, ds, rfl, hq, hD, hN⟩
  refine ⟨E.push _, _, rfl, E.len, q, ds, hq, tup_push, ((Ext.refl _).push _).dl hD, hN⟩

theorem rooted_ok {n k many ps pl : Nat} {ds : List Nat} {H : AH} (hps : frozen ≤ ps) (hs : listAt H ps = some [.int (k : Nat), .ptr pl]) (hd : DL H pl ds) (hl : ds.length ≤ 1000) (hm : 0 < many) :
    C (callF defs (n + 1)) 31 [.ptr ps, .int (many : Nat)] H fun v H' => ∃ r : Nat, r < many ∧ v = .int (r : Nat) ∧ H' = H.set ps (.list [.int ((k + 1 : Nat) : Int), .ptr pl]) := by
  have h2 : ([AV.int (k : Nat), .ptr pl]).length ≤ cap := by show 2 ≤ cap; rw [cap_eq]; decide
  have h2' : ([AV.int ((k + 1 : Nat) : Int), .ptr pl]).length ≤ cap := by show 2 ≤ cap; rw [cap_eq]; decide
  refine C_def (D := ⟨2, 2, bLawRooted⟩) rfl rfl ?_
  show X _ bLawRooted [.ptr ps, .int (many : Nat)] H _ _
  unfold bLawRooted
  refine ⟨_, item_list (k := 0) hs rfl h2, ?_⟩
  refine ⟨_, iAdd (b := 1), _, put_eq (k := 0) hs hps (by simp) h2, ?_⟩
  have hs' : listAt (H.set ps (.list ([AV.int (k : Nat), .ptr pl].set 0 (.int ((k + 1 : Nat) : Int))))) ps = some [.int ((k + 1 : Nat) : Int), .ptr pl] := list_set hs
  have hne : ps ≠ pl := fun q => by
    subst q
    have := hs.symm.trans hd
    simp [nums] at this
    cases ds with
    | nil => simp at this
    | cons a t => cases t with
      | nil => simp at this
      | cons b t => simp at this
  have hd' : DL (H.set ps (.list ([AV.int (k : Nat), .ptr pl].set 0 (.int ((k + 1 : Nat) : Int))))) pl ds := dl_set_ne hne hd
  refine ⟨_, item_list (k := 0) hs' rfl h2', _, item_list (k := 1) hs' rfl h2', _, dl_len hd' (by rw [cap_eq]; lia), ?_⟩
  (with_reducible conv => whnf)
  refine ifs (fun _ => ?_) (fun _ => ?_)
  · rename_i hle
    obtain ⟨d, hdd⟩ := at_lt (l := ds) (i := k) (by lia)
    refine ⟨_, item_list (k := 1) hs' rfl h2', _, item_list (k := 0) hs' rfl h2', ?_⟩
    refine ⟨_, iSub1 (Nat.succ_pos _), _, dl_item hd' hdd (by rw [cap_eq]; lia), ?_⟩
    exact ⟨_, iMod hm, _, Nat.mod_lt _ hm, rfl, rfl⟩
  · refine ⟨_, item_list (k := 0) hs' rfl h2', ?_⟩
    refine ⟨_, iMul (a := 5) (by decide), _, item_list (k := 0) hs' rfl h2', ?_⟩
    exact ⟨_, iDiv (b := 2) (by decide) (by decide), _, iAdd, _, iAdd (b := 9), _, iMod hm, _, Nat.mod_lt _ hm, rfl, rfl⟩
end Mine
end

section
namespace Mine
theorem ints_at {zs : List Int} {i : Nat} {z : Int} (h : zs[i]? = some z) : (zints zs)[i]? = some (.int z) := by simp [zints, h]
theorem ints_app (a b : List Int) : zints (a ++ b) = zints a ++ zints b := by simp [zints]
noncomputable def polyStep (f : List Int) (r : Int) : List Int := List.zipWith (fun a b => a - r * b) (f ++ [0]) (0 :: f)
noncomputable def polyI (rs : List Int) : List Int := rs.foldl polyStep [1]
theorem polyStep_len {f : List Int} {r : Int} : (polyStep f r).length = f.length + 1 := by simp [polyStep]
theorem polyI_take {rs : List Int} {j : Nat} {r : Int} (h : rs[j]? = some r) : polyI (rs.take (j + 1)) = polyStep (polyI (rs.take j)) r := by
  unfold polyI; rw [take_succ_at h, List.foldl_append]; rfl

theorem poly_ok {n p : Nat} {rs : List Int} {H : AH} (hH : frozen ≤ H.length) (hp : listAt H p = some (zints rs)) (hl : rs.length ≤ 100) (hb : ∀ r ∈ rs, r.natAbs < 1000) :
    C (callF defs (n + 1)) 33 [.ptr p] H fun v H' => Ext H H' ∧ ∃ q, v = .ptr q ∧ H.length ≤ q ∧ listAt H' q = some (zints (polyI rs)) := by
  refine Cgen fun Qz hQz => ?_
  refine C_def (D := ⟨1, 6, bLawPolynomial⟩) rfl rfl ?_
  show X _ bLawPolynomial [.ptr p, .unb, .unb, .unb, .unb, .unb] H _ _
  unfold bLawPolynomial

  refine X_forL (xs := zints rs) (fun j ρ K => E4 fun z2 z3 z4 q => A5 (ρ = [.ptr p, .ptr q, z2, z3, z4, .unb]) (Ext H K) (H.length ≤ q) (listAt K q = some (zints (polyI (rs.take j)))) ((polyI (rs.take j)).length = j + 1)) ?_ ?_ ?_
  · skip
    refine ⟨by rw [ints_len, cap_eq]; lia, ⟨_, _, _, _, rfl, (Ext.refl H).push _, Nat.le_refl _, by exact list_push (xs := zints [1]), rfl⟩, ?_⟩
    rintro j ρ K ⟨_, _, _, _, rfl, E, _⟩
    exact E.list hp
  · rintro j v ρ K hv ⟨z2, z3, z4, q, rfl, E, hq, hf, hfl⟩
    obtain ⟨r, hr, rfl⟩ := ints_inv hv
    have hj := lt_of_at hr
    have hrb := hb r (mem_at hr)
    obtain ⟨f, ef⟩ : ∃ f, f = polyI (rs.take j) := ⟨_, rfl⟩
    rw [← ef] at hf hfl
    rw [polyI_take hr, ← ef]
    (with_reducible conv => whnf)
    have F1 := (Ext.refl K).push (.list (zints [0]))

    have i0 : ([AV.int 0] : List AV) = zints [0] := rfl
    simp only [i0]
    refine ⟨_, _, cat_eq (F1.list hf) (list_push (xs := zints [0])) (by rw [ints_len, ints_len, cap_eq]; show f.length + 1 ≤ _; lia), ?_⟩
    rw [← ints_app]
    have F2 := F1.push (.list (zints (f ++ [0])))
    have F3 := F2.push (.list (zints [0]))

    refine ⟨_, _, cat_eq (list_push (xs := zints [0])) (F3.list hf) (by rw [ints_len, ints_len, cap_eq]; show 1 + f.length ≤ _; lia), ?_⟩
    rw [← ints_app]
    have F4 := F3.push (.list (zints ([0] ++ f)))
    obtain ⟨K1, hK1⟩ : ∃ K1, K1 = K ++ [AO.list (zints [0])] := ⟨_, rfl⟩
    obtain ⟨K2, hK2⟩ : ∃ K2, K2 = K1 ++ [AO.list (zints (f ++ [0]))] := ⟨_, rfl⟩
    obtain ⟨K3, hK3⟩ : ∃ K3, K3 = K2 ++ [AO.list (zints [0])] := ⟨_, rfl⟩
    obtain ⟨K4, hK4⟩ : ∃ K4, K4 = K3 ++ [AO.list (zints ([0] ++ f))] := ⟨_, rfl⟩
    have h3 : listAt K4 K1.length = some (zints (f ++ [0])) := by
      rw [hK4, hK3, hK2]; exact (((Ext.refl _).push _).push _).list list_push
    have h4 : listAt K4 K3.length = some (zints ([0] ++ f)) := by rw [hK4]; exact list_push
    have F : Ext K K4 := by rw [hK4, hK3, hK2, hK1]; exact F4
    show V _ _ [AV.ptr p, .ptr q, .int r, .ptr (K ++ [AO.list (zints [0])]).length, .ptr (K ++ [AO.list (zints [0])] ++ [AO.list (zints (f ++ [0]))] ++ [AO.list (zints [0])]).length, .unb] (K ++ [AO.list (zints [0])] ++ [AO.list (zints (f ++ [0]))] ++ [AO.list (zints [0])] ++ [AO.list (zints ([0] ++ f))]) _
    rw [← hK1, ← hK2, ← hK3, ← hK4]
    clear hK1 hK2 hK3 hK4 F1 F2 F3 F4
    have hl1 : (f ++ [0]).length = f.length + 1 := by simp
    have hl2 : ([0] ++ f).length = f.length + 1 := by simp
    refine V_compR (fun i acc G => Ext K4 G ∧ acc = zints ((polyStep f r).take i)) ?_
    refine ⟨_, len_eq h3 (by rw [ints_len, hl1, cap_eq]; lia), _, _, _, range_up (by rw [ints_len, hl1, cap_eq]; lia), ⟨Ext.refl _, rfl⟩, ?_, ?_⟩
    · rintro i acc G hi ⟨E', rfl⟩
      rw [ints_len, hl1] at hi
      obtain ⟨a, ha⟩ := at_lt (l := f ++ [0]) (i := i) (by lia)
      obtain ⟨b, hb2⟩ := at_lt (l := ([0] : List Int) ++ f) (i := i) (by lia)
      rw [show (0 : Int) + (i : Int) * 1 = (i : Nat) by lia]
      refine ⟨_, item_list (E'.list h3) (ints_at ha) (by rw [ints_len, hl1, cap_eq]; lia), _, item_list (E'.list h4) (ints_at hb2) (by rw [ints_len, hl2, cap_eq]; lia), ?_⟩
      refine ⟨r * b, by simp only [binI]; rw [if_pos (by unfold big; lia)], _, rfl, E', ?_⟩
      have : (polyStep f r)[i]? = some (a - r * b) := by
        unfold polyStep
        rw [List.getElem?_zipWith, ha, show (0 :: f)[i]? = some b from hb2]
      rw [take_succ_at this]; simp [zints]
    · rintro vs G ⟨E', rfl⟩
      have e1 : (zints (f ++ [0])).length = (polyStep f r).length := by rw [ints_len, hl1, polyStep_len]
      rw [e1, List.take_length]
      refine ⟨by rw [ints_len, polyStep_len, cap_eq]; lia, ?_⟩
      exact ⟨_, _, _, _, rfl, (E.trans F).trans (E'.push _), by have := (E.trans F).trans E'; exact this.len, list_push, by rw [polyStep_len]; lia⟩
  · rintro ρ K ⟨z2, z3, z4, q, rfl, E, hq, hf, hfl⟩
    rw [ints_len, List.take_length] at hf
    exact hQz _ _ ⟨E, _, rfl, hq, hf⟩

noncomputable def srow (S : Nat) (a : List Int) (i : Nat) : List Int := List.replicate i 0 ++ a ++ List.replicate (S - i - a.length) 0
theorem srow_len {S : Nat} {a : List Int} {i : Nat} (h : i + a.length ≤ S) : (srow S a i).length = S := by simp [srow]; lia
noncomputable def sylv (one other : List Int) : List (List Int) := (List.range (other.length - 1)).map (srow (one.length + other.length - 2) one) ++ (List.range (one.length - 1)).map (srow (one.length + other.length - 2) other)
theorem rep_ints {n : Nat} : List.replicate n (AV.int 0) = zints (List.replicate n 0) := by simp [zints]

theorem row_ok {c : Nat → List AV → AH → Option (AV × AH)} {ρ : List AV} {K : AH} {Q : AV → AH → Prop} {s p i S : Nat} {a : List Int} (hK : frozen ≤ K.length) (h4 : (ρ[4]?).bind okv = some (.int (i : Nat))) (hs : (ρ[s]?).bind okv = some (.ptr p)) (h2 : (ρ[2]?).bind okv = some (.int (S : Nat)))
    (hp : listAt K p = some (zints a)) (hi : i + a.length ≤ S) (hS : S ≤ 1000) (k : ∀ q K', Ext K K' → K.length ≤ q → listAt K' q = some (zints (srow S a i)) → Q (.ptr q) K') :
    V c (.bin .add (.bin .add (.bin .mul (.list (.cons (.int 0) .nil)) (.loc 4)) (.loc s)) (.bin .mul (.list (.cons (.int 0) .nil)) (.bin .sub (.bin .sub (.loc 2) (.loc 4)) (.len (.loc s))))) ρ K Q := by
  have F1 := (Ext.refl K).push (.list [.int 0])
  refine LocV_of h4 ?_
  refine ⟨_, _, rep_eq (x := .int 0) (n := i) list_push hK (by rw [cap_eq]; lia), ?_⟩
  rw [rep_ints]
  have F2 := F1.push (.list (zints (List.replicate i 0)))
  refine LocV_of hs ?_
  refine ⟨_, _, cat_eq list_push (F2.list hp) (by rw [ints_len, ints_len, List.length_replicate, cap_eq]; lia), ?_⟩
  rw [← ints_app]
  have F3 := F2.push (.list (zints (List.replicate i 0 ++ a)))
  have hl3 := F3.len
  refine LocV_of h2 ?_
  refine LocV_of h4 ?_
  have F4 := F3.push (.list [.int 0])
  refine ⟨_, iSub (by lia), ?_⟩
  refine LocV_of hs ?_
  refine ⟨_, len_eq (F4.list hp) (by rw [ints_len, cap_eq]; lia), ?_⟩
  rw [ints_len]
  refine ⟨_, iSub (by lia), ?_⟩
  refine ⟨_, _, rep_eq (x := .int 0) (n := S - i - a.length) list_push (Nat.le_trans hK hl3) (by rw [cap_eq]; lia), ?_⟩
  rw [rep_ints]
  have F5 := F4.push (.list (zints (List.replicate (S - i - a.length) 0)))
  refine ⟨_, _, cat_eq (((Ext.refl _).push _).list (((Ext.refl _).push _).list list_push)) list_push (by rw [ints_len, ints_len, List.length_append, List.length_replicate, List.length_replicate, cap_eq]; lia), ?_⟩
  rw [← ints_app]
  exact k _ _ (F5.push _) F5.len list_push
end Mine
end

section
namespace Mine
theorem rows_ok {n p1 p2 : Nat} {one other : List Int} {H : AH} (hH : frozen ≤ H.length) (h1 : listAt H p1 = some (zints one)) (h2 : listAt H p2 = some (zints other)) (hl1 : 1 ≤ one.length) (hl2 : 1 ≤ other.length) (hm1 : one.length ≤ 100) (hm2 : other.length ≤ 100) :
    C (callF defs (n + 1)) 34 [.ptr p1, .ptr p2] H fun v H' => Ext H H' ∧ ∃ q, v = .ptr q ∧ IM H' q (sylv one other) := by
  refine Cgen fun Qz hQz => ?_
  refine C_def (D := ⟨2, 5, bLawRows⟩) rfl rfl ?_
  show X _ bLawRows [.ptr p1, .ptr p2, .unb, .unb, .unb] H _ _
  unfold bLawRows
  obtain ⟨S, hS⟩ : ∃ S, S = one.length + other.length - 2 := ⟨_, rfl⟩
  have hc1 : (zints one).length ≤ cap := by rw [ints_len, cap_eq]; lia
  have hc2 : (zints other).length ≤ cap := by rw [ints_len, cap_eq]; lia
  refine X_cutq (M := fun ρ K => K = H ++ [.list (ptrs [])] ∧ ρ = [.ptr p1, .ptr p2, .int (S : Nat), .ptr H.length, .unb]) ?_ ?_
  · intro Nq hNq
    skip
    refine ⟨_, len_eq h1 hc1, _, len_eq h2 hc2, _, iAdd, _, iSub (b := 2) (by rw [ints_len, ints_len]; lia), ?_⟩
    rw [ints_len, ints_len, ← hS]
    exact hNq _ _ ⟨rfl, rfl⟩
  rintro ρ K ⟨rfl, rfl⟩
  have E0 := (Ext.refl H).push (.list (ptrs []))
  have mvx : ∀ {K K' : AH} {o : AO} {rs : List Nat} {M : List (List Int)}, Ext K K' → Z2 (fun r zs => H.length < r ∧ listAt K r = some (zints zs)) rs M → Z2 (fun r zs => H.length < r ∧ listAt (K'.set H.length o) r = some (zints zs)) rs M := fun E' h => h.mono fun r zs ⟨a, b⟩ => ⟨a, by rw [list_set_ne (by lia)]; exact E'.list b⟩
  refine X_cutq (M := fun ρ K => ∃ z, A3 (ρ = [.ptr p1, .ptr p2, .int (S : Nat), .ptr H.length, z]) (Ext H K) (∃ rs, listAt K H.length = some (ptrs rs) ∧ Z2 (fun r zs => H.length < r ∧ listAt K r = some (zints zs)) rs ((List.range (other.length - 1)).map (srow S one)))) ?_ ?_
  · intro Nq hNq
    refine X_forR ?_
    refine ⟨_, len_eq (E0.list h2) hc2, _, iSub1 (by rw [ints_len]; lia), ?_⟩
    rw [ints_len]
    refine ⟨_, _, _, range_up (by rw [cap_eq]; lia), ?_⟩
    refine forN_rule (fun j ρ K => ∃ z, A3 (ρ = [.ptr p1, .ptr p2, .int (S : Nat), .ptr H.length, z]) (Ext H K) (∃ rs, listAt K H.length = some (ptrs rs) ∧ Z2 (fun r zs => H.length < r ∧ listAt K r = some (zints zs)) rs ((List.range j).map (srow S one)))) (other.length - 1) 0 _ _ _ ⟨_, rfl, E0, [], list_push, .nil⟩ ?_ ?_
    · rintro j ρ K _ hj ⟨z, rfl, E, rs, hrs, hZ⟩
      have hi : ((0 : Int) + ((j : Int) - (0 : Nat)) * 1) = ((j : Nat) : Int) := by lia
      rw [hi]
      refine ⟨⟨_, hrs⟩, row_ok (Nat.le_trans hH E.len) rfl rfl rfl (E.list h1) (by lia) (by lia) fun q K' E' hq hl => ?_⟩
      have hKl := list_lt hrs
      have hzl := hZ.len
      simp only [List.length_map, List.length_range] at hzl
      refine ⟨_, E'.list hrs, hH, by rw [ptrs_len, hzl, cap_eq]; lia, ?_⟩
      rw [ptrs_app]
      refine ⟨_, rfl, (E.trans E').set (Nat.le_refl _) _, _, list_set (E'.list hrs), ?_⟩
      rw [List.range_succ, List.map_append]
      exact (mvx E' hZ).snoc ⟨by lia, by rw [list_set_ne (by lia)]; exact hl⟩
    · rintro ρ K ⟨z, rfl, E, rs, hrs, hZ⟩
      rw [Nat.zero_add] at hZ
      exact hNq _ _ ⟨_, rfl, E, rs, hrs, hZ⟩
  rintro ρ K ⟨z, rfl, E, rs, hrs, hZ⟩
  refine X_cut (M := fun ρ K => ∃ z, A3 (ρ = [.ptr p1, .ptr p2, .int (S : Nat), .ptr H.length, z]) (Ext H K) (∃ rs, listAt K H.length = some (ptrs rs) ∧ Z2 (fun r zs => H.length < r ∧ listAt K r = some (zints zs)) rs ((List.range (other.length - 1)).map (srow S one) ++ (List.range (one.length - 1)).map (srow S other)))) ?_ ?_
  · refine X_forR ?_
    refine ⟨_, len_eq (E.list h1) hc1, _, iSub1 (by rw [ints_len]; lia), ?_⟩
    rw [ints_len]
    refine ⟨_, _, _, range_up (by rw [cap_eq]; lia), ?_⟩
    refine forN_rule (fun j ρ K => ∃ z, A3 (ρ = [.ptr p1, .ptr p2, .int (S : Nat), .ptr H.length, z]) (Ext H K) (∃ rs, listAt K H.length = some (ptrs rs) ∧ Z2 (fun r zs => H.length < r ∧ listAt K r = some (zints zs)) rs ((List.range (other.length - 1)).map (srow S one) ++ (List.range j).map (srow S other)))) (one.length - 1) 0 _ _ _ ⟨_, rfl, E, rs, hrs, by simpa using hZ⟩ ?_ ?_
    · clear hZ hrs E
      rintro j ρ K _ hj ⟨z, rfl, E, rs, hrs, hZ⟩
      have hi : ((0 : Int) + ((j : Int) - (0 : Nat)) * 1) = ((j : Nat) : Int) := by lia
      rw [hi]
      refine ⟨⟨_, hrs⟩, row_ok (Nat.le_trans hH E.len) rfl rfl rfl (E.list h2) (by lia) (by lia) fun q K' E' hq hl => ?_⟩
      have hKl := list_lt hrs
      have hzl := hZ.len
      simp only [List.length_append, List.length_map, List.length_range] at hzl
      refine ⟨_, E'.list hrs, hH, by rw [ptrs_len, hzl, cap_eq]; lia, ?_⟩
      rw [ptrs_app]
      refine ⟨_, rfl, (E.trans E').set (Nat.le_refl _) _, _, list_set (E'.list hrs), ?_⟩
      rw [List.range_succ, List.map_append, ← List.append_assoc]
      exact (mvx E' hZ).snoc ⟨by lia, by rw [list_set_ne (by lia)]; exact hl⟩
    · rintro ρ K ⟨z, rfl, E, rs, hrs, hZ⟩
      rw [Nat.zero_add] at hZ
      exact ⟨_, rfl, E, rs, hrs, hZ⟩
  clear hZ hrs E
  rintro ρ K ⟨z, rfl, E, rs, hrs, hZ⟩
  refine hQz _ _ ⟨E, _, rfl, rs, hrs, ?_⟩
  unfold sylv
  rw [← hS]
  exact hZ.mono fun _ _ h => h.2

theorem sylv_len {one other : List Int} (hl1 : 1 ≤ one.length) (hl2 : 1 ≤ other.length) : (sylv one other).length = one.length + other.length - 2 := by
  simp [sylv]; lia

theorem law_det_ok {n w p1 p2 S : Nat} {one other : List Int} {F : Sta} {H : AH} (hH : frozen ≤ H.length) (hw1 : 1 ≤ w) (hw : w ≤ 8) (h1 : listAt H p1 = some (zints one)) (h2 : listAt H p2 = some (zints other)) (hl1 : 1 ≤ one.length) (hl2 : 1 ≤ other.length) (hm1 : one.length ≤ 100) (hm2 : other.length ≤ 100)
    (hS : S = one.length + other.length - 2) (hS0 : 0 < S) (hU : UN H) (hok : okM S (sylv one other) = true) (hF : steps S S 0 (sylv one other, [], false, 1) = some F) :
    C (callF defs (n + 10)) 36 [.ptr p1, .ptr p2, .int (w : Nat)] H fun v H' => Ext H H' ∧ ∃ t, v = .ptr t ∧ SN (fun _ => True) (2 ^ w) H' t (detv F S) := by
  refine Cgen fun Qz hQz => ?_
  refine C_def (D := ⟨3, 3, bLawDet⟩) rfl rfl ?_
  show X _ bLawDet [.ptr p1, .ptr p2, .int (w : Nat)] H _ _
  unfold bLawDet
  have hsl := sylv_len hl1 hl2
  refine (rows_ok (n := n + 8) hH h1 h2 hl1 hl2 hm1 hm2).mono ?_
  rintro v K ⟨E, q, rfl, hI⟩
  refine (m_of_ok (n := n + 6) (Nat.le_trans hH E.len) hw1 hw hI (by lia) fun r hr => ?_).mono ?_
  · obtain ⟨a, b⟩ := okM_at hok hr
    exact ⟨by lia, b⟩
  rintro v K1 ⟨E1, q1, rfl, hq1, hMX⟩
  refine (det_ok (n := n) (Nat.le_trans hH (E.trans E1).len) hw1 hw hMX (fun i hi => Nat.le_trans (Nat.le_trans hH E.len) hi) (by lia) hS0 (by lia) hok (hU.ext (E.trans E1)) hF).mono ?_
  rintro v K2 ⟨E2, t, rfl, hS⟩
  exact hQz _ _ ⟨(E.trans E1).trans E2, t, rfl, hS⟩
end Mine
end

section
set_option exponentiation.threshold 5000
namespace Mine
noncomputable def dueF (os : List Int) (r d : Int) : Int := os.foldl (fun d o => d * (r - o)) d
noncomputable def bothF (r : Int) (b : List Int × Nat) : List Int × Nat := if r ∈ b.1 then (b.1.take (b.1.idxOf r) ++ b.1.drop (b.1.idxOf r + 1), b.2 + 1) else b
noncomputable def loop1 (os rs : List Int) : Int × List Int × Nat := rs.foldl (fun s r => (dueF os r s.1, bothF r s.2)) (1, os, 0)
noncomputable def amongF (rs : List Int) (i : Nat) (d : Int) : Int := (List.range rs.length).foldl (fun d j => d * (if i ≠ j then rs.getD i 0 - rs.getD j 0 else 1)) d
noncomputable def loop2 (rs : List Int) : Int := (List.range rs.length).foldl (fun d i => amongF rs i d) 1
noncomputable def slopeI (one : List Int) (n : Nat) : List Int := (List.range n).map fun i => one.getD i 0 * ((n : Int) - i)
noncomputable def runM (a b : List Int) : Option Sta := if okM (a.length + b.length - 2) (sylv a b) = true then steps (a.length + b.length - 2) (a.length + b.length - 2) 0 (sylv a b, [], false, 1) else none
noncomputable def detM (a b : List Int) (z : Int) : Bool := match runM a b with
  | some F => detv F (a.length + b.length - 2) == z && decide (z.natAbs < 2 ^ 1000)
  | none => false
noncomputable def rankM (a b : List Int) (z : Int) : Bool := match runM a b with
  | some F => ((F.2.1.length : Nat) : Int) == z
  | none => false
noncomputable def lawB (rs os : List Int) : Bool :=
  detM (polyI rs) (polyI os) (loop1 os rs).1 && detM (polyI os) (polyI rs) ((loop1 os rs).1 * (1 - 2 * (((rs.length * os.length) % 2 : Nat) : Int))) &&
  rankM (polyI rs) (polyI os) ((rs.length + os.length : Nat) - ((loop1 os rs).2.2 : Nat)) && detM (polyI rs) (slopeI (polyI rs) rs.length) (loop2 rs)
noncomputable def vals : List Int := [-3, -2, -1, 0, 1, 2, 3]
noncomputable def ones : List (List Int) := vals.map fun a => [a]
noncomputable def twos : List (List Int) := vals.flatMap fun a => vals.map fun b => [a, b]
noncomputable def pairB (rs os : List Int) : Bool := match runM (polyI rs) (polyI os) with
  | some F => detv F ((polyI rs).length + (polyI os).length - 2) == (loop1 os rs).1 && decide ((loop1 os rs).1.natAbs < 2 ^ 1000) &&
      ((F.2.1.length : Nat) : Int) == ((rs.length + os.length : Nat) - ((loop1 os rs).2.2 : Nat)) && (loop1 os rs).1 * (1 - 2 * (((rs.length * os.length) % 2 : Nat) : Int)) == (loop1 rs os).1
  | none => false
noncomputable def slopeB (rs : List Int) : Bool := detM (polyI rs) (slopeI (polyI rs) rs.length) (loop2 rs)
theorem pair_some {rs os : List Int} (h : pairB rs os = true) : ∃ F, runM (polyI rs) (polyI os) = some F ∧ detv F ((polyI rs).length + (polyI os).length - 2) = (loop1 os rs).1 ∧ (loop1 os rs).1.natAbs < 2 ^ 1000 ∧
    ((F.2.1.length : Nat) : Int) = ((rs.length + os.length : Nat) - ((loop1 os rs).2.2 : Nat)) ∧ (loop1 os rs).1 * (1 - 2 * (((rs.length * os.length) % 2 : Nat) : Int)) = (loop1 rs os).1 := by
  unfold pairB at h
  cases e : runM (polyI rs) (polyI os) with
  | none => rw [e] at h; cases h
  | some F =>
    rw [e] at h
    obtain ⟨h, h4⟩ := Bool.and_eq_true_iff.mp h
    obtain ⟨h, h3⟩ := Bool.and_eq_true_iff.mp h
    obtain ⟨h1, h2⟩ := Bool.and_eq_true_iff.mp h
    exact ⟨F, rfl, beq_iff_eq.mp h1, of_decide_eq_true h2, beq_iff_eq.mp h3, beq_iff_eq.mp h4⟩
theorem det_is {a b : List Int} {z : Int} {F : Sta} (e : runM a b = some F) (h1 : detv F (a.length + b.length - 2) = z) (h2 : z.natAbs < 2 ^ 1000) : detM a b z = true := by
  unfold detM; rw [e]; exact Bool.and_eq_true_iff.mpr ⟨beq_iff_eq.mpr h1, decide_eq_true h2⟩
theorem rank_is {a b : List Int} {z : Int} {F : Sta} (e : runM a b = some F) (h1 : ((F.2.1.length : Nat) : Int) = z) : rankM a b z = true := by
  unfold rankM; rw [e]; exact beq_iff_eq.mpr h1
theorem law_of {rs os : List Int} (h1 : pairB rs os = true) (h2 : pairB os rs = true) (h3 : slopeB rs = true) : lawB rs os = true := by
  obtain ⟨F, e1, a1, a2, a3, a4⟩ := pair_some h1
  obtain ⟨G, e2, b1, b2, _, _⟩ := pair_some h2
  exact Bool.and_eq_true_iff.mpr ⟨Bool.and_eq_true_iff.mpr ⟨Bool.and_eq_true_iff.mpr ⟨det_is e1 a1 a2, det_is e2 (b1.trans a4.symm) (a4 ▸ b2)⟩, rank_is e1 a3⟩, h3⟩
theorem law11 : (ones.all fun rs => ones.all fun os => pairB rs os) = true := by decide +kernel
theorem law12 : (ones.all fun rs => twos.all fun os => pairB rs os) = true := by decide +kernel
theorem law21 : (twos.all fun rs => ones.all fun os => pairB rs os) = true := by decide +kernel
theorem lawS1 : (ones.all fun rs => slopeB rs) = true := by decide +kernel
theorem lawS2 : (twos.all fun rs => slopeB rs) = true := by decide +kernel
end Mine
end

section
set_option exponentiation.threshold 5000
namespace Mine
theorem law22_0_0 : (twos.all fun os => pairB [-3, -3] os) = true := by decide +kernel
theorem law22_0_1 : (twos.all fun os => pairB [-3, -2] os) = true := by decide +kernel
theorem law22_0_2 : (twos.all fun os => pairB [-3, -1] os) = true := by decide +kernel
theorem law22_0_3 : (twos.all fun os => pairB [-3, 0] os) = true := by decide +kernel
theorem law22_0_4 : (twos.all fun os => pairB [-3, 1] os) = true := by decide +kernel
theorem law22_0_5 : (twos.all fun os => pairB [-3, 2] os) = true := by decide +kernel
theorem law22_0_6 : (twos.all fun os => pairB [-3, 3] os) = true := by decide +kernel
theorem law22_1_0 : (twos.all fun os => pairB [-2, -3] os) = true := by decide +kernel
theorem law22_1_1 : (twos.all fun os => pairB [-2, -2] os) = true := by decide +kernel
theorem law22_1_2 : (twos.all fun os => pairB [-2, -1] os) = true := by decide +kernel
theorem law22_1_3 : (twos.all fun os => pairB [-2, 0] os) = true := by decide +kernel
theorem law22_1_4 : (twos.all fun os => pairB [-2, 1] os) = true := by decide +kernel
theorem law22_1_5 : (twos.all fun os => pairB [-2, 2] os) = true := by decide +kernel
theorem law22_1_6 : (twos.all fun os => pairB [-2, 3] os) = true := by decide +kernel
theorem law22_2_0 : (twos.all fun os => pairB [-1, -3] os) = true := by decide +kernel
theorem law22_2_1 : (twos.all fun os => pairB [-1, -2] os) = true := by decide +kernel
theorem law22_2_2 : (twos.all fun os => pairB [-1, -1] os) = true := by decide +kernel
theorem law22_2_3 : (twos.all fun os => pairB [-1, 0] os) = true := by decide +kernel
theorem law22_2_4 : (twos.all fun os => pairB [-1, 1] os) = true := by decide +kernel
theorem law22_2_5 : (twos.all fun os => pairB [-1, 2] os) = true := by decide +kernel
theorem law22_2_6 : (twos.all fun os => pairB [-1, 3] os) = true := by decide +kernel
theorem law22_3_0 : (twos.all fun os => pairB [0, -3] os) = true := by decide +kernel
theorem law22_3_1 : (twos.all fun os => pairB [0, -2] os) = true := by decide +kernel
theorem law22_3_2 : (twos.all fun os => pairB [0, -1] os) = true := by decide +kernel
theorem law22_3_3 : (twos.all fun os => pairB [0, 0] os) = true := by decide +kernel
theorem law22_3_4 : (twos.all fun os => pairB [0, 1] os) = true := by decide +kernel
theorem law22_3_5 : (twos.all fun os => pairB [0, 2] os) = true := by decide +kernel
theorem law22_3_6 : (twos.all fun os => pairB [0, 3] os) = true := by decide +kernel
theorem law22_4_0 : (twos.all fun os => pairB [1, -3] os) = true := by decide +kernel
theorem law22_4_1 : (twos.all fun os => pairB [1, -2] os) = true := by decide +kernel
theorem law22_4_2 : (twos.all fun os => pairB [1, -1] os) = true := by decide +kernel
theorem law22_4_3 : (twos.all fun os => pairB [1, 0] os) = true := by decide +kernel
theorem law22_4_4 : (twos.all fun os => pairB [1, 1] os) = true := by decide +kernel
theorem law22_4_5 : (twos.all fun os => pairB [1, 2] os) = true := by decide +kernel
theorem law22_4_6 : (twos.all fun os => pairB [1, 3] os) = true := by decide +kernel
theorem law22_5_0 : (twos.all fun os => pairB [2, -3] os) = true := by decide +kernel
theorem law22_5_1 : (twos.all fun os => pairB [2, -2] os) = true := by decide +kernel
theorem law22_5_2 : (twos.all fun os => pairB [2, -1] os) = true := by decide +kernel
theorem law22_5_3 : (twos.all fun os => pairB [2, 0] os) = true := by decide +kernel
theorem law22_5_4 : (twos.all fun os => pairB [2, 1] os) = true := by decide +kernel
theorem law22_5_5 : (twos.all fun os => pairB [2, 2] os) = true := by decide +kernel
theorem law22_5_6 : (twos.all fun os => pairB [2, 3] os) = true := by decide +kernel
theorem law22_6_0 : (twos.all fun os => pairB [3, -3] os) = true := by decide +kernel
theorem law22_6_1 : (twos.all fun os => pairB [3, -2] os) = true := by decide +kernel
theorem law22_6_2 : (twos.all fun os => pairB [3, -1] os) = true := by decide +kernel
theorem law22_6_3 : (twos.all fun os => pairB [3, 0] os) = true := by decide +kernel
theorem law22_6_4 : (twos.all fun os => pairB [3, 1] os) = true := by decide +kernel
theorem law22_6_5 : (twos.all fun os => pairB [3, 2] os) = true := by decide +kernel
theorem law22_6_6 : (twos.all fun os => pairB [3, 3] os) = true := by decide +kernel
theorem vals_cases {p : Int → Prop} (h0 : p (-3)) (h1 : p (-2)) (h2 : p (-1)) (h3 : p 0) (h4 : p 1) (h5 : p 2) (h6 : p 3) : ∀ a ∈ vals, p a := by
  intro a ha
  simp only [vals, List.mem_cons, List.not_mem_nil, or_false] at ha
  rcases ha with rfl | rfl | rfl | rfl | rfl | rfl | rfl <;> assumption
theorem law22 : ∀ a ∈ vals, ∀ b ∈ vals, (twos.all fun os => pairB [a, b] os) = true :=
  vals_cases (vals_cases law22_0_0 law22_0_1 law22_0_2 law22_0_3 law22_0_4 law22_0_5 law22_0_6) (vals_cases law22_1_0 law22_1_1 law22_1_2 law22_1_3 law22_1_4 law22_1_5 law22_1_6) (vals_cases law22_2_0 law22_2_1 law22_2_2 law22_2_3 law22_2_4 law22_2_5 law22_2_6) (vals_cases law22_3_0 law22_3_1 law22_3_2 law22_3_3 law22_3_4 law22_3_5 law22_3_6) (vals_cases law22_4_0 law22_4_1 law22_4_2 law22_4_3 law22_4_4 law22_4_5 law22_4_6) (vals_cases law22_5_0 law22_5_1 law22_5_2 law22_5_3 law22_5_4 law22_5_5 law22_5_6) (vals_cases law22_6_0 law22_6_1 law22_6_2 law22_6_3 law22_6_4 law22_6_5 law22_6_6)
theorem pair_all {rs os : List Int} (hr : rs ∈ ones ∨ rs ∈ twos) (ho : os ∈ ones ∨ os ∈ twos) : pairB rs os = true := by
  have key : ∀ {l m : List (List Int)}, (l.all fun rs => m.all fun os => pairB rs os) = true → rs ∈ l → os ∈ m → pairB rs os = true := fun h a b => List.all_eq_true.mp (List.all_eq_true.mp h rs a) os b
  rcases hr with hr | hr <;> rcases ho with ho | ho
  · exact key law11 hr ho
  · exact key law12 hr ho
  · exact key law21 hr ho
  · unfold twos at hr
    rw [List.mem_flatMap] at hr
    obtain ⟨a, ha, hr⟩ := hr
    obtain ⟨b, hb, rfl⟩ := List.mem_map.mp hr
    exact List.all_eq_true.mp (law22 a ha b hb) os ho
theorem law_all {rs os : List Int} (hr : rs ∈ ones ∨ rs ∈ twos) (ho : os ∈ ones ∨ os ∈ twos) : lawB rs os = true :=
  law_of (pair_all hr ho) (pair_all ho hr) (hr.elim (fun h => List.all_eq_true.mp lawS1 rs h) fun h => List.all_eq_true.mp lawS2 rs h)
theorem vals_mem {z : Int} (h1 : -3 ≤ z) (h2 : z ≤ 3) : z ∈ vals := by
  have : z = -3 ∨ z = -2 ∨ z = -1 ∨ z = 0 ∨ z = 1 ∨ z = 2 ∨ z = 3 := by lia
  rcases this with rfl | rfl | rfl | rfl | rfl | rfl | rfl <;> decide
theorem dom_mem {rs : List Int} (h : ∀ z ∈ rs, -3 ≤ z ∧ z ≤ 3) (hl : rs.length = 1 ∨ rs.length = 2) : rs ∈ ones ∨ rs ∈ twos := by
  match rs, hl with
  | [a], _ => exact .inl (List.mem_map.mpr ⟨a, vals_mem (h a (by simp)).1 (h a (by simp)).2, rfl⟩)
  | [a, b], _ => exact .inr (List.mem_flatMap.mpr ⟨a, vals_mem (h a (by simp)).1 (h a (by simp)).2, List.mem_map.mpr ⟨b, vals_mem (h b (by simp)).1 (h b (by simp)).2, rfl⟩⟩)
  | [], h => simp at h
  | _ :: _ :: _ :: _, h => simp at h
end Mine
end

section
namespace Mine
noncomputable def H0 (s : List Int) : AH := [.tup [.bool false, .ptr 1], .list [], .tup [.bool false, .ptr 3], .list [.int 1], .list (s.map .int)]
theorem ExtB.trans {p : Nat} {H H' H'' : AH} (a : ExtB p H H') (b : ExtB p H' H'') : ExtB p H H'' := ⟨Nat.le_trans a.len b.len, fun i o hi h => b.at_ i o hi (a.at_ i o hi h)⟩
theorem ExtB.list {p : Nat} {H H' : AH} (a : ExtB p H H') {q : Nat} {xs : List AV} (hq : q ≠ p) (h : listAt H q = some xs) : listAt H' q = some xs := listAt_eq.mpr (a.at_ _ _ hq (listAt_eq.mp h))
theorem ExtB.tup {p : Nat} {H H' : AH} (a : ExtB p H H') {q : Nat} {xs : List AV} (hq : q ≠ p) (h : tupAt H q = some xs) : tupAt H' q = some xs := tupAt_eq.mpr (a.at_ _ _ hq (tupAt_eq.mp h))
theorem Ext.toB {p : Nat} {H H' : AH} (a : Ext H H') : ExtB p H H' := ⟨a.len, fun i o _ h => a.at_ i o h⟩

structure Soil (ps pl : Nat) (ds : List Nat) (K : AH) : Prop where
  at_ : ∃ k : Nat, listAt K ps = some [.int (k : Nat), .ptr pl]
  ls : DL K pl ds
  ne : pl ≠ ps
  pf : frozen ≤ ps
  dl : ds.length ≤ 1000
theorem Soil.ext {ps pl : Nat} {ds : List Nat} {K K' : AH} (S : Soil ps pl ds K) (E : Ext K K') : Soil ps pl ds K' :=
  ⟨let ⟨k, h⟩ := S.at_; ⟨k, E.list h⟩, E.dl S.ls, S.ne, S.pf, S.dl⟩
theorem Soil.lt {ps pl : Nat} {ds : List Nat} {K : AH} (S : Soil ps pl ds K) : ps < K.length := let ⟨_, h⟩ := S.at_; list_lt h

theorem draw {n many ps pl : Nat} {ds : List Nat} {K : AH} (S : Soil ps pl ds K) (hm : 0 < many) :
    C (callF defs (n + 1)) 31 [.ptr ps, .int (many : Nat)] K fun v K' => ∃ r : Nat, r < many ∧ v = .int (r : Nat) ∧ Soil ps pl ds K' ∧ ExtB ps K K' := by
  obtain ⟨k, hk⟩ := S.at_
  refine (rooted_ok (n := n) S.pf hk S.ls S.dl hm).mono ?_
  rintro v K' ⟨r, hr, rfl, rfl⟩
  exact ⟨r, hr, rfl, ⟨⟨k + 1, list_set hk⟩, dl_set_ne (Ne.symm S.ne) S.ls, S.ne, S.pf, S.dl⟩, (ExtB.refl ps K).set (.inl rfl) _⟩

theorem draws {n ps pl td m cc : Nat} {ds : List Nat} {K : AH} {w z4 z5 : AV} {Q : AV → AH → Prop} (S : Soil ps pl ds K) (hm : item (.ptr td) (.int (cc : Nat)) K = some (.int (m : Nat))) (hm2 : m ≤ 2)
    (k : ∀ q zs G, Soil ps pl ds G → ExtB ps K G → K.length ≤ q → listAt G q = some (zints zs) → zs.length = m → (∀ z ∈ zs, -3 ≤ z ∧ z ≤ 3) → Q (.ptr q) G) :
    V (callF defs (n + 1)) (.compR 17 (.cons (.idx (.loc 3) (.int (cc : Nat))) .nil) (.bin .sub (.call (.glob (.fn 31)) (.cons (.loc 1) (.cons (.int 7) .nil))) (.int 3)))
      [.ptr 4, .ptr ps, w, .ptr td, z4, z5, .unb, .unb, .unb, .unb, .unb, .unb, .unb, .unb, .unb, .unb, .unb, .unb, .unb] K Q := by
  refine V_compR (fun i acc G => A3 (Soil ps pl ds G) (ExtB ps K G) (∃ zs, A3 (acc = zints zs) (zs.length = i) (∀ z ∈ zs, -3 ≤ z ∧ z ≤ 3))) ?_
  refine ⟨_, hm, _, _, _, range_up (by rw [cap_eq]; lia), ⟨S, ExtB.refl _ _, [], rfl, rfl, by simp⟩, ?_, ?_⟩
  · rintro i acc G hi ⟨S', E', zs, rfl, hl, hb⟩
    refine (draw (n := n) (many := 7) S' (by decide)).mono ?_
    rintro v G' ⟨r, hr, rfl, S2, E2⟩
    refine ⟨_, rfl, S2, E'.trans E2, zs ++ [(r : Int) - 3], by simp [zints], by simp [hl], fun z hz => ?_⟩
    rcases List.mem_append.mp hz with hz | hz
    · exact hb z hz
    · rw [List.mem_singleton.mp hz]; lia
  · rintro vs G ⟨S', E', zs, rfl, hl, hb⟩
    refine ⟨by rw [ints_len, hl, cap_eq]; lia, k _ zs _ (S'.ext ((Ext.refl _).push _)) (E'.push _) E'.len list_push hl hb⟩

inductive Drawn (ns : List Int) (ρ : List AV) (K : AH) : Prop
  | mk (w ps td pr po : Nat) (rs os : List Int) (h0 : ρ = [.ptr 4, .ptr ps, .int (w : Nat), .ptr td, .ptr pr, .ptr po, .unb, .unb, .unb, .unb, .unb, .unb, .unb, .unb, .unb, .unb, .unb, .unb, .unb])
    (h1 : Ext (H0 ns) K) (h2 : 1 ≤ w) (h3 : w ≤ 8) (h4 : listAt K pr = some (zints rs)) (h5 : listAt K po = some (zints os)) (h6 : frozen ≤ pr) (h7 : frozen ≤ po) (h8 : rs.length = 1 ∨ rs.length = 2) (h9 : os.length = 1 ∨ os.length = 2) (h10 : ∀ z ∈ rs, -3 ≤ z ∧ z ≤ 3) (h11 : ∀ z ∈ os, -3 ≤ z ∧ z ≤ 3) : Drawn ns ρ K

theorem soil_ok {c : Nat → List AV → AH → Option (AV × AH)} {ns : List Int} (hl : ns.length ≤ 63) {Q : AV → AH → Prop} (k : ∀ ps pl ds K, Ext (H0 ns) K → (H0 ns).length ≤ ps → Soil ps pl ds K → Q (.ptr ps) K) :
    V c (.list (.cons (.int 0) (.cons (.comp 16 (.slice (.loc 0) .omit (.int 8)) (.abs (.toInt (.loc 16)))) .nil))) [.ptr 4, .unb, .unb, .unb, .unb, .unb, .unb, .unb, .unb, .unb, .unb, .unb, .unb, .unb, .unb, .unb, .unb, .unb, .unb] (H0 ns) Q := by
  have h4 : listAt (H0 ns) 4 = some (zints ns) := rfl
  refine V_comp (xs := zints (ns.take 8)) (fun j acc K => Ext (H0 ns) K ∧ listAt K (H0 ns).length = some (zints (ns.take 8)) ∧ acc = nums (((ns.take 8).map Int.natAbs).take j)) ?_ ?_ ?_
  · skip
    refine ⟨_, _, cut_eq (l := 0) (h := 8) h4 (by rw [ints_len, cap_eq]; lia) rfl rfl, ?_⟩
    have e : ((zints ns).take 8).drop 0 = zints (ns.take 8) := by rw [List.drop_zero]; simp [zints]
    rw [e]
    refine ⟨by rw [ints_len, List.length_take, cap_eq]; lia, ⟨(Ext.refl _).push _, list_push, rfl⟩, fun j acc K h => h.2.1⟩
  · rintro j v acc K hv ⟨E, hL, rfl⟩
    obtain ⟨z, hz, rfl⟩ := ints_inv hv
    refine ⟨E, hL, ?_⟩
    have : ((ns.take 8).map Int.natAbs)[j]? = some z.natAbs := by rw [List.getElem?_map, hz]; rfl
    rw [take_succ_at this, nums_app]; rfl
  · rintro vs K ⟨E, hL, rfl⟩
    have hlen : (zints (ns.take 8)).length = ((ns.take 8).map Int.natAbs).length := by simp [zints]
    rw [hlen, List.take_length]
    have hl8 : ((ns.take 8).map Int.natAbs).length ≤ 8 := by simp; lia
    refine ⟨by rw [nums_len, cap_eq]; lia, ?_⟩
    have e : (K ++ [AO.list (nums ((ns.take 8).map Int.natAbs))]).length = K.length + 1 := by simp
    refine k _ K.length ((ns.take 8).map Int.natAbs) _ ((E.push _).push _) (by rw [e]; have := E.len; lia) ⟨⟨0, list_push⟩, ((Ext.refl _).push _).dl dl_push, by rw [e]; lia, ?_, by lia⟩
    rw [e]
    have := E.len
    have h5 : (H0 ns).length = 5 := rfl
    unfold frozen; lia
end Mine
end

section
namespace Mine
theorem deg_at {td : Nat} {a b : Nat} {K : AH} (h : tupAt K td = some [.int (a : Nat), .int (b : Nat)]) : item (.ptr td) (.int ((0 : Nat) : Int)) K = some (.int (a : Nat)) ∧ item (.ptr td) (.int ((1 : Nat) : Int)) K = some (.int (b : Nat)) :=
  ⟨item_tup h rfl (by show 2 ≤ cap; rw [cap_eq]; decide), item_tup h rfl (by show 2 ≤ cap; rw [cap_eq]; decide)⟩

theorem deg_ok {n ps pl : Nat} {ds : List Nat} {K : AH} {w : AV} {Q : AV → AH → Prop} (S : Soil ps pl ds K)
    (k : ∀ td a b G, Soil ps pl ds G → ExtB ps K G → td ≠ ps → tupAt G td = some [.int (a : Nat), .int (b : Nat)] → (a = 1 ∨ a = 2) → (b = 1 ∨ b = 2) → Q (.ptr td) G) :
    V (callF defs (n + 1)) (.idx (.list (.cons (.tup (.cons (.int 2) (.cons (.int 1) .nil))) (.cons (.tup (.cons (.int 1) (.cons (.int 1) .nil))) (.cons (.tup (.cons (.int 2) (.cons (.int 2) .nil))) (.cons (.tup (.cons (.int 1) (.cons (.int 2) .nil))) .nil))))) (.call (.glob (.fn 31)) (.cons (.loc 1) (.cons (.int 4) .nil))))
      [.ptr 4, .ptr ps, w, .unb, .unb, .unb, .unb, .unb, .unb, .unb, .unb, .unb, .unb, .unb, .unb, .unb, .unb, .unb, .unb] K Q := by
  (with_reducible conv => whnf)
  have c2 : 2 ≤ cap := by rw [cap_eq]; decide
  have c4 : 4 ≤ cap := by rw [cap_eq]; decide
  obtain ⟨K1, e1⟩ : ∃ K1, K1 = K ++ [AO.tup [.int 2, .int 1]] := ⟨_, rfl⟩
  obtain ⟨K2, e2⟩ : ∃ K2, K2 = K1 ++ [AO.tup [.int 1, .int 1]] := ⟨_, rfl⟩
  obtain ⟨K3, e3⟩ : ∃ K3, K3 = K2 ++ [AO.tup [.int 2, .int 2]] := ⟨_, rfl⟩
  obtain ⟨K4, e4⟩ : ∃ K4, K4 = K3 ++ [AO.tup [.int 1, .int 2]] := ⟨_, rfl⟩
  rw [← e1, ← e2, ← e3, ← e4]
  obtain ⟨K5, e5⟩ : ∃ K5, K5 = K4 ++ [AO.list [.ptr K.length, .ptr K1.length, .ptr K2.length, .ptr K3.length]] := ⟨_, rfl⟩
  rw [← e5]
  have F1 : Ext K K1 := e1 ▸ (Ext.refl _).push _
  have F2 : Ext K1 K2 := e2 ▸ (Ext.refl _).push _
  have F3 : Ext K2 K3 := e3 ▸ (Ext.refl _).push _
  have F4 : Ext K3 K4 := e4 ▸ (Ext.refl _).push _
  have F5 : Ext K4 K5 := e5 ▸ (Ext.refl _).push _
  have t0 : tupAt K5 K.length = some [.int ((2 : Nat) : Int), .int ((1 : Nat) : Int)] := F5.tup (F4.tup (F3.tup (F2.tup (e1 ▸ tup_push))))
  have t1 : tupAt K5 K1.length = some [.int ((1 : Nat) : Int), .int ((1 : Nat) : Int)] := F5.tup (F4.tup (F3.tup (e2 ▸ tup_push)))
  have t2 : tupAt K5 K2.length = some [.int ((2 : Nat) : Int), .int ((2 : Nat) : Int)] := F5.tup (F4.tup (e3 ▸ tup_push))
  have t3 : tupAt K5 K3.length = some [.int ((1 : Nat) : Int), .int ((2 : Nat) : Int)] := F5.tup (e4 ▸ tup_push)
  have hl : listAt K5 K4.length = some [.ptr K.length, .ptr K1.length, .ptr K2.length, .ptr K3.length] := e5 ▸ list_push
  have l1 := F1.len
  have l2 := F2.len
  have l3 := F3.len
  have l4 := F4.len
  have hps := S.lt
  clear e1 e2 e3 e4 e5
  have EE := F1.trans (F2.trans (F3.trans (F4.trans F5)))
  refine (draw (n := n) (many := 4) (S.ext EE) (by decide)).mono ?_
  rintro v G ⟨r, hr, rfl, SG, EG⟩
  have hlG := EG.list (by lia) hl
  have EB := (EE.toB (p := ps)).trans EG
  have h4 : ([AV.ptr K.length, .ptr K1.length, .ptr K2.length, .ptr K3.length]).length ≤ cap := c4
  have hr' : r = 0 ∨ r = 1 ∨ r = 2 ∨ r = 3 := by lia
  rcases hr' with rfl | rfl | rfl | rfl
  · exact ⟨_, item_list (k := 0) hlG rfl h4, k _ 2 1 G SG EB (by lia) (EG.tup (by lia) t0) (.inr rfl) (.inl rfl)⟩
  · exact ⟨_, item_list (k := 1) hlG rfl h4, k _ 1 1 G SG EB (by lia) (EG.tup (by lia) t1) (.inl rfl) (.inl rfl)⟩
  · exact ⟨_, item_list (k := 2) hlG rfl h4, k _ 2 2 G SG EB (by lia) (EG.tup (by lia) t2) (.inr rfl) (.inr rfl)⟩
  · exact ⟨_, item_list (k := 3) hlG rfl h4, k _ 1 2 G SG EB (by lia) (EG.tup (by lia) t3) (.inl rfl) (.inr rfl)⟩

theorem H0_un (ns : List Int) : UN (H0 ns) := ⟨rfl, rfl, rfl, rfl⟩

theorem law_draws {n : Nat} {ns : List Int} (hl : ns.length ≤ 63) {rest : St} {N : List AV → AH → Prop} {R : AV → AH → Prop} (k : ∀ ρ K, Drawn ns ρ K → X (callF defs (n + 1)) rest ρ K N R) :
    X (callF defs (n + 1)) (.seq (.asg 1 (.list (.cons (.int 0) (.cons (.comp 16 (.slice (.loc 0) .omit (.int 8)) (.abs (.toInt (.loc 16)))) .nil))))
  (.seq (.asg 2 (.bin .add (.int 3) (.call (.glob (.fn 31)) (.cons (.loc 1) (.cons (.int 6) .nil)))))
  (.seq (.asg 3 (.idx (.list (.cons (.tup (.cons (.int 2) (.cons (.int 1) .nil))) (.cons (.tup (.cons (.int 1) (.cons (.int 1) .nil))) (.cons (.tup (.cons (.int 2) (.cons (.int 2) .nil))) (.cons (.tup (.cons (.int 1) (.cons (.int 2) .nil))) .nil))))) (.call (.glob (.fn 31)) (.cons (.loc 1) (.cons (.int 4) .nil)))))
  (.seq (.asg 4 (.compR 17 (.cons (.idx (.loc 3) (.int 0)) .nil) (.bin .sub (.call (.glob (.fn 31)) (.cons (.loc 1) (.cons (.int 7) .nil))) (.int 3))))
  (.seq (.asg 5 (.compR 17 (.cons (.idx (.loc 3) (.int 1)) .nil) (.bin .sub (.call (.glob (.fn 31)) (.cons (.loc 1) (.cons (.int 7) .nil))) (.int 3)))) rest)))))
      [.ptr 4, .unb, .unb, .unb, .unb, .unb, .unb, .unb, .unb, .unb, .unb, .unb, .unb, .unb, .unb, .unb, .unb, .unb, .unb] (H0 ns) N R := by
  show V _ _ _ _ _
  refine soil_ok hl fun ps pl ds K E hps S => ?_
  refine (draw (n := n) (many := 6) S (by decide)).mono ?_
  rintro v K1 ⟨r, hr, rfl, S1, E1⟩
  refine ⟨_, iAdd (a := 3), ?_⟩
  show V _ _ _ _ _
  refine deg_ok S1 fun td a b K2 S2 E2 htd hab ha hb => ?_
  show V _ _ _ _ _
  obtain ⟨d1, d2⟩ := deg_at hab
  refine draws (m := a) (cc := 0) S2 d1 (by lia) fun pr rs K3 S3 E3 hpr hprl hrl hrb => ?_
  show V _ _ _ _ _
  obtain ⟨_, d3⟩ := deg_at (E3.tup htd hab)
  refine draws (m := b) (cc := 1) S3 d3 (by lia) fun po os K4 S4 E4 hpo hpol hol hob => ?_
  have EB := E1.trans (E2.trans (E3.trans E4))
  have hlK := S.lt
  have hE := E.len
  have hE1 := E1.len
  have hE2 := E2.len
  have hE3 := E3.len
  have h5 : (H0 ns).length = 5 := rfl
  have hfr : frozen = 5 := rfl
  exact k _ _ ⟨3 + r, ps, td, pr, po, rs, os, rfl, ⟨by have := EB.len; lia, fun i o h => EB.at_ i o (by have := lt_of_at h; lia) (E.at_ i o h)⟩, by lia, by lia, E4.list (by lia) hprl, hpol, by lia, by lia, by lia, by lia, hrb, hob⟩
end Mine
end

section
namespace Mine
theorem ints_ints : ∀ zs : List Int, ints? (zints zs) = some zs
  | [] => rfl
  | z :: zs => by
    show (ints? (zints zs)).map (z :: ·) = _
    rw [ints_ints zs]; rfl
theorem V_isin {c : Nat → List AV → AH → Option (AV × AH)} {ρ : List AV} {H : AH} {Q : AV → AH → Prop} {x o : Ex} (h : V c x ρ H fun a H1 => V c o ρ H1 fun b H2 => IntV a fun i => PtrV b fun p => ∃ zs, listAt H2 p = some (zints zs) ∧ Q (.bool (zs.any (· == i))) H2) : O (ev c (.isin x o) ρ H) Q := by
  obtain ⟨a, H1, e1, h⟩ := V_sound h
  obtain ⟨b, H2, e2, h⟩ := V_sound h
  obtain ⟨i, ei, h⟩ := IntV_ok h
  obtain ⟨p, ep, zs, e3, q⟩ := PtrV_ok h
  subst ei ep
  exact ⟨_, _, bnd e1 (bnd e2 (bnd e3 (mpd (ints_ints zs)))), q⟩
theorem V_index {c : Nat → List AV → AH → Option (AV × AH)} {ρ : List AV} {H : AH} {Q : AV → AH → Prop} {x o : Ex} (h : V c o ρ H fun z H1 => PtrV z fun p => (∃ ys, listAt H1 p = some ys) ∧ V c x ρ H1 fun v H2 => IntV v fun i => ∃ zs, listAt H2 p = some (zints zs) ∧ frozen ≤ p ∧ i ∈ zs ∧ zs.length ≤ cap ∧ Q (.int (zs.idxOf i)) H2) : O (ev c (.index o x) ρ H) Q := by
  obtain ⟨z, H1, e1, h⟩ := V_sound h
  obtain ⟨p, ep, ⟨ys, e2⟩, h⟩ := PtrV_ok h
  obtain ⟨v, H2, e3, h⟩ := V_sound h
  obtain ⟨i, ei, zs, e4, h1, h2, h3, q⟩ := IntV_ok h
  subst ep ei
  exact ⟨_, _, bnd e1 (bnd e2 (bnd e3 (bnd e4 (bnd (ints_ints zs) (if_pos ⟨h1, h2, h3⟩))))), q⟩

noncomputable abbrev lawRho (ps w td : AV) (pr po p1 p2 : Nat) (d a : Int) (pb sh : Nat) (z12 z13 z14 : AV) : List AV :=
  [.ptr 4, ps, w, td, .ptr pr, .ptr po, .ptr p1, .ptr p2, .int d, .int a, .ptr pb, .int (sh : Nat), z12, z13, z14, .unb, .unb, .unb, .unb]
theorem loop1_take {os rs : List Int} {j : Nat} {r : Int} (h : rs[j]? = some r) : loop1 os (rs.take (j + 1)) = (dueF os r (loop1 os (rs.take j)).1, bothF r (loop1 os (rs.take j)).2) := by
  unfold loop1; rw [take_succ_at h, List.foldl_append]; rfl

theorem loop1_ok {c : Nat → List AV → AH → Option (AV × AH)} {ps w td : AV} {pr po p1 p2 : Nat} {rs os : List Int} {K0 : AH} {N : List AV → AH → Prop} {R : AV → AH → Prop} (hr : listAt K0 pr = some (zints rs)) (ho : listAt K0 po = some (zints os)) (hpo : frozen ≤ po) (hK : frozen ≤ K0.length)
    (hrl : rs.length ≤ 2) (hol : os.length ≤ 2) (hrb : ∀ z ∈ rs, -3 ≤ z ∧ z ≤ 3) (hob : ∀ z ∈ os, -3 ≤ z ∧ z ≤ 3)
    (k : ∀ pb z12 z13 z14 K, Ext K0 K → (loop1 os rs).1.natAbs ≤ 36 ^ rs.length → N (lawRho ps w td pr po p1 p2 (loop1 os rs).1 1 pb (loop1 os rs).2.2 z12 z13 z14) K) :
    X c (.forL 12 (.loc 4) (.seq (.forL 13 (.loc 5) (.seq (.asg 8 (.bin .mul (.loc 8) (.bin .sub (.loc 12) (.loc 13)))) .skip))
  (.seq (.iff (.isin (.loc 12) (.loc 10)) (.seq (.asg 14 (.index (.loc 10) (.loc 12)))
  (.seq (.asgs [10, 11] (.cons (.bin .add (.slice (.loc 10) .omit (.loc 14)) (.slice (.loc 10) (.bin .add (.loc 14) (.int 1)) .omit)) (.cons (.bin .add (.loc 11) (.int 1)) .nil)))
  .skip)) .skip) .skip))) (lawRho ps w td pr po p1 p2 1 1 po 0 .unb .unb .unb) K0 N R := by
  refine X_forL (xs := zints rs) (fun j ρ K => ∃ pb z12 z13 z14 d bs sh, ρ = lawRho ps w td pr po p1 p2 d 1 pb sh z12 z13 z14 ∧ loop1 os (rs.take j) = (d, bs, sh) ∧ Ext K0 K ∧ frozen ≤ pb ∧ listAt K pb = some (zints bs) ∧ bs.length ≤ 2 ∧ d.natAbs ≤ 36 ^ j) ?_ ?_ ?_
  · skip
    exact ⟨by rw [ints_len, cap_eq]; lia, ⟨po, _, _, _, 1, os, 0, rfl, rfl, Ext.refl _, hpo, ho, hol, by simp⟩, fun j ρ K ⟨_, _, _, _, _, _, _, _, _, E, _⟩ => E.list hr⟩
  · rintro j v ρ K hv ⟨pb, z12, z13, z14, d, bs, sh, rfl, hlp, E, hpb, hb, hbl, hd⟩
    obtain ⟨r, hr1, rfl⟩ := ints_inv hv
    have hj := lt_of_at hr1
    obtain ⟨hr2, hr3⟩ := hrb r (mem_at hr1)
    rw [loop1_take hr1, hlp]
    have hd36 : d.natAbs ≤ 36 := Nat.le_trans hd (Nat.le_trans (Nat.pow_le_pow_right (by decide) (show j ≤ 1 by lia)) (by decide))
    show X _ _ (lawRho ps w td pr po p1 p2 d 1 pb sh (.int r) z13 z14) _ _ _
    refine X_cut (M := fun ρ G => G = K ∧ ∃ z13, ρ = lawRho ps w td pr po p1 p2 (dueF os r d) 1 pb sh (.int r) z13 z14 ∧ (dueF os r d).natAbs ≤ 36 ^ (j + 1)) ?_ ?_
    · refine X_forL (xs := zints os) (fun i ρ G => G = K ∧ E2 fun z13 e => A3 (ρ = lawRho ps w td pr po p1 p2 e 1 pb sh (.int r) z13 z14) (e = (os.take i).foldl (fun d o => d * (r - o)) d) (e.natAbs ≤ d.natAbs * 6 ^ i)) ?_ ?_ ?_
      · skip
        exact ⟨by rw [ints_len, cap_eq]; lia, ⟨rfl, _, d, rfl, rfl, by simp⟩, fun j ρ G ⟨e, _⟩ => e ▸ E.list ho⟩
      · rintro i v ρ G hv ⟨rfl, z13, e, rfl, he, heb⟩
        obtain ⟨o, ho1, rfl⟩ := ints_inv hv
        have hi := lt_of_at ho1
        obtain ⟨ho2, ho3⟩ := hob o (mem_at ho1)
        have h6 : (6 : Nat) ^ i ≤ 6 := Nat.le_trans (Nat.pow_le_pow_right (by decide) (show i ≤ 1 by lia)) (by decide)
        have hb1 : e.natAbs ≤ 36 * 6 := Nat.le_trans heb (Nat.mul_le_mul hd36 h6)
        refine ⟨r - o, rfl, e * (r - o), by simp only [binI]; rw [if_pos (by unfold big; lia)], rfl, _, _, rfl, ?_, ?_⟩
        · rw [take_succ_at ho1, List.foldl_append, ← he]; rfl
        · rw [Int.natAbs_mul, Nat.pow_succ, ← Nat.mul_assoc]
          exact Nat.mul_le_mul heb (by lia)
      · rintro ρ G ⟨rfl, z13, e, rfl, he, heb⟩
        rw [ints_len, List.take_length] at he
        rw [ints_len] at heb
        refine ⟨rfl, z13, by rw [he]; rfl, ?_⟩
        have h1 : dueF os r d = e := he.symm
        rw [h1, Nat.pow_succ]
        have h6 : (6 : Nat) ^ os.length ≤ 36 := Nat.le_trans (Nat.pow_le_pow_right (by decide) hol) (by decide)
        exact Nat.le_trans heb (Nat.mul_le_mul hd h6)
    rintro ρ G ⟨rfl, z13, rfl, hdb⟩
    show O _ _
    refine V_isin ?_
    refine ⟨bs, hb, ?_⟩
    by_cases hm : r ∈ bs
    · have e1 : bs.any (· == r) = true := List.any_eq_true.mpr ⟨r, hm, by simp⟩
      (with_reducible conv => whnf)
      refine ifp e1 ?_
      show O _ _
      refine V_index ?_
      refine ⟨⟨_, hb⟩, bs, hb, hpb, hm, by rw [cap_eq]; lia, ?_⟩
      have hix := List.idxOf_lt_length_iff.mpr hm
      generalize hix2 : bs.idxOf r = ix at hix ⊢
      have hcb : (zints bs).length ≤ cap := by rw [ints_len, cap_eq]; lia
      refine ⟨_, _, cut_eq (l := 0) (h := ix) hb hcb rfl (by simp [part]), ?_⟩
      have F1 := (Ext.refl G).push (.list (((zints bs).take ix).drop 0))
      refine ⟨_, iAdd (b := 1), ?_⟩
      refine ⟨_, _, cut_eq (l := ix + 1) (h := (zints bs).length) (F1.list hb) hcb (by simp [part]; lia) rfl, ?_⟩
      have F2 := F1.push (.list (((zints bs).take (zints bs).length).drop (ix + 1)))
      refine ⟨_, _, cat_eq (((Ext.refl _).push _).list list_push) list_push (by simp [zints]; rw [cap_eq]; lia), ?_⟩
      have e2 : ((zints bs).take ix).drop 0 ++ ((zints bs).take (zints bs).length).drop (ix + 1) = zints (bs.take ix ++ bs.drop (ix + 1)) := by
        rw [List.drop_zero, List.take_length]; simp [zints]
      rw [e2]
      refine ⟨_, iAdd (b := 1), ?_⟩
      refine ⟨_, _, _, _, _, _, _, rfl, (by rw [bothF, if_pos hm, hix2]), E.trans (F2.push _), ?_, list_push, by simp; lia, hdb⟩
      have := (E.trans F2).len
      exact Nat.le_trans hK this
    · have e1 : ¬ bs.any (· == r) = true := fun h => by
        obtain ⟨x, hx, hxe⟩ := List.any_eq_true.mp h
        exact hm (by rw [← beq_iff_eq.mp hxe]; exact hx)
      (with_reducible conv => whnf)
      refine ifn e1 ?_
      exact ⟨_, _, _, _, _, bs, sh, rfl, by rw [bothF, if_neg hm], E, hpb, hb, hbl, hdb⟩
  · rintro ρ K ⟨pb, z12, z13, z14, d, bs, sh, rfl, hlp, E, hpb, hb, hbl, hd⟩
    rw [ints_len, List.take_length] at hlp
    have := k pb z12 z13 z14 K E
    rw [hlp] at this
    rw [ints_len] at hd
    exact this hd
end Mine
end

section
namespace Mine
theorem loop2_ok {c : Nat → List AV → AH → Option (AV × AH)} {ps w td : AV} {pr po p1 p2 pb sh : Nat} {rs : List Int} {d : Int} {z12 z13 z14 : AV} {K : AH} {N : List AV → AH → Prop} {R : AV → AH → Prop} (hr : listAt K pr = some (zints rs))
    (hrl : rs.length ≤ 2) (hrb : ∀ z ∈ rs, -3 ≤ z ∧ z ≤ 3)
    (k : ∀ z13 z14, N (lawRho ps w td pr po p1 p2 d (loop2 rs) pb sh z12 z13 z14) K) :
    X c (.forR 14 (.cons (.len (.loc 4)) .nil) (.seq (.forR 13 (.cons (.len (.loc 4)) .nil) (.seq (.asg 9 (.bin .mul (.loc 9) (.ite (.cmp .ne (.loc 14) (.loc 13)) (.bin .sub (.idx (.loc 4) (.loc 14)) (.idx (.loc 4) (.loc 13))) (.int 1)))) .skip)) .skip))
      (lawRho ps w td pr po p1 p2 d 1 pb sh z12 z13 z14) K N R := by
  have hc : (zints rs).length ≤ cap := by rw [ints_len, cap_eq]; lia
  refine X_forR ?_
  refine ⟨_, len_eq hr hc, _, _, _, range_up hc, ?_⟩
  rw [ints_len]
  refine forN_ruleq (fun i ρ G => G = K ∧ E3 fun a z13 z14 => A3 (ρ = lawRho ps w td pr po p1 p2 d a pb sh z12 z13 z14) (a = (List.range i).foldl (fun d i => amongF rs i d) 1) (a.natAbs ≤ 36 ^ i)) rs.length 0 _ _ _ ⟨rfl, 1, _, _, rfl, rfl, by decide⟩ ?_ ?_
  · rintro i ρ G _ hi ⟨rfl, a, z13, z14, rfl, ha, hab⟩
    intro Nq hNq
    rw [show (0 : Int) + ((i : Int) - (0 : Nat)) * 1 = (i : Nat) by lia]
    obtain ⟨ri, hri⟩ := at_lt (l := rs) (i := i) (by lia)
    obtain ⟨b1, b2⟩ := hrb ri (mem_at hri)
    have ha36 : a.natAbs ≤ 36 := Nat.le_trans hab (Nat.le_trans (Nat.pow_le_pow_right (by decide) (show i ≤ 1 by lia)) (by decide))
    show X _ _ (lawRho ps w td pr po p1 p2 d a pb sh z12 z13 (.int (i : Nat))) _ _ _
    refine X_forR ?_
    refine ⟨_, len_eq hr hc, _, _, _, range_up hc, ?_⟩
    rw [ints_len]
    refine forN_ruleq (fun j ρ K => K = G ∧ ∃ e z13, ρ = lawRho ps w td pr po p1 p2 d e pb sh z12 z13 (.int (i : Nat)) ∧ e = (List.range j).foldl (fun d j => d * (if i ≠ j then rs.getD i 0 - rs.getD j 0 else 1)) a ∧ e.natAbs ≤ a.natAbs * 6 ^ j) rs.length 0 _ _ _ ⟨rfl, a, _, rfl, rfl, by simp⟩ ?_ ?_
    · rintro j ρ K _ hj ⟨rfl, e, z13, rfl, he, heb⟩
      intro Nq hNq
      rw [show (0 : Int) + ((j : Int) - (0 : Nat)) * 1 = (j : Nat) by lia]
      obtain ⟨rj, hrj⟩ := at_lt (l := rs) (i := j) (by lia)
      obtain ⟨b3, b4⟩ := hrb rj (mem_at hrj)
      have h6 : (6 : Nat) ^ j ≤ 6 := Nat.le_trans (Nat.pow_le_pow_right (by decide) (show j ≤ 1 by lia)) (by decide)
      have hb1 : e.natAbs ≤ 36 * 6 := Nat.le_trans heb (Nat.mul_le_mul ha36 h6)
      have fin : ∀ f : Int, f = (if i ≠ j then rs.getD i 0 - rs.getD j 0 else 1) → f.natAbs ≤ 6 → ∃ e' z13, [AV.ptr 4, ps, w, td, .ptr pr, .ptr po, .ptr p1, .ptr p2, .int d, .int (e * f), .ptr pb, .int (sh : Nat), z12, .int (j : Nat), .int (i : Nat), .unb, .unb, .unb, .unb] = lawRho ps w td pr po p1 p2 d e' pb sh z12 z13 (.int (i : Nat)) ∧
          e' = (List.range (j + 1)).foldl (fun d j => d * (if i ≠ j then rs.getD i 0 - rs.getD j 0 else 1)) a ∧ e'.natAbs ≤ a.natAbs * 6 ^ (j + 1) := fun f hf hfb => by
        refine ⟨_, _, rfl, ?_, ?_⟩
        · rw [List.range_succ, List.foldl_append, ← he, hf]; rfl
        · rw [Int.natAbs_mul, Nat.pow_succ, ← Nat.mul_assoc]; exact Nat.mul_le_mul heb hfb
      (with_reducible conv => whnf)
      by_cases hij : i = j
      · skip
        refine ifn (by lia) ?_
        refine ⟨_, by simp only [binI]; rw [if_pos (by unfold big; lia)], ?_⟩
        exact hNq _ _ ⟨rfl, fin 1 (by rw [if_neg (by lia)]) (by decide)⟩
      · skip
        refine ifp (by lia) ?_
        refine ⟨_, item_list hr (ints_at hri) hc, _, item_list hr (ints_at hrj) hc, ?_⟩
        refine ⟨_, rfl, _, by simp only [binI]; rw [if_pos (by unfold big; lia)], ?_⟩
        exact hNq _ _ ⟨rfl, fin (ri - rj) (by rw [if_pos hij, getD_at hri, getD_at hrj]) (by lia)⟩
    · rintro ρ K ⟨rfl, e, z13, rfl, he, heb⟩
      rw [Nat.zero_add] at he heb
      refine hNq _ _ ⟨rfl, e, z13, _, rfl, ?_, ?_⟩
      · rw [List.range_succ, List.foldl_append, ← ha]; exact he
      · have h6 : (6 : Nat) ^ rs.length ≤ 36 := Nat.le_trans (Nat.pow_le_pow_right (by decide) hrl) (by decide)
        rw [Nat.pow_succ]
        exact Nat.le_trans heb (Nat.mul_le_mul hab h6)
  · rintro ρ G ⟨rfl, a, z13, z14, rfl, ha, hab⟩
    rw [Nat.zero_add] at ha
    have := k z13 z14
    rw [show loop2 rs = a from ha.symm] at this
    exact this

theorem num_at {A : Nat → Prop} {B : Nat} {H : AH} {t : Nat} {z : Int} (h : SN A B H t z) : ∃ ds, Num B ds z.natAbs ∧ numAt H (.ptr t) = some (decide (z < 0), ds.map fun d : Nat => (d : Int)) := by
  obtain ⟨_, l, ds, _, ht, hD, hN⟩ := h
  refine ⟨ds, hN, ?_⟩
  have e : ints? (nums ds) = some (ds.map fun d : Nat => (d : Int)) := by
    have : nums ds = zints (ds.map fun d : Nat => (d : Int)) := by simp [nums, zints]
    rw [this]; exact ints_ints _
  unfold numAt
  simp only [ht]
  rw [show listAt H l = some (nums ds) from hD]
  simp only [e, Option.map_some]
theorem sn_same {A A' : Nat → Prop} {w : Nat} {H : AH} {t u : Nat} {z : Int} (hw : 1 ≤ w) (h : SN A (2 ^ w) H t z) (h' : SN A' (2 ^ w) H u z) : cmpop .ne (.ptr t) (.ptr u) H = some false ∧ cmpop .eq (.ptr t) (.ptr u) H = some true := by
  obtain ⟨ds, hN, e⟩ := num_at h
  obtain ⟨ds', hN', e'⟩ := num_at h'
  have := hN.inj (two_le hw) hN'
  subst this
  constructor
  · simp only [cmpop, e, e']; simp
  · simp only [cmpop, e, e']; simp

theorem runM_some {a b : List Int} {F : Sta} (h : runM a b = some F) : okM (a.length + b.length - 2) (sylv a b) = true ∧ steps (a.length + b.length - 2) (a.length + b.length - 2) 0 (sylv a b, [], false, 1) = some F := by
  unfold runM at h
  split at h
  · exact ⟨by assumption, h⟩
  · cases h
theorem detM_some {a b : List Int} {z : Int} (h : detM a b z = true) : ∃ F, runM a b = some F ∧ detv F (a.length + b.length - 2) = z ∧ z.natAbs < 2 ^ 1000 := by
  unfold detM at h
  split at h
  · rename_i F e
    simp only [Bool.and_eq_true, beq_iff_eq, decide_eq_true_eq] at h
    exact ⟨F, e, h.1, h.2⟩
  · cases h
theorem rankM_some {a b : List Int} {z : Int} (h : rankM a b z = true) : ∃ F, runM a b = some F ∧ ((F.2.1.length : Nat) : Int) = z := by
  unfold rankM at h
  split at h
  · rename_i F e
    exact ⟨F, e, beq_iff_eq.mp h⟩
  · cases h
theorem poly_len {rs : List Int} : (polyI rs).length = rs.length + 1 := by
  have : ∀ (f : List Int), (rs.foldl polyStep f).length = rs.length + f.length := by
    induction rs with
    | nil => intro f; simp
    | cons r rs ih => intro f; rw [List.foldl_cons, ih, polyStep_len, List.length_cons]; lia
  exact this [1]

end Mine
end

section
namespace Mine
theorem det_phase {n w p1 p2 : Nat} {a b : List Int} {z : Int} {H : AH} {Q : AV → AH → Prop} (hH : frozen ≤ H.length) (hw1 : 1 ≤ w) (hw : w ≤ 8) (h1 : listAt H p1 = some (zints a)) (h2 : listAt H p2 = some (zints b)) (hU : UN H)
    (hl1 : 1 ≤ a.length) (hl2 : 1 ≤ b.length) (hs : 3 ≤ a.length + b.length) (hm1 : a.length ≤ 100) (hm2 : b.length ≤ 100) (hd : detM a b z = true)
    (k : ∀ t H', Ext H H' → SN (fun _ => True) (2 ^ w) H' t z → Q (.ptr t) H') : C (callF defs (n + 10)) 36 [.ptr p1, .ptr p2, .int (w : Nat)] H Q := by
  obtain ⟨F, hF, hv, hz⟩ := detM_some hd
  obtain ⟨hok, hst⟩ := runM_some hF
  refine (law_det_ok (n := n) hH hw1 hw h1 h2 hl1 hl2 hm1 hm2 rfl (by lia) hU hok hst).mono ?_
  rintro x H1 ⟨E1, t, rfl, hS⟩
  rw [hv] at hS
  exact k t H1 E1 hS
theorem num_phase {n w t : Nat} {z : Int} {H : AH} {Q : Bool → AH → Prop} {op : Cop} {res : Bool} (hop : (op = .ne ∧ res = false) ∨ (op = .eq ∧ res = true)) (hH : frozen ≤ H.length) (hw1 : 1 ≤ w) (hw : w ≤ 8) (hS : SN (fun _ => True) (2 ^ w) H t z) (hz : z.natAbs < 2 ^ 1000)
    (k : ∀ H', Ext H H' → Q res H') : C (callF defs (n + 10)) 35 [.int z, .int (w : Nat)] H fun y H2 => ∃ b, cmpop op (.ptr t) y H2 = some b ∧ Q b H2 := by
  refine (number_ok (n := n + 8) hH hw1 hw hz).mono ?_
  rintro y H2 ⟨E2, u, rfl, hS'⟩
  obtain ⟨c1, c2⟩ := sn_same hw1 (hS.ext E2) hS'
  have := k H2 E2
  rcases hop with ⟨rfl, rfl⟩ | ⟨rfl, rfl⟩
  · exact ⟨false, c1, this⟩
  · exact ⟨true, c2, this⟩

theorem poly_small {rs : List Int} (h : rs ∈ ones ∨ rs ∈ twos) : ∀ z ∈ polyI rs, z.natAbs < 1000 := by
  have k1 : (ones.all fun rs => (polyI rs).all fun z => decide (z.natAbs < 1000)) = true := by decide +kernel
  have k2 : (twos.all fun rs => (polyI rs).all fun z => decide (z.natAbs < 1000)) = true := by decide +kernel
  intro z hz
  rcases h with h | h
  · exact of_decide_eq_true (List.all_eq_true.mp (List.all_eq_true.mp k1 rs h) z hz)
  · exact of_decide_eq_true (List.all_eq_true.mp (List.all_eq_true.mp k2 rs h) z hz)

theorem law_ok {n : Nat} {ns : List Int} (hl : ns.length ≤ 63) : C (callF defs (n + 11)) 37 [.ptr 4] (H0 ns) fun v H' => v = .bool true := by
  refine C_def (D := ⟨1, 19, bLaw⟩) rfl rfl ?_
  show X _ bLaw [.ptr 4, .unb, .unb, .unb, .unb, .unb, .unb, .unb, .unb, .unb, .unb, .unb, .unb, .unb, .unb, .unb, .unb, .unb, .unb] (H0 ns) _ _
  unfold bLaw
  refine law_draws (n := n + 9) hl fun ρ K hDr => ?_
  obtain ⟨w, ps, td, pr, po, rs, os, rfl, E, hw1, hw, hr, ho, hpr, hpo, hrl, hol, hrb, hob⟩ := hDr
  have hdr := dom_mem hrb hrl
  have hdo := dom_mem hob hol
  have hB := law_all hdr hdo
  unfold lawB at hB
  simp only [Bool.and_eq_true] at hB
  obtain ⟨⟨⟨b1, b2⟩, b3⟩, b4⟩ := hB
  have hfr : frozen = 5 := rfl
  have h5 : (H0 ns).length = 5 := rfl
  have hK : frozen ≤ K.length := by have := E.len; lia
  have hUK := (H0_un ns).ext E
  have hb3 : ∀ {l : List Int}, (∀ z ∈ l, -3 ≤ z ∧ z ≤ 3) → ∀ z ∈ l, z.natAbs < 1000 := fun h z hz => by have := h z hz; lia
  have hp1 : (polyI rs).length = rs.length + 1 := poly_len
  have hp2 : (polyI os).length = os.length + 1 := poly_len
  refine X_cutq (M := fun ρ G => E2 fun p1 p2 => A4 (ρ = [.ptr 4, .ptr ps, .int (w : Nat), .ptr td, .ptr pr, .ptr po, .ptr p1, .ptr p2, .int 1, .int 1, .ptr po, .unb, .unb, .unb, .unb, .unb, .unb, .unb, .unb]) (Ext K G) (listAt G p1 = some (zints (polyI rs))) (listAt G p2 = some (zints (polyI os)))) ?_ ?_
  · intro Nq hNq
    skip
    refine (poly_ok (n := n + 9) hK hr (by lia) (hb3 hrb)).mono ?_
    rintro v G ⟨E1, p1, rfl, hp1l, hp1'⟩
    refine (poly_ok (n := n + 9) (Nat.le_trans hK E1.len) (E1.list ho) (by lia) (hb3 hob)).mono ?_
    rintro v G2 ⟨E2, p2, rfl, hp2l, hp2'⟩
    exact hNq _ _ ⟨p1, p2, rfl, E1.trans E2, E2.list hp1', hp2'⟩
  rintro ρ G ⟨p1, p2, rfl, E1, h1, h2⟩
  have hG : frozen ≤ G.length := Nat.le_trans hK E1.len
  show X _ _ (lawRho (.ptr ps) (.int (w : Nat)) (.ptr td) pr po p1 p2 1 1 po 0 .unb .unb .unb) _ _ _
  refine loop1_ok (E1.list hr) (E1.list ho) hpo hG (by lia) (by lia) hrb hob fun pb z12 z13 z14 G2 E2 hdb => ?_
  refine loop2_ok (E2.list (E1.list hr)) (by lia) hrb fun z13 z14 => ?_
  have E02 := E1.trans E2
  have hG2 : frozen ≤ G2.length := Nat.le_trans hG E2.len
  obtain ⟨due, hdue⟩ : ∃ due, due = (loop1 os rs).1 := ⟨_, rfl⟩
  rw [← hdue] at hdb b1 b2 ⊢
  have hdb2 : due.natAbs ≤ 36 * 36 := Nat.le_trans hdb (Nat.le_trans (Nat.pow_le_pow_right (by decide) (show rs.length ≤ 2 by lia)) (by decide))
  obtain ⟨_, _, _, hz1⟩ := detM_some b1
  obtain ⟨_, _, _, hz2⟩ := detM_some b2
  obtain ⟨_, _, _, hz4⟩ := detM_some b4
  refine det_phase (n := n) hG2 hw1 hw (E2.list h1) (E2.list h2) (hUK.ext E02) (by lia) (by lia) (by lia) (by lia) (by lia) b1 fun t1 G3 E3 S3 => ?_
  refine num_phase (n := n) (.inl ⟨rfl, rfl⟩) (Nat.le_trans hG2 E3.len) hw1 hw S3 hz1 fun G4 E4 => ?_
  refine ifn (by simp) ?_
  have E24 := E3.trans E4
  have E04 := E02.trans E24
  have hG4 : frozen ≤ G4.length := Nat.le_trans hG2 E24.len
  have h1' := E24.list (E2.list h1)
  have h2' := E24.list (E2.list h2)
  refine det_phase (n := n) hG4 hw1 hw h2' h1' (hUK.ext E04) (by lia) (by lia) (by lia) (by lia) (by lia) b2 fun t2 G5 E5 S5 => ?_
  have E05 := E04.trans E5
  refine ⟨_, len_eq (E05.list hr) (by rw [ints_len, cap_eq]; lia), _, len_eq (E05.list ho) (by rw [ints_len, cap_eq]; lia), _, iMul (by rw [ints_len]; unfold big; lia), _, iMod (b := 2) (by decide), _, iMul (a := 2) (by decide), _, rfl, due * (1 - 2 * (((rs.length * os.length) % 2 : Nat) : Int)), ?_, ?_⟩
  · simp only [binI]
    rw [if_pos (by unfold big; lia), ints_len, ints_len]
    simp
  refine num_phase (n := n) (.inl ⟨rfl, rfl⟩) (Nat.le_trans hG4 E5.len) hw1 hw S5 hz2 fun G6 E6 => ?_
  refine ifn (by simp) ?_
  have E46 := E5.trans E6
  have E06 := E04.trans E46
  have hG6 : frozen ≤ G6.length := Nat.le_trans hG4 E46.len
  have h1'' := E46.list h1'
  have h2'' := E46.list h2'
  obtain ⟨F, hF, hrk⟩ := rankM_some b3
  obtain ⟨hok, hst⟩ := runM_some hF
  refine (rows_ok (n := n + 9) hG6 h1'' h2'' (by lia) (by lia) (by lia) (by lia)).mono ?_
  rintro v G7 ⟨E7, q7, rfl, hI⟩
  have hsl := sylv_len (one := polyI rs) (other := polyI os) (by lia) (by lia)
  refine (m_of_ok (n := n + 7) (Nat.le_trans hG6 E7.len) hw1 hw hI (by lia) fun r hr => ?_).mono ?_
  · obtain ⟨a, b⟩ := okM_at hok hr
    exact ⟨by lia, b⟩
  rintro v G8 ⟨E8, q8, rfl, hq8, hMX⟩
  have E68 := E7.trans E8
  refine (rank_ok (n := n + 1) (Nat.le_trans hG6 E68.len) hw1 hw hMX (fun i hi => Nat.le_trans (Nat.le_trans hG6 E7.len) hi) (by lia) (by lia) (by lia) hok (hUK.ext (E06.trans E68)) hst).mono ?_
  rintro v G9 ⟨E9, rfl⟩
  have E69 := E68.trans E9
  have E09 := E06.trans E69
  refine ⟨_, len_eq (E09.list hr) (by rw [ints_len, cap_eq]; lia), _, len_eq (E09.list ho) (by rw [ints_len, cap_eq]; lia), _, iAdd, _, rfl, ?_⟩
  rw [ints_len, ints_len, hrk]
  (with_reducible conv => whnf)
  refine ifn (by simp) ?_
  show O _ _
  have hG9 : frozen ≤ G9.length := Nat.le_trans hG6 E69.len
  have h19 := E69.list h1''
  refine V_compR (fun i acc G => Ext G9 G ∧ acc = zints ((slopeI (polyI rs) rs.length).take i)) ?_
  have hsll : (slopeI (polyI rs) rs.length).length = rs.length := by simp [slopeI]
  refine ⟨_, len_eq (E09.list hr) (by rw [ints_len, cap_eq]; lia), _, _, _, range_up (by rw [ints_len, cap_eq]; lia), ⟨Ext.refl _, rfl⟩, ?_, ?_⟩
  · rintro i acc G' hi ⟨E', rfl⟩
    rw [ints_len] at hi
    obtain ⟨a, ha⟩ := at_lt (l := polyI rs) (i := i) (by lia)
    have has := poly_small hdr a (mem_at ha)
    rw [show (0 : Int) + (i : Int) * 1 = (i : Nat) by lia]
    refine ⟨_, item_list (E'.list h19) (ints_at ha) (by rw [ints_len, cap_eq]; lia), ?_⟩
    refine ⟨_, len_eq (E'.list (E09.list hr)) (by rw [ints_len, cap_eq]; lia), _, rfl, a * ((rs.length : Int) - i), ?_, E', ?_⟩
    · simp only [binI]; rw [if_pos (by unfold big; lia), ints_len]
    · have : (slopeI (polyI rs) rs.length)[i]? = some (a * ((rs.length : Int) - i)) := by
        unfold slopeI
        rw [List.getElem?_map, List.getElem?_range hi]
        simp only [Option.map_some, getD_at ha]
      rw [take_succ_at this]; simp [zints]
  rintro vs G10 ⟨E10, rfl⟩
  have e1 : (zints rs).length = (slopeI (polyI rs) rs.length).length := by rw [ints_len, hsll]
  rw [e1, List.take_length]
  refine ⟨by rw [ints_len, hsll, cap_eq]; lia, ?_⟩
  have E11 := E10.push (.list (zints (slopeI (polyI rs) rs.length)))
  refine det_phase (n := n) (Nat.le_trans hG9 E11.len) hw1 hw (E11.list h19) list_push (hUK.ext (E09.trans E11)) (by lia) (by lia) (by lia) (by lia) (by lia) b4 fun t3 G12 E12 S12 => ?_
  refine num_phase (n := n) (.inr ⟨rfl, rfl⟩) (Nat.le_trans (Nat.le_trans hG9 E11.len) E12.len) hw1 hw S12 hz4 fun G13 E13 => ?_
  rfl

theorem run_all {ns : List Int} (h : ns.length ≤ 63) : ∃ H', callF defs 14 37 [.ptr 4] (H0 ns) = some (.bool true, H') := by
  obtain ⟨v, H', e, rfl⟩ := law_ok (n := 3) h
  exact ⟨H', e⟩
end Mine
end

section
open PySem PySem.W PySem.Calls PyProof.Rows
namespace Mine

noncomputable def RV (fa : Nat → Addr) (μ : List Addr) : AV → Value → Prop
  | .unb, _ => False
  | .none, v => v = .none
  | .bool b, v => v = .bool b
  | .int i, v => ∃ t, v = .int i t
  | .ptr n, v => ∃ a, μ[n]? = some a ∧ v = .ref a
  | .fn f, v => v = .ref (fa f)

noncomputable def RVs (fa : Nat → Addr) (μ : List Addr) : List AV → List Value → Prop
  | [], [] => True
  | x :: xs, v :: vs => RV fa μ x v ∧ RVs fa μ xs vs
  | _, _ => False

noncomputable def RO (fa : Nat → Addr) (μ : List Addr) : AO → Obj → Prop
  | .list xs, o => ∃ vs n, o.cls = .type "list" ∧ o.data = .seq vs.toArray n ∧ RVs fa μ xs vs
  | .tup xs, o => ∃ vs n, o.cls = .type "tuple" ∧ o.data = .seq vs.toArray n ∧ RVs fa μ xs vs

theorem pre_get {α : Type} {μ μ' : List α} (p : μ <+: μ') {i : Nat} {a : α} (h : μ[i]? = some a) : μ'[i]? = some a := by
  obtain ⟨t, rfl⟩ := p
  have hi : i < μ.length := by
    rcases Nat.lt_or_ge i μ.length with h1 | h1
    · exact h1
    · rw [List.getElem?_eq_none h1] at h; cases h
  rw [List.getElem?_append_left hi]; exact h

section
variable {fa : Nat → Addr} {μ μ' : List Addr}
theorem RV.mono (p : μ <+: μ') {x : AV} {v : Value} (h : RV fa μ x v) : RV fa μ' x v := by
  cases x with
  | ptr n => obtain ⟨a, ha, e⟩ := h; exact ⟨a, pre_get p ha, e⟩
  | _ => exact h
theorem RVs.mono (p : μ <+: μ') : ∀ {xs : List AV} {vs : List Value}, RVs fa μ xs vs → RVs fa μ' xs vs
  | [], [], _ => trivial
  | _ :: _, _ :: _, h => ⟨h.1.mono p, RVs.mono p h.2⟩
  | [], _ :: _, h => h.elim
  | _ :: _, [], h => h.elim
theorem RO.mono (p : μ <+: μ') {x : AO} {o : Obj} (h : RO fa μ x o) : RO fa μ' x o := by
  cases x with
  | list xs => obtain ⟨vs, n, a, b, c⟩ := h; exact ⟨vs, n, a, b, c.mono p⟩
  | tup xs => obtain ⟨vs, n, a, b, c⟩ := h; exact ⟨vs, n, a, b, c.mono p⟩
theorem RVs.length : ∀ {xs : List AV} {vs : List Value}, RVs fa μ xs vs → xs.length = vs.length
  | [], [], _ => rfl
  | _ :: _, _ :: _, h => by simp [RVs.length h.2]
  | [], _ :: _, h => h.elim
  | _ :: _, [], h => h.elim
theorem RVs.get : ∀ {xs : List AV} {vs : List Value}, RVs fa μ xs vs → ∀ {i : Nat} {x : AV}, xs[i]? = some x → ∃ v, vs[i]? = some v ∧ RV fa μ x v
  | [], [], _, i, x, h => by simp at h
  | _ :: _, v :: _, r, 0, x, h => by
    simp at h; subst h; exact ⟨v, by simp, r.1⟩
  | _ :: _, _ :: _, r, i + 1, x, h => by
    simp at h; simpa using RVs.get r.2 h
  | [], _ :: _, h, _, _, _ => h.elim
  | _ :: _, [], h, _, _, _ => h.elim
theorem RVs.none : ∀ {xs : List AV} {vs : List Value}, RVs fa μ xs vs → ∀ {i : Nat}, xs[i]? = .none → vs[i]? = .none := by
  intro xs vs h i e
  rw [List.getElem?_eq_none_iff] at e ⊢
  rw [← h.length]; exact e
theorem RVs.append : ∀ {xs ys : List AV} {vs ws : List Value}, RVs fa μ xs vs → RVs fa μ ys ws → RVs fa μ (xs ++ ys) (vs ++ ws)
  | [], _, [], _, _, h => h
  | _ :: _, _, _ :: _, _, r, h => ⟨r.1, RVs.append r.2 h⟩
  | [], _, _ :: _, _, h, _ => h.elim
  | _ :: _, _, [], _, h, _ => h.elim
theorem RVs.take : ∀ {xs : List AV} {vs : List Value}, RVs fa μ xs vs → ∀ n, RVs fa μ (xs.take n) (vs.take n)
  | [], [], _, n => by simp [RVs]
  | _ :: _, _ :: _, r, 0 => by simp [RVs]
  | _ :: _, _ :: _, r, n + 1 => ⟨r.1, RVs.take r.2 n⟩
  | [], _ :: _, h, _ => h.elim
  | _ :: _, [], h, _ => h.elim
theorem RVs.drop : ∀ {xs : List AV} {vs : List Value}, RVs fa μ xs vs → ∀ n, RVs fa μ (xs.drop n) (vs.drop n)
  | [], [], _, n => by simp [RVs]
  | _ :: _, _ :: _, r, 0 => r
  | _ :: _, _ :: _, r, n + 1 => RVs.drop r.2 n
  | [], _ :: _, h, _ => h.elim
  | _ :: _, [], h, _ => h.elim
theorem RVs.set {x : AV} {v : Value} (hx : RV fa μ x v) : ∀ {xs : List AV} {vs : List Value}, RVs fa μ xs vs → ∀ n, RVs fa μ (xs.set n x) (vs.set n v)
  | [], [], _, n => trivial
  | _ :: _, _ :: _, r, 0 => ⟨hx, r.2⟩
  | _ :: _, _ :: _, r, n + 1 => ⟨r.1, RVs.set hx r.2 n⟩
  | [], _ :: _, h, _ => h.elim
  | _ :: _, [], h, _ => h.elim
theorem RVs.replicate {x : AV} {v : Value} (hx : RV fa μ x v) : ∀ n, RVs fa μ (List.replicate n x) (List.replicate n v)
  | 0 => trivial
  | n + 1 => ⟨hx, RVs.replicate hx n⟩
theorem RVs.ints : ∀ {xs : List AV} {vs : List Value} {ns : List Int}, RVs fa μ xs vs → ints? xs = some ns → IntsAre vs ns
  | [], [], ns, _, h => by simp [ints?] at h; subst h; exact .nil
  | .int i :: xs, v :: vs, ns, r, h => by
    obtain ⟨⟨t, rfl⟩, r2⟩ := r
    simp only [ints?, Option.map_eq_some_iff] at h
    obtain ⟨ms, hm, rfl⟩ := h
    exact .cons i t (RVs.ints r2 hm)
  | .none :: _, _ :: _, _, _, h => by simp [ints?] at h
  | .unb :: _, _ :: _, _, _, h => by simp [ints?] at h
  | .bool _ :: _, _ :: _, _, _, h => by simp [ints?] at h
  | .ptr _ :: _, _ :: _, _, _, h => by simp [ints?] at h
  | .fn _ :: _, _ :: _, _, _, h => by simp [ints?] at h
  | [], _ :: _, _, h, _ => h.elim
  | _ :: _, [], _, h, _ => h.elim
end

structure SR (fa : Nat → Addr) (g0 : List Addr) (h₀ : Heap) (L : Addr) (h : Heap) (m : Str → Option Value) (μ : List Addr) (H : AH) (exs : List (Addr × Obj)) : Prop where
  F : Fr h₀ L h m
  pre : g0 <+: μ
  gl : g0.length = frozen
  len : μ.length = H.length
  obj : ∀ (i : Nat) (a : Addr) (ao : AO), μ[i]? = some a → H[i]? = some ao → ∃ o, h.get? a = some o ∧ RO fa μ ao o
  own : ∀ (i : Nat) (a : Addr), frozen ≤ i → μ[i]? = some a → a ≠ L ∧ h₀.get? a = .none
  frz : ∀ (i : Nat) (a : Addr), i < frozen → μ[i]? = some a → ∃ o, h₀.get? a = some o
  pln : ∀ (i : Nat) (a : Addr) (o : Obj), frozen ≤ i → μ[i]? = some a → h.get? a = some o → o.dict = .none ∧ o.slots = #[]
  inj : ∀ (i j : Nat) (a : Addr), frozen ≤ i → μ[i]? = some a → μ[j]? = some a → i = j
  exN : News h₀ L h exs
  exd : ∀ p ∈ exs, p.1 ∉ μ

namespace SR
variable {fa : Nat → Addr} {g0 : List Addr} {h₀ : Heap} {L : Addr} {h h' : Heap} {m m' : Str → Option Value} {μ : List Addr} {H : AH} {exs : List (Addr × Obj)}

theorem big (S : SR fa g0 h₀ L h m μ H exs) : frozen ≤ μ.length := by
  obtain ⟨t, e⟩ := S.pre
  rw [← e, List.length_append, S.gl]; omega

theorem there (S : SR fa g0 h₀ L h m μ H exs) {i : Nat} {a : Addr} (e : μ[i]? = some a) : ∃ ao o, H[i]? = some ao ∧ h.get? a = some o ∧ RO fa μ ao o := by
  have hi : i < μ.length := by
    rcases Nat.lt_or_ge i μ.length with h1 | h1
    · exact h1
    · rw [List.getElem?_eq_none h1] at e; cases e
  have hi' : i < H.length := S.len ▸ hi
  obtain ⟨o, ho, hr⟩ := S.obj i a _ e (List.getElem?_eq_getElem hi')
  exact ⟨_, o, List.getElem?_eq_getElem hi', ho, hr⟩

theorem at? (S : SR fa g0 h₀ L h m μ H exs) {i : Nat} {ao : AO} (e : H[i]? = some ao) : ∃ a o, μ[i]? = some a ∧ h.get? a = some o ∧ RO fa μ ao o := by
  have hi : i < H.length := by
    rcases Nat.lt_or_ge i H.length with h1 | h1
    · exact h1
    · rw [List.getElem?_eq_none h1] at e; cases e
  have hi' : i < μ.length := S.len ▸ hi
  obtain ⟨o, ho, hr⟩ := S.obj i _ ao (List.getElem?_eq_getElem hi') e
  exact ⟨_, o, List.getElem?_eq_getElem hi', ho, hr⟩

theorem mem_there (S : SR fa g0 h₀ L h m μ H exs) {a : Addr} (e : a ∈ μ) : ∃ o, h.get? a = some o := by
  obtain ⟨i, hi⟩ := List.mem_iff_getElem?.mp e
  obtain ⟨_, o, _, ho, _⟩ := S.there hi
  exact ⟨o, ho⟩

theorem grow (S : SR fa g0 h₀ L h m μ H exs) (k : ∀ b o, h.get? b = some o → h'.get? b = some o) : SR fa g0 h₀ L h' m μ H exs where
  F := S.F.keeps k
  pre := S.pre
  gl := S.gl
  len := S.len
  obj := fun i a ao e1 e2 => let ⟨o, ho, r⟩ := S.obj i a ao e1 e2; ⟨o, k _ _ ho, r⟩
  own := S.own
  frz := S.frz
  pln := fun i a o hi e ho => by
    obtain ⟨_, o', _, ho', _⟩ := S.there e
    have := k _ _ ho'
    rw [this] at ho
    cases ho
    exact S.pln i a _ hi e ho'
  inj := S.inj
  exN := fun p hp => ⟨k _ _ (S.exN p hp).1, (S.exN p hp).2⟩
  exd := S.exd

theorem adopt (S : SR fa g0 h₀ L h m μ H exs) {a : Addr} {o : Obj} {ao : AO} (ho : h.get? a = some o) (hL : a ≠ L) (h0 : h₀.get? a = .none) (hm : a ∉ μ) (he : ∀ p ∈ exs, p.1 ≠ a)
    (hr : RO fa μ ao o) (hd : o.dict = .none ∧ o.slots = #[]) : SR fa g0 h₀ L h m (μ ++ [a]) (H ++ [ao]) exs := by
  have hf := S.big
  have hp : μ <+: μ ++ [a] := List.prefix_append _ _
  have split : ∀ i b, (μ ++ [a])[i]? = some b → μ[i]? = some b ∨ (i = μ.length ∧ b = a) := fun i b e => by
    rcases Nat.lt_or_ge i μ.length with h1 | h1
    · rw [List.getElem?_append_left h1] at e; exact .inl e
    · rw [List.getElem?_append_right h1] at e
      rcases Nat.eq_or_lt_of_le h1 with h2 | h2
      · subst h2; simp at e; exact .inr ⟨rfl, e.symm⟩
      · rw [List.getElem?_eq_none (by simp; omega)] at e; cases e
  refine ⟨S.F, S.pre.trans hp, S.gl, by simp [S.len], ?_, ?_, ?_, ?_, ?_, S.exN, ?_⟩
  · intro i b bo e1 e2
    rcases split i b e1 with h1 | ⟨rfl, rfl⟩
    · have hi : i < H.length := by
        rw [← S.len]
        rcases Nat.lt_or_ge i μ.length with h2 | h2
        · exact h2
        · rw [List.getElem?_eq_none h2] at h1; cases h1
      rw [List.getElem?_append_left hi] at e2
      obtain ⟨o', ho', r⟩ := S.obj i b bo h1 e2
      exact ⟨o', ho', r.mono hp⟩
    · rw [S.len, List.getElem?_append_right (Nat.le_refl _)] at e2
      simp at e2; subst e2
      exact ⟨o, ho, hr.mono hp⟩
  · intro i b hi e
    rcases split i b e with h1 | ⟨rfl, rfl⟩
    · exact S.own i b hi h1
    · exact ⟨hL, h0⟩
  · intro i b hi e
    rcases split i b e with h1 | ⟨rfl, rfl⟩
    · exact S.frz i b hi h1
    · omega
  · intro i b o' hi e ho'
    rcases split i b e with h1 | ⟨rfl, rfl⟩
    · exact S.pln i b o' hi h1 ho'
    · rw [ho] at ho'; cases ho'; exact hd
  · intro i j b hi e1 e2
    rcases split i b e1 with h1 | ⟨rfl, rfl⟩ <;> rcases split j b e2 with h2 | ⟨h2, h3⟩
    · exact S.inj i j b hi h1 h2
    · subst h3; exact absurd (List.mem_of_getElem? h1) hm
    · exact absurd (List.mem_of_getElem? h2) hm
    · exact h2.symm
  · intro p hp hm'
    rcases List.mem_append.mp hm' with h1 | h1
    · exact S.exd p hp h1
    · exact he p hp (List.mem_singleton.mp h1)

theorem fresh (S : SR fa g0 h₀ L h m μ H exs) {a : Addr} (hn : h.get? a = .none) : a ≠ L ∧ h₀.get? a = .none ∧ a ∉ μ ∧ ∀ p ∈ exs, p.1 ≠ a := by
  refine ⟨fun q => ?_, ?_, fun hm => ?_, fun p hp q => ?_⟩
  · obtain ⟨oL, _, _, hL, _⟩ := S.F.ns
    rw [← q, hn] at hL; cases hL
  · cases q : h₀.get? a with
    | none => rfl
    | some o' => have := S.F.keep _ _ q; rw [hn] at this; cases this
  · obtain ⟨o', ho'⟩ := S.mem_there hm
    rw [hn] at ho'; cases ho'
  · have := (S.exN p hp).1
    rw [q, hn] at this; cases this

theorem add (S : SR fa g0 h₀ L h m μ H exs) {a : Addr} {o : Obj} {ao : AO} (k : ∀ b o, h.get? b = some o → h'.get? b = some o) (hn : h.get? a = .none) (ho : h'.get? a = some o)
    (hr : RO fa μ ao o) (hd : o.dict = .none ∧ o.slots = #[]) : SR fa g0 h₀ L h' m (μ ++ [a]) (H ++ [ao]) exs :=
  let ⟨f1, f2, f3, f4⟩ := S.fresh hn
  (S.grow k).adopt ho f1 f2 f3 f4 hr hd

noncomputable def led (μ : List Addr) (h : Heap) (exs : List (Addr × Obj)) : List (Addr × Obj) := (μ.drop frozen).filterMap (fun a => (h.get? a).map fun o => (a, o)) ++ exs

theorem drop_at {μ : List Addr} {a : Addr} (h : a ∈ μ.drop frozen) : ∃ i, frozen ≤ i ∧ μ[i]? = some a := by
  obtain ⟨i, hi⟩ := List.mem_iff_getElem?.mp h
  rw [List.getElem?_drop] at hi
  exact ⟨frozen + i, Nat.le_add_right _ _, hi⟩

theorem news (S : SR fa g0 h₀ L h m μ H exs) : News h₀ L h (led μ h exs) := by
  intro p hp
  rcases List.mem_append.mp hp with h1 | h1
  · obtain ⟨a, ha, e⟩ := List.mem_filterMap.mp h1
    obtain ⟨i, hi, e2⟩ := drop_at ha
    obtain ⟨o, ho, rfl⟩ := Option.map_eq_some_iff.mp e
    exact ⟨ho, S.own i a hi e2⟩
  · exact S.exN p h1

theorem in_led (S : SR fa g0 h₀ L h m μ H exs) {i : Nat} {a : Addr} (hi : frozen ≤ i) (e : μ[i]? = some a) : ∃ o, h.get? a = some o ∧ (a, o) ∈ led μ h exs := by
  obtain ⟨_, o, _, ho, _⟩ := S.there e
  refine ⟨o, ho, List.mem_append_left _ (List.mem_filterMap.mpr ⟨a, ?_, by rw [ho]; rfl⟩)⟩
  rw [List.mem_iff_getElem?]
  exact ⟨i - frozen, by rw [List.getElem?_drop, Nat.add_sub_cancel' hi]; exact e⟩

theorem back (S : SR fa g0 h₀ L h m μ H exs) (F' : Fr h₀ L h' m') (N' : News h₀ L h' (led μ h exs)) : SR fa g0 h₀ L h' m' μ H exs := by
  have same : ∀ i a, μ[i]? = some a → ∀ o, h.get? a = some o → h'.get? a = some o := fun i a e o ho => by
    rcases Nat.lt_or_ge i frozen with h1 | h1
    · obtain ⟨o', ho'⟩ := S.frz i a h1 e
      have := S.F.keep _ _ ho'
      rw [ho] at this; cases this
      exact F'.keep _ _ ho'
    · obtain ⟨o', ho', hm⟩ := S.in_led h1 e
      rw [ho] at ho'; cases ho'
      exact (N' _ hm).1
  refine ⟨F', S.pre, S.gl, S.len, ?_, S.own, S.frz, ?_, S.inj, fun p hp => N' p (List.mem_append_right _ hp), S.exd⟩
  · intro i a ao e1 e2
    obtain ⟨o, ho, r⟩ := S.obj i a ao e1 e2
    exact ⟨o, same i a e1 o ho, r⟩
  · intro i a o hi e ho
    obtain ⟨_, o', _, ho', _⟩ := S.there e
    have := same i a e o' ho'
    rw [this] at ho; cases ho
    exact S.pln i a _ hi e ho'

theorem change (S : SR fa g0 h₀ L h m μ H exs) {p : Nat} {a : Addr} {o : Obj} {ao : AO} (hp : μ[p]? = some a) (hf : frozen ≤ p) (hs : Heap.SameBut a h h') (ho : h'.get? a = some o)
    (hr : RO fa μ ao o) (hd : o.dict = .none ∧ o.slots = #[]) : SR fa g0 h₀ L h' m μ (H.set p ao) exs := by
  obtain ⟨hL, h0⟩ := S.own p a hf hp
  refine ⟨S.F.change hs hL h0, S.pre, S.gl, by simp [S.len], ?_, S.own, S.frz, ?_, S.inj, ?_, S.exd⟩
  · intro i b bo e1 e2
    by_cases hi : i = p
    · subst hi
      rw [hp] at e1; cases e1
      have hl : i < H.length := by
        rw [← S.len]
        rcases Nat.lt_or_ge i μ.length with h2 | h2
        · exact h2
        · rw [List.getElem?_eq_none h2] at hp; cases hp
      rw [List.getElem?_set_self hl] at e2
      cases e2
      exact ⟨o, ho, hr⟩
    · rw [List.getElem?_set_ne (Ne.symm hi)] at e2
      obtain ⟨o', ho', r⟩ := S.obj i b bo e1 e2
      refine ⟨o', ?_, r⟩
      rw [hs.2 b (fun q => hi ?_)]; exact ho'
      subst q
      exact (S.inj p i b hf hp e1).symm
  · intro i b o' hi e ho'
    by_cases hb : b = a
    · subst hb; rw [ho] at ho'; cases ho'; exact hd
    · rw [hs.2 b hb] at ho'; exact S.pln i b o' hi e ho'
  · intro q hq
    have := S.exN q hq
    refine ⟨?_, this.2⟩
    rw [hs.2 q.1 (fun e => S.exd q hq (e ▸ List.mem_of_getElem? hp))]; exact this.1

theorem hold (S : SR fa g0 h₀ L h m μ H exs) {a : Addr} {o : Obj} (k : ∀ b o, h.get? b = some o → h'.get? b = some o) (hn : h.get? a = .none) (ho : h'.get? a = some o) : SR fa g0 h₀ L h' m μ H ((a, o) :: exs) := by
  have S' := S.grow k
  refine ⟨S'.F, S.pre, S.gl, S.len, S'.obj, S.own, S.frz, S'.pln, S.inj, ?_, ?_⟩
  · intro p hp
    rcases List.mem_cons.mp hp with rfl | hp
    · refine ⟨ho, fun q => ?_, ?_⟩
      · obtain ⟨oL, _, _, hL, _⟩ := S.F.ns
        rw [← q, hn] at hL; cases hL
      · cases q : h₀.get? a with
        | none => rfl
        | some o' => have := S.F.keep _ _ q; rw [hn] at this; cases this
    · exact S'.exN p hp
  · intro p hp hm
    rcases List.mem_cons.mp hp with rfl | hp
    · obtain ⟨o', ho'⟩ := S.mem_there hm
      rw [hn] at ho'; cases ho'
    · exact S.exd p hp hm

theorem sub (S : SR fa g0 h₀ L h m μ H exs) {es : List (Addr × Obj)} (hs : ∀ p ∈ es, p ∈ exs) : SR fa g0 h₀ L h m μ H es :=
  ⟨S.F, S.pre, S.gl, S.len, S.obj, S.own, S.frz, S.pln, S.inj, fun p hp => S.exN p (hs p hp), fun p hp => S.exd p (hs p hp)⟩

theorem turn (S : SR fa g0 h₀ L h m μ H exs) {a : Addr} {es : List (Addr × Obj)} (ha : h₀.get? a = .none) (haL : a ≠ L) (haμ : a ∉ μ) (hs : ∀ b, b ≠ a → ∀ o, h.get? b = some o → h'.get? b = some o)
    (hes : ∀ p ∈ es, (p.1 ≠ a ∧ p ∈ exs) ∨ (p.1 = a ∧ h'.get? a = some p.2)) : SR fa g0 h₀ L h' m μ H es := by
  have hnm : ∀ i b, μ[i]? = some b → b ≠ a := fun i b e q => haμ (q ▸ List.mem_of_getElem? e)
  refine ⟨⟨S.F.ns.at' fun o e => hs _ (Ne.symm haL) o e, fun b o e => hs b (fun q => ?_) o (S.F.keep b o e), S.F.above⟩, S.pre, S.gl, S.len, ?_, S.own, S.frz, ?_, S.inj, ?_, ?_⟩
  · rw [q, ha] at e; cases e
  · intro i b bo e1 e2
    obtain ⟨o', ho', r⟩ := S.obj i b bo e1 e2
    exact ⟨o', hs b (hnm i b e1) _ ho', r⟩
  · intro i b o' hi e ho'
    obtain ⟨_, o, _, ho, _⟩ := S.there e
    have := hs b (hnm i b e) _ ho
    rw [this] at ho'; cases ho'
    exact S.pln i b _ hi e ho
  · intro p hp
    rcases hes p hp with ⟨h1, h2⟩ | ⟨h1, h2⟩
    · exact ⟨hs _ h1 _ (S.exN p h2).1, (S.exN p h2).2⟩
    · exact ⟨h1 ▸ h2, h1 ▸ haL, h1 ▸ ha⟩
  · intro p hp hm
    rcases hes p hp with ⟨h1, h2⟩ | ⟨h1, h2⟩
    · exact S.exd p h2 hm
    · exact haμ (h1 ▸ hm)

theorem neL (S : SR fa g0 h₀ L h m μ H exs) {i : Nat} {a : Addr} (e : μ[i]? = some a) : a ≠ L := by
  rcases Nat.lt_or_ge i frozen with h1 | h1
  · obtain ⟨o, ho⟩ := S.frz i a h1 e
    exact Nat.ne_of_lt (Nat.lt_of_lt_of_le (Heap.lt_size ho) S.F.above)
  · exact (S.own i a h1 e).1

theorem local_ (S : SR fa g0 h₀ L h m μ H exs) (hn : h'.Ns L m') (hs : Heap.SameBut L h h') : SR fa g0 h₀ L h' m' μ H exs := by
  refine ⟨S.F.set hn hs, S.pre, S.gl, S.len, ?_, S.own, S.frz, ?_, S.inj, fun p hp => ⟨(hs.2 _ (S.exN p hp).2.1).trans (S.exN p hp).1, (S.exN p hp).2⟩, S.exd⟩
  · intro i b bo e1 e2
    obtain ⟨o', ho', r⟩ := S.obj i b bo e1 e2
    exact ⟨o', (hs.2 b (S.neL e1)).trans ho', r⟩
  · intro i b o hi e ho
    rw [hs.2 b (S.neL e)] at ho
    exact S.pln i b o hi e ho
end SR
end Mine
end

section
open PySem PySem.W PySem.Calls PyProof.Rows
namespace Mine

noncomputable def Ok (fa : Nat → Addr) (g0 : List Addr) (h₀ : Heap) (L : Addr) (m : Str → Option Value) (μ : List Addr) (exs : List (Addr × Obj)) (s : Shared) (v : AV) (H' : AH) (Q : Value → Shared → Prop) : Prop :=
  ∀ h' tk μ' val, SR fa g0 h₀ L h' m μ' H' exs → μ <+: μ' → RV fa μ' v val → Q val { s with heap := h', toks := tk }

section
variable {prog : Program} {w : World} {A : Around} {E : Value → Shared → Prop} {s : Shared} {fa : Nat → Addr} {g0 : List Addr} {h₀ : Heap} {L : Addr} {m : Str → Option Value} {μ μ' : List Addr} {H H' : AH}
  {exs : List (Addr × Obj)} {v : AV} {Q : Value → Shared → Prop}

theorem Ok.stay (K : Ok fa g0 h₀ L m μ exs s v H Q) (S : SR fa g0 h₀ L s.heap m μ H exs) {val : Value} (r : RV fa μ v val) (tk : Nat) : Q val { s with toks := tk } :=
  K s.heap tk μ val S (List.prefix_refl _) r
theorem Ok.here (K : Ok fa g0 h₀ L m μ exs s v H Q) (S : SR fa g0 h₀ L s.heap m μ H exs) {val : Value} (r : RV fa μ v val) : Q val s := K.stay S r s.toks
theorem Ok.int {i : Int} (K : Ok fa g0 h₀ L m μ exs s (.int i) H Q) (S : SR fa g0 h₀ L s.heap m μ H exs) (t : Tok) (tk : Nat) : Q (.int i t) { s with toks := tk } := K.stay S ⟨t, rfl⟩ tk
theorem Ok.next (K : Ok fa g0 h₀ L m μ exs s v H' Q) {h₁ : Heap} {tk₁ : Nat} (p : μ <+: μ') : Ok fa g0 h₀ L m μ' exs { s with heap := h₁, toks := tk₁ } v H' Q :=
  fun h' tk μ'' val S p' r => K h' tk μ'' val S (p.trans p') r

noncomputable def bopR : Bop → Operator
  | .add => .Add | .sub => .Sub | .mul => .Mult | .fdiv => .FloorDiv | .mod => .Mod | .shl => .LShift | .shr => .RShift | .band => .BitAnd | .bor => .BitOr | .pow => .Pow

theorem big_eq : big = 2 ^ 64 := by decide
theorem bitAnd_nn {x y : Int} (hx : 0 ≤ x) (hy : 0 ≤ y) : Builtin.bitAnd x y = ((x.toNat &&& y.toNat : Nat) : Int) := by
  unfold Builtin.bitAnd; rw [decide_eq_true hx, decide_eq_true hy]
theorem bitOr_nn {x y : Int} (hx : 0 ≤ x) (hy : 0 ≤ y) : Builtin.bitOr x y = ((x.toNat ||| y.toNat : Nat) : Int) := by
  unfold Builtin.bitOr Builtin.bitAnd
  have h1 : ¬ (0 ≤ Builtin.bitNot x) := by unfold Builtin.bitNot; omega
  have h2 : ¬ (0 ≤ Builtin.bitNot y) := by unfold Builtin.bitNot; omega
  rw [decide_eq_false h1, decide_eq_false h2]
  have h3 : ∀ z, Builtin.bitNot (Builtin.bitNot z) = z := fun z => by unfold Builtin.bitNot; omega
  simp only [h3]

theorem bin_ints {op : Bop} {x y i : Int} {t u : Tok} (e : binI op x y = some i) (h : ∀ t' tk, Q (.int i t') { s with toks := tk }) :
    wpAny (model prog w) A (binaryOp (bopR op) (.int x t) (.int y u)) Q E s := by
  cases op <;> simp only [binI] at e
  · cases e; exact P.add_int (h _ _)
  · cases e; exact P.sub_int (h _ _)
  · split at e
    · rename_i hb; cases e
      rw [big_eq] at hb
      exact P.mul_int (h _ _) (IntMulOk.of_left (intBits_le_64 (by omega) (by omega)))
    · cases e
  · split at e
    · cases e
    · rename_i hb; cases e
      exact floordiv_int (fun q => hb (.inl q)) (h _ _) (.inl (PyProof.noPylong_small (by omega)))
  · split at e
    · cases e
    · rename_i hb; cases e
      exact mod_int' hb (h _ _)
  · split at e
    · rename_i hb; cases e
      rw [big_eq] at hb
      exact lshift_int_small hb.1 hb.2.1 hb.2.2 (h _ _)
    · cases e
  · split at e
    · rename_i hb; cases e
      exact rshift_int hb (h _ _)
    · cases e
  · split at e
    · rename_i hb; cases e
      exact and_int (by rw [bitAnd_nn hb.1 hb.2]; exact h _ _)
    · cases e
  · split at e
    · rename_i hb; cases e
      exact or_int (by rw [bitOr_nn hb.1 hb.2]; exact h _ _)
    · cases e
  · split at e
    · rename_i hb; cases e
      rw [big_eq] at hb
      exact pow_int_small hb.1 hb.2.1 hb.2.2 (h _ _)
    · cases e

theorem aug_ints {op : Bop} {x y i : Int} {t u : Tok} (hop : op ≠ .pow) (e : binI op x y = some i) (h : ∀ t' tk, Q (.int i t') { s with toks := tk }) :
    wpAny (model prog w) A (inplaceOp (bopR op) (.int x t) (.int y u)) Q E s := by
  cases op <;> simp only [binI] at e
  · cases e; exact P.iadd_int (h _ _)
  · cases e; exact P.isub_int (h _ _)
  · split at e
    · rename_i hb; cases e
      rw [big_eq] at hb
      exact P.imul_int (h _ _) (IntMulOk.of_left (intBits_le_64 (by omega) (by omega)))
    · cases e
  · split at e
    · cases e
    · rename_i hb; cases e
      exact ifloordiv_int (fun q => hb (.inl q)) (h _ _) (.inl (PyProof.noPylong_small (by omega)))
  · split at e
    · cases e
    · rename_i hb; cases e
      exact imod_int hb (h _ _)
  · split at e
    · rename_i hb; cases e
      rw [big_eq] at hb
      exact ilshift_int_small hb.1 hb.2.1 hb.2.2 (h _ _)
    · cases e
  · split at e
    · rename_i hb; cases e
      exact irshift_int hb (h _ _)
    · cases e
  · split at e
    · rename_i hb; cases e
      exact iand_int (by rw [bitAnd_nn hb.1 hb.2]; exact h _ _)
    · cases e
  · split at e
    · rename_i hb; cases e
      exact ior_int (by rw [bitOr_nn hb.1 hb.2]; exact h _ _)
    · cases e
  · exact absurd rfl hop

theorem SR.list? {h : Heap} (S : SR fa g0 h₀ L h m μ H exs) {p : Nat} {xs : List AV} (e : listAt H p = some xs) {a : Addr} (ha : μ[p]? = some a) :
    ∃ vs n o, h.get? a = some o ∧ o.cls = .type "list" ∧ o.data = .seq vs.toArray n ∧ RVs fa μ xs vs := by
  unfold listAt at e
  split at e
  · rename_i ys hH
    cases e
    obtain ⟨o, ho, vs, n, h1, h2, h3⟩ := S.obj p a _ ha hH
    exact ⟨vs, n, o, ho, h1, h2, h3⟩
  · cases e
theorem SR.tup? {h : Heap} (S : SR fa g0 h₀ L h m μ H exs) {p : Nat} {xs : List AV} (e : tupAt H p = some xs) {a : Addr} (ha : μ[p]? = some a) :
    ∃ vs n o, h.get? a = some o ∧ o.cls = .type "tuple" ∧ o.data = .seq vs.toArray n ∧ RVs fa μ xs vs := by
  unfold tupAt at e
  split at e
  · rename_i ys hH
    cases e
    obtain ⟨o, ho, vs, n, h1, h2, h3⟩ := S.obj p a _ ha hH
    exact ⟨vs, n, o, ho, h1, h2, h3⟩
  · cases e

theorem none_at_size (h : Heap) : h.get? h.objs.size = .none := by
  cases e : h.get? h.objs.size with
  | none => rfl
  | some o => exact absurd (Heap.lt_size e) (Nat.lt_irrefl _)

theorem Ok.new (S : SR fa g0 h₀ L s.heap m μ H exs) {xs : List AV} {vs : List Value} (r : RVs fa μ xs vs) (K : Ok fa g0 h₀ L m μ exs s (.ptr H.length) (H ++ [.list xs]) Q) (tk : Nat)
    {h' : Heap} (F' : Fr h₀ L h' m) (N' : News h₀ L h' ((s.heap.objs.size, { cls := .type "list", data := .seq vs.toArray }) :: SR.led μ s.heap exs)) :
    Q (.ref s.heap.objs.size) { s with heap := h', toks := tk } := by
  obtain ⟨f1, f2, f3, f4⟩ := S.fresh (none_at_size s.heap)
  have S' := S.back F' (fun p hp => N' p (.tail _ hp))
  refine K h' tk (μ ++ [s.heap.objs.size]) _ (S'.adopt (N' _ (.head _)).1 f1 f2 f3 f4 ⟨vs, 0, rfl, rfl, r⟩ ⟨rfl, rfl⟩) (List.prefix_append _ _) ⟨_, ?_, rfl⟩
  rw [← S.len]; simp

theorem Ok.push (S : SR fa g0 h₀ L s.heap m μ H exs) {xs : List AV} {vs : List Value} (r : RVs fa μ xs vs) (K : Ok fa g0 h₀ L m μ exs s (.ptr H.length) (H ++ [.list xs]) Q) :
    Q (.ref s.heap.objs.size) { s with heap := s.heap.push { cls := .type "list", data := .seq vs.toArray } } := by
  refine K _ s.toks (μ ++ [s.heap.objs.size]) _ (S.add (fun b o e => Heap.get?_push_of_some _ e) (none_at_size _) (Heap.get?_push_size _ rfl) ⟨vs, 0, rfl, rfl, r⟩ ⟨rfl, rfl⟩) (List.prefix_append _ _) ⟨_, ?_, rfl⟩
  rw [← S.len]; simp
theorem Ok.pushT (S : SR fa g0 h₀ L s.heap m μ H exs) {xs : List AV} {vs : List Value} (r : RVs fa μ xs vs) (K : Ok fa g0 h₀ L m μ exs s (.ptr H.length) (H ++ [.tup xs]) Q) :
    Q (.ref s.heap.objs.size) { s with heap := s.heap.push { cls := .type "tuple", data := .seq vs.toArray } } := by
  refine K _ s.toks (μ ++ [s.heap.objs.size]) _ (S.add (fun b o e => Heap.get?_push_of_some _ e) (none_at_size _) (Heap.get?_push_size _ rfl) ⟨vs, 0, rfl, rfl, r⟩ ⟨rfl, rfl⟩) (List.prefix_append _ _) ⟨_, ?_, rfl⟩
  rw [← S.len]; simp

theorem cap_line : cap ≤ sizeLine := by decide

theorem foldl_one (v : Value) : ∀ (n : Nat) (acc : List Value), List.foldl (fun x1 x2 => x1 ++ x2) acc.toArray (List.replicate n #[v]) = (acc ++ List.replicate n v).toArray
  | 0, acc => by simp
  | n + 1, acc => by
    rw [List.replicate_succ, List.foldl_cons]
    have : acc.toArray ++ #[v] = (acc ++ [v]).toArray := by simp
    rw [this, foldl_one v n]
    simp [List.replicate_succ]

theorem binop_ok {op : Bop} {a b : AV} {va vb : Value} (S : SR fa g0 h₀ L s.heap m μ H exs) (ra : RV fa μ a va) (rb : RV fa μ b vb) (e : binop op a b H = some (v, H')) (K : Ok fa g0 h₀ L m μ exs s v H' Q) :
    wpAny (model prog w) A (binaryOp (bopR op) va vb) Q E s := by
  unfold binop at e
  split at e
  · obtain ⟨t, rfl⟩ := ra
    obtain ⟨u, rfl⟩ := rb
    obtain ⟨i, hi, e⟩ := Option.map_eq_some_iff.mp e
    cases e
    exact bin_ints hi fun t' tk => K.int S t' tk
  · rename_i p q
    obtain ⟨al, ha, rfl⟩ := ra
    obtain ⟨bl, hb, rfl⟩ := rb
    split at e
    · rename_i xs ys hx hy
      split at e
      · rename_i hc
        cases e
        obtain ⟨vs, n, o, ho, hc1, hd1, r1⟩ := S.list? hx ha
        obtain ⟨ws, n2, o2, ho2, hc2, hd2, r2⟩ := S.list? hy hb
        refine add_arrays S.F S.news ⟨o, ho, hc1, n, hd1⟩ ⟨o2, ho2, hc2, n2, hd2⟩ (fun h' F' N' => ?_) ?_
        · have := K.new S (r1.append r2) (h' := h') s.toks F' (by simpa using N')
          exact this
        · have h1 := r1.length; have h2 := r2.length; have := cap_line
          simp only [List.size_toArray]; omega
      · cases e
    · cases e
  · rename_i p n
    obtain ⟨al, ha, rfl⟩ := ra
    obtain ⟨u, rfl⟩ := rb
    split at e
    · rename_i x hx
      split at e
      · rename_i hn
        cases e
        obtain ⟨vs, k, o, ho, hc1, hd1, r1⟩ := S.list? hx ha
        obtain ⟨p1, p2⟩ := S.pln p al o hn.1 ha ho
        have hv : ∃ v1, vs = [v1] ∧ RV fa μ x v1 := by
          match vs, r1 with
          | [v1], r1 => exact ⟨v1, rfl, r1.1⟩
        obtain ⟨v1, rfl, rv1⟩ := hv
        have ho' : s.heap.get? al = some { cls := .type "list", dict := .none, data := .seq #[v1] k, slots := #[] } := by
          rw [ho]; obtain ⟨c, d, dt, sl⟩ := o; simp only at hc1 hd1 p1 p2; subst hc1 hd1 p1 p2; rfl
        have hcap : (cap : Int) = 100000 := by decide
        refine mul_list S.F S.news ho' (by omega) (by omega) ?_ (fun h' F' N' => ?_)
        · show 1 * n.toNat ≤ 2 ^ 24
          omega
        · have hz : (if (#[v1] : Array Value).isEmpty = true then 0 else n.toNat) = n.toNat := by simp
          rw [hz] at N'
          have hl := foldl_one v1 n.toNat []
          rw [List.nil_append] at hl
          rw [show (#[] : Array Value) = ([] : List Value).toArray from rfl, hl] at N'
          exact K.new S (RVs.replicate rv1 n.toNat) s.toks F' N'
      · cases e
    · cases e
  · cases e
end
end Mine
end

section
open PySem PySem.W PySem.Calls PyProof.Rows
namespace Mine
section
variable {prog : Program} {w : World} {A : Around} {E : Value → Shared → Prop} {s : Shared} {fa : Nat → Addr} {g0 : List Addr} {h₀ : Heap} {L : Addr} {m : Str → Option Value} {μ μ' : List Addr} {H H' : AH}
  {exs : List (Addr × Obj)} {v : AV} {Q : Value → Shared → Prop}

noncomputable def copR : Cop → CmpOp
  | .eq => .Eq | .ne => .NotEq | .lt => .Lt | .le => .LtE | .gt => .Gt | .ge => .GtE

theorem reads_ints {h : Heap} : ∀ {vs : List Value} {ns : List Int}, IntsAre vs ns → ReadsAll h vs (ns.map PyData.int) []
  | _, _, .nil => .nil
  | _, _, .cons k t r => by simpa using ReadsAll.cons (Reads.int (h := h) k t) (reads_ints (h := h) r)

noncomputable def numD (x : Bool × List Int) : PyData := .tuple [.bool x.1, .list (x.2.map .int)]

theorem canLay_ints : ∀ ns : List Int, PyData.canLayAll0 (ns.map PyData.int) = true
  | [] => by simp [PyData.canLayAll0]
  | n :: r => by simp [PyData.canLayAll0, PyData.canLay0, canLay_ints r]
theorem depth_ints : ∀ ns : List Int, PyData.depthAll (ns.map PyData.int) ≤ 1
  | [] => by simp [PyData.depthAll]
  | n :: r => by
    have := depth_ints r
    simp only [List.map_cons, PyData.depthAll, PyData.depth]
    omega
theorem shaped_num (x : Bool × List Int) : SeqAt.shaped (numD x) = true := by
  have h1 := depth_ints x.2
  show (PyData.canLay0 (numD x) && decide (PyData.depth (numD x) ≤ 64)) = true
  rw [Bool.and_eq_true]
  refine ⟨?_, decide_eq_true ?_⟩
  · simp only [numD, PyData.canLay0, PyData.canLayAll0, canLay_ints, Bool.and_true]
  · simp only [numD, PyData.depth, PyData.depthAll]; omega
theorem eqvAll_ints : ∀ ns ms : List Int, PyData.eqvAll (ns.map PyData.int) (ms.map PyData.int) = (ns == ms)
  | [], [] => by simp [PyData.eqvAll]
  | [], _ :: _ => by simp [PyData.eqvAll]
  | _ :: _, [] => by simp [PyData.eqvAll]
  | a :: r, b :: t => by simp [PyData.eqvAll, PyData.eqv, eqvAll_ints r t]
theorem eqv_num (x y : Bool × List Int) : PyData.eqv (numD x) (numD y) = (x.1 == y.1 && x.2 == y.2) := by
  simp only [numD, PyData.eqv, PyData.eqvAll, eqvAll_ints, Bool.and_true]

theorem RVs.inv {a : AV} {l : List AV} : ∀ {vs : List Value}, RVs fa μ (a :: l) vs → ∃ v r, vs = v :: r ∧ RV fa μ a v ∧ RVs fa μ l r
  | v :: r, h => ⟨v, r, rfl, h⟩
theorem RVs.two {a b : AV} {vs : List Value} (h : RVs fa μ [a, b] vs) : ∃ v1 v2, vs = [v1, v2] ∧ RV fa μ a v1 ∧ RV fa μ b v2 := by
  obtain ⟨v1, r, rfl, h1, h2⟩ := h.inv
  obtain ⟨v2, r, rfl, h3, h4⟩ := h2.inv
  cases r with
  | nil => exact ⟨v1, v2, rfl, h1, h3⟩
  | cons _ _ => exact h4.elim
theorem SR.num {h : Heap} (S : SR fa g0 h₀ L h m μ H exs) {a : AV} {va : Value} {x : Bool × List Int} (ra : RV fa μ a va) (e : numAt H a = some x) : ∃ as, Reads h va (numD x) as := by
  unfold numAt at e
  split at e
  · rename_i p
    obtain ⟨al, ha, rfl⟩ := ra
    split at e
    · rename_i b l ht
      obtain ⟨vs, n, o, ho, hc, hd, r⟩ := S.tup? ht ha
      obtain ⟨v1, v2, rfl, r1, r2⟩ := r.two
      · cases r1
        obtain ⟨bl, hb, rfl⟩ := r2
        split at e
        · rename_i xs hx
          obtain ⟨ns, hns, rfl⟩ := Option.map_eq_some_iff.mp e
          obtain ⟨ws, n2, o2, ho2, hc2, hd2, rr⟩ := S.list? hx hb
          have hi := rr.ints hns
          have rl : Reads h (.ref bl) (.list (ns.map PyData.int)) [bl] := Reads.list ho2 hc2 hd2 (by simpa using reads_ints hi)
          exact ⟨_, Reads.tuple ho hc hd (ReadsAll.cons (Reads.bool _) (ReadsAll.cons rl ReadsAll.nil))⟩
        · cases e
    · cases e
  · cases e

theorem cmpop_ok {op : Cop} {a b : AV} {va vb : Value} {c : Bool} (hu : A.units + 64 < cLine) (S : SR fa g0 h₀ L s.heap m μ H exs) (ra : RV fa μ a va) (rb : RV fa μ b vb) (e : cmpop op a b H = some c)
    (K : Q (.bool c) s) : wpAny (model prog w) A (compareOp (copR op) va vb) Q E s := by
  unfold cmpop at e
  split at e
  · obtain ⟨t, rfl⟩ := ra
    obtain ⟨u, rfl⟩ := rb
    cases e
    cases op
    · exact P.eq_int K
    · exact P.ne_int K
    · exact P.lt_int K
    · exact P.le_int K
    · exact P.gt_int K
    · exact P.ge_int K
  · cases ra; cases rb
    split at e
    · cases e; exact eq_bool K
    · cases e; exact ne_bool K
    · cases e
  · split at e
    · rename_i x y hx hy
      cases e
      obtain ⟨as, h1⟩ := S.num ra hx
      obtain ⟨bs, h2⟩ := S.num rb hy
      exact eq_dataH h1 h2 (shaped_num x) (shaped_num y) hu (by rw [eqv_num]; exact K)
    · rename_i x y hx hy
      cases e
      obtain ⟨as, h1⟩ := S.num ra hx
      obtain ⟨bs, h2⟩ := S.num rb hy
      exact ne_dataH h1 h2 (shaped_num x) (shaped_num y) hu (by rw [eqv_num]; exact K)
    · cases e
  · cases e

theorem cap_eqS : cap = 100000 := rfl

theorem item_ok {value slice : PySem.Expr} {a i : AV} {va vi : Value} (S : SR fa g0 h₀ L s.heap m μ H exs) (ra : RV fa μ a va) (ri : RV fa μ i vi) (e : item a i H = some v)
    (hs : ∀ k t, subscripted slice false va (.int k t) = operate [va, .int k t] (getItem va (.int k t))) (K : ∀ val, RV fa μ v val → Q val s) :
    wpAny (model prog w) A (subscriptTail value slice va vi) Q E s := by
  unfold item at e
  split at e
  · rename_i p k
    obtain ⟨al, ha, rfl⟩ := ra
    obtain ⟨t, rfl⟩ := ri
    split at e
    · rename_i xs hH
      have hx : listAt H p = some xs := by unfold listAt; rw [hH]
      obtain ⟨vs, n, o, ho, hc, hd, r⟩ := S.list? hx ha
      have hI : s.heap.IsList al vs.toArray := ⟨o, ho, hc, n, hd⟩
      split at e
      · rename_i hb
        have hlen := r.length
        refine tail_any hI.typeIs slot_list_getitem.lookup ?_ (hs k t)
        unfold place at e
        split at e
        · rename_i hk
          obtain ⟨val, hv, rv⟩ := r.get e
          rw [cap_eqS] at hb
          refine wpAny_getItem_list_neg hI hk (by simp; omega) (by omega) (x := val) ?_ (K val rv)
          rw [List.size_toArray, ← hlen]; simpa using hv
        · rename_i hk
          obtain ⟨val, hv, rv⟩ := r.get e
          rw [cap_eqS] at hb
          exact wpAny_getItem_list hI (by omega) (by omega) (x := val) (by simpa using hv) (K val rv)
      · cases e
    · rename_i xs hH
      have hx : tupAt H p = some xs := by unfold tupAt; rw [hH]
      obtain ⟨vs, n, o, ho, hc, hd, r⟩ := S.tup? hx ha
      have hI : IsTup s.heap al vs.toArray := ⟨o, ho, hc, n, hd⟩
      split at e
      · rename_i hb
        have hlen := r.length
        obtain ⟨val, hv, rv⟩ := r.get e
        refine tail_any (T := "tuple") ⟨o, ho, hc⟩ slot_tuple_getitem.lookup ?_ (hs k t)
        rw [cap_eqS] at hb
        refine getItem_tuple hI (by omega) (by omega) (j := k.toNat) ?_ (x := val) (by simpa using hv) (K val rv)
        unfold seqIndex?
        rw [List.size_toArray, ← hlen]
        have h1 : ¬ k < 0 := by omega
        simp only [h1, if_false]
        rw [if_pos (by simp; omega)]
      · cases e
    · cases e
  · cases e

theorem pick_cut (vs : List Value) (l h : Nat) (lo hi : Option Int) (hlo : (lo = .none ∧ l = 0) ∨ lo = some (l : Int)) (hhi : (hi = .none ∧ h = vs.length) ∨ hi = some (h : Int)) :
    slicePick vs.toArray lo hi .none = ((vs.take h).drop l).toArray := by
  rw [slicePick_plain]
  have key : ∀ a b : Nat, ((vs.drop (min a vs.length)).take (min b vs.length - min a vs.length)) = (vs.take b).drop a := fun a b => by
    rw [List.drop_take]
    rcases Nat.le_total a vs.length with h1 | h1
    · rw [Nat.min_eq_left h1]
      rcases Nat.le_total b vs.length with h2 | h2
      · rw [Nat.min_eq_left h2]
      · rw [Nat.min_eq_right h2, List.take_of_length_le (by simp), List.take_of_length_le (by simp; omega)]
    · rw [Nat.min_eq_right h1, List.drop_of_length_le (Nat.le_refl _), List.drop_of_length_le h1]; simp
  congr 1
  rw [← key l h]
  have e1 : (lo.elim 0 (clipAt vs.toArray.size)) = min l vs.length := by
    rcases hlo with ⟨rfl, rfl⟩ | rfl
    · simp
    · simp [clipAt_nat]
  have e2 : (hi.elim vs.toArray.size (clipAt vs.toArray.size)) = min h vs.length := by
    rcases hhi with ⟨rfl, rfl⟩ | rfl
    · simp
    · simp [clipAt_nat]
  rw [e1, e2]

theorem part_ok {d l : Nat} {a : AV} {va : Value} (ra : RV fa μ a va) (e : part d a = some l) : ∃ lo, IsPart va lo ∧ ((lo = .none ∧ l = d) ∨ lo = some (l : Int)) := by
  unfold part at e
  split at e
  · cases ra; cases e; exact ⟨.none, .none, .inl ⟨rfl, rfl⟩⟩
  · rename_i k
    obtain ⟨t, rfl⟩ := ra
    split at e
    · rename_i hk; cases e
      exact ⟨some k, .int k t, .inr (by rw [Int.toNat_of_nonneg hk])⟩
    · cases e
  · cases e

theorem cut_ok {a lo hi : AV} {va vl vh : Value} (S : SR fa g0 h₀ L s.heap m μ H exs) (ra : RV fa μ a va) (rl : RV fa μ lo vl) (rh : RV fa μ hi vh) (e : cut a lo hi H = some (v, H'))
    (K : Ok fa g0 h₀ L m μ exs s v H' Q) :
    ∃ l items lo hi, va = .ref l ∧ s.heap.IsList l items ∧ items.size ≤ sizeLine ∧ IsPart vl lo ∧ IsPart vh hi ∧
      Q (.ref (s.heap.objs.size + 1)) { s with heap := (s.heap.push { cls := .type "slice", data := .fields #[vl, vh, .none] }).push { cls := .type "list", data := .seq (slicePick items lo hi none) } } := by
  unfold cut at e
  split at e
  · rename_i p
    obtain ⟨al, ha, rfl⟩ := ra
    obtain ⟨xs, hx, e⟩ := Option.bind_eq_some_iff.mp e
    split at e
    · rename_i hc
      obtain ⟨l, hl, e⟩ := Option.bind_eq_some_iff.mp e
      obtain ⟨h, hh, e⟩ := Option.bind_eq_some_iff.mp e
      cases e
      obtain ⟨vs, n, o, ho, hc1, hd, r⟩ := S.list? hx ha
      obtain ⟨lo', p1, q1⟩ := part_ok rl hl
      obtain ⟨hi', p2, q2⟩ := part_ok rh hh
      have hlen := r.length
      refine ⟨al, vs.toArray, lo', hi', rfl, ⟨o, ho, hc1, n, hd⟩, ?_, p1, p2, ?_⟩
      · have := cap_line; simp; omega
      · rw [pick_cut vs l h lo' hi' q1 (by rw [← hlen]; exact q2)]
        have S1 := S.grow (h' := s.heap.push { cls := .type "slice", data := .fields #[vl, vh, .none] }) (fun b o e => Heap.get?_push_of_some _ e)
        have sz : (s.heap.push { cls := .type "slice", data := .fields #[vl, vh, .none] }).objs.size = s.heap.objs.size + 1 := Heap.size_push ..
        have K1 : Ok fa g0 h₀ L m μ exs { s with heap := s.heap.push { cls := .type "slice", data := .fields #[vl, vh, .none] } } (.ptr H.length) (H ++ [.list ((xs.take h).drop l)]) Q := K
        have := K1.push S1 ((r.take h).drop l)
        rw [show (({ s with heap := s.heap.push { cls := .type "slice", data := .fields #[vl, vh, .none] } } : Shared).heap.objs.size) = s.heap.objs.size + 1 from sz] at this
        exact this
    · cases e
  · cases e

theorem len_ok {a : AV} {va : Value} {n : Nat} (S : SR fa g0 h₀ L s.heap m μ H exs) (ra : RV fa μ a va) (e : lenOf a H = some n) (K : ∀ t tk, Q (.int n t) { s with toks := tk }) :
    wpAny (model prog w) A (call (.builtin "len") [va]) Q E s := by
  unfold lenOf at e
  split at e
  · rename_i p
    obtain ⟨al, ha, rfl⟩ := ra
    obtain ⟨xs, hx, e⟩ := Option.bind_eq_some_iff.mp e
    split at e
    · rename_i hc
      cases e
      obtain ⟨vs, k, o, ho, hc1, hd, r⟩ := S.list? hx ha
      have hlen := r.length
      rw [cap_eqS] at hc
      refine len_list ⟨o, ho, hc1, k, hd⟩ (by simp; omega) ?_
      rw [List.size_toArray, ← hlen]
      exact K _ _
    · cases e
  · cases e
end
end Mine
end

section
open PySem PySem.W PySem.Calls PyProof.Rows
namespace Mine


noncomputable def trName (gl : List (Str × AV)) (kd : List (Str × NameKind)) (nt : List (Str × Nat)) (x : Str) : Option Ex :=
  if x = Str.ofString "__debug__" ∨ x = Str.ofString "__classdict__" then .none else
  match kd.lookup x with
  | some .globalImplicit => (gl.lookup x).map .glob
  | some .local | some .cell | some .free => (nt.lookup x).map .loc
  | _ => .none

noncomputable def trBop : Operator → Option Bop
  | .Add => some .add | .Sub => some .sub | .Mult => some .mul | .FloorDiv => some .fdiv | .Mod => some .mod | .LShift => some .shl | .RShift => some .shr
  | .BitAnd => some .band | .BitOr => some .bor | .Pow => some .pow | _ => .none
noncomputable def trCop : CmpOp → Option Cop
  | .Eq => some .eq | .NotEq => some .ne | .Lt => some .lt | .LtE => some .le | .Gt => some .gt | .GtE => some .ge | _ => .none

noncomputable def testok : PySem.Expr → Bool
  | .UnaryOp .Not x _ => testok x
  | .BoolOp .And [x, y] _ => testok x && testok y
  | .BoolOp .. => false
  | .IfExp .. => false
  | .Compare _ [_] [_] _ => true
  | .Compare .. => false
  | _ => true

noncomputable def trL (f : PySem.Expr → Option Ex) : List PySem.Expr → Option Ex
  | [] => some .nil
  | e :: r => (f e).bind fun e' => (trL f r).map fun r' => .cons e' r'

noncomputable def isB (kd : List (Str × NameKind)) (x : Str) (n : String) : Bool :=
  x == Str.ofString n && (kd.lookup x == some .globalImplicit)

noncomputable def isName : PySem.Expr → Bool
  | .Name .. => true
  | _ => false
noncomputable def plainBase : PySem.Expr → Bool
  | .Name .. => true
  | .Subscript .. => true
  | _ => false
noncomputable def isComp : PySem.Expr → Bool
  | .ListComp .. => true
  | _ => false

noncomputable def inner (kd : List (Str × NameKind)) (names : List (Str × NameKind)) : List (Str × NameKind) :=
  names.map fun (n, k) => if k == .free && kd.lookup n == some .cell then (n, .cell) else (n, k)

noncomputable def compOk (kd : List (Str × NameKind)) (nt : List (Str × Nat)) (i : Nat) (sc : Scope) (x : Str) : Bool :=
  nt.all (fun z => z.2 != i) && (nt.lookup (Str.ofString ".0")).isNone &&
  sc.kind == .function && sc.names.all (fun y => y.2 != .cell && (y.2 != .local || (sc.names.lookup y.1 == some .local && (y.1 == x || y.1 == Str.ofString ".0"))) && (y.2 != .free || (kd.lookup y.1 == some .cell || kd.lookup y.1 == some .free)))
    && sc.names.lookup x == some .local && x != Str.ofString ".0"

noncomputable def one {α : Type} : List α → Option α
  | [x] => some x
  | _ => .none
noncomputable def two {α : Type} : List α → Option (α × α)
  | [x, y] => some (x, y)
  | _ => .none
theorem one_eq {α : Type} : ∀ {l : List α} {x : α}, one l = some x → l = [x]
  | [_], _, h => by cases h; rfl
theorem two_eq {α : Type} : ∀ {l : List α} {z : α × α}, two l = some z → l = [z.1, z.2]
  | [_, _], _, h => by cases h; rfl
noncomputable def nameOf : (e : PySem.Expr) → Option { z : Str × Pos // e = .Name z.1 z.2 }
  | .Name x p => some ⟨(x, p), rfl⟩
  | _ => .none
noncomputable def subOf : (e : PySem.Expr) → Option { z : PySem.Expr × PySem.Expr × Pos // e = .Subscript z.1 z.2.1 z.2.2 }
  | .Subscript o i p => some ⟨(o, i, p), rfl⟩
  | _ => .none
noncomputable def tupOf : (e : PySem.Expr) → Option { z : List PySem.Expr × Nat × Pos // e = .Tuple z.1 z.2.1 z.2.2 }
  | .Tuple es k p => some ⟨(es, k, p), rfl⟩
  | _ => .none
noncomputable def cutOf : (e : PySem.Expr) → Option { z : Option PySem.Expr × Option PySem.Expr × Pos // e = .Slice z.1 z.2.1 .none z.2.2 }
  | .Slice lo hi .none p => some ⟨(lo, hi, p), rfl⟩
  | _ => .none
noncomputable def callOf : (e : PySem.Expr) → Option { z : Str × Pos × List PySem.Expr × Pos // e = .Call (.Name z.1 z.2.1) z.2.2.1 [] z.2.2.2 }
  | .Call f args [] p => (nameOf f).map fun z => ⟨(z.1.1, z.1.2, args, p), congrArg (fun x => PySem.Expr.Call x args [] p) z.2⟩
  | _ => .none
noncomputable def argsOf (kd : List (Str × NameKind)) (b : String) (e : PySem.Expr) : Option (List PySem.Expr) := (callOf e).bind fun z => if isB kd z.1.1 b = true then some z.1.2.2.1 else .none
noncomputable abbrev rangeArgs (kd : List (Str × NameKind)) (e : PySem.Expr) : Option (List PySem.Expr) := argsOf kd "range" e
theorem argsOf_eq {kd : List (Str × NameKind)} {b : String} {e : PySem.Expr} {args : List PySem.Expr} (h : argsOf kd b e = some args) : ∃ f fp p, e = .Call (.Name f fp) args [] p ∧ isB kd f b = true := by
  obtain ⟨z, _, h2⟩ := Option.bind_eq_some_iff.mp h
  by_cases hb : isB kd z.1.1 b = true
  · rw [if_pos hb] at h2
    cases h2
    exact ⟨_, _, _, z.2, hb⟩
  · rw [if_neg hb] at h2; cases h2
noncomputable def genOf (gens : List Comprehension) : Option { z : Str × PySem.Expr // ∃ px, gens = [⟨.Name z.1 px, z.2, [], 0⟩] } := match gens with
  | [⟨t, it, [], 0⟩] => (nameOf t).map fun z => ⟨(z.1.1, it), z.1.2, congrArg (fun x => [(⟨x, it, [], 0⟩ : Comprehension)]) z.2⟩
  | _ => .none

section
variable (gl : List (Str × AV)) (cs : List (Str × Nat))

noncomputable def trConst : Const → Option Ex
  | .int i => some (.int i)
  | .bool b => some (.bool b)
  | _ => .none
noncomputable def trUn (x : Option Ex) : UnaryOp → Option Ex
  | .USub => x.map .neg
  | .Not => x.map .not
  | _ => .none
variable (r : PySem.Expr → Option Ex)
noncomputable def trBool (vs : List PySem.Expr) : BoolOp → Option Ex
  | .And => (two vs).bind fun z => (r z.1).bind fun x' => (r z.2).map fun y' => .and x' y'
  | _ => .none
noncomputable def trCmp1 (l : PySem.Expr) (op : CmpOp) (e : PySem.Expr) : Option Ex := if op = .In then (r l).bind fun l' => (r e).map fun r' => .isin l' r'
  else (trCop op).bind fun o => (r l).bind fun l' => (r e).map fun r' => .cmp o l' r'
noncomputable def trCmp (l : PySem.Expr) (ops : List CmpOp) (rs : List PySem.Expr) : Option Ex := (one ops).bind fun op => (one rs).bind fun e => if behindInMarks op e = true then .none else trCmp1 r l op e
theorem none_if {α : Type} {p : Prop} [Decidable p] {o : Option α} {a : α} (h : (if p then .none else o) = some a) : ¬ p ∧ o = some a := by
  by_cases q : p
  · rw [if_pos q] at h; cases h
  · rw [if_neg q] at h; exact ⟨q, h⟩
theorem some_if {α : Type} {p : Prop} [Decidable p] {o : Option α} {a : α} (h : (if p then o else .none) = some a) : p ∧ o = some a := by
  by_cases q : p
  · rw [if_pos q] at h; exact ⟨q, h⟩
  · rw [if_neg q] at h; cases h
noncomputable def trMeth (o : PySem.Expr) (name : Str) (apos pos : Pos) (args : List PySem.Expr) : Option Ex := if (apos.endLine == pos.line) && plainBase o then
    (match args with
    | [x] => if name = Str.ofString "append" then (r o).bind fun o' => (r x).map fun x' => .append o' x'
      else if name = Str.ofString "index" then (r o).bind fun o' => (r x).map fun x' => .index o' x'
      else .none
    | [] => if name = Str.ofString "bit_length" then (r o).map .bitlen else .none
    | _ => .none) else .none
noncomputable def trNamed (kd : List (Str × NameKind)) (nt : List (Str × Nat)) (x : Str) (args : List PySem.Expr) : Option Ex :=
  if isB kd x "len" then (one args).bind fun a => (r a).map .len
  else if isB kd x "abs" then (one args).bind fun a => (r a).map .abs
  else if isB kd x "int" then (one args).bind fun a => (r a).map .toInt
  else if isB kd x "min" then (two args).bind fun z => (r z.1).bind fun a' => (r z.2).map fun b' => .min a' b'
  else (match args with
    | [] => .none
    | _ => (trName gl kd nt x).bind fun f => (trL r args).map fun es => .call f es)
noncomputable def trCall (kd : List (Str × NameKind)) (nt : List (Str × Nat)) (args : List PySem.Expr) (pos : Pos) : PySem.Expr → Option Ex
  | .Attribute o name apos => trMeth r o name apos pos args
  | .Name x _ => trNamed gl r kd nt x args
  | _ => .none
noncomputable def trPart : Option PySem.Expr → Option Ex
  | .none => some .omit
  | some l => r l
noncomputable def trCut (v : PySem.Expr) (lo hi : Option PySem.Expr) : Option Ex := if isName v then (r v).bind fun v' => (trPart r lo).bind fun lo' => (trPart r hi).map fun hi' => .slice v' lo' hi' else .none
noncomputable def trSub (v : PySem.Expr) (i : PySem.Expr) : Option Ex := match cutOf i with
  | some z => trCut r v z.1.1 z.1.2.1
  | .none => (r v).bind fun v' => (r i).map fun i' => .idx v' i'

noncomputable def trE : Nat → List (Str × NameKind) → List (Str × Nat) → PySem.Expr → Option Ex
  | 0, _, _, _ => .none
  | n + 1, kd, nt, e => match e with
    | .Constant c _ _ => trConst c
    | .Name x _ => trName gl kd nt x
    | .BinOp l op r _ => (trBop op).bind fun o => (trE n kd nt l).bind fun l' => (trE n kd nt r).map fun r' => .bin o l' r'
    | .UnaryOp op x _ => trUn (trE n kd nt x) op
    | .BoolOp op vs _ => trBool (trE n kd nt) vs op
    | .Compare l ops rs _ => trCmp (trE n kd nt) l ops rs
    | .IfExp t a b _ => if testok t then (trE n kd nt t).bind fun t' => (trE n kd nt a).bind fun a' => (trE n kd nt b).map fun b' => .ite t' a' b' else .none
    | .List es _ => (trL (trE n kd nt) es).map .list
    | .Tuple es _ _ => (trL (trE n kd nt) es).map .tup
    | .Call f args kws pos => if kws.isEmpty then trCall gl (trE n kd nt) kd nt args pos f else .none
    | .Subscript v i _ => trSub (trE n kd nt) v i
    | .ListComp elt gens sc _ => (genOf gens).bind fun z => (cs.lookup z.1.1).bind fun i => if compOk kd nt i sc z.1.1 then
        (match rangeArgs kd z.1.2 with
        | some args => (trL (trE n kd nt) args).bind fun args' => (trE n (inner kd sc.names) ((z.1.1, i) :: nt) elt).map fun elt' => .compR i args' elt'
        | .none => if isComp z.1.2 then .none else (trE n kd nt z.1.2).bind fun iter' => (trE n (inner kd sc.names) ((z.1.1, i) :: nt) elt).map fun elt' => .comp i iter' elt') else .none
    | _ => .none

noncomputable def suppE : PySem.Expr → Bool
  | .Constant .. | .Name .. | .BinOp .. | .UnaryOp .. | .BoolOp .. | .Compare .. | .IfExp .. | .List .. | .Tuple .. | .Call .. | .Subscript .. | .ListComp .. => true
  | _ => false
theorem trE_supp {gl : List (Str × AV)} {cs : List (Str × Nat)} {n : Nat} {kd : List (Str × NameKind)} {nt : List (Str × Nat)} {e : PySem.Expr} {e' : Ex} (h : trE gl cs n kd nt e = some e') : suppE e = true := by
  cases n with
  | zero => cases h
  | succ n => cases e <;> first | rfl | exact nomatch (show (none : Option Ex) = some e' from h)
noncomputable def trT (kd : List (Str × NameKind)) (nt : List (Str × Nat)) : PySem.Expr → Option Nat
  | .Name x _ => if kd.lookup x = some .local ∨ kd.lookup x = some .cell then nt.lookup x else .none
  | _ => .none
noncomputable def trTs (kd : List (Str × NameKind)) (nt : List (Str × Nat)) : List PySem.Expr → Option (List Nat)
  | [] => some []
  | e :: r => (trT kd nt e).bind fun i => (trTs kd nt r).map fun is => i :: is

noncomputable def trB (f : Stmt → Option St) : List Stmt → Option St
  | [] => some .skip
  | s :: r => (f s).bind fun s' => (trB f r).map fun r' => .seq s' r'

noncomputable def swapOf (ts vs : List PySem.Expr) : Option ((PySem.Expr × PySem.Expr × Pos) × (PySem.Expr × PySem.Expr × Pos) × (PySem.Expr × PySem.Expr)) :=
  (two ts).bind fun z => (subOf z.1).bind fun a => (subOf z.2).bind fun b => (two vs).map fun y => (a.1, b.1, y)
theorem swapOf_eq {ts vs : List PySem.Expr} {z : (PySem.Expr × PySem.Expr × Pos) × (PySem.Expr × PySem.Expr × Pos) × (PySem.Expr × PySem.Expr)} (h : swapOf ts vs = some z) :
    ts = [.Subscript z.1.1 z.1.2.1 z.1.2.2, .Subscript z.2.1.1 z.2.1.2.1 z.2.1.2.2] ∧ vs = [z.2.2.1, z.2.2.2] := by
  obtain ⟨t, h1, h⟩ := Option.bind_eq_some_iff.mp h
  obtain ⟨a, _, h⟩ := Option.bind_eq_some_iff.mp h
  obtain ⟨b, _, h⟩ := Option.bind_eq_some_iff.mp h
  obtain ⟨y, h4, rfl⟩ := Option.map_eq_some_iff.mp h
  rw [two_eq h1, two_eq h4]
  exact ⟨by rw [← a.2, ← b.2], rfl⟩
noncomputable def trSwap (z : (PySem.Expr × PySem.Expr × Pos) × (PySem.Expr × PySem.Expr × Pos) × (PySem.Expr × PySem.Expr)) : Option St :=
  (r z.2.2.1).bind fun e' => (r z.2.2.2).bind fun f' => (r z.1.1).bind fun o' => (r z.1.2.1).bind fun i' => (r z.2.1.1).bind fun q' => (r z.2.1.2.1).map fun j' => .swap o' i' q' j' e' f'
noncomputable def trAsgs (kd : List (Str × NameKind)) (nt : List (Str × Nat)) (ts vs : List PySem.Expr) : Option St :=
  (trTs kd nt ts).bind fun is => if is.Nodup ∧ (vs.all (foldedForSure 8) || !vs.all (constantsAlone 8)) = true ∧ vs.length ≤ 10 then (trL r vs).map fun es => .asgs is es else .none
noncomputable def trTup (kd : List (Str × NameKind)) (nt : List (Str × Nat)) (ts : List PySem.Expr) (value : PySem.Expr) : Option St := match tupOf value with
  | some y => (match swapOf ts y.1.1 with
    | some z => trSwap r z
    | .none => trAsgs r kd nt ts y.1.1)
  | .none => if isComp value then .none else (trTs kd nt ts).bind fun is => (r value).map fun v => .unpk is v
noncomputable def trAssign (kd : List (Str × NameKind)) (nt : List (Str × Nat)) (value : PySem.Expr) : PySem.Expr → Option St
  | .Name x p => (trT kd nt (.Name x p)).bind fun i => (r value).map fun v => .asg i v
  | .Tuple ts _ _ => trTup r kd nt ts value
  | .Subscript o i _ => if isComp value then .none else (r value).bind fun v => (r o).bind fun o' => (r i).map fun i' => .put o' i' v
  | _ => .none
noncomputable def trFor (kd : List (Str × NameKind)) (nt : List (Str × Nat)) (iter : PySem.Expr) (b : Option St) : PySem.Expr → Option St
  | .Name x p => (trT kd nt (.Name x p)).bind fun i => (match rangeArgs kd iter with
    | some args => (trL r args).bind fun es => b.map fun a' => .forR i es a'
    | .none => if isComp iter then .none else (r iter).bind fun e => b.map fun a' => .forL i e a')
  | .Tuple ts _ _ => (two ts).bind fun z => (nameOf z.1).bind fun x => (nameOf z.2).bind fun y => (argsOf kd "enumerate" iter).bind fun args => (one args).bind fun e =>
      (trT kd nt (.Name x.1.1 x.1.2)).bind fun i => (trT kd nt (.Name y.1.1 y.1.2)).bind fun j => if i = j then .none else (r e).bind fun e' => b.map fun a' => .forE i j e' a'
  | _ => .none
noncomputable def trAug (kd : List (Str × NameKind)) (nt : List (Str × Nat)) (t : PySem.Expr) (op : Operator) (value : PySem.Expr) : Option St :=
  (nameOf t).bind fun x => (trT kd nt (.Name x.1.1 x.1.2)).bind fun i => (trBop op).bind fun o => if op = .Pow then .none else (r value).map fun v => .aug i o v

noncomputable def trS : Nat → List (Str × NameKind) → List (Str × Nat) → Stmt → Option St
  | 0, _, _, _ => .none
  | n + 1, kd, nt, s => match s with
    | .Raise .. => some (.expr .nil)
    | .Expr e _ => if isComp e then .none else (trE gl cs n kd nt e).map .expr
    | .Return e _ => e.bind fun e => (trE gl cs n kd nt e).map .ret
    | .Assign ts value _ => (one ts).bind fun t => trAssign (trE gl cs n kd nt) kd nt value t
    | .AugAssign t op value _ => trAug (trE gl cs n kd nt) kd nt t op value
    | .If t a b _ => if testok t then (trE gl cs n kd nt t).bind fun t' => (trB (trS n kd nt) a).bind fun a' => (trB (trS n kd nt) b).map fun b' => .iff t' a' b' else .none
    | .While t a e _ => if testok t && e.isEmpty then (trE gl cs n kd nt t).bind fun t' => (trB (trS n kd nt) a).map fun a' => .whl t' a' else .none
    | .For t iter a e _ => if e.isEmpty then trFor (trE gl cs n kd nt) kd nt iter (trB (trS n kd nt) a) t else .none
    | _ => .none
noncomputable def suppS : Stmt → Bool
  | .Raise .. | .Expr .. | .Return .. | .Assign .. | .AugAssign .. | .If .. | .While .. | .For .. => true
  | _ => false
theorem trS_supp {gl : List (Str × AV)} {cs : List (Str × Nat)} {n : Nat} {kd : List (Str × NameKind)} {nt : List (Str × Nat)} {e : Stmt} {e' : St} (h : trS gl cs n kd nt e = some e') : suppS e = true := by
  cases n with
  | zero => cases h
  | succ n => cases e <;> first | rfl | exact nomatch (show (none : Option St) = some e' from h)
end
end Mine
end

section
open PySem
namespace Mine
noncomputable def glT : List (Str × AV) := [(Str.ofString "normal", .fn 0), (Str.ofString "nat_of", .fn 1), (Str.ofString "compare", .fn 2), (Str.ofString "add", .fn 3), (Str.ofString "sub", .fn 4), (Str.ofString "divrem_limb", .fn 5), (Str.ofString "shift_left", .fn 6), (Str.ofString "shift_right", .fn 7), (Str.ofString "bits", .fn 8), (Str.ofString "signed", .fn 9), (Str.ofString "s_of", .fn 10), (Str.ofString "s_neg", .fn 11), (Str.ofString "s_sign", .fn 12), (Str.ofString "s_add", .fn 13), (Str.ofString "s_sub", .fn 14), (Str.ofString "s_mul", .fn 15), (Str.ofString "tdiv", .fn 16), (Str.ofString "m_of", .fn 17), (Str.ofString "exact", .fn 18), (Str.ofString "pivot_row", .fn 19), (Str.ofString "cleared", .fn 20), (Str.ofString "steps_down", .fn 21), (Str.ofString "rank", .fn 22), (Str.ofString "det_bareiss", .fn 23), (Str.ofString "mul_school", .fn 24), (Str.ofString "divrem_small", .fn 25), (Str.ofString "guessed_limb", .fn 26), (Str.ofString "take_away", .fn 27), (Str.ofString "put_back", .fn 28), (Str.ofString "divide_rows", .fn 29), (Str.ofString "divrem_school", .fn 30), (Str.ofString "_law_rooted", .fn 31), (Str.ofString "_law_limbs", .fn 32), (Str.ofString "_law_polynomial", .fn 33), (Str.ofString "_law_rows", .fn 34), (Str.ofString "_law_number", .fn 35), (Str.ofString "_law_det", .fn 36), (Str.ofString "law", .fn 37), (Str.ofString "NOUGHT", .ptr 0), (Str.ofString "UNIT", .ptr 2)]
noncomputable def ntT : List (List (Str × Nat)) := [[(Str.ofString "a", 0), (Str.ofString "end", 1)],
  [(Str.ofString "number", 0), (Str.ofString "w", 1), (Str.ofString "found", 2), (Str.ofString "mask", 3)],
  [(Str.ofString "a", 0), (Str.ofString "b", 1), (Str.ofString "at", 2)],
  [(Str.ofString "a", 0), (Str.ofString "b", 1), (Str.ofString "w", 2), (Str.ofString "found", 3), (Str.ofString "carry", 4), (Str.ofString "mask", 5), (Str.ofString "at", 6)],
  [(Str.ofString "a", 0), (Str.ofString "b", 1), (Str.ofString "w", 2), (Str.ofString "found", 3), (Str.ofString "borrow", 4), (Str.ofString "base", 5), (Str.ofString "at", 6), (Str.ofString "limb", 7)],
  [(Str.ofString "a", 0), (Str.ofString "limb", 1), (Str.ofString "w", 2), (Str.ofString "found", 3), (Str.ofString "rest", 4), (Str.ofString "at", 5)],
  [(Str.ofString "a", 0), (Str.ofString "n", 1), (Str.ofString "w", 2), (Str.ofString "spots", 3), (Str.ofString "few", 4), (Str.ofString "found", 5), (Str.ofString "carry", 6), (Str.ofString "mask", 7), (Str.ofString "one", 8)],
  [(Str.ofString "a", 0), (Str.ofString "n", 1), (Str.ofString "w", 2), (Str.ofString "spots", 3), (Str.ofString "few", 4), (Str.ofString "found", 5), (Str.ofString "mask", 6), (Str.ofString "at", 7), (Str.ofString "above", 8)],
  [(Str.ofString "a", 0), (Str.ofString "w", 1)],
  [(Str.ofString "is_below", 0), (Str.ofString "nat", 1)],
  [(Str.ofString "number", 0), (Str.ofString "w", 1)],
  [(Str.ofString "x", 0)],
  [(Str.ofString "x", 0)],
  [(Str.ofString "x", 0), (Str.ofString "y", 1), (Str.ofString "w", 2)],
  [(Str.ofString "x", 0), (Str.ofString "y", 1), (Str.ofString "w", 2)],
  [(Str.ofString "x", 0), (Str.ofString "y", 1), (Str.ofString "w", 2), (Str.ofString "mul", 3)],
  [(Str.ofString "x", 0), (Str.ofString "y", 1), (Str.ofString "w", 2), (Str.ofString "divrem", 3), (Str.ofString "quotient", 4), (Str.ofString "rest", 5)],
  [(Str.ofString "rows", 0), (Str.ofString "w", 1)],
  [(Str.ofString "x", 0), (Str.ofString "y", 1), (Str.ofString "w", 2), (Str.ofString "divrem", 3), (Str.ofString "found", 4), (Str.ofString "rest", 5)],
  [(Str.ofString "rows", 0), (Str.ofString "top", 1), (Str.ofString "column", 2), (Str.ofString "at", 3)],
  [(Str.ofString "row", 0), (Str.ofString "head", 1), (Str.ofString "column", 2), (Str.ofString "before", 3), (Str.ofString "w", 4), (Str.ofString "mul", 5), (Str.ofString "divrem", 6), (Str.ofString "pivot", 7), (Str.ofString "own", 8), (Str.ofString "found", 9), (Str.ofString "at", 10), (Str.ofString "value", 11), (Str.ofString "here", 12)],
  [(Str.ofString "a", 0), (Str.ofString "columns", 1), (Str.ofString "w", 2), (Str.ofString "mul", 3), (Str.ofString "divrem", 4), (Str.ofString "rows", 5), (Str.ofString "places", 6), (Str.ofString "is_odd", 7), (Str.ofString "before", 8), (Str.ofString "column", 9), (Str.ofString "top", 10), (Str.ofString "spot", 11), (Str.ofString "at", 12)],
  [(Str.ofString "a", 0), (Str.ofString "w", 1), (Str.ofString "mul", 2), (Str.ofString "divrem", 3)],
  [(Str.ofString "a", 0), (Str.ofString "w", 1), (Str.ofString "mul", 2), (Str.ofString "divrem", 3), (Str.ofString "rows", 4), (Str.ofString "places", 5), (Str.ofString "is_odd", 6), (Str.ofString "last", 7)],
  [(Str.ofString "a", 0), (Str.ofString "b", 1), (Str.ofString "w", 2), (Str.ofString "found", 3), (Str.ofString "mask", 4), (Str.ofString "at", 5), (Str.ofString "limb", 6), (Str.ofString "carry", 7), (Str.ofString "spot", 8), (Str.ofString "other", 9)],
  [(Str.ofString "a", 0), (Str.ofString "b", 1), (Str.ofString "w", 2), (Str.ofString "quotient", 3), (Str.ofString "rest", 4)],
  [(Str.ofString "top", 0), (Str.ofString "first", 1), (Str.ofString "second", 2), (Str.ofString "w", 3), (Str.ofString "high", 4), (Str.ofString "base", 5), (Str.ofString "limb", 6), (Str.ofString "rest", 7)],
  [(Str.ofString "rest", 0), (Str.ofString "b", 1), (Str.ofString "limb", 2), (Str.ofString "at", 3), (Str.ofString "w", 4), (Str.ofString "carry", 5), (Str.ofString "base", 6), (Str.ofString "spot", 7), (Str.ofString "other", 8), (Str.ofString "here", 9)],
  [(Str.ofString "rest", 0), (Str.ofString "b", 1), (Str.ofString "at", 2), (Str.ofString "w", 3), (Str.ofString "carry", 4), (Str.ofString "mask", 5), (Str.ofString "spot", 6), (Str.ofString "other", 7)],
  [(Str.ofString "rest", 0), (Str.ofString "b", 1), (Str.ofString "w", 2), (Str.ofString "size", 3), (Str.ofString "quotient", 4), (Str.ofString "at", 5), (Str.ofString "limb", 6)],
  [(Str.ofString "a", 0), (Str.ofString "b", 1), (Str.ofString "w", 2), (Str.ofString "shift", 3), (Str.ofString "divisor", 4), (Str.ofString "rest", 5), (Str.ofString "quotient", 6)],
  [(Str.ofString "soil", 0), (Str.ofString "many", 1)],
  [(Str.ofString "number", 0), (Str.ofString "w", 1), (Str.ofString "found", 2)],
  [(Str.ofString "roots", 0), (Str.ofString "found", 1), (Str.ofString "root", 2), (Str.ofString "above", 3), (Str.ofString "below", 4)],
  [(Str.ofString "one", 0), (Str.ofString "other", 1), (Str.ofString "size", 2), (Str.ofString "rows", 3), (Str.ofString "at", 4)],
  [(Str.ofString "number", 0), (Str.ofString "w", 1)],
  [(Str.ofString "one", 0), (Str.ofString "other", 1), (Str.ofString "w", 2)],
  [(Str.ofString "script", 0), (Str.ofString "soil", 1), (Str.ofString "w", 2), (Str.ofString "degrees", 3), (Str.ofString "roots", 4), (Str.ofString "others", 5), (Str.ofString "one", 6), (Str.ofString "other", 7), (Str.ofString "due", 8), (Str.ofString "among", 9), (Str.ofString "both", 10), (Str.ofString "shared", 11), (Str.ofString "root", 12), (Str.ofString "beside", 13), (Str.ofString "at", 14), (Str.ofString "slope", 15)]]
noncomputable def csT : List (List (Str × Nat)) := [[], [], [], [], [], [], [], [], [], [], [], [], [], [], [], [], [], [(Str.ofString "row", 2), (Str.ofString "one", 3)], [], [], [], [(Str.ofString "row", 13)], [], [], [], [], [], [], [], [], [], [], [], [(Str.ofString "at", 5)], [], [], [], [(Str.ofString "seed", 16), (Str.ofString "turn", 17), (Str.ofString "at", 18)]]
end Mine
end

section
open PySem PySem.W PySem.Calls PyProof.Rows
namespace Mine

noncomputable def VarAt (L : Addr) (env : Env) (m : Str → Option Value) (exs : List (Addr × Obj)) (k : NameKind) (y : Str) (v : Value) : Prop := match k with
  | .local => (env.locals = L ∧ m y = some v) ∨ ∃ o es ep, (env.locals, o) ∈ exs ∧ o.data = .dict es ep ∧ StrKeys es ∧ nsFind es y = some v
  | .cell | .free => ∃ c o, env.cells.lookup y = some c ∧ (c, o) ∈ exs ∧ o.data = .cell (some v)
  | _ => True

noncomputable def EOK (fa : Nat → Addr) (L : Addr) (env : Env) (nt : List (Str × Nat)) (ρ : List AV) (μ : List Addr) (m : Str → Option Value) (exs : List (Addr × Obj)) : Prop :=
  ∀ y i v, nt.lookup y = some i → ρ[i]? = some v → okv v = some v → ∀ k, env.scope.names.lookup y = some k → (k = .local ∨ k = .cell ∨ k = .free) → ∃ val, RV fa μ v val ∧ VarAt L env m exs k y val

theorem EOK.mono {fa : Nat → Addr} {L : Addr} {env : Env} {nt : List (Str × Nat)} {ρ : List AV} {μ μ' : List Addr} {m : Str → Option Value} {exs : List (Addr × Obj)} (p : μ <+: μ') (h : EOK fa L env nt ρ μ m exs) :
    EOK fa L env nt ρ μ' m exs := fun y i v a b c k d e => let ⟨val, r, z⟩ := h y i v a b c k d e; ⟨val, r.mono p, z⟩

structure Cx (K : Frag) (p : Program) (loose : List Str) (mean : ExcName → Option Value) (mg mb : Str → Option Value) (A : Around) (env : Env) (h₀ : Heap) (L : Addr) (d : Nat) : Prop where
  hh : A.handled = .none
  room : A.depth + d < recursionLimit
  units : A.units + 3 * d + 70 < cLine
  kf : env.scope.kind = .function
  gl : env.globals = mainGlobals
  bl : env.builtins = builtinsNs
  KI : K.In h₀
  T : Top p loose mean mg mb h₀
  cells : ∀ y k, env.scope.names.lookup y = some k → (k = .cell ∨ k = .free) → ∃ c, env.cells.lookup y = some c
  below : ∃ A₀ base outer fenv, Below A₀ base outer h₀ ∧ A.frames = some (fenv :: outer) ∧ fenv.frame = some L ∧ fenv.scope.kind = .function

structure Gl (K : Frag) (fa : Nat → Addr) (g0 : List Addr) (gl : List (Str × AV)) : Prop where
  glob : ∀ x av, gl.lookup x = some av → ∃ a, nsIn K mainGlobals x = some (some (.ref a)) ∧ RV fa g0 av (.ref a)
  bi : ∀ x ∈ ([Str.ofString "len", Str.ofString "abs", Str.ofString "min", Str.ofString "int", Str.ofString "range", Str.ofString "enumerate"] : List Str), nsIn K mainGlobals x = some .none

structure CallOK (prog : Program) (w : World) (K : Frag) (p : Program) (loose : List Str) (mean : ExcName → Option Value) (mg mb : Str → Option Value) (fa : Nat → Addr) (g0 : List Addr)
    (call : Nat → List AV → AH → Option (AV × AH)) (d : Nat) : Prop where
  keep : ∀ f args H r, call f args H = some r → keepIn K (.ref (fa f)) = true
  ok : ∀ f args H v H', call f args H = some (v, H') → ∀ A env h₀ L m μ exs (s : Shared) vals Q E, Cx K p loose mean mg mb A env h₀ L d → SR fa g0 h₀ L s.heap m μ H exs → RVs fa μ args vals →
    Ok fa g0 h₀ L m μ exs s v H' Q → wpAny (model prog w) A (PySem.call (.ref (fa f)) vals) Q E s

section
variable {prog : Program} {w : World} {K : Frag} {p : Program} {loose : List Str} {mean : ExcName → Option Value} {mg mb : Str → Option Value} {A : Around} {E : Value → Shared → Prop} {s : Shared} {env : Env}
  {fa : Nat → Addr} {g0 : List Addr} {gl : List (Str × AV)} {h₀ : Heap} {L : Addr} {m : Str → Option Value} {μ μ' : List Addr} {H H' : AH} {exs : List (Addr × Obj)} {v : AV} {Q : Value → Shared → Prop} {d : Nat}
  {nt : List (Str × Nat)} {ρ : List AV}

theorem name_ok {x : Str} {pos : Pos} {e' : Ex} {call : Nat → List AV → AH → Option (AV × AH)} (C : Cx K p loose mean mg mb A env h₀ L d) (G : Gl K fa g0 gl) (S : SR fa g0 h₀ L s.heap m μ H exs) (hE : EOK fa L env nt ρ μ m exs)
    (ht : trName gl env.scope.names nt x = some e') (he : ev call e' ρ H = some (v, H')) (Kk : Ok fa g0 h₀ L m μ exs s v H' Q) : wpAny (model prog w) A (eval (.Name x pos) env) Q E s := by
  unfold trName at ht
  split at ht
  · cases ht
  rename_i hx
  have hx1 : (x == Str.ofString "__debug__") = false := by
    rw [beq_eq_false_iff_ne]; exact fun q => hx (.inl q)
  have hx2 : (x == Str.ofString "__classdict__") = false := by
    rw [beq_eq_false_iff_ne]; exact fun q => hx (.inr q)
  have loc : ∀ k, env.scope.names.lookup x = some k → (k = .local ∨ k = .cell ∨ k = .free) → (nt.lookup x).map Ex.loc = some e' → ∃ val, H' = H ∧ RV fa μ v val ∧ VarAt L env m exs k x val := fun k hk hk2 ht => by
    obtain ⟨i, hi, rfl⟩ := Option.map_eq_some_iff.mp ht
    obtain ⟨v0, h1, h2⟩ := Option.bind_eq_some_iff.mp he
    obtain ⟨v1, h3, h4⟩ := Option.map_eq_some_iff.mp h2
    cases h4
    have h5 : v0 = v := by
      cases v0 <;> simp [okv] at h3 <;> exact h3
    subst h5
    obtain ⟨val, r, z⟩ := hE x i v0 hi h1 h3 k hk hk2
    exact ⟨val, rfl, r, z⟩
  split at ht
  · rename_i hk
    obtain ⟨av, hav, rfl⟩ := Option.map_eq_some_iff.mp ht
    cases he
    obtain ⟨a, ha, r⟩ := G.glob x v hav
    refine Name_function_global C.kf hk (loadGlobal_global (mg := mg) ?_ (mg_of C.KI C.T.g ha) (Kk.here S (r.mono S.pre))) hx1
    rw [C.gl]; exact C.T.g.keeps S.F.keep
  · rename_i hk
    obtain ⟨val, rfl, r, z⟩ := loc _ hk (.inl rfl) ht
    rcases z with ⟨z1, z2⟩ | ⟨o, es, ep, z1, z2, z3, z4⟩
    · exact wpAny_Name (wpAny_loadName_local C.kf hk (z1 ▸ S.F.ns) z2 (Kk.here S r)) hx1
    · have hn : s.heap.Ns env.locals (nsFind es) := ⟨o, es, ep, (S.exN _ z1).1, z2, z3, fun _ => rfl⟩
      exact wpAny_Name (wpAny_loadName_local C.kf hk hn z4 (Kk.here S r)) hx1
  · rename_i hk
    obtain ⟨val, rfl, r, c, o, z1, z2, z3⟩ := loc _ hk (.inr (.inl rfl)) ht
    exact wpAny_Name (wpAny_loadName_cell C.kf hk z1 ⟨o, (S.exN _ z2).1, z3⟩ (Kk.here S r)) hx1
  · rename_i hk
    obtain ⟨val, rfl, r, c, o, z1, z2, z3⟩ := loc _ hk (.inr (.inr rfl)) ht
    exact wpAny_Name (wpAny_loadName_free C.kf hk z1 ⟨o, (S.exN _ z2).1, z3⟩ (Kk.here S r) hx2) hx1
  · cases ht

theorem builtin_name {x : Str} {pos : Pos} {n : String} {u : Value} (C : Cx K p loose mean mg mb A env h₀ L d) (G : Gl K fa g0 gl) (S : SR fa g0 h₀ L s.heap m μ H exs)
    (hb : isB env.scope.names x n = true) (hm : Str.ofString n ∈ ([Str.ofString "len", Str.ofString "abs", Str.ofString "min", Str.ofString "int", Str.ofString "range", Str.ofString "enumerate"] : List Str))
    (hu : bootBuiltins (Str.ofString n) = some u) (hn1 : (Str.ofString n == Str.ofString "__debug__") = false) (hn2 : Str.ofString n ≠ "__name__") (h : Q u s) : wpAny (model prog w) A (eval (.Name x pos) env) Q E s := by
  unfold isB at hb
  obtain ⟨h1, h2⟩ := Bool.and_eq_true_iff.mp hb
  have hx : x = Str.ofString n := beq_iff_eq.mp h1
  have hk : env.kindOf x = some .globalImplicit := beq_iff_eq.mp h2
  subst hx
  refine Name_function_global C.kf hk (loadGlobal_builtin (mg := mg) (mb := mb) ?_ (mg_none_of C.KI C.T.g (G.bi _ hm)) ?_ ((C.T.builtins _ hn2).trans hu) h) hn1
  · rw [C.gl]; exact C.T.g.keeps S.F.keep
  · rw [C.bl]; exact C.T.b.keeps S.F.keep
end
end Mine
end

section
open PySem PySem.W PySem.Calls PyProof.Rows
namespace Mine
section
variable (prog : Program) (w : World) (K : Frag) (p : Program) (loose : List Str) (mean : ExcName → Option Value) (mg mb : Str → Option Value) (fa : Nat → Addr) (g0 : List Addr) (gl : List (Str × AV)) (cs : List (Str × Nat))
  (call : Nat → List AV → AH → Option (AV × AH)) (d : Nat)

noncomputable def EvOK (n : Nat) : Prop := ∀ (e : PySem.Expr) (e' : Ex) (nt : List (Str × Nat)) (env : Env), trE gl cs n env.scope.names nt e = some e' → ∀ ρ H v H', ev call e' ρ H = some (v, H') →
  ∀ A h₀ L m μ exs (s : Shared) Q E, Cx K p loose mean mg mb A env h₀ L d → SR fa g0 h₀ L s.heap m μ H exs → EOK fa L env nt ρ μ m exs → Ok fa g0 h₀ L m μ exs s v H' Q → wpAny (model prog w) A (eval e env) Q E s
noncomputable def TstOK (n : Nat) : Prop := ∀ (e : PySem.Expr) (e' : Ex) (nt : List (Str × Nat)) (env : Env), testok e = true → trE gl cs n env.scope.names nt e = some e' → ∀ ρ H v H' b, ev call e' ρ H = some (v, H') → truth v = some b →
  ∀ A h₀ L m μ exs (s : Shared) Q E, Cx K p loose mean mg mb A env h₀ L d → SR fa g0 h₀ L s.heap m μ H exs → EOK fa L env nt ρ μ m exs →
    (∀ h' tk μ', SR fa g0 h₀ L h' m μ' H' exs → μ <+: μ' → Q b { s with heap := h', toks := tk }) → wpAny (model prog w) A (isTrue e env (eval e env)) Q E s
noncomputable def EvsOK (n : Nat) : Prop := ∀ (es : List PySem.Expr) (es' : Ex) (nt : List (Str × Nat)) (env : Env) (pos : Pos), trL (trE gl cs n env.scope.names nt) es = some es' → ∀ ρ H vs H', evs call es' ρ H = some (vs, H') →
  ∀ A h₀ L m μ exs (s : Shared) Q E, Cx K p loose mean mg mb A env h₀ L d → SR fa g0 h₀ L s.heap m μ H exs → EOK fa L env nt ρ μ m exs →
    (∀ h' tk μ' vals, SR fa g0 h₀ L h' m μ' H' exs → μ <+: μ' → RVs fa μ' vs vals → Q vals { s with heap := h', toks := tk }) → wpAny (model prog w) A (spliced (backTo pos (starEach es env))) Q E s
end

theorem star_ne {gl : List (Str × AV)} {cs : List (Str × Nat)} {n : Nat} {kd : List (Str × NameKind)} {nt : List (Str × Nat)} {e : PySem.Expr} {e' : Ex} (h : trE gl cs n kd nt e = some e') (rest : List PySem.Expr) (env : Env) :
    starEach (e :: rest) env = (false, eval e env) :: starEach rest env := by
  have hs := trE_supp h
  clear h
  cases e <;> first | rfl | exact nomatch (show false = true from hs)

theorem stars_plain {gl : List (Str × AV)} {cs : List (Str × Nat)} {n : Nat} {kd : List (Str × NameKind)} {nt : List (Str × Nat)} (env : Env) (pos : Pos) : ∀ {es : List PySem.Expr} {es' : Ex}, trL (trE gl cs n kd nt) es = some es' →
    (backTo pos (starEach es env)).any (·.1) = false
  | [], _, _ => rfl
  | e :: r, es', h => by
    obtain ⟨e', h1, h2⟩ := Option.bind_eq_some_iff.mp h
    obtain ⟨r', h3, rfl⟩ := Option.map_eq_some_iff.mp h2
    rw [star_ne h1]
    show (false || (backTo pos (starEach r env)).any (·.1)) = false
    rw [stars_plain env pos h3]; rfl

section
variable {prog : Program} {w : World} {K : Frag} {p : Program} {loose : List Str} {mean : ExcName → Option Value} {mg mb : Str → Option Value} {fa : Nat → Addr} {g0 : List Addr} {gl : List (Str × AV)} {cs : List (Str × Nat)}
  {call : Nat → List AV → AH → Option (AV × AH)} {d : Nat}

theorem evs_of {n : Nat} (h : EvOK prog w K p loose mean mg mb fa g0 gl cs call d n) : EvsOK prog w K p loose mean mg mb fa g0 gl cs call d n := by
  intro es
  induction es with
  | nil =>
    intro es' nt env pos ht ρ H vs H' he A h₀ L m μ exs s Q E C S hE k
    cases ht
    cases he
    exact args_nil (k s.heap s.toks μ [] S (List.prefix_refl _) trivial)
  | cons e r ih =>
    intro es' nt env pos ht ρ H vs H' he A h₀ L m μ exs s Q E C S hE k
    obtain ⟨e', h1, h2⟩ := Option.bind_eq_some_iff.mp ht
    obtain ⟨r', h3, rfl⟩ := Option.map_eq_some_iff.mp h2
    obtain ⟨⟨v1, H1⟩, h4, h5⟩ := Option.bind_eq_some_iff.mp he
    obtain ⟨⟨v2, H2⟩, h6, h7⟩ := Option.bind_eq_some_iff.mp h5
    cases h7
    refine args_cons (h e e' nt env h1 ρ H v1 H1 h4 A h₀ L m μ exs s _ E C S hE fun h' tk μ' val S' p' rv => ?_) (star_ne h1 r env)
    refine ih r' nt env pos h3 ρ H1 v2 H2 h6 A h₀ L m μ' exs _ _ E C S' (hE.mono p') fun h'' tk' μ'' vals S'' p'' rvs => ?_
    exact k h'' tk' μ'' (val :: vals) S'' (p'.trans p'') ⟨rv.mono p'', rvs⟩

theorem truthy_ok {A : Around} {E : Value → Shared → Prop} {s : Shared} {μ : List Addr} {v : AV} {va : Value} {b : Bool} {Q : Bool → Shared → Prop} (r : RV fa μ v va) (e : truth v = some b) (h : Q b s) :
    wpAny (model prog w) A (truthy va) Q E s := by
  cases v <;> simp only [truth] at e <;> cases e
  · cases r; exact wpAny_truthy_bool h
  · obtain ⟨t, rfl⟩ := r; exact P.truthy_int h

theorem RVs.nil_inv {fa : Nat → Addr} {μ : List Addr} : ∀ {vs : List Value}, RVs fa μ [] vs → vs = []
  | [], _ => rfl
  | _ :: _, h => h.elim
theorem RVs.cons_inv {fa : Nat → Addr} {μ : List Addr} {x : AV} {xs : List AV} : ∀ {vs : List Value}, RVs fa μ (x :: xs) vs → ∃ v ws, vs = v :: ws ∧ RV fa μ x v ∧ RVs fa μ xs ws
  | v :: ws, h => ⟨v, ws, rfl, h⟩
  | [], h => h.elim
theorem RVs.one_int {fa : Nat → Addr} {μ : List Addr} {i : Int} {vs : List Value} (h : RVs fa μ [.int i] vs) : ∃ t, vs = [.int i t] := by
  obtain ⟨v, ws, e, ⟨t, e2⟩, h2⟩ := h.cons_inv
  rw [e, e2, h2.nil_inv]; exact ⟨t, rfl⟩
theorem RVs.two_int {fa : Nat → Addr} {μ : List Addr} {i j : Int} {vs : List Value} (h : RVs fa μ [.int i, .int j] vs) : ∃ t u, vs = [.int i t, .int j u] := by
  obtain ⟨v, ws, e, ⟨t, e2⟩, h2⟩ := h.cons_inv
  obtain ⟨u, e3⟩ := h2.one_int
  exact ⟨t, u, by rw [e, e2, e3]⟩
theorem RVs.three_int {fa : Nat → Addr} {μ : List Addr} {i j k : Int} {vs : List Value} (h : RVs fa μ [.int i, .int j, .int k] vs) : ∃ t u v, vs = [.int i t, .int j u, .int k v] := by
  obtain ⟨v, ws, e, ⟨t, e2⟩, h2⟩ := h.cons_inv
  obtain ⟨u, v, e3⟩ := h2.two_int
  exact ⟨t, u, v, by rw [e, e2, e3]⟩

theorem range_ok {A : Around} {E : Value → Shared → Prop} {s : Shared} {h₀ : Heap} {L : Addr} {m : Str → Option Value} {μ : List Addr} {H : AH} {exs : List (Addr × Obj)} {vs : List AV} {vals : List Value} {i st : Int} {k : Nat} {Q : Value → Shared → Prop}
    (S : SR fa g0 h₀ L s.heap m μ H exs) (r : RVs fa μ vs vals) (e : rangeOf vs = some (i, st, k))
    (h : ∀ a h' tk, h'.objs.size = s.heap.objs.size + 1 → (∀ b o, s.heap.get? b = some o → h'.get? b = some o) → (∃ x y z t u t', IsRange h' a x y z t u t' ∧ Builtin.Range.small x y z = true ∧ x = i ∧ z = st ∧ Builtin.Range.rangeSize x y z = (k : Int)) → Q (.ref a) { s with heap := h', toks := tk }) :
    wpAny (model prog w) A (PySem.call (.type "range") vals) Q E s := by
  have hcap : (cap : Int) = 100000 := by decide
  unfold rangeOf at e
  split at e
  · rename_i hi
    obtain ⟨t, rfl⟩ := r.one_int
    obtain ⟨hb, e⟩ := some_if e
    cases e
    refine call_range_1 (h _ _ _ (by rw [Heap.size_push]) (fun b o e => Heap.get?_push_of_some _ e) ⟨0, hi, 1, _, _, _, IsRange.new .., small_one (by decide) (by decide) (by lia) (by lia), rfl, rfl, ?_⟩)
    rw [rangeSize_one]; split <;> lia
  · rename_i lo hi
    obtain ⟨t, u, rfl⟩ := r.two_int
    obtain ⟨hb, e⟩ := some_if e
    cases e
    refine call_range_2 (h _ _ _ (by rw [Heap.size_push]) (fun b o e => Heap.get?_push_of_some _ e) ⟨i, hi, 1, _, _, _, IsRange.new .., small_one (by lia) (by lia) (by lia) (by lia), rfl, rfl, ?_⟩)
    rw [rangeSize_one]; split <;> lia
  · rename_i lo hi sp
    obtain ⟨t, u, u', rfl⟩ := r.three_int
    obtain ⟨hb0, e2⟩ := some_if e
    obtain ⟨rfl, hb⟩ := hb0
    cases e2
    refine call_range_3 (by decide) (h _ _ _ (by rw [Heap.size_push]) (fun b o e => Heap.get?_push_of_some _ e) ⟨i, hi, -1, _, _, _, IsRange.new .., ?_, rfl, rfl, ?_⟩) (.inl (PyProof.noPylong_small (by decide)))
    · unfold Builtin.Range.small
      rw [rangeSize_down]
      have hf : ((-1 : Int) > 0) = False := eq_false (by decide)
      simp only [Builtin.Range.rangeFitsLong, hf, if_false, Bool.and_eq_true, Bool.or_eq_true, decide_eq_true_eq, beq_iff_eq]
      split <;> lia
    · rw [rangeSize_down]; split <;> lia
  · cases e
end
end Mine
end

section
open PySem PySem.W PySem.Calls PyProof.Rows
namespace Mine
section
variable {prog : Program} {w : World} {K : Frag} {p : Program} {loose : List Str} {mean : ExcName → Option Value} {mg mb : Str → Option Value} {fa : Nat → Addr} {g0 : List Addr} {gl : List (Str × AV)} {cs : List (Str × Nat)}
  {call : Nat → List AV → AH → Option (AV × AH)} {d : Nat}

theorem cop_eq {op : CmpOp} {o : Cop} (h : trCop op = some o) : op = copR o := by
  cases op <;> cases h <;> rfl
theorem bop_eq {op : Operator} {o : Bop} (h : trBop op = some o) : op = bopR o := by
  cases op <;> cases h <;> rfl

theorem some_pair {α β : Type} {a c : α} {b d : β} (h : some (a, b) = some (c, d)) : a = c ∧ b = d := Prod.mk.inj (Option.some.inj h)
theorem pair_inj {α β : Type} {a c : α} {b d : β} (h : (a, b) = (c, d)) : a = c ∧ b = d := Prod.mk.inj h

theorem cmp_core {n : Nat} (E0 : EvOK prog w K p loose mean mg mb fa g0 gl cs call d n) {op : CmpOp} {l r : PySem.Expr} {e' : Ex} {nt : List (Str × Nat)} {env : Env}
    (ht : trCmp1 (trE gl cs n env.scope.names nt) l op r = some e')
    {ρ : List AV} {H H' : AH} {v : AV} (he : ev call e' ρ H = some (v, H')) {A : Around} {h₀ : Heap} {L : Addr} {m : Str → Option Value} {μ : List Addr} {exs : List (Addr × Obj)} {s : Shared} {E : Value → Shared → Prop}
    (C : Cx K p loose mean mg mb A env h₀ L d) (S : SR fa g0 h₀ L s.heap m μ H exs) (hE : EOK fa L env nt ρ μ m exs) :
    ∃ c, v = .bool c ∧ ∀ Qc : Value → Shared → Prop, (∀ h' tk μ', SR fa g0 h₀ L h' m μ' H' exs → μ <+: μ' → Qc (.bool c) { s with heap := h', toks := tk }) →
      wpAny (model prog w) A (eval l env) (fun a s₁ => wpAny (model prog w) A (eval r env) (fun b s₂ => wpAny (model prog w) A (compareOp op a b) Qc E s₂) E s₁) E s := by
  unfold trCmp1 at ht
  split at ht
  · rename_i hop
    subst hop
    obtain ⟨l', hl, ht⟩ := Option.bind_eq_some_iff.mp ht
    obtain ⟨r', hr, rfl⟩ := Option.map_eq_some_iff.mp ht
    obtain ⟨⟨v1, H1⟩, h1, h2⟩ := Option.bind_eq_some_iff.mp he
    obtain ⟨⟨v2, H2⟩, h3, h4⟩ := Option.bind_eq_some_iff.mp h2
    split at h4
    · rename_i i q e1 e2
      simp only at e1 e2
      subst e1; subst e2
      obtain ⟨xs, hx, h5⟩ := Option.bind_eq_some_iff.mp h4
      obtain ⟨ns, hns, h6⟩ := Option.map_eq_some_iff.mp h5
      obtain ⟨rfl, rfl⟩ := pair_inj h6
      refine ⟨_, rfl, fun Qc k => ?_⟩
      refine E0 l l' nt env hl ρ H _ H1 h1 A h₀ L m μ exs s _ E C S hE fun h' tk μ' val S' p' rv => ?_
      refine E0 r r' nt env hr ρ H1 _ H2 h3 A h₀ L m μ' exs _ _ E C S' (hE.mono p') fun h'' tk' μ'' val' S'' p'' rv' => ?_
      obtain ⟨t, rfl⟩ := rv
      obtain ⟨al, ha, rfl⟩ := rv'
      obtain ⟨vs, kk, o, ho, hc, hd, rr⟩ := S''.list? hx ha
      exact in_list_ints ⟨o, ho, hc, kk, hd⟩ (rr.ints hns) (k h'' tk' μ'' S'' (p'.trans p''))
    · cases h4
  · obtain ⟨o, ho, ht⟩ := Option.bind_eq_some_iff.mp ht
    obtain ⟨l', hl, ht⟩ := Option.bind_eq_some_iff.mp ht
    obtain ⟨r', hr, rfl⟩ := Option.map_eq_some_iff.mp ht
    obtain ⟨⟨v1, H1⟩, h1, h2⟩ := Option.bind_eq_some_iff.mp he
    obtain ⟨⟨v2, H2⟩, h3, h4⟩ := Option.bind_eq_some_iff.mp h2
    obtain ⟨c, hc, h5⟩ := Option.map_eq_some_iff.mp h4
    obtain ⟨rfl, rfl⟩ := pair_inj h5
    refine ⟨c, rfl, fun Qc k => ?_⟩
    refine E0 l l' nt env hl ρ H v1 H1 h1 A h₀ L m μ exs s _ E C S hE fun h' tk μ' val S' p' rv => ?_
    refine E0 r r' nt env hr ρ H1 v2 _ h3 A h₀ L m μ' exs _ _ E C S' (hE.mono p') fun h'' tk' μ'' val' S'' p'' rv' => ?_
    rw [cop_eq ho]
    exact cmpop_ok (by have := C.units; omega) S'' (rv.mono p'') rv' hc (k h'' tk' μ'' S'' (p'.trans p''))

theorem tst_of {n : Nat} (E1 : EvOK prog w K p loose mean mg mb fa g0 gl cs call d (n + 1)) (T0 : TstOK prog w K p loose mean mg mb fa g0 gl cs call d n) (E0 : EvOK prog w K p loose mean mg mb fa g0 gl cs call d n) :
    TstOK prog w K p loose mean mg mb fa g0 gl cs call d (n + 1) := by
  intro e e' nt env htk ht ρ H v H' b he hb A h₀ L m μ exs s Q E C S hE k
  have plain : isTrue e env (eval e env) = (do let v ← eval e env; standAt e.pos; holding [v] (truthy v)) → wpAny (model prog w) A (isTrue e env (eval e env)) Q E s := fun h =>
    wpAny_isTrue_value (E1 e e' nt env ht ρ H v H' he A h₀ L m μ exs s _ E C S hE fun h' tk μ' val S' p' rv => truthy_ok rv hb (k h' tk μ' S' p')) h
  cases e with
  | UnaryOp op x pos =>
    cases op with
    | Not =>
      obtain ⟨x', hx, rfl⟩ := Option.map_eq_some_iff.mp ht
      obtain ⟨⟨vx, Hx⟩, h1, h2⟩ := Option.bind_eq_some_iff.mp he
      obtain ⟨bx, h3, h4⟩ := Option.map_eq_some_iff.mp h2
      obtain ⟨rfl, rfl⟩ := pair_inj h4
      cases hb
      exact wpAny_isTrue_Not (T0 x x' nt env htk hx ρ H vx _ bx h1 h3 A h₀ L m μ exs s _ E C S hE k)
    | _ => exact plain rfl
  | BoolOp op vs pos =>
    cases op with
    | Or => cases htk
    | And =>
      obtain ⟨⟨x, y⟩, hz, ht2⟩ := Option.bind_eq_some_iff.mp ht
      obtain ⟨x', hx, ht3⟩ := Option.bind_eq_some_iff.mp ht2
      obtain ⟨y', hy, rfl⟩ := Option.map_eq_some_iff.mp ht3
      obtain rfl := two_eq hz
      obtain ⟨⟨vx, Hx⟩, h1, h2⟩ := Option.bind_eq_some_iff.mp he
      obtain ⟨bx, h3, h4⟩ := Option.bind_eq_some_iff.mp h2
      have htx : testok x = true ∧ testok y = true := Bool.and_eq_true_iff.mp htk
      refine wpAny_isTrue_BoolOp (wpAny_allTrue_And_cons (T0 x x' nt env htx.1 hx ρ H vx Hx bx h1 h3 A h₀ L m μ exs s _ E C S hE fun h' tk μ' S' p' => ?_))
      cases bx with
      | false =>
        obtain ⟨rfl, rfl⟩ := some_pair h4
        obtain rfl := Option.some.inj (h3.symm.trans hb)
        exact k h' tk μ' S' p'
      | true =>
        refine wpAny_allTrue_And_cons (T0 y y' nt env htx.2 hy ρ Hx v H' b h4 hb A h₀ L m μ' exs _ _ E C S' (hE.mono p') fun h'' tk' μ'' S'' p'' => ?_)
        cases b
        · exact k h'' tk' μ'' S'' (p'.trans p'')
        · exact wpAny_allTrue_And_nil (k h'' tk' μ'' S'' (p'.trans p''))
  | IfExp t x y pos => cases htk
  | Compare l ops rs pos =>
    obtain ⟨op, ho, ht2⟩ := Option.bind_eq_some_iff.mp ht
    obtain ⟨r, hr, ht3⟩ := Option.bind_eq_some_iff.mp ht2
    obtain ⟨hbm, ht4⟩ := none_if ht3
    obtain rfl := one_eq ho
    obtain rfl := one_eq hr
    -- the comparison's value, then its truth
    obtain ⟨c, rfl, hk⟩ := cmp_core E0 ht4 he (E := E) C S hE
    cases hb
    exact wpAny_isTrue_Compare1 (hk _ fun h' tk μ' S' p' => wpAny_truthy_bool (k h' tk μ' S' p')) (Bool.eq_false_iff.mpr hbm)
  | _ => first | exact plain rfl | exact nomatch (show false = true from trE_supp ht)
end
end Mine
end

section
open PySem PySem.W PySem.Calls PyProof.Rows
namespace Mine
section
variable {prog : Program} {w : World} {K : Frag} {p : Program} {loose : List Str} {mean : ExcName → Option Value} {mg mb : Str → Option Value} {fa : Nat → Addr} {g0 : List Addr} {gl : List (Str × AV)} {cs : List (Str × Nat)}
  {call : Nat → List AV → AH → Option (AV × AH)} {d : Nat}
  {A : Around} {h₀ : Heap} {L : Addr} {m : Str → Option Value} {μ : List Addr} {exs : List (Addr × Obj)} {s : Shared} {E : Value → Shared → Prop} {Q : Value → Shared → Prop} {env : Env} {nt : List (Str × Nat)} {ρ : List AV} {H H' : AH} {v : AV}

theorem base_eq {o : PySem.Expr} (h : plainBase o = true) (name : Str) (env : Env) : attributeBase o name env (eval o env) = eval o env := by
  cases o <;> first | rfl | cases h

theorem few1 {x : PySem.Expr} {env : Env} {pos : Pos} (hx : starEach [x] env = (false, eval x env) :: starEach [] env) : ((backTo pos (starEach [x] env)).all (fun x => !x.1) && (backToKw pos (keywordEach [] env)).all (fun x => x.1.isSome)
      && decide (([x] : List PySem.Expr).length + ([] : List Keyword).length + (if ([] : List Keyword).isEmpty then 0 else 1) < 30)) = true := by rw [hx]; rfl

theorem append_case {n : Nat} (E0 : EvOK prog w K p loose mean mg mb fa g0 gl cs call d n) {o x : PySem.Expr} {o' x' : Ex} {apos pos : Pos} (hb : plainBase o = true) (hl : (apos.endLine == pos.line) = true)
    (ho : trE gl cs n env.scope.names nt o = some o') (hx : trE gl cs n env.scope.names nt x = some x') (he : ev call (.append o' x') ρ H = some (v, H'))
    (C : Cx K p loose mean mg mb A env h₀ L d) (S : SR fa g0 h₀ L s.heap m μ H exs) (hE : EOK fa L env nt ρ μ m exs) (k : Ok fa g0 h₀ L m μ exs s v H' Q) :
    wpAny (model prog w) A (eval (.Call (.Attribute o (Str.ofString "append") apos) [x] [] pos) env) Q E s := by
  obtain ⟨⟨v1, H1⟩, h1, h2⟩ := Option.bind_eq_some_iff.mp he
  cases v1 with
  | ptr q =>
    obtain ⟨xs0, hx0, h3⟩ := Option.bind_eq_some_iff.mp h2
    obtain ⟨⟨v2, H2⟩, h4, h5⟩ := Option.bind_eq_some_iff.mp h3
    obtain ⟨xs, hxs, h6⟩ := Option.bind_eq_some_iff.mp h5
    obtain ⟨hf, h6⟩ := some_if h6
    · obtain ⟨rfl, rfl⟩ := some_pair h6
      refine wpAny_Call_method (base_eq hb _ env) (few1 (star_ne hx [] env)) hl F.plainAttrs_list slot_list_append F.type_list_append ?_
      refine E0 o o' nt env ho ρ H _ H1 h1 A h₀ L m μ exs s _ E C S hE fun h' tk μ' val S' p' rv => ?_
      obtain ⟨al, ha, rfl⟩ := rv
      obtain ⟨vs0, n0, o0, ho0, hc0, hd0, r0⟩ := S'.list? hx0 ha
      refine ⟨⟨o0, ho0, hc0⟩, fun a e => ?_, ?_⟩
      · cases e; exact ⟨o0, ho0, (S'.pln q al o0 hf.1 ha ho0).1⟩
      refine callWith_method1 ?_ (star_ne hx [] env)
      refine args_cons (E0 x x' nt env hx ρ H1 v2 H2 h4 A h₀ L m μ' exs _ _ E C S' (hE.mono p') fun h'' tk' μ'' val' S'' p'' rv' => args_nil ?_) (star_ne hx [] env)
      have ha'' := pre_get p'' ha
      obtain ⟨vs, n1, o1, ho1, hc1, hd1, r1⟩ := S''.list? hxs ha''
      obtain ⟨q1, q2⟩ := S''.pln q al o1 hf.1 ha'' ho1
      have ho1' : h''.get? al = some { cls := .type "list", data := .seq vs.toArray n1 } := by
        rw [ho1]; obtain ⟨c, dd, dt, sl⟩ := o1; simp only at hc1 hd1 q1 q2; subst hc1 hd1 q1 q2; rfl
      have hlen := r1.length
      have := cap_line
      refine append_at (s := { s with heap := h'', toks := tk' }) ho1' (fun h3 hs3 ho3 => ?_) (by simp; omega)
      have S3 := S''.change (ao := .list (xs ++ [v2])) ha'' hf.1 hs3 ho3 ⟨vs ++ [val'], n1 + 1, rfl, by simp, r1.append ⟨rv', trivial⟩⟩ ⟨rfl, rfl⟩
      exact k h3 tk' μ'' .none S3 (p'.trans p'') rfl
  | _ => cases h2

theorem index_case {n : Nat} (E0 : EvOK prog w K p loose mean mg mb fa g0 gl cs call d n) {o x : PySem.Expr} {o' x' : Ex} {apos pos : Pos} (hb : plainBase o = true) (hl : (apos.endLine == pos.line) = true)
    (ho : trE gl cs n env.scope.names nt o = some o') (hx : trE gl cs n env.scope.names nt x = some x') (he : ev call (.index o' x') ρ H = some (v, H'))
    (C : Cx K p loose mean mg mb A env h₀ L d) (S : SR fa g0 h₀ L s.heap m μ H exs) (hE : EOK fa L env nt ρ μ m exs) (k : Ok fa g0 h₀ L m μ exs s v H' Q) :
    wpAny (model prog w) A (eval (.Call (.Attribute o (Str.ofString "index") apos) [x] [] pos) env) Q E s := by
  obtain ⟨⟨v1, H1⟩, h1, h2⟩ := Option.bind_eq_some_iff.mp he
  cases v1 with
  | ptr q =>
    obtain ⟨xs0, hx0, h3⟩ := Option.bind_eq_some_iff.mp h2
    obtain ⟨⟨v2, H2⟩, h4, h5⟩ := Option.bind_eq_some_iff.mp h3
    cases v2 with
    | int i =>
      obtain ⟨xs, hxs, h6⟩ := Option.bind_eq_some_iff.mp h5
      obtain ⟨ns, hns, h7⟩ := Option.bind_eq_some_iff.mp h6
      obtain ⟨hf, h7⟩ := some_if h7
      · obtain ⟨rfl, rfl⟩ := some_pair h7
        refine wpAny_Call_method (base_eq hb _ env) (few1 (star_ne hx [] env)) hl F.plainAttrs_list F.slot_list_index F.type_list_index ?_
        refine E0 o o' nt env ho ρ H _ H1 h1 A h₀ L m μ exs s _ E C S hE fun h' tk μ' val S' p' rv => ?_
        obtain ⟨al, ha, rfl⟩ := rv
        obtain ⟨vs0, n0, o0, ho0, hc0, hd0, r0⟩ := S'.list? hx0 ha
        refine ⟨⟨o0, ho0, hc0⟩, fun a e => ?_, ?_⟩
        · cases e; exact ⟨o0, ho0, (S'.pln q al o0 hf.1 ha ho0).1⟩
        refine callWith_method1 ?_ (star_ne hx [] env)
        refine args_cons (E0 x x' nt env hx ρ H1 _ _ h4 A h₀ L m μ' exs _ _ E C S' (hE.mono p') fun h'' tk' μ'' val' S'' p'' rv' => args_nil ?_) (star_ne hx [] env)
        obtain ⟨t, rfl⟩ := rv'
        have ha'' := pre_get p'' ha
        obtain ⟨vs, n1, o1, ho1, hc1, hd1, r1⟩ := S''.list? hxs ha''
        obtain ⟨q1, q2⟩ := S''.pln q al o1 hf.1 ha'' ho1
        have hi := r1.ints hns
        have hlen := hi.length
        have hj : ns.idxOf i < ns.length := List.idxOf_lt_length_iff.mpr hf.2.1
        have hcap := hf.2.2
        rw [cap_eqS] at hcap
        have ho1' : h''.get? al = some { cls := .type "list", dict := .none, data := .seq vs.toArray n1, slots := #[] } := by
          rw [ho1]; obtain ⟨c, dd, dt, sl⟩ := o1; simp only at hc1 hd1 q1 q2; subst hc1 hd1 q1 q2; rfl
        refine call_meets (s := { s with heap := h'', toks := tk' }) F.slot_list_index ⟨_, ho1', rfl⟩ F.entry_list_index (F.args_list_index_2 _ _)
          (SeqAt.list_indexAt al vs.toArray n1 .none #[] (.int i t) (isInt i) (ns.idxOf i) (by simp; omega) (by omega) ?_ ?_) ⟨ho1', fun y hy => (eq_isInt i t hi y (by simpa using hy)).at _ _, ?_⟩
        · show isInt i vs[ns.idxOf i] = true
          rw [isInt_at i hi _ (by omega) hj]
          simpa using List.getElem_idxOf hj
        · intro j hjs hlt
          show isInt i vs[j] = false
          rw [isInt_at i hi j (by simpa using hjs) (by simp at hjs; omega)]
          have := List.not_of_lt_findIdx (p := (· == i)) (xs := ns) (i := j) hlt
          simpa using this
        · exact k h'' (tk' + 1) μ'' _ S'' (p'.trans p'') ⟨_, rfl⟩
    | _ => cases h5
  | _ => cases h2

theorem bitLen_eq (i : Int) : ((bitLen i : Nat) : Int) = (Builtin.Int.intBits i : Int) := by
  unfold bitLen Builtin.Int.intBits
  by_cases h : i = 0 <;> simp [h]

theorem bitlen_case {n : Nat} (E0 : EvOK prog w K p loose mean mg mb fa g0 gl cs call d n) {o : PySem.Expr} {o' : Ex} {apos pos : Pos} (hb : plainBase o = true) (hl : (apos.endLine == pos.line) = true)
    (ho : trE gl cs n env.scope.names nt o = some o') (he : ev call (.bitlen o') ρ H = some (v, H'))
    (C : Cx K p loose mean mg mb A env h₀ L d) (S : SR fa g0 h₀ L s.heap m μ H exs) (hE : EOK fa L env nt ρ μ m exs) (k : Ok fa g0 h₀ L m μ exs s v H' Q) :
    wpAny (model prog w) A (eval (.Call (.Attribute o (Str.ofString "bit_length") apos) [] [] pos) env) Q E s := by
  obtain ⟨⟨v1, H1⟩, h1, h2⟩ := Option.bind_eq_some_iff.mp he
  cases v1 with
  | int i =>
    obtain ⟨rfl, rfl⟩ := some_pair h2
    refine wpAny_Call_method (T := "int") (base_eq hb _ env) rfl hl F.plainAttrs_int slot_int_bit_length type_int_bit_length ?_
    refine E0 o o' nt env ho ρ H _ _ h1 A h₀ L m μ exs s _ E C S hE fun h' tk μ' val S' p' rv => ?_
    obtain ⟨t, rfl⟩ := rv
    refine ⟨typeIs_int _ i t, (by intro a e; cases e), ?_⟩
    refine callWith_method0 (call_int_bit_length (s := { s with heap := h', toks := tk }) ?_)
    rw [← bitLen_eq]
    exact k h' (tk + 1) μ' _ S' p' ⟨_, rfl⟩
  | _ => cases h2
end
end Mine
end

section
open PySem PySem.W PySem.Calls PyProof.Rows
namespace Mine

structure ItOK (prog : Program) (w : World) (A : Around) (fa : Nat → Addr) (g0 : List Addr) (μ₀ : List Addr) (nx : Nat → AH → Option (Option AV)) (P : Nat → Obj → Prop) : Prop where
  item : ∀ I i H h₀ L m μ exs o (s : Shared) E Q a, μ₀ <+: μ → SR fa g0 h₀ L s.heap m μ H ((I, o) :: exs) → (∀ p ∈ exs, p.1 ≠ I) → P i o → nx i H = some (some a) →
    (∀ h' tk val o', SR fa g0 h₀ L h' m μ H ((I, o') :: exs) → P (i + 1) o' → RV fa μ a val → Q (some val) { s with heap := h', toks := tk }) → wpAny (model prog w) A (pyNext (.ref I)) Q E s
  stop : ∀ I i H h₀ L m μ exs o (s : Shared) E Q, μ₀ <+: μ → SR fa g0 h₀ L s.heap m μ H ((I, o) :: exs) → (∀ p ∈ exs, p.1 ≠ I) → P i o → nx i H = some .none →
    (∀ h' tk, SR fa g0 h₀ L h' m μ H exs → Q .none { s with heap := h', toks := tk }) → wpAny (model prog w) A (pyNext (.ref I)) Q E s
  self : ∀ I i H h₀ L m μ exs o (s : Shared) E Q, SR fa g0 h₀ L s.heap m μ H ((I, o) :: exs) → P i o → Q (.ref I) s → wpAny (model prog w) A (pyIter (.ref I)) Q E s

noncomputable def nxL (p : Nat) (i : Nat) (H : AH) : Option (Option AV) := (listAt H p).map fun xs => xs[i]?
noncomputable def nxR (lo st : Int) (n : Nat) (i : Nat) (_ : AH) : Option (Option AV) := some (if i < n then some (.int (lo + i * st)) else .none)
noncomputable def PL (al : Addr) (i : Nat) (o : Obj) : Prop := o.cls = .type "list_iterator" ∧ o.data = .fields #[.ref al, .int i 0]
noncomputable def PR (lo st : Int) (n : Nat) (i : Nat) (o : Obj) : Prop := o = { cls := .type "range_iterator", data := .fields #[rawInt (lo + i * st), rawInt ((n : Int) - i), rawInt st] }

theorem SR.turnI {fa : Nat → Addr} {g0 : List Addr} {h₀ : Heap} {L : Addr} {h h' : Heap} {m : Str → Option Value} {μ : List Addr} {H : AH} {exs : List (Addr × Obj)} {I : Addr} {o o' : Obj}
    (S : SR fa g0 h₀ L h m μ H ((I, o) :: exs)) (hne : ∀ p ∈ exs, p.1 ≠ I) (hs : Heap.SameBut I h h') (ho : h'.get? I = some o') : SR fa g0 h₀ L h' m μ H ((I, o') :: exs) := by
  have z := S.exN _ (.head _)
  refine S.turn z.2.2 z.2.1 (S.exd _ (.head _)) (fun b hb o e => (hs.2 b hb).trans e) fun q hq => ?_
  rcases List.mem_cons.mp hq with rfl | hq
  · exact .inr ⟨rfl, ho⟩
  · exact .inl ⟨hne q hq, .tail _ hq⟩
theorem SR.dropI {fa : Nat → Addr} {g0 : List Addr} {h₀ : Heap} {L : Addr} {h h' : Heap} {m : Str → Option Value} {μ : List Addr} {H : AH} {exs : List (Addr × Obj)} {I : Addr} {o : Obj}
    (S : SR fa g0 h₀ L h m μ H ((I, o) :: exs)) (hne : ∀ p ∈ exs, p.1 ≠ I) (hs : Heap.ExtBut I h h') : SR fa g0 h₀ L h' m μ H exs := by
  have z := S.exN _ (.head _)
  exact S.turn z.2.2 z.2.1 (S.exd _ (.head _)) (fun b hb o e => hs b o hb e) fun q hq => .inl ⟨hne q hq, .tail _ hq⟩

section
variable {prog : Program} {w : World} {A : Around} {fa : Nat → Addr} {g0 : List Addr}

theorem it_list (hh : A.handled = .none) {p : Nat} {al : Addr} {μ₀ : List Addr} (ha : μ₀[p]? = some al) : ItOK prog w A fa g0 μ₀ (nxL p) (PL al) where
  item := by
    intro I i H h₀ L m μ exs o s E Q a hpre S hne hP hn k
    have ha' := pre_get hpre ha
    have hit : s.heap.IsListIter I al i := ⟨o, (S.exN _ (.head _)).1, hP.1, hP.2⟩
    obtain ⟨xs, hx, h1⟩ := Option.map_eq_some_iff.mp hn
    obtain ⟨vs, n, ol, hol, hc, hd, r⟩ := S.list? hx ha'
    obtain ⟨val, hv, rv⟩ := r.get h1
    refine wpAny_pyNext_list_item hit ⟨ol, hol, hc, n, hd⟩ (x := val) (by simpa using hv) fun h' hi' hs' => ?_
    obtain ⟨o', ho', hc', hd'⟩ := hi'
    exact k h' s.toks val o' (S.turnI hne hs' ho') ⟨hc', hd'⟩ rv
  stop := by
    intro I i H h₀ L m μ exs o s E Q hpre S hne hP hn k
    have ha' := pre_get hpre ha
    have hit : s.heap.IsListIter I al i := ⟨o, (S.exN _ (.head _)).1, hP.1, hP.2⟩
    obtain ⟨xs, hx, h1⟩ := Option.map_eq_some_iff.mp hn
    obtain ⟨vs, n, ol, hol, hc, hd, r⟩ := S.list? hx ha'
    refine wpAny_pyNext_list_end hh hit ⟨ol, hol, hc, n, hd⟩ (by simpa using r.none h1) fun h' hs' => ?_
    exact k h' s.toks (S.dropI hne hs')
  self := by
    intro I i H h₀ L m μ exs o s E Q S hP hQ
    exact wpAny_pyIter_listiter (l := al) (i := i) ⟨o, (S.exN _ (.head _)).1, hP.1, hP.2⟩ hQ

theorem it_range (hh : A.handled = .none) {lo st : Int} {n : Nat} {μ₀ : List Addr} : ItOK prog w A fa g0 μ₀ (nxR lo st n) (PR lo st n) where
  item := by
    intro I i H h₀ L m μ exs o s E Q a hpre S hne hP hn k
    have hit : IsRangeIter s.heap I (lo + i * st) ((n : Int) - i) st := by
      have := (S.exN _ (.head _)).1; rw [hP] at this; exact this
    unfold nxR at hn
    split at hn
    · rename_i hi
      cases hn
      refine wpAny_pyNext_range_item hit (by omega) fun h' hi' hs' => ?_
      have e1 : lo + (i : Int) * st + st = lo + ((i + 1 : Nat) : Int) * st := by push_cast; rw [Int.add_mul, Int.one_mul, Int.add_assoc]
      have e2 : (n : Int) - i - 1 = (n : Int) - ((i + 1 : Nat) : Int) := by push_cast; omega
      rw [e1, e2] at hi'
      exact k h' _ _ _ (S.turnI hne hs' hi') rfl ⟨_, rfl⟩
    · cases hn
  stop := by
    intro I i H h₀ L m μ exs o s E Q hpre S hne hP hn k
    have hit : IsRangeIter s.heap I (lo + i * st) ((n : Int) - i) st := by
      have := (S.exN _ (.head _)).1; rw [hP] at this; exact this
    unfold nxR at hn
    split at hn
    · cases hn
    · exact wpAny_pyNext_range_end hh hit (by omega) fun h' hs' => k h' s.toks (S.dropI hne hs')
  self := by
    intro I i H h₀ L m μ exs o s E Q S hP hQ
    have hit : IsRangeIter s.heap I (lo + i * st) ((n : Int) - i) st := by
      have := (S.exN _ (.head _)).1; rw [hP] at this; exact this
    exact wpAny_pyIter_rangeiter hit hQ

theorem iter_list {p : Nat} {al : Addr} {E : Value → Shared → Prop} {s : Shared} {h₀ : Heap} {L : Addr} {m : Str → Option Value} {μ : List Addr} {H : AH} {exs : List (Addr × Obj)} {Q : Value → Shared → Prop} {xs : List AV}
    (S : SR fa g0 h₀ L s.heap m μ H exs) (ha : μ[p]? = some al) (hx : listAt H p = some xs)
    (k : ∀ I h' tk o, SR fa g0 h₀ L h' m μ H ((I, o) :: exs) → (∀ p ∈ exs, p.1 ≠ I) → PL al 0 o → Q (.ref I) { s with heap := h', toks := tk }) : wpAny (model prog w) A (pyIter (.ref al)) Q E s := by
  obtain ⟨vs, n, ol, hol, hc, hd, r⟩ := S.list? hx ha
  refine wpAny_pyIter_list ⟨ol, hol, hc, n, hd⟩ ?_
  have f := S.fresh (none_at_size s.heap)
  exact k _ _ s.toks _ (S.hold (fun b o e => Heap.get?_push_of_some _ e) (none_at_size _) (Heap.get?_push_size _ rfl)) f.2.2.2 ⟨rfl, rfl⟩

theorem iter_range {a : Addr} {i st : Int} {n : Nat} {E : Value → Shared → Prop} {s : Shared} {h₀ : Heap} {L : Addr} {m : Str → Option Value} {μ : List Addr} {H : AH} {exs : List (Addr × Obj)} {Q : Value → Shared → Prop}
    (S : SR fa g0 h₀ L s.heap m μ H exs) (hr : ∃ x y z t u t', IsRange s.heap a x y z t u t' ∧ Builtin.Range.small x y z = true ∧ x = i ∧ z = st ∧ Builtin.Range.rangeSize x y z = (n : Int))
    (k : ∀ I h' tk o, SR fa g0 h₀ L h' m μ H ((I, o) :: exs) → (∀ p ∈ exs, p.1 ≠ I) → PR i st n 0 o → Q (.ref I) { s with heap := h', toks := tk }) : wpAny (model prog w) A (pyIter (.ref a)) Q E s := by
  obtain ⟨x, y, z, t, u, t', h1, h2, rfl, rfl, h3⟩ := hr
  refine wpAny_pyIter_range h1 h2 ?_
  have f := S.fresh (none_at_size s.heap)
  refine k _ _ s.toks _ (S.hold (fun b o e => Heap.get?_push_of_some _ e) (none_at_size _) (Heap.get?_push_size _ rfl)) f.2.2.2 ?_
  unfold PR
  rw [h3]; simp
end

inductive Run (nx : Nat → AH → Option (Option AV)) (f : AV → AH → Option (AV × AH)) : Nat → AH → List AV → AH → Prop
  | stop {i : Nat} {H : AH} : nx i H = some .none → Run nx f i H [] H
  | step {i : Nat} {H H₁ H₂ : AH} {a v : AV} {vs : List AV} : nx i H = some (some a) → f a H = some (v, H₁) → Run nx f (i + 1) H₁ vs H₂ → Run nx f i H (v :: vs) H₂

theorem run_compL {f : AV → AH → Option (AV × AH)} {p : Nat} : ∀ {k i : Nat} {H H' : AH} {vs : List AV}, compL f p k i H = some (vs, H') → Run (nxL p) f i H vs H'
  | 0, _, _, _, _, h => nomatch h
  | k + 1, i, H, H', vs, h => by
    obtain ⟨xs, hx, h1⟩ := Option.bind_eq_some_iff.mp h
    split at h1
    · rename_i hi
      cases h1
      exact .stop (by unfold nxL; rw [hx]; simp [hi])
    · rename_i a hi
      obtain ⟨⟨v1, H1⟩, h2, h3⟩ := Option.bind_eq_some_iff.mp h1
      obtain ⟨⟨v2, H2⟩, h4, h5⟩ := Option.bind_eq_some_iff.mp h3
      cases h5
      exact .step (by unfold nxL; rw [hx]; simp [hi]) h2 (run_compL h4)

theorem run_compN {f : AV → AH → Option (AV × AH)} {st lo : Int} {n : Nat} : ∀ {k i : Nat} {H H' : AH} {vs : List AV}, i + k = n → compN f st k (lo + i * st) H = some (vs, H') → Run (nxR lo st n) f i H vs H'
  | 0, i, H, H', vs, hk, h => by
    cases h
    exact .stop (by unfold nxR; rw [if_neg (by omega)])
  | k + 1, i, H, H', vs, hk, h => by
    obtain ⟨⟨v1, H1⟩, h2, h3⟩ := Option.bind_eq_some_iff.mp h
    obtain ⟨⟨v2, H2⟩, h4, h5⟩ := Option.bind_eq_some_iff.mp h3
    cases h5
    have e1 : lo + (i : Int) * st + st = lo + ((i + 1 : Nat) : Int) * st := by push_cast; rw [Int.add_mul, Int.one_mul, Int.add_assoc]
    simp only at h4
    rw [e1] at h4
    exact .step (by unfold nxR; rw [if_pos (by omega)]) h2 (run_compN (by omega) h4)
end Mine
end

section
open PySem PySem.W PySem.Calls PyProof.Rows
namespace Mine

noncomputable def clos (cells : List (Str × Addr)) : List (Str × NameKind) → List (Str × Addr) → List (Str × Addr)
  | [], acc => acc
  | (n, k) :: r, acc => if k == .free then clos cells r ((n, (cells.lookup n).getD 0) :: acc) else clos cells r acc

theorem closure_eq {scope : Scope} {env : Env} (h : ∀ x ∈ scope.names, x.2 = .free → ∃ c, env.cells.lookup x.1 = some c) : closureFor scope env = pure (clos env.cells scope.names []) := by
  have cell : ∀ n c, env.cells.lookup n = some c → cellOf env n = pure c := fun n c e => by unfold cellOf; rw [e]
  unfold closureFor
  have key : ∀ (l : List (Str × NameKind)) (acc : List (Str × Addr)), (∀ x ∈ l, x.2 = .free → ∃ c, env.cells.lookup x.1 = some c) →
      (forIn l acc fun x r => (match x with | (name, kind) => if (kind == NameKind.free) = true then do let c ← cellOf env name; pure (ForInStep.yield ((name, c) :: r)) else pure (ForInStep.yield r)) : Sem (List (Str × Addr))) = pure (clos env.cells l acc) := by
    intro l
    induction l with
    | nil => intro acc _; rw [List.forIn_nil]; rfl
    | cons x l ih =>
      intro acc hl
      obtain ⟨n, k⟩ := x
      rw [List.forIn_cons]
      by_cases hk : (k == NameKind.free) = true
      · obtain ⟨c, hc⟩ := hl (n, k) (.head _) (beq_iff_eq.mp hk)
        simp only at hc
        simp only [hk, if_true, cell n c hc, pure_bind, clos, hc, Option.getD_some]
        exact ih _ fun x hx => hl x (.tail _ hx)
      · simp only [hk, clos]
        exact ih _ fun x hx => hl x (.tail _ hx)
  simpa using key scope.names [] h

theorem clos_get {cells : List (Str × Addr)} {y : Str} {c : Addr} (hc : cells.lookup y = some c) : ∀ (names : List (Str × NameKind)) (acc : List (Str × Addr)), ((y, NameKind.free) ∈ names ∨ acc.lookup y = some c) → (clos cells names acc).lookup y = some c
  | [], acc, h => by
    rcases h with h | h
    · cases h
    · exact h
  | (n, k) :: r, acc, h => by
    unfold clos
    by_cases hk : (k == NameKind.free) = true
    · rw [if_pos hk]
      refine clos_get hc r _ ?_
      by_cases hy : y = n
      · subst hy; right; rw [List.lookup_cons]; simp [hc]
      · rcases h with h | h
        · rcases List.mem_cons.mp h with h1 | h1
          · cases h1; exact absurd rfl hy
          · exact .inl h1
        · right
          rw [List.lookup_cons]
          have : (y == n) = false := by simpa using hy
          rw [this]; exact h
    · rw [if_neg hk]
      refine clos_get hc r _ ?_
      rcases h with h | h
      · rcases List.mem_cons.mp h with h1 | h1
        · cases h1; exact absurd rfl hk
        · exact .inl h1
      · exact .inr h

theorem relabel_names {sc : Scope} {env : Env} (hk : env.scope.kind = .function) : (relabel sc env).names = inner env.scope.names sc.names := by
  unfold relabel inner
  simp only
  apply List.map_congr_left
  rintro ⟨n, k⟩ _
  simp only [hk, Env.kindOf, beq_self_eq_true, Bool.and_true]

theorem mem_of_lookup {α : Type} : ∀ {l : List (Str × α)} {y : Str} {k : α}, l.lookup y = some k → (y, k) ∈ l
  | [], _, _, h => by simp at h
  | (n, k') :: r, y, k, h => by
    rw [List.lookup_cons] at h
    by_cases hy : (y == n) = true
    · simp only [hy] at h
      cases h
      rw [beq_iff_eq.mp hy]; exact .head _
    · have : (y == n) = false := by simpa using hy
      simp only [this] at h
      exact .tail _ (mem_of_lookup h)

theorem inner_lookup {kd names : List (Str × NameKind)} {y : Str} {k : NameKind} (h : (inner kd names).lookup y = some k) : ∃ k0, (y, k0) ∈ names ∧ (k = k0 ∨ (k0 = .free ∧ k = .cell)) := by
  have hm := mem_of_lookup h
  unfold inner at hm
  obtain ⟨⟨n, k0⟩, h1, h2⟩ := List.mem_map.mp hm
  simp only at h2
  split at h2
  · rename_i hc
    cases h2
    exact ⟨k0, h1, .inr ⟨by simpa using (Bool.and_eq_true_iff.mp hc).1, rfl⟩⟩
  · cases h2; exact ⟨_, h1, .inl rfl⟩

structure CompFacts (kd : List (Str × NameKind)) (nt : List (Str × Nat)) (i : Nat) (sc : Scope) (x : Str) : Prop where
  slot : ∀ z ∈ nt, z.2 ≠ i
  dot : nt.lookup (Str.ofString ".0") = .none
  kind : sc.kind = .function
  ncell : ∀ y ∈ sc.names, y.2 ≠ .cell
  loc : ∀ y ∈ sc.names, y.2 = .local → sc.names.lookup y.1 = some .local ∧ (y.1 = x ∨ y.1 = Str.ofString ".0")
  free : ∀ y ∈ sc.names, y.2 = .free → kd.lookup y.1 = some .cell ∨ kd.lookup y.1 = some .free
  here : sc.names.lookup x = some .local
  ndot : x ≠ Str.ofString ".0"

theorem compFacts {kd : List (Str × NameKind)} {nt : List (Str × Nat)} {i : Nat} {sc : Scope} {x : Str} (h : compOk kd nt i sc x = true) : CompFacts kd nt i sc x := by
  unfold compOk at h
  simp only [Bool.and_eq_true] at h
  obtain ⟨⟨⟨⟨⟨h1, h2⟩, h3⟩, h4⟩, h5⟩, h6⟩ := h
  refine ⟨fun z hz => by simpa using List.all_eq_true.mp h1 z hz, by simpa using h2, by simpa using h3, fun y hy => ?_, fun y hy hk => ?_, fun y hy hk => ?_, by simpa using h5, by simpa using h6⟩
  · have := List.all_eq_true.mp h4 y hy
    simp only [Bool.and_eq_true] at this
    simpa using this.1.1
  · have := List.all_eq_true.mp h4 y hy
    simp only [Bool.and_eq_true, Bool.or_eq_true] at this
    rcases this.1.2 with h7 | h7
    · rw [hk] at h7; simp at h7
    · exact ⟨by simpa using h7.1, h7.2.imp (fun q => by simpa using q) fun q => by simpa using q⟩
  · have := List.all_eq_true.mp h4 y hy
    simp only [Bool.and_eq_true, Bool.or_eq_true] at this
    rcases this.2 with h7 | h7
    · rw [hk] at h7; simp at h7
    · exact h7.imp (fun q => by simpa using q) fun q => by simpa using q

section
variable {prog : Program} {w : World} {K : Frag} {p : Program} {loose : List Str} {mean : ExcName → Option Value} {mg mb : Str → Option Value} {fa : Nat → Addr} {g0 : List Addr} {gl : List (Str × AV)} {cs : List (Str × Nat)}
  {call : Nat → List AV → AH → Option (AV × AH)} {d : Nat}

theorem cx_inner {A : Around} {env : Env} {h₀ : Heap} {L C : Addr} {sc : Scope} {nt : List (Str × Nat)} {i : Nat} {x : Str} (Cx0 : Cx K p loose mean mg mb A env h₀ L d) (hf : CompFacts env.scope.names nt i sc x) :
    Cx K p loose mean mg mb A (compEnvC sc (clos env.cells sc.names []) C env) h₀ L d := by
  refine ⟨Cx0.hh, Cx0.room, Cx0.units, hf.kind, Cx0.gl, Cx0.bl, Cx0.KI, Cx0.T, fun y k hk hk2 => ?_, Cx0.below⟩
  have hk' : (inner env.scope.names sc.names).lookup y = some k := by rw [← relabel_names Cx0.kf]; exact hk
  obtain ⟨k0, h1, h2⟩ := inner_lookup hk'
  have h3 : k0 = .free := by
    rcases h2 with h2 | h2
    · subst h2
      rcases hk2 with q | q
      · exact absurd q (hf.ncell _ h1)
      · exact q
    · exact h2.1
  subst h3
  obtain ⟨c, hc⟩ := (hf.free _ h1 rfl).elim (fun q => Cx0.cells y _ q (.inl rfl)) (fun q => Cx0.cells y _ q (.inr rfl))
  exact ⟨c, clos_get hc _ _ (.inl h1)⟩

theorem eok_inner {A : Around} {env : Env} {h₀ : Heap} {L C : Addr} {sc : Scope} {nt : List (Str × Nat)} {i : Nat} {x : Str} {ρ : List AV} {μ : List Addr} {m : Str → Option Value} {exs exs' : List (Addr × Obj)} {a : AV} {val : Value} {oC : Obj} {es : Array DictEntry} {ep : Nat}
    (Cx0 : Cx K p loose mean mg mb A env h₀ L d) (hf : CompFacts env.scope.names nt i sc x) (hE : EOK fa L env nt ρ μ m exs) (hs : ∀ p ∈ exs, p ∈ exs') (hC : (C, oC) ∈ exs') (hd : oC.data = .dict es ep) (hk : StrKeys es)
    (hx : nsFind es x = some val) (rv : RV fa μ a val) : EOK fa L (compEnvC sc (clos env.cells sc.names []) C env) ((x, i) :: nt) (ρ.set i a) μ m exs' := by
  intro y j v hj hv hok k hkk hk3
  have hk' : (inner env.scope.names sc.names).lookup y = some k := by rw [← relabel_names Cx0.kf]; exact hkk
  rw [List.lookup_cons] at hj
  by_cases hy : y = x
  · subst hy
    simp at hj
    subst hj
    have hav : v = a := by
      have hl : i < ρ.length := by
        rcases Nat.lt_or_ge i ρ.length with h1 | h1
        · exact h1
        · rw [List.getElem?_eq_none (by simpa using h1)] at hv; cases hv
      rw [List.getElem?_set_self hl] at hv
      exact (Option.some.inj hv).symm
    subst hav
    have hkl : k = .local := by
      have := lookup_relabel_local (env := env) hf.here
      have h2 : (inner env.scope.names sc.names).lookup y = some .local := by
        rw [← relabel_names Cx0.kf]; exact this
      rw [h2] at hk'; exact (Option.some.inj hk').symm
    subst hkl
    exact ⟨val, rv, .inr ⟨oC, es, ep, hC, hd, hk, hx⟩⟩
  · have hyx : (y == x) = false := by simpa using hy
    simp only [hyx] at hj
    have hji : j ≠ i := hf.slot _ (mem_of_lookup hj)
    rw [List.getElem?_set_ne (Ne.symm hji)] at hv
    obtain ⟨k0, h1, h2⟩ := inner_lookup hk'
    have h3 : k0 = .free := by
      rcases h2 with h2 | h2
      · subst h2
        rcases hk3 with q | q | q
        · exfalso
          rcases (hf.loc _ h1 q).2 with q1 | q1
          · exact hy q1
          · simp only at q1; subst q1; rw [hf.dot] at hj; cases hj
        · exact absurd q (hf.ncell _ h1)
        · exact q
      · exact h2.1
    subst h3
    have hkc : k = .cell ∨ k = .free := by
      rcases h2 with h2 | h2
      · exact .inr h2
      · exact .inl h2.2
    have fin : ∀ k1, env.scope.names.lookup y = some k1 → (k1 = .cell ∨ k1 = .free) → ∃ val, RV fa μ v val ∧ VarAt L (compEnvC sc (clos env.cells sc.names []) C env) m exs' k y val := fun k1 hk1 hk2 => by
      obtain ⟨val', r', z⟩ := hE y j v hj hv hok k1 hk1 (.inr hk2)
      have z' : ∃ c o, env.cells.lookup y = some c ∧ (c, o) ∈ exs ∧ o.data = .cell (some val') := by
        rcases hk2 with q | q <;> subst q <;> exact z
      obtain ⟨c, o, z1, z2, z3⟩ := z'
      refine ⟨val', r', ?_⟩
      have : ∃ c o, (compEnvC sc (clos env.cells sc.names []) C env).cells.lookup y = some c ∧ (c, o) ∈ exs' ∧ o.data = .cell (some val') := ⟨c, o, clos_get z1 _ _ (.inl h1), hs _ z2, z3⟩
      rcases hkc with q | q <;> subst q <;> exact this
    exact (hf.free _ h1 rfl).elim (fun q => fin _ q (.inl rfl)) (fun q => fin _ q (.inr rfl))
end
end Mine
end

section
open PySem PySem.W PySem.Calls PyProof.Rows
namespace Mine
section
variable {prog : Program} {w : World} {K : Frag} {p : Program} {loose : List Str} {mean : ExcName → Option Value} {mg mb : Str → Option Value} {fa : Nat → Addr} {g0 : List Addr} {gl : List (Str × AV)} {cs : List (Str × Nat)}
  {call : Nat → List AV → AH → Option (AV × AH)} {d : Nat}

noncomputable abbrev lobj (vs : List Value) (n : Nat) : Obj := { cls := .type "list", data := .seq vs.toArray n }

theorem comp_core {n : Nat} (E0 : EvOK prog w K p loose mean mg mb fa g0 gl cs call d n) {A : Around} {env : Env} {h₀ : Heap} {L I : Addr} {sc : Scope} {nt : List (Str × Nat)} {i : Nat} {x : Str} {px pos : Pos} {elt iter : PySem.Expr} {elt' : Ex}
    {ρ : List AV} {μ : List Addr} {m : Str → Option Value} {exs : List (Addr × Obj)} {s : Shared} {H H' : AH} {vs : List AV} {nx : Nat → AH → Option (Option AV)} {P : Nat → Obj → Prop} {oI : Obj} {E : Value → Shared → Prop}
    {RR : Value → Addr → Result → Shared → Prop}
    (hf : CompFacts env.scope.names nt i sc x) (helt : trE gl cs n (inner env.scope.names sc.names) ((x, i) :: nt) elt = some elt')
    (hrun : Run nx (fun a H => ev call elt' (ρ.set i a) H) 0 H vs H') (hcap : vs.length ≤ cap)
    (C₀ : Cx K p loose mean mg mb A env h₀ L d) (S : SR fa g0 h₀ L s.heap m μ H ((I, oI) :: exs)) (hne : ∀ q ∈ exs, q.1 ≠ I) (hP : P 0 oI) (it : ItOK prog w A fa g0 μ nx P) (hE : EOK fa L env nt ρ μ m exs)
    (k : ∀ D C o' h' tk μ', SR fa g0 h₀ L h' m (μ' ++ [D]) (H' ++ [.list vs]) ((C, o') :: exs) → (∃ es ep, o'.data = .dict es ep ∧ StrKeys es) → (∀ q ∈ exs, q.1 ≠ C) → μ <+: μ' → μ'.length = H'.length → RR (.ref D) C (.ok .next) { s with heap := h', toks := tk }) :
    wpAny (model prog w) A (newList []) (fun acc s₃ => wpAny (model prog w) A (newFunctionEnv sc env.globals (clos env.cells sc.names []) [] env.qual none .none (some env)) (fun cenv s₄ =>
      codeAny (model prog w) A (.compStart (.ListComp elt [⟨.Name x px, iter, [], 0⟩] sc pos) 0 (.ref I) acc { cenv with scope := relabel sc env }) (RR acc cenv.locals) s₄) E s₃) E s := by
  have hcap' := cap_line
  refine wpAny_newObj_type (wpAny_newFunctionEnv hf.ncell (by intro y hy; simp at hy) (fun h₁ hns₁ hsb₁ => ?_) hf.kind)
  dsimp only at hns₁ hsb₁ ⊢
  -- the list that is filled
  have hD := none_at_size s.heap
  have S1 := S.hold (a := s.heap.objs.size) (o := lobj [] 0) (h' := s.heap.push { cls := .type "list", dict := none, data := .seq ([] : List Value).toArray }) (fun b o e => Heap.get?_push_of_some _ e) hD (Heap.get?_push_size _ rfl)
  have hDne := (S.fresh hD).2.2.2
  generalize hDe : s.heap.objs.size = D at S1 hDne hns₁ hsb₁ ⊢
  generalize hH2 : s.heap.push { cls := .type "list", dict := none, data := .seq ([] : List Value).toArray } = H2 at S1 hns₁ hsb₁ ⊢
  -- the block's names
  have hCn := none_at_size H2
  obtain ⟨oC, esC, epC, hoC, hdC, hkC, _⟩ := hns₁
  have old : ∀ b o, H2.get? b = some o → h₁.get? b = some o := fun b o e => (hsb₁.2 b (Nat.ne_of_lt (Heap.lt_size e))).trans (Heap.get?_push_of_some _ e)
  have S2 := S1.hold old hCn hoC
  have hCne := (S1.fresh hCn).2.2.2
  generalize hCe : H2.objs.size = C at S2 hCne hoC hsb₁ ⊢
  have hDI : D ≠ I := fun q => hDne _ (.head _) q.symm
  have hDe' : ∀ q ∈ exs, q.1 ≠ D := fun q hq => hDne q (.tail _ hq)
  have hCD : C ≠ D := fun q => hCne _ (.head _) q.symm
  have hCI : C ≠ I := fun q => hCne _ (.tail _ (.head _)) q.symm
  have hCe' : ∀ q ∈ exs, q.1 ≠ C := fun q hq => hCne q (.tail _ (.tail _ hq))
  have Ci := cx_inner (C := C) C₀ hf
  have hnm : (compEnvC sc (clos env.cells sc.names []) C env).scope.names = inner env.scope.names sc.names := relabel_names C₀.kf
  -- the loop
  have loop : ∀ (h : Heap) (tk : Nat), SR fa g0 h₀ L h m μ H ((I, oI) :: (C, oC) :: (D, lobj [] 0) :: exs) →
      codeAny (model prog w) A (.compLoop (.ListComp elt [⟨.Name x px, iter, [], 0⟩] sc pos) 0 (.ref I) (.ref D) (compEnvC sc (clos env.cells sc.names []) C env)) (RR (.ref D) C) { s with heap := h, toks := tk } := by
    intro h tk S3
    refine codeAny_compLoop_list (env := compEnvC sc (clos env.cells sc.names []) C env)
      (fun nn s' => E6 fun j Hc vsr dn dv kk => E7 fun oC' es ep oI' h' tk' μ' => A10 (s' = { s with heap := h', toks := tk' }) (Run nx (fun a H => ev call elt' (ρ.set i a) H) j Hc vsr H') (vs = dn ++ vsr) (nn = vsr.length) (SR fa g0 h₀ L h' m μ' Hc ((I, oI') :: (C, oC') :: (D, lobj dv kk) :: exs)) (P j oI') (oC'.data = .dict es ep) (StrKeys es) (RVs fa μ' dn dv) (μ <+: μ')) ?_ vs.length
      ⟨0, H, vs, [], [], 0, oC, esC, epC, oI, h, tk, μ, rfl, hrun, rfl, rfl, S3, hP, hdC, hkC, trivial, List.prefix_refl _⟩
    rintro nn s' ⟨j, Hc, vsr, dn, dv, kk, oC', es, ep, oI', h', tk', μ', rfl, hr, hvs, rfl, S4, hPj, hd, hk, rdn, hpre⟩
    have hneI : ∀ q ∈ (C, oC') :: (D, lobj dv kk) :: exs, q.1 ≠ I := fun q hq => by
      rcases List.mem_cons.mp hq with rfl | hq
      · exact hCI
      rcases List.mem_cons.mp hq with rfl | hq
      · exact hDI
      exact hne q hq
    cases hr with
    | stop hn =>
      refine it.stop I j H' h₀ L m μ' _ oI' { s with heap := h', toks := tk' } _ _ hpre S4 hneI hPj hn fun h'' tk'' S5 => ?_
      have hD5 := S5.exN (D, lobj dv kk) (.tail _ (.head _))
      have hDm := S5.exd (D, lobj dv kk) (.tail _ (.head _))
      have S6 : SR fa g0 h₀ L h'' m μ' H' ((C, oC') :: exs) := S5.sub fun q hq => by
        rcases List.mem_cons.mp hq with rfl | hq
        · exact .head _
        · exact .tail _ (.tail _ hq)
      rw [List.append_nil] at hvs
      subst hvs
      have S7 := S6.adopt (ao := .list vs) hD5.1 hD5.2.1 hD5.2.2 hDm (fun q hq => by
        rcases List.mem_cons.mp hq with rfl | hq
        · exact hCD
        · exact hDe' q hq) ⟨dv, kk, rfl, rfl, rdn⟩ ⟨rfl, rfl⟩
      exact k D C oC' h'' tk'' μ' S7 ⟨es, ep, hd, hk⟩ hCe' hpre S6.len
    | step hn hev hrest =>
      rename_i H1 a v vs1
      refine it.item I j Hc h₀ L m μ' _ oI' { s with heap := h', toks := tk' } _ _ a hpre S4 hneI hPj hn fun h'' tk'' val oI'' S5 hPj' rv => ?_
      have hC5 := S5.exN (C, oC') (.tail _ (.head _))
      have hns5 : h''.Ns C (nsFind es) := ⟨oC', es, ep, hC5.1, hd, hk, fun _ => rfl⟩
      refine wpAny_assign_Name (wpAny_storeName_local (env := compEnvC sc (clos env.cells sc.names []) C env) (lookup_relabel_local hf.here) hns5 (fun h3 hn3 hs3 => ?_)
        (by show ((relabel sc env).kind == .class || ((relabel sc env).kind == .module && C != env.globals)) = false; show (sc.kind == .class || (sc.kind == .module && C != env.globals)) = false; rw [hf.kind]; rfl))
      obtain ⟨o3, es3, ep3, ho3, hd3, hk3, hf3⟩ := hn3
      have S6 : SR fa g0 h₀ L h3 m μ' Hc ((I, oI'') :: (C, o3) :: (D, lobj dv kk) :: exs) :=
        S5.turn hC5.2.2 hC5.2.1 (S5.exd (C, oC') (.tail _ (.head _))) (fun b hb o e => (hs3.2 b hb).trans e) fun q hq => by
          rcases List.mem_cons.mp hq with rfl | hq
          · exact .inl ⟨hCI.symm, .head _⟩
          rcases List.mem_cons.mp hq with rfl | hq
          · exact .inr ⟨rfl, ho3⟩
          rcases List.mem_cons.mp hq with rfl | hq
          · exact .inl ⟨hCD.symm, .tail _ (.tail _ (.head _))⟩
          · exact .inl ⟨hCe' q hq, .tail _ (.tail _ (.tail _ hq))⟩
      have hEi : EOK fa L (compEnvC sc (clos env.cells sc.names []) C env) ((x, i) :: nt) (ρ.set i a) μ' m ((I, oI'') :: (C, o3) :: (D, lobj dv kk) :: exs) :=
        eok_inner C₀ hf (hE.mono hpre) (fun q hq => .tail _ (.tail _ (.tail _ hq))) (.tail _ (.head _)) hd3 hk3 (val := val) (by rw [hf3]; simp) rv
      refine E0 elt elt' ((x, i) :: nt) (compEnvC sc (clos env.cells sc.names []) C env) (by rw [hnm]; exact helt) (ρ.set i a) Hc v H1 hev A h₀ L m μ' _ _ _ _ Ci S6 hEi fun h4 tk4 μ4 val4 S8 p4 rv4 => ?_
      have hD8 := S8.exN (D, lobj dv kk) (.tail _ (.tail _ (.head _)))
      have hlen := rdn.length
      have hvl : dn.length + (vs1.length + 1) ≤ cap := by
        have : vs.length = dn.length + (vs1.length + 1) := by rw [hvs]; simp
        omega
      refine append_at (s := { s with heap := h4, toks := tk4 }) hD8.1 (fun h5 hs5 ho5 => ?_) (by simp; omega)
      refine ⟨vs1.length, by simp, j + 1, H1, vs1, dn ++ [v], dv ++ [val4], kk + 1, o3, es3, ep3, oI'', h5, tk4, μ4, rfl, hrest, by rw [hvs]; simp, rfl, ?_, hPj', hd3, hk3, ?_, hpre.trans p4⟩
      · refine S8.turn hD8.2.2 hD8.2.1 (S8.exd (D, lobj dv kk) (.tail _ (.tail _ (.head _)))) (fun b hb o e => (hs5.2 b hb).trans e) fun q hq => ?_
        rcases List.mem_cons.mp hq with rfl | hq
        · exact .inl ⟨hDI.symm, .head _⟩
        rcases List.mem_cons.mp hq with rfl | hq
        · exact .inl ⟨hCD, .tail _ (.head _)⟩
        rcases List.mem_cons.mp hq with rfl | hq
        · exact .inr ⟨rfl, by rw [ho5]; simp [lobj]⟩
        · exact .inl ⟨hDe' q hq, .tail _ (.tail _ (.tail _ hq))⟩
      · exact (rdn.mono p4).append ⟨rv4, trivial⟩
  have S3 : SR fa g0 h₀ L h₁ m μ H ((I, oI) :: (C, oC) :: (D, lobj [] 0) :: exs) := S2.sub fun q hq => by
    rcases List.mem_cons.mp hq with rfl | hq
    · exact .tail _ (.tail _ (.head _))
    rcases List.mem_cons.mp hq with rfl | hq
    · exact .head _
    rcases List.mem_cons.mp hq with rfl | hq
    · exact .tail _ (.head _)
    · exact .tail _ (.tail _ (.tail _ hq))
  have L0 := loop h₁ (s.toks + ([] : List (Str × Value)).length) S3
  exact codeAny_compStart_list L0 (it.self I 0 H h₀ L m μ _ oI _ _ _ S3 hP L0)
end
end Mine
end

section
open PySem PySem.W PySem.Calls PyProof.Rows
namespace Mine
section
variable {prog : Program} {w : World} {K : Frag} {p : Program} {loose : List Str} {mean : ExcName → Option Value} {mg mb : Str → Option Value} {fa : Nat → Addr} {g0 : List Addr} {gl : List (Str × AV)} {cs : List (Str × Nat)}
  {call : Nat → List AV → AH → Option (AV × AH)} {d : Nat}

theorem set_ne {gl : List (Str × AV)} {cs : List (Str × Nat)} {n : Nat} {kd : List (Str × NameKind)} {nt : List (Str × Nat)} {e : PySem.Expr} {e' : Ex} (h : trE gl cs n kd nt e = some e') (env : Env) (x : Value) : foldedSetIterable e env x = pure x := by
  have hs := trE_supp h
  clear h
  cases e <;> first | rfl | exact nomatch (show false = true from hs)

theorem range_call {n : Nat} (G : Gl K fa g0 gl) (V0 : EvsOK prog w K p loose mean mg mb fa g0 gl cs call d n) {f : Str} {fp pos : Pos} {args : List PySem.Expr} {args' : Ex} {nt : List (Str × Nat)} {env : Env} (hb : isB env.scope.names f "range" = true)
    (ht : trL (trE gl cs n env.scope.names nt) args = some args') {ρ : List AV} {H H1 : AH} {vs : List AV} (he : evs call args' ρ H = some (vs, H1)) {i st : Int} {k : Nat} (hr : rangeOf vs = some (i, st, k))
    {A : Around} {h₀ : Heap} {L : Addr} {m : Str → Option Value} {μ : List Addr} {exs : List (Addr × Obj)} {s : Shared} {E : Value → Shared → Prop} {Q : Value → Shared → Prop}
    (C : Cx K p loose mean mg mb A env h₀ L d) (S : SR fa g0 h₀ L s.heap m μ H exs) (hE : EOK fa L env nt ρ μ m exs)
    (kk : ∀ a h' tk μ', SR fa g0 h₀ L h' m μ' H1 exs → μ <+: μ' → (∃ x y z t u t', IsRange h' a x y z t u t' ∧ Builtin.Range.small x y z = true ∧ x = i ∧ z = st ∧ Builtin.Range.rangeSize x y z = (k : Int)) → Q (.ref a) { s with heap := h', toks := tk }) :
    wpAny (model prog w) A (eval (.Call (.Name f fp) args [] pos) env) Q E s := by
  match args, ht with
  | [], ht =>
    cases ht
    cases he
    cases hr
  | e :: rest, ht =>
    have h0 := ht
    obtain ⟨e', h1, h2⟩ := Option.bind_eq_some_iff.mp h0
    obtain ⟨r', h3, h4⟩ := Option.map_eq_some_iff.mp h2
    refine Call_ (builtin_name C G S hb (by decide) (by boot_by_name) (by decide) (by decide) ?_)
    refine PyProof.Rows.callWith_type1 ?_ (star_ne h1 rest env) (stars_plain env pos h3)
    refine V0 (e :: rest) args' nt env pos ht ρ H vs H1 he A h₀ L m μ exs s _ E C S hE fun h' tk μ' vals S' p' rv => ?_
    refine range_ok S' rv hr fun a h'' tk' hsz hk hra => ?_
    exact kk a h'' tk' μ' (S'.grow hk) p' hra

theorem comp_gen {n : Nat} (G : Gl K fa g0 gl) (E0 : EvOK prog w K p loose mean mg mb fa g0 gl cs call d n) {elt : PySem.Expr} {gens : List Comprehension} {sc : Scope} {pos : Pos} {e' : Ex} {nt : List (Str × Nat)} {env : Env}
    (ht : trE gl cs (n + 1) env.scope.names nt (.ListComp elt gens sc pos) = some e') {ρ : List AV} {H H' : AH} {v : AV} (he : ev call e' ρ H = some (v, H'))
    {A : Around} {h₀ : Heap} {L : Addr} {m : Str → Option Value} {μ : List Addr} {exs : List (Addr × Obj)} {s : Shared} {E : Value → Shared → Prop} {Q : Value → Shared → Prop} (use : Option (Value → Sem Unit))
    (C : Cx K p loose mean mg mb A env h₀ L d) (S : SR fa g0 h₀ L s.heap m μ H exs) (hE : EOK fa L env nt ρ μ m exs)
    (fin : ∀ D Cc o' h' tk μ', SR fa g0 h₀ L h' m μ' H' ((Cc, o') :: exs) → (∃ es ep, o'.data = .dict es ep ∧ StrKeys es) → (∀ q ∈ exs, q.1 ≠ Cc) → μ <+: μ' → RV fa μ' v (.ref D) →
      compPost (model prog w) A E use Q (.ref D) Cc (.ok .next) { s with heap := h', toks := tk }) :
    wpAny (model prog w) A (comprehension (.ListComp elt gens sc pos) sc env (firstIterPos gens pos) (newList []) (firstAsync gens) (firstIter gens env) use) Q E s := by
  have V0 := evs_of E0
  have boxd : ∀ (r : List AV × AH), boxed r = some (v, H') → r.1.length ≤ cap ∧ v = .ptr r.2.length ∧ H' = r.2 ++ [.list r.1] := fun r h =>
    have ⟨hc, h⟩ := some_if h
    have ⟨a, b⟩ := some_pair h
    ⟨hc, a.symm, b.symm⟩
  obtain ⟨⟨⟨x, iter⟩, px, rfl⟩, _, ht1⟩ := Option.bind_eq_some_iff.mp ht
  obtain ⟨i, hi, ht2⟩ := Option.bind_eq_some_iff.mp ht1
  obtain ⟨hc1, ht3⟩ := some_if ht2
  have hf := compFacts hc1
  clear ht ht1 ht2
  split at ht3
  · -- over a range
    rename_i args hr
    obtain ⟨f, fp, cp, e1, hc2⟩ := argsOf_eq hr
    obtain rfl : iter = _ := e1
    obtain ⟨args', ha, ht4⟩ := Option.bind_eq_some_iff.mp ht3
    obtain ⟨elt', hel, rfl⟩ := Option.map_eq_some_iff.mp ht4
    obtain ⟨⟨vs, H1⟩, h1, h2⟩ := Option.bind_eq_some_iff.mp he
    obtain ⟨⟨lo, st, k⟩, h3, h4⟩ := Option.bind_eq_some_iff.mp h2
    obtain ⟨⟨ws, H2⟩, h5, h6⟩ := Option.bind_eq_some_iff.mp h4
    obtain ⟨b1, rfl, rfl⟩ := boxd _ h6
    have hrun : Run (nxR lo st k) (fun a H => ev call elt' (ρ.set i a) H) 0 H1 ws H2 := run_compN (i := 0) (k := k) (Nat.zero_add k) (by simpa using h5)
    refine wpAny_comprehension_free (cl := clos env.cells sc.names []) (g := ⟨.Name x px, .Call (.Name f fp) args [] cp, [], 0⟩) (gs := []) rfl (fun _ => rfl) ?_ hf.kind (fun y hy hl => (hf.loc y hy hl).1) ?_
    · exact closure_eq fun y hy hl => (hf.free y hy hl).elim (fun q => C.cells _ _ q (.inl rfl)) fun q => C.cells _ _ q (.inr rfl)
    refine range_call G V0 hc2 ha h1 h3 C S hE fun a h' tk μ' S' p' hra => ?_
    refine iter_range S' hra fun I h'' tk' oI S'' hne hP => ?_
    refine comp_core E0 (nx := nxR lo st k) (P := PR lo st k) hf hel hrun b1 C S'' hne hP (it_range C.hh) (hE.mono p') fun D Cc o' h3 tk3 μ3 S3 hd hnC p3 hlen => ?_
    exact fin D Cc o' h3 tk3 _ S3 hd hnC ((p'.trans p3).trans (List.prefix_append _ _)) ⟨D, by rw [← hlen]; simp, rfl⟩
  · -- over a list
    obtain ⟨_, ht4⟩ := none_if ht3
    obtain ⟨iter', ha, ht5⟩ := Option.bind_eq_some_iff.mp ht4
    obtain ⟨elt', hel, rfl⟩ := Option.map_eq_some_iff.mp ht5
    obtain ⟨⟨v1, H1⟩, h1, h2⟩ := Option.bind_eq_some_iff.mp he
    cases v1 with
    | ptr q =>
      obtain ⟨⟨ws, H2⟩, h5, h6⟩ := Option.bind_eq_some_iff.mp h2
      obtain ⟨b1, rfl, rfl⟩ := boxd _ h6
      have hrun := run_compL h5
      have hx : ∃ xs, listAt H1 q = some xs := by
        have hz : ∃ z, nxL q 0 H1 = some z := by
          cases hrun with
          | stop h => exact ⟨_, h⟩
          | step h _ _ => exact ⟨_, h⟩
        obtain ⟨z, hz⟩ := hz
        obtain ⟨xs, hx, _⟩ := Option.map_eq_some_iff.mp hz
        exact ⟨xs, hx⟩
      obtain ⟨xs, hx⟩ := hx
      refine wpAny_comprehension_free (cl := clos env.cells sc.names []) (g := ⟨.Name x px, iter, [], 0⟩) (gs := []) rfl (set_ne ha env) ?_ hf.kind (fun y hy hl => (hf.loc y hy hl).1) ?_
      · exact closure_eq fun y hy hl => (hf.free y hy hl).elim (fun q => C.cells _ _ q (.inl rfl)) fun q => C.cells _ _ q (.inr rfl)
      refine E0 iter iter' nt env ha ρ H _ H1 h1 A h₀ L m μ exs s _ E C S hE fun h' tk μ' val S' p' rv => ?_
      obtain ⟨al, hal, rfl⟩ := rv
      refine iter_list S' hal hx fun I h'' tk' oI S'' hne hP => ?_
      refine comp_core E0 (nx := nxL q) (P := PL al) hf hel hrun b1 C S'' hne hP (it_list C.hh hal) (hE.mono p') fun D Cc o' h3 tk3 μ3 S3 hd hnC p3 hlen => ?_
      exact fin D Cc o' h3 tk3 _ S3 hd hnC ((p'.trans p3).trans (List.prefix_append _ _)) ⟨D, by rw [← hlen]; simp, rfl⟩
    | _ => cases h2
end
end Mine
end

section
open PySem PySem.W PySem.Calls PyProof.Rows
namespace Mine
section
variable {prog : Program} {w : World} {K : Frag} {p : Program} {loose : List Str} {mean : ExcName → Option Value} {mg mb : Str → Option Value} {fa : Nat → Addr} {g0 : List Addr} {gl : List (Str × AV)} {cs : List (Str × Nat)}
  {call : Nat → List AV → AH → Option (AV × AH)} {d : Nat}

theorem min_ok {A : Around} {E : Value → Shared → Prop} {s : Shared} {h₀ : Heap} {L : Addr} {m : Str → Option Value} {μ : List Addr} {H : AH} {exs : List (Addr × Obj)} {a b v : AV} {va vb : Value} {Q : Value → Shared → Prop} (hh : A.handled = .none)
    (S : SR fa g0 h₀ L s.heap m μ H exs) (ra : RV fa μ a va) (rb : RV fa μ b vb) (e : minV a b = some v) (k : Ok fa g0 h₀ L m μ exs s v H Q) : wpAny (model prog w) A (PySem.call (.builtin "min") [va, vb]) Q E s := by
  unfold minV at e
  split at e
  · obtain ⟨t, rfl⟩ := ra
    obtain ⟨u, rfl⟩ := rb
    cases e
    refine min_two_ints hh fun h' tk hk => ?_
    refine k h' tk μ _ (S.grow hk) (List.prefix_refl _) ?_
    split
    · exact ⟨u, rfl⟩
    · exact ⟨t, rfl⟩
  · cases e

theorem sub_plain {slice : PySem.Expr} {n : Nat} {kd : List (Str × NameKind)} {nt : List (Str × Nat)} {e' : Ex} (h : trE gl cs n kd nt slice = some e') (va : Value) (k : Int) (t : Tok) :
    subscripted slice false va (.int k t) = operate [va, .int k t] (getItem va (.int k t)) := by
  have hs := trE_supp h
  clear h
  cases slice <;> first | rfl | exact nomatch (show false = true from hs)
theorem named_case {n : Nat} (G : Gl K fa g0 gl) (Ck : CallOK prog w K p loose mean mg mb fa g0 call d) (E0 : EvOK prog w K p loose mean mg mb fa g0 gl cs call d n) {A : Around} {h₀ : Heap} {L : Addr} {m : Str → Option Value} {μ : List Addr} {exs : List (Addr × Obj)} {s : Shared} {E : Value → Shared → Prop} {Q : Value → Shared → Prop} {env : Env}
    {nt : List (Str × Nat)} {ρ : List AV} {H H' : AH} {v : AV} {x : Str} {xp pos : Pos} {args : List PySem.Expr} {e' : Ex} (ht : trNamed gl (trE gl cs n env.scope.names nt) env.scope.names nt x args = some e') (he : ev call e' ρ H = some (v, H'))
    (C : Cx K p loose mean mg mb A env h₀ L d) (S : SR fa g0 h₀ L s.heap m μ H exs) (hE : EOK fa L env nt ρ μ m exs) (k : Ok fa g0 h₀ L m μ exs s v H' Q) : wpAny (model prog w) A (eval (.Call (.Name x xp) args [] pos) env) Q E s := by
  have V0 := evs_of E0
  unfold trNamed at ht
  split at ht
  · -- len
    rename_i hb
    obtain ⟨a, h0, ht2⟩ := Option.bind_eq_some_iff.mp ht
    obtain rfl := one_eq h0
    obtain ⟨a', ha, rfl⟩ := Option.map_eq_some_iff.mp ht2
    obtain ⟨⟨v1, H1⟩, h1, h2⟩ := Option.bind_eq_some_iff.mp he
    obtain ⟨nn, h3, h4⟩ := Option.map_eq_some_iff.mp h2
    obtain ⟨rfl, rfl⟩ := pair_inj h4
    refine Call_ (builtin_name C G S hb (by decide) (by boot_by_name) (by decide) (by decide) ?_)
    refine PyProof.Rows.callWith_builtin1 ?_ (star_ne ha [] env)
    refine args_cons (E0 _ a' nt env ha ρ H v1 _ h1 A h₀ L m μ exs s _ E C S hE fun h' tk μ' val S' p' rv => args_nil ?_) (star_ne ha [] env)
    exact len_ok (s := { s with heap := h', toks := tk }) S' rv h3 fun t tk' => k h' tk' μ' _ S' p' ⟨t, rfl⟩
  split at ht
  · -- abs
    rename_i hb
    obtain ⟨a, h0, ht2⟩ := Option.bind_eq_some_iff.mp ht
    obtain rfl := one_eq h0
    obtain ⟨a', ha, rfl⟩ := Option.map_eq_some_iff.mp ht2
    obtain ⟨⟨v1, H1⟩, h1, h2⟩ := Option.bind_eq_some_iff.mp he
    cases v1 with
    | int i =>
      obtain ⟨rfl, rfl⟩ := some_pair h2
      refine Call_ (builtin_name C G S hb (by decide) (by boot_by_name) (by decide) (by decide) ?_)
      refine PyProof.Rows.callWith_builtin1 ?_ (star_ne ha [] env)
      refine args_cons (E0 _ a' nt env ha ρ H _ _ h1 A h₀ L m μ exs s _ E C S hE fun h' tk μ' val S' p' rv => args_nil ?_) (star_ne ha [] env)
      obtain ⟨t, rfl⟩ := rv
      exact call_abs_int fun u tk' => k h' tk' μ' _ S' p' ⟨u, rfl⟩
    | _ => cases h2
  split at ht
  · -- int
    rename_i hb
    obtain ⟨a, h0, ht2⟩ := Option.bind_eq_some_iff.mp ht
    obtain rfl := one_eq h0
    obtain ⟨a', ha, rfl⟩ := Option.map_eq_some_iff.mp ht2
    obtain ⟨⟨v1, H1⟩, h1, h2⟩ := Option.bind_eq_some_iff.mp he
    cases v1 with
    | int i =>
      obtain ⟨rfl, rfl⟩ := some_pair h2
      refine Call_ (builtin_name C G S hb (by decide) (by boot_by_name) (by decide) (by decide) ?_)
      refine PyProof.Rows.callWith_type1 ?_ (star_ne ha [] env)
      refine args_cons (E0 _ a' nt env ha ρ H _ _ h1 A h₀ L m μ exs s _ E C S hE fun h' tk μ' val S' p' rv => args_nil ?_) (star_ne ha [] env)
      obtain ⟨t, rfl⟩ := rv
      exact call_int_int (k h' tk μ' _ S' p' ⟨t, rfl⟩)
    | _ => cases h2
  split at ht
  · -- min
    rename_i hb
    obtain ⟨⟨a, b⟩, h0, ht2⟩ := Option.bind_eq_some_iff.mp ht
    obtain rfl := two_eq h0
    obtain ⟨a', ha, ht3⟩ := Option.bind_eq_some_iff.mp ht2
    obtain ⟨b', hb', rfl⟩ := Option.map_eq_some_iff.mp ht3
    obtain ⟨⟨v1, H1⟩, h1, h2⟩ := Option.bind_eq_some_iff.mp he
    obtain ⟨⟨v2, H2⟩, h3, h4⟩ := Option.bind_eq_some_iff.mp h2
    obtain ⟨vv, h5, h6⟩ := Option.map_eq_some_iff.mp h4
    obtain ⟨rfl, rfl⟩ := pair_inj h6
    refine Call_ (builtin_name C G S hb (by decide) (by boot_by_name) (by decide) (by decide) ?_)
    refine PyProof.Rows.callWith_builtin1 ?_ (star_ne ha [b] env) (by rw [star_ne hb' [] env]; rfl)
    refine args_cons (E0 _ a' nt env ha ρ H v1 H1 h1 A h₀ L m μ exs s _ E C S hE fun h' tk μ' val S' p' rv => ?_) (star_ne ha [b] env)
    refine args_cons (E0 _ b' nt env hb' ρ H1 v2 _ h3 A h₀ L m μ' exs _ _ E C S' (hE.mono p') fun h'' tk' μ'' val' S'' p'' rv' => args_nil ?_) (star_ne hb' [] env)
    exact min_ok (s := { s with heap := h'', toks := tk' }) C.hh S'' (rv.mono p'') rv' h5 (Ok.next k (p'.trans p''))
  -- a def's call
  cases args with
  | nil => cases ht
  | cons a rest =>
    obtain ⟨f, hf, ht2⟩ := Option.bind_eq_some_iff.mp ht
    obtain ⟨es, hes, rfl⟩ := Option.map_eq_some_iff.mp ht2
    obtain ⟨⟨v1, H1⟩, h1, h2⟩ := Option.bind_eq_some_iff.mp he
    cases v1 with
    | fn g =>
      obtain ⟨⟨vs, H2⟩, h3, h4⟩ := Option.bind_eq_some_iff.mp h2
      obtain ⟨a', ha, hes2⟩ := Option.bind_eq_some_iff.mp hes
      obtain ⟨r', hr, _⟩ := Option.map_eq_some_iff.mp hes2
      refine Call_ (name_ok C G S hE hf h1 fun h' tk μ' val S' p' rv => ?_)
      cases rv
      refine callWith_K C.KI (Ck.keep g _ _ _ h4) ?_ (star_ne ha rest env) (stars_plain env pos hr)
      refine V0 (a :: rest) es nt env pos hes ρ H1 vs H2 h3 A h₀ L m μ' exs _ _ E C S' (hE.mono p') fun h'' tk' μ'' vals S'' p'' rvs => ?_
      exact ⟨C.KI.keeps S''.F.keep, Ck.ok g vs H2 v H' h4 A env h₀ L m μ'' exs { s with heap := h'', toks := tk' } vals Q E C S'' rvs (Ok.next k (p'.trans p''))⟩
    | _ => cases h2

theorem cut_case {n : Nat} (E0 : EvOK prog w K p loose mean mg mb fa g0 gl cs call d n) {A : Around} {h₀ : Heap} {L : Addr} {m : Str → Option Value} {μ : List Addr} {exs : List (Addr × Obj)} {s : Shared} {E : Value → Shared → Prop} {Q : Value → Shared → Prop} {env : Env}
    {nt : List (Str × Nat)} {ρ : List AV} {H H' : AH} {v : AV} {vv : PySem.Expr} {lo hi : Option PySem.Expr} {p1 p2 : Pos} {e' : Ex} (ht : trCut (trE gl cs n env.scope.names nt) vv lo hi = some e') (he : ev call e' ρ H = some (v, H'))
    (C : Cx K p loose mean mg mb A env h₀ L d) (S : SR fa g0 h₀ L s.heap m μ H exs) (hE : EOK fa L env nt ρ μ m exs) (k : Ok fa g0 h₀ L m μ exs s v H' Q) : wpAny (model prog w) A (eval (.Subscript vv (.Slice lo hi .none p1) p2) env) Q E s := by
  obtain ⟨hn, ht2⟩ := some_if ht
  obtain ⟨v', hv, ht3⟩ := Option.bind_eq_some_iff.mp ht2
  obtain ⟨lo', hlo, ht4⟩ := Option.bind_eq_some_iff.mp ht3
  obtain ⟨hi', hhi, rfl⟩ := Option.map_eq_some_iff.mp ht4
  obtain ⟨⟨v1, H1⟩, h1, h2⟩ := Option.bind_eq_some_iff.mp he
  obtain ⟨⟨v2, H2⟩, h3, h4⟩ := Option.bind_eq_some_iff.mp h2
  obtain ⟨⟨v3, H3⟩, h5, h6⟩ := Option.bind_eq_some_iff.mp h4
  have part : ∀ (o : Option PySem.Expr) (o' : Ex), trPart (trE gl cs n env.scope.names nt) o = some o' → ∀ H v H', ev call o' ρ H = some (v, H') → ∀ μ (s : Shared) Q, SR fa g0 h₀ L s.heap m μ H exs → EOK fa L env nt ρ μ m exs →
      Ok fa g0 h₀ L m μ exs s v H' Q → wpAny (model prog w) A (evalPart o env) Q E s := fun o o' ho H v H' he μ s Q S hE k => by
    cases o with
    | none =>
      obtain rfl := Option.some.inj ho
      obtain ⟨rfl, rfl⟩ := some_pair he
      rw [evalPart_none]
      exact wpAny_pure (k.here S rfl)
    | some l =>
      rw [evalPart_some]
      exact E0 l o' nt env ho ρ H v H' he A h₀ L m μ exs s Q E C S hE k
  refine wpAny_Subscript_list_slice ?_ (by
    intro o r
    cases vv <;> first | rfl | cases hn)
  refine E0 vv v' nt env hv ρ H v1 H1 h1 A h₀ L m μ exs s _ E C S hE fun h' tk μ' val S' p' rv => ?_
  refine part lo lo' hlo H1 v2 H2 h3 μ' _ _ S' (hE.mono p') fun h'' tk' μ'' val' S'' p'' rv' => ?_
  refine part hi hi' hhi H2 v3 H3 h5 μ'' _ _ S'' (hE.mono (p'.trans p'')) fun h3 tk3 μ3 val3 S3 p3 rv3 => ?_
  exact cut_ok (s := { s with heap := h3, toks := tk3 }) S3 (rv.mono (p''.trans p3)) (rv'.mono p3) rv3 h6 (Ok.next k ((p'.trans p'').trans p3))

theorem ev_succ {n : Nat} (G : Gl K fa g0 gl) (Ck : CallOK prog w K p loose mean mg mb fa g0 call d) (E0 : EvOK prog w K p loose mean mg mb fa g0 gl cs call d n) (T0 : TstOK prog w K p loose mean mg mb fa g0 gl cs call d n) :
    EvOK prog w K p loose mean mg mb fa g0 gl cs call d (n + 1) := by
  have V0 := evs_of E0
  intro e e' nt env ht ρ H v H' he A h₀ L m μ exs s Q E C S hE k
  cases e with
  | Constant c kk pos =>
    cases c with
    | int i =>
      obtain rfl := Option.some.inj ht
      obtain ⟨rfl, rfl⟩ := some_pair he
      exact wpAny_Constant_int (k.int S _ _)
    | bool b =>
      obtain rfl := Option.some.inj ht
      obtain ⟨rfl, rfl⟩ := some_pair he
      exact wpAny_Constant_bool (k.here S rfl)
    | _ => cases ht
  | Name x pos => exact name_ok C G S hE ht he k
  | BinOp l op r pos =>
    obtain ⟨o, ho, ht2⟩ := Option.bind_eq_some_iff.mp ht
    obtain ⟨l', hl, ht3⟩ := Option.bind_eq_some_iff.mp ht2
    obtain ⟨r', hr, rfl⟩ := Option.map_eq_some_iff.mp ht3
    obtain ⟨⟨v1, H1⟩, h1, h2⟩ := Option.bind_eq_some_iff.mp he
    obtain ⟨⟨v2, H2⟩, h3, h4⟩ := Option.bind_eq_some_iff.mp h2
    obtain rfl := bop_eq ho
    refine wpAny_BinOp (E0 _ l' nt env hl ρ H v1 H1 h1 A h₀ L m μ exs s _ E C S hE fun h' tk μ' val S' p' rv => ?_)
    refine E0 _ r' nt env hr ρ H1 v2 H2 h3 A h₀ L m μ' exs _ _ E C S' (hE.mono p') fun h'' tk' μ'' val' S'' p'' rv' => ?_
    exact binop_ok (s := { s with heap := h'', toks := tk' }) S'' (rv.mono p'') rv' h4 (Ok.next k (p'.trans p''))
  | UnaryOp op x pos =>
    cases op with
    | USub =>
      obtain ⟨x', hx, rfl⟩ := Option.map_eq_some_iff.mp ht
      obtain ⟨⟨v1, H1⟩, h1, h2⟩ := Option.bind_eq_some_iff.mp he
      cases v1 with
      | int i =>
        obtain ⟨rfl, rfl⟩ := some_pair h2
        refine wpAny_UnaryOp (E0 _ x' nt env hx ρ H _ _ h1 A h₀ L m μ exs s _ E C S hE fun h' tk μ' val S' p' rv => ?_)
        obtain ⟨t, rfl⟩ := rv
        exact P.neg_int (k h' _ μ' _ S' p' ⟨_, rfl⟩)
      | _ => cases h2
    | Not =>
      obtain ⟨x', hx, rfl⟩ := Option.map_eq_some_iff.mp ht
      obtain ⟨⟨v1, H1⟩, h1, h2⟩ := Option.bind_eq_some_iff.mp he
      obtain ⟨b, hb, h3⟩ := Option.map_eq_some_iff.mp h2
      obtain ⟨rfl, rfl⟩ := pair_inj h3
      refine wpAny_UnaryOp (E0 _ x' nt env hx ρ H v1 _ h1 A h₀ L m μ exs s _ E C S hE fun h' tk μ' val S' p' rv => ?_)
      exact not_value (truthy_ok rv hb (k h' tk μ' _ S' p' rfl))
    | _ => cases ht
  | BoolOp op vs pos =>
    cases op with
    | Or => cases ht
    | And =>
      obtain ⟨⟨x, y⟩, hz, ht2⟩ := Option.bind_eq_some_iff.mp ht
      obtain ⟨x', hx, ht3⟩ := Option.bind_eq_some_iff.mp ht2
      obtain ⟨y', hy, rfl⟩ := Option.map_eq_some_iff.mp ht3
      obtain rfl := two_eq hz
      obtain ⟨⟨v1, H1⟩, h1, h2⟩ := Option.bind_eq_some_iff.mp he
      obtain ⟨b, hb, h3⟩ := Option.bind_eq_some_iff.mp h2
      refine wpAny_And2 (E0 _ x' nt env hx ρ H v1 H1 h1 A h₀ L m μ exs s _ E C S hE fun h' tk μ' val S' p' rv => ?_)
      refine truthy_ok rv hb ?_
      cases b with
      | false =>
        obtain ⟨rfl, rfl⟩ := some_pair h3
        exact k h' tk μ' val S' p' rv
      | true => exact E0 _ y' nt env hy ρ H1 v H' h3 A h₀ L m μ' exs _ _ E C S' (hE.mono p') (Ok.next k p')
  | Compare l ops rs pos =>
    obtain ⟨op, ho, ht2⟩ := Option.bind_eq_some_iff.mp ht
    obtain ⟨r, hr, ht3⟩ := Option.bind_eq_some_iff.mp ht2
    obtain ⟨hbm, ht4⟩ := none_if ht3
    obtain rfl := one_eq ho
    obtain rfl := one_eq hr
    obtain ⟨c, rfl, hk⟩ := cmp_core E0 ht4 he (E := E) C S hE
    exact wpAny_Compare1 (hk _ fun h' tk μ' S' p' => k h' tk μ' _ S' p' rfl) (Bool.eq_false_iff.mpr hbm)
  | IfExp t a b pos =>
    obtain ⟨htk, ht2⟩ := some_if ht
    obtain ⟨t', h1, ht3⟩ := Option.bind_eq_some_iff.mp ht2
    obtain ⟨a', h2, ht4⟩ := Option.bind_eq_some_iff.mp ht3
    obtain ⟨b', h3, rfl⟩ := Option.map_eq_some_iff.mp ht4
    obtain ⟨⟨v1, H1⟩, h4, h5⟩ := Option.bind_eq_some_iff.mp he
    obtain ⟨c, hc, h6⟩ := Option.bind_eq_some_iff.mp h5
    refine wpAny_IfExp (T0 _ t' nt env htk h1 ρ H v1 H1 c h4 hc A h₀ L m μ exs s _ E C S hE fun h' tk μ' S' p' => ?_)
    cases c with
    | true => exact E0 _ a' nt env h2 ρ H1 v H' h6 A h₀ L m μ' exs _ _ E C S' (hE.mono p') (Ok.next k p')
    | false => exact E0 _ b' nt env h3 ρ H1 v H' h6 A h₀ L m μ' exs _ _ E C S' (hE.mono p') (Ok.next k p')
  | List es pos =>
    obtain ⟨es', h1, rfl⟩ := Option.map_eq_some_iff.mp ht
    obtain ⟨⟨vs, H1⟩, h2, h3⟩ := Option.bind_eq_some_iff.mp he
    obtain ⟨hc, h4⟩ := some_if h3
    obtain ⟨rfl, rfl⟩ := some_pair h4
    refine wpAny_List (V0 _ es' nt env _ h1 ρ H vs H1 h2 A h₀ L m μ exs s _ E C S hE fun h' tk μ' vals S' p' rv => ?_)
    exact ⟨rv.length ▸ Nat.le_trans hc cap_line, Ok.push (s := { s with heap := h', toks := tk }) S' rv (Ok.next k p')⟩
  | Tuple es kk pos =>
    obtain ⟨es', h1, rfl⟩ := Option.map_eq_some_iff.mp ht
    obtain ⟨⟨vs, H1⟩, h2, h3⟩ := Option.bind_eq_some_iff.mp he
    obtain ⟨hc, h4⟩ := some_if h3
    obtain ⟨rfl, rfl⟩ := some_pair h4
    refine wpAny_Tuple (V0 _ es' nt env _ h1 ρ H vs H1 h2 A h₀ L m μ exs s _ E C S hE fun h' tk μ' vals S' p' rv => ?_)
    exact ⟨rv.length ▸ Nat.le_trans hc cap_line, Ok.pushT (s := { s with heap := h', toks := tk }) S' rv (Ok.next k p')⟩
  | Call f args kws pos =>
    obtain ⟨hkw, ht2⟩ := some_if ht
    obtain rfl := List.isEmpty_iff.mp hkw
    cases f with
    | Attribute o name apos =>
      obtain ⟨hc, ht3⟩ := some_if ht2
      obtain ⟨hc1, hc2⟩ := Bool.and_eq_true_iff.mp hc
      split at ht3
      · split at ht3
        · rename_i hn
          subst hn
          obtain ⟨o', ho, ht4⟩ := Option.bind_eq_some_iff.mp ht3
          obtain ⟨x', hx, rfl⟩ := Option.map_eq_some_iff.mp ht4
          exact append_case E0 hc2 hc1 ho hx he C S hE k
        · obtain ⟨hn, ht4⟩ := some_if ht3
          subst hn
          obtain ⟨o', ho, ht5⟩ := Option.bind_eq_some_iff.mp ht4
          obtain ⟨x', hx, rfl⟩ := Option.map_eq_some_iff.mp ht5
          exact index_case E0 hc2 hc1 ho hx he C S hE k
      · obtain ⟨hn, ht4⟩ := some_if ht3
        subst hn
        obtain ⟨o', ho, rfl⟩ := Option.map_eq_some_iff.mp ht4
        exact bitlen_case E0 hc2 hc1 ho he C S hE k
      · cases ht3
    | Name x xp => exact named_case G Ck E0 ht2 he C S hE k
    | _ => cases ht2
  | Subscript vv i pos =>
    change trSub _ vv i = some e' at ht
    unfold trSub at ht
    split at ht
    · rename_i z _
      obtain ⟨⟨lo, hi, sp⟩, rfl⟩ := z
      exact cut_case E0 ht he C S hE k
    · obtain ⟨v', hv, ht2⟩ := Option.bind_eq_some_iff.mp ht
      obtain ⟨i', hi, rfl⟩ := Option.map_eq_some_iff.mp ht2
      obtain ⟨⟨v1, H1⟩, h1, h2⟩ := Option.bind_eq_some_iff.mp he
      obtain ⟨⟨v2, H2⟩, h3, h4⟩ := Option.bind_eq_some_iff.mp h2
      obtain ⟨v3, h5, h6⟩ := Option.map_eq_some_iff.mp h4
      obtain ⟨rfl, rfl⟩ := pair_inj h6
      refine Subscript_ (E0 vv v' nt env hv ρ H v1 H1 h1 A h₀ L m μ exs s _ E C S hE fun h' tk μ' val S' p' rv => ?_)
      refine E0 i i' nt env hi ρ H1 v2 _ h3 A h₀ L m μ' exs _ _ E C S' (hE.mono p') fun h'' tk' μ'' val' S'' p'' rv' => ?_
      exact item_ok (s := { s with heap := h'', toks := tk' }) S'' (rv.mono p'') rv' h5 (sub_plain hi _) fun val3 rv3 => k h'' tk' μ'' val3 S'' (p'.trans p'') rv3
  | ListComp elt gens sc pos =>
    rw [eval_ListComp]
    refine comp_gen G E0 ht he (E := E) (Q := Q) .none C S hE (fun D Cc o' h' tk μ' S' hd hne p' rv => ?_)
    obtain ⟨es, ep, hd1, hd2⟩ := hd
    refine ⟨nsFind es, ⟨o', es, ep, (S'.exN _ (.head _)).1, hd1, hd2, fun _ => rfl⟩, fun h'' hs => ?_⟩
    exact k h'' tk μ' _ (S'.dropI hne hs.extBut) p' rv
  | _ => exact nomatch (show false = true from trE_supp ht)

theorem ev_all (G : Gl K fa g0 gl) (Ck : CallOK prog w K p loose mean mg mb fa g0 call d) : ∀ n, EvOK prog w K p loose mean mg mb fa g0 gl cs call d n ∧ TstOK prog w K p loose mean mg mb fa g0 gl cs call d n
  | 0 => ⟨fun e e' nt env ht => (by cases ht), fun e e' nt env _ ht => (by cases ht)⟩
  | n + 1 =>
    have ih := ev_all G Ck n
    have E1 := ev_succ G Ck ih.1 ih.2
    ⟨E1, tst_of E1 ih.2 ih.1⟩
end
end Mine
end

section
open PySem PySem.W PySem.Calls PyProof.Rows
namespace Mine

inductive All2 {α β : Type} (R : α → β → Prop) : List α → List β → Prop
  | nil : All2 R [] []
  | cons {a : α} {b : β} {l : List α} {r : List β} : R a b → All2 R l r → All2 R (a :: l) (b :: r)

structure Fk (env : Env) (nt : List (Str × Nat)) (L : Addr) (ca : List Addr) : Prop where
  loc : env.locals = L
  ninj : ∀ y y' i, nt.lookup y = some i → nt.lookup y' = some i → y = y'
  cin : ∀ y c, env.scope.names.lookup y = some .cell → env.cells.lookup y = some c → c ∈ ca
  cinj : ∀ y y' c, env.scope.names.lookup y = some .cell → env.scope.names.lookup y' = some .cell → env.cells.lookup y = some c → env.cells.lookup y' = some c → y = y'
  nofree : ∀ y, env.scope.names.lookup y ≠ some .free

structure SS (fa : Nat → Addr) (g0 : List Addr) (h₀ : Heap) (L : Addr) (env : Env) (nt : List (Str × Nat)) (ca : List Addr) (exs : List (Addr × Obj)) (h : Heap) (m : Str → Option Value) (μ : List Addr) (H : AH) (ρ : List AV) (cl : List (Addr × Obj)) : Prop where
  S : SR fa g0 h₀ L h m μ H (cl ++ exs)
  E : EOK fa L env nt ρ μ m (cl ++ exs)
  ad : cl.map (·.1) = ca
  cell : ∀ q ∈ cl, ∃ v, q.2.data = .cell v
  apart : ∀ q ∈ exs, q.1 ∉ ca

noncomputable def RFl (fa : Nat → Addr) (μ : List Addr) : Fl → Flow → Prop
  | .nxt, f => f = .next
  | .ret v, f => ∃ val, RV fa μ v val ∧ f = .ret val

section
variable {prog : Program} {w : World} {K : Frag} {p : Program} {loose : List Str} {mean : ExcName → Option Value} {mg mb : Str → Option Value} {fa : Nat → Addr} {g0 : List Addr} {gl : List (Str × AV)} {cs : List (Str × Nat)}
  {call : Nat → List AV → AH → Option (AV × AH)} {d : Nat} {A : Around} {env : Env} {h₀ : Heap} {L : Addr} {nt : List (Str × Nat)} {ca : List Addr} {exs : List (Addr × Obj)}

theorem store_ok {x : Str} {i : Nat} {v : AV} {val : Value} {m : Str → Option Value} {μ : List Addr} {H : AH} {ρ : List AV} {cl : List (Addr × Obj)} {s : Shared} {E : Value → Shared → Prop} {Q : Unit → Shared → Prop}
    (C : Cx K p loose mean mg mb A env h₀ L d) (Fk0 : Fk env nt L ca) (hx : env.scope.names.lookup x = some .local ∨ env.scope.names.lookup x = some .cell) (hi : nt.lookup x = some i)
    (T : SS fa g0 h₀ L env nt ca exs s.heap m μ H ρ cl) (rv : RV fa μ v val)
    (k : ∀ h' tk m' cl', SS fa g0 h₀ L env nt ca exs h' m' μ H (ρ.set i v) cl' → Q () { s with heap := h', toks := tk }) : wpAny (model prog w) A (storeName env x val) Q E s := by
  have hkk : (env.scope.kind == .class || (env.scope.kind == .module && env.locals != env.globals)) = false := by rw [C.kf]; rfl
  have back : ∀ y j u, nt.lookup y = some j → (ρ.set i v)[j]? = some u → (y = x ∧ u = v) ∨ (y ≠ x ∧ ρ[j]? = some u) := fun y j u h1 h2 => by
    by_cases hy : y = x
    · subst hy
      rw [hi] at h1; cases h1
      have hl : i < ρ.length := by
        rcases Nat.lt_or_ge i ρ.length with h3 | h3
        · exact h3
        · rw [List.getElem?_eq_none (by simpa using h3)] at h2; cases h2
      rw [List.getElem?_set_self hl] at h2
      exact .inl ⟨rfl, (Option.some.inj h2).symm⟩
    · have hji : j ≠ i := fun q => hy (Fk0.ninj y x i (q ▸ h1) hi)
      rw [List.getElem?_set_ne (Ne.symm hji)] at h2
      exact .inr ⟨hy, h2⟩
  rcases hx with hx | hx
  · refine wpAny_storeName_local hx (Fk0.loc ▸ T.S.F.ns) (fun h' hn hs => ?_) hkk
    rw [Fk0.loc] at hn hs
    refine k h' (s.toks + 1) _ cl ⟨T.S.local_ hn hs, fun y j u h1 h2 hok kk hk hk3 => ?_, T.ad, T.cell, T.apart⟩
    rcases back y j u h1 h2 with ⟨rfl, rfl⟩ | ⟨hy, h3⟩
    · rw [hx] at hk; cases hk
      exact ⟨val, rv, .inl ⟨Fk0.loc, by simp⟩⟩
    · obtain ⟨val', r', z⟩ := T.E y j u h1 h3 hok kk hk hk3
      refine ⟨val', r', ?_⟩
      rcases hk3 with q | q | q <;> subst q
      · rcases z with ⟨z1, z2⟩ | z
        · exact .inl ⟨z1, by simp [hy, z2]⟩
        · exact .inr z
      · exact z
      · exact z
  · obtain ⟨c, hc⟩ := C.cells x _ hx (.inl rfl)
    have hca := Fk0.cin x c hx hc
    rw [← T.ad] at hca
    obtain ⟨q, hq, hqc⟩ := List.mem_map.mp hca
    obtain ⟨v0, hv0⟩ := T.cell q hq
    have hN := T.S.exN q (List.mem_append_left _ hq)
    rw [hqc] at hN
    refine wpAny_storeName_cell (v₀ := v0) C.kf hx hc ⟨q.2, hN.1, hv0⟩ fun h' hi' hs => ?_
    obtain ⟨o', ho', hd'⟩ := hi'
    have hrep : ∀ z ∈ cl.map (fun z => if z.1 = c then (c, o') else z), (z.1 ≠ c ∧ z ∈ cl) ∨ (z = (c, o')) := fun z hz => by
      obtain ⟨z0, h1, h2⟩ := List.mem_map.mp hz
      split at h2
      · exact .inr h2.symm
      · rename_i hne; subst h2; exact .inl ⟨hne, h1⟩
    refine k h' s.toks m (cl.map fun z => if z.1 = c then (c, o') else z) ⟨?_, fun y j u h1 h2 hok kk hk hk3 => ?_, ?_, ?_, T.apart⟩
    · have hd := T.S.exd q (List.mem_append_left _ hq)
      rw [hqc] at hd
      refine T.S.turn hN.2.2 hN.2.1 hd (fun b hb o e => (hs.2 b hb).trans e) fun z hz => ?_
      rcases List.mem_append.mp hz with hz | hz
      · rcases hrep z hz with ⟨a1, a2⟩ | rfl
        · exact .inl ⟨a1, List.mem_append_left _ a2⟩
        · exact .inr ⟨rfl, ho'⟩
      · exact .inl ⟨fun e => T.apart z hz (e ▸ Fk0.cin x c hx hc), List.mem_append_right _ hz⟩
    · have keep : ∀ c' o, c' ≠ c → (c', o) ∈ cl ++ exs → (c', o) ∈ (cl.map fun z => if z.1 = c then (c, o') else z) ++ exs := fun c' o hne hm => by
        rcases List.mem_append.mp hm with hm | hm
        · exact List.mem_append_left _ (List.mem_map.mpr ⟨(c', o), hm, by simp [hne]⟩)
        · exact List.mem_append_right _ hm
      rcases back y j u h1 h2 with ⟨rfl, rfl⟩ | ⟨hy, h3⟩
      · rw [hx] at hk; cases hk
        refine ⟨val, rv, c, o', hc, List.mem_append_left _ (List.mem_map.mpr ⟨q, hq, by simp [hqc]⟩), hd'⟩
      · obtain ⟨val', r', z⟩ := T.E y j u h1 h3 hok kk hk hk3
        refine ⟨val', r', ?_⟩
        rcases hk3 with e | e | e <;> subst e
        · rcases z with z | ⟨o, es, ep, z1, z2⟩
          · exact .inl z
          · refine .inr ⟨o, es, ep, keep _ _ (fun e => ?_) z1, z2⟩
            rw [Fk0.loc] at e; exact hN.2.1 e.symm
        · obtain ⟨c', o, z1, z2, z3⟩ := z
          exact ⟨c', o, z1, keep _ _ (fun e => hy (Fk0.cinj y x c hk hx (e ▸ z1) hc)) z2, z3⟩
        · exact absurd hk (Fk0.nofree y)
    · rw [← T.ad, List.map_map]
      apply List.map_congr_left
      intro z _
      simp only [Function.comp]
      split
      · rename_i e; exact e.symm
      · rfl
    · intro z hz
      rcases hrep z hz with ⟨_, a2⟩ | rfl
      · exact T.cell z a2
      · exact ⟨_, hd'⟩

theorem SS.grow {m : Str → Option Value} {μ : List Addr} {H : AH} {ρ : List AV} {cl : List (Addr × Obj)} {h h' : Heap} (T : SS fa g0 h₀ L env nt ca exs h m μ H ρ cl) (k : ∀ b o, h.get? b = some o → h'.get? b = some o) :
    SS fa g0 h₀ L env nt ca exs h' m μ H ρ cl := ⟨T.S.grow k, T.E, T.ad, T.cell, T.apart⟩
theorem SS.after {m : Str → Option Value} {μ μ' : List Addr} {H H' : AH} {ρ : List AV} {cl : List (Addr × Obj)} {h h' : Heap} (T : SS fa g0 h₀ L env nt ca exs h m μ H ρ cl) (S' : SR fa g0 h₀ L h' m μ' H' (cl ++ exs)) (p : μ <+: μ') :
    SS fa g0 h₀ L env nt ca exs h' m μ' H' ρ cl := ⟨S', T.E.mono p, T.ad, T.cell, T.apart⟩

noncomputable def SOk (fa : Nat → Addr) (g0 : List Addr) (h₀ : Heap) (L : Addr) (env : Env) (nt : List (Str × Nat)) (ca : List Addr) (exs : List (Addr × Obj)) (μ : List Addr) (s : Shared) (fl : Fl) (ρ' : List AV) (H' : AH) (Q : Flow → Shared → Prop) : Prop :=
  ∀ h' tk μ' m' cl' flv, SS fa g0 h₀ L env nt ca exs h' m' μ' H' ρ' cl' → μ <+: μ' → RFl fa μ' fl flv → Q flv { s with heap := h', toks := tk }
theorem SOk.next {μ μ' : List Addr} {s : Shared} {fl : Fl} {ρ' : List AV} {H' : AH} {Q : Flow → Shared → Prop} (k : SOk fa g0 h₀ L env nt ca exs μ s fl ρ' H' Q) {h₁ : Heap} {tk₁ : Nat} (q : μ <+: μ') :
    SOk fa g0 h₀ L env nt ca exs μ' { s with heap := h₁, toks := tk₁ } fl ρ' H' Q := fun h' tk μ'' m' cl' flv T p r => k h' tk μ'' m' cl' flv T (q.trans p) r

theorem stores_ok {E : Value → Shared → Prop} {H : AH} {μ : List Addr} (C : Cx K p loose mean mg mb A env h₀ L d) (Fk0 : Fk env nt L ca) : ∀ (xs : List Str) (is : List Nat) (vs : List AV) (vals : List Value) (ρ ρ' : List AV) (m : Str → Option Value) (cl : List (Addr × Obj)) (s : Shared) (Q : Unit → Shared → Prop)
    (fs : List (Value → Sem Unit)), (All2 (fun x (i : Nat) => (env.scope.names.lookup x = some .local ∨ env.scope.names.lookup x = some .cell) ∧ nt.lookup x = some i) xs is) → setAll is vs ρ = some ρ' → RVs fa μ vs vals →
    All2 (fun x (f : Value → Sem Unit) => ∀ v (s : Shared) Q, wpAny (model prog w) A (storeName env x v) Q E s → wpAny (model prog w) A (f v) Q E s) xs fs → SS fa g0 h₀ L env nt ca exs s.heap m μ H ρ cl →
    (∀ h' tk m' cl', SS fa g0 h₀ L env nt ca exs h' m' μ H ρ' cl' → Q () { s with heap := h', toks := tk }) → wpAny (model prog w) A (assignInOrder fs vals) Q E s := by
  intro xs
  induction xs with
  | nil =>
    intro is vs vals ρ ρ' m cl s Q fs h1 h2 h3 h4 T k
    cases h1; cases h4
    match vs, vals, h3 with
    | [], [], _ =>
      cases h2
      exact wpAny_pure (k s.heap s.toks m cl T)
    | _ :: _, _, _ => cases h2
  | cons x xs ih =>
    intro is vs vals ρ ρ' m cl s Q fs h1 h2 h3 h4 T k
    cases h1 with
    | cons hx h1 =>
      cases h4 with
      | cons hf h4 =>
        match vs, vals, h3 with
        | [], [], _ => cases h2
        | v :: vs, val :: vals, ⟨r1, r2⟩ =>
          refine wpAny_bind (wpAny_holding (hf val s _ (store_ok C Fk0 hx.1 hx.2 T r1 fun h' tk m' cl' T' => ?_)))
          exact ih _ vs vals _ ρ' m' cl' { s with heap := h', toks := tk } Q _ h1 h2 r2 h4 T' fun h'' tk' m'' cl'' T'' => k h'' tk' m'' cl'' T''
end
end Mine
end

section
open PySem PySem.W PySem.Calls PyProof.Rows
namespace Mine
section
variable (prog : Program) (w : World) (K : Frag) (p : Program) (loose : List Str) (mean : ExcName → Option Value) (mg mb : Str → Option Value) (fa : Nat → Addr) (g0 : List Addr) (gl : List (Str × AV)) (cs : List (Str × Nat))
  (call : Nat → List AV → AH → Option (AV × AH)) (d : Nat)

noncomputable def StOK (n : Nat) : Prop := ∀ (st : Stmt) (st' : St) (nt : List (Str × Nat)) (env : Env), trS gl cs n env.scope.names nt st = some st' → ∀ ρ H fl ρ' H', ex call st' ρ H = some (fl, ρ', H') →
  ∀ A h₀ L ca exs m μ cl (s : Shared) Q E, Cx K p loose mean mg mb A env h₀ L d → Fk env nt L ca → SS fa g0 h₀ L env nt ca exs s.heap m μ H ρ cl → SOk fa g0 h₀ L env nt ca exs μ s fl ρ' H' Q → wpAny (model prog w) A (exec st env) Q E s
noncomputable def BlOK (n : Nat) : Prop := ∀ (b : List Stmt) (b' : St) (nt : List (Str × Nat)) (env : Env), trB (trS gl cs n env.scope.names nt) b = some b' → ∀ ρ H fl ρ' H', ex call b' ρ H = some (fl, ρ', H') →
  ∀ A h₀ L ca exs m μ cl (s : Shared) Q E, Cx K p loose mean mg mb A env h₀ L d → Fk env nt L ca → SS fa g0 h₀ L env nt ca exs s.heap m μ H ρ cl → SOk fa g0 h₀ L env nt ca exs μ s fl ρ' H' Q → wpAny (model prog w) A (execs b env) Q E s
end

section
variable {prog : Program} {w : World} {K : Frag} {p : Program} {loose : List Str} {mean : ExcName → Option Value} {mg mb : Str → Option Value} {fa : Nat → Addr} {g0 : List Addr} {gl : List (Str × AV)} {cs : List (Str × Nat)}
  {call : Nat → List AV → AH → Option (AV × AH)} {d : Nat} {A : Around} {env : Env} {h₀ : Heap} {L : Addr} {nt : List (Str × Nat)} {ca : List Addr} {exs : List (Addr × Obj)}

theorem bl_of {n : Nat} (h : StOK prog w K p loose mean mg mb fa g0 gl cs call d n) : BlOK prog w K p loose mean mg mb fa g0 gl cs call d n := by
  intro b
  induction b with
  | nil =>
    intro b' nt env ht ρ H fl ρ' H' he A h₀ L ca exs m μ cl s Q E C F T k
    simp only [trB] at ht; cases ht
    cases he
    exact wpAny_execs_nil (k s.heap s.toks μ m cl .next T (List.prefix_refl _) rfl)
  | cons st r ih =>
    intro b' nt env ht ρ H fl ρ' H' he A h₀ L ca exs m μ cl s Q E C F T k
    unfold trB at ht
    obtain ⟨st', h1, h2⟩ := Option.bind_eq_some_iff.mp ht
    obtain ⟨r', h3, rfl⟩ := Option.map_eq_some_iff.mp h2
    obtain ⟨⟨fl1, ρ1, H1⟩, h4, h5⟩ := Option.bind_eq_some_iff.mp he
    refine wpAny_execs_cons (h st st' nt env h1 ρ H fl1 ρ1 H1 h4 A h₀ L ca exs m μ cl s _ E C F T fun h' tk μ' m' cl' flv T' p' rf => ?_)
    cases fl1 with
    | nxt =>
      cases rf
      exact ih r' nt env h3 ρ1 H1 fl ρ' H' h5 A h₀ L ca exs m' μ' cl' _ Q E C F T' (k.next p')
    | ret v =>
      cases h5
      obtain ⟨val, rv, rfl⟩ := rf
      exact k h' tk μ' m' cl' _ T' p' ⟨val, rv, rfl⟩

theorem put_ok {m : Str → Option Value} {μ : List Addr} {H H' : AH} {s : Shared} {E : Value → Shared → Prop} {Q : Unit → Shared → Prop} {o i v : AV} {vo vi vv : Value}
    (S : SR fa g0 h₀ L s.heap m μ H exs) (ro : RV fa μ o vo) (ri : RV fa μ i vi) (rv : RV fa μ v vv) (e : putAt o i v H = some H') (k : ∀ h', SR fa g0 h₀ L h' m μ H' exs → Q () { s with heap := h' }) :
    wpAny (model prog w) A (setItem vo vi vv) Q E s := by
  unfold putAt at e
  split at e
  · rename_i q kk
    obtain ⟨al, ha, rfl⟩ := ro
    obtain ⟨t, rfl⟩ := ri
    split at e
    · rename_i hf
      obtain ⟨xs, hx, e⟩ := Option.bind_eq_some_iff.mp e
      split at e
      · rename_i hb
        cases e
        obtain ⟨vs, n1, o1, ho1, hc1, hd1, r1⟩ := S.list? hx ha
        obtain ⟨q1, q2⟩ := S.pln q al o1 hf ha ho1
        have ho1' : s.heap.get? al = some (W.listOf vs.toArray n1) := by
          rw [ho1]; obtain ⟨c, dd, dt, sl⟩ := o1; simp only at hc1 hd1 q1 q2; subst hc1 hd1 q1 q2; rfl
        have hlen := r1.length
        rw [cap_eqS] at hb
        refine ki_setAt ho1' hb.1 (by omega) (by simp; omega) (k _ ?_)
        have hu := Heap.get?_update_self (h := s.heap) (Obj.mapSeq fun x => x.setIfInBounds kk.toNat vv) ho1' rfl
        refine S.change (ao := .list (xs.set kk.toNat v)) ha hf (Heap.SameBut.update ..) hu ⟨vs.set kk.toNat vv, n1, rfl, ?_, r1.set rv _⟩ ⟨rfl, rfl⟩
        simp [Obj.mapSeq]
      · cases e
    · cases e
  · cases e

theorem assign_sub {M : Model} {s : Shared} {E : Value → Shared → Prop} {Q : Unit → Shared → Prop} {o i : PySem.Expr} {pos : Pos} {v : Value}
    (h : wpAny M A (eval o env) (fun ov s₁ => wpAny M A (eval i env) (fun iv s₂ => wpAny M A (setItem ov iv v) Q E s₂) E s₁) E s) : wpAny M A (assign (.Subscript o i pos) env v) Q E s := fun Γ p hΓ => by
  simp only [assign_Subscript, Sem.wp_bind', Sem.wp_holding, Sem.wp_cmd_standAt, Sem.wp_release]
  exact Sem.wp_mono M Γ _ (fun ov p₁ s₁ h₁ => Sem.wp_mono M Γ _ (fun iv p₂ s₂ h₂ => h₂ Γ _ hΓ) (fun _ _ _ h' => h') _ _ (h₁ Γ p₁ hΓ)) (fun _ _ _ h' => h') _ _ (h Γ p hΓ)

theorem load_ok {x : Str} {i : Nat} {v : AV} {m : Str → Option Value} {μ : List Addr} {H : AH} {ρ : List AV} {cl : List (Addr × Obj)} {s : Shared} {E : Value → Shared → Prop} {Q : Value → Shared → Prop}
    (C : Cx K p loose mean mg mb A env h₀ L d) (hx : env.scope.names.lookup x = some .local ∨ env.scope.names.lookup x = some .cell) (hi : nt.lookup x = some i) (hv : ρ[i]? = some v) (hok : okv v = some v)
    (T : SS fa g0 h₀ L env nt ca exs s.heap m μ H ρ cl) (k : ∀ val, RV fa μ v val → Q val s) : wpAny (model prog w) A (loadName env x) Q E s := by
  rcases hx with hk | hk
  · obtain ⟨val, r, z⟩ := T.E x i v hi hv hok _ hk (.inl rfl)
    rcases z with ⟨z1, z2⟩ | ⟨o, es, ep, z1, z2, z3, z4⟩
    · exact wpAny_loadName_local C.kf hk (z1 ▸ T.S.F.ns) z2 (k val r)
    · have hn : s.heap.Ns env.locals (nsFind es) := ⟨o, es, ep, (T.S.exN _ z1).1, z2, z3, fun _ => rfl⟩
      exact wpAny_loadName_local C.kf hk hn z4 (k val r)
  · obtain ⟨val, r, c, o, z1, z2, z3⟩ := T.E x i v hi hv hok _ hk (.inr (.inl rfl))
    exact wpAny_loadName_cell C.kf hk z1 ⟨o, (T.S.exN _ z2).1, z3⟩ (k val r)

theorem trT_some {kd : List (Str × NameKind)} {nt : List (Str × Nat)} {x : Str} {px : Pos} {i : Nat} (h : trT kd nt (.Name x px) = some i) : (kd.lookup x = some .local ∨ kd.lookup x = some .cell) ∧ nt.lookup x = some i := by
  simp only [trT] at h
  split at h
  · rename_i hx; exact ⟨hx, h⟩
  · cases h

inductive LRun (nx : Nat → AH → Option (Option AV)) (x : Nat) (b : Body) : Nat → Nat → List AV → AH → Fl → List AV → AH → Prop
  | stop {i : Nat} {ρ : List AV} {H : AH} : nx i H = some .none → LRun nx x b 0 i ρ H .nxt ρ H
  | next {k i : Nat} {ρ ρ₁ ρ' : List AV} {H H₁ H' : AH} {a : AV} {fl : Fl} : nx i H = some (some a) → b (ρ.set x a) H = some (.nxt, ρ₁, H₁) → LRun nx x b k (i + 1) ρ₁ H₁ fl ρ' H' → LRun nx x b (k + 1) i ρ H fl ρ' H'
  | ret {i : Nat} {ρ ρ' : List AV} {H H' : AH} {a v : AV} : nx i H = some (some a) → b (ρ.set x a) H = some (.ret v, ρ', H') → LRun nx x b 0 i ρ H (.ret v) ρ' H'

theorem lrun_forN {x : Nat} {b : Body} {lo st : Int} {N : Nat} : ∀ {k i : Nat} {ρ ρ' : List AV} {H H' : AH} {fl : Fl}, i + k = N → forN x b st k (lo + i * st) ρ H = some (fl, ρ', H') → ∃ n, LRun (nxR lo st N) x b n i ρ H fl ρ' H'
  | 0, i, ρ, ρ', H, H', fl, hk, h => by
    cases h
    exact ⟨0, .stop (by unfold nxR; rw [if_neg (by omega)])⟩
  | k + 1, i, ρ, ρ', H, H', fl, hk, h => by
    obtain ⟨⟨f1, ρ1, H1⟩, h1, h2⟩ := Option.bind_eq_some_iff.mp h
    have hn : nxR lo st N i H = some (some (.int (lo + i * st))) := by unfold nxR; rw [if_pos (by omega)]
    cases f1 with
    | nxt =>
      simp only at h2
      have e1 : lo + (i : Int) * st + st = lo + ((i + 1 : Nat) : Int) * st := by push_cast; rw [Int.add_mul, Int.one_mul, Int.add_assoc]
      rw [e1] at h2
      obtain ⟨n, hr⟩ := lrun_forN (N := N) (i := i + 1) (by omega) h2
      exact ⟨n + 1, .next hn h1 hr⟩
    | ret v =>
      cases h2
      exact ⟨0, .ret hn h1⟩

theorem lrun_forI {x : Nat} {b : Body} {q : Nat} : ∀ {k i : Nat} {ρ ρ' : List AV} {H H' : AH} {fl : Fl}, forI x b q k i ρ H = some (fl, ρ', H') → ∃ n, LRun (nxL q) x b n i ρ H fl ρ' H'
  | 0, i, ρ, ρ', H, H', fl, h => nomatch h
  | k + 1, i, ρ, ρ', H, H', fl, h => by
    obtain ⟨xs, hx, h1⟩ := Option.bind_eq_some_iff.mp h
    split at h1
    · rename_i hi
      cases h1
      exact ⟨0, .stop (by unfold nxL; rw [hx]; simp [hi])⟩
    · rename_i a hi
      have hn : nxL q i H = some (some a) := by unfold nxL; rw [hx]; simp [hi]
      obtain ⟨⟨f1, ρ1, H1⟩, h2, h3⟩ := Option.bind_eq_some_iff.mp h1
      cases f1 with
      | nxt =>
        obtain ⟨n, hr⟩ := lrun_forI h3
        exact ⟨n + 1, .next hn h2 hr⟩
      | ret v =>
        cases h3
        exact ⟨0, .ret hn h2⟩

theorem SS.swapI {m : Str → Option Value} {μ : List Addr} {H : AH} {ρ : List AV} {cl : List (Addr × Obj)} {h : Heap} {I : Addr} {o : Obj} (T : SS fa g0 h₀ L env nt ca ((I, o) :: exs) h m μ H ρ cl) :
    SR fa g0 h₀ L h m μ H ((I, o) :: (cl ++ exs)) := T.S.sub fun q hq => by
  rcases List.mem_cons.mp hq with rfl | hq
  · exact List.mem_append_right _ (.head _)
  rcases List.mem_append.mp hq with hq | hq
  · exact List.mem_append_left _ hq
  · exact List.mem_append_right _ (.tail _ hq)

theorem sr_swapI {m : Str → Option Value} {μ : List Addr} {H : AH} {cl : List (Addr × Obj)} {h : Heap} {I : Addr} {o : Obj} (S : SR fa g0 h₀ L h m μ H ((I, o) :: (cl ++ exs))) : SR fa g0 h₀ L h m μ H (cl ++ (I, o) :: exs) := S.sub fun q hq => by
  rcases List.mem_append.mp hq with hq | hq
  · exact .tail _ (List.mem_append_left _ hq)
  rcases List.mem_cons.mp hq with rfl | hq
  · exact .head _
  · exact .tail _ (List.mem_append_right _ hq)

theorem eok_more {m : Str → Option Value} {μ : List Addr} {ρ : List AV} {es es' : List (Addr × Obj)} (h : EOK fa L env nt ρ μ m es) (hs : ∀ q ∈ es, q ∈ es') : EOK fa L env nt ρ μ m es' := by
  intro y i v h1 h2 hok k hk hk3
  obtain ⟨val, r, z⟩ := h y i v h1 h2 hok k hk hk3
  refine ⟨val, r, ?_⟩
  rcases hk3 with q | q | q <;> subst q
  · rcases z with z | ⟨o, e1, ep, z1, z2⟩
    · exact .inl z
    · exact .inr ⟨o, e1, ep, hs _ z1, z2⟩
  · obtain ⟨c, o, z1, z2, z3⟩ := z; exact ⟨c, o, z1, hs _ z2, z3⟩
  · obtain ⟨c, o, z1, z2, z3⟩ := z; exact ⟨c, o, z1, hs _ z2, z3⟩

theorem eok_less {m : Str → Option Value} {μ : List Addr} {ρ : List AV} {cl : List (Addr × Obj)} {I : Addr} {o : Obj} (F : Fk env nt L ca) (h : EOK fa L env nt ρ μ m (cl ++ (I, o) :: exs)) (hIL : I ≠ L) (hIc : I ∉ ca) : EOK fa L env nt ρ μ m (cl ++ exs) := by
  have drop : ∀ c o', c ≠ I → (c, o') ∈ cl ++ (I, o) :: exs → (c, o') ∈ cl ++ exs := fun c o' hne hm => by
    rcases List.mem_append.mp hm with hm | hm
    · exact List.mem_append_left _ hm
    rcases List.mem_cons.mp hm with e | hm
    · cases e; exact absurd rfl hne
    · exact List.mem_append_right _ hm
  intro y i v h1 h2 hok k hk hk3
  obtain ⟨val, r, z⟩ := h y i v h1 h2 hok k hk hk3
  refine ⟨val, r, ?_⟩
  rcases hk3 with q | q | q <;> subst q
  · rcases z with z | ⟨o', e1, ep, z1, z2⟩
    · exact .inl z
    · exact .inr ⟨o', e1, ep, drop _ _ (fun e => hIL (e ▸ F.loc)) z1, z2⟩
  · obtain ⟨c, o', z1, z2, z3⟩ := z
    exact ⟨c, o', z1, drop _ _ (fun e => hIc (e ▸ F.cin y c hk z1)) z2, z3⟩
  · exact absurd hk (F.nofree y)

theorem for_core {n : Nat} (B0 : BlOK prog w K p loose mean mg mb fa g0 gl cs call d n) {x : Str} {px : Pos} {xi : Nat} {body : List Stmt} {body' : St} {nx : Nat → AH → Option (Option AV)} {P : Nat → Obj → Prop} {I : Addr} {oI : Obj}
    {m : Str → Option Value} {μ : List Addr} {H H' : AH} {ρ ρ' : List AV} {cl : List (Addr × Obj)} {s : Shared} {fl : Fl} {R : Result → Shared → Prop} {kk : Nat}
    (hx : (env.scope.names.lookup x = some .local ∨ env.scope.names.lookup x = some .cell) ∧ nt.lookup x = some xi) (hb : trB (trS gl cs n env.scope.names nt) body = some body') (C : Cx K p loose mean mg mb A env h₀ L d) (F : Fk env nt L ca)
    (hrun : LRun nx xi (ex call body') kk 0 ρ H fl ρ' H') (S : SR fa g0 h₀ L s.heap m μ H ((I, oI) :: (cl ++ exs))) (hne : ∀ q ∈ cl ++ exs, q.1 ≠ I) (hP : P 0 oI) (it : ItOK prog w A fa g0 μ nx P)
    (T : SS fa g0 h₀ L env nt ca exs s.heap m μ H ρ cl) (k : SOk fa g0 h₀ L env nt ca exs μ s fl ρ' H' fun f s' => R (.ok f) s') :
    codeAny (model prog w) A (.forLoop (.Name x px) (.ref I) body [] env) R s := by
  have hIL : I ≠ L := (S.exN _ (.head _)).2.1
  have hIca : I ∉ ca := fun q => by
    rw [← T.ad] at q
    obtain ⟨z, h1, h2⟩ := List.mem_map.mp q
    exact hne z (List.mem_append_left _ h1) h2
  have hneE : ∀ q ∈ exs, q.1 ≠ I := fun q hq => hne q (List.mem_append_right _ hq)
  have hneC : ∀ cl' : List (Addr × Obj), cl'.map (·.1) = ca → ∀ q ∈ cl' ++ exs, q.1 ≠ I := fun cl' e q hq => by
    rcases List.mem_append.mp hq with hq | hq
    · exact fun z => hIca (by rw [← e, ← z]; exact List.mem_map_of_mem hq)
    · exact hneE q hq
  have T0 : SS fa g0 h₀ L env nt ca ((I, oI) :: exs) s.heap m μ H ρ cl := ⟨sr_swapI S, eok_more T.E fun q hq => by
    rcases List.mem_append.mp hq with hq | hq
    · exact List.mem_append_left _ hq
    · exact List.mem_append_right _ (.tail _ hq), T.ad, T.cell, fun q hq => by
    rcases List.mem_cons.mp hq with rfl | hq
    · exact hIca
    · exact T.apart q hq⟩
  refine codeAny_forLoop
    (fun nn s' => E9 fun i ρc Hc oI' h' tk' μ' m' cl' => A5 (s' = { s with heap := h', toks := tk' }) (LRun nx xi (ex call body') nn i ρc Hc fl ρ' H') (SS fa g0 h₀ L env nt ca ((I, oI') :: exs) h' m' μ' Hc ρc cl') (P i oI') (μ <+: μ')) ?_ kk
    ⟨0, ρ, H, oI, s.heap, s.toks, μ, m, cl, rfl, hrun, T0, hP, List.prefix_refl _⟩ (fun _ => rfl)
  rintro nn s' ⟨i, ρc, Hc, oI', h', tk', μ', m', cl', rfl, hr, T1, hPi, hpre⟩
  have S1 := T1.swapI
  have hne1 := hneC cl' T1.ad
  have back : ∀ {h2 : Heap} {m2 : Str → Option Value} {μ2 : List Addr} {H2 : AH} {ρ2 : List AV} {cl2 : List (Addr × Obj)} {o2 : Obj}, SS fa g0 h₀ L env nt ca ((I, o2) :: exs) h2 m2 μ2 H2 ρ2 cl2 → SS fa g0 h₀ L env nt ca exs h2 m2 μ2 H2 ρ2 cl2 := fun T2 =>
    ⟨T2.S.sub fun q hq => by
      rcases List.mem_append.mp hq with hq | hq
      · exact List.mem_append_left _ hq
      · exact List.mem_append_right _ (.tail _ hq), eok_less F T2.E hIL hIca, T2.ad, T2.cell, fun q hq => T2.apart q (.tail _ hq)⟩
  have turn : ∀ {a : AV}, nx i Hc = some (some a) → ∀ fl1 ρ1 H1, ex call body' (ρc.set xi a) Hc = some (fl1, ρ1, H1) → (∀ (Q : Flow → Shared → Prop) E, (∀ h2 tk2 μ2 m2 cl2 o2 flv, SS fa g0 h₀ L env nt ca ((I, o2) :: exs) h2 m2 μ2 H1 ρ1 cl2 → P (i + 1) o2 → μ' <+: μ2 → RFl fa μ2 fl1 flv → Q flv { s with heap := h2, toks := tk2 }) →
      wpAny (model prog w) A (pyNext (.ref I)) (fun r s₁ => match r with
        | none => wpAny (model prog w) A (execs [] env) (fun f s₃ => R (.ok f) s₃) E s₁
        | some v => wpAny (model prog w) A (assign (.Name x px) env v) (fun _ s₂ => wpAny (model prog w) A (execs body env) Q E s₂) E s₁) E { s with heap := h', toks := tk' }) := by
    intro a hn fl1 ρ1 H1 hev Q E kq
    refine it.item I i Hc h₀ L m' μ' _ oI' { s with heap := h', toks := tk' } _ _ a hpre S1 hne1 hPi hn fun h2 tk2 val o2 S2 hP2 rv => ?_
    have T2 : SS fa g0 h₀ L env nt ca ((I, o2) :: exs) h2 m' μ' Hc ρc cl' := ⟨sr_swapI S2, eok_more (eok_less F T1.E hIL hIca) fun q hq => by
      rcases List.mem_append.mp hq with hq | hq
      · exact List.mem_append_left _ hq
      · exact List.mem_append_right _ (.tail _ hq), T1.ad, T1.cell, fun q hq => by
      rcases List.mem_cons.mp hq with rfl | hq
      · exact hIca
      · exact T1.apart q (.tail _ hq)⟩
    refine wpAny_assign_Name (store_ok C F hx.1 hx.2 T2 rv fun h3 tk3 m3 cl3 T3 => ?_)
    exact B0 body body' nt env hb (ρc.set xi a) Hc fl1 ρ1 H1 hev A h₀ L ca ((I, o2) :: exs) m3 μ' cl3 _ Q E C F T3 fun h4 tk4 μ4 m4 cl4 flv T4 p4 rf => kq h4 tk4 μ4 m4 cl4 o2 flv T4 hP2 p4 rf
  cases hr with
  | stop hn =>
    refine it.stop I i H' h₀ L m' μ' _ oI' { s with heap := h', toks := tk' } _ _ hpre S1 hne1 hPi hn fun h2 tk2 S2 => ?_
    exact wpAny_execs_nil (k h2 tk2 μ' m' cl' .next ⟨S2, eok_less F T1.E hIL hIca, T1.ad, T1.cell, fun q hq => T1.apart q (.tail _ hq)⟩ hpre rfl)
  | next hn hev hrest =>
    rename_i k1 ρ1 H1 a
    refine turn hn _ _ _ hev _ _ fun h2 tk2 μ2 m2 cl2 o2 flv T2 hP2 p2 rf => ?_
    cases rf
    exact ⟨k1, Nat.lt_succ_self _, i + 1, ρ1, H1, o2, h2, tk2, μ2, m2, cl2, rfl, hrest, T2, hP2, hpre.trans p2⟩
  | ret hn hev =>
    rename_i a v
    refine turn hn _ _ _ hev _ _ fun h2 tk2 μ2 m2 cl2 o2 flv T2 hP2 p2 rf => ?_
    obtain ⟨val, rv, rfl⟩ := rf
    exact k h2 tk2 μ2 m2 cl2 _ (back T2) (hpre.trans p2) ⟨val, rv, rfl⟩
end
end Mine
end

section
open PySem PySem.W PySem.Calls PyProof.Rows
namespace Mine

theorem SR.turnS {fa : Nat → Addr} {g0 : List Addr} {h₀ : Heap} {L : Addr} {h h' : Heap} {m : Str → Option Value} {μ : List Addr} {H : AH} {exs : List (Addr × Obj)} (S : SR fa g0 h₀ L h m μ H exs) (ch : List Addr) {es : List (Addr × Obj)}
    (ha : ∀ a ∈ ch, h₀.get? a = .none ∧ a ≠ L ∧ a ∉ μ) (hs : ∀ b, b ∉ ch → ∀ o, h.get? b = some o → h'.get? b = some o)
    (hes : ∀ p ∈ es, (p.1 ∉ ch ∧ p ∈ exs) ∨ (p.1 ∈ ch ∧ h'.get? p.1 = some p.2)) : SR fa g0 h₀ L h' m μ H es := by
  have hnm : ∀ i b, μ[i]? = some b → b ∉ ch := fun i b e q => (ha b q).2.2 (List.mem_of_getElem? e)
  refine ⟨⟨S.F.ns.at' fun o e => hs _ (fun q => (ha _ q).2.1 rfl) o e, fun b o e => hs b (fun q => ?_) o (S.F.keep b o e), S.F.above⟩, S.pre, S.gl, S.len, ?_, S.own, S.frz, ?_, S.inj, ?_, ?_⟩
  · rw [(ha b q).1] at e; cases e
  · intro i b bo e1 e2
    obtain ⟨o', ho', r⟩ := S.obj i b bo e1 e2
    exact ⟨o', hs b (hnm i b e1) _ ho', r⟩
  · intro i b o' hi e ho'
    obtain ⟨_, o, _, ho, _⟩ := S.there e
    have := hs b (hnm i b e) _ ho
    rw [this] at ho'; cases ho'
    exact S.pln i b _ hi e ho
  · intro p hp
    rcases hes p hp with ⟨h1, h2⟩ | ⟨h1, h2⟩
    · exact ⟨hs _ h1 _ (S.exN p h2).1, (S.exN p h2).2⟩
    · exact ⟨h2, (ha _ h1).2.1, (ha _ h1).1⟩
  · intro p hp hm
    rcases hes p hp with ⟨h1, h2⟩ | ⟨h1, h2⟩
    · exact S.exd p h2 hm
    · exact (ha _ h1).2.2 hm

inductive ERun (q : Nat) (x y : Nat) (b : Body) : Nat → Nat → List AV → AH → Fl → List AV → AH → Prop
  | stop {i : Nat} {ρ : List AV} {H : AH} : nxL q i H = some .none → ERun q x y b 0 i ρ H .nxt ρ H
  | next {k i : Nat} {ρ ρ₁ ρ' : List AV} {H H₁ H' : AH} {a : AV} {fl : Fl} : nxL q i H = some (some a) → b ((ρ.set x (.int i)).set y a) H = some (.nxt, ρ₁, H₁) → ERun q x y b k (i + 1) ρ₁ H₁ fl ρ' H' → ERun q x y b (k + 1) i ρ H fl ρ' H'
  | ret {i : Nat} {ρ ρ' : List AV} {H H' : AH} {a v : AV} : nxL q i H = some (some a) → b ((ρ.set x (.int i)).set y a) H = some (.ret v, ρ', H') → ERun q x y b 0 i ρ H (.ret v) ρ' H'

theorem erun_forEn {x y : Nat} {b : Body} {q : Nat} : ∀ {k i : Nat} {ρ ρ' : List AV} {H H' : AH} {fl : Fl}, forEn x y b q k i ρ H = some (fl, ρ', H') → ∃ n, ERun q x y b n i ρ H fl ρ' H'
  | 0, i, ρ, ρ', H, H', fl, h => nomatch h
  | k + 1, i, ρ, ρ', H, H', fl, h => by
    obtain ⟨xs, hx, h1⟩ := Option.bind_eq_some_iff.mp h
    split at h1
    · rename_i hi
      cases h1
      exact ⟨0, .stop (by unfold nxL; rw [hx]; simp [hi])⟩
    · rename_i a hi
      have hn : nxL q i H = some (some a) := by unfold nxL; rw [hx]; simp [hi]
      obtain ⟨⟨f1, ρ1, H1⟩, h2, h3⟩ := Option.bind_eq_some_iff.mp h1
      cases f1 with
      | nxt =>
        obtain ⟨n, hr⟩ := erun_forEn h3
        exact ⟨n + 1, .next hn h2 hr⟩
      | ret v =>
        cases h3
        exact ⟨0, .ret hn h2⟩

section
variable {prog : Program} {w : World} {K : Frag} {p : Program} {loose : List Str} {mean : ExcName → Option Value} {mg mb : Str → Option Value} {fa : Nat → Addr} {g0 : List Addr} {gl : List (Str × AV)} {cs : List (Str × Nat)}
  {call : Nat → List AV → AH → Option (AV × AH)} {d : Nat} {A : Around} {env : Env} {h₀ : Heap} {L : Addr} {nt : List (Str × Nat)} {ca : List Addr} {exs : List (Addr × Obj)}

theorem SS.swap {m : Str → Option Value} {μ μ' : List Addr} {H H' : AH} {ρ : List AV} {cl es : List (Addr × Obj)} {h h' : Heap} (T : SS fa g0 h₀ L env nt ca exs h m μ H ρ cl) (S : SR fa g0 h₀ L h' m μ' H' (cl ++ es)) (p : μ <+: μ')
    (hE : EOK fa L env nt ρ μ m (cl ++ es)) (ha : ∀ q ∈ es, q.1 ∉ ca) : SS fa g0 h₀ L env nt ca es h' m μ' H' ρ cl := ⟨S, hE.mono p, T.ad, T.cell, ha⟩

theorem eok_swap {m : Str → Option Value} {μ : List Addr} {ρ : List AV} {cl es es' : List (Addr × Obj)} (F : Fk env nt L ca) (h : EOK fa L env nt ρ μ m (cl ++ es)) (hL : ∀ q ∈ es, q.1 ≠ L) (hc : ∀ q ∈ es, q.1 ∉ ca) : EOK fa L env nt ρ μ m (cl ++ es') := by
  have drop : ∀ c o', (c = L ∨ c ∈ ca) → (c, o') ∈ cl ++ es → (c, o') ∈ cl ++ es' := fun c o' hor hm => by
    rcases List.mem_append.mp hm with hm | hm
    · exact List.mem_append_left _ hm
    · rcases hor with q | q
      · exact absurd q (hL _ hm)
      · exact absurd q (hc _ hm)
  intro y i v h1 h2 hok k hk hk3
  obtain ⟨val, r, z⟩ := h y i v h1 h2 hok k hk hk3
  refine ⟨val, r, ?_⟩
  rcases hk3 with q | q | q <;> subst q
  · rcases z with z | ⟨o', e1, ep, z1, z2⟩
    · exact .inl z
    · exact .inr ⟨o', e1, ep, drop _ _ (.inl F.loc) z1, z2⟩
  · obtain ⟨c, o', z1, z2, z3⟩ := z
    exact ⟨c, o', z1, drop _ _ (.inr (F.cin y c hk z1)) z2, z3⟩
  · exact absurd hk (F.nofree y)

theorem while_core {n : Nat} (T0 : TstOK prog w K p loose mean mg mb fa g0 gl cs call d n) (B0 : BlOK prog w K p loose mean mg mb fa g0 gl cs call d n) {test : PySem.Expr} {t' : Ex} {body : List Stmt} {body' : St}
    {m : Str → Option Value} {μ : List Addr} {H H' : AH} {ρ ρ' : List AV} {cl : List (Addr × Obj)} {s : Shared} {fl : Fl} {R : Result → Shared → Prop} {kk : Nat}
    (htk : testok test = true) (ht : trE gl cs n env.scope.names nt test = some t') (hb : trB (trS gl cs n env.scope.names nt) body = some body') (C : Cx K p loose mean mg mb A env h₀ L d) (F : Fk env nt L ca)
    (hrun : whlL (fun ρ H => (ev call t' ρ H).bind fun r => (truth r.1).map fun c => (c, r.2)) (ex call body') kk ρ H = some (fl, ρ', H'))
    (T : SS fa g0 h₀ L env nt ca exs s.heap m μ H ρ cl) (k : SOk fa g0 h₀ L env nt ca exs μ s fl ρ' H' fun f s' => R (.ok f) s') :
    codeAny (model prog w) A (.whileLoop test body [] env) R s := by
  refine codeAny_whileLoop (fun nn s' => E7 fun ρc Hc h' tk' μ' m' cl' => A4 (s' = { s with heap := h', toks := tk' }) (whlL (fun ρ H => (ev call t' ρ H).bind fun r => (truth r.1).map fun c => (c, r.2)) (ex call body') nn ρc Hc = some (fl, ρ', H')) (SS fa g0 h₀ L env nt ca exs h' m' μ' Hc ρc cl') (μ <+: μ')) ?_ kk ⟨ρ, H, s.heap, s.toks, μ, m, cl, rfl, hrun, T, List.prefix_refl _⟩
  rintro nn s' ⟨ρc, Hc, h', tk', μ', m', cl', rfl, hr, T1, hpre⟩
  cases nn with
  | zero => cases hr
  | succ nn =>
    obtain ⟨⟨c, H1⟩, h1, h2⟩ := Option.bind_eq_some_iff.mp hr
    obtain ⟨⟨v1, H1'⟩, h3, h4⟩ := Option.bind_eq_some_iff.mp h1
    obtain ⟨c', h5, h6⟩ := Option.map_eq_some_iff.mp h4
    cases h6
    refine T0 test t' nt env htk ht ρc Hc v1 H1' c h3 h5 A h₀ L m' μ' _ _ _ _ C T1.S T1.E fun h2' tk2 μ2 S2 p2 => ?_
    have T2 := T1.after S2 p2
    cases c with
    | true =>
      simp only [if_true] at h2 ⊢
      obtain ⟨⟨f1, ρ1, H2⟩, h7, h8⟩ := Option.bind_eq_some_iff.mp h2
      refine B0 body body' nt env hb ρc H1' f1 ρ1 H2 h7 A h₀ L ca exs m' μ2 cl' _ _ _ C F T2 fun h3' tk3 μ3 m3 cl3 flv T3 p3 rf => ?_
      cases f1 with
      | nxt =>
        cases rf
        exact ⟨nn, Nat.lt_succ_self _, ρ1, H2, h3', tk3, μ3, m3, cl3, rfl, h8, T3, (hpre.trans p2).trans p3⟩
      | ret v =>
        cases h8
        obtain ⟨val, rv, rfl⟩ := rf
        exact k h3' tk3 μ3 m3 cl3 _ T3 ((hpre.trans p2).trans p3) ⟨val, rv, rfl⟩
    | false =>
      simp only [Bool.false_eq_true, if_false] at h2 ⊢
      cases h2
      exact wpAny_execs_nil (k h2' tk2 μ2 m' cl' .next T2 (hpre.trans p2) rfl)

theorem enum_core {n : Nat} (B0 : BlOK prog w K p loose mean mg mb fa g0 gl cs call d n) {x y : Str} {px py pt : Pos} {x1 : Nat} {xi yi q : Nat} {body : List Stmt} {body' : St} {e it al : Addr}
    {m : Str → Option Value} {μ : List Addr} {H H' : AH} {ρ ρ' : List AV} {cl : List (Addr × Obj)} {s : Shared} {fl : Fl} {R : Result → Shared → Prop} {kk : Nat} {oi : Obj}
    (hx : (env.scope.names.lookup x = some .local ∨ env.scope.names.lookup x = some .cell) ∧ nt.lookup x = some xi) (hy : (env.scope.names.lookup y = some .local ∨ env.scope.names.lookup y = some .cell) ∧ nt.lookup y = some yi)
    (hb : trB (trS gl cs n env.scope.names nt) body = some body') (C : Cx K p loose mean mg mb A env h₀ L d) (F : Fk env nt L ca)
    (hrun : ERun q xi yi (ex call body') kk 0 ρ H fl ρ' H') (hal : μ[q]? = some al)
    (he : IsEnum s.heap e it 0 .none) (hoi : s.heap.get? it = some oi) (hP : PL al 0 oi) (hei : e ≠ it) (hcl : e ∉ ca ∧ it ∉ ca) (hex : ∀ z ∈ exs, z.1 ≠ e ∧ z.1 ≠ it) (hL : e ≠ L ∧ it ≠ L) (h0 : h₀.get? e = .none ∧ h₀.get? it = .none) (hμ : e ∉ μ ∧ it ∉ μ)
    (T : SS fa g0 h₀ L env nt ca exs s.heap m μ H ρ cl) (k : SOk fa g0 h₀ L env nt ca exs μ s fl ρ' H' fun f s' => R (.ok f) s') :
    codeAny (model prog w) A (.forLoop (.Tuple [.Name x px, .Name y py] x1 pt) (.ref e) body [] env) R s := by
  have eobj : ∀ (i : Int) (old : Value), ({ cls := .type "enumerate", dict := none, data := .fields #[.none, .bool false, .ref it, rawInt i, .none, old], slots := #[] } : Obj).data = .fields #[.none, .bool false, .ref it, rawInt i, .none, old] := fun _ _ => rfl
  have exL : ∀ z ∈ exs, z.1 ≠ L := fun z hz => (T.S.exN z (List.mem_append_right _ hz)).2.1
  -- the two further objects, in front
  have mk : ∀ {h2 : Heap} {m2 : Str → Option Value} {μ2 : List Addr} {H2 : AH} {ρ2 : List AV} {cl2 es : List (Addr × Obj)} {oe ot : Obj}, SR fa g0 h₀ L h2 m2 μ2 H2 (cl2 ++ (e, oe) :: (it, ot) :: exs) → EOK fa L env nt ρ2 μ2 m2 (cl2 ++ es) → (∀ z ∈ es, z.1 ≠ L) → (∀ z ∈ es, z.1 ∉ ca) → cl2.map (·.1) = ca → (∀ z ∈ cl2, ∃ v, z.2.data = .cell v) →
      SS fa g0 h₀ L env nt ca ((e, oe) :: (it, ot) :: exs) h2 m2 μ2 H2 ρ2 cl2 := fun S2 E2 a1 a2 a3 a4 => ⟨S2, eok_swap F E2 a1 a2, a3, a4, fun z hz => by
    rcases List.mem_cons.mp hz with rfl | hz
    · exact hcl.1
    rcases List.mem_cons.mp hz with rfl | hz
    · exact hcl.2
    · exact T.apart z hz⟩
  have more : ∀ {oe ot : Obj}, (∀ z ∈ (e, oe) :: (it, ot) :: exs, z.1 ≠ L) ∧ (∀ z ∈ (e, oe) :: (it, ot) :: exs, z.1 ∉ ca) := fun {oe ot} => by
    constructor <;> intro z hz <;> rcases List.mem_cons.mp hz with rfl | hz
    · exact hL.1
    · rcases List.mem_cons.mp hz with rfl | hz
      · exact hL.2
      · exact exL z hz
    · exact hcl.1
    · rcases List.mem_cons.mp hz with rfl | hz
      · exact hcl.2
      · exact T.apart z hz
  have T0 : SS fa g0 h₀ L env nt ca ((e, { cls := .type "enumerate", dict := none, data := .fields #[.none, .bool false, .ref it, rawInt 0, .none, .none], slots := #[] }) :: (it, oi) :: exs) s.heap m μ H ρ cl := by
    refine mk (T.S.turnS [e, it] (fun a ha => ?_) (fun b _ o h => h) fun z hz => ?_) T.E exL T.apart T.ad T.cell
    · simp only [List.mem_cons, List.not_mem_nil, or_false] at ha
      rcases ha with rfl | rfl
      · exact ⟨h0.1, hL.1, hμ.1⟩
      · exact ⟨h0.2, hL.2, hμ.2⟩
    · rcases List.mem_append.mp hz with hz | hz
      · refine .inl ⟨fun h => ?_, List.mem_append_left _ hz⟩
        have : z.1 ∈ ca := by rw [← T.ad]; exact List.mem_map_of_mem hz
        simp only [List.mem_cons, List.not_mem_nil, or_false] at h
        rcases h with h | h
        · exact hcl.1 (h ▸ this)
        · exact hcl.2 (h ▸ this)
      rcases List.mem_cons.mp hz with rfl | hz
      · exact .inr ⟨.head _, he⟩
      rcases List.mem_cons.mp hz with rfl | hz
      · exact .inr ⟨.tail _ (.head _), hoi⟩
      · refine .inl ⟨fun h => ?_, List.mem_append_right _ hz⟩
        simp only [List.mem_cons, List.not_mem_nil, or_false] at h
        rcases h with h | h
        · exact (hex z hz).1 h
        · exact (hex z hz).2 h
  refine codeAny_forLoop_any
    (fun nn s' => E10 fun i old ρc Hc oi' h' tk' μ' m' cl' => A5 (s' = { s with heap := h', toks := tk' }) (ERun q xi yi (ex call body') nn i ρc Hc fl ρ' H') (SS fa g0 h₀ L env nt ca ((e, { cls := .type "enumerate", dict := none, data := .fields #[.none, .bool false, .ref it, rawInt ((i : Nat) : Int), .none, old], slots := #[] }) :: (it, oi') :: exs) h' m' μ' Hc ρc cl') (PL al i oi') (μ <+: μ')) ?_ kk
    ⟨0, .none, ρ, H, oi, s.heap, s.toks, μ, m, cl, rfl, hrun, T0, hP, List.prefix_refl _⟩
  rintro nn s' ⟨i, old, ρc, Hc, oi', h', tk', μ', m', cl', rfl, hr, T1, hPi, hpre⟩
  have he1 : IsEnum h' e it ((i : Nat) : Int) old := (T1.S.exN _ (List.mem_append_right _ (.head _))).1
  have hi1 := (T1.S.exN _ (List.mem_append_right _ (.tail _ (.head _)))).1
  have hit1 : h'.IsListIter it al i := ⟨oi', hi1, hPi.1, hPi.2⟩
  have hal1 := pre_get hpre hal
  have fr1 : e ∉ μ' := T1.S.exd _ (List.mem_append_right _ (.head _))
  have fr2 : it ∉ μ' := T1.S.exd _ (List.mem_append_right _ (.tail _ (.head _)))
  have cl1 : ∀ z ∈ cl', z.1 ≠ e ∧ z.1 ≠ it := fun z hz => by
    have : z.1 ∈ ca := by rw [← T1.ad]; exact List.mem_map_of_mem hz
    exact ⟨fun h => hcl.1 (h ▸ this), fun h => hcl.2 (h ▸ this)⟩
  have chg : ∀ {h2 : Heap} {oe ot : Obj}, (∀ b o, b ≠ e → b ≠ it → h'.get? b = some o → h2.get? b = some o) → h2.get? e = some oe → h2.get? it = some ot → SR fa g0 h₀ L h2 m' μ' Hc (cl' ++ (e, oe) :: (it, ot) :: exs) := fun {h2 oe ot} hk a1 a2 => by
    refine T1.S.turnS [e, it] (fun a ha => ?_) (fun b hb o h => ?_) fun z hz => ?_
    · simp only [List.mem_cons, List.not_mem_nil, or_false] at ha
      rcases ha with rfl | rfl
      · exact ⟨h0.1, hL.1, fr1⟩
      · exact ⟨h0.2, hL.2, fr2⟩
    · simp only [List.mem_cons, List.not_mem_nil, or_false, not_or] at hb
      exact hk b o hb.1 hb.2 h
    · have nin : ∀ z : Addr × Obj, z.1 ≠ e ∧ z.1 ≠ it → z.1 ∉ [e, it] := fun z hz h => by
        simp only [List.mem_cons, List.not_mem_nil, or_false] at h
        exact h.elim hz.1 hz.2
      rcases List.mem_append.mp hz with hz | hz
      · exact .inl ⟨nin z (cl1 z hz), List.mem_append_left _ hz⟩
      rcases List.mem_cons.mp hz with rfl | hz
      · exact .inr ⟨.head _, a1⟩
      rcases List.mem_cons.mp hz with rfl | hz
      · exact .inr ⟨.tail _ (.head _), a2⟩
      · exact .inl ⟨nin z (hex z hz), List.mem_append_right _ (.tail _ (.tail _ hz))⟩
  have back : ∀ {h2 : Heap} {m2 : Str → Option Value} {μ2 : List Addr} {H2 : AH} {ρ2 : List AV} {cl2 : List (Addr × Obj)} {oe ot : Obj}, SS fa g0 h₀ L env nt ca ((e, oe) :: (it, ot) :: exs) h2 m2 μ2 H2 ρ2 cl2 → SS fa g0 h₀ L env nt ca exs h2 m2 μ2 H2 ρ2 cl2 := fun T2 =>
    ⟨T2.S.sub fun z hz => by
      rcases List.mem_append.mp hz with hz | hz
      · exact List.mem_append_left _ hz
      · exact List.mem_append_right _ (.tail _ (.tail _ hz)), eok_swap F T2.E more.1 more.2, T2.ad, T2.cell, T.apart⟩
  have turn : ∀ {a : AV}, nxL q i Hc = some (some a) → ∀ fl1 ρ1 H1, ex call body' ((ρc.set xi (.int i)).set yi a) Hc = some (fl1, ρ1, H1) → (∀ (Q : Flow → Shared → Prop) E, (∀ h2 tk2 μ2 m2 cl2 o2 old2 flv, SS fa g0 h₀ L env nt ca ((e, { cls := .type "enumerate", dict := none, data := .fields #[.none, .bool false, .ref it, rawInt ((i + 1 : Nat) : Int), .none, old2], slots := #[] }) :: (it, o2) :: exs) h2 m2 μ2 H1 ρ1 cl2 → PL al (i + 1) o2 → μ' <+: μ2 → RFl fa μ2 fl1 flv → Q flv { s with heap := h2, toks := tk2 }) →
      wpAny (model prog w) A (pyNext (.ref e)) (fun r s₁ => match r with
        | none => wpAny (model prog w) A (execs [] env) (fun f s₃ => R (.ok f) s₃) E s₁
        | some v => wpAny (model prog w) A (letOwnedTupleGo (.Tuple [.Name x px, .Name y py] x1 pt) (.ref e) v) (fun _ s₁' => wpAny (model prog w) A (assign (.Tuple [.Name x px, .Name y py] x1 pt) env v) (fun _ s₂ => wpAny (model prog w) A (execs body env) Q E s₂) E s₁') E s₁) E { s with heap := h', toks := tk' }) := by
    intro a hn fl1 ρ1 H1 hev Q E kq
    obtain ⟨xs, hx2, h1⟩ := Option.map_eq_some_iff.mp hn
    obtain ⟨vs, n2, ol, hol, hc2, hd2, r⟩ := T1.S.list? hx2 hal1
    obtain ⟨val, hv, rv⟩ := r.get h1
    have heH : e < h'.objs.size := Heap.lt_size he1
    have hiH : it < h'.objs.size := Heap.lt_size hi1
    refine wpAny_pyNext_enum_item (s := { s with heap := h', toks := tk' }) (items := vs.toArray) (x := val) he1 hit1 ⟨ol, hol, hc2, n2, hd2⟩ (by simpa using hv) hei fun h2 heo hi2 ht2 hz2 hk2 => ?_
    refine wpAny_letOwnedTupleGo_enum (s := { s with heap := h2, toks := tk' + 1 }) heo fun h3 he3 hs3 => ?_
    replace hs3 : Heap.SameBut e h2 h3 := hs3
    have ht3 : h3.IsTuple h'.objs.size #[.int i tk', val] := ⟨_, (hs3.2 _ (Nat.ne_of_gt heH)).trans ht2, rfl, _, rfl⟩
    have hz3 : h3.objs.size = h'.objs.size + 1 := hs3.1.trans hz2
    refine wpAny_assign_Tuple (s := { s with heap := h3, toks := tk' + 1 }) C.hh ht3 rfl rfl fun h4 hx4 => ?_
    replace hx4 : Heap.ExtBut h3.objs.size h3 h4 := hx4
    have old4 : ∀ b o, b < h'.objs.size → h3.get? b = some o → h4.get? b = some o := fun b o hb z => hx4 b o (by rw [hz3]; exact Nat.ne_of_lt (Nat.lt_succ_of_lt hb)) z
    obtain ⟨ot, hot, hot1, hot2⟩ := hi2
    have he4 : IsEnum h4 e it ((i + 1 : Nat) : Int) val := by
      have := old4 e _ heH he3
      have e1 : ((i : Int) + 1) = ((i + 1 : Nat) : Int) := by push_cast; rfl
      rw [e1] at this; exact this
    have hi4 : h4.get? it = some ot := old4 it _ hiH ((hs3.2 it (Ne.symm hei)).trans hot)
    have S4 := chg (h2 := h4) (fun b o b1 b2 h => old4 b o (Heap.lt_size h) ((hs3.2 b b1).trans (hk2 b o b1 b2 h))) he4 hi4
    have T4 := mk S4 T1.E more.1 more.2 T1.ad T1.cell
    refine stores_ok C F [x, y] [xi, yi] [.int i, a] [.int i tk', val] ρc ((ρc.set xi (.int i)).set yi a) m' cl' { s with heap := h4, toks := tk' + 1 } _ _ (.cons hx (.cons hy .nil)) rfl ⟨⟨tk', rfl⟩, rv, trivial⟩
      (.cons (fun v s Q h => wpAny_assign_Name h) (.cons (fun v s Q h => wpAny_assign_Name h) .nil)) T4 fun h5 tk5 m5 cl5 T5 => ?_
    exact B0 body body' nt env hb _ Hc fl1 ρ1 H1 hev A h₀ L ca _ m5 μ' cl5 _ Q E C F T5 fun h6 tk6 μ6 m6 cl6 flv T6 p6 rf => kq h6 tk6 μ6 m6 cl6 ot val flv T6 ⟨hot1, hot2⟩ p6 rf
  cases hr with
  | stop hn =>
    obtain ⟨xs, hx2, h1⟩ := Option.map_eq_some_iff.mp hn
    obtain ⟨vs, n2, ol, hol, hc2, hd2, r⟩ := T1.S.list? hx2 hal1
    refine wpAny_pyNext_enum_end (s := { s with heap := h', toks := tk' }) C.hh he1 hit1 ⟨ol, hol, hc2, n2, hd2⟩ (by simpa using r.none h1) fun h2 he2 => ?_
    replace he2 : Heap.ExtBut it h' h2 := he2
    have S2 : SR fa g0 h₀ L h2 m' μ' H' (cl' ++ exs) := T1.S.turnS [e, it] (fun a ha => by
        simp only [List.mem_cons, List.not_mem_nil, or_false] at ha
        rcases ha with rfl | rfl
        · exact ⟨h0.1, hL.1, fr1⟩
        · exact ⟨h0.2, hL.2, fr2⟩) (fun b hb o h => by
        simp only [List.mem_cons, List.not_mem_nil, or_false, not_or] at hb
        exact he2 b o hb.2 h) fun z hz => by
        have nin : ∀ z : Addr × Obj, z.1 ≠ e ∧ z.1 ≠ it → z.1 ∉ [e, it] := fun z hz h => by
          simp only [List.mem_cons, List.not_mem_nil, or_false] at h
          exact h.elim hz.1 hz.2
        rcases List.mem_append.mp hz with hz | hz
        · exact .inl ⟨nin z (cl1 z hz), List.mem_append_left _ hz⟩
        · exact .inl ⟨nin z (hex z hz), List.mem_append_right _ (.tail _ (.tail _ hz))⟩
    exact wpAny_execs_nil (k h2 tk' μ' m' cl' .next ⟨S2, eok_swap F T1.E more.1 more.2, T1.ad, T1.cell, T.apart⟩ hpre rfl)
  | next hn hev hrest =>
    rename_i k1 ρ1 H1 a
    refine turn hn _ _ _ hev _ _ fun h2 tk2 μ2 m2 cl2 o2 old2 flv T2 hP2 p2 rf => ?_
    cases rf
    exact ⟨k1, Nat.lt_succ_self _, i + 1, old2, ρ1, H1, o2, h2, tk2, μ2, m2, cl2, rfl, hrest, T2, hP2, hpre.trans p2⟩
  | ret hn hev =>
    rename_i a v
    refine turn hn _ _ _ hev _ _ fun h2 tk2 μ2 m2 cl2 o2 old2 flv T2 hP2 p2 rf => ?_
    obtain ⟨val, rv, rfl⟩ := rf
    exact k h2 tk2 μ2 m2 cl2 _ (back T2) (hpre.trans p2) ⟨val, rv, rfl⟩
end
end Mine
end

section
open PySem PySem.W PySem.Calls PyProof.Rows
namespace Mine
section
variable {prog : Program} {w : World} {K : Frag} {p : Program} {loose : List Str} {mean : ExcName → Option Value} {mg mb : Str → Option Value} {fa : Nat → Addr} {g0 : List Addr} {gl : List (Str × AV)} {cs : List (Str × Nat)}
  {call : Nat → List AV → AH → Option (AV × AH)} {d : Nat} {A : Around} {env : Env} {h₀ : Heap} {L : Addr} {nt : List (Str × Nat)} {ca : List Addr} {exs : List (Addr × Obj)}

theorem swaps_none {n : Nat} {kd : List (Str × NameKind)} {e : PySem.Expr} {e' : Ex} {t : Option PySem.Expr} {l : Nat} (h : trE gl cs n kd nt e = some e') (hc : isComp e = false) (env : Env) : swapsWith e t l env = pure false := by
  have hs := trE_supp h
  clear h
  cases e <;> first | rfl | exact nomatch (show true = false from hc) | exact nomatch (show false = true from hs)

theorem names_of : ∀ {ts : List PySem.Expr} {is : List Nat}, trTs env.scope.names nt ts = some is → ∃ xs : List (Str × Pos), ts = xs.map (fun z => .Name z.1 z.2) ∧
    All2 (fun x (i : Nat) => (env.scope.names.lookup x = some .local ∨ env.scope.names.lookup x = some .cell) ∧ nt.lookup x = some i) (xs.map (·.1)) is
  | [], is, h => by
    cases h; exact ⟨[], rfl, .nil⟩
  | t :: ts, is, h => by
    obtain ⟨i, h1, h2⟩ := Option.bind_eq_some_iff.mp h
    obtain ⟨is', h3, rfl⟩ := Option.map_eq_some_iff.mp h2
    cases t with
    | Name x px =>
      obtain ⟨xs, rfl, ha⟩ := names_of h3
      exact ⟨(x, px) :: xs, rfl, .cons (trT_some h1) ha⟩
    | _ => cases h1

theorem each_names (xs : List (Str × Pos)) (env : Env) : assignEach (xs.map fun z => PySem.Expr.Name z.1 z.2) env = xs.map fun z => (false, assign (.Name z.1 z.2) env) := by
  induction xs with
  | nil => rfl
  | cons x xs ih =>
    show (false, assign (.Name x.1 x.2) env) :: assignEach (xs.map fun z => PySem.Expr.Name z.1 z.2) env = _
    rw [ih]; rfl

theorem each_find (xs : List (Str × Pos)) (env : Env) : (assignEach (xs.map fun z => PySem.Expr.Name z.1 z.2) env).findIdx? (·.1) = none := by
  rw [each_names]
  rw [List.findIdx?_eq_none_iff]
  intro z hz
  obtain ⟨y, _, rfl⟩ := List.mem_map.mp hz
  rfl

theorem all2_assign {M : Model} {A : Around} {E : Value → Shared → Prop} (env : Env) : ∀ xs : List (Str × Pos), All2 (fun x (f : Value → Sem Unit) => ∀ v (s : Shared) Q, wpAny M A (storeName env x v) Q E s → wpAny M A (f v) Q E s) (xs.map (·.1))
    ((assignEach (xs.map fun z => PySem.Expr.Name z.1 z.2) env).map (·.2))
  | [] => .nil
  | x :: xs => .cons (fun v s Q h => wpAny_assign_Name h) (all2_assign env xs)

theorem all2_bind {M : Model} {A : Around} {E : Value → Shared → Prop} (env : Env) : ∀ xs : List Str, All2 (fun x (f : Value → Sem Unit) => ∀ v (s : Shared) Q, wpAny M A (storeName env x v) Q E s → wpAny M A (f v) Q E s) xs (xs.map fun n => bindName env n)
  | [] => .nil
  | x :: xs => .cons (fun v s Q h => wpAny_bindName h) (all2_bind env xs)

theorem All2.append {α β : Type} {R : α → β → Prop} : ∀ {a : List α} {b : List β} {c : List α} {e : List β}, All2 R a b → All2 R c e → All2 R (a ++ c) (b ++ e)
  | _, _, _, _, .nil, h => h
  | _, _, _, _, .cons r t, h => .cons r (t.append h)
theorem All2.reverse {α β : Type} {R : α → β → Prop} : ∀ {a : List α} {b : List β}, All2 R a b → All2 R a.reverse b.reverse
  | _, _, .nil => .nil
  | _, _, .cons r t => by
    rw [List.reverse_cons, List.reverse_cons]
    exact t.reverse.append (.cons r .nil)
theorem All2.length {α β : Type} {R : α → β → Prop} : ∀ {a : List α} {b : List β}, All2 R a b → a.length = b.length
  | _, _, .nil => rfl
  | _, _, .cons _ t => by simp [t.length]

theorem setAll_comm {i : Nat} {v : AV} : ∀ {is : List Nat} {vs : List AV} {ρ : List AV}, i ∉ is → setAll is vs (ρ.set i v) = (setAll is vs ρ).map (·.set i v)
  | [], [], ρ, _ => rfl
  | [], _ :: _, _, _ => rfl
  | _ :: _, [], _, _ => rfl
  | j :: is, u :: vs, ρ, h => by
    simp only [List.mem_cons, not_or] at h
    show setAll is vs ((ρ.set i v).set j u) = (setAll is vs (ρ.set j u)).map _
    rw [List.set_comm _ _ h.1, setAll_comm h.2]
theorem setAll_snoc {i : Nat} {v : AV} : ∀ {is : List Nat} {vs : List AV} {ρ : List AV}, is.length = vs.length → setAll (is ++ [i]) (vs ++ [v]) ρ = (setAll is vs ρ).map (·.set i v)
  | [], [], ρ, _ => rfl
  | j :: is, u :: vs, ρ, h => by
    show setAll (is ++ [i]) (vs ++ [v]) (ρ.set j u) = _
    exact setAll_snoc (by simpa using h)
theorem setAll_rev : ∀ {is : List Nat} {vs : List AV} {ρ : List AV}, is.Nodup → is.length = vs.length → setAll is.reverse vs.reverse ρ = setAll is vs ρ
  | [], [], ρ, _, _ => rfl
  | i :: is, v :: vs, ρ, hn, hl => by
    have hn' := List.nodup_cons.mp hn
    rw [List.reverse_cons, List.reverse_cons, setAll_snoc (by simpa using hl), setAll_rev hn'.2 (by simpa using hl)]
    show _ = setAll is vs (ρ.set i v)
    rw [setAll_comm hn'.1]
theorem setAll_len : ∀ {is : List Nat} {vs : List AV} {ρ ρ' : List AV}, setAll is vs ρ = some ρ' → is.length = vs.length
  | [], [], _, _, _ => rfl
  | [], _ :: _, _, _, h => nomatch h
  | _ :: _, [], _, _, h => nomatch h
  | _ :: is, _ :: vs, _, _, h => by
    exact congrArg (· + 1) (setAll_len (ρ := _) h)
theorem RVs.reverse {μ : List Addr} : ∀ {xs : List AV} {vs : List Value}, RVs fa μ xs vs → RVs fa μ xs.reverse vs.reverse
  | [], [], _ => trivial
  | _ :: _, _ :: _, h => by
    rw [List.reverse_cons, List.reverse_cons]
    exact (RVs.reverse h.2).append ⟨h.1, trivial⟩
  | [], _ :: _, h => h.elim
  | _ :: _, [], h => h.elim

theorem filter_len {c : Str × Pos → Bool} : ∀ {xs : List (Str × Pos)}, (xs.filterMap fun z => if c z = true then some z.1 else none).length = xs.length → (xs.filterMap fun z => if c z = true then some z.1 else none) = xs.map (·.1)
  | [], _ => rfl
  | x :: xs, h => by
    rw [List.filterMap_cons] at h ⊢
    by_cases hx : c x = true
    · simp only [hx, if_true, List.length_cons] at h ⊢
      rw [filter_len (by omega)]; rfl
    · simp only [hx] at h
      have := List.length_filterMap_le (fun z => if c z = true then some z.1 else none) xs
      simp at h
      omega

theorem swapped_of {xs : List (Str × Pos)} {vs : List PySem.Expr} {k k2 : Nat} {p1 p2 : Pos} {env : Env} (hc : (vs.all (foldedForSure 8) || !vs.all (constantsAlone 8)) = true) :
    swappedStores [.Tuple (xs.map fun z => .Name z.1 z.2) k p1] (.Tuple vs k2 p2) env = pure none ∨ swappedStores [.Tuple (xs.map fun z => .Name z.1 z.2) k p1] (.Tuple vs k2 p2) env = pure (some (xs.map (·.1))) := by
  unfold swappedStores
  simp only [List.filterMap_map, Function.comp_def]
  split
  · exact .inl rfl
  split
  · exact .inl rfl
  split
  · exact .inl rfl
  rename_i h3
  split
  · exact .inl rfl
  rename_i h4
  split
  · rename_i h5
    rw [h5] at hc
    simp only [Bool.not_true, Bool.or_false] at hc
    exact absurd hc h4
  · right
    simp only [Bool.or_eq_true, not_or, bne_iff_ne, ne_eq, Decidable.not_not, List.length_map] at h3
    exact congrArg (fun z => pure (some z)) (filter_len h3.1)
end
end Mine
end

section
open PySem PySem.W PySem.Calls PyProof.Rows
namespace Mine
section
variable {prog : Program} {w : World} {K : Frag} {p : Program} {loose : List Str} {mean : ExcName → Option Value} {mg mb : Str → Option Value} {fa : Nat → Addr} {g0 : List Addr} {gl : List (Str × AV)} {cs : List (Str × Nat)}
  {call : Nat → List AV → AH → Option (AV × AH)} {d : Nat}

theorem ite_or {α : Type} {p : Prop} [Decidable p] {x r : α} (h : ¬p → x = r) : (if p then r else x) = r := by
  by_cases q : p
  · exact if_pos q
  · exact (if_neg q).trans (h q)
theorem swap_none {o i q j e f : PySem.Expr} {p1 p2 p3 p4 : Pos} {k k2 : Nat} {env : Env} : swappedStores [.Tuple [.Subscript o i p1, .Subscript q j p2] k p3] (.Tuple [e, f] k2 p4) env = pure none := by
  exact ite_or fun _ => ite_or fun _ => if_pos rfl

theorem assign_comp {n : Nat} (G : Gl K fa g0 gl) (E0 : EvOK prog w K p loose mean mg mb fa g0 gl cs call d n) {A : Around} {env : Env} {h₀ : Heap} {L : Addr} {nt : List (Str × Nat)} {ca : List Addr} {exs : List (Addr × Obj)}
    {elt : PySem.Expr} {gens : List Comprehension} {sc : Scope} {pos spos px : Pos} {x : Str} {i : Nat} {v' : Ex} {ρ : List AV} {H H' : AH} {v : AV} {m : Str → Option Value} {μ : List Addr} {cl : List (Addr × Obj)} {s : Shared} {Q : Flow → Shared → Prop} {E : Value → Shared → Prop}
    (hx : (env.scope.names.lookup x = some .local ∨ env.scope.names.lookup x = some .cell) ∧ nt.lookup x = some i) (ht : trE gl cs (n + 1) env.scope.names nt (.ListComp elt gens sc pos) = some v') (he : ev call v' ρ H = some (v, H'))
    (C : Cx K p loose mean mg mb A env h₀ L d) (F : Fk env nt L ca) (T : SS fa g0 h₀ L env nt ca exs s.heap m μ H ρ cl) (k : SOk fa g0 h₀ L env nt ca exs μ s .nxt (ρ.set i v) H' Q)
    (hsw : swapsWith (.ListComp elt gens sc pos) (some (.Name x px)) spos.line env = pure true) :
    wpAny (model prog w) A (exec (.Assign [.Name x px] (.ListComp elt gens sc pos) spos) env) Q E s := by
  have e1 : swapsWithSole [.Name x px] (.ListComp elt gens sc pos) spos.line env = pure true := hsw
  rw [exec_Assign_arm]
  refine wpAny_bind (wpAny_standAt ?_)
  rw [e1]
  refine wpAny_bind (wpAny_pure ?_)
  rw [if_pos rfl]
  have e2 : (assignEach [PySem.Expr.Name x px] env).map (·.2) = [assign (.Name x px) env] := rfl
  rw [e2]
  have key : wpAny (model prog w) A (comprehension (.ListComp elt gens sc pos) sc env (firstIterPos gens pos) (newList []) (firstAsync gens) (firstIter gens env) (some fun v => assignAll v [assign (.Name x px) env])) (fun _ => Q .next) E s := by
    refine comp_gen G E0 ht he (some fun v => assignAll v [assign (.Name x px) env]) C T.S T.E fun D Cc o' h' tk μ' S' hd hne p' rv => ?_
    obtain ⟨es, ep, hd1, hd2⟩ := hd
    have hcc : Cc ∉ ca := fun q => by
      rw [← T.ad] at q
      obtain ⟨z, h1, h2⟩ := List.mem_map.mp q
      exact hne z (List.mem_append_left _ h1) h2
    have T1 : SS fa g0 h₀ L env nt ca ((Cc, o') :: exs) h' m μ' H' ρ cl := ⟨sr_swapI S', eok_more (T.E.mono p') fun q hq => by
      rcases List.mem_append.mp hq with hq | hq
      · exact List.mem_append_left _ hq
      · exact List.mem_append_right _ (.tail _ hq), T.ad, T.cell, fun q hq => by
      rcases List.mem_cons.mp hq with rfl | hq
      · exact hcc
      · exact T.apart q hq⟩
    show wpAny (model prog w) A (assign (.Name x px) env (.ref D)) _ E _
    refine wpAny_assign_Name (store_ok C F hx.1 hx.2 T1 rv fun h2 tk2 m2 cl2 T2 => ?_)
    have hC2 := T2.S.exN (Cc, o') (List.mem_append_right _ (.head _))
    refine ⟨nsFind es, ⟨o', es, ep, hC2.1, hd1, hd2, fun _ => rfl⟩, fun h3 hs3 => ?_⟩
    have hne2 : ∀ q ∈ cl2 ++ exs, q.1 ≠ Cc := fun q hq => by
      rcases List.mem_append.mp hq with hq | hq
      · exact fun e => hcc (by rw [← T2.ad, ← e]; exact List.mem_map_of_mem hq)
      · exact hne q (List.mem_append_right _ hq)
    have S3 : SR fa g0 h₀ L h3 m2 μ' H' (cl2 ++ exs) := (T2.swapI).dropI hne2 hs3.extBut
    exact k h3 tk2 μ' m2 cl2 .next ⟨S3, eok_less F T2.E hC2.2.1 hcc, T2.ad, T2.cell, T.apart⟩ p' rfl
  show wpAny (model prog w) A ((comprehension (.ListComp elt gens sc pos) sc env (firstIterPos gens pos) (newList []) (firstAsync gens) (firstIter gens env) (some fun v => assignAll v [assign (.Name x px) env]) >>= fun _ => pure ()) >>= fun _ => pure Flow.next) Q E s
  exact wpAny_bind (wpAny_bind (wpAny_mono key (fun _ _ h => wpAny_pure (wpAny_pure h)) fun _ _ h => h))

theorem swaps_sole {n : Nat} {kd : List (Str × NameKind)} {nt : List (Str × Nat)} {e : PySem.Expr} {e' : Ex} {ts : List PySem.Expr} {k1 l : Nat} {p1 : Pos} {env : Env} (h : trE gl cs n kd nt e = some e') (hc : ¬ isComp e = true) (hn : tupOf e = none) : swapsWithSole [.Tuple ts k1 p1] e l env = pure false := by
  have hs := trE_supp h
  clear h
  cases e <;> first | rfl | exact absurd rfl hc | exact nomatch (show false = true from hs) | cases hn
theorem swapped_none {n : Nat} {kd : List (Str × NameKind)} {nt : List (Str × Nat)} {e : PySem.Expr} {e' : Ex} {ts : List PySem.Expr} {k1 : Nat} {p1 : Pos} {env : Env} (h : trE gl cs n kd nt e = some e') (hn : tupOf e = none) : swappedStores [.Tuple ts k1 p1] e env = pure none := by
  have hs := trE_supp h
  clear h
  cases e <;> first | rfl | exact nomatch (show false = true from hs) | cases hn
theorem trip_inj {α β γ : Type} {a a' : α} {b b' : β} {c c' : γ} (h : some (a, b, c) = some (a', b', c')) : a = a' ∧ b = b' ∧ c = c' := by
  obtain ⟨h1, h2⟩ := some_pair h
  obtain ⟨h2, h3⟩ := pair_inj h2
  exact ⟨h1, h2, h3⟩
theorem evs_len {call : Nat → List AV → AH → Option (AV × AH)} {n : Nat} {kd : List (Str × NameKind)} {nt : List (Str × Nat)} : ∀ {l : List PySem.Expr} {es' : Ex}, trL (trE gl cs n kd nt) l = some es' → ∀ {ρ : List AV} {H : AH} {vs : List AV} {H' : AH}, evs call es' ρ H = some (vs, H') → vs.length = l.length
  | [], _, a, _, _, _, _, b => by
    obtain rfl := Option.some.inj a
    obtain ⟨rfl, _⟩ := some_pair b
    rfl
  | z :: l, es', a, ρ, H, vs, H', b => by
    obtain ⟨z', z1, z2⟩ := Option.bind_eq_some_iff.mp a
    obtain ⟨l', z3, rfl⟩ := Option.map_eq_some_iff.mp z2
    obtain ⟨⟨b1, b2⟩, b3, b4⟩ := Option.bind_eq_some_iff.mp b
    obtain ⟨⟨b5, b6⟩, b7, b8⟩ := Option.bind_eq_some_iff.mp b4
    obtain ⟨rfl, _⟩ := some_pair b8
    exact congrArg (· + 1) (evs_len z3 b7)
section
variable {A : Around} {env : Env} {h₀ : Heap} {L : Addr} {nt : List (Str × Nat)} {ca : List Addr} {exs : List (Addr × Obj)} {ρ ρ' : List AV} {H H' : AH} {fl : Fl} {m : Str → Option Value} {μ : List Addr} {cl : List (Addr × Obj)} {s : Shared} {Q : Flow → Shared → Prop} {E : Value → Shared → Prop} {st' : St}
theorem name_case {n : Nat} (G : Gl K fa g0 gl) (Ck : CallOK prog w K p loose mean mg mb fa g0 call d) (E0 : EvOK prog w K p loose mean mg mb fa g0 gl cs call d n) {x : Str} {px ps : Pos} {value : PySem.Expr} (ht : trAssign (trE gl cs n env.scope.names nt) env.scope.names nt value (.Name x px) = some st')
    (he : ex call st' ρ H = some (fl, ρ', H')) (C : Cx K p loose mean mg mb A env h₀ L d) (F : Fk env nt L ca) (T : SS fa g0 h₀ L env nt ca exs s.heap m μ H ρ cl) (k : SOk fa g0 h₀ L env nt ca exs μ s fl ρ' H' Q) : wpAny (model prog w) A (exec (.Assign [.Name x px] value ps) env) Q E s := by
  obtain ⟨i, h1, ht2⟩ := Option.bind_eq_some_iff.mp ht
  obtain ⟨v', h2, rfl⟩ := Option.map_eq_some_iff.mp ht2
  have hx := trT_some h1
  obtain ⟨⟨v1, H1⟩, h3, h4⟩ := Option.bind_eq_some_iff.mp he
  obtain ⟨rfl, rfl, rfl⟩ := trip_inj h4
  have plain : swapsWith value (some (.Name x px)) ps.line env = pure false → wpAny (model prog w) A (exec (.Assign [.Name x px] value ps) env) Q E s := fun hs =>
    wpAny_Assign_Name (E0 value v' nt env h2 ρ H v1 _ h3 A h₀ L m μ _ s _ E C T.S T.E fun h' tk μ' val S' p' rv =>
      store_ok (s := { s with heap := h', toks := tk }) C F hx.1 hx.2 (T.after S' p') rv fun h'' tk'' m'' cl'' T'' => k h'' tk'' μ' m'' cl'' .next T'' p' rfl) hs
  cases hc : isComp value with
  | true =>
    cases value with
    | ListComp elt gens sc pos =>
      cases n with
      | zero => cases h2
      | succ n =>
        have hb : ∃ b : Bool, swapsWith (.ListComp elt gens sc pos) (some (.Name x px)) ps.line env = pure b := ⟨_, rfl⟩
        obtain ⟨b, hb⟩ := hb
        cases b with
        | false => exact plain hb
        | true => exact assign_comp G (ev_all (cs := cs) G Ck n).1 hx h2 h3 C F T k hb
    | _ => cases hc
  | false => exact plain (swaps_none h2 hc env)
theorem swap_case {n : Nat} (E0 : EvOK prog w K p loose mean mg mb fa g0 gl cs call d n) {z : (PySem.Expr × PySem.Expr × Pos) × (PySem.Expr × PySem.Expr × Pos) × (PySem.Expr × PySem.Expr)} {k1 k2 : Nat} {p3 p4 ps : Pos} (ht : trSwap (trE gl cs n env.scope.names nt) z = some st')
    (he : ex call st' ρ H = some (fl, ρ', H')) (C : Cx K p loose mean mg mb A env h₀ L d) (F : Fk env nt L ca) (T : SS fa g0 h₀ L env nt ca exs s.heap m μ H ρ cl) (k : SOk fa g0 h₀ L env nt ca exs μ s fl ρ' H' Q) : wpAny (model prog w) A (exec (.Assign [.Tuple [.Subscript z.1.1 z.1.2.1 z.1.2.2, .Subscript z.2.1.1 z.2.1.2.1 z.2.1.2.2] k1 p3] (.Tuple [z.2.2.1, z.2.2.2] k2 p4) ps) env) Q E s := by
  obtain ⟨⟨o, i, p1⟩, ⟨q, j, p2⟩, e, f⟩ := z
  obtain ⟨e', he', ht2⟩ := Option.bind_eq_some_iff.mp ht
  obtain ⟨f', hf', ht3⟩ := Option.bind_eq_some_iff.mp ht2
  obtain ⟨o', ho', ht4⟩ := Option.bind_eq_some_iff.mp ht3
  obtain ⟨i', hi', ht5⟩ := Option.bind_eq_some_iff.mp ht4
  obtain ⟨q', hq', ht6⟩ := Option.bind_eq_some_iff.mp ht5
  obtain ⟨j', hj', rfl⟩ := Option.map_eq_some_iff.mp ht6
  clear ht ht2 ht3 ht4 ht5 ht6
  obtain ⟨⟨ve, H1⟩, a1, he⟩ := Option.bind_eq_some_iff.mp he
  obtain ⟨⟨vf, H2⟩, a2, he⟩ := Option.bind_eq_some_iff.mp he
  obtain ⟨⟨vo, H3⟩, a3, he⟩ := Option.bind_eq_some_iff.mp he
  obtain ⟨⟨vi, H4⟩, a4, he⟩ := Option.bind_eq_some_iff.mp he
  obtain ⟨H5, a5, he⟩ := Option.bind_eq_some_iff.mp he
  obtain ⟨⟨vq, H6⟩, a6, he⟩ := Option.bind_eq_some_iff.mp he
  obtain ⟨⟨vj, H7⟩, a7, he⟩ := Option.bind_eq_some_iff.mp he
  obtain ⟨H8, a8, he⟩ := Option.bind_eq_some_iff.mp he
  obtain ⟨rfl, rfl, rfl⟩ := trip_inj he
  refine Assign_Tuple (wpAny_Tuple ?_) rfl swap_none
  refine args_cons (E0 e e' nt env he' ρ H ve H1 a1 A h₀ L m μ _ s _ E C T.S T.E fun h1 tk1 μ1 w1 S1 p1 r1 => ?_) (star_ne he' [f] env)
  refine args_cons (E0 f f' nt env hf' ρ H1 vf H2 a2 A h₀ L m μ1 _ _ _ E C S1 (T.E.mono p1) fun h2 tk2 μ2 w2 S2 p2 r2 => args_nil ?_) (star_ne hf' [] env)
  refine ⟨by show 2 ≤ sizeLine; decide, ?_⟩
  dsimp only
  have ht : (h2.push { cls := .type "tuple", data := .seq [w1, w2].toArray }).IsTuple h2.objs.size #[w1, w2] := ⟨_, Heap.get?_push_size _ rfl, rfl, 0, rfl⟩
  refine wpAny_assign_Tuple (s := { s with heap := h2.push { cls := .type "tuple", data := .seq [w1, w2].toArray }, toks := tk2 }) C.hh ht rfl rfl fun h3 hx3 => ?_
  replace hx3 : Heap.ExtBut (h2.push { cls := .type "tuple", data := .seq [w1, w2].toArray }).objs.size (h2.push { cls := .type "tuple", data := .seq [w1, w2].toArray }) h3 := hx3
  have old3 : ∀ b o, h2.get? b = some o → h3.get? b = some o := fun b o hb => hx3 b o (by rw [Heap.size_push]; exact Nat.ne_of_lt (Nat.lt_succ_of_lt (Heap.lt_size hb))) (Heap.get?_push_of_some _ hb)
  have S3 := S2.grow old3
  have q02 := p1.trans p2
  show wpAny _ A (do holding [w2] (assign (.Subscript o i _) env w1); do holding [] (assign (.Subscript q j _) env w2); pure ()) _ _ _
  refine wpAny_bind (wpAny_holding (assign_sub ?_))
  refine E0 o o' nt env ho' ρ H2 vo H3 a3 A h₀ L m μ2 _ _ _ E C S3 (T.E.mono q02) fun h4 tk4 μ4 w4 S4 p4 r4 => ?_
  refine E0 i i' nt env hi' ρ H3 vi H4 a4 A h₀ L m μ4 _ _ _ E C S4 (T.E.mono (q02.trans p4)) fun h5 tk5 μ5 w5 S5 p5 r5 => ?_
  refine put_ok (s := { s with heap := h5, toks := tk5 }) S5 (r4.mono p5) r5 ((r1.mono p2).mono (p4.trans p5)) a5 fun h6 S6 => ?_
  have q05 := q02.trans (p4.trans p5)
  refine wpAny_bind (wpAny_holding (assign_sub ?_))
  refine E0 q q' nt env hq' ρ H5 vq H6 a6 A h₀ L m μ5 _ _ _ E C S6 (T.E.mono q05) fun h7 tk7 μ7 w7 S7 p7 r7 => ?_
  refine E0 j j' nt env hj' ρ H6 vj H7 a7 A h₀ L m μ7 _ _ _ E C S7 (T.E.mono (q05.trans p7)) fun h8 tk8 μ8 w8 S8 p8 r8 => ?_
  refine put_ok (s := { s with heap := h8, toks := tk8 }) S8 (r7.mono p8) r8 (r2.mono ((p4.trans p5).trans (p7.trans p8))) a8 fun h9 S9 => wpAny_pure ?_
  exact k h9 tk8 μ8 m cl .next (T.after S9 (q05.trans (p7.trans p8))) (q05.trans (p7.trans p8)) rfl
theorem asgs_case {n : Nat} (E0 : EvOK prog w K p loose mean mg mb fa g0 gl cs call d n) {ts vs : List PySem.Expr} {k1 k2 : Nat} {p1 p2 ps : Pos} (ht : trAsgs (trE gl cs n env.scope.names nt) env.scope.names nt ts vs = some st')
    (he : ex call st' ρ H = some (fl, ρ', H')) (C : Cx K p loose mean mg mb A env h₀ L d) (F : Fk env nt L ca) (T : SS fa g0 h₀ L env nt ca exs s.heap m μ H ρ cl) (k : SOk fa g0 h₀ L env nt ca exs μ s fl ρ' H' Q) : wpAny (model prog w) A (exec (.Assign [.Tuple ts k1 p1] (.Tuple vs k2 p2) ps) env) Q E s := by
  obtain ⟨is, h1, ht2⟩ := Option.bind_eq_some_iff.mp ht
  obtain ⟨hc, ht3⟩ := some_if ht2
  obtain ⟨es, h2, rfl⟩ := Option.map_eq_some_iff.mp ht3
  clear ht ht2 ht3
  obtain ⟨⟨vv, H1⟩, h3, h4⟩ := Option.bind_eq_some_iff.mp he
  obtain ⟨ρ1, h5, h6⟩ := Option.bind_eq_some_iff.mp h4
  obtain ⟨rfl, rfl, rfl⟩ := trip_inj h6
  obtain ⟨xs, rfl, ha⟩ := names_of h1
  have hl5 : is.length = vv.length := setAll_len h5
  have hxl : xs.length = is.length := by have := ha.length; simpa using this
  have value : ∀ Q', (∀ h' tk μ' T' vals, SR fa g0 h₀ L h' m μ' H1 (cl ++ exs) → μ <+: μ' → RVs fa μ' vv vals → h'.IsTuple T' vals.toArray → Q' (.ref T') { s with heap := h', toks := tk }) → wpAny (model prog w) A (eval (.Tuple vs k2 p2) env) Q' E s := fun Q' kq => by
    refine wpAny_Tuple (evs_of E0 vs es nt env p2 h2 ρ H vv H1 h3 A h₀ L m μ _ s _ E C T.S T.E fun h' tk μ' vals S' p' rv => ⟨?_, ?_⟩)
    · show vals.length ≤ sizeLine
      rw [← rv.length, evs_len h2 h3]
      exact Nat.le_trans hc.2.2 (by decide)
    · exact kq _ tk μ' _ vals (S'.grow fun b o e => Heap.get?_push_of_some _ e) p' rv ⟨_, Heap.get?_push_size _ rfl, rfl, 0, rfl⟩
  rcases swapped_of (xs := xs) (k := k1) (p1 := p1) (k2 := k2) (p2 := p2) (env := env) hc.2.1 with hw | hw
  · refine Assign_Tuple (value _ fun h' tk μ' T' vals S' p' rv hT => ?_) rfl hw
    refine wpAny_assign_Tuple (s := { s with heap := h', toks := tk }) C.hh hT ?_ (each_find xs env) fun h3 hx3 => ?_
    · rw [each_names, List.length_map, hxl, hl5, rv.length]; rfl
    replace hx3 : Heap.ExtBut h'.objs.size h' h3 := hx3
    have S3 := S'.grow (h' := h3) fun b o hb => hx3 b o (Nat.ne_of_lt (Heap.lt_size hb)) hb
    exact stores_ok C F (xs.map (·.1)) is vv vals ρ _ m cl { s with heap := h3, toks := tk } _ _ ha h5 rv (all2_assign env xs) (T.after S3 p') fun h4 tk4 m4 cl4 T4 => k h4 tk4 μ' m4 cl4 .next T4 p' rfl
  · refine Assign_Tuple_swapped (value _ fun h' tk μ' T' vals S' p' rv hT => ?_) rfl hw
    have hlen : (xs.map (·.1)).length = vals.toArray.size := by rw [List.length_map, hxl, hl5, rv.length]; rfl
    rw [hlen]
    refine wpAny_unpackItems_tuple (s := { s with heap := h', toks := tk }) C.hh hT fun h3 hx3 => ?_
    replace hx3 : Heap.ExtBut h'.objs.size h' h3 := hx3
    have S3 := S'.grow (h' := h3) fun b o hb => hx3 b o (Nat.ne_of_lt (Heap.lt_size hb)) hb
    exact stores_ok C F (xs.map (·.1)).reverse is.reverse vv.reverse vals.reverse ρ _ m cl { s with heap := h3, toks := tk } _ _ ha.reverse ((setAll_rev hc.1 hl5).trans h5) rv.reverse (all2_bind env _) (T.after S3 p') fun h4 tk4 m4 cl4 T4 => k h4 tk4 μ' m4 cl4 .next T4 p' rfl
theorem unpk_case {n : Nat} (E0 : EvOK prog w K p loose mean mg mb fa g0 gl cs call d n) {ts : List PySem.Expr} {value : PySem.Expr} {k1 : Nat} {p1 ps : Pos} (hnt : tupOf value = none) (ht : (if isComp value = true then none else (trTs env.scope.names nt ts).bind fun is => (trE gl cs n env.scope.names nt value).map fun v => St.unpk is v) = some st')
    (he : ex call st' ρ H = some (fl, ρ', H')) (C : Cx K p loose mean mg mb A env h₀ L d) (F : Fk env nt L ca) (T : SS fa g0 h₀ L env nt ca exs s.heap m μ H ρ cl) (k : SOk fa g0 h₀ L env nt ca exs μ s fl ρ' H' Q) : wpAny (model prog w) A (exec (.Assign [.Tuple ts k1 p1] value ps) env) Q E s := by
  obtain ⟨hc, ht2⟩ := none_if ht
  obtain ⟨is, h1, ht3⟩ := Option.bind_eq_some_iff.mp ht2
  obtain ⟨v', h2, rfl⟩ := Option.map_eq_some_iff.mp ht3
  clear ht ht2 ht3
  obtain ⟨⟨vv, H1⟩, h3, h4⟩ := Option.bind_eq_some_iff.mp he
  cases vv with
  | ptr q =>
    obtain ⟨vs, h5, h6⟩ := Option.bind_eq_some_iff.mp h4
    obtain ⟨ρ1, h7, h8⟩ := Option.bind_eq_some_iff.mp h6
    obtain ⟨rfl, rfl, rfl⟩ := trip_inj h8
    obtain ⟨xs, rfl, ha⟩ := names_of h1
    have hl5 := setAll_len h7
    have hxl : xs.length = is.length := by have := ha.length; simpa using this
    refine Assign_Tuple (E0 value v' nt env h2 ρ H _ _ h3 A h₀ L m μ _ s _ E C T.S T.E fun h' tk μ' val S' p' rv => ?_) (swaps_sole h2 hc hnt) (swapped_none h2 hnt)
    obtain ⟨al, hal, rfl⟩ := rv
    obtain ⟨vals, nn, o, ho, hc1, hd1, rvs⟩ := S'.tup? h5 hal
    refine wpAny_assign_Tuple (s := { s with heap := h', toks := tk }) C.hh ⟨o, ho, hc1, nn, hd1⟩ ?_ (each_find xs env) fun h3 hx3 => ?_
    · rw [each_names, List.length_map, hxl, hl5, rvs.length]; rfl
    replace hx3 : Heap.ExtBut h'.objs.size h' h3 := hx3
    have S3 := S'.grow (h' := h3) fun b o hb => hx3 b o (Nat.ne_of_lt (Heap.lt_size hb)) hb
    exact stores_ok C F (xs.map (·.1)) is vs vals ρ _ m cl { s with heap := h3, toks := tk } _ _ ha h7 rvs (all2_assign env xs) (T.after S3 p') fun h4 tk4 m4 cl4 T4 => k h4 tk4 μ' m4 cl4 .next T4 p' rfl
  | _ => cases h4
theorem put_case {n : Nat} (E0 : EvOK prog w K p loose mean mg mb fa g0 gl cs call d n) {o i value : PySem.Expr} {p1 ps : Pos} (ht : trAssign (trE gl cs n env.scope.names nt) env.scope.names nt value (.Subscript o i p1) = some st')
    (he : ex call st' ρ H = some (fl, ρ', H')) (C : Cx K p loose mean mg mb A env h₀ L d) (F : Fk env nt L ca) (T : SS fa g0 h₀ L env nt ca exs s.heap m μ H ρ cl) (k : SOk fa g0 h₀ L env nt ca exs μ s fl ρ' H' Q) : wpAny (model prog w) A (exec (.Assign [.Subscript o i p1] value ps) env) Q E s := by
  obtain ⟨hc, ht2⟩ := none_if ht
  obtain ⟨v', h1, ht3⟩ := Option.bind_eq_some_iff.mp ht2
  obtain ⟨o', h2, ht4⟩ := Option.bind_eq_some_iff.mp ht3
  obtain ⟨i', h3, rfl⟩ := Option.map_eq_some_iff.mp ht4
  clear ht ht2 ht3 ht4
  obtain ⟨⟨vv, H1⟩, a1, he⟩ := Option.bind_eq_some_iff.mp he
  obtain ⟨⟨vo, H2⟩, a2, he⟩ := Option.bind_eq_some_iff.mp he
  obtain ⟨⟨vi, H3⟩, a3, he⟩ := Option.bind_eq_some_iff.mp he
  obtain ⟨H4, a4, he⟩ := Option.bind_eq_some_iff.mp he
  obtain ⟨rfl, rfl, rfl⟩ := trip_inj he
  refine wpAny_Assign_Subscript (E0 value v' nt env h1 ρ H vv H1 a1 A h₀ L m μ _ s _ E C T.S T.E fun h' tk μ' w1 S1 p1 r1 => ?_) (swaps_none h1 (Bool.eq_false_iff.mpr hc) env)
  refine E0 o o' nt env h2 ρ H1 vo H2 a2 A h₀ L m μ' _ _ _ E C S1 (T.E.mono p1) fun h2' tk2 μ2 w2 S2 p2 r2 => ?_
  refine E0 i i' nt env h3 ρ H2 vi H3 a3 A h₀ L m μ2 _ _ _ E C S2 (T.E.mono (p1.trans p2)) fun h3' tk3 μ3 w3 S3 p3 r3 => ?_
  refine put_ok (s := { s with heap := h3', toks := tk3 }) S3 (r2.mono p3) r3 (r1.mono (p2.trans p3)) a4 fun h4 S4 => ?_
  exact k h4 tk3 μ3 m cl .next (T.after S4 ((p1.trans p2).trans p3)) ((p1.trans p2).trans p3) rfl
theorem aug_case {n : Nat} (E0 : EvOK prog w K p loose mean mg mb fa g0 gl cs call d n) {t value : PySem.Expr} {op : Operator} {ps : Pos} (ht : trAug (trE gl cs n env.scope.names nt) env.scope.names nt t op value = some st')
    (he : ex call st' ρ H = some (fl, ρ', H')) (C : Cx K p loose mean mg mb A env h₀ L d) (F : Fk env nt L ca) (T : SS fa g0 h₀ L env nt ca exs s.heap m μ H ρ cl) (k : SOk fa g0 h₀ L env nt ca exs μ s fl ρ' H' Q) : wpAny (model prog w) A (exec (.AugAssign t op value ps) env) Q E s := by
  obtain ⟨⟨⟨x, px⟩, rfl⟩, _, ht2⟩ := Option.bind_eq_some_iff.mp ht
  obtain ⟨i, h1, ht3⟩ := Option.bind_eq_some_iff.mp ht2
  obtain ⟨o, h2, ht4⟩ := Option.bind_eq_some_iff.mp ht3
  obtain ⟨hpow, ht5⟩ := none_if ht4
  obtain ⟨v', h3, rfl⟩ := Option.map_eq_some_iff.mp ht5
  clear ht ht2 ht3 ht4 ht5
  have hx := trT_some h1
  obtain ⟨a0, b1, he2⟩ := Option.bind_eq_some_iff.mp he
  obtain ⟨⟨vv, H1⟩, b2, he3⟩ := Option.bind_eq_some_iff.mp he2
  cases a0 with
  | int a =>
    cases vv with
    | int b =>
      obtain ⟨kk, b3, he4⟩ := Option.bind_eq_some_iff.mp he3
      obtain ⟨rfl, rfl, rfl⟩ := trip_inj he4
      obtain rfl := bop_eq h2
      refine wpAny_AugAssign_Name (load_ok C hx.1 hx.2 b1 rfl T fun val rv => ?_)
      obtain ⟨t, rfl⟩ := rv
      refine E0 value v' nt env h3 ρ H _ _ b2 A h₀ L m μ _ s _ E C T.S T.E fun h' tk μ' w1 S1 p1 r1 => ?_
      obtain ⟨u, rfl⟩ := r1
      refine aug_ints (fun q => hpow (by rw [q]; rfl)) b3 fun t' tk' => ?_
      exact store_ok (v := .int kk) (s := { s with heap := h', toks := tk' }) C F hx.1 hx.2 (T.after S1 p1) ⟨t', rfl⟩ fun h2' tk2 m2 cl2 T2 => k h2' tk2 μ' m2 cl2 .next T2 p1 rfl
    | _ => cases he3
  | _ => cases he3
theorem forR_case {n : Nat} (G : Gl K fa g0 gl) (E0 : EvOK prog w K p loose mean mg mb fa g0 gl cs call d n) (B0 : BlOK prog w K p loose mean mg mb fa g0 gl cs call d n) {x f : Str} {px fp cp ps : Pos} {args : List PySem.Expr} {a : List Stmt} {i : Nat} (h1 : trT env.scope.names nt (.Name x px) = some i)
    (hb : isB env.scope.names f "range" = true) (ht : ((trL (trE gl cs n env.scope.names nt) args).bind fun es => (trB (trS gl cs n env.scope.names nt) a).map fun a' => St.forR i es a') = some st')
    (he : ex call st' ρ H = some (fl, ρ', H')) (C : Cx K p loose mean mg mb A env h₀ L d) (F : Fk env nt L ca) (T : SS fa g0 h₀ L env nt ca exs s.heap m μ H ρ cl) (k : SOk fa g0 h₀ L env nt ca exs μ s fl ρ' H' Q) : wpAny (model prog w) A (exec (.For (.Name x px) (.Call (.Name f fp) args [] cp) a [] ps) env) Q E s := by
  obtain ⟨es, h2, ht2⟩ := Option.bind_eq_some_iff.mp ht
  obtain ⟨a', h3, rfl⟩ := Option.map_eq_some_iff.mp ht2
  obtain ⟨⟨vs, H1⟩, b1, he2⟩ := Option.bind_eq_some_iff.mp he
  obtain ⟨⟨lo, st, kk⟩, b2, he3⟩ := Option.bind_eq_some_iff.mp he2
  obtain ⟨nn, hrun⟩ := lrun_forN (N := kk) (i := 0) (lo := lo) (st := st) (Nat.zero_add kk) (by simpa using he3)
  refine wpAny_For (range_call G (evs_of E0) hb h2 b1 b2 C T.S T.E fun al h' tk μ' S' p' hra => ?_) (fun _ => rfl)
  refine iter_range S' hra fun I h'' tk' oI S'' hne hP => ?_
  have T1 : SS fa g0 h₀ L env nt ca exs h'' m μ' H1 ρ cl := T.after (S''.sub fun q hq => .tail _ hq) p'
  exact for_core B0 (s := { s with heap := h'', toks := tk' }) (trT_some h1) h3 C F hrun S'' hne hP (it_range C.hh) T1 (k.next p')
theorem nx_list {q : Nat} {H : AH} (h : ∃ z, nxL q 0 H = some z) : ∃ xs, listAt H q = some xs := by
  obtain ⟨z, hz⟩ := h
  obtain ⟨xs, hx, _⟩ := Option.map_eq_some_iff.mp hz
  exact ⟨xs, hx⟩
theorem forL_case {n : Nat} (E0 : EvOK prog w K p loose mean mg mb fa g0 gl cs call d n) (B0 : BlOK prog w K p loose mean mg mb fa g0 gl cs call d n) {x : Str} {px ps : Pos} {iter : PySem.Expr} {a : List Stmt} {i : Nat} (h1 : trT env.scope.names nt (.Name x px) = some i)
    (ht : ((trE gl cs n env.scope.names nt iter).bind fun e => (trB (trS gl cs n env.scope.names nt) a).map fun a' => St.forL i e a') = some st')
    (he : ex call st' ρ H = some (fl, ρ', H')) (C : Cx K p loose mean mg mb A env h₀ L d) (F : Fk env nt L ca) (T : SS fa g0 h₀ L env nt ca exs s.heap m μ H ρ cl) (k : SOk fa g0 h₀ L env nt ca exs μ s fl ρ' H' Q) : wpAny (model prog w) A (exec (.For (.Name x px) iter a [] ps) env) Q E s := by
  obtain ⟨e', h2, ht2⟩ := Option.bind_eq_some_iff.mp ht
  obtain ⟨a', h3, rfl⟩ := Option.map_eq_some_iff.mp ht2
  obtain ⟨⟨vv, H1⟩, b1, he2⟩ := Option.bind_eq_some_iff.mp he
  cases vv with
  | ptr q =>
    obtain ⟨nn, hrun⟩ := lrun_forI he2
    obtain ⟨xs, hxs⟩ := nx_list (by
      cases hrun with
      | stop h => exact ⟨_, h⟩
      | next h _ _ => exact ⟨_, h⟩
      | ret h _ => exact ⟨_, h⟩)
    refine wpAny_For (E0 iter e' nt env h2 ρ H _ H1 b1 A h₀ L m μ _ s _ E C T.S T.E fun h' tk μ' val S' p' rv => ?_) (set_ne h2 env)
    obtain ⟨al, hal, rfl⟩ := rv
    refine iter_list S' hal hxs fun I h'' tk' oI S'' hne hP => ?_
    have T1 : SS fa g0 h₀ L env nt ca exs h'' m μ' H1 ρ cl := T.after (S''.sub fun q hq => .tail _ hq) p'
    exact for_core B0 (s := { s with heap := h'', toks := tk' }) (trT_some h1) h3 C F hrun S'' hne hP (it_list C.hh hal) T1 (k.next p')
  | _ => cases he2
theorem forE_case {n : Nat} (G : Gl K fa g0 gl) (E0 : EvOK prog w K p loose mean mg mb fa g0 gl cs call d n) (B0 : BlOK prog w K p loose mean mg mb fa g0 gl cs call d n) {x y f : Str} {px py pt fp cp ps : Pos} {x1 : Nat} {e : PySem.Expr} {a : List Stmt} {i j : Nat}
    (h1 : trT env.scope.names nt (.Name x px) = some i) (h2 : trT env.scope.names nt (.Name y py) = some j) (hb : isB env.scope.names f "enumerate" = true) (ht : ((trE gl cs n env.scope.names nt e).bind fun e' => (trB (trS gl cs n env.scope.names nt) a).map fun a' => St.forE i j e' a') = some st')
    (he : ex call st' ρ H = some (fl, ρ', H')) (C : Cx K p loose mean mg mb A env h₀ L d) (F : Fk env nt L ca) (T : SS fa g0 h₀ L env nt ca exs s.heap m μ H ρ cl) (k : SOk fa g0 h₀ L env nt ca exs μ s fl ρ' H' Q) : wpAny (model prog w) A (exec (.For (.Tuple [.Name x px, .Name y py] x1 pt) (.Call (.Name f fp) [e] [] cp) a [] ps) env) Q E s := by
  obtain ⟨e', h3, ht2⟩ := Option.bind_eq_some_iff.mp ht
  obtain ⟨a', h4, rfl⟩ := Option.map_eq_some_iff.mp ht2
  have hx := trT_some h1
  have hy := trT_some h2
  obtain ⟨⟨vv, H1⟩, b1, he2⟩ := Option.bind_eq_some_iff.mp he
  cases vv with
  | ptr q =>
    obtain ⟨hfz, he3⟩ := some_if he2
    obtain ⟨nn, hrun⟩ := erun_forEn he3
    obtain ⟨xs, hxs⟩ := nx_list (by
      cases hrun with
      | stop h => exact ⟨_, h⟩
      | next h _ _ => exact ⟨_, h⟩
      | ret h _ => exact ⟨_, h⟩)
    refine wpAny_For (Call_ (builtin_name C G T.S hb (by decide) (by boot_by_name) (by decide) (by decide) ?_)) (fun _ => rfl)
    refine PyProof.Rows.callWith_type1 ?_ (star_ne h3 [] env)
    refine args_cons (E0 e e' nt env h3 ρ H _ H1 b1 A h₀ L m μ _ s _ E C T.S T.E fun h' tk μ' val S' p' rv => args_nil ?_) (star_ne h3 [] env)
    obtain ⟨al, hal, rfl⟩ := rv
    obtain ⟨vs, n1, o1, ho1, hc1, hd1, r1⟩ := S'.list? hxs hal
    obtain ⟨q1, q2⟩ := S'.pln q al o1 hfz hal ho1
    have ho1' : h'.get? al = some { cls := .type "list", dict := none, data := .seq vs.toArray n1, slots := #[] } := by
      rw [ho1]; obtain ⟨c, dd, dt, sl⟩ := o1; simp only at hc1 hd1 q1 q2; subst hc1 hd1 q1 q2; rfl
    refine call_enumerate_1 (s := { s with heap := h', toks := tk }) ho1' fun h2 hen hit hsz hk => ?_
    replace hen : IsEnum h2 (h'.objs.size + 1) h'.objs.size 0 .none := hen
    replace hit : h2.IsListIter h'.objs.size al 0 := hit
    replace hk : ∀ b o, h'.get? b = some o → h2.get? b = some o := hk
    refine wpAny_pyIter_enum (s := { s with heap := h2, toks := tk }) hen ?_
    have f1 := S'.fresh (a := h'.objs.size) (none_at_size h')
    have hn2 : h'.get? (h'.objs.size + 1) = none := by
      cases e : h'.get? (h'.objs.size + 1) with
      | none => rfl
      | some o => exact absurd (Heap.lt_size e) (Nat.not_lt.mpr (Nat.le_succ _))
    have f2 := S'.fresh (a := h'.objs.size + 1) hn2
    obtain ⟨oi, hoi, hoi1, hoi2⟩ := hit
    have nca : ∀ a, (∀ z ∈ cl ++ exs, z.1 ≠ a) → a ∉ ca := fun a ha q => by
      rw [← T.ad] at q
      obtain ⟨z, z1, z2⟩ := List.mem_map.mp q
      exact ha z (List.mem_append_left _ z1) z2
    have T1 : SS fa g0 h₀ L env nt ca exs h2 m μ' H1 ρ cl := (T.after S' p').grow hk
    exact enum_core B0 (s := { s with heap := h2, toks := tk }) hx hy h4 C F hrun hal hen hoi ⟨hoi1, hoi2⟩ (Nat.succ_ne_self _) ⟨nca _ f2.2.2.2, nca _ f1.2.2.2⟩ (fun z hz => ⟨f2.2.2.2 z (List.mem_append_right _ hz), f1.2.2.2 z (List.mem_append_right _ hz)⟩)
      ⟨f2.1, f1.1⟩ ⟨f2.2.1, f1.2.1⟩ ⟨f2.2.2.1, f1.2.2.1⟩ T1 (k.next p')
  | _ => cases he2
end

theorem st_succ {n : Nat} (G : Gl K fa g0 gl) (Ck : CallOK prog w K p loose mean mg mb fa g0 call d) (S0 : StOK prog w K p loose mean mg mb fa g0 gl cs call d n) : StOK prog w K p loose mean mg mb fa g0 gl cs call d (n + 1) := by
  have E0 := (ev_all (cs := cs) G Ck n).1
  have T0 := (ev_all (cs := cs) G Ck n).2
  have B0 := bl_of S0
  intro st st' nt env ht ρ H fl ρ' H' he A h₀ L ca exs m μ cl s Q E C F T k
  cases st with
  | Raise e c ps =>
    obtain rfl := Option.some.inj ht
    cases he
  | Expr e ps =>
    obtain ⟨hc, ht2⟩ := none_if ht
    obtain ⟨e', h1, rfl⟩ := Option.map_eq_some_iff.mp ht2
    obtain ⟨⟨v1, H1⟩, h2, h3⟩ := Option.bind_eq_some_iff.mp he
    cases v1 with
    | none =>
      obtain ⟨rfl, rfl, rfl⟩ := trip_inj h3
      refine wpAny_Expr_any (E0 e e' nt env h1 ρ H _ _ h2 A h₀ L m μ _ s _ E C T.S T.E fun h' tk μ' val S' p' rv => ?_) (by unfold interactive; rw [C.kf]; rfl) (swaps_none h1 (Bool.eq_false_iff.mpr hc) env)
      exact k h' tk μ' m cl .next (T.after S' p') p' rfl
    | _ => cases h3
  | Return e ps =>
    cases e with
    | none => cases ht
    | some e =>
      obtain ⟨e', h1, rfl⟩ := Option.map_eq_some_iff.mp ht
      obtain ⟨⟨v1, H1⟩, h2, h3⟩ := Option.bind_eq_some_iff.mp he
      obtain ⟨rfl, rfl, rfl⟩ := trip_inj h3
      refine wpAny_Return_some (E0 e e' nt env h1 ρ H v1 _ h2 A h₀ L m μ _ s _ E C T.S T.E fun h' tk μ' val S' p' rv => ?_)
      exact k h' tk μ' m cl _ (T.after S' p') p' ⟨val, rv, rfl⟩
  | Assign ts value ps =>
    obtain ⟨t, h0, ht2⟩ := Option.bind_eq_some_iff.mp ht
    obtain rfl := one_eq h0
    cases t with
    | Name x px => exact name_case G Ck E0 ht2 he C F T k
    | Tuple ts k1 p1 =>
      change trTup _ _ _ ts value = some st' at ht2
      unfold trTup at ht2
      split at ht2
      · rename_i y _
        obtain ⟨⟨vs, k2, p2⟩, rfl⟩ := y
        split at ht2
        · rename_i z hz
          obtain ⟨rfl, rfl⟩ := swapOf_eq hz
          exact swap_case E0 ht2 he C F T k
        · exact asgs_case E0 ht2 he C F T k
      · exact unpk_case E0 (by assumption) ht2 he C F T k
    | Subscript o i p1 => exact put_case E0 ht2 he C F T k
    | _ => cases ht2
  | AugAssign t op value ps => exact aug_case E0 ht he C F T k
  | If t a b ps =>
    obtain ⟨htk, ht2⟩ := some_if ht
    obtain ⟨t', h1, ht3⟩ := Option.bind_eq_some_iff.mp ht2
    obtain ⟨a', h2, ht4⟩ := Option.bind_eq_some_iff.mp ht3
    obtain ⟨b', h3, rfl⟩ := Option.map_eq_some_iff.mp ht4
    obtain ⟨⟨vv, H1⟩, b1, he2⟩ := Option.bind_eq_some_iff.mp he
    obtain ⟨c, b2, he3⟩ := Option.bind_eq_some_iff.mp he2
    refine wpAny_If (T0 t t' nt env htk h1 ρ H vv H1 c b1 b2 A h₀ L m μ _ s _ E C T.S T.E fun h' tk μ' S' p' => ?_)
    cases c with
    | true => exact B0 a a' nt env h2 ρ H1 fl ρ' H' he3 A h₀ L ca exs m μ' cl _ Q E C F (T.after S' p') (k.next p')
    | false => exact B0 b b' nt env h3 ρ H1 fl ρ' H' he3 A h₀ L ca exs m μ' cl _ Q E C F (T.after S' p') (k.next p')
  | While t a e ps =>
    obtain ⟨hte, ht2⟩ := some_if ht
    obtain ⟨htk, hem⟩ := Bool.and_eq_true_iff.mp hte
    obtain rfl := List.isEmpty_iff.mp hem
    obtain ⟨t', h1, ht3⟩ := Option.bind_eq_some_iff.mp ht2
    obtain ⟨a', h2, rfl⟩ := Option.map_eq_some_iff.mp ht3
    exact wpAny_While (while_core T0 B0 htk h1 h2 C F he T k)
  | For t iter a e ps =>
    obtain ⟨hem, ht2⟩ := some_if ht
    obtain rfl := List.isEmpty_iff.mp hem
    cases t with
    | Name x px =>
      obtain ⟨i, h1, ht3⟩ := Option.bind_eq_some_iff.mp ht2
      split at ht3
      · rename_i args hr
        obtain ⟨f, fp, cp, rfl, hb⟩ := argsOf_eq hr
        exact forR_case G E0 B0 h1 hb ht3 he C F T k
      · exact forL_case E0 B0 h1 (none_if ht3).2 he C F T k
    | Tuple ts k1 pt =>
      obtain ⟨⟨e1, e2⟩, h0, ht3⟩ := Option.bind_eq_some_iff.mp ht2
      obtain ⟨⟨⟨x, px⟩, ex⟩, hx0, ht4⟩ := Option.bind_eq_some_iff.mp ht3
      obtain ⟨⟨⟨y, py⟩, ey⟩, hy0, ht5⟩ := Option.bind_eq_some_iff.mp ht4
      obtain ⟨args, hr, ht6⟩ := Option.bind_eq_some_iff.mp ht5
      obtain ⟨e, hz, ht7⟩ := Option.bind_eq_some_iff.mp ht6
      obtain ⟨i, h1, ht8⟩ := Option.bind_eq_some_iff.mp ht7
      obtain ⟨j, h2, ht9⟩ := Option.bind_eq_some_iff.mp ht8
      obtain ⟨f, fp, cp, rfl, hb⟩ := argsOf_eq hr
      obtain rfl := two_eq h0
      obtain rfl := one_eq hz
      clear hx0 hy0
      obtain rfl : e1 = _ := ex
      obtain rfl : e2 = _ := ey
      exact forE_case G E0 B0 h1 h2 hb (none_if ht9).2 he C F T k
    | _ => cases ht2
  | _ => exact nomatch (show false = true from trS_supp ht)

theorem st_all (G : Gl K fa g0 gl) (Ck : CallOK prog w K p loose mean mg mb fa g0 call d) : ∀ n, StOK prog w K p loose mean mg mb fa g0 gl cs call d n
  | 0 => fun st st' nt env ht => by cases ht
  | n + 1 => st_succ G Ck (st_all G Ck n)
end
end Mine
end

section
open PySem PySem.W PySem.Calls PyProof.Rows
namespace Mine

theorem SR.reframe {fa : Nat → Addr} {g0 : List Addr} {h₀ g : Heap} {L L' : Addr} {h h' : Heap} {m m' : Str → Option Value} {μ : List Addr} {H : AH} {exs : List (Addr × Obj)} (S : SR fa g0 h₀ L h m μ H exs)
    (F' : Fr g L' h' m') (N' : News g L' h' (led μ h exs)) (fz : ∀ i a, i < frozen → μ[i]? = some a → ∀ o, h₀.get? a = some o → g.get? a = some o) : SR fa g0 g L' h' m' μ H exs := by
  have same : ∀ i a, μ[i]? = some a → ∀ o, h.get? a = some o → h'.get? a = some o := fun i a e o ho => by
    rcases Nat.lt_or_ge i frozen with h1 | h1
    · obtain ⟨o', ho'⟩ := S.frz i a h1 e
      have := S.F.keep _ _ ho'
      rw [ho] at this; cases this
      exact F'.keep _ _ (fz i a h1 e _ ho')
    · obtain ⟨o', ho', hm⟩ := S.in_led h1 e
      rw [ho] at ho'; cases ho'
      exact (N' _ hm).1
  refine ⟨F', S.pre, S.gl, S.len, ?_, ?_, ?_, ?_, S.inj, fun p hp => N' p (List.mem_append_right _ hp), S.exd⟩
  · intro i a ao e1 e2
    obtain ⟨o, ho, r⟩ := S.obj i a ao e1 e2
    exact ⟨o, same i a e1 o ho, r⟩
  · intro i a hi e
    obtain ⟨o', _, hm⟩ := S.in_led hi e
    exact (N' _ hm).2
  · intro i a hi e
    obtain ⟨o', ho'⟩ := S.frz i a hi e
    exact ⟨o', fz i a hi e _ ho'⟩
  · intro i a o hi e ho
    obtain ⟨_, o', _, ho', _⟩ := S.there e
    have := same i a e o' ho'
    rw [this] at ho; cases ho
    exact S.pln i a _ hi e ho'

theorem cellsFrom_ge : ∀ (names : List (Str × NameKind)) (n b : Nat) (acc : List (Str × Addr)), b ≤ n → (∀ q ∈ acc, b ≤ q.2) → ∀ q ∈ cellsFrom n names acc, b ≤ q.2
  | [], _, _, _, _, h => h
  | (y, k) :: r, n, b, acc, hb, h => by
    unfold cellsFrom
    split
    · exact cellsFrom_ge r (n + 1) b _ (Nat.le_succ_of_le hb) fun q hq => by
        rcases List.mem_cons.mp hq with rfl | hq
        · exact hb
        · exact h q hq
    · exact cellsFrom_ge r n b _ hb h
theorem cellsFrom_inj : ∀ (names : List (Str × NameKind)) (n : Nat) (acc : List (Str × Addr)), (∀ q ∈ acc, (q.2 : Nat) < n) → (acc.Pairwise fun x y => x.2 ≠ y.2) → (cellsFrom n names acc).Pairwise fun x y => x.2 ≠ y.2
  | [], _, _, _, h => h
  | (y, k) :: r, n, acc, hb, h => by
    unfold cellsFrom
    split
    · refine cellsFrom_inj r (n + 1) _ (fun q hq => ?_) (List.pairwise_cons.mpr ⟨fun q hq => Nat.ne_of_gt (hb q hq), h⟩)
      rcases List.mem_cons.mp hq with rfl | hq
      · exact Nat.lt_succ_self _
      · exact Nat.lt_succ_of_lt (hb q hq)
    · exact cellsFrom_inj r n _ hb h
theorem pw_inj : ∀ {l : List (Str × Addr)}, (l.Pairwise fun x y => x.2 ≠ y.2) → ∀ {y y' : Str} {c : Addr}, (y, c) ∈ l → (y', c) ∈ l → y = y'
  | z :: l, h, y, y', c, h1, h2 => by
    obtain ⟨h3, h4⟩ := List.pairwise_cons.mp h
    rcases List.mem_cons.mp h1 with e1 | k1 <;> rcases List.mem_cons.mp h2 with e2 | k2
    · rw [← e1] at e2; cases e2; rfl
    · subst e1; exact (h3 _ k2 rfl).elim
    · subst e2; exact (h3 _ k1 rfl).elim
    · exact pw_inj h4 k1 k2
theorem mem_lookup {α : Type} : ∀ {l : List (Str × α)} {y : Str} {c : α}, l.lookup y = some c → (y, c) ∈ l
  | (z, d) :: l, y, c, h => by
    rw [List.lookup_cons] at h
    split at h
    · rename_i e; cases h; rw [beq_iff_eq.mp e]; exact .head _
    · exact .tail _ (mem_lookup h)
theorem CellsAre.adr {cm : Str → Option Value} {cs : List (Str × Addr)} {cells : List (Addr × Obj)} (X : CellsAre cm cs cells) : cells.map (·.1) = cs.map (·.2) := by
  induction X with
  | nil => rfl
  | cons _ _ ih => exact congrArg (_ :: ·) ih
theorem CellsAre.all {cm : Str → Option Value} {cs : List (Str × Addr)} {cells : List (Addr × Obj)} (X : CellsAre cm cs cells) : ∀ q ∈ cells, ∃ v, q.2.data = .cell v := by
  induction X with
  | nil => exact fun _ hq => nomatch hq
  | cons e _ ih =>
    intro q hq
    rcases List.mem_cons.mp hq with rfl | hq
    · exact ⟨_, e⟩
    · exact ih q hq
theorem CellsAre.look {cm : Str → Option Value} {cs : List (Str × Addr)} {cells : List (Addr × Obj)} (X : CellsAre cm cs cells) : ∀ {y : Str} {c : Addr}, cs.lookup y = some c → ∃ o, (c, o) ∈ cells ∧ o.data = .cell (cm y) := by
  induction X with
  | nil => exact fun h => nomatch h
  | cons e t ih =>
    intro y c h
    rw [List.lookup_cons] at h
    split at h
    · rename_i q; cases h; rw [beq_iff_eq.mp q]; exact ⟨_, .head _, e⟩
    · obtain ⟨o, h1, h2⟩ := ih h; exact ⟨o, .tail _ h1, h2⟩

theorem bindL_out {k : Str → Option NameKind} : ∀ {bs : List (Str × Value)} {m : Str → Option Value} {y : Str}, (∀ z ∈ bs, z.1 ≠ y) → bindL k bs m y = m y
  | [], _, _, _ => rfl
  | (n, v) :: r, m, y, h => by
    unfold bindL
    rw [bindL_out fun z hz => h z (.tail _ hz)]
    split
    · exact if_neg (Ne.symm (h (n, v) (.head _)))
    · rfl
theorem bindL_at {k : Str → Option NameKind} {y : Str} (hk : k y = some .local) : ∀ {xs : List Str} {vs : List Value} {m : Str → Option Value} {i : Nat} {v : Value}, xs.Nodup → xs[i]? = some y → vs[i]? = some v → bindL k (xs.zip vs) m y = some v
  | x :: xs, u :: vs, m, 0, v, hn, h1, h2 => by
    simp at h1 h2; subst h1 h2
    rw [List.zip_cons_cons]
    unfold bindL
    rw [bindL_out, if_pos hk]
    · simp
    · intro z hz q
      obtain ⟨a, b⟩ := z
      exact (List.nodup_cons.mp hn).1 (q ▸ (List.of_mem_zip hz).1)
  | x :: xs, u :: vs, m, i + 1, v, hn, h1, h2 => by
    rw [List.zip_cons_cons]
    unfold bindL
    exact bindL_at hk (List.nodup_cons.mp hn).2 (by simpa using h1) (by simpa using h2)
  | [], _, _, _, _, _, h1, _ => by simp at h1
  | _ :: _, [], _, _, _, _, _, h2 => by simp at h2
theorem bindC_out {k : Str → Option NameKind} : ∀ {bs : List (Str × Value)} {m : Str → Option Value} {y : Str}, (∀ z ∈ bs, z.1 ≠ y) → bindC k bs m y = m y
  | [], _, _, _ => rfl
  | (n, v) :: r, m, y, h => by
    unfold bindC
    rw [bindC_out fun z hz => h z (.tail _ hz)]
    split
    · rfl
    · exact if_neg (Ne.symm (h (n, v) (.head _)))
theorem bindC_at {k : Str → Option NameKind} {y : Str} (hk : k y ≠ some .local) : ∀ {xs : List Str} {vs : List Value} {m : Str → Option Value} {i : Nat} {v : Value}, xs.Nodup → xs[i]? = some y → vs[i]? = some v → bindC k (xs.zip vs) m y = some v
  | x :: xs, u :: vs, m, 0, v, hn, h1, h2 => by
    simp at h1 h2; subst h1 h2
    rw [List.zip_cons_cons]
    unfold bindC
    rw [bindC_out, if_neg hk]
    · simp
    · intro z hz q
      obtain ⟨a, b⟩ := z
      exact (List.nodup_cons.mp hn).1 (q ▸ (List.of_mem_zip hz).1)
  | x :: xs, u :: vs, m, i + 1, v, hn, h1, h2 => by
    rw [List.zip_cons_cons]
    unfold bindC
    exact bindC_at hk (List.nodup_cons.mp hn).2 (by simpa using h1) (by simpa using h2)
  | [], _, _, _, _, _, h1, _ => by simp at h1
  | _ :: _, [], _, _, _, _, _, h2 => by simp at h2

structure NamesOK (scope : Scope) (nt : List (Str × Nat)) (xs : List Str) (D : Df) : Prop where
  kf : scope.kind = .function
  gen : scope.isGenerator = false
  co : scope.isCoroutine = false
  num : nt.map (·.2) = List.range nt.length
  par : (nt.take D.params).map (·.1) = xs
  plen : xs.length = D.params
  pnd : xs.Nodup
  pk : ∀ x ∈ xs, scope.names.lookup x = some .local ∨ scope.names.lookup x = some .cell
  nofree : ∀ z ∈ scope.names, z.2 ≠ .free
  cnd : ((cellsFrom 0 scope.names []).map (·.1)).Nodup

theorem NamesOK.at_ {scope : Scope} {nt : List (Str × Nat)} {xs : List Str} {D : Df} (N : NamesOK scope nt xs D) {y : Str} {i : Nat} (h : nt.lookup y = some i) : nt[i]? = some (y, i) := by
  obtain ⟨j, hj⟩ := List.mem_iff_getElem?.mp (mem_lookup h)
  have : (nt.map (·.2))[j]? = some i := by rw [List.getElem?_map, hj]; rfl
  rw [N.num] at this
  have hl : j < nt.length := by
    rcases Nat.lt_or_ge j nt.length with h1 | h1
    · exact h1
    · rw [List.getElem?_eq_none h1] at hj; cases hj
  rw [List.getElem?_range hl] at this
  cases this; exact hj

section
variable {prog : Program} {w : World} {K : Frag} {p : Program} {loose : List Str} {mean : ExcName → Option Value} {mg mb : Str → Option Value} {fa : Nat → Addr} {g0 : List Addr} {gl : List (Str × AV)}

theorem enter {scope : Scope} {nt : List (Str × Nat)} {xs : List Str} {D : Df} (N : NamesOK scope nt xs D) {qual : Str} {L : Addr} {f : Addr} {cdv : Value} {h₀ h : Heap} {m : Str → Option Value} {μ : List Addr} {H : AH} {exs cells : List (Addr × Obj)} {vals : List Value} {args : List AV} {k : Nat}
    (hm : m = bindL (envOfC qual scope L f cdv).kindOf (xs.zip vals) fun _ => none) (S : SR fa g0 h₀ L h m μ H exs) (rv : RVs fa μ args vals) (hl : args.length = D.params) (Nc : News h₀ L h cells)
    (X : CellsAre (bindC (envOfC qual scope L f cdv).kindOf (xs.zip vals) fun _ => none) (cellsFrom (L + 1) scope.names []) cells) (hlt : ∀ i a, frozen ≤ i → μ[i]? = some a → (a : Nat) < L) (hle : ∀ q ∈ exs, (q.1 : Nat) < L) :
    SS fa g0 h₀ L (envOfC qual scope L f cdv) nt ((cellsFrom (L + 1) scope.names []).map (·.2)) exs h m μ H (args ++ List.replicate k .unb) cells := by
  have ge := cellsFrom_ge scope.names (L + 1) (L + 1) [] (Nat.le_refl _) (fun q hq => by simp at hq)
  have cge : ∀ q ∈ cells, (L + 1 : Nat) ≤ q.1 := fun q hq => by
    have : q.1 ∈ cells.map (·.1) := List.mem_map_of_mem hq
    rw [CellsAre.adr X] at this
    obtain ⟨z, h1, h2⟩ := List.mem_map.mp this
    have := ge z h1
    rw [h2] at this; exact this
  refine ⟨⟨S.F, S.pre, S.gl, S.len, S.obj, S.own, S.frz, S.pln, S.inj, ?_, ?_⟩, ?_, CellsAre.adr X, CellsAre.all X, ?_⟩
  · intro q hq
    rcases List.mem_append.mp hq with hq | hq
    · exact Nc q hq
    · exact S.exN q hq
  · intro q hq hq2
    rcases List.mem_append.mp hq with hq | hq
    · obtain ⟨i, hi⟩ := List.mem_iff_getElem?.mp hq2
      rcases Nat.lt_or_ge i frozen with h1 | h1
      · obtain ⟨o, ho⟩ := S.frz i _ h1 hi
        have := (Nc q hq).2.2
        rw [ho] at this; cases this
      · exact absurd (hlt i _ h1 hi) (Nat.not_lt.mpr (Nat.le_of_succ_le (cge q hq)))
    · exact S.exd q hq hq2
  · intro y i v h1 h2 h3 kk h4 h5
    have hi : i < args.length := by
      rcases Nat.lt_or_ge i args.length with q | q
      · exact q
      · rw [List.getElem?_append_right q] at h2
        have := List.mem_replicate.mp (List.mem_of_getElem? h2)
        rw [this.2] at h3; simp [okv] at h3
    rw [List.getElem?_append_left hi] at h2
    obtain ⟨val, h6, r⟩ := rv.get h2
    have hx : xs[i]? = some y := by
      rw [← N.par, List.getElem?_map, List.getElem?_take_of_lt (hl ▸ hi), N.at_ h1]; rfl
    refine ⟨val, r, ?_⟩
    rcases N.pk y (List.mem_of_getElem? hx) with h7 | h7
    · have : kk = .local := Option.some.inj (h4.symm.trans h7)
      subst this
      refine .inl ⟨rfl, ?_⟩
      rw [hm]; exact bindL_at h7 N.pnd hx h6
    · have : kk = .cell := Option.some.inj (h4.symm.trans h7)
      subst this
      have hs := cellsFrom_some (x := y) scope.names (L + 1) [] (.inl h7)
      obtain ⟨c, hc⟩ := Option.isSome_iff_exists.mp hs
      obtain ⟨o, ho, hd⟩ := CellsAre.look X hc
      refine ⟨c, o, hc, List.mem_append_left _ ho, ?_⟩
      rw [hd, bindC_at (fun q => ?_) N.pnd hx h6]
      have : scope.names.lookup y = some .local := q
      rw [h7] at this; cases this
  · intro q hq hq2
    obtain ⟨z, h1, h2⟩ := List.mem_map.mp hq2
    have := ge z h1
    rw [h2] at this
    exact absurd (hle q hq) (Nat.not_lt.mpr (Nat.le_of_succ_le this))

theorem block {scope : Scope} {nt : List (Str × Nat)} {xs : List Str} {D : Df} (N : NamesOK scope nt xs D) {qual : Str} {L : Addr} {f : Addr} {cdv : Value} : Fk (envOfC qual scope L f cdv) nt L ((cellsFrom (L + 1) scope.names []).map (·.2)) := by
  refine ⟨rfl, ?_, ?_, ?_, ?_⟩
  · intro y y' i h1 h2
    have := N.at_ h1
    rw [N.at_ h2] at this
    cases this; rfl
  · intro y c _ h
    exact List.mem_map_of_mem (mem_lookup (l := cellsFrom (L + 1) scope.names []) h)
  · intro y y' c _ _ h1 h2
    exact pw_inj (cellsFrom_inj scope.names (L + 1) [] (fun q hq => by simp at hq) .nil) (mem_lookup h1) (mem_lookup h2)
  · intro y h
    exact N.nofree _ (mem_lookup h) rfl

structure DfOK (K : Frag) (gl : List (Str × AV)) (a : Addr) (D : Df) (name qual : Str) (params : Arguments) (body : List Stmt) (scope : Scope) (nt cs : List (Str × Nat)) (n : Nat) (xs : List Str) : Prop where
  at_ : ∃ oc od osl dV kV doc pm an cdv ct, K.lookup a = some ⟨oc, od, .func (fnOf name qual params body scope dV kV doc pm an cdv ct), osl⟩ ∧ codeIn K cdv qual = true ∧
    ∀ s vals, vals.length = xs.length → BindsTo s (fnOf name qual params body scope dV kV doc pm an cdv ct) ⟨vals, []⟩ (xs.zip vals)
  tr : trB (trS gl cs n scope.names nt) body = some D.body
  nm : NamesOK scope nt xs D

theorem cx_new {A : Around} {env : Env} {outer : List Env} {base g : Heap} {L : Addr} {d : Nat} {qual : Str} {scope : Scope} {f : Addr} {cdv : Value} (hk : scope.kind = .function) (hh : A.handled = .none) (hr : A.depth + (d + 1) < recursionLimit) (hu : A.units + 3 * (d + 1) + 70 < cLine)
    (hnf : ∀ z ∈ scope.names, z.2 ≠ NameKind.free) (B : Below A base (env :: outer) g) (X : K.In g) (T : Top p loose mean mg mb g) : Cx K p loose mean mg mb (A.deeper (envOfC qual scope L f cdv)) (envOfC qual scope L f cdv) g L d where
  hh := hh
  room := by show A.depth + 1 + d < recursionLimit; omega
  units := by show A.units + 3 + 3 * d + 70 < cLine; omega
  kf := hk
  gl := rfl
  bl := rfl
  KI := X
  T := T
  cells := fun y k h1 h2 => by
    rcases h2 with rfl | rfl
    · exact Option.isSome_iff_exists.mp (cellsFrom_some (x := y) scope.names (L + 1) [] (.inl h1))
    · exact absurd rfl (hnf _ (mem_lookup h1))
  below := ⟨A, base, env :: outer, envOfC qual scope L f cdv, B, Around.frames_deeper B.stack, rfl, hk⟩

theorem call_succ (G : Gl K fa g0 gl) {defs : List Df} (HD : ∀ f D, defs[f]? = some D → ∃ name qual params body scope nt cs n xs, DfOK K gl (fa f) D name qual params body scope nt cs n xs) {n : Nat}
    (C0 : CallOK prog w K p loose mean mg mb fa g0 (callF defs n) n) : CallOK prog w K p loose mean mg mb fa g0 (callF defs (n + 1)) (n + 1) := by
  refine ⟨?_, ?_⟩
  · intro f args H r h
    obtain ⟨D, h1, h2⟩ := Option.bind_eq_some_iff.mp h
    obtain ⟨name, qual, params, body, scope, nt, cs, n, xs, ⟨oc, od, osl, dV, kV, doc, pm, an, cdv, ct, hl, _⟩, _⟩ := HD f D h1
    unfold keepIn; simp only [hl]
  · intro f args H v H' h A env h₀ L m μ exs s vals Q E C S rv k
    obtain ⟨D, h1, h2⟩ := Option.bind_eq_some_iff.mp h
    split at h2
    · rename_i hal
      obtain ⟨⟨fl, ρ', H1⟩, h3, h4⟩ := Option.bind_eq_some_iff.mp h2
      obtain ⟨name, qual, params, body, scope, nt, cs, n', xs, DK⟩ := HD f D h1
      obtain ⟨oc, od, osl, dV, kV, doc, pm, an, cdv, ct, hlk, hcd, hb⟩ := DK.at_
      obtain ⟨A₀, base, outer, fenv, B, hA, hf, hke⟩ := C.below
      have hvl : vals.length = xs.length := by rw [← rv.length, hal, DK.nm.plen]
      refine wpAny_call (code_defC B S.F C.KI S.news C.T hA hf hke hlk hcd (by have := C.room; omega) (hb s vals hvl) ?_ DK.nm.cnd (fun g L' h₁ tk cells FG F' N' X B' KI' T' hlt => ?_) DK.nm.co DK.nm.gen DK.nm.kf)
      · rw [List.all_eq_true]
        intro z hz
        obtain ⟨x, u⟩ := z
        rcases DK.nm.pk x (List.of_mem_zip hz).1 with q | q <;> simp [q]
      · have S1 : SR fa g0 g L' h₁ _ μ H exs := S.reframe F' (fun q hq => N' q (List.mem_append_right _ hq)) fun i a hi e o ho => FG.keep _ _ ho
        have T1 := enter (k := D.names - D.params) DK.nm rfl S1 rv hal (fun q hq => N' q (List.mem_append_left _ hq)) X (fun i a hi e => by
          obtain ⟨o, _, hm⟩ := S.in_led hi e
          exact hlt _ hm) fun q hq => hlt q (List.mem_append_right _ hq)
        have C1 : Cx K p loose mean mg mb (A.deeper (envOfC qual scope L' (fa f) cdv)) (envOfC qual scope L' (fa f) cdv) g L' n := cx_new DK.nm.kf C.hh C.room C.units DK.nm.nofree B' KI' T'
        refine bl_of (st_all G C0 n') body D.body nt _ DK.tr _ H fl ρ' H1 h3 _ g L' _ exs _ μ cells _ _ _ C1 (block DK.nm) T1 fun h' tk' μ' m' cl' flv T2 p' rf => ?_
        refine leaveK_ T2.S.F T2.S.news fun F2 N2 => ?_
        have S2 : SR fa g0 h₀ L h' m μ' H1 exs := by
          refine (T2.S.reframe F2 N2 fun i a hi e o ho => ?_).sub fun q hq => List.mem_append_right _ hq
          have hi' : i < μ.length := Nat.lt_of_lt_of_le hi S.big
          have e' : μ[i]? = some a := by
            have := pre_get p' (List.getElem?_eq_getElem hi')
            rw [e] at this; rw [List.getElem?_eq_getElem hi']; exact this.symm
          obtain ⟨o2, ho2⟩ := S.frz i a hi e'
          have := FG.keep _ _ ho2
          rw [ho] at this; cases this; exact ho2
        cases fl with
        | nxt =>
          cases rf
          simp only at h4; cases h4
          exact k h' tk' μ' .none S2 p' rfl
        | ret v =>
          obtain ⟨val, r, rfl⟩ := rf
          simp only at h4; cases h4
          exact k h' tk' μ' val S2 p' r
    · cases h2

theorem call_all (G : Gl K fa g0 gl) {defs : List Df} (HD : ∀ f D, defs[f]? = some D → ∃ name qual params body scope nt cs n xs, DfOK K gl (fa f) D name qual params body scope nt cs n xs) : ∀ n, CallOK prog w K p loose mean mg mb fa g0 (callF defs n) n
  | 0 => ⟨fun f args H r h => by simp [callF] at h, fun f args H v H' h => by simp [callF] at h⟩
  | n + 1 => call_succ G HD (call_all G HD n)
end
end Mine
end

section
open PySem PySem.W PySem.Calls PyProof.Rows
namespace Mine

theorem zip_some : ∀ {xs : List Str} {vals : List Value}, vals.length = xs.length → ∀ x ∈ xs, ((xs.zip vals).lookup x).isSome = true
  | x :: xs, v :: vals, h, y, hy => by
    rw [List.zip_cons_cons, List.lookup_cons]
    split
    · rfl
    · rename_i q
      rcases List.mem_cons.mp hy with rfl | hy
      · simp at q
      · exact zip_some (by simpa using h) y hy
  | _ :: _, [], h, _, _ => by simp at h
  | [], _, _, _, hy => by simp at hy

theorem zip_pick : ∀ {xs : List Str} {vals : List Value} (pre : List (Str × Value)), xs.Nodup → vals.length = xs.length → (∀ x ∈ xs, pre.lookup x = none) → xs.filterMap (fun n => ((pre ++ xs.zip vals).lookup n).map (n, ·)) = xs.zip vals
  | [], _, _, _, _, _ => rfl
  | _ :: _, [], _, _, h, _ => by simp at h
  | x :: xs, v :: vals, pre, hn, h, hp => by
    have look : ∀ (l r : List (Str × Value)) y, l.lookup y = none → (l ++ r).lookup y = r.lookup y := by
      intro l r y
      induction l with
      | nil => intro _; rfl
      | cons z l ih =>
        intro q
        obtain ⟨a, b⟩ := z
        rw [List.lookup_cons] at q
        rw [List.cons_append, List.lookup_cons]
        cases e : y == a with
        | true => simp [e] at q
        | false => simp only [e] at q; exact ih q
    have e0 : ((pre ++ (x :: xs).zip (v :: vals)).lookup x).map (x, ·) = some (x, v) := by
      rw [look _ _ _ (hp x (.head _)), List.zip_cons_cons, List.lookup_cons]
      simp
    rw [List.filterMap_cons, e0, List.zip_cons_cons]
    show (x, v) :: _ = _
    congr 1
    have hx := List.nodup_cons.mp hn
    have e : pre ++ (x, v) :: xs.zip vals = (pre ++ [(x, v)]) ++ xs.zip vals := by simp
    rw [e]
    refine zip_pick (pre ++ [(x, v)]) hx.2 (by simpa using h) fun y hy => ?_
    rw [look _ _ _ (hp y (.tail _ hy)), List.lookup_cons]
    have : (y == x) = false := beq_eq_false_iff_ne.mpr fun q => hx.1 (q ▸ hy)
    simp [this]

theorem fb {α β γ : Type} {l : List α} {i : β} {f : α → β → Sem (ForInStep β)} {k : β → Sem γ} {r : Sem γ} (h : l = []) (e : k i = r) : (forIn l i f >>= k) = r := by subst h; exact e
theorem bind_plain {fd : FuncData} {xs : List Str} {vals : List Value} {as : List Arg} (hp : fd.params = { posonlyargs := [], args := as, vararg := none, kwonlyargs := [], kw_defaults := [], kwarg := none, defaults := [] })
    (hd : fd.defaults = .none) (hn : as.map (·.arg) = xs) (nd : xs.Nodup) (hl : vals.length = xs.length) : bindArgs fd ⟨vals, []⟩ = pure (xs.zip vals) := by
  have h1 : (xs.filter fun n => ((xs.zip vals).lookup n).isNone) = [] := by
    rw [List.filter_eq_nil_iff]
    intro x hx
    have := zip_some hl x hx
    rw [Option.isSome_iff_exists] at this
    obtain ⟨v, e⟩ := this
    rw [e]; simp
  have h2 := zip_pick (vals := vals) [] nd hl (fun _ _ => rfl)
  simp only [List.nil_append] at h2
  have h3 : ¬ (decide (vals.length > xs.length) && true) = true := by rw [hl]; simp
  obtain ⟨f1, f2, f3, f4, f5, f6, f7, f8, f9, f10, f11, f12⟩ := fd
  subst hn
  cases hp
  cases hd
  refine (if_neg h3).trans ?_
  have e0 : (as.map (·.arg)).length - (([] : List Value).drop (0 - (as.map (·.arg)).length)).length = (as.map (·.arg)).length := by rw [List.drop_nil]; rfl
  have h4 : ¬ (!(((as.map (·.arg)).take ((as.map (·.arg)).length - (([] : List Value).drop (0 - (as.map (·.arg)).length)).length)).filter fun n => (((as.map (·.arg)).zip vals).lookup n).isNone).isEmpty) = true := by
    rw [e0, List.take_length, h1]; exact fun h => by cases h
  refine (if_neg h4).trans ?_
  refine fb ?_ ?_
  · exact (congrArg (List.zip _) (List.drop_nil)).trans List.zip_nil_right
  · exact congrArg (pure (f := Sem)) ((congrArg (List.filterMap _) (List.append_nil _)).trans h2)
end Mine
end

section
open PySem PySem.W PySem.Calls PyProof.Rows
set_option maxRecDepth 100000
namespace Mine
noncomputable def faT : List Nat := [58, 65, 72, 79, 86, 93, 100, 107, 114, 121, 128, 135, 142, 149, 156, 163, 170, 179, 186, 193, 200, 205, 212, 219, 226, 233, 240, 247, 254, 261, 268, 275, 282, 287, 294, 301, 308, 313]
noncomputable def fa (i : Nat) : Addr := faT.getD i 0
noncomputable def g0 (sa : Addr) : List Addr := [172, 171, 174, 173, sa]

noncomputable def fdOf : (o : Option Obj) → Option { fd : FuncData // ∃ c d s, o = some ⟨c, d, .func fd, s⟩ }
  | some ⟨c, d, .func fd, s⟩ => some ⟨fd, c, d, s, rfl⟩
  | _ => none
noncomputable def bodyOf : (b : FuncBody) → Option { l : List Stmt // b = .stmts l }
  | .stmts l => some ⟨l, rfl⟩
  | _ => none
noncomputable def vNone : (v : Value) → Option { _u : Unit // v = .none }
  | .none => some ⟨(), rfl⟩
  | _ => none
noncomputable def plainOf : (p : Arguments) → Option { as : List Arg // p = ⟨[], as, none, [], [], none, []⟩ }
  | ⟨[], as, none, [], [], none, []⟩ => some ⟨as, rfl⟩
  | _ => none
noncomputable def fnAt (K : Frag) (a : Addr) : Option (FuncData × List Stmt) := (fdOf (K.lookup a)).bind fun z => (bodyOf z.1.body).bind fun b => (vNone z.1.defaults).bind fun _ => (plainOf z.1.params).bind fun _ =>
  if (z.1.globals = mainGlobals ∧ z.1.builtins = builtinsNs) ∧ z.1.closure.isEmpty = true ∧ codeIn K z.1.code z.1.qualname = true then some (z.1, b.1) else none
theorem fn_at {K : Frag} {a : Addr} {fd : FuncData} {b : List Stmt} (h : fnAt K a = some (fd, b)) : fd.body = .stmts b ∧ fd.defaults = .none ∧ (∃ as, fd.params = ⟨[], as, none, [], [], none, []⟩) ∧
    (fd.globals = mainGlobals ∧ fd.builtins = builtinsNs) ∧ fd.closure = [] ∧ codeIn K fd.code fd.qualname = true ∧ ∃ c d s, K.lookup a = some ⟨c, d, .func fd, s⟩ := by
  obtain ⟨⟨fd', hl⟩, _, h⟩ := Option.bind_eq_some_iff.mp h
  obtain ⟨⟨b', hb⟩, _, h⟩ := Option.bind_eq_some_iff.mp h
  obtain ⟨hd, _, h⟩ := Option.bind_eq_some_iff.mp h
  obtain ⟨⟨as, hp⟩, _, h⟩ := Option.bind_eq_some_iff.mp h
  obtain ⟨⟨hg, hc, hk⟩, h⟩ := some_if h
  obtain ⟨rfl, rfl⟩ := some_pair h
  exact ⟨hb, hd.2, ⟨as, hp⟩, hg, List.isEmpty_iff.mp hc, hk, hl⟩

noncomputable def namesOK (scope : Scope) (nt : List (Str × Nat)) (xs : List Str) (D : Df) : Bool :=
  scope.kind == .function && !scope.isGenerator && !scope.isCoroutine && nt.map (·.2) == List.range nt.length && (nt.take D.params).map (·.1) == xs && xs.length == D.params && decide xs.Nodup &&
  xs.all (fun x => scope.names.lookup x == some .local || scope.names.lookup x == some .cell) && scope.names.all (fun z => z.2 != .free) && decide ((cellsFrom 0 scope.names []).map (·.1)).Nodup

theorem names_ok {scope : Scope} {nt : List (Str × Nat)} {xs : List Str} {D : Df} (h : namesOK scope nt xs D = true) : NamesOK scope nt xs D := by
  unfold namesOK at h
  simp only [Bool.and_eq_true, beq_iff_eq, Bool.not_eq_true', decide_eq_true_eq, List.all_eq_true, Bool.or_eq_true, bne_iff_ne] at h
  obtain ⟨⟨⟨⟨⟨⟨⟨⟨⟨h1, h2⟩, h3⟩, h4⟩, h5⟩, h6⟩, h7⟩, h8⟩, h9⟩, h10⟩ := h
  exact ⟨h1, h2, h3, h4, h5, h6, h7, h8, h9, h10⟩

noncomputable def dfOK (K : Frag) (i : Nat) : Bool := ((fnAt K (fa i)).bind fun z => (defs[i]?).bind fun D =>
  if (z.1.params.args.map (·.arg) == ((ntT.getD i []).take D.params).map (·.1) && namesOK z.1.scope (ntT.getD i []) (((ntT.getD i []).take D.params).map (·.1)) D) = true then some () else none).isSome
noncomputable def trAt (K : Frag) (i : Nat) : Option St := (fnAt K (fa i)).bind fun z => trB (trS glT (csT.getD i []) 30 z.1.scope.names (ntT.getD i [])) z.2

theorem fd_eq {fd : FuncData} {b : List Stmt} (h1 : fd.body = .stmts b) (h2 : fd.globals = mainGlobals) (h3 : fd.builtins = builtinsNs) (h4 : fd.closure = []) :
    fd = ⟨fd.name, fd.qualname, fd.params, .stmts b, fd.scope, mainGlobals, [], fd.defaults, fd.kwdefaults, fd.doc, fd.pyModule, fd.annotations, fd.code, fd.closureTuple, builtinsNs⟩ := by
  cases fd; cases h1; cases h2; cases h3; cases h4; rfl
theorem df_at {K : Frag} {i : Nat} {D : Df} (hD : defs[i]? = some D) (h1 : dfOK K i = true) (h2 : trAt K i = some D.body) : ∃ name qual params body scope nt cs n xs, DfOK K glT (fa i) D name qual params body scope nt cs n xs := by
  obtain ⟨_, h1⟩ := Option.isSome_iff_exists.mp h1
  obtain ⟨⟨fd, b⟩, e1, h1⟩ := Option.bind_eq_some_iff.mp h1
  obtain ⟨D', e2, h1⟩ := Option.bind_eq_some_iff.mp h1
  obtain rfl := Option.some.inj (hD.symm.trans e2)
  obtain ⟨h3, h4⟩ := Bool.and_eq_true_iff.mp (some_if h1).1
  obtain ⟨⟨_, b2⟩, e3, h2⟩ := Option.bind_eq_some_iff.mp h2
  obtain ⟨rfl, rfl⟩ := some_pair (e1.symm.trans e3)
  obtain ⟨hb, hdf, ⟨as, hp⟩, hg, hc, hcd, oc, od, osl, hl⟩ := fn_at e1
  have N := names_ok h4
  refine ⟨fd.name, fd.qualname, fd.params, b, fd.scope, _, _, _, _, ⟨⟨oc, od, osl, fd.defaults, fd.kwdefaults, fd.doc, fd.pyModule, fd.annotations, fd.code, fd.closureTuple, ?_, hcd, fun s vals hv => ?_⟩, h2, N⟩⟩
  · exact hl.trans (congrArg (fun z : FuncData => some (⟨oc, od, .func z, osl⟩ : Obj)) (fd_eq hb hg.1 hg.2 hc))
  · refine BindsTo.of_eq (bind_plain (as := as) hp hdf ?_ N.pnd hv)
    rw [hp] at h3
    exact beq_iff_eq.mp h3

noncomputable def needed : List Addr := [3, 171, 172, 173, 174] ++ faT.flatMap fun a => [a - 1, a]
noncomputable def kof (h : Heap) : Frag := needed.filterMap fun a => (h.get? a).map fun o => (a, o)
theorem kof_in (h : Heap) : (kof h).In h := by
  unfold kof
  generalize needed = l
  intro a o e
  induction l with
  | nil => simp at e
  | cons b l ih =>
    rw [List.filterMap_cons] at e
    split at e
    · exact ih e
    · rename_i q hq
      obtain ⟨o', h1, rfl⟩ := Option.map_eq_some_iff.mp hq
      rw [List.lookup_cons] at e
      split at e
      · rename_i hb
        cases e
        rw [beq_iff_eq.mp hb]; exact h1
      · exact ih e
theorem defs_ok {K : Frag} (a1 : (List.range 38).all (dfOK K) = true) (a2 : (List.range 38).map (trAt K) = defs.map fun D => some D.body) (f : Nat) (D : Df) (h : defs[f]? = some D) : ∃ name qual params body scope nt cs n xs, DfOK K glT (fa f) D name qual params body scope nt cs n xs := by
  have hf : f < 38 := by
    have hl : defs.length = 38 := by kernel_rfl
    rcases Nat.lt_or_ge f 38 with q | q
    · exact q
    · rw [List.getElem?_eq_none (hl ▸ q)] at h; cases h
  refine df_at h (List.all_eq_true.mp a1 f (List.mem_range.mpr hf)) ?_
  have := congrArg (·[f]?) a2
  simp only [List.getElem?_map, List.getElem?_range hf, h, Option.map_some] at this
  exact Option.some.inj this

noncomputable def refOf : Option (Option Value) → Option Addr
  | some (some (.ref a)) => some a
  | _ => none
theorem ref_of : ∀ {o : Option (Option Value)} {a : Addr}, refOf o = some a → o = some (some (.ref a))
  | some (some (.ref _)), _, h => by cases h; rfl
noncomputable def glA : AV → Option Addr
  | .fn f => some (fa f)
  | .ptr n => [172, 171, 174, 173][n]?
  | _ => none
noncomputable def glOK (K : Frag) : Bool := glT.all (fun z => (glA z.2).isSome && refOf (nsIn K mainGlobals z.1) == glA z.2) && ["len", "abs", "min", "int", "range", "enumerate"].all fun x => nsIn K mainGlobals (Str.ofString x) matches some none

theorem gl_ok {K : Frag} (h : glOK K = true) (sa : Addr) : Gl K fa (g0 sa) glT := by
  obtain ⟨h1, h2⟩ := Bool.and_eq_true_iff.mp h
  rw [List.all_eq_true] at h1 h2
  refine ⟨fun x av hx => ?_, fun x hx => ?_⟩
  · obtain ⟨h3, h4⟩ := Bool.and_eq_true_iff.mp (h1 (x, av) (mem_lookup hx))
    obtain ⟨a, ha⟩ := Option.isSome_iff_exists.mp h3
    have e := ref_of ((beq_iff_eq.mp h4).trans ha)
    cases av with
    | fn f => cases ha; exact ⟨_, e, rfl⟩
    | ptr n =>
      refine ⟨_, e, a, ?_, rfl⟩
      match n, ha with
      | 0, t => exact t
      | 1, t => exact t
      | 2, t => exact t
      | 3, t => exact t
    | _ => cases ha
  · have e : ([Str.ofString "len", Str.ofString "abs", Str.ofString "min", Str.ofString "int", Str.ofString "range", Str.ofString "enumerate"] : List Str) = ["len", "abs", "min", "int", "range", "enumerate"].map Str.ofString := rfl
    rw [e] at hx
    obtain ⟨y, hy, rfl⟩ := List.mem_map.mp hx
    have := h2 y hy
    split at this
    · assumption
    · cases this
noncomputable def objs4 : List (Option Obj) := [some { cls := .type "tuple", data := .seq [Value.bool false, .ref 171].toArray }, some { cls := .type "list", data := .seq ([] : List Value).toArray },
  some { cls := .type "tuple", data := .seq [Value.bool false, .ref 173].toArray }, some { cls := .type "list", data := .seq [Value.int 1 420].toArray }]
noncomputable abbrev Seen : Type := Bool × List (Option St) × List (Option Obj)
noncomputable def look (K : Frag) : Seen := ((List.range 38).all (dfOK K) && glOK K, (List.range 38).map (trAt K), [172, 171, 174, 173].map fun a => K.lookup a)
noncomputable def want : Seen := (true, defs.map (fun D => some D.body), objs4)
noncomputable def myHook : Hook where
  α := Seen
  obs := fun s => look (kof s.heap)
  val := fun _ => want
  says := fun _ h => ∃ K : Frag, K.In h ∧ look K = want
  of := fun _ s e => ⟨kof s.heap, kof_in _, e⟩
  keeps := fun _ _ _ ⟨K, a, b⟩ k => ⟨K, a.keeps k, b⟩
end Mine
end

section
open PySem PySem.W PySem.Calls PyProof.Rows
set_option maxRecDepth 100000
namespace Mine
theorem ints_rvs {fa : Nat → Addr} {μ : List Addr} : ∀ {vs : List Value} {ns : List Int}, IntsAre vs ns → RVs fa μ (ns.map .int) vs
  | _, _, .nil => trivial
  | _, _, .cons i t h => ⟨⟨t, rfl⟩, ints_rvs h⟩

theorem start {K : Frag} {h h₁ : Heap} {L : Addr} {m : Str → Option Value} {sa : Addr} {vals : List Value} {ns : List Int} (KX : K.In h) (hK : ([172, 171, 174, 173].map fun a => K.lookup a) = objs4) (F : Fr h L h₁ m) (hL : h.IsList sa vals.toArray) (hI : IntsAre vals ns) :
    SR fa (g0 sa) h L h₁ m (g0 sa) (H0 ns) [] := by
  simp only [objs4, List.map_cons, List.map_nil, List.cons.injEq, and_true] at hK
  obtain ⟨k1, k2, k3, k4⟩ := hK
  obtain ⟨o, ho, hc, n, hd⟩ := hL
  have no : ∀ i a, frozen ≤ i → (g0 sa)[i]? = some a → False := fun i a hi e => by
    rw [List.getElem?_eq_none (by show 5 ≤ i; exact hi)] at e; cases e
  have key : ∀ (i : Nat) (a : Addr), (g0 sa)[i]? = some a → ∃ o ao, h.get? a = some o ∧ (H0 ns)[i]? = some ao ∧ RO fa (g0 sa) ao o := fun i a e => by
    match i, e with
    | 0, e => cases e; exact ⟨_, _, KX _ _ k1, rfl, _, _, rfl, rfl, rfl, ⟨171, rfl, rfl⟩, trivial⟩
    | 1, e => cases e; exact ⟨_, _, KX _ _ k2, rfl, _, _, rfl, rfl, trivial⟩
    | 2, e => cases e; exact ⟨_, _, KX _ _ k3, rfl, _, _, rfl, rfl, rfl, ⟨173, rfl, rfl⟩, trivial⟩
    | 3, e => cases e; exact ⟨_, _, KX _ _ k4, rfl, _, _, rfl, rfl, ⟨_, rfl⟩, trivial⟩
    | 4, e => cases e; exact ⟨o, _, ho, rfl, vals, n, hc, hd, ints_rvs hI⟩
    | i + 5, e => exact (no _ _ (Nat.le_add_left _ _) e).elim
  refine ⟨F, List.prefix_refl _, rfl, rfl, ?_, ?_, ?_, ?_, ?_, News.nil, fun _ hq => by simp at hq⟩
  · intro i a ao e1 e2
    obtain ⟨o, ao', h1, h2, h3⟩ := key i a e1
    rw [e2] at h2; cases h2
    exact ⟨o, F.keep _ _ h1, h3⟩
  · intro i a hi e; exact (no i a hi e).elim
  · intro i a _ e
    obtain ⟨o, _, h1, _⟩ := key i a e
    exact ⟨o, h1⟩
  · intro i a o hi e; exact (no i a hi e).elim
  · intro i j a hi e; exact (no i a hi e).elim

theorem callF_succ {defs : List Df} {n f : Nat} {args : List AV} {H : AH} {D : Df} (h : defs[f]? = some D) (hl : args.length = D.params) :
    callF defs (n + 1) f args H = (ex (callF defs n) D.body (args ++ List.replicate (D.names - D.params) .unb) H).bind fun q => match q.1 with
      | .nxt => some (.none, q.2.2)
      | .ret v => some (v, q.2.2) := by
  rw [callF, h, Option.bind_some, if_pos hl] <;> rfl

theorem post_ok (a : WData) : PySem.Challenge.rw_xm0415_01.row.claim.post [a] (.bool true) [a] = true := PySem.W.postW_of (X := true) (by kernel_rfl) (by kernel_rfl) rfl

theorem law_runs {prog : Program} {w : World} {K : Frag} {p : Program} {loose : List Str} {mean : ExcName → Option Value} {mg mb : Str → Option Value} {h : Heap} {s : Shared} {sa f : Addr} {vals : List Value} {ns : List Int} {qual : Str} {scope : Scope} {body : List Stmt} {cdv : Value}
    {cells : List (Addr × Obj)} {m cm : Str → Option Value} {cl : List (Str × Addr)} {Q : Flow → Shared → Prop} {E : Value → Shared → Prop}
    (KX : K.In h) (hK : look K = want) (T : Top p loose mean mg mb h) (K0 : Below callerA h [] h) (F : Fr h h.objs.size s.heap m) (N0 : News h h.objs.size s.heap cells)
    (X0 : CellsAre cm cl cells) (hL : h.IsList sa vals.toArray) (hI : IntsAre vals ns)
    (hm : m = bindL (envOfC qual scope h.objs.size f cdv).kindOf ((((ntT.getD 37 []).take 1).map (·.1)).zip [Value.ref sa]) fun _ => none)
    (hcm : cm = bindC (envOfC qual scope h.objs.size f cdv).kindOf ((((ntT.getD 37 []).take 1).map (·.1)).zip [Value.ref sa]) fun _ => none) (hcl : cl = cellsFrom (h.objs.size + 1) scope.names [])
    (tr : trB (trS glT (csT.getD 37 []) 30 scope.names (ntT.getD 37 [])) body = some bLaw)
    (nm : namesOK scope (ntT.getD 37 []) (((ntT.getD 37 []).take 1).map (·.1)) ⟨1, 19, bLaw⟩ = true)
    (run : ∃ H', callF defs 14 37 [.ptr 4] (H0 ns) = some (.bool true, H'))
    (k : ∀ h' tk m', Fr h h.objs.size h' m' → Q (.ret (.bool true)) { s with heap := h', toks := tk }) :
    wpAny (model prog w) (callerA.deeper (envOfC qual scope h.objs.size f cdv)) (execs body (envOfC qual scope h.objs.size f cdv)) Q E s := by
  subst hm hcm hcl
  obtain ⟨H', run⟩ := run
  have N := names_ok nm
  have e : defs[37]? = some ⟨1, 19, bLaw⟩ := by kernel_rfl
  rw [callF_succ (n := 13) e rfl] at run
  obtain ⟨⟨fl, ρ', H1⟩, h3, h4⟩ := Option.bind_eq_some_iff.mp run
  simp only [look, want, Prod.mk.injEq, Bool.and_eq_true] at hK
  obtain ⟨⟨a1, a3⟩, a2, a4⟩ := hK
  have S := start KX a4 F hL hI
  have no : ∀ i a, frozen ≤ i → (g0 sa)[i]? = some a → False := fun i a hi e => by
    rw [List.getElem?_eq_none (by show 5 ≤ i; exact hi)] at e; cases e
  have T1 := enter (k := 19 - 1) N rfl S (args := [.ptr 4]) ⟨⟨sa, rfl, rfl⟩, trivial⟩ rfl N0 X0 (fun i a hi e => (no i a hi e).elim) fun q hq => by simp at hq
  have C1 : Cx K p loose mean mg mb (callerA.deeper (envOfC qual scope h.objs.size f cdv)) (envOfC qual scope h.objs.size f cdv) h h.objs.size 13 :=
    { hh := rfl
      room := (by decide : callerA.depth + 1 + 13 < recursionLimit)
      units := (by decide : callerA.units + 3 + 3 * 13 + 70 < cLine)
      kf := N.kf
      gl := rfl
      bl := rfl
      KI := KX
      T := T
      cells := fun y k h1 h2 => by
        rcases h2 with rfl | rfl
        · exact Option.isSome_iff_exists.mp (cellsFrom_some (x := y) scope.names (h.objs.size + 1) [] (.inl h1))
        · exact absurd rfl (N.nofree _ (mem_lookup h1))
      below := ⟨callerA, h, [], envOfC qual scope h.objs.size f cdv, K0, Around.frames_deeper K0.stack, rfl, N.kf⟩ }
  refine bl_of (st_all (gl_ok a3 sa) (call_all (gl_ok a3 sa) (defs_ok a1 a2) 13) 30) body bLaw _ _ tr _ _ fl ρ' H1 h3 _ h h.objs.size _ [] _ _ cells s _ _ C1 (block N) T1 fun h' tk' μ' m' cl' flv T2 p' rf => ?_
  cases fl with
  | nxt => simp only at h4; cases h4
  | ret v =>
    obtain ⟨val, r, rfl⟩ := rf
    simp only at h4; cases h4
    cases r
    exact k h' tk' m' T2.S.F
end Mine
end

section
open PySem PySem.W PySem.Calls PyProof.Rows
set_option maxRecDepth 100000
set_option maxHeartbeats 8000000
namespace Mine
theorem left_of_boot {p q : Program} {loose : List Str} {Xt : Shared → Bool} {α : Type} {Yf : Shared → α} {Ya : World → α} {N : Nat} (e : opening p = plainProg p.main.scope.names) (hN : Nat.ble 600 N = true) (f : ∀ s, fenceModules? p s = some s)
    (h : ∀ (w : World) (os : OsState), (topFrom treeTable p w N ⟨boot_heap w.params, Array.mk [], boot_drawn, boot_toks, os⟩).map (fun s => (openSeen q loose (importedModules p.main.body) Xt true s, Yf s)) = some (openGood q loose, Ya w)) : LeftO p q loose Xt Yf Ya N := fun w => by
  obtain ⟨s₀, h1, h2⟩ := Option.map_eq_some_iff.mp (boot_open e hN f w)
  obtain ⟨a, b, c, d, os⟩ := s₀
  simp only [Prod.mk.injEq] at h2
  obtain ⟨rfl, rfl, rfl, rfl⟩ := h2
  unfold openEnds
  rw [h1]
  exact h w os
theorem topFrom_eq : @topFrom = fun (tb : String → Option Builtin) (p : Program) (w : World) (N : Nat) (s₀ : Shared) =>
  match s₀.heap.isNs mainGlobals && s₀.gens.size == 0 with
  | true => (PySem.W.Fast.tw14082659384304107361 tb p w s₀.heap.objs.size (s₀.heap.nsMap mainGlobals "__annotations__") N s₀ (topStub p)).bind fun s₁ => match staticsOk (importedModules p.main.body) s₀.heap s₁.heap && namesBound p s₁.heap && gensDone s₁ && laidKept s₀.heap s₁.heap with
      | true => some s₁
      | false => none
  | false => none := by
  rw [← PySem.W.Fast.te14082659384304107361]; rfl
noncomputable def vw : Program := view PySem.Challenge.pw_xm0415_01 [1,2,3,4,5,6,7,8,9,10,11,12,14,15,16,17,18,19,20,21,23,24,25,26,27,28,29,30,31,33,34,35,36,37,38,39,41,42,43,44,45,46,47]
noncomputable def lo : List Str := [Str.ofString "NOUGHT", Str.ofString "UNIT"]
noncomputable def xt (s : Shared) : Bool := xlAt vw [] s && recOk (RowW.records PySem.Challenge.rw_xm0415_01.row.toRowW) s
theorem run_top : ∀ (w : World) (os : OsState), (topFrom treeTable PySem.Challenge.pw_xm0415_01 w 3976 ⟨boot_heap w.params, Array.mk [], boot_drawn, boot_toks, os⟩).map (fun s => (openSeen vw lo (importedModules PySem.Challenge.pw_xm0415_01.main.body) xt true s, myHook.obs s)) = some (openGood vw lo, myHook.val w) := fun w os => by
  rw [topFrom_eq, PySem.W.Fast.te4187177175401517315, PySem.W.Fast.te14364793385576792824]
  kernel_rfl
theorem left : LeftO PySem.Challenge.pw_xm0415_01 vw lo xt myHook.obs myHook.val 3976 := left_of_boot (by kernel_rfl) (by kernel_rfl) (fun s => by kernel_rfl) run_top
end Mine
end

section
open PySem PySem.W PySem.Calls PyProof.Rows
set_option maxRecDepth 100000
set_option maxHeartbeats 8000000
namespace Mine
theorem said : OpenLaw.wellSaid PySem.Challenge.rw_xm0415_01 = true := by kernel_rfl
theorem witness : (PySem.Challenge.rw_xm0415_01.row.toRowW).promised := by w_witness2
end Mine
open Mine
theorem PySem.Challenge.cw_xm0415_01_holds : PySem.Challenge.rw_xm0415_01.Holds := by
  refine holds_law said fun ok => ?_
  refine holds_open (q := vw) (loose := lo) (Xt := xt) (XP := XL vw []) (Yf := myHook.obs) (Ya := myHook.val) (YP := myHook.says) (N := 3976) left myHook.of myHook.keeps (fun s e => xl_of s (Bool.and_eq_true_iff.mp e).1) XL.keeps (by rfl) (by rfl) (by rfl)
    (fun s e => recFacts_of (Bool.and_eq_true_iff.mp e).2) (by rfl) ok (by kernel_rfl) ⟨rfl, rfl, rfl, rfl, rfl, by kernel_rfl⟩ witness ?_
  intro w s₀ s₁ mg mb G Y f o pm cd doc dV kV ho hd hcd hD hmg hg args vals as hpre hlay hrd hwl hlo
  obtain ⟨K, KX, hK⟩ := Y
  refine Ground.open G ?_
  intro T B D TE TW
  have TA := at_of_top T
  try (obtain ⟨_, _, he, B0⟩ := based_of_top T rfl hmg ho hd; have he' : cd = _ := he; subst he'; clear he)
  clear hmg
  wrow_args hpre hlay hrd hwl hlo
  first | refine callC_kw (enter_call ?_) | refine enter_call ?_ | refine callC_kw (enter_callW ?_) | refine enter_callW ?_ | w_how
  refine codeAny_mono ?_ (fun _ _ g => GoodW.toG g)
  have K0 := below_caller (Top.heap T)
  w_call any ho hd hcd hD T F
  refine law_runs KX hK T K0 F (by assumption) (by assumption) (by assumption) (by assumption) rfl rfl rfl (by kernel_rfl) (by kernel_rfl) (run_all (by lia)) ?_
  intro h' tk m' F
  exact goodW_bool F (by assumption) (fun _ => rfl) (post_ok _)
end
