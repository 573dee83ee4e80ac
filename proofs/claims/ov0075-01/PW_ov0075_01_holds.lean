import PyProof.Rows.All
import Wide.All
import OpenK.AllK
import Wide.FinOn
import PySem.Challenge.RW_ov0075_01
set_option Elab.async false

section
set_option maxRecDepth 100000
namespace Mine
open PySem

/-- values without tokens -/
inductive PV where
  | none | bool (b : Bool) | int (i : Int) | str (s : Str) | ref (a : Nat)
  deriving DecidableEq

/-- pure objects -/
inductive PObj where
  | list (xs : List PV)
  | ro (xs : List PV)
  | tup (xs : List PV)
  | dS (kvs : List (Str × PV))
  | dI (kvs : List (Int × PV))
  | inst (d : Nat)
  | flds (fs : List (Str × PV))

abbrev PH := Nat → Option PObj
noncomputable def PH.set (H : PH) (a : Nat) (o : PObj) : PH := fun b => if b = a then some o else H b

inductive BOp where | add | sub | mul | mod
  deriving DecidableEq
inductive COp where | eq | ne | lt | gt | le | ge | is | isnt | isin | notin
  deriving DecidableEq

set_option genSizeOfSpec false
set_option genInjectivity false
mutual
inductive CE where
  | non
  | bool (b : Bool)
  | int (i : Int)
  | str (s : Str)
  | var (i : Nat)
  | call (f : Nat) (as : CEs)
  | mk (as : CEs)
  | len (e : CE)
  | list (e : CE)
  | strOf (e : CE)
  | abs (e : CE)
  | isVec (e : CE)
  | isList (e : CE)
  | get (e k : CE)
  | attr (e : CE) (n : Str)
  | bin (op : BOp) (a b : CE)
  | cat (a b : CE)
  | rep (a b : CE)
  | cmp (op : COp) (a b : CE)
  | chain (o1 o2 : COp) (a b c : CE)
  | and (as : CEs)
  | or (as : CEs)
  | not (a : CE)
  | ife (t a b : CE)
  | idx (a i : CE)
  | slice (a lo : CE)
  | slice2 (a lo hi : CE)
  | lst (as : CEs)
  | tup (as : CEs)
  | dS
  | dI
  | comp (elt : CE) (x : Nat) (src : CSrc) (cond : CEs)
  | dcomp (k v : CE) (x : Nat) (src : CSrc) (cond : CEs)
  | dead
inductive CEs where
  | nil
  | cons (e : CE) (r : CEs)
inductive CSrc where
  | it (e : CE)
  | rng (as : CEs)
end

mutual
inductive CS where
  | asg (x : Nat) (e : CE)
  | unpk (x y : Nat) (e : CE)
  | seta (o : CE) (n : Str) (e : CE)
  | seti (o k e : CE)
  | aug (x : Nat) (op : BOp) (e : CE)
  | ifs (t : CE) (a b : CSs)
  | forr (x : Nat) (src : CSrc) (b : CSs)
  | whil (t : CE) (b : CSs)
  | ret (e : CE)
  | app (o e : CE)
  | ex (e : CE)
  | dead
inductive CSs where
  | nil
  | cons (s : CS) (r : CSs)
end

set_option genSizeOfSpec true
set_option genInjectivity true
abbrev Sg := List (Option PV)
noncomputable def gt : Sg → Nat → Option PV
  | [], _ => none
  | v :: _, 0 => v
  | _ :: r, n + 1 => gt r n
noncomputable def st : Sg → Nat → PV → Sg
  | [], _, _ => []
  | _ :: r, 0, v => some v :: r
  | x :: r, n + 1, v => x :: st r n v

inductive Fl where
  | next
  | ret (v : PV)

abbrev GT := Nat → List PV → PH → (PV → PH → Prop) → Prop

noncomputable def truthV : PV → Option Bool
  | .bool b => some b
  | _ => none
noncomputable def tl (Q : Bool → PH → Prop) : PV → PH → Prop := fun v H => match truthV v with
  | some b => Q b H
  | none => False

noncomputable def seqOf : Option PObj → Option (List PV)
  | some (.list xs) => some xs
  | some (.ro xs) => some xs
  | _ => none

noncomputable def lkp {K : Type} [DecidableEq K] (kvs : List (K × PV)) (k : K) : Option PV := (kvs.find? fun kv => kv.1 = k).map (·.2)
noncomputable def sto {K : Type} [DecidableEq K] (kvs : List (K × PV)) (k : K) (v : PV) : List (K × PV) :=
  if kvs.any (fun kv => kv.1 = k) then kvs.map (fun kv => if kv.1 = k then (kv.1, v) else kv) else kvs ++ [(k, v)]

noncomputable def big : Nat := 1000

noncomputable def lenV (H : PH) : PV → Option Int
  | .ref a => match H a with
    | some (.list xs) => if xs.length ≤ big then some xs.length else none
    | some (.ro xs) => if xs.length ≤ big then some xs.length else none
    | some (.dS kvs) => if kvs.length ≤ big then some kvs.length else none
    | some (.dI kvs) => if kvs.length ≤ big then some kvs.length else none
    | _ => none
  | _ => none

/-- what list(v) holds -/
noncomputable def itemsV (H : PH) : PV → Option (List PV)
  | .ref a => match H a with
    | some (.list xs) => if xs.length ≤ big then some xs else none
    | some (.dS kvs) => if kvs.length ≤ big then some (kvs.map fun kv => .str kv.1) else none
    | _ => none
  | _ => none

noncomputable def attrV (H : PH) (v : PV) (n : Str) : Option PV := match v with
  | .ref x => match H x with
    | some (.inst d) => match H d with
      | some (.flds fs) => lkp fs n
      | _ => none
    | _ => none
  | _ => none

noncomputable def binV : BOp → PV → PV → Option PV
  | .add, .int a, .int b => some (.int (a + b))
  | .sub, .int a, .int b => some (.int (a - b))
  | .mul, .int a, .int b => if a.natAbs ≤ big ∧ b.natAbs ≤ big then some (.int (a * b)) else none
  | .mod, .int a, .int b => if b = 0 then none else some (.int (a.fmod b))
  | _, _, _ => none

noncomputable def plainV : PV → Bool
  | .none | .int _ | .str _ => true
  | _ => false

noncomputable def eqV (H : PH) (a b : PV) : Option Bool := match a, b with
  | .int i, .int j => some (decide (i = j))
  | .str i, .str j => some (decide (i = j))
  | .ref x, .ref y => match seqOf (H x), seqOf (H y) with
    | some xs, some ys => if xs.length ≤ big ∧ ys.length ≤ big ∧ xs.all plainV = true ∧ ys.all plainV = true then some (decide (xs = ys)) else none
    | _, _ => none
  | _, _ => none

noncomputable def inV (H : PH) (a b : PV) : Option Bool := match b with
  | .ref y => match H y with
    | some (.list xs) => if xs.length ≤ big ∧ xs.all plainV = true ∧ plainV a = true then some (decide (a ∈ xs)) else none
    | some (.tup xs) => if xs.length ≤ big ∧ xs.all plainV = true ∧ plainV a = true then some (decide (a ∈ xs)) else none
    | some (.dS kvs) => match a with
      | .str s => some (lkp kvs s).isSome
      | _ => none
    | some (.dI kvs) => match a with
      | .int s => some (lkp kvs s).isSome
      | _ => none
    | _ => none
  | _ => none

noncomputable def cmpV (H : PH) : COp → PV → PV → Option Bool
  | .eq, a, b => eqV H a b
  | .ne, .bool a, .bool b => some (!(a == b))
  | .ne, a, b => (eqV H a b).map (!·)
  | .lt, .int a, .int b => some (decide (a < b))
  | .gt, .int a, .int b => some (decide (b < a))
  | .le, .int a, .int b => some (decide (a ≤ b))
  | .ge, .int a, .int b => some (decide (b ≤ a))
  | .lt, .str a, .str b => some (decide (a.cps.toList < b.cps.toList))
  | .gt, .str a, .str b => some (decide (b.cps.toList < a.cps.toList))
  | .is, a, .none => some (decide (a = .none))
  | .isnt, a, .none => some (!decide (a = .none))
  | .isin, a, b => inV H a b
  | .notin, a, b => (inV H a b).map (!·)
  | _, _, _ => none

noncomputable def atV (xs : List PV) (k : Int) : Option PV :=
  if xs.length ≤ big then (if 0 ≤ k then xs[k.toNat]? else if 0 ≤ (xs.length : Int) + k then xs[((xs.length : Int) + k).toNat]? else none) else none

noncomputable def idxV (H : PH) (a i : PV) : Option PV := match a with
  | .ref r => match H r with
    | some (.list xs) => match i with | .int k => atV xs k | _ => none
    | some (.ro xs) => match i with | .int k => atV xs k | _ => none
    | some (.dS kvs) => match i with | .str s => lkp kvs s | _ => none
    | some (.dI kvs) => match i with | .int s => lkp kvs s | _ => none
    | _ => none
  | _ => none

noncomputable def cutV (H : PH) (a lo : PV) (hi : Option PV) : Option (List PV) := match a with
  | .ref r => match seqOf (H r) with
    | some xs => if xs.length ≤ big then (match lo, hi with
      | .int l, none => if 0 ≤ l ∧ l ≤ big then some (xs.drop l.toNat) else none
      | .int l, some (.int h) => if 0 ≤ l ∧ 0 ≤ h ∧ l ≤ big ∧ h ≤ big then some ((xs.drop l.toNat).take (h.toNat - l.toNat)) else none
      | _, _ => none) else none
    | none => none
  | _ => none

noncomputable def rngN (a b c : Int) : Nat := (if c > 0 then (if a < b then (b - a - 1) / c + 1 else 0) else (if a > b then (a - b - 1) / (-c) + 1 else 0)).toNat
noncomputable def rngI (a b c : Int) : List PV := (List.range (rngN a b c)).map fun (k : Nat) => PV.int (a + (k : Int) * c)
noncomputable def rngV : List PV → Option (List PV)
  | [.int n] => if n.natAbs ≤ big then some (rngI 0 n 1) else none
  | [.int a, .int b] => if a.natAbs ≤ big ∧ b.natAbs ≤ big then some (rngI a b 1) else none
  | [.int a, .int b, .int c] => if a.natAbs ≤ big ∧ b.natAbs ≤ big ∧ c.natAbs ≤ big ∧ c ≠ 0 then some (rngI a b c) else none
  | _ => none

/-- a fresh object -/
noncomputable def newW (H : PH) (o : PObj) (Q : PV → PH → Prop) : Prop := ∀ D, H D = none → Q (.ref D) (H.set D o)

/-- the source's object stands as it stood -/
noncomputable def still (a : Option (Nat × PObj)) (H : PH) : Prop := match a with
  | some (b, o) => H b = some o
  | none => True

noncomputable def loopW (B : Sg → PH → (Fl → Sg → PH → Prop) → Prop) (a : Option (Nat × PObj)) (x : Nat) : List PV → Sg → PH → (Fl → Sg → PH → Prop) → Prop
  | [], σ, H, Q => Q .next σ H
  | v :: r, σ, H, Q => B (st σ x v) H fun f σ' H' => match f with
    | .ret u => Q (.ret u) σ' H'
    | .next => still a H' ∧ loopW B a x r σ' H' Q

noncomputable def compW (C : Sg → PH → (Bool → PH → Prop) → Prop) (B : Sg → PH → (PV → PH → Prop) → Prop) (a : Option (Nat × PObj)) (x : Nat) (σ : Sg) :
    List PV → List PV → PH → (List PV → PH → Prop) → Prop
  | [], acc, H, Q => Q acc H
  | v :: r, acc, H, Q => C (st σ x v) H fun b H1 => match b with
    | true => B (st σ x v) H1 fun u H2 => still a H2 ∧ acc.length < big ∧ compW C B a x σ r (acc ++ [u]) H2 Q
    | false => still a H1 ∧ compW C B a x σ r acc H1 Q

noncomputable def dcompW (C : Sg → PH → (Bool → PH → Prop) → Prop) (K V : Sg → PH → (PV → PH → Prop) → Prop) (a : Option (Nat × PObj)) (x : Nat) (σ : Sg) :
    List PV → List (Str × PV) → PH → (List (Str × PV) → PH → Prop) → Prop
  | [], acc, H, Q => Q acc H
  | v :: r, acc, H, Q => C (st σ x v) H fun b H1 => match b with
    | true => K (st σ x v) H1 fun k H2 => V (st σ x v) H2 fun u H3 => match k with
      | .str s => still a H3 ∧ acc.length < big ∧ dcompW C K V a x σ r (sto acc s u) H3 Q
      | _ => False
    | false => still a H1 ∧ dcompW C K V a x σ r acc H1 Q

noncomputable def optW {α : Type} (o : Option α) (Q : α → Prop) : Prop := match o with
  | some a => Q a
  | none => False

mutual
noncomputable def WE (Γ : GT) (ini : Nat) : CE → Sg → PH → (PV → PH → Prop) → Prop
  | .non, _, H, Q => Q .none H
  | .bool b, _, H, Q => Q (.bool b) H
  | .int i, _, H, Q => Q (.int i) H
  | .str s, _, H, Q => Q (.str s) H
  | .var i, σ, H, Q => optW (gt σ i) fun v => Q v H
  | .call f as, σ, H, Q => WEs Γ ini as σ H fun vs H1 => Γ f vs H1 Q
  | .mk as, σ, H, Q => WEs Γ ini as σ H fun vs H1 => ∀ x d, H1 x = none → H1 d = none → x ≠ d →
      Γ ini (.ref x :: vs) ((H1.set d (.flds [])).set x (.inst d)) fun r H2 => r = .none ∧ Q (.ref x) H2
  | .len e, σ, H, Q => WE Γ ini e σ H fun v H1 => optW (lenV H1 v) fun n => Q (.int n) H1
  | .list e, σ, H, Q => WE Γ ini e σ H fun v H1 => optW (itemsV H1 v) fun xs => newW H1 (.list xs) Q
  | .strOf e, σ, H, Q => WE Γ ini e σ H fun v H1 => match v with
    | .int i => i.natAbs ≤ big ∧ Q (.str (Str.ofString (toString i))) H1
    | _ => False
  | .abs e, σ, H, Q => WE Γ ini e σ H fun v H1 => match v with
    | .int i => Q (.int (if i < 0 then -i else i)) H1
    | _ => False
  | .isVec e, σ, H, Q => WE Γ ini e σ H fun v H1 => match v with
    | .ref a => (∃ d, H1 a = some (.inst d)) ∧ Q (.bool true) H1
    | _ => False
  | .isList e, σ, H, Q => WE Γ ini e σ H fun v H1 => match v with
    | .bool _ => Q (.bool false) H1
    | _ => False
  | .get e k, σ, H, Q => WE Γ ini e σ H fun v H1 => match v with
    | .ref a => (∃ kvs, H1 a = some (.dS kvs)) ∧ WE Γ ini k σ H1 fun u H2 => match u, H2 a with
      | .str s, some (.dS kvs) => Q ((lkp kvs s).getD .none) H2
      | _, _ => False
    | _ => False
  | .attr e n, σ, H, Q => WE Γ ini e σ H fun v H1 => optW (attrV H1 v n) fun u => Q u H1
  | .bin op a b, σ, H, Q => WE Γ ini a σ H fun u H1 => WE Γ ini b σ H1 fun v H2 => optW (binV op u v) fun r => Q r H2
  | .cat a b, σ, H, Q => WE Γ ini a σ H fun u H1 => WE Γ ini b σ H1 fun v H2 => match u, v with
    | .ref x, .ref y => match H2 x, H2 y with
      | some (.list xs), some (.list ys) => xs.length ≤ big ∧ ys.length ≤ big ∧ newW H2 (.list (xs ++ ys)) Q
      | _, _ => False
    | _, _ => False
  | .rep a b, σ, H, Q => WE Γ ini a σ H fun u H1 => WE Γ ini b σ H1 fun v H2 => match u, v with
    | .ref x, .int n => match H2 x with
      | some (.list [y]) => 0 ≤ n ∧ n ≤ big ∧ newW H2 (.list (List.replicate n.toNat y)) Q
      | _ => False
    | _, _ => False
  | .cmp op a b, σ, H, Q => WE Γ ini a σ H fun u H1 => WE Γ ini b σ H1 fun v H2 => optW (cmpV H2 op u v) fun r => Q (.bool r) H2
  | .chain o1 o2 a b c, σ, H, Q => WE Γ ini a σ H fun u H1 => WE Γ ini b σ H1 fun v H2 => optW (cmpV H2 o1 u v) fun r => match r with
    | true => WE Γ ini c σ H2 fun w H3 => optW (cmpV H3 o2 v w) fun r => Q (.bool r) H3
    | false => Q (.bool false) H2
  | .and as, σ, H, Q => WAnd Γ ini as σ H Q
  | .or as, σ, H, Q => WOr Γ ini as σ H Q
  | .not a, σ, H, Q => WE Γ ini a σ H (tl fun b H1 => Q (.bool (!b)) H1)
  | .ife t a b, σ, H, Q => WE Γ ini t σ H (tl fun c H1 => match c with
    | true => WE Γ ini a σ H1 Q
    | false => WE Γ ini b σ H1 Q)
  | .idx a i, σ, H, Q => WE Γ ini a σ H fun u H1 => WE Γ ini i σ H1 fun v H2 => optW (idxV H2 u v) fun r => Q r H2
  | .slice a lo, σ, H, Q => WE Γ ini a σ H fun u H1 => WE Γ ini lo σ H1 fun v H2 => optW (cutV H2 u v none) fun xs => newW H2 (.list xs) Q
  | .slice2 a lo hi, σ, H, Q => WE Γ ini a σ H fun u H1 => WE Γ ini lo σ H1 fun v H2 => WE Γ ini hi σ H2 fun w H3 => optW (cutV H3 u v (some w)) fun xs => newW H3 (.list xs) Q
  | .lst as, σ, H, Q => WEs Γ ini as σ H fun vs H1 => vs.length ≤ big ∧ newW H1 (.list vs) Q
  | .tup as, σ, H, Q => WEs Γ ini as σ H fun vs H1 => vs.length ≤ big ∧ newW H1 (.tup vs) Q
  | .dS, _, H, Q => newW H (.dS []) Q
  | .dI, _, H, Q => newW H (.dI []) Q
  | .comp elt x src cond, σ, H, Q => WSrc Γ ini src σ H fun a vs H1 =>
      compW (WCond Γ ini cond) (WE Γ ini elt) a x σ vs [] H1 fun ys H2 => newW H2 (.list ys) Q
  | .dcomp k v x src cond, σ, H, Q => WSrc Γ ini src σ H fun a vs H1 =>
      dcompW (WCond Γ ini cond) (WE Γ ini k) (WE Γ ini v) a x σ vs [] H1 fun ys H2 => newW H2 (.dS ys) Q
  | .dead, _, _, _ => False
noncomputable def WEs (Γ : GT) (ini : Nat) : CEs → Sg → PH → (List PV → PH → Prop) → Prop
  | .nil, _, H, Q => Q [] H
  | .cons e r, σ, H, Q => WE Γ ini e σ H fun v H1 => WEs Γ ini r σ H1 fun vs H2 => Q (v :: vs) H2
noncomputable def WAnd (Γ : GT) (ini : Nat) : CEs → Sg → PH → (PV → PH → Prop) → Prop
  | .nil, _, H, Q => Q (.bool true) H
  | .cons e r, σ, H, Q => WE Γ ini e σ H fun v H1 => match truthV v with
    | some true => WAnd Γ ini r σ H1 Q
    | some false => Q (.bool false) H1
    | none => False
noncomputable def WOr (Γ : GT) (ini : Nat) : CEs → Sg → PH → (PV → PH → Prop) → Prop
  | .nil, _, H, Q => Q (.bool false) H
  | .cons e r, σ, H, Q => WE Γ ini e σ H fun v H1 => match truthV v with
    | some true => Q (.bool true) H1
    | some false => WOr Γ ini r σ H1 Q
    | none => False
noncomputable def WCond (Γ : GT) (ini : Nat) : CEs → Sg → PH → (Bool → PH → Prop) → Prop
  | .nil, _, H, Q => Q true H
  | .cons e r, σ, H, Q => WE Γ ini e σ H (tl fun b H1 => match b with
    | true => WCond Γ ini r σ H1 Q
    | false => Q false H1)
noncomputable def WSrc (Γ : GT) (ini : Nat) : CSrc → Sg → PH → (Option (Nat × PObj) → List PV → PH → Prop) → Prop
  | .it e, σ, H, Q => WE Γ ini e σ H fun v H1 => match v with
    | .ref a => match H1 a with
      | some (.list xs) => xs.length ≤ big ∧ Q (some (a, .list xs)) xs H1
      | some (.ro xs) => xs.length ≤ big ∧ Q (some (a, .ro xs)) xs H1
      | _ => False
    | _ => False
  | .rng as, σ, H, Q => WEs Γ ini as σ H fun vs H1 => optW (rngV vs) fun xs => Q none xs H1
end

mutual
noncomputable def WS (Γ : GT) (ini : Nat) : CS → Sg → PH → (Fl → Sg → PH → Prop) → Prop
  | .asg x e, σ, H, Q => WE Γ ini e σ H fun v H1 => Q .next (st σ x v) H1
  | .unpk x y e, σ, H, Q => WE Γ ini e σ H fun v H1 => match v with
    | .ref a => match H1 a with
      | some (.tup [u, w]) => Q .next (st (st σ x u) y w) H1
      | _ => False
    | _ => False
  | .seta o n e, σ, H, Q => WE Γ ini e σ H fun v H1 => WE Γ ini o σ H1 fun u H2 => match u with
    | .ref x => match H2 x with
      | some (.inst d) => match H2 d with
        | some (.flds fs) => fs.length ≤ big ∧ Q .next σ (H2.set d (.flds (sto fs n v)))
        | _ => False
      | _ => False
    | _ => False
  | .seti o k e, σ, H, Q => WE Γ ini e σ H fun v H1 => WE Γ ini o σ H1 fun u H2 => WE Γ ini k σ H2 fun w H3 => match u with
    | .ref a => match H3 a, w with
      | some (.dS kvs), .str s => kvs.length ≤ big ∧ Q .next σ (H3.set a (.dS (sto kvs s v)))
      | some (.dI kvs), .int i => kvs.length ≤ big ∧ Q .next σ (H3.set a (.dI (sto kvs i v)))
      | _, _ => False
    | _ => False
  | .aug x op e, σ, H, Q => optW (gt σ x) fun u => WE Γ ini e σ H fun v H1 => optW (binV op u v) fun r => Q .next (st σ x r) H1
  | .ifs t a b, σ, H, Q => WE Γ ini t σ H (tl fun c H1 => match c with
    | true => WSs Γ ini a σ H1 Q
    | false => WSs Γ ini b σ H1 Q)
  | .forr x src b, σ, H, Q => WSrc Γ ini src σ H fun a vs H1 => loopW (WSs Γ ini b) a x vs σ H1 Q
  | .whil t b, σ, H, Q => ∃ (I : Nat → Sg → PH → Prop) (n : Nat), I n σ H ∧ ∀ n σ H, I n σ H → WE Γ ini t σ H (tl fun c H1 => match c with
    | true => WSs Γ ini b σ H1 fun f σ' H' => match f with
      | .ret u => Q (.ret u) σ' H'
      | .next => ∃ m, m < n ∧ I m σ' H'
    | false => Q .next σ H1)
  | .ret e, σ, H, Q => WE Γ ini e σ H fun v H1 => Q (.ret v) σ H1
  | .app o e, σ, H, Q => WE Γ ini o σ H fun u H1 => match u with
    | .ref a => (∃ xs, H1 a = some (.list xs)) ∧ WE Γ ini e σ H1 fun v H2 => match H2 a with
      | some (.list xs) => xs.length ≤ big ∧ Q .next σ (H2.set a (.list (xs ++ [v])))
      | _ => False
    | _ => False
  | .ex e, σ, H, Q => WE Γ ini e σ H fun _ H1 => Q .next σ H1
  | .dead, _, _, _ => False
noncomputable def WSs (Γ : GT) (ini : Nat) : CSs → Sg → PH → (Fl → Sg → PH → Prop) → Prop
  | .nil, σ, H, Q => Q .next σ H
  | .cons s r, σ, H, Q => WS Γ ini s σ H fun f σ' H' => match f with
    | .next => WSs Γ ini r σ' H' Q
    | .ret v => Q (.ret v) σ' H'
end

structure CFun where
  name : Str
  vars : List Str
  np : Nat
  dfl : List PV
  slots : Nat
  body : CSs

noncomputable def CFun.init (c : CFun) (vs : List PV) : Sg := (vs ++ c.dfl.drop (vs.length + c.dfl.length - c.np)).map some ++ List.replicate (c.slots - c.np) none

noncomputable def G (P : Nat → Option CFun) (ini : Nat) : Nat → GT
  | 0, _, _, _, _ => False
  | d + 1, f, vs, H, Q => match P f with
    | some c => vs.length ≤ c.np ∧ c.np ≤ vs.length + c.dfl.length ∧ WSs (G P ini d) ini c.body (c.init vs) H fun fl _ H' => Q (match fl with | .ret v => v | .next => .none) H'
    | none => False

end Mine
end

section
set_option maxRecDepth 100000
set_option Elab.async false
set_option linter.unusedVariables false
set_option linter.unusedSimpArgs false
open PySem PySem.Calls PySem.Spec
namespace Mine
open PySem.W (Frag TopRead instObj dictOf getL putL putN kOf?)

structure Wd where
  prog : Program
  w : World
  K : Frag
  C : Nat
  h0 : Heap
  mg : Str → Option Value
  mb : Str → Option Value
  p : Program
  loose : List Str

noncomputable def er : Value → Option PV
  | .none => some .none
  | .bool b => some (.bool b)
  | .int i _ => some (.int i)
  | .str s _ => some (.str s)
  | .ref a => some (.ref a)
  | _ => none

abbrev EL (vs : List Value) (xs : List PV) : Prop := vs.map er = xs.map some

abbrev EP {K : Type} (ks : List (K × Value)) (kvs : List (K × PV)) : Prop := ks.map (fun x => (x.1, er x.2)) = kvs.map (fun x => (x.1, some x.2))

/-- a namespace, and how many entries it has at most -/
noncomputable def NsF (h : Heap) (a : Nat) (m : Str → Option Value) (n : Nat) : Prop := ∃ o es ep, h.get? a = some o ∧ o.data = .dict es ep ∧ StrKeys es ∧ (∀ name, nsFind es name = m name) ∧ es.size ≤ n
noncomputable def RO (D : Wd) (h : Heap) (a : Nat) : PObj → Prop
  | .list xs => ∃ vs : List Value, h.PlainList a vs.toArray ∧ EL vs xs
  | .ro xs => ∃ vs : List Value, h.IsList a vs.toArray ∧ EL vs xs
  | .tup xs => ∃ vs : List Value, h.IsTuple a vs.toArray ∧ EL vs xs
  | .dS kvs => ∃ ks : List (Str × Value), Heap.DictOf (strKind D.prog D.w) h a ks ∧ EP ks kvs
  | .dI kvs => ∃ ks : List (Int × Value), Heap.DictOf (intKind D.prog D.w) h a ks ∧ EP ks kvs
  | .inst d => h.get? a = some (instObj D.C d)
  | .flds fs => ∃ m, NsF h a m fs.length ∧ ∀ n pv, lkp fs n = some pv → ∃ v, m n = some v ∧ er v = some pv

theorem RO.at {D : Wd} {h h' : Heap} {a : Nat} {o : PObj} (x : RO D h a o) (hk : ∀ o, h.get? a = some o → h'.get? a = some o) : RO D h' a o := by
  cases o with
  | list xs => obtain ⟨vs, ⟨o, ho⟩, e⟩ := x; exact ⟨vs, ⟨o, hk _ ho⟩, e⟩
  | ro xs => obtain ⟨vs, ⟨o, ho, r⟩, e⟩ := x; exact ⟨vs, ⟨o, hk o ho, r⟩, e⟩
  | tup xs => obtain ⟨vs, ⟨o, ho, r⟩, e⟩ := x; exact ⟨vs, ⟨o, hk o ho, r⟩, e⟩
  | dS kvs => obtain ⟨ks, ⟨o, es, ep, ho, r⟩, e⟩ := x; exact ⟨ks, ⟨o, es, ep, hk o ho, r⟩, e⟩
  | dI kvs => obtain ⟨ks, ⟨o, es, ep, ho, r⟩, e⟩ := x; exact ⟨ks, ⟨o, es, ep, hk o ho, r⟩, e⟩
  | inst d => exact hk _ x
  | flds fs => obtain ⟨m, ⟨o, es, ep, ho, r⟩, e⟩ := x; exact ⟨m, ⟨o, es, ep, hk _ ho, r⟩, e⟩
theorem RO.some {D : Wd} {h : Heap} {a : Nat} {o : PObj} (x : RO D h a o) : ∃ ob, h.get? a = some ob := by
  cases o with
  | list xs => obtain ⟨vs, ⟨o, ho⟩, e⟩ := x; exact ⟨_, ho⟩
  | ro xs => obtain ⟨vs, ⟨o, ho, r⟩, e⟩ := x; exact ⟨o, ho⟩
  | tup xs => obtain ⟨vs, ⟨o, ho, r⟩, e⟩ := x; exact ⟨o, ho⟩
  | dS kvs => obtain ⟨ks, ⟨o, es, ep, ho, r⟩, e⟩ := x; exact ⟨o, ho⟩
  | dI kvs => obtain ⟨ks, ⟨o, es, ep, ho, r⟩, e⟩ := x; exact ⟨o, ho⟩
  | inst d => exact ⟨_, x⟩
  | flds fs => obtain ⟨m, ⟨o, es, ep, ho, r⟩, e⟩ := x; exact ⟨_, ho⟩

noncomputable def isRo : PObj → Prop
  | .ro _ => True
  | _ => False

structure Inv (D : Wd) (h : Heap) (H : PH) : Prop where
  base : ∀ b o, D.h0.get? b = some o → h.get? b = some o
  rep : ∀ a o, H a = some o → RO D h a o
  new : ∀ a o, H a = some o → isRo o ∨ D.h0.get? a = none

structure Step (D : Wd) (own : Nat → Prop) (s s' : Shared) (H H' : PH) : Prop where
  same : ∃ h tk, s' = { s with heap := h, toks := tk }
  inv : Inv D s'.heap H'
  keep : ∀ b o, H b = none → ¬ own b → s.heap.get? b = some o → s'.heap.get? b = some o
  live : ∀ b o, H b = none → s.heap.get? b = some o → ∃ o', s'.heap.get? b = some o'
  dom : ∀ b o, s.heap.get? b = some o → H b = none → H' b = none

abbrev noOwn : Nat → Prop := fun _ => False

theorem Inv.fresh {D : Wd} {h : Heap} {H : PH} (I : Inv D h H) {a : Nat} (e : h.get? a = none) : H a = none := by
  cases q : H a with
  | none => rfl
  | some o => obtain ⟨ob, ho⟩ := (I.rep a o q).some; rw [e] at ho; cases ho

theorem Step.refl {D : Wd} {own : Nat → Prop} {s : Shared} {H : PH} (I : Inv D s.heap H) : Step D own s s H H :=
  ⟨⟨_, _, rfl⟩, I, fun _ _ _ _ e => e, fun _ o _ e => ⟨o, e⟩, fun _ _ _ e => e⟩
theorem Step.trans {D : Wd} {own : Nat → Prop} {s s1 s2 : Shared} {H H1 H2 : PH} (x : Step D own s s1 H H1) (y : Step D own s1 s2 H1 H2) : Step D own s s2 H H2 := by
  obtain ⟨h, tk, rfl⟩ := x.same
  obtain ⟨h', tk', rfl⟩ := y.same
  refine ⟨⟨_, _, rfl⟩, y.inv, fun b o hb ho e => ?_, fun b o hb e => ?_, fun b o e hb => ?_⟩
  · exact y.keep b o (x.dom b o e hb) ho (x.keep b o hb ho e)
  · obtain ⟨o', e'⟩ := x.live b o hb e
    exact y.live b o' (x.dom b o e hb) e'
  · obtain ⟨o', e'⟩ := x.live b o hb e
    exact y.dom b o' e' (x.dom b o e hb)
theorem Step.weak {D : Wd} {own own' : Nat → Prop} {s s1 : Shared} {H H1 : PH} (x : Step D own s s1 H H1) (hw : ∀ b, own b → own' b) : Step D own' s s1 H H1 :=
  ⟨x.same, x.inv, fun b o hb ho e => x.keep b o hb (fun q => ho (hw b q)) e, x.live, x.dom⟩
theorem Step.ofNo {D : Wd} {own : Nat → Prop} {s s1 : Shared} {H H1 : PH} (x : Step D noOwn s s1 H H1) : Step D own s s1 H H1 := x.weak fun _ h => h.elim

/-- the heap only grew -/
theorem Step.ext {D : Wd} {own : Nat → Prop} {s : Shared} {H : PH} {h' : Heap} {tk : Nat} (I : Inv D s.heap H) (hk : ∀ b o, s.heap.get? b = some o → h'.get? b = some o) :
    Step D own s { s with heap := h', toks := tk } H H :=
  ⟨⟨_, _, rfl⟩, ⟨fun b o e => hk b o (I.base b o e), fun a o e => (I.rep a o e).at fun o' e' => hk a o' e', I.new⟩, fun b o _ _ e => hk b o e, fun b o _ e => ⟨o, hk b o e⟩, fun _ _ _ e => e⟩
theorem Step.toks {D : Wd} {own : Nat → Prop} {s : Shared} {H : PH} {tk : Nat} (I : Inv D s.heap H) : Step D own s { s with toks := tk } H H := Step.ext (h' := s.heap) I fun _ _ e => e
/-- all but one hidden new object stands -/
theorem Step.extBut {D : Wd} {own : Nat → Prop} {s : Shared} {H : PH} {h' : Heap} {tk : Nat} {X : Nat} (I : Inv D s.heap H) (hX : s.heap.get? X = none) (hk : ∀ b o, b ≠ X → s.heap.get? b = some o → h'.get? b = some o) :
    Step D own s { s with heap := h', toks := tk } H H := Step.ext I fun b o e => hk b o (by rintro rfl; rw [hX] at e; cases e) e

theorem PH.set_same {H : PH} {a : Nat} {o : PObj} : (H.set a o) a = some o := if_pos rfl
theorem PH.set_ne {H : PH} {a b : Nat} {o : PObj} (h : b ≠ a) : (H.set a o) b = H b := if_neg h

/-- a fresh pure object -/
theorem Step.alloc {D : Wd} {own : Nat → Prop} {s : Shared} {H : PH} {h' : Heap} {tk : Nat} {X : Nat} {o : PObj} (I : Inv D s.heap H) (hX : s.heap.get? X = none) (hk : ∀ b o, s.heap.get? b = some o → h'.get? b = some o)
    (r : RO D h' X o) : Step D own s { s with heap := h', toks := tk } H (H.set X o) := by
  have h0 : D.h0.get? X = none := by
    cases q : D.h0.get? X with
    | none => rfl
    | some o' => rw [I.base X o' q] at hX; cases hX
  refine ⟨⟨_, _, rfl⟩, ⟨fun b o e => hk b o (I.base b o e), fun a o' e => ?_, fun a o' e => ?_⟩, fun b o _ _ e => hk b o e, fun b o _ e => ⟨o, hk b o e⟩, fun b o' e hb => ?_⟩
  · by_cases q : a = X
    · subst q; rw [PH.set_same] at e; cases e; exact r
    · rw [PH.set_ne q] at e; exact (I.rep a o' e).at fun o' e' => hk a o' e'
  · by_cases q : a = X
    · subst q; exact .inr h0
    · rw [PH.set_ne q] at e; exact I.new a o' e
  · rw [PH.set_ne (by rintro rfl; rw [hX] at e; cases e)]; exact hb
/-- a pure object turned -/
theorem Step.mut {D : Wd} {own : Nat → Prop} {s : Shared} {H : PH} {h' : Heap} {tk : Nat} {X : Nat} {o o' : PObj} (I : Inv D s.heap H) (hX : H X = some o) (hr : ¬ isRo o) (hk : ∀ b o, b ≠ X → s.heap.get? b = some o → h'.get? b = some o)
    (r : RO D h' X o') : Step D own s { s with heap := h', toks := tk } H (H.set X o') := by
  have h0 : D.h0.get? X = none := (I.new X o hX).resolve_left hr
  refine ⟨⟨_, _, rfl⟩, ⟨fun b o e => hk b o (by rintro rfl; rw [h0] at e; cases e) (I.base b o e), fun a o' e => ?_, fun a o' e => ?_⟩, fun b o hb _ e => hk b o (by rintro rfl; rw [hX] at hb; cases hb) e,
    fun b o hb e => ⟨o, hk b o (by rintro rfl; rw [hX] at hb; cases hb) e⟩, fun b o' e hb => ?_⟩
  · by_cases q : a = X
    · subst q; rw [PH.set_same] at e; cases e; exact r
    · rw [PH.set_ne q] at e; exact (I.rep a o' e).at fun o' e' => hk a o' q e'
  · by_cases q : a = X
    · subst q; exact .inr h0
    · rw [PH.set_ne q] at e; exact I.new a o' e
  · rw [PH.set_ne (by rintro rfl; rw [hX] at hb; cases hb)]; exact hb

/-- the post of an expression -/
noncomputable def Ex (D : Wd) (s : Shared) (H : PH) (Q : PV → PH → Prop) (v : Value) (s' : Shared) : Prop := ∃ pv H', er v = some pv ∧ Step D noOwn s s' H H' ∧ Q pv H'
abbrev Nope : Value → Shared → Prop := fun _ _ => False

theorem Ex.after {D : Wd} {s s1 : Shared} {H H1 : PH} {Q : PV → PH → Prop} {v : Value} {s' : Shared} (x : Step D noOwn s s1 H H1) (y : Ex D s1 H1 Q v s') : Ex D s H Q v s' :=
  let ⟨pv, H', e, st, q⟩ := y; ⟨pv, H', e, x.trans st, q⟩

inductive NK where | loc (i : Nat) | cel (i : Nat) | glo
  deriving DecidableEq

noncomputable def nkSlot : NK → Option Nat
  | .loc i => some i
  | .cel i => some i
  | .glo => none

/-- the names of a frame -/
structure EnvOK (env : Env) (N : List (Str × NK)) : Prop where
  fn : env.scope.kind = .function
  glob : env.globals = mainGlobals
  blt : env.builtins = builtinsNs
  ne : env.locals ≠ env.globals
  loc : ∀ x i, N.lookup x = some (.loc i) → env.kindOf x = some .local
  cel : ∀ x i, N.lookup x = some (.cel i) → env.kindOf x = some .cell ∧ ∃ c, env.cells.lookup x = some c
  glo : ∀ x, N.lookup x = some .glo → env.kindOf x = some .globalImplicit
  inj : ∀ x y i, (N.lookup x).bind nkSlot = some i → (N.lookup y).bind nkSlot = some i → x = y
  apart : ∀ x y c, env.cells.lookup x = some c → env.cells.lookup y = some c → x = y
  off : ∀ x c, env.cells.lookup x = some c → c ≠ env.locals

noncomputable def ownOf (env : Env) : Nat → Prop := fun b => b = env.locals ∨ ∃ x, env.cells.lookup x = some b

/-- the frame's state -/
structure FrOK (D : Wd) (env : Env) (N : List (Str × NK)) (σ : Sg) (h : Heap) (H : PH) : Prop where
  ns : ∃ m, h.Ns env.locals m ∧ ∀ x i, N.lookup x = some (.loc i) → ∀ pv, gt σ i = some pv → ∃ v, m x = some v ∧ er v = some pv
  cl : ∀ x i c, N.lookup x = some (.cel i) → env.cells.lookup x = some c → (∃ v, h.IsCell c v) ∧ ∀ pv, gt σ i = some pv → ∃ v, h.IsCell c (some v) ∧ er v = some pv
  off : ∀ b, ownOf env b → H b = none
  old : ∀ b, ownOf env b → D.h0.get? b = none
  live : ∀ x c, env.cells.lookup x = some c → ∃ o, h.get? c = some o

theorem Ns.at {h h' : Heap} {a : Nat} {m} (x : h.Ns a m) (hk : ∀ o, h.get? a = some o → h'.get? a = some o) : h'.Ns a m := let ⟨o, es, ep, e, r⟩ := x; ⟨o, es, ep, hk _ e, r⟩
theorem IsCell.at {h h' : Heap} {a : Nat} {m} (x : h.IsCell a m) (hk : ∀ o, h.get? a = some o → h'.get? a = some o) : h'.IsCell a m := let ⟨o, e, r⟩ := x; ⟨o, hk _ e, r⟩

theorem FrOK.step {D : Wd} {env : Env} {N : List (Str × NK)} {σ : Sg} {s s' : Shared} {H H' : PH} (F : FrOK D env N σ s.heap H) (x : Step D noOwn s s' H H') : FrOK D env N σ s'.heap H' := by
  obtain ⟨m, hn, hm⟩ := F.ns
  have hL : ∃ o, s.heap.get? env.locals = some o := let ⟨o, _, _, e, _⟩ := hn; ⟨o, e⟩
  refine ⟨⟨m, Ns.at hn fun o e => x.keep _ o (F.off _ (.inl rfl)) id e, hm⟩, fun n i c h1 h2 => ?_, fun b hb => ?_, F.old, fun n c hc => ?_⟩
  · have k : ∀ o, s.heap.get? c = some o → s'.heap.get? c = some o := fun o e => x.keep _ o (F.off _ (.inr ⟨n, h2⟩)) id e
    obtain ⟨⟨v, hv⟩, hc⟩ := F.cl n i c h1 h2
    exact ⟨⟨v, IsCell.at hv k⟩, fun pv hp => let ⟨v, a, b⟩ := hc pv hp; ⟨v, IsCell.at a k, b⟩⟩
  · rcases hb with rfl | ⟨n, hc⟩
    · obtain ⟨o, e⟩ := hL
      exact x.dom _ o e (F.off _ (.inl rfl))
    · obtain ⟨o, e⟩ := F.live n b hc
      exact x.dom _ o e (F.off _ (.inr ⟨n, hc⟩))
  · obtain ⟨o, e⟩ := F.live n c hc
    exact ⟨o, x.keep _ o (F.off _ (.inr ⟨n, hc⟩)) id e⟩

structure Room (A : Around) (d : Nat) : Prop where
  hd : A.handled = none
  dp : A.depth + 8 * d + 20 < recursionLimit
  un : A.units + 40 * d + 80 < cLine

end Mine
end

section
set_option maxRecDepth 100000
set_option backward.match.sparseCases false
set_option Elab.async false
set_option linter.unusedVariables false
set_option linter.unusedSimpArgs false
open PySem PySem.Calls PySem.Spec
namespace Mine
open PySem.W (Frag TopRead instObj dictOf getL putL putN)

/-! the check: a core tree is a Python tree -/
noncomputable def isStar : Expr → Bool
  | .Starred .. => true
  | _ => false
noncomputable def isSlice : Expr → Bool
  | .Slice .. => true
  | _ => false
noncomputable def isSetD : Expr → Bool
  | .Set .. => true
  | _ => false
noncomputable def plainBase : Expr → Bool
  | .Name .. => true
  | .Attribute .. => true
  | _ => false
noncomputable def isNameE : Expr → Bool
  | .Name .. => true
  | _ => false
noncomputable def fldNames : List Str := ["kind", "items", "attrs", "shared", "loose"]
noncomputable def dbg : Str := "__debug__"
noncomputable def isGlo (N : List (Str × NK)) (x : Str) (n : Str) : Bool := x == n && N.lookup x == some .glo && !(x == dbg)

noncomputable def bopIs : BOp → Operator → Bool
  | .add, .Add => true
  | .sub, .Sub => true
  | .mul, .Mult => true
  | .mod, .Mod => true
  | _, _ => false
noncomputable def copIs : COp → CmpOp → Bool
  | .eq, .Eq => true
  | .ne, .NotEq => true
  | .lt, .Lt => true
  | .gt, .Gt => true
  | .le, .LtE => true
  | .ge, .GtE => true
  | .is, .Is => true
  | .isnt, .IsNot => true
  | .isin, .In => true
  | .notin, .NotIn => true
  | _, _ => false

/-- the names within a comprehension -/
noncomputable def compN (N : List (Str × NK)) (y : Str) (x : Nat) : List (Str × NameKind) → List (Str × NK)
  | [] => []
  | (n, k) :: r => match k with
    | .local => if n == y then (n, .loc x) :: compN N y x r else compN N y x r
    | .free => match N.lookup n with
      | some (.cel i) => (n, .cel i) :: compN N y x r
      | _ => compN N y x r
    | .globalImplicit => (n, .glo) :: compN N y x r
    | _ => compN N y x r

noncomputable def injN : List (Str × NK) → Bool
  | [] => true
  | (n, k) :: r => (match nkSlot k with
    | some i => r.all fun y => y.1 == n || nkSlot y.2 != some i
    | none => true) && !(r.any fun y => y.1 == n) && injN r

/-- a comprehension's scope: its one own name, the frame's cells, globals -/
noncomputable def scopeOK (N : List (Str × NK)) (y : Str) (scope : Scope) : Bool :=
  scope.kind == .function && scope.names.all (fun z => z.2 != .cell && scope.names.lookup z.1 == some z.2 && (z.2 != .free || (match N.lookup z.1 with | some (.cel _) => true | _ => false)))
    && scope.names.lookup y == some .local

theorem ff {P : Prop} (h : false = true) : P := Bool.noConfusion h
theorem tf {P : Prop} (h : true = false) : P := Bool.noConfusion h
theorem nf {α : Type} {a : α} {P : Prop} (h : none = some a) : P := nomatch h
noncomputable def vConstant : Expr → Option (Const × Nat × Pos) | .Constant a0 a1 a2 => some (a0, a1, a2) | _ => none
theorem vConstant_eq {p : Expr} {a0 a1 a2} (h : vConstant p = some (a0, a1, a2)) : p = .Constant a0 a1 a2 := by cases p <;> first | exact nf h | (cases h; rfl)
noncomputable def vName : Expr → Option (Str × Pos) | .Name a0 a1 => some (a0, a1) | _ => none
theorem vName_eq {p : Expr} {a0 a1} (h : vName p = some (a0, a1)) : p = .Name a0 a1 := by cases p <;> first | exact nf h | (cases h; rfl)
noncomputable def vCall : Expr → Option (Expr × List Expr × List Keyword × Pos) | .Call a0 a1 a2 a3 => some (a0, a1, a2, a3) | _ => none
theorem vCall_eq {p : Expr} {a0 a1 a2 a3} (h : vCall p = some (a0, a1, a2, a3)) : p = .Call a0 a1 a2 a3 := by cases p <;> first | exact nf h | (cases h; rfl)
noncomputable def vAttribute : Expr → Option (Expr × Str × Pos) | .Attribute a0 a1 a2 => some (a0, a1, a2) | _ => none
theorem vAttribute_eq {p : Expr} {a0 a1 a2} (h : vAttribute p = some (a0, a1, a2)) : p = .Attribute a0 a1 a2 := by cases p <;> first | exact nf h | (cases h; rfl)
noncomputable def vBinOp : Expr → Option (Expr × Operator × Expr × Pos) | .BinOp a0 a1 a2 a3 => some (a0, a1, a2, a3) | _ => none
theorem vBinOp_eq {p : Expr} {a0 a1 a2 a3} (h : vBinOp p = some (a0, a1, a2, a3)) : p = .BinOp a0 a1 a2 a3 := by cases p <;> first | exact nf h | (cases h; rfl)
noncomputable def vCompare : Expr → Option (Expr × List CmpOp × List Expr × Pos) | .Compare a0 a1 a2 a3 => some (a0, a1, a2, a3) | _ => none
theorem vCompare_eq {p : Expr} {a0 a1 a2 a3} (h : vCompare p = some (a0, a1, a2, a3)) : p = .Compare a0 a1 a2 a3 := by cases p <;> first | exact nf h | (cases h; rfl)
noncomputable def vBoolOp : Expr → Option (BoolOp × List Expr × Pos) | .BoolOp a0 a1 a2 => some (a0, a1, a2) | _ => none
theorem vBoolOp_eq {p : Expr} {a0 a1 a2} (h : vBoolOp p = some (a0, a1, a2)) : p = .BoolOp a0 a1 a2 := by cases p <;> first | exact nf h | (cases h; rfl)
noncomputable def vUnaryOp : Expr → Option (UnaryOp × Expr × Pos) | .UnaryOp a0 a1 a2 => some (a0, a1, a2) | _ => none
theorem vUnaryOp_eq {p : Expr} {a0 a1 a2} (h : vUnaryOp p = some (a0, a1, a2)) : p = .UnaryOp a0 a1 a2 := by cases p <;> first | exact nf h | (cases h; rfl)
noncomputable def vIfExp : Expr → Option (Expr × Expr × Expr × Pos) | .IfExp a0 a1 a2 a3 => some (a0, a1, a2, a3) | _ => none
theorem vIfExp_eq {p : Expr} {a0 a1 a2 a3} (h : vIfExp p = some (a0, a1, a2, a3)) : p = .IfExp a0 a1 a2 a3 := by cases p <;> first | exact nf h | (cases h; rfl)
noncomputable def vSubscript : Expr → Option (Expr × Expr × Pos) | .Subscript a0 a1 a2 => some (a0, a1, a2) | _ => none
theorem vSubscript_eq {p : Expr} {a0 a1 a2} (h : vSubscript p = some (a0, a1, a2)) : p = .Subscript a0 a1 a2 := by cases p <;> first | exact nf h | (cases h; rfl)
noncomputable def vSlice : Expr → Option (Option Expr × Option Expr × Option Expr × Pos) | .Slice a0 a1 a2 a3 => some (a0, a1, a2, a3) | _ => none
theorem vSlice_eq {p : Expr} {a0 a1 a2 a3} (h : vSlice p = some (a0, a1, a2, a3)) : p = .Slice a0 a1 a2 a3 := by cases p <;> first | exact nf h | (cases h; rfl)
noncomputable def vList : Expr → Option (List Expr × Pos) | .List a0 a1 => some (a0, a1) | _ => none
theorem vList_eq {p : Expr} {a0 a1} (h : vList p = some (a0, a1)) : p = .List a0 a1 := by cases p <;> first | exact nf h | (cases h; rfl)
noncomputable def vTuple : Expr → Option (List Expr × Nat × Pos) | .Tuple a0 a1 a2 => some (a0, a1, a2) | _ => none
theorem vTuple_eq {p : Expr} {a0 a1 a2} (h : vTuple p = some (a0, a1, a2)) : p = .Tuple a0 a1 a2 := by cases p <;> first | exact nf h | (cases h; rfl)
noncomputable def vDict : Expr → Option (List (Option Expr) × List Expr × Pos) | .Dict a0 a1 a2 => some (a0, a1, a2) | _ => none
theorem vDict_eq {p : Expr} {a0 a1 a2} (h : vDict p = some (a0, a1, a2)) : p = .Dict a0 a1 a2 := by cases p <;> first | exact nf h | (cases h; rfl)
noncomputable def vListComp : Expr → Option (Expr × List Comprehension × Scope × Pos) | .ListComp a0 a1 a2 a3 => some (a0, a1, a2, a3) | _ => none
theorem vListComp_eq {p : Expr} {a0 a1 a2 a3} (h : vListComp p = some (a0, a1, a2, a3)) : p = .ListComp a0 a1 a2 a3 := by cases p <;> first | exact nf h | (cases h; rfl)
noncomputable def vDictComp : Expr → Option (Expr × Expr × List Comprehension × Scope × Pos) | .DictComp a0 a1 a2 a3 a4 => some (a0, a1, a2, a3, a4) | _ => none
theorem vDictComp_eq {p : Expr} {a0 a1 a2 a3 a4} (h : vDictComp p = some (a0, a1, a2, a3, a4)) : p = .DictComp a0 a1 a2 a3 a4 := by cases p <;> first | exact nf h | (cases h; rfl)
noncomputable def wAssign : Stmt → Option (List Expr × Expr × Pos) | .Assign a0 a1 a2 => some (a0, a1, a2) | _ => none
theorem wAssign_eq {p : Stmt} {a0 a1 a2} (h : wAssign p = some (a0, a1, a2)) : p = .Assign a0 a1 a2 := by cases p <;> first | exact nf h | (cases h; rfl)
noncomputable def wAugAssign : Stmt → Option (Expr × Operator × Expr × Pos) | .AugAssign a0 a1 a2 a3 => some (a0, a1, a2, a3) | _ => none
theorem wAugAssign_eq {p : Stmt} {a0 a1 a2 a3} (h : wAugAssign p = some (a0, a1, a2, a3)) : p = .AugAssign a0 a1 a2 a3 := by cases p <;> first | exact nf h | (cases h; rfl)
noncomputable def wIf : Stmt → Option (Expr × List Stmt × List Stmt × Pos) | .If a0 a1 a2 a3 => some (a0, a1, a2, a3) | _ => none
theorem wIf_eq {p : Stmt} {a0 a1 a2 a3} (h : wIf p = some (a0, a1, a2, a3)) : p = .If a0 a1 a2 a3 := by cases p <;> first | exact nf h | (cases h; rfl)
noncomputable def wFor : Stmt → Option (Expr × Expr × List Stmt × List Stmt × Pos) | .For a0 a1 a2 a3 a4 => some (a0, a1, a2, a3, a4) | _ => none
theorem wFor_eq {p : Stmt} {a0 a1 a2 a3 a4} (h : wFor p = some (a0, a1, a2, a3, a4)) : p = .For a0 a1 a2 a3 a4 := by cases p <;> first | exact nf h | (cases h; rfl)
noncomputable def wWhile : Stmt → Option (Expr × List Stmt × List Stmt × Pos) | .While a0 a1 a2 a3 => some (a0, a1, a2, a3) | _ => none
theorem wWhile_eq {p : Stmt} {a0 a1 a2 a3} (h : wWhile p = some (a0, a1, a2, a3)) : p = .While a0 a1 a2 a3 := by cases p <;> first | exact nf h | (cases h; rfl)
noncomputable def wReturn : Stmt → Option (Option Expr × Pos) | .Return a0 a1 => some (a0, a1) | _ => none
theorem wReturn_eq {p : Stmt} {a0 a1} (h : wReturn p = some (a0, a1)) : p = .Return a0 a1 := by cases p <;> first | exact nf h | (cases h; rfl)
noncomputable def wExpr : Stmt → Option (Expr × Pos) | .Expr a0 a1 => some (a0, a1) | _ => none
theorem wExpr_eq {p : Stmt} {a0 a1} (h : wExpr p = some (a0, a1)) : p = .Expr a0 a1 := by cases p <;> first | exact nf h | (cases h; rfl)

mutual
noncomputable def chkE (fn : Nat → Option Str) (N : List (Str × NK)) : CE → Expr → Bool
  | .non, p => (match vConstant p with | some (u1, v0, v1) => (match u1 with | .none  => (true) | _ => false) | none => false)
  | .bool b, p => (match vConstant p with | some (u1, v1, v2) => (match u1 with | .bool v0 => (b == v0) | _ => false) | none => false)
  | .int i, p => match p with
    | .Constant (.int j) _ _ => i == j
    | .UnaryOp .USub (.Constant (.int j) _ _) _ => i == -j
    | _ => false
  | .str s, p => (match vConstant p with | some (u1, v1, v2) => (match u1 with | .str v0 => (s == v0) | _ => false) | none => false)
  | .var i, p => (match vName p with | some (v0, v1) => ((N.lookup v0).bind nkSlot == some i && !(v0 == dbg)) | none => false)
  | .call f as, p => (match vCall p with | some (u1, v2, u2, v3) => (match vName u1 with | some (v0, v1) => (match u2 with | [] => ((match fn f with | some n => isGlo N v0 n | none => false) && chkEs fn N as v2) | _ => false) | none => false) | none => false)
  | .mk as, p => (match vCall p with | some (u1, v2, u2, v3) => (match vName u1 with | some (v0, v1) => (match u2 with | [] => (isGlo N v0 "Vector" && chkEs fn N as v2) | _ => false) | none => false) | none => false)
  | .len e, p => (match vCall p with | some (u1, u2, u3, v3) => (match vName u1 with | some (v0, v1) => (match u2 with | [v2] => (match u3 with | [] => (isGlo N v0 "len" && chkE fn N e v2 && !isStar v2) | _ => false) | _ => false) | none => false) | none => false)
  | .list e, p => (match vCall p with | some (u1, u2, u3, v3) => (match vName u1 with | some (v0, v1) => (match u2 with | [v2] => (match u3 with | [] => (isGlo N v0 "list" && chkE fn N e v2 && !isStar v2) | _ => false) | _ => false) | none => false) | none => false)
  | .strOf e, p => (match vCall p with | some (u1, u2, u3, v3) => (match vName u1 with | some (v0, v1) => (match u2 with | [v2] => (match u3 with | [] => (isGlo N v0 "str" && chkE fn N e v2 && !isStar v2) | _ => false) | _ => false) | none => false) | none => false)
  | .abs e, p => (match vCall p with | some (u1, u2, u3, v3) => (match vName u1 with | some (v0, v1) => (match u2 with | [v2] => (match u3 with | [] => (isGlo N v0 "abs" && chkE fn N e v2 && !isStar v2) | _ => false) | _ => false) | none => false) | none => false)
  | .isVec e, p => (match vCall p with | some (u1, u2, u3, v5) => (match vName u1 with | some (v0, v1) => (match u2 with | [v2, u4] => (match vName u4 with | some (v3, v4) => (match u3 with | [] => (isGlo N v0 "isinstance" && isGlo N v3 "Vector" && chkE fn N e v2 && !isStar v2) | _ => false) | none => false) | _ => false) | none => false) | none => false)
  | .isList e, p => (match vCall p with | some (u1, u2, u3, v5) => (match vName u1 with | some (v0, v1) => (match u2 with | [v2, u4] => (match vName u4 with | some (v3, v4) => (match u3 with | [] => (isGlo N v0 "isinstance" && isGlo N v3 "list" && chkE fn N e v2 && !isStar v2) | _ => false) | none => false) | _ => false) | none => false) | none => false)
  | .get e k, p => (match vCall p with | some (u1, u2, u3, v4) => (match vAttribute u1 with | some (v0, v1, v2) => (match u2 with | [v3] => (match u3 with | [] => (v1 == "get" && chkE fn N e v0 && plainBase v0 && chkE fn N k v3 && !isStar v3 && v2.endLine == v4.line) | _ => false) | _ => false) | none => false) | none => false)
  | .attr e n, p => (match vAttribute p with | some (v0, v1, v2) => (n == v1 && chkE fn N e v0 && plainBase v0 && fldNames.contains n) | none => false)
  | .bin o a b, p => (match vBinOp p with | some (v0, v1, v2, v3) => (bopIs o v1 && chkE fn N a v0 && chkE fn N b v2) | none => false)
  | .cat a b, p => (match vBinOp p with | some (v0, u1, v1, v2) => (match u1 with | .Add  => (chkE fn N a v0 && chkE fn N b v1) | _ => false) | none => false)
  | .rep a b, p => (match vBinOp p with | some (v0, u1, v1, v2) => (match u1 with | .Mult  => (chkE fn N a v0 && chkE fn N b v1) | _ => false) | none => false)
  | .cmp o a b, p => (match vCompare p with | some (v0, u1, u2, v3) => (match u1 with | [v1] => (match u2 with | [v2] => (copIs o v1 && chkE fn N a v0 && chkE fn N b v2 && !isSetD v2) | _ => false) | _ => false) | none => false)
  | .chain o1 o2 a b c, p => (match vCompare p with | some (v0, u1, u2, v5) => (match u1 with | [v1, v2] => (match u2 with | [v3, v4] => (copIs o1 v1 && copIs o2 v2 && chkE fn N a v0 && chkE fn N b v3 && chkE fn N c v4 && !isSetD v4) | _ => false) | _ => false) | none => false)
  | .and as, p => (match vBoolOp p with | some (u1, v0, v1) => (match u1 with | .And  => (chkEs fn N as v0 && !v0.isEmpty) | _ => false) | none => false)
  | .or as, p => (match vBoolOp p with | some (u1, v0, v1) => (match u1 with | .Or  => (chkEs fn N as v0 && !v0.isEmpty) | _ => false) | none => false)
  | .not a, p => (match vUnaryOp p with | some (u1, v0, v1) => (match u1 with | .Not  => (chkE fn N a v0) | _ => false) | none => false)
  | .ife t a b, p => (match vIfExp p with | some (v0, v1, v2, v3) => (chkE fn N t v0 && chkE fn N a v1 && chkE fn N b v2) | none => false)
  | .idx a i, p => (match vSubscript p with | some (v0, v1, v2) => (chkE fn N a v0 && chkE fn N i v1 && !isSlice v1) | none => false)
  | .slice a l, p => (match vSubscript p with | some (v0, u1, v3) => (match vSlice u1 with | some (u2, u3, u4, v2) => (match u2 with | some v1 => (match u3 with | none  => (match u4 with | none  => (isNameE v0 && chkE fn N a v0 && chkE fn N l v1) | _ => false) | _ => false) | _ => false) | none => false) | none => false)
  | .slice2 a l h, p => (match vSubscript p with | some (v0, u1, v4) => (match vSlice u1 with | some (u2, u3, u4, v3) => (match u2 with | some v1 => (match u3 with | some v2 => (match u4 with | none  => (isNameE v0 && chkE fn N a v0 && chkE fn N l v1 && chkE fn N h v2) | _ => false) | _ => false) | _ => false) | none => false) | none => false)
  | .lst as, p => (match vList p with | some (v0, v1) => (chkEs fn N as v0) | none => false)
  | .tup as, p => (match vTuple p with | some (v0, v1, v2) => (chkEs fn N as v0) | none => false)
  | .dS, p => (match vDict p with | some (u1, u2, v0) => (match u1 with | [] => (match u2 with | [] => (true) | _ => false) | _ => false) | none => false)
  | .dI, p => (match vDict p with | some (u1, u2, v0) => (match u1 with | [] => (match u2 with | [] => (true) | _ => false) | _ => false) | none => false)
  | .comp e x src cd, p => (match vListComp p with | some (v0, u1, v5, v6) => (match u1 with | [u2] => (match u2 with | ⟨u3, v3, v4, u4⟩ => (match vName u3 with | some (v1, v2) => (match u4 with | 0 => (scopeOK N v1 v5 && injN (compN N v1 x v5.names) && chkSrc fn N src v3 && chkEs fn (compN N v1 x v5.names) cd v4 && chkE fn (compN N v1 x v5.names) e v0) | _ => false) | none => false)) | _ => false) | none => false)
  | .dcomp k v x src cd, p => (match vDictComp p with | some (v0, v1, u1, v6, v7) => (match u1 with | [u2] => (match u2 with | ⟨u3, v4, v5, u4⟩ => (match vName u3 with | some (v2, v3) => (match u4 with | 0 => (scopeOK N v2 v6 && injN (compN N v2 x v6.names) && chkSrc fn N src v4 && chkEs fn (compN N v2 x v6.names) cd v5 && chkE fn (compN N v2 x v6.names) k v0 && chkE fn (compN N v2 x v6.names) v v1) | _ => false) | none => false)) | _ => false) | none => false)
  | .dead, _ => true
noncomputable def chkEs (fn : Nat → Option Str) (N : List (Str × NK)) : CEs → List Expr → Bool
  | .nil, ps => match ps with | [] => true | _ => false
  | .cons e r, ps => match ps with | p :: ps => chkE fn N e p && !isStar p && chkEs fn N r ps | _ => false
noncomputable def chkSrc (fn : Nat → Option Str) (N : List (Str × NK)) : CSrc → Expr → Bool
  | .it e, p => chkE fn N e p && !isSetD p
  | .rng as, p => (match vCall p with | some (u1, v2, u2, v3) => (match vName u1 with | some (v0, v1) => (match u2 with | [] => (isGlo N v0 "range" && chkEs fn N as v2) | _ => false) | none => false) | none => false)
end

noncomputable def slotIs (N : List (Str × NK)) (y : Str) (x : Nat) : Bool := (N.lookup y).bind nkSlot == some x
noncomputable def isLoc (N : List (Str × NK)) (y : Str) (x : Nat) : Bool := N.lookup y == some (.loc x)
noncomputable def isTupE : Expr → Bool
  | .Tuple .. => true
  | .List .. => true
  | _ => false
noncomputable def isCompE : Expr → Bool
  | .ListComp .. => true
  | .SetComp .. => true
  | .DictComp .. => true
  | _ => false

mutual
noncomputable def chkS (fn : Nat → Option Str) (N : List (Str × NK)) : CS → Stmt → Bool
  | .asg x e, p => (match wAssign p with | some (u1, v2, v3) => (match u1 with | [u2] => (match vName u2 with | some (v0, v1) => (slotIs N v0 x && chkE fn N e v2) | none => false) | _ => false) | none => false)
  | .unpk x1 x2 e, p => (match wAssign p with | some (u1, v6, v7) => (match u1 with | [u2] => (match vTuple u2 with | some (u3, v4, v5) => (match u3 with | [u4, u5] => (match vName u4 with | some (v0, v1) => (match vName u5 with | some (v2, v3) => (isLoc N v0 x1 && isLoc N v2 x2 && v0 != v2 && chkE fn N e v6 && !isTupE v6 && !isCompE v6) | none => false) | none => false) | _ => false) | none => false) | _ => false) | none => false)
  | .seta o n e, p => (match wAssign p with | some (u1, v3, v4) => (match u1 with | [u2] => (match vAttribute u2 with | some (v0, v1, v2) => (n == v1 && chkE fn N o v0 && chkE fn N e v3 && !isCompE v3 && fldNames.contains n) | none => false) | _ => false) | none => false)
  | .seti o k e, p => (match wAssign p with | some (u1, v3, v4) => (match u1 with | [u2] => (match vSubscript u2 with | some (v0, v1, v2) => (chkE fn N o v0 && chkE fn N k v1 && chkE fn N e v3 && !isCompE v3 && !isSlice v1) | none => false) | _ => false) | none => false)
  | .aug x o e, p => (match wAugAssign p with | some (u1, v2, v3, v4) => (match vName u1 with | some (v0, v1) => (slotIs N v0 x && bopIs o v2 && chkE fn N e v3 && (o == .add || o == .sub)) | none => false) | none => false)
  | .ifs t a b, p => (match wIf p with | some (v0, v1, v2, v3) => (chkE fn N t v0 && chkSs fn N a v1 && chkSs fn N b v2) | none => false)
  | .forr x src b, p => (match wFor p with | some (u1, v2, v3, u2, v4) => (match vName u1 with | some (v0, v1) => (match u2 with | [] => (isLoc N v0 x && chkSrc fn N src v2 && chkSs fn N b v3) | _ => false) | none => false) | none => false)
  | .whil t b, p => (match wWhile p with | some (v0, v1, u1, v2) => (match u1 with | [] => (chkE fn N t v0 && chkSs fn N b v1) | _ => false) | none => false)
  | .ret e, p => (match wReturn p with | some (u1, v1) => (match u1 with | some v0 => (chkE fn N e v0) | _ => false) | none => false)
  | .app o e, p => (match wExpr p with | some (u1, v5) => (match vCall u1 with | some (u2, u3, u4, v4) => (match vAttribute u2 with | some (v0, v1, v2) => (match u3 with | [v3] => (match u4 with | [] => (v1 == "append" && chkE fn N o v0 && plainBase v0 && chkE fn N e v3 && !isStar v3 && v2.endLine == v4.line) | _ => false) | _ => false) | none => false) | none => false) | none => false)
  | .ex e, p => (match wExpr p with | some (v0, v1) => (chkE fn N e v0 && !isCompE v0) | none => false)
  | .dead, _ => true
noncomputable def chkSs (fn : Nat → Option Str) (N : List (Str × NK)) : CSs → List Stmt → Bool
  | .nil, ps => match ps with | [] => true | _ => false
  | .cons s r, ps => match ps with | p :: ps => chkS fn N s p && chkSs fn N r ps | _ => false
end

/-- the names of a def's frame -/
noncomputable def mkN (vars : List Str) : List (Str × NameKind) → List (Str × NK)
  | [] => []
  | (n, k) :: r => match k, vars.findIdx? (· == n) with
    | .local, some i => (n, .loc i) :: mkN vars r
    | .cell, some i => (n, .cel i) :: mkN vars r
    | .globalImplicit, _ => (n, .glo) :: mkN vars r
    | _, _ => mkN vars r

noncomputable def distinct : List Str → Bool
  | [] => true
  | x :: r => !r.contains x && distinct r

noncomputable def chkF (fn : Nat → Option Str) (c : CFun) (params : Arguments) (body : List Stmt) (scope : Scope) : Bool :=
  scope.kind == .function && !scope.isGenerator && !scope.isCoroutine && injN (mkN c.vars scope.names) && params.args.map (·.arg) == c.vars.take c.np && params.args.length == c.np
    && (c.vars.take c.np).all (fun x => match scope.names.lookup x with | some .local => true | some .cell => true | _ => false)
    && scope.names.all (fun z => scope.names.lookup z.1 == some z.2)
    && distinct (c.vars.take c.np)
    && c.vars.length ≤ c.slots
    && chkSs fn (mkN c.vars scope.names) c.body body

/-! what a checked tree looks like -/
theorem inv_non {fn : Nat → Option Str} {N : List (Str × NK)} {p : Expr} (h : chkE fn N (.non) p = true) : ∃ v0 v1, p = (.Constant .none v0 v1) ∧ (true) = true := by
  replace h : (match vConstant p with | some (u1, v0, v1) => (match u1 with | .none  => (true) | _ => false) | none => false) = true := h
  cases q : vConstant p with
  | none => rw [q] at h; exact ff h
  | some z =>
  rw [q] at h
  obtain ⟨u1, v0, v1⟩ := z
  obtain rfl := vConstant_eq q
  clear q
  dsimp only at h
  cases u1 <;> first | exact ff h | skip
  exact ⟨_, _, rfl, h⟩
theorem inv_bool {fn : Nat → Option Str} {N : List (Str × NK)} {p : Expr} {c0} (h : chkE fn N (.bool c0) p = true) : ∃ v0 v1 v2, p = (.Constant (.bool v0) v1 v2) ∧ (c0 == v0) = true := by
  replace h : (match vConstant p with | some (u1, v1, v2) => (match u1 with | .bool v0 => (c0 == v0) | _ => false) | none => false) = true := h
  cases q : vConstant p with
  | none => rw [q] at h; exact ff h
  | some z =>
  rw [q] at h
  obtain ⟨u1, v1, v2⟩ := z
  obtain rfl := vConstant_eq q
  clear q
  dsimp only at h
  cases u1 <;> first | exact ff h | skip
  rename_i v0
  exact ⟨_, _, _, rfl, h⟩
theorem inv_str {fn : Nat → Option Str} {N : List (Str × NK)} {p : Expr} {c0} (h : chkE fn N (.str c0) p = true) : ∃ v0 v1 v2, p = (.Constant (.str v0) v1 v2) ∧ (c0 == v0) = true := by
  replace h : (match vConstant p with | some (u1, v1, v2) => (match u1 with | .str v0 => (c0 == v0) | _ => false) | none => false) = true := h
  cases q : vConstant p with
  | none => rw [q] at h; exact ff h
  | some z =>
  rw [q] at h
  obtain ⟨u1, v1, v2⟩ := z
  obtain rfl := vConstant_eq q
  clear q
  dsimp only at h
  cases u1 <;> first | exact ff h | skip
  rename_i v0
  exact ⟨_, _, _, rfl, h⟩
theorem inv_var {fn : Nat → Option Str} {N : List (Str × NK)} {p : Expr} {c0} (h : chkE fn N (.var c0) p = true) : ∃ v0 v1, p = (.Name v0 v1) ∧ ((N.lookup v0).bind nkSlot == some c0 && !(v0 == dbg)) = true := by
  replace h : (match vName p with | some (v0, v1) => ((N.lookup v0).bind nkSlot == some c0 && !(v0 == dbg)) | none => false) = true := h
  cases q : vName p with
  | none => rw [q] at h; exact ff h
  | some z =>
  rw [q] at h
  obtain ⟨v0, v1⟩ := z
  obtain rfl := vName_eq q
  clear q
  dsimp only at h
  exact ⟨_, _, rfl, h⟩
theorem inv_call {fn : Nat → Option Str} {N : List (Str × NK)} {p : Expr} {c0} {c1} (h : chkE fn N (.call c0 c1) p = true) : ∃ v0 v1 v2 v3, p = (.Call (.Name v0 v1) v2 [] v3) ∧ ((match fn c0 with | some n => isGlo N v0 n | none => false) && chkEs fn N c1 v2) = true := by
  replace h : (match vCall p with | some (u1, v2, u2, v3) => (match vName u1 with | some (v0, v1) => (match u2 with | [] => ((match fn c0 with | some n => isGlo N v0 n | none => false) && chkEs fn N c1 v2) | _ => false) | none => false) | none => false) = true := h
  cases q : vCall p with
  | none => rw [q] at h; exact ff h
  | some z =>
  rw [q] at h
  obtain ⟨u1, v2, u2, v3⟩ := z
  obtain rfl := vCall_eq q
  clear q
  dsimp only at h
  cases q : vName u1 with
  | none => rw [q] at h; exact ff h
  | some z =>
  rw [q] at h
  obtain ⟨v0, v1⟩ := z
  obtain rfl := vName_eq q
  clear q
  dsimp only at h
  cases u2 <;> first | exact ff h | skip
  exact ⟨_, _, _, _, rfl, h⟩
theorem inv_mk {fn : Nat → Option Str} {N : List (Str × NK)} {p : Expr} {c0} (h : chkE fn N (.mk c0) p = true) : ∃ v0 v1 v2 v3, p = (.Call (.Name v0 v1) v2 [] v3) ∧ (isGlo N v0 "Vector" && chkEs fn N c0 v2) = true := by
  replace h : (match vCall p with | some (u1, v2, u2, v3) => (match vName u1 with | some (v0, v1) => (match u2 with | [] => (isGlo N v0 "Vector" && chkEs fn N c0 v2) | _ => false) | none => false) | none => false) = true := h
  cases q : vCall p with
  | none => rw [q] at h; exact ff h
  | some z =>
  rw [q] at h
  obtain ⟨u1, v2, u2, v3⟩ := z
  obtain rfl := vCall_eq q
  clear q
  dsimp only at h
  cases q : vName u1 with
  | none => rw [q] at h; exact ff h
  | some z =>
  rw [q] at h
  obtain ⟨v0, v1⟩ := z
  obtain rfl := vName_eq q
  clear q
  dsimp only at h
  cases u2 <;> first | exact ff h | skip
  exact ⟨_, _, _, _, rfl, h⟩
theorem inv_len {fn : Nat → Option Str} {N : List (Str × NK)} {p : Expr} {c0} (h : chkE fn N (.len c0) p = true) : ∃ v0 v1 v2 v3, p = (.Call (.Name v0 v1) [v2] [] v3) ∧ (isGlo N v0 "len" && chkE fn N c0 v2 && !isStar v2) = true := by
  replace h : (match vCall p with | some (u1, u2, u3, v3) => (match vName u1 with | some (v0, v1) => (match u2 with | [v2] => (match u3 with | [] => (isGlo N v0 "len" && chkE fn N c0 v2 && !isStar v2) | _ => false) | _ => false) | none => false) | none => false) = true := h
  cases q : vCall p with
  | none => rw [q] at h; exact ff h
  | some z =>
  rw [q] at h
  obtain ⟨u1, u2, u3, v3⟩ := z
  obtain rfl := vCall_eq q
  clear q
  dsimp only at h
  cases q : vName u1 with
  | none => rw [q] at h; exact ff h
  | some z =>
  rw [q] at h
  obtain ⟨v0, v1⟩ := z
  obtain rfl := vName_eq q
  clear q
  dsimp only at h
  cases u2 <;> first | exact ff h | skip
  rename_i v2 u4
  cases u4 <;> first | exact ff h | skip
  try dsimp only at h
  cases u3 <;> first | exact ff h | skip
  exact ⟨_, _, _, _, rfl, h⟩
theorem inv_list {fn : Nat → Option Str} {N : List (Str × NK)} {p : Expr} {c0} (h : chkE fn N (.list c0) p = true) : ∃ v0 v1 v2 v3, p = (.Call (.Name v0 v1) [v2] [] v3) ∧ (isGlo N v0 "list" && chkE fn N c0 v2 && !isStar v2) = true := by
  replace h : (match vCall p with | some (u1, u2, u3, v3) => (match vName u1 with | some (v0, v1) => (match u2 with | [v2] => (match u3 with | [] => (isGlo N v0 "list" && chkE fn N c0 v2 && !isStar v2) | _ => false) | _ => false) | none => false) | none => false) = true := h
  cases q : vCall p with
  | none => rw [q] at h; exact ff h
  | some z =>
  rw [q] at h
  obtain ⟨u1, u2, u3, v3⟩ := z
  obtain rfl := vCall_eq q
  clear q
  dsimp only at h
  cases q : vName u1 with
  | none => rw [q] at h; exact ff h
  | some z =>
  rw [q] at h
  obtain ⟨v0, v1⟩ := z
  obtain rfl := vName_eq q
  clear q
  dsimp only at h
  cases u2 <;> first | exact ff h | skip
  rename_i v2 u4
  cases u4 <;> first | exact ff h | skip
  try dsimp only at h
  cases u3 <;> first | exact ff h | skip
  exact ⟨_, _, _, _, rfl, h⟩
theorem inv_strOf {fn : Nat → Option Str} {N : List (Str × NK)} {p : Expr} {c0} (h : chkE fn N (.strOf c0) p = true) : ∃ v0 v1 v2 v3, p = (.Call (.Name v0 v1) [v2] [] v3) ∧ (isGlo N v0 "str" && chkE fn N c0 v2 && !isStar v2) = true := by
  replace h : (match vCall p with | some (u1, u2, u3, v3) => (match vName u1 with | some (v0, v1) => (match u2 with | [v2] => (match u3 with | [] => (isGlo N v0 "str" && chkE fn N c0 v2 && !isStar v2) | _ => false) | _ => false) | none => false) | none => false) = true := h
  cases q : vCall p with
  | none => rw [q] at h; exact ff h
  | some z =>
  rw [q] at h
  obtain ⟨u1, u2, u3, v3⟩ := z
  obtain rfl := vCall_eq q
  clear q
  dsimp only at h
  cases q : vName u1 with
  | none => rw [q] at h; exact ff h
  | some z =>
  rw [q] at h
  obtain ⟨v0, v1⟩ := z
  obtain rfl := vName_eq q
  clear q
  dsimp only at h
  cases u2 <;> first | exact ff h | skip
  rename_i v2 u4
  cases u4 <;> first | exact ff h | skip
  try dsimp only at h
  cases u3 <;> first | exact ff h | skip
  exact ⟨_, _, _, _, rfl, h⟩
theorem inv_abs {fn : Nat → Option Str} {N : List (Str × NK)} {p : Expr} {c0} (h : chkE fn N (.abs c0) p = true) : ∃ v0 v1 v2 v3, p = (.Call (.Name v0 v1) [v2] [] v3) ∧ (isGlo N v0 "abs" && chkE fn N c0 v2 && !isStar v2) = true := by
  replace h : (match vCall p with | some (u1, u2, u3, v3) => (match vName u1 with | some (v0, v1) => (match u2 with | [v2] => (match u3 with | [] => (isGlo N v0 "abs" && chkE fn N c0 v2 && !isStar v2) | _ => false) | _ => false) | none => false) | none => false) = true := h
  cases q : vCall p with
  | none => rw [q] at h; exact ff h
  | some z =>
  rw [q] at h
  obtain ⟨u1, u2, u3, v3⟩ := z
  obtain rfl := vCall_eq q
  clear q
  dsimp only at h
  cases q : vName u1 with
  | none => rw [q] at h; exact ff h
  | some z =>
  rw [q] at h
  obtain ⟨v0, v1⟩ := z
  obtain rfl := vName_eq q
  clear q
  dsimp only at h
  cases u2 <;> first | exact ff h | skip
  rename_i v2 u4
  cases u4 <;> first | exact ff h | skip
  try dsimp only at h
  cases u3 <;> first | exact ff h | skip
  exact ⟨_, _, _, _, rfl, h⟩
theorem inv_isVec {fn : Nat → Option Str} {N : List (Str × NK)} {p : Expr} {c0} (h : chkE fn N (.isVec c0) p = true) : ∃ v0 v1 v2 v3 v4 v5, p = (.Call (.Name v0 v1) [v2, (.Name v3 v4)] [] v5) ∧ (isGlo N v0 "isinstance" && isGlo N v3 "Vector" && chkE fn N c0 v2 && !isStar v2) = true := by
  replace h : (match vCall p with | some (u1, u2, u3, v5) => (match vName u1 with | some (v0, v1) => (match u2 with | [v2, u4] => (match vName u4 with | some (v3, v4) => (match u3 with | [] => (isGlo N v0 "isinstance" && isGlo N v3 "Vector" && chkE fn N c0 v2 && !isStar v2) | _ => false) | none => false) | _ => false) | none => false) | none => false) = true := h
  cases q : vCall p with
  | none => rw [q] at h; exact ff h
  | some z =>
  rw [q] at h
  obtain ⟨u1, u2, u3, v5⟩ := z
  obtain rfl := vCall_eq q
  clear q
  dsimp only at h
  cases q : vName u1 with
  | none => rw [q] at h; exact ff h
  | some z =>
  rw [q] at h
  obtain ⟨v0, v1⟩ := z
  obtain rfl := vName_eq q
  clear q
  dsimp only at h
  cases u2 <;> first | exact ff h | skip
  rename_i v2 u5
  cases u5 <;> first | exact ff h | skip
  rename_i u4 u6
  cases u6 <;> first | exact ff h | skip
  try dsimp only at h
  cases q : vName u4 with
  | none => rw [q] at h; exact ff h
  | some z =>
  rw [q] at h
  obtain ⟨v3, v4⟩ := z
  obtain rfl := vName_eq q
  clear q
  dsimp only at h
  cases u3 <;> first | exact ff h | skip
  exact ⟨_, _, _, _, _, _, rfl, h⟩
theorem inv_isList {fn : Nat → Option Str} {N : List (Str × NK)} {p : Expr} {c0} (h : chkE fn N (.isList c0) p = true) : ∃ v0 v1 v2 v3 v4 v5, p = (.Call (.Name v0 v1) [v2, (.Name v3 v4)] [] v5) ∧ (isGlo N v0 "isinstance" && isGlo N v3 "list" && chkE fn N c0 v2 && !isStar v2) = true := by
  replace h : (match vCall p with | some (u1, u2, u3, v5) => (match vName u1 with | some (v0, v1) => (match u2 with | [v2, u4] => (match vName u4 with | some (v3, v4) => (match u3 with | [] => (isGlo N v0 "isinstance" && isGlo N v3 "list" && chkE fn N c0 v2 && !isStar v2) | _ => false) | none => false) | _ => false) | none => false) | none => false) = true := h
  cases q : vCall p with
  | none => rw [q] at h; exact ff h
  | some z =>
  rw [q] at h
  obtain ⟨u1, u2, u3, v5⟩ := z
  obtain rfl := vCall_eq q
  clear q
  dsimp only at h
  cases q : vName u1 with
  | none => rw [q] at h; exact ff h
  | some z =>
  rw [q] at h
  obtain ⟨v0, v1⟩ := z
  obtain rfl := vName_eq q
  clear q
  dsimp only at h
  cases u2 <;> first | exact ff h | skip
  rename_i v2 u5
  cases u5 <;> first | exact ff h | skip
  rename_i u4 u6
  cases u6 <;> first | exact ff h | skip
  try dsimp only at h
  cases q : vName u4 with
  | none => rw [q] at h; exact ff h
  | some z =>
  rw [q] at h
  obtain ⟨v3, v4⟩ := z
  obtain rfl := vName_eq q
  clear q
  dsimp only at h
  cases u3 <;> first | exact ff h | skip
  exact ⟨_, _, _, _, _, _, rfl, h⟩
theorem inv_get {fn : Nat → Option Str} {N : List (Str × NK)} {p : Expr} {c0} {c1} (h : chkE fn N (.get c0 c1) p = true) : ∃ v0 v1 v2 v3 v4, p = (.Call (.Attribute v0 v1 v2) [v3] [] v4) ∧ (v1 == "get" && chkE fn N c0 v0 && plainBase v0 && chkE fn N c1 v3 && !isStar v3 && v2.endLine == v4.line) = true := by
  replace h : (match vCall p with | some (u1, u2, u3, v4) => (match vAttribute u1 with | some (v0, v1, v2) => (match u2 with | [v3] => (match u3 with | [] => (v1 == "get" && chkE fn N c0 v0 && plainBase v0 && chkE fn N c1 v3 && !isStar v3 && v2.endLine == v4.line) | _ => false) | _ => false) | none => false) | none => false) = true := h
  cases q : vCall p with
  | none => rw [q] at h; exact ff h
  | some z =>
  rw [q] at h
  obtain ⟨u1, u2, u3, v4⟩ := z
  obtain rfl := vCall_eq q
  clear q
  dsimp only at h
  cases q : vAttribute u1 with
  | none => rw [q] at h; exact ff h
  | some z =>
  rw [q] at h
  obtain ⟨v0, v1, v2⟩ := z
  obtain rfl := vAttribute_eq q
  clear q
  dsimp only at h
  cases u2 <;> first | exact ff h | skip
  rename_i v3 u4
  cases u4 <;> first | exact ff h | skip
  try dsimp only at h
  cases u3 <;> first | exact ff h | skip
  exact ⟨_, _, _, _, _, rfl, h⟩
theorem inv_attr {fn : Nat → Option Str} {N : List (Str × NK)} {p : Expr} {c0} {c1} (h : chkE fn N (.attr c0 c1) p = true) : ∃ v0 v1 v2, p = (.Attribute v0 v1 v2) ∧ (c1 == v1 && chkE fn N c0 v0 && plainBase v0 && fldNames.contains c1) = true := by
  replace h : (match vAttribute p with | some (v0, v1, v2) => (c1 == v1 && chkE fn N c0 v0 && plainBase v0 && fldNames.contains c1) | none => false) = true := h
  cases q : vAttribute p with
  | none => rw [q] at h; exact ff h
  | some z =>
  rw [q] at h
  obtain ⟨v0, v1, v2⟩ := z
  obtain rfl := vAttribute_eq q
  clear q
  dsimp only at h
  exact ⟨_, _, _, rfl, h⟩
theorem inv_bin {fn : Nat → Option Str} {N : List (Str × NK)} {p : Expr} {c0} {c1} {c2} (h : chkE fn N (.bin c0 c1 c2) p = true) : ∃ v0 v1 v2 v3, p = (.BinOp v0 v1 v2 v3) ∧ (bopIs c0 v1 && chkE fn N c1 v0 && chkE fn N c2 v2) = true := by
  replace h : (match vBinOp p with | some (v0, v1, v2, v3) => (bopIs c0 v1 && chkE fn N c1 v0 && chkE fn N c2 v2) | none => false) = true := h
  cases q : vBinOp p with
  | none => rw [q] at h; exact ff h
  | some z =>
  rw [q] at h
  obtain ⟨v0, v1, v2, v3⟩ := z
  obtain rfl := vBinOp_eq q
  clear q
  dsimp only at h
  exact ⟨_, _, _, _, rfl, h⟩
theorem inv_cat {fn : Nat → Option Str} {N : List (Str × NK)} {p : Expr} {c0} {c1} (h : chkE fn N (.cat c0 c1) p = true) : ∃ v0 v1 v2, p = (.BinOp v0 .Add v1 v2) ∧ (chkE fn N c0 v0 && chkE fn N c1 v1) = true := by
  replace h : (match vBinOp p with | some (v0, u1, v1, v2) => (match u1 with | .Add  => (chkE fn N c0 v0 && chkE fn N c1 v1) | _ => false) | none => false) = true := h
  cases q : vBinOp p with
  | none => rw [q] at h; exact ff h
  | some z =>
  rw [q] at h
  obtain ⟨v0, u1, v1, v2⟩ := z
  obtain rfl := vBinOp_eq q
  clear q
  dsimp only at h
  cases u1 <;> first | exact ff h | skip
  exact ⟨_, _, _, rfl, h⟩
theorem inv_rep {fn : Nat → Option Str} {N : List (Str × NK)} {p : Expr} {c0} {c1} (h : chkE fn N (.rep c0 c1) p = true) : ∃ v0 v1 v2, p = (.BinOp v0 .Mult v1 v2) ∧ (chkE fn N c0 v0 && chkE fn N c1 v1) = true := by
  replace h : (match vBinOp p with | some (v0, u1, v1, v2) => (match u1 with | .Mult  => (chkE fn N c0 v0 && chkE fn N c1 v1) | _ => false) | none => false) = true := h
  cases q : vBinOp p with
  | none => rw [q] at h; exact ff h
  | some z =>
  rw [q] at h
  obtain ⟨v0, u1, v1, v2⟩ := z
  obtain rfl := vBinOp_eq q
  clear q
  dsimp only at h
  cases u1 <;> first | exact ff h | skip
  exact ⟨_, _, _, rfl, h⟩
theorem inv_cmp {fn : Nat → Option Str} {N : List (Str × NK)} {p : Expr} {c0} {c1} {c2} (h : chkE fn N (.cmp c0 c1 c2) p = true) : ∃ v0 v1 v2 v3, p = (.Compare v0 [v1] [v2] v3) ∧ (copIs c0 v1 && chkE fn N c1 v0 && chkE fn N c2 v2 && !isSetD v2) = true := by
  replace h : (match vCompare p with | some (v0, u1, u2, v3) => (match u1 with | [v1] => (match u2 with | [v2] => (copIs c0 v1 && chkE fn N c1 v0 && chkE fn N c2 v2 && !isSetD v2) | _ => false) | _ => false) | none => false) = true := h
  cases q : vCompare p with
  | none => rw [q] at h; exact ff h
  | some z =>
  rw [q] at h
  obtain ⟨v0, u1, u2, v3⟩ := z
  obtain rfl := vCompare_eq q
  clear q
  dsimp only at h
  cases u1 <;> first | exact ff h | skip
  rename_i v1 u3
  cases u3 <;> first | exact ff h | skip
  try dsimp only at h
  cases u2 <;> first | exact ff h | skip
  rename_i v2 u4
  cases u4 <;> first | exact ff h | skip
  exact ⟨_, _, _, _, rfl, h⟩
theorem inv_chain {fn : Nat → Option Str} {N : List (Str × NK)} {p : Expr} {c0} {c1} {c2} {c3} {c4} (h : chkE fn N (.chain c0 c1 c2 c3 c4) p = true) : ∃ v0 v1 v2 v3 v4 v5, p = (.Compare v0 [v1, v2] [v3, v4] v5) ∧ (copIs c0 v1 && copIs c1 v2 && chkE fn N c2 v0 && chkE fn N c3 v3 && chkE fn N c4 v4 && !isSetD v4) = true := by
  replace h : (match vCompare p with | some (v0, u1, u2, v5) => (match u1 with | [v1, v2] => (match u2 with | [v3, v4] => (copIs c0 v1 && copIs c1 v2 && chkE fn N c2 v0 && chkE fn N c3 v3 && chkE fn N c4 v4 && !isSetD v4) | _ => false) | _ => false) | none => false) = true := h
  cases q : vCompare p with
  | none => rw [q] at h; exact ff h
  | some z =>
  rw [q] at h
  obtain ⟨v0, u1, u2, v5⟩ := z
  obtain rfl := vCompare_eq q
  clear q
  dsimp only at h
  cases u1 <;> first | exact ff h | skip
  rename_i v1 u3
  cases u3 <;> first | exact ff h | skip
  rename_i v2 u4
  cases u4 <;> first | exact ff h | skip
  try dsimp only at h
  cases u2 <;> first | exact ff h | skip
  rename_i v3 u5
  cases u5 <;> first | exact ff h | skip
  rename_i v4 u6
  cases u6 <;> first | exact ff h | skip
  exact ⟨_, _, _, _, _, _, rfl, h⟩
theorem inv_and {fn : Nat → Option Str} {N : List (Str × NK)} {p : Expr} {c0} (h : chkE fn N (.and c0) p = true) : ∃ v0 v1, p = (.BoolOp .And v0 v1) ∧ (chkEs fn N c0 v0 && !v0.isEmpty) = true := by
  replace h : (match vBoolOp p with | some (u1, v0, v1) => (match u1 with | .And  => (chkEs fn N c0 v0 && !v0.isEmpty) | _ => false) | none => false) = true := h
  cases q : vBoolOp p with
  | none => rw [q] at h; exact ff h
  | some z =>
  rw [q] at h
  obtain ⟨u1, v0, v1⟩ := z
  obtain rfl := vBoolOp_eq q
  clear q
  dsimp only at h
  cases u1 <;> first | exact ff h | skip
  exact ⟨_, _, rfl, h⟩
theorem inv_or {fn : Nat → Option Str} {N : List (Str × NK)} {p : Expr} {c0} (h : chkE fn N (.or c0) p = true) : ∃ v0 v1, p = (.BoolOp .Or v0 v1) ∧ (chkEs fn N c0 v0 && !v0.isEmpty) = true := by
  replace h : (match vBoolOp p with | some (u1, v0, v1) => (match u1 with | .Or  => (chkEs fn N c0 v0 && !v0.isEmpty) | _ => false) | none => false) = true := h
  cases q : vBoolOp p with
  | none => rw [q] at h; exact ff h
  | some z =>
  rw [q] at h
  obtain ⟨u1, v0, v1⟩ := z
  obtain rfl := vBoolOp_eq q
  clear q
  dsimp only at h
  cases u1 <;> first | exact ff h | skip
  exact ⟨_, _, rfl, h⟩
theorem inv_not {fn : Nat → Option Str} {N : List (Str × NK)} {p : Expr} {c0} (h : chkE fn N (.not c0) p = true) : ∃ v0 v1, p = (.UnaryOp .Not v0 v1) ∧ (chkE fn N c0 v0) = true := by
  replace h : (match vUnaryOp p with | some (u1, v0, v1) => (match u1 with | .Not  => (chkE fn N c0 v0) | _ => false) | none => false) = true := h
  cases q : vUnaryOp p with
  | none => rw [q] at h; exact ff h
  | some z =>
  rw [q] at h
  obtain ⟨u1, v0, v1⟩ := z
  obtain rfl := vUnaryOp_eq q
  clear q
  dsimp only at h
  cases u1 <;> first | exact ff h | skip
  exact ⟨_, _, rfl, h⟩
theorem inv_ife {fn : Nat → Option Str} {N : List (Str × NK)} {p : Expr} {c0} {c1} {c2} (h : chkE fn N (.ife c0 c1 c2) p = true) : ∃ v0 v1 v2 v3, p = (.IfExp v0 v1 v2 v3) ∧ (chkE fn N c0 v0 && chkE fn N c1 v1 && chkE fn N c2 v2) = true := by
  replace h : (match vIfExp p with | some (v0, v1, v2, v3) => (chkE fn N c0 v0 && chkE fn N c1 v1 && chkE fn N c2 v2) | none => false) = true := h
  cases q : vIfExp p with
  | none => rw [q] at h; exact ff h
  | some z =>
  rw [q] at h
  obtain ⟨v0, v1, v2, v3⟩ := z
  obtain rfl := vIfExp_eq q
  clear q
  dsimp only at h
  exact ⟨_, _, _, _, rfl, h⟩
theorem inv_idx {fn : Nat → Option Str} {N : List (Str × NK)} {p : Expr} {c0} {c1} (h : chkE fn N (.idx c0 c1) p = true) : ∃ v0 v1 v2, p = (.Subscript v0 v1 v2) ∧ (chkE fn N c0 v0 && chkE fn N c1 v1 && !isSlice v1) = true := by
  replace h : (match vSubscript p with | some (v0, v1, v2) => (chkE fn N c0 v0 && chkE fn N c1 v1 && !isSlice v1) | none => false) = true := h
  cases q : vSubscript p with
  | none => rw [q] at h; exact ff h
  | some z =>
  rw [q] at h
  obtain ⟨v0, v1, v2⟩ := z
  obtain rfl := vSubscript_eq q
  clear q
  dsimp only at h
  exact ⟨_, _, _, rfl, h⟩
theorem inv_slice {fn : Nat → Option Str} {N : List (Str × NK)} {p : Expr} {c0} {c1} (h : chkE fn N (.slice c0 c1) p = true) : ∃ v0 v1 v2 v3, p = (.Subscript v0 (.Slice (some v1) none none v2) v3) ∧ (isNameE v0 && chkE fn N c0 v0 && chkE fn N c1 v1) = true := by
  replace h : (match vSubscript p with | some (v0, u1, v3) => (match vSlice u1 with | some (u2, u3, u4, v2) => (match u2 with | some v1 => (match u3 with | none  => (match u4 with | none  => (isNameE v0 && chkE fn N c0 v0 && chkE fn N c1 v1) | _ => false) | _ => false) | _ => false) | none => false) | none => false) = true := h
  cases q : vSubscript p with
  | none => rw [q] at h; exact ff h
  | some z =>
  rw [q] at h
  obtain ⟨v0, u1, v3⟩ := z
  obtain rfl := vSubscript_eq q
  clear q
  dsimp only at h
  cases q : vSlice u1 with
  | none => rw [q] at h; exact ff h
  | some z =>
  rw [q] at h
  obtain ⟨u2, u3, u4, v2⟩ := z
  obtain rfl := vSlice_eq q
  clear q
  dsimp only at h
  cases u2 <;> first | exact ff h | skip
  rename_i v1
  try dsimp only at h
  cases u3 <;> first | exact ff h | skip
  try dsimp only at h
  cases u4 <;> first | exact ff h | skip
  exact ⟨_, _, _, _, rfl, h⟩
theorem inv_slice2 {fn : Nat → Option Str} {N : List (Str × NK)} {p : Expr} {c0} {c1} {c2} (h : chkE fn N (.slice2 c0 c1 c2) p = true) : ∃ v0 v1 v2 v3 v4, p = (.Subscript v0 (.Slice (some v1) (some v2) none v3) v4) ∧ (isNameE v0 && chkE fn N c0 v0 && chkE fn N c1 v1 && chkE fn N c2 v2) = true := by
  replace h : (match vSubscript p with | some (v0, u1, v4) => (match vSlice u1 with | some (u2, u3, u4, v3) => (match u2 with | some v1 => (match u3 with | some v2 => (match u4 with | none  => (isNameE v0 && chkE fn N c0 v0 && chkE fn N c1 v1 && chkE fn N c2 v2) | _ => false) | _ => false) | _ => false) | none => false) | none => false) = true := h
  cases q : vSubscript p with
  | none => rw [q] at h; exact ff h
  | some z =>
  rw [q] at h
  obtain ⟨v0, u1, v4⟩ := z
  obtain rfl := vSubscript_eq q
  clear q
  dsimp only at h
  cases q : vSlice u1 with
  | none => rw [q] at h; exact ff h
  | some z =>
  rw [q] at h
  obtain ⟨u2, u3, u4, v3⟩ := z
  obtain rfl := vSlice_eq q
  clear q
  dsimp only at h
  cases u2 <;> first | exact ff h | skip
  rename_i v1
  try dsimp only at h
  cases u3 <;> first | exact ff h | skip
  rename_i v2
  try dsimp only at h
  cases u4 <;> first | exact ff h | skip
  exact ⟨_, _, _, _, _, rfl, h⟩
theorem inv_lst {fn : Nat → Option Str} {N : List (Str × NK)} {p : Expr} {c0} (h : chkE fn N (.lst c0) p = true) : ∃ v0 v1, p = (.List v0 v1) ∧ (chkEs fn N c0 v0) = true := by
  replace h : (match vList p with | some (v0, v1) => (chkEs fn N c0 v0) | none => false) = true := h
  cases q : vList p with
  | none => rw [q] at h; exact ff h
  | some z =>
  rw [q] at h
  obtain ⟨v0, v1⟩ := z
  obtain rfl := vList_eq q
  clear q
  dsimp only at h
  exact ⟨_, _, rfl, h⟩
theorem inv_tup {fn : Nat → Option Str} {N : List (Str × NK)} {p : Expr} {c0} (h : chkE fn N (.tup c0) p = true) : ∃ v0 v1 v2, p = (.Tuple v0 v1 v2) ∧ (chkEs fn N c0 v0) = true := by
  replace h : (match vTuple p with | some (v0, v1, v2) => (chkEs fn N c0 v0) | none => false) = true := h
  cases q : vTuple p with
  | none => rw [q] at h; exact ff h
  | some z =>
  rw [q] at h
  obtain ⟨v0, v1, v2⟩ := z
  obtain rfl := vTuple_eq q
  clear q
  dsimp only at h
  exact ⟨_, _, _, rfl, h⟩
theorem inv_dS {fn : Nat → Option Str} {N : List (Str × NK)} {p : Expr} (h : chkE fn N (.dS) p = true) : ∃ v0, p = (.Dict [] [] v0) ∧ (true) = true := by
  replace h : (match vDict p with | some (u1, u2, v0) => (match u1 with | [] => (match u2 with | [] => (true) | _ => false) | _ => false) | none => false) = true := h
  cases q : vDict p with
  | none => rw [q] at h; exact ff h
  | some z =>
  rw [q] at h
  obtain ⟨u1, u2, v0⟩ := z
  obtain rfl := vDict_eq q
  clear q
  dsimp only at h
  cases u1 <;> first | exact ff h | skip
  try dsimp only at h
  cases u2 <;> first | exact ff h | skip
  exact ⟨_, rfl, h⟩
theorem inv_dI {fn : Nat → Option Str} {N : List (Str × NK)} {p : Expr} (h : chkE fn N (.dI) p = true) : ∃ v0, p = (.Dict [] [] v0) ∧ (true) = true := by
  replace h : (match vDict p with | some (u1, u2, v0) => (match u1 with | [] => (match u2 with | [] => (true) | _ => false) | _ => false) | none => false) = true := h
  cases q : vDict p with
  | none => rw [q] at h; exact ff h
  | some z =>
  rw [q] at h
  obtain ⟨u1, u2, v0⟩ := z
  obtain rfl := vDict_eq q
  clear q
  dsimp only at h
  cases u1 <;> first | exact ff h | skip
  try dsimp only at h
  cases u2 <;> first | exact ff h | skip
  exact ⟨_, rfl, h⟩
theorem inv_comp {fn : Nat → Option Str} {N : List (Str × NK)} {p : Expr} {c0} {c1} {c2} {c3} (h : chkE fn N (.comp c0 c1 c2 c3) p = true) : ∃ v0 v1 v2 v3 v4 v5 v6, p = (.ListComp v0 [⟨(.Name v1 v2), v3, v4, 0⟩] v5 v6) ∧ (scopeOK N v1 v5 && injN (compN N v1 c1 v5.names) && chkSrc fn N c2 v3 && chkEs fn (compN N v1 c1 v5.names) c3 v4 && chkE fn (compN N v1 c1 v5.names) c0 v0) = true := by
  replace h : (match vListComp p with | some (v0, u1, v5, v6) => (match u1 with | [u2] => (match u2 with | ⟨u3, v3, v4, u4⟩ => (match vName u3 with | some (v1, v2) => (match u4 with | 0 => (scopeOK N v1 v5 && injN (compN N v1 c1 v5.names) && chkSrc fn N c2 v3 && chkEs fn (compN N v1 c1 v5.names) c3 v4 && chkE fn (compN N v1 c1 v5.names) c0 v0) | _ => false) | none => false)) | _ => false) | none => false) = true := h
  cases q : vListComp p with
  | none => rw [q] at h; exact ff h
  | some z =>
  rw [q] at h
  obtain ⟨v0, u1, v5, v6⟩ := z
  obtain rfl := vListComp_eq q
  clear q
  dsimp only at h
  cases u1 <;> first | exact ff h | skip
  rename_i u2 u5
  cases u5 <;> first | exact ff h | skip
  try dsimp only at h
  obtain ⟨u3, v3, v4, u4⟩ := u2
  try dsimp only at h
  cases q : vName u3 with
  | none => rw [q] at h; exact ff h
  | some z =>
  rw [q] at h
  obtain ⟨v1, v2⟩ := z
  obtain rfl := vName_eq q
  clear q
  dsimp only at h
  cases u4 <;> first | exact ff h | skip
  rename_i u6
  cases u6 <;> first | exact ff h | skip
  exact ⟨_, _, _, _, _, _, _, rfl, h⟩
theorem inv_dcomp {fn : Nat → Option Str} {N : List (Str × NK)} {p : Expr} {c0} {c1} {c2} {c3} {c4} (h : chkE fn N (.dcomp c0 c1 c2 c3 c4) p = true) : ∃ v0 v1 v2 v3 v4 v5 v6 v7, p = (.DictComp v0 v1 [⟨(.Name v2 v3), v4, v5, 0⟩] v6 v7) ∧ (scopeOK N v2 v6 && injN (compN N v2 c2 v6.names) && chkSrc fn N c3 v4 && chkEs fn (compN N v2 c2 v6.names) c4 v5 && chkE fn (compN N v2 c2 v6.names) c0 v0 && chkE fn (compN N v2 c2 v6.names) c1 v1) = true := by
  replace h : (match vDictComp p with | some (v0, v1, u1, v6, v7) => (match u1 with | [u2] => (match u2 with | ⟨u3, v4, v5, u4⟩ => (match vName u3 with | some (v2, v3) => (match u4 with | 0 => (scopeOK N v2 v6 && injN (compN N v2 c2 v6.names) && chkSrc fn N c3 v4 && chkEs fn (compN N v2 c2 v6.names) c4 v5 && chkE fn (compN N v2 c2 v6.names) c0 v0 && chkE fn (compN N v2 c2 v6.names) c1 v1) | _ => false) | none => false)) | _ => false) | none => false) = true := h
  cases q : vDictComp p with
  | none => rw [q] at h; exact ff h
  | some z =>
  rw [q] at h
  obtain ⟨v0, v1, u1, v6, v7⟩ := z
  obtain rfl := vDictComp_eq q
  clear q
  dsimp only at h
  cases u1 <;> first | exact ff h | skip
  rename_i u2 u5
  cases u5 <;> first | exact ff h | skip
  try dsimp only at h
  obtain ⟨u3, v4, v5, u4⟩ := u2
  try dsimp only at h
  cases q : vName u3 with
  | none => rw [q] at h; exact ff h
  | some z =>
  rw [q] at h
  obtain ⟨v2, v3⟩ := z
  obtain rfl := vName_eq q
  clear q
  dsimp only at h
  cases u4 <;> first | exact ff h | skip
  rename_i u6
  cases u6 <;> first | exact ff h | skip
  exact ⟨_, _, _, _, _, _, _, _, rfl, h⟩
theorem inv_rng {fn : Nat → Option Str} {N : List (Str × NK)} {p : Expr} {c0} (h : chkSrc fn N (.rng c0) p = true) : ∃ v0 v1 v2 v3, p = (.Call (.Name v0 v1) v2 [] v3) ∧ (isGlo N v0 "range" && chkEs fn N c0 v2) = true := by
  replace h : (match vCall p with | some (u1, v2, u2, v3) => (match vName u1 with | some (v0, v1) => (match u2 with | [] => (isGlo N v0 "range" && chkEs fn N c0 v2) | _ => false) | none => false) | none => false) = true := h
  cases q : vCall p with
  | none => rw [q] at h; exact ff h
  | some z =>
  rw [q] at h
  obtain ⟨u1, v2, u2, v3⟩ := z
  obtain rfl := vCall_eq q
  clear q
  dsimp only at h
  cases q : vName u1 with
  | none => rw [q] at h; exact ff h
  | some z =>
  rw [q] at h
  obtain ⟨v0, v1⟩ := z
  obtain rfl := vName_eq q
  clear q
  dsimp only at h
  cases u2 <;> first | exact ff h | skip
  exact ⟨_, _, _, _, rfl, h⟩
theorem ins_asg {fn : Nat → Option Str} {N : List (Str × NK)} {p : Stmt} {c0} {c1} (h : chkS fn N (.asg c0 c1) p = true) : ∃ v0 v1 v2 v3, p = (.Assign [(.Name v0 v1)] v2 v3) ∧ (slotIs N v0 c0 && chkE fn N c1 v2) = true := by
  replace h : (match wAssign p with | some (u1, v2, v3) => (match u1 with | [u2] => (match vName u2 with | some (v0, v1) => (slotIs N v0 c0 && chkE fn N c1 v2) | none => false) | _ => false) | none => false) = true := h
  cases q : wAssign p with
  | none => rw [q] at h; exact ff h
  | some z =>
  rw [q] at h
  obtain ⟨u1, v2, v3⟩ := z
  obtain rfl := wAssign_eq q
  clear q
  dsimp only at h
  cases u1 <;> first | exact ff h | skip
  rename_i u2 u3
  cases u3 <;> first | exact ff h | skip
  try dsimp only at h
  cases q : vName u2 with
  | none => rw [q] at h; exact ff h
  | some z =>
  rw [q] at h
  obtain ⟨v0, v1⟩ := z
  obtain rfl := vName_eq q
  clear q
  dsimp only at h
  exact ⟨_, _, _, _, rfl, h⟩
theorem ins_unpk {fn : Nat → Option Str} {N : List (Str × NK)} {p : Stmt} {c0} {c1} {c2} (h : chkS fn N (.unpk c0 c1 c2) p = true) : ∃ v0 v1 v2 v3 v4 v5 v6 v7, p = (.Assign [(.Tuple [(.Name v0 v1), (.Name v2 v3)] v4 v5)] v6 v7) ∧ (isLoc N v0 c0 && isLoc N v2 c1 && v0 != v2 && chkE fn N c2 v6 && !isTupE v6 && !isCompE v6) = true := by
  replace h : (match wAssign p with | some (u1, v6, v7) => (match u1 with | [u2] => (match vTuple u2 with | some (u3, v4, v5) => (match u3 with | [u4, u5] => (match vName u4 with | some (v0, v1) => (match vName u5 with | some (v2, v3) => (isLoc N v0 c0 && isLoc N v2 c1 && v0 != v2 && chkE fn N c2 v6 && !isTupE v6 && !isCompE v6) | none => false) | none => false) | _ => false) | none => false) | _ => false) | none => false) = true := h
  cases q : wAssign p with
  | none => rw [q] at h; exact ff h
  | some z =>
  rw [q] at h
  obtain ⟨u1, v6, v7⟩ := z
  obtain rfl := wAssign_eq q
  clear q
  dsimp only at h
  cases u1 <;> first | exact ff h | skip
  rename_i u2 u6
  cases u6 <;> first | exact ff h | skip
  try dsimp only at h
  cases q : vTuple u2 with
  | none => rw [q] at h; exact ff h
  | some z =>
  rw [q] at h
  obtain ⟨u3, v4, v5⟩ := z
  obtain rfl := vTuple_eq q
  clear q
  dsimp only at h
  cases u3 <;> first | exact ff h | skip
  rename_i u4 u7
  cases u7 <;> first | exact ff h | skip
  rename_i u5 u8
  cases u8 <;> first | exact ff h | skip
  try dsimp only at h
  cases q : vName u4 with
  | none => rw [q] at h; exact ff h
  | some z =>
  rw [q] at h
  obtain ⟨v0, v1⟩ := z
  obtain rfl := vName_eq q
  clear q
  dsimp only at h
  cases q : vName u5 with
  | none => rw [q] at h; exact ff h
  | some z =>
  rw [q] at h
  obtain ⟨v2, v3⟩ := z
  obtain rfl := vName_eq q
  clear q
  dsimp only at h
  exact ⟨_, _, _, _, _, _, _, _, rfl, h⟩
theorem ins_seta {fn : Nat → Option Str} {N : List (Str × NK)} {p : Stmt} {c0} {c1} {c2} (h : chkS fn N (.seta c0 c1 c2) p = true) : ∃ v0 v1 v2 v3 v4, p = (.Assign [(.Attribute v0 v1 v2)] v3 v4) ∧ (c1 == v1 && chkE fn N c0 v0 && chkE fn N c2 v3 && !isCompE v3 && fldNames.contains c1) = true := by
  replace h : (match wAssign p with | some (u1, v3, v4) => (match u1 with | [u2] => (match vAttribute u2 with | some (v0, v1, v2) => (c1 == v1 && chkE fn N c0 v0 && chkE fn N c2 v3 && !isCompE v3 && fldNames.contains c1) | none => false) | _ => false) | none => false) = true := h
  cases q : wAssign p with
  | none => rw [q] at h; exact ff h
  | some z =>
  rw [q] at h
  obtain ⟨u1, v3, v4⟩ := z
  obtain rfl := wAssign_eq q
  clear q
  dsimp only at h
  cases u1 <;> first | exact ff h | skip
  rename_i u2 u3
  cases u3 <;> first | exact ff h | skip
  try dsimp only at h
  cases q : vAttribute u2 with
  | none => rw [q] at h; exact ff h
  | some z =>
  rw [q] at h
  obtain ⟨v0, v1, v2⟩ := z
  obtain rfl := vAttribute_eq q
  clear q
  dsimp only at h
  exact ⟨_, _, _, _, _, rfl, h⟩
theorem ins_seti {fn : Nat → Option Str} {N : List (Str × NK)} {p : Stmt} {c0} {c1} {c2} (h : chkS fn N (.seti c0 c1 c2) p = true) : ∃ v0 v1 v2 v3 v4, p = (.Assign [(.Subscript v0 v1 v2)] v3 v4) ∧ (chkE fn N c0 v0 && chkE fn N c1 v1 && chkE fn N c2 v3 && !isCompE v3 && !isSlice v1) = true := by
  replace h : (match wAssign p with | some (u1, v3, v4) => (match u1 with | [u2] => (match vSubscript u2 with | some (v0, v1, v2) => (chkE fn N c0 v0 && chkE fn N c1 v1 && chkE fn N c2 v3 && !isCompE v3 && !isSlice v1) | none => false) | _ => false) | none => false) = true := h
  cases q : wAssign p with
  | none => rw [q] at h; exact ff h
  | some z =>
  rw [q] at h
  obtain ⟨u1, v3, v4⟩ := z
  obtain rfl := wAssign_eq q
  clear q
  dsimp only at h
  cases u1 <;> first | exact ff h | skip
  rename_i u2 u3
  cases u3 <;> first | exact ff h | skip
  try dsimp only at h
  cases q : vSubscript u2 with
  | none => rw [q] at h; exact ff h
  | some z =>
  rw [q] at h
  obtain ⟨v0, v1, v2⟩ := z
  obtain rfl := vSubscript_eq q
  clear q
  dsimp only at h
  exact ⟨_, _, _, _, _, rfl, h⟩
theorem ins_aug {fn : Nat → Option Str} {N : List (Str × NK)} {p : Stmt} {c0} {c1} {c2} (h : chkS fn N (.aug c0 c1 c2) p = true) : ∃ v0 v1 v2 v3 v4, p = (.AugAssign (.Name v0 v1) v2 v3 v4) ∧ (slotIs N v0 c0 && bopIs c1 v2 && chkE fn N c2 v3 && (c1 == .add || c1 == .sub)) = true := by
  replace h : (match wAugAssign p with | some (u1, v2, v3, v4) => (match vName u1 with | some (v0, v1) => (slotIs N v0 c0 && bopIs c1 v2 && chkE fn N c2 v3 && (c1 == .add || c1 == .sub)) | none => false) | none => false) = true := h
  cases q : wAugAssign p with
  | none => rw [q] at h; exact ff h
  | some z =>
  rw [q] at h
  obtain ⟨u1, v2, v3, v4⟩ := z
  obtain rfl := wAugAssign_eq q
  clear q
  dsimp only at h
  cases q : vName u1 with
  | none => rw [q] at h; exact ff h
  | some z =>
  rw [q] at h
  obtain ⟨v0, v1⟩ := z
  obtain rfl := vName_eq q
  clear q
  dsimp only at h
  exact ⟨_, _, _, _, _, rfl, h⟩
theorem ins_ifs {fn : Nat → Option Str} {N : List (Str × NK)} {p : Stmt} {c0} {c1} {c2} (h : chkS fn N (.ifs c0 c1 c2) p = true) : ∃ v0 v1 v2 v3, p = (.If v0 v1 v2 v3) ∧ (chkE fn N c0 v0 && chkSs fn N c1 v1 && chkSs fn N c2 v2) = true := by
  replace h : (match wIf p with | some (v0, v1, v2, v3) => (chkE fn N c0 v0 && chkSs fn N c1 v1 && chkSs fn N c2 v2) | none => false) = true := h
  cases q : wIf p with
  | none => rw [q] at h; exact ff h
  | some z =>
  rw [q] at h
  obtain ⟨v0, v1, v2, v3⟩ := z
  obtain rfl := wIf_eq q
  clear q
  dsimp only at h
  exact ⟨_, _, _, _, rfl, h⟩
theorem ins_forr {fn : Nat → Option Str} {N : List (Str × NK)} {p : Stmt} {c0} {c1} {c2} (h : chkS fn N (.forr c0 c1 c2) p = true) : ∃ v0 v1 v2 v3 v4, p = (.For (.Name v0 v1) v2 v3 [] v4) ∧ (isLoc N v0 c0 && chkSrc fn N c1 v2 && chkSs fn N c2 v3) = true := by
  replace h : (match wFor p with | some (u1, v2, v3, u2, v4) => (match vName u1 with | some (v0, v1) => (match u2 with | [] => (isLoc N v0 c0 && chkSrc fn N c1 v2 && chkSs fn N c2 v3) | _ => false) | none => false) | none => false) = true := h
  cases q : wFor p with
  | none => rw [q] at h; exact ff h
  | some z =>
  rw [q] at h
  obtain ⟨u1, v2, v3, u2, v4⟩ := z
  obtain rfl := wFor_eq q
  clear q
  dsimp only at h
  cases q : vName u1 with
  | none => rw [q] at h; exact ff h
  | some z =>
  rw [q] at h
  obtain ⟨v0, v1⟩ := z
  obtain rfl := vName_eq q
  clear q
  dsimp only at h
  cases u2 <;> first | exact ff h | skip
  exact ⟨_, _, _, _, _, rfl, h⟩
theorem ins_whil {fn : Nat → Option Str} {N : List (Str × NK)} {p : Stmt} {c0} {c1} (h : chkS fn N (.whil c0 c1) p = true) : ∃ v0 v1 v2, p = (.While v0 v1 [] v2) ∧ (chkE fn N c0 v0 && chkSs fn N c1 v1) = true := by
  replace h : (match wWhile p with | some (v0, v1, u1, v2) => (match u1 with | [] => (chkE fn N c0 v0 && chkSs fn N c1 v1) | _ => false) | none => false) = true := h
  cases q : wWhile p with
  | none => rw [q] at h; exact ff h
  | some z =>
  rw [q] at h
  obtain ⟨v0, v1, u1, v2⟩ := z
  obtain rfl := wWhile_eq q
  clear q
  dsimp only at h
  cases u1 <;> first | exact ff h | skip
  exact ⟨_, _, _, rfl, h⟩
theorem ins_ret {fn : Nat → Option Str} {N : List (Str × NK)} {p : Stmt} {c0} (h : chkS fn N (.ret c0) p = true) : ∃ v0 v1, p = (.Return (some v0) v1) ∧ (chkE fn N c0 v0) = true := by
  replace h : (match wReturn p with | some (u1, v1) => (match u1 with | some v0 => (chkE fn N c0 v0) | _ => false) | none => false) = true := h
  cases q : wReturn p with
  | none => rw [q] at h; exact ff h
  | some z =>
  rw [q] at h
  obtain ⟨u1, v1⟩ := z
  obtain rfl := wReturn_eq q
  clear q
  dsimp only at h
  cases u1 <;> first | exact ff h | skip
  rename_i v0
  exact ⟨_, _, rfl, h⟩
theorem ins_app {fn : Nat → Option Str} {N : List (Str × NK)} {p : Stmt} {c0} {c1} (h : chkS fn N (.app c0 c1) p = true) : ∃ v0 v1 v2 v3 v4 v5, p = (.Expr (.Call (.Attribute v0 v1 v2) [v3] [] v4) v5) ∧ (v1 == "append" && chkE fn N c0 v0 && plainBase v0 && chkE fn N c1 v3 && !isStar v3 && v2.endLine == v4.line) = true := by
  replace h : (match wExpr p with | some (u1, v5) => (match vCall u1 with | some (u2, u3, u4, v4) => (match vAttribute u2 with | some (v0, v1, v2) => (match u3 with | [v3] => (match u4 with | [] => (v1 == "append" && chkE fn N c0 v0 && plainBase v0 && chkE fn N c1 v3 && !isStar v3 && v2.endLine == v4.line) | _ => false) | _ => false) | none => false) | none => false) | none => false) = true := h
  cases q : wExpr p with
  | none => rw [q] at h; exact ff h
  | some z =>
  rw [q] at h
  obtain ⟨u1, v5⟩ := z
  obtain rfl := wExpr_eq q
  clear q
  dsimp only at h
  cases q : vCall u1 with
  | none => rw [q] at h; exact ff h
  | some z =>
  rw [q] at h
  obtain ⟨u2, u3, u4, v4⟩ := z
  obtain rfl := vCall_eq q
  clear q
  dsimp only at h
  cases q : vAttribute u2 with
  | none => rw [q] at h; exact ff h
  | some z =>
  rw [q] at h
  obtain ⟨v0, v1, v2⟩ := z
  obtain rfl := vAttribute_eq q
  clear q
  dsimp only at h
  cases u3 <;> first | exact ff h | skip
  rename_i v3 u5
  cases u5 <;> first | exact ff h | skip
  try dsimp only at h
  cases u4 <;> first | exact ff h | skip
  exact ⟨_, _, _, _, _, _, rfl, h⟩
theorem ins_ex {fn : Nat → Option Str} {N : List (Str × NK)} {p : Stmt} {c0} (h : chkS fn N (.ex c0) p = true) : ∃ v0 v1, p = (.Expr v0 v1) ∧ (chkE fn N c0 v0 && !isCompE v0) = true := by
  replace h : (match wExpr p with | some (v0, v1) => (chkE fn N c0 v0 && !isCompE v0) | none => false) = true := h
  cases q : wExpr p with
  | none => rw [q] at h; exact ff h
  | some z =>
  rw [q] at h
  obtain ⟨v0, v1⟩ := z
  obtain rfl := wExpr_eq q
  clear q
  dsimp only at h
  exact ⟨_, _, rfl, h⟩

structure FunAt (D : Wd) (fn : Nat → Option Str) (c : CFun) (a : Nat) : Prop where
  fd : ∃ o name qual params body scope dV kV doc pm an cdv ct, D.h0.get? a = some o ∧ o.data = .func (PySem.W.fnOf name qual params body scope dV kV doc pm an cdv ct) ∧ D.h0.CodeRec cdv qual ∧ chkF fn c params body scope = true
    ∧ params.posonlyargs = [] ∧ params.vararg.isNone = true ∧ params.kwonlyargs = [] ∧ params.kwarg.isNone = true
    ∧ (∀ (vs : List Value) (s : Shared), (∀ b o, D.h0.get? b = some o → s.heap.get? b = some o) → vs.length ≤ c.np → c.np ≤ vs.length + c.dfl.length →
        ∃ ws, EL ws (c.dfl.drop (vs.length + c.dfl.length - c.np)) ∧ BindsTo s (PySem.W.fnOf name qual params body scope dV kV doc pm an cdv ct) ⟨vs, []⟩ ((params.args.map (·.arg)).zip (vs ++ ws)))

structure GlOK (D : Wd) (P : Nat → Option CFun) (ini : Nat) (ad : Nat → Nat) (fn : Nat → Option Str) : Prop where
  T : TopRead D.p D.loose D.mg D.mb D.h0
  X : D.K.In D.h0
  fns : ∀ i c, P i = some c → FunAt D fn c (ad i)
  names : ∀ i n, fn i = some n → D.mg n = some (.ref (ad i)) ∧ (∃ c, P i = some c) ∧ ∃ o fd, D.h0.get? (ad i) = some o ∧ o.data = .func fd
  blt : ∀ n ∈ ([("len" : Str), "list", "str", "abs", "isinstance", "range"] : List Str), D.mg n = none
  vec : D.mg "Vector" = some (.ref D.C)
  makes : PySem.W.makesIn D.K D.C = true
  keep : PySem.W.keepIn D.K (.ref D.C) = true
  init : PySem.W.findIn D.K (.ref D.C) "__init__" = some (some (.ref (ad ini)))
  isfn : PySem.W.typeIn D.K (.ref (ad ini)) = some (.type "function")
  inip : ∃ c, P ini = some c
  sys : ∃ o, D.h0.get? sysModules = some o
  pg : ∀ n, PySem.W.plainGet D.K D.C n = true
  hdi : PySem.W.hasDictIn D.K D.C = true
  fld : ∀ n ∈ fldNames, PySem.W.findIn D.K (.ref D.C) n = some none
  sa : PySem.W.findIn D.K (.ref D.C) "__setattr__" = some (some (.builtin "object.__setattr__"))
  po : PySem.W.plainOver D.K D.C = true
  tk : ∀ n ∈ fldNames, PySem.W.takerIn D.K D.C n = some none
  hiC : PySem.W.isIn D.K (.ref D.C) D.C = true

noncomputable def GSound (D : Wd) (ad : Nat → Nat) (P : Nat → Option CFun) (Γ : GT) (d : Nat) : Prop :=
  ∀ i c, P i = some c → ∀ (A : Around) (s : Shared) (H : PH) (vs : List Value) (pvs : List PV) (Q : PV → PH → Prop), Room A d → Inv D s.heap H → EL vs pvs → Γ i pvs H Q →
    codeAny (model D.prog D.w) A (.call (.ref (ad i)) ⟨vs, []⟩) (fun r s' => match r with | .ok (.ret v) => Ex D s H Q v s' | _ => False) s

end Mine
end

section
set_option maxRecDepth 100000
set_option Elab.async false
set_option linter.unusedVariables false
set_option linter.unusedSimpArgs false
open PySem PySem.Calls PySem.Spec
namespace Mine
open PySem.W (Frag TopRead instObj dictOf getL putL putN)

theorem er_none {v : Value} (h : er v = some .none) : v = .none := by cases v <;> simp [er] at h <;> rfl
theorem er_bool {v : Value} {b : Bool} (h : er v = some (.bool b)) : v = .bool b := by cases v <;> simp [er] at h; rw [h]
theorem er_int {v : Value} {i : Int} (h : er v = some (.int i)) : ∃ t, v = .int i t := by cases v <;> simp [er] at h; exact ⟨_, by rw [h]⟩
theorem er_str {v : Value} {x : Str} (h : er v = some (.str x)) : ∃ t, v = .str x t := by cases v <;> simp [er] at h; exact ⟨_, by rw [h]⟩
theorem er_ref {v : Value} {a : Nat} (h : er v = some (.ref a)) : v = .ref a := by cases v <;> simp [er] at h; rw [h]

theorem EL.length {vs : List Value} {xs : List PV} (h : EL vs xs) : vs.length = xs.length := by
  have := congrArg List.length h; simpa using this
theorem EL.get {vs : List Value} {xs : List PV} (h : EL vs xs) {i : Nat} {p : PV} (e : xs[i]? = some p) : ∃ v, vs[i]? = some v ∧ er v = some p := by
  have := congrArg (·[i]?) h
  simp only [List.getElem?_map, e, Option.map_some] at this
  cases q : vs[i]? with
  | none => rw [q] at this; cases this
  | some v => rw [q] at this; exact ⟨v, rfl, Option.some.inj this⟩
theorem EL.append {vs vs' : List Value} {xs xs' : List PV} (h : EL vs xs) (h' : EL vs' xs') : EL (vs ++ vs') (xs ++ xs') := by
  show List.map _ _ = List.map _ _
  rw [List.map_append, List.map_append, h, h']
theorem EL.drop {vs : List Value} {xs : List PV} (h : EL vs xs) (n : Nat) : EL (vs.drop n) (xs.drop n) := by
  show List.map _ _ = List.map _ _
  rw [List.map_drop, List.map_drop, h]
theorem EL.take {vs : List Value} {xs : List PV} (h : EL vs xs) (n : Nat) : EL (vs.take n) (xs.take n) := by
  show List.map _ _ = List.map _ _
  rw [List.map_take, List.map_take, h]
theorem EL.nil {vs : List Value} (h : EL vs []) : vs = [] := by cases vs with | nil => rfl | cons _ _ => cases h
theorem EL.cons {vs : List Value} {x : PV} {xs : List PV} (h : EL vs (x :: xs)) : ∃ v vs', vs = v :: vs' ∧ er v = some x ∧ EL vs' xs := by
  cases vs with
  | nil => cases h
  | cons v vs' =>
    simp only [EL, List.map_cons, List.cons.injEq] at h
    exact ⟨v, vs', rfl, h.1, h.2⟩

section
variable {D : Wd} {P : Nat → Option CFun} {ini : Nat} {ad : Nat → Nat} {fn : Nat → Option Str} {Γ : GT} {d : Nat} {A : Around}

/-- an expression's soundness -/
noncomputable def SE (D : Wd) (fn : Nat → Option Str) (Γ : GT) (ini : Nat) (A : Around) (e : CE) : Prop :=
  ∀ (env : Env) (N : List (Str × NK)) (p : Expr) (σ : Sg) (s : Shared) (H : PH) (Q : PV → PH → Prop), chkE fn N e p = true → EnvOK env N → FrOK D env N σ s.heap H → Inv D s.heap H → WE Γ ini e σ H Q →
    wpAny (model D.prog D.w) A (eval p env) (Ex D s H Q) Nope s
noncomputable def Exs (D : Wd) (s : Shared) (H : PH) (Q : List PV → PH → Prop) (vs : List Value) (s' : Shared) : Prop := ∃ pvs H', EL vs pvs ∧ Step D noOwn s s' H H' ∧ Q pvs H'
noncomputable def SEs (D : Wd) (fn : Nat → Option Str) (Γ : GT) (ini : Nat) (A : Around) (as : CEs) : Prop :=
  ∀ (env : Env) (N : List (Str × NK)) (ps : List Expr) (σ : Sg) (s : Shared) (H : PH) (Q : List PV → PH → Prop) (pos : Pos), chkEs fn N as ps = true → EnvOK env N → FrOK D env N σ s.heap H → Inv D s.heap H → WEs Γ ini as σ H Q →
    wpAny (model D.prog D.w) A (spliced (backTo pos (starEach ps env))) (Exs D s H Q) Nope s

theorem optW_some {α : Type} {o : Option α} {Q : α → Prop} (h : optW o Q) : ∃ a, o = some a ∧ Q a := by
  cases o with
  | none => exact h.elim
  | some a => exact ⟨a, rfl, h⟩

/-- one more evaluation -/
theorem SE.seq {e : CE} (h : SE D fn Γ ini A e) {env : Env} {N : List (Str × NK)} {p : Expr} {σ : Sg} {s : Shared} {H : PH} {R : Value → Shared → Prop} {Q : PV → PH → Prop} (hc : chkE fn N e p = true) (hE : EnvOK env N) (hF : FrOK D env N σ s.heap H)
    (hI : Inv D s.heap H) (hw : WE Γ ini e σ H Q) (k : ∀ v s1 pv H1, er v = some pv → Step D noOwn s s1 H H1 → FrOK D env N σ s1.heap H1 → Inv D s1.heap H1 → Q pv H1 → R v s1) : wpAny (model D.prog D.w) A (eval p env) R Nope s :=
  wpAny_mono (h env N p σ s H Q hc hE hF hI hw) (fun v s1 x => let ⟨pv, H1, e, st, q⟩ := x; k v s1 pv H1 e st (hF.step st) st.inv q) fun _ _ x => x
theorem SEs.seq {as : CEs} (h : SEs D fn Γ ini A as) {env : Env} {N : List (Str × NK)} {ps : List Expr} {σ : Sg} {s : Shared} {H : PH} {R : List Value → Shared → Prop} {Q : List PV → PH → Prop} {pos : Pos} (hc : chkEs fn N as ps = true) (hE : EnvOK env N) (hF : FrOK D env N σ s.heap H)
    (hI : Inv D s.heap H) (hw : WEs Γ ini as σ H Q) (k : ∀ vs s1 pvs H1, EL vs pvs → Step D noOwn s s1 H H1 → FrOK D env N σ s1.heap H1 → Inv D s1.heap H1 → Q pvs H1 → R vs s1) : wpAny (model D.prog D.w) A (spliced (backTo pos (starEach ps env))) R Nope s :=
  wpAny_mono (h env N ps σ s H Q pos hc hE hF hI hw) (fun v s1 x => let ⟨pv, H1, e, st, q⟩ := x; k v s1 pv H1 e st (hF.step st) st.inv q) fun _ _ x => x

theorem not_dbg {x : Str} (h : (!(x == dbg)) = true) : (x == ("__debug__" : Str)) = false := by simpa [dbg] using h
theorem dbg_of {N : List (Str × NK)} {x n : Str} (h : isGlo N x n = true) : N.lookup x = some .glo ∧ x = n ∧ (x == ("__debug__" : Str)) = false := by
  unfold isGlo at h
  simp only [Bool.and_eq_true, beq_iff_eq] at h
  exact ⟨h.1.2, h.1.1, not_dbg h.2⟩

theorem name_glo {M : Model} {E : Value → Shared → Prop} {env : Env} {N : List (Str × NK)} {s : Shared} {H : PH} {x n : Str} {v : Value} {pos : Pos} {Q : Value → Shared → Prop} (hG : GlOK D P ini ad fn) (hE : EnvOK env N) (hI : Inv D s.heap H) (hx : isGlo N x n = true)
    (hv : D.mg n = some v) (h : Q v s) : wpAny M A (eval (.Name x pos) env) Q E s := by
  obtain ⟨h1, rfl, h3⟩ := dbg_of hx
  exact Name_function_global hE.fn (hE.glo x h1) (loadGlobal_global (env := env) (by rw [hE.glob]; exact hG.T.g.keeps hI.base) hv h) h3
theorem name_blt {M : Model} {E : Value → Shared → Prop} {env : Env} {N : List (Str × NK)} {s : Shared} {H : PH} {x n : Str} {v : Value} {pos : Pos} {Q : Value → Shared → Prop} (hG : GlOK D P ini ad fn) (hE : EnvOK env N) (hI : Inv D s.heap H) (hx : isGlo N x n = true)
    (hn : D.mg n = none) (hv : bootBuiltins n = some v) (hne : n ≠ "__name__") (h : Q v s) : wpAny M A (eval (.Name x pos) env) Q E s := by
  obtain ⟨h1, rfl, h3⟩ := dbg_of hx
  exact Name_function_global hE.fn (hE.glo x h1) (loadGlobal_builtin (env := env) (by rw [hE.glob]; exact hG.T.g.keeps hI.base) hn (by rw [hE.blt]; exact hG.T.b.keeps hI.base) ((hG.T.builtins x hne).trans hv) h) h3

theorem starEach_cons {p : Expr} {ps : List Expr} {env : Env} (h : isStar p = false) : starEach (p :: ps) env = (false, eval p env) :: starEach ps env := by
  cases p <;> first | rfl | exact tf h

/-! the easy ones -/
theorem se_non : SE D fn Γ ini A .non := by
  intro env N p σ s H Q hc hE hF hI hw
  cases p with
  | Constant c k pos =>
    cases c <;> (try (exact ff hc))
    exact wpAny_Constant_none ⟨.none, H, rfl, .refl hI, hw⟩
  | _ => exact ff hc
theorem se_bool {b : Bool} : SE D fn Γ ini A (.bool b) := by
  intro env N p σ s H Q hc hE hF hI hw
  cases p with
  | Constant c k pos =>
    cases c <;> (try (exact ff hc))
    rename_i c
    have hc : (b == c) = true := hc
    simp only [beq_iff_eq] at hc
    subst hc
    exact wpAny_Constant_bool ⟨.bool _, H, rfl, .refl hI, hw⟩
  | _ => exact ff hc
theorem se_str {b : Str} : SE D fn Γ ini A (.str b) := by
  intro env N p σ s H Q hc hE hF hI hw
  cases p with
  | Constant c k pos =>
    cases c <;> (try (exact ff hc))
    rename_i c
    have hc : (b == c) = true := hc
    simp only [beq_iff_eq] at hc
    subst hc
    exact wpAny_Constant_str ⟨.str _, H, rfl, .toks hI, hw⟩
  | _ => exact ff hc
end
end Mine
end

section
set_option maxRecDepth 100000
set_option Elab.async false
set_option linter.unusedVariables false
set_option linter.unusedSimpArgs false
open PySem PySem.Calls PySem.Spec
namespace Mine
open PySem.W (Frag TopRead instObj dictOf getL putL putN)

noncomputable def plainPs : List Expr → Bool
  | [] => true
  | p :: ps => !isStar p && plainPs ps
theorem chkEs_plain {fn : Nat → Option Str} {N : List (Str × NK)} : ∀ {as : CEs} {ps : List Expr}, chkEs fn N as ps = true → plainPs ps = true
  | .nil, [], _ => rfl
  | .cons e r, p :: ps, h => by
    simp only [chkEs, Bool.and_eq_true] at h
    simp only [plainPs, Bool.and_eq_true]
    exact ⟨h.1.2, chkEs_plain h.2⟩
  | .nil, _ :: _, h => ff h
  | .cons _ _, [], h => ff h

section
variable {M : Model} {A : Around} {E : Value → Shared → Prop} {s : Shared} {env : Env} {pos : Pos}
theorem plain_any : ∀ {ps : List Expr}, plainPs ps = true → (backTo pos (starEach ps env)).any (·.1) = false
  | [], _ => rfl
  | p :: ps, h => by
    simp only [plainPs, Bool.and_eq_true, Bool.not_eq_true'] at h
    rw [starEach_cons h.1]
    show (false || (backTo pos (starEach ps env)).any (·.1)) = false
    rw [plain_any h.2]; rfl
theorem evalArgs_ps {f : Value} {ps : List Expr} {Q : Args → Shared → Prop} (hp : plainPs ps = true) (h : wpAny M A (spliced (backTo pos (starEach ps env))) (fun vs s' => Q ⟨vs, []⟩ s') E s) :
    wpAny M A (evalArgs f true (backTo pos (starEach ps env)) []) Q E s := by
  cases ps with
  | nil => 
    unfold evalArgs
    show wpAny M A (spliced [] >>= _) Q E s
    refine wpAny_bind (wpAny_mono h (fun vs s' h' => ?_) fun _ _ x => x)
    refine wpAny_holding ?_
    exact wpAny_bind (wpAny_pure (wpAny_bind (wpAny_pure (wpAny_pure h'))))
  | cons p ps =>
    simp only [plainPs, Bool.and_eq_true, Bool.not_eq_true'] at hp
    rw [starEach_cons hp.1] at h ⊢
    exact evalArgs_plain h
theorem call_blt {id : String} {ps : List Expr} {Q : Value → Shared → Prop} (hp : plainPs ps = true) (h : wpAny M A (spliced (backTo pos (starEach ps env))) (fun vs s' => wpAny M A (call (.builtin id) vs) Q E s') E s) :
    wpAny M A (callWith pos (.builtin id) [] (backTo pos (starEach ps env)) []) Q E s :=
  callWith_builtin (plain_any hp) (evalArgs_ps hp h)
theorem call_typ {T : String} {ps : List Expr} {Q : Value → Shared → Prop} (hp : plainPs ps = true) (h : wpAny M A (spliced (backTo pos (starEach ps env))) (fun vs s' => wpAny M A (call (.type T) vs) Q E s') E s) :
    wpAny M A (callWith pos (.type T) [] (backTo pos (starEach ps env)) []) Q E s :=
  callWith_type (plain_any hp) (evalArgs_ps hp h)
theorem call_fun {a : Addr} {o : Obj} {fd : FuncData} {ps : List Expr} {Q : Value → Shared → Prop} (hp : plainPs ps = true) (hd : o.data = .func fd)
    (h : wpAny M A (spliced (backTo pos (starEach ps env))) (fun vs s' => s'.heap.get? a = some o ∧ wpAny M A (call (.ref a) vs) Q E s') E s) :
    wpAny M A (callWith pos (.ref a) [] (backTo pos (starEach ps env)) []) Q E s :=
  callWith_function (fd := fd) (evalArgs_ps hp (wpAny_mono h (fun vs s' x => ⟨⟨x.1, hd⟩, x.2⟩) fun _ _ x => x))
theorem spliced1 {p : Expr} {Q : List Value → Shared → Prop} (hp : isStar p = false) (h : wpAny M A (eval p env) (fun v s' => Q [v] s') E s) : wpAny M A (spliced (backTo pos (starEach [p] env))) Q E s := by
  refine wpAny_items_cons (wpAny_mono h (fun v s' x => wpAny_items_nil x) fun _ _ x => x) (starEach_cons hp)
theorem spliced2 {p q : Expr} {Q : List Value → Shared → Prop} (hp : isStar p = false) (hq : isStar q = false) (h : wpAny M A (eval p env) (fun v s' => wpAny M A (eval q env) (fun u s'' => Q [v, u] s'') E s') E s) : wpAny M A (spliced (backTo pos (starEach [p, q] env))) Q E s := by
  refine wpAny_items_cons (wpAny_mono h (fun v s' x => wpAny_items_cons (wpAny_mono x (fun u s'' y => wpAny_items_nil y) fun _ _ x => x) (starEach_cons hq)) fun _ _ x => x) (starEach_cons hp)
theorem call_arm {x : Str} {px : Pos} {ps : List Expr} {Q : Value → Shared → Prop} (h : wpAny M A (eval (.Name x px) env) (fun f s' => wpAny M A (callWith pos f [] (backTo pos (starEach ps env)) []) Q E s') E s) :
    wpAny M A (eval (.Call (.Name x px) ps [] pos) env) Q E s := wpAny_bind h
end

theorem boot_range' : bootBuiltins "range" = some (.type "range") := by decide +kernel
section
variable {D : Wd} {P : Nat → Option CFun} {ini : Nat} {ad : Nat → Nat} {fn : Nat → Option Str} {Γ : GT} {d : Nat} {A : Around}

theorem Room.units {A : Around} {d : Nat} (h : Room A d) : A.units < cLine := by have := h.un; omega

theorem se_int {i : Int} : SE D fn Γ ini A (.int i) := by
  intro env N p σ s H Q hc hE hF hI hw
  cases p with
  | Constant c k pos =>
    cases c <;> (try (exact ff hc))
    rename_i j
    have hc : (i == j) = true := hc
    simp only [beq_iff_eq] at hc
    subst hc
    exact wpAny_Constant_int ⟨.int _, H, rfl, .toks hI, hw⟩
  | UnaryOp op x pos =>
    cases op <;> (try (exact ff hc))
    cases x <;> (try (exact ff hc))
    rename_i c k p2
    cases c <;> (try (exact ff hc))
    rename_i j
    have hc : (i == -j) = true := hc
    simp only [beq_iff_eq] at hc
    subst hc
    exact wpAny_UnaryOp (wpAny_Constant_int (PyProof.Rows.neg_int ⟨.int _, H, rfl, .toks hI, hw⟩))
  | _ => exact ff hc

theorem se_var {i : Nat} : SE D fn Γ ini A (.var i) := by
  intro env N p σ s H Q hc hE hF hI hw
  cases p with
  | Name x pos =>
    have hc : ((N.lookup x).bind nkSlot == some i && !(x == dbg)) = true := hc
    simp only [Bool.and_eq_true, beq_iff_eq] at hc
    obtain ⟨pv, hg, hq⟩ := optW_some hw
    have fin : ∀ v, er v = some pv → Ex D s H Q v s := fun v e => ⟨pv, H, e, .refl hI, hq⟩
    cases hl : N.lookup x with
    | none => rw [hl] at hc; simp at hc
    | some k =>
      rw [hl] at hc
      cases k with
      | loc j =>
        obtain rfl : j = i := by simpa [nkSlot] using hc.1
        obtain ⟨m, hn, hm⟩ := hF.ns
        obtain ⟨v, hv, e⟩ := hm x j hl pv hg
        exact wpAny_Name (wpAny_loadName_local hE.fn (hE.loc x j hl) hn hv (fin v e)) (not_dbg hc.2)
      | cel j =>
        obtain rfl : j = i := by simpa [nkSlot] using hc.1
        obtain ⟨hk, c, hcl⟩ := hE.cel x j hl
        obtain ⟨v, hv, e⟩ := (hF.cl x j c hl hcl).2 pv hg
        exact wpAny_Name (wpAny_loadName_cell hE.fn hk hcl hv (fin v e)) (not_dbg hc.2)
      | glo => simp [nkSlot] at hc
  | _ => exact ff hc

theorem ses_nil : SEs D fn Γ ini A .nil := by
  intro env N ps σ s H Q pos hc hE hF hI hw
  cases ps with
  | nil => exact wpAny_items_nil ⟨[], H, rfl, .refl hI, hw⟩
  | cons _ _ => exact ff hc
theorem ses_cons {e : CE} {r : CEs} (he : SE D fn Γ ini A e) (hr : SEs D fn Γ ini A r) : SEs D fn Γ ini A (.cons e r) := by
  intro env N ps σ s H Q pos hc hE hF hI hw
  cases ps with
  | nil => exact ff hc
  | cons p ps =>
    simp only [chkEs, Bool.and_eq_true, Bool.not_eq_true'] at hc
    refine wpAny_items_cons (he.seq hc.1.1 hE hF hI hw fun v s1 pv H1 e1 st1 F1 I1 q1 => ?_) (starEach_cons hc.1.2)
    refine hr.seq hc.2 hE F1 I1 q1 fun vs s2 pvs H2 e2 st2 F2 I2 q2 => ?_
    exact ⟨pv :: pvs, H2, by simp only [EL, List.map_cons, e1]; rw [e2], st1.trans st2, q2⟩

/-- a built-in of one argument -/
theorem se_blt1 {e : CE} {n : Str} {v : Value} {env : Env} {N : List (Str × NK)} {x : Str} {px pos : Pos} {p : Expr} {σ : Sg} {s : Shared} {H : PH} {R : Value → Shared → Prop} {Q : PV → PH → Prop} (hG : GlOK D P ini ad fn) (he : SE D fn Γ ini A e)
    (hx : isGlo N x n = true) (hn : D.mg n = none) (hv : bootBuiltins n = some v) (hb : (∃ id, v = .builtin id) ∨ ∃ T, v = .type T) (hne : n ≠ "__name__") (hc : chkE fn N e p = true) (hp : isStar p = false) (hE : EnvOK env N) (hF : FrOK D env N σ s.heap H) (hI : Inv D s.heap H) (hw : WE Γ ini e σ H Q)
    (k : ∀ u s1 pu H1, er u = some pu → Step D noOwn s s1 H H1 → Inv D s1.heap H1 → Q pu H1 → wpAny (model D.prog D.w) A (call v [u]) R Nope s1) :
    wpAny (model D.prog D.w) A (eval (.Call (.Name x px) [p] [] pos) env) R Nope s := by
  refine call_arm (name_blt hG hE hI hx hn hv hne ?_)
  have pl : plainPs [p] = true := by simp [plainPs, hp]
  have step : wpAny (model D.prog D.w) A (spliced (backTo pos (starEach [p] env))) (fun vs s' => wpAny (model D.prog D.w) A (call v vs) R Nope s') Nope s :=
    spliced1 hp (he.seq hc hE hF hI hw fun u s1 pu H1 e1 st1 F1 I1 q1 => k u s1 pu H1 e1 st1 I1 q1)
  rcases hb with ⟨id, rfl⟩ | ⟨T, rfl⟩
  · exact call_blt pl step
  · exact call_typ pl step

theorem sys_ne {hG : GlOK D P ini ad fn} {h : Heap} {H : PH} (hI : Inv D h H) {a : Nat} {o : PObj} (ha : H a = some o) (hr : ¬ isRo o) : (a == sysModules) = false := by
  cases q : a == sysModules with
  | false => rfl
  | true =>
    obtain ⟨ob, ho⟩ := hG.sys
    have := (hI.new a o ha).resolve_left hr
    rw [beq_iff_eq.mp q, ho] at this; cases this

theorem big_lt {n : Nat} (h : n ≤ big) : (n : Int) < 2 ^ 63 := by unfold big at h; omega
theorem big_size {n : Nat} (h : n ≤ big) : n ≤ sizeLine := by unfold big at h; rw [sizeLine_eq]; omega

theorem EP.length {K : Type} {ks : List (K × Value)} {kvs : List (K × PV)} (h : EP ks kvs) : ks.length = kvs.length := by
  have := congrArg List.length h; simpa using this

theorem se_len {e : CE} (hG : GlOK D P ini ad fn) (he : SE D fn Γ ini A e) : SE D fn Γ ini A (.len e) := by
  intro env N p σ s H Q hc hE hF hI hw
  obtain ⟨_, _, _, _, rfl, hcc⟩ := inv_len hc
  replace hc := hcc
  · simp only [Bool.and_eq_true, Bool.not_eq_true'] at hc
    refine se_blt1 (n := "len") hG he hc.1.1 (hG.blt _ (by simp)) PySem.boot_len (.inl ⟨_, rfl⟩) (by decide) hc.1.2 hc.2 hE hF hI hw fun u s1 pu H1 e1 st1 I1 q1 => ?_
    obtain ⟨n, hn, q⟩ := optW_some q1
    cases pu with
    | ref a =>
      obtain rfl := er_ref e1
      simp only [lenV] at hn
      have fin : ∀ (m : Nat), n = (m : Int) → ∀ u tk, Ex D s H Q (.int m u) { s1 with toks := tk } := fun m e u tk => ⟨.int n, H1, by rw [e]; rfl, st1.trans (.toks I1), q⟩
      cases ha : H1 a with
      | none => rw [ha] at hn; cases hn
      | some o =>
        rw [ha] at hn
        have r := I1.rep a o ha
        cases o with
        | list xs =>
          simp only at hn; split at hn
          · rename_i hb
            obtain ⟨vs, hl, el⟩ := r
            have hs : vs.toArray.size = xs.length := by simpa using el.length
            exact call_len_list hl.isList (by rw [hs]; exact big_lt hb) (fin _ (by rw [hs]; exact (Option.some.inj hn).symm) _ _)
          · cases hn
        | ro xs =>
          simp only at hn; split at hn
          · rename_i hb
            obtain ⟨vs, hl, el⟩ := r
            have hs : vs.toArray.size = xs.length := by simpa using el.length
            exact call_len_list hl (by rw [hs]; exact big_lt hb) (fin _ (by rw [hs]; exact (Option.some.inj hn).symm) _ _)
          · cases hn
        | dS kvs =>
          simp only at hn; split at hn
          · rename_i hb
            obtain ⟨ks, hd, ep⟩ := r
            have hs := ep.length
            exact call_len_dict (sys_ne (hG := hG) I1 ha id) hd (by rw [hs]; exact big_lt hb) (fin _ (by rw [hs]; exact (Option.some.inj hn).symm) _ _)
          · cases hn
        | dI kvs =>
          simp only at hn; split at hn
          · rename_i hb
            obtain ⟨ks, hd, ep⟩ := r
            have hs := ep.length
            exact call_len_dict (sys_ne (hG := hG) I1 ha id) hd (by rw [hs]; exact big_lt hb) (fin _ (by rw [hs]; exact (Option.some.inj hn).symm) _ _)
          · cases hn
        | _ => cases hn
    | _ => cases hn
end
end Mine
end

section
set_option maxRecDepth 100000
set_option Elab.async false
set_option linter.unusedVariables false
set_option linter.unusedSimpArgs false
open PySem PySem.Calls PySem.Spec
namespace Mine
open PySem.W (Frag TopRead instObj dictOf getL putL putN)

section
variable {D : Wd} {P : Nat → Option CFun} {ini : Nat} {ad : Nat → Nat} {fn : Nat → Option Str} {Γ : GT} {d : Nat} {A : Around}

/-- a fresh object: what the walk brings, what the wp asks -/
theorem newW_ex {s0 s : Shared} {H0 H : PH} {o : PObj} {Q : PV → PH → Prop} {X : Nat} {h' : Heap} {tk : Nat} (st : Step D noOwn s0 s H0 H) (hq : newW H o Q) (hX : s.heap.get? X = none)
    (hk : ∀ b ob, s.heap.get? b = some ob → h'.get? b = some ob) (r : RO D h' X o) : Ex D s0 H0 Q (.ref X) { s with heap := h', toks := tk } :=
  ⟨.ref X, H.set X o, rfl, st.trans (.alloc st.inv hX hk r), hq X (st.inv.fresh hX)⟩

theorem fresh_size (h : Heap) : h.get? h.objs.size = none := by
  cases q : h.get? h.objs.size with
  | none => rfl
  | some o => exact absurd (Heap.lt_size q) (Nat.lt_irrefl _)

theorem se_list {e : CE} (hG : GlOK D P ini ad fn) (hR : Room A d) (he : SE D fn Γ ini A e) : SE D fn Γ ini A (.list e) := by
  intro env N p σ s H Q hc hE hF hI hw
  obtain ⟨_, _, _, _, rfl, hcc⟩ := inv_list hc
  replace hc := hcc
  · simp only [Bool.and_eq_true, Bool.not_eq_true'] at hc
    refine se_blt1 (n := "list") hG he hc.1.1 (hG.blt _ (by simp)) PyProof.Rows.boot_list (.inr ⟨_, rfl⟩) (by decide) hc.1.2 hc.2 hE hF hI hw fun u s1 pu H1 e1 st1 I1 q1 => ?_
    obtain ⟨xs, hn, q⟩ := optW_some q1
    cases pu with
    | ref a =>
      obtain rfl := er_ref e1
      simp only [itemsV] at hn
      cases ha : H1 a with
      | none => rw [ha] at hn; cases hn
      | some o =>
        rw [ha] at hn
        have r := I1.rep a o ha
        cases o with
        | list ys =>
          simp only at hn; split at hn
          · rename_i hb
            cases hn
            obtain ⟨vs, ⟨n, ho⟩, el⟩ := r
            refine call_list_seq a (.inl rfl) ho rfl rfl (fun h' c' hk hD => ?_) (by rw [show vs.toArray.size = xs.length by simpa using el.length]; exact big_size hb)
            exact newW_ex st1 q (fresh_size _) hk ⟨vs, ⟨_, hD⟩, el⟩
          · cases hn
        | dS kvs =>
          simp only at hn; split at hn
          · rename_i hb
            cases hn
            obtain ⟨ks, hd, ep⟩ := r
            obtain ⟨ep', hda⟩ := hd.dictAt
            refine PySem.W.kdl_call (PySem.W.kdl_dict (sys_ne (hG := hG) I1 ha id)) hR.hd hda (by rw [ep.length]; exact big_size hb) fun h' tk acc c hk hD hac => ?_
            refine newW_ex st1 q (fresh_size _) hk ⟨acc.toList, ⟨_, by rw [Array.toArray_toList]; exact hD⟩, ?_⟩
            refine List.ext_getElem? fun i => ?_
            rw [List.getElem?_map, List.getElem?_map, List.getElem?_map, Array.getElem?_toList]
            cases hi : acc[i]? with
            | some v =>
              obtain ⟨k, x, e2, e3⟩ := hac.2 i v hi
              obtain ⟨t, rfl⟩ := Value.isStrOf_shape e3
              have e4 := congrArg (·[i]?) ep
              simp only [List.getElem?_map, e2, Option.map_some] at e4
              cases e5 : kvs[i]? with
              | none => rw [e5] at e4; cases e4
              | some kv => rw [e5] at e4; simp only [Option.map_some, Option.some.injEq, Prod.mk.injEq] at e4; simp [er, e4.1]
            | none =>
              have : acc.size ≤ i := by simpa using hi
              rw [hac.1, ep.length] at this
              rw [List.getElem?_eq_none this]; rfl
          · cases hn
        | _ => cases hn
    | _ => cases hn

theorem se_strOf {e : CE} (hG : GlOK D P ini ad fn) (he : SE D fn Γ ini A e) : SE D fn Γ ini A (.strOf e) := by
  intro env N p σ s H Q hc hE hF hI hw
  obtain ⟨_, _, _, _, rfl, hcc⟩ := inv_strOf hc
  replace hc := hcc
  · simp only [Bool.and_eq_true, Bool.not_eq_true'] at hc
    refine se_blt1 (n := "str") hG he hc.1.1 (hG.blt _ (by simp)) PyProof.Rows.boot_str (.inr ⟨_, rfl⟩) (by decide) hc.1.2 hc.2 hE hF hI hw fun u s1 pu H1 e1 st1 I1 q1 => ?_
    cases pu with
    | int i =>
      obtain ⟨t, rfl⟩ := er_int e1
      exact PySem.P.str_of_int (PyProof.Rows.shown (N := 2 ^ 1920) (by have := q1.1; unfold big at this; omega) (by have := q1.1; unfold big at this; omega) (Int.le_refl _)) ⟨.str _, H1, rfl, st1.trans (.toks I1), q1.2⟩
    | _ => exact q1.elim

theorem se_abs {e : CE} (hG : GlOK D P ini ad fn) (he : SE D fn Γ ini A e) : SE D fn Γ ini A (.abs e) := by
  intro env N p σ s H Q hc hE hF hI hw
  obtain ⟨_, _, _, _, rfl, hcc⟩ := inv_abs hc
  replace hc := hcc
  · simp only [Bool.and_eq_true, Bool.not_eq_true'] at hc
    refine se_blt1 (n := "abs") hG he hc.1.1 (hG.blt _ (by simp)) PyProof.Rows.boot_abs (.inl ⟨_, rfl⟩) (by decide) hc.1.2 hc.2 hE hF hI hw fun u s1 pu H1 e1 st1 I1 q1 => ?_
    cases pu with
    | int i =>
      obtain ⟨t, rfl⟩ := er_int e1
      exact PyProof.Rows.call_abs_int fun u tk => ⟨.int _, H1, rfl, st1.trans (.toks I1), q1⟩
    | _ => exact q1.elim

theorem se_isList {e : CE} (hG : GlOK D P ini ad fn) (he : SE D fn Γ ini A e) : SE D fn Γ ini A (.isList e) := by
  intro env N p σ s H Q hc hE hF hI hw
  obtain ⟨_, _, _, _, _, _, rfl, hcc⟩ := inv_isList hc
  replace hc := hcc
  · simp only [Bool.and_eq_true, Bool.not_eq_true'] at hc
    refine call_arm (name_blt (n := "isinstance") hG hE hI hc.1.1.1 (hG.blt _ (by simp)) PyProof.Rows.boot_isinstance (by decide) ?_)
    refine call_blt (by simp only [plainPs, hc.2]; rfl) (spliced2 hc.2 rfl (he.seq hc.1.2 hE hF hI hw fun u s1 pu H1 e1 st1 F1 I1 q1 => ?_))
    refine name_blt (n := "list") hG hE I1 hc.1.1.2 (hG.blt _ (by simp)) PyProof.Rows.boot_list (by decide) ?_
    cases pu with
    | bool b =>
      obtain rfl := er_bool e1
      exact IsiPair.bool_list ⟨.bool _, H1, rfl, st1.trans (.toks I1), q1⟩
    | _ => exact q1.elim

theorem looks_inst {M : Model} {h : Heap} {a C dx : Nat} (e : h.get? a = some (instObj C dx)) : PySem.W.Looks M h (typeOf (.ref a)) (.ref C) := (PySem.W.Looks.ld (part := none) e).andThen .now

theorem se_isVec {e : CE} (hG : GlOK D P ini ad fn) (he : SE D fn Γ ini A e) : SE D fn Γ ini A (.isVec e) := by
  intro env N p σ s H Q hc hE hF hI hw
  obtain ⟨_, _, _, _, _, _, rfl, hcc⟩ := inv_isVec hc
  replace hc := hcc
  · simp only [Bool.and_eq_true, Bool.not_eq_true'] at hc
    refine call_arm (name_blt (n := "isinstance") hG hE hI hc.1.1.1 (hG.blt _ (by simp)) PyProof.Rows.boot_isinstance (by decide) ?_)
    refine call_blt (by simp only [plainPs, hc.2]; rfl) (spliced2 hc.2 rfl (he.seq hc.1.2 hE hF hI hw fun u s1 pu H1 e1 st1 F1 I1 q1 => ?_))
    refine name_glo (n := "Vector") hG hE I1 hc.1.1.2 hG.vec ?_
    cases pu with
    | ref a =>
      obtain rfl := er_ref e1
      obtain ⟨⟨dx, hd⟩, q⟩ := q1
      have r : s1.heap.get? a = some (instObj D.C dx) := I1.rep a _ hd
      exact PySem.W.isi_call (hG.X.keeps I1.base) (fun M => looks_inst r) hG.hiC (by intro e; cases e) ⟨.bool true, H1, rfl, st1, q⟩
    | _ => exact q1.elim
end
end Mine
end

section
set_option maxRecDepth 100000
set_option Elab.async false
set_option linter.unusedVariables false
set_option linter.unusedSimpArgs false
open PySem PySem.Calls PySem.Spec
namespace Mine
open PySem.W (Frag TopRead instObj dictOf getL putL putN)

theorem lkp_map_EP {K : Type} [DecidableEq K] : ∀ {ks : List (K × Value)} {kvs : List (K × PV)}, EP ks kvs → ∀ k, (valueAt ks k).map er = (lkp kvs k).map some
  | [], [], _, k => rfl
  | x :: ks, y :: kvs, h, k => by
    simp only [EP, List.map_cons, List.cons.injEq, Prod.mk.injEq] at h
    obtain ⟨⟨h1, h2⟩, h3⟩ := h
    have ih := lkp_map_EP (ks := ks) (kvs := kvs) h3 k
    unfold valueAt lkp at ih ⊢
    rw [List.find?_cons, List.find?_cons, h1]
    by_cases q : y.1 = k
    · simp [q, h2]
    · simpa [q] using ih
  | [], _ :: _, h, k => by cases h
  | _ :: _, [], h, k => by cases h
theorem EP.lkp {K : Type} [DecidableEq K] {ks : List (K × Value)} {kvs : List (K × PV)} (h : EP ks kvs) {k : K} {pv : PV} (e : Mine.lkp kvs k = some pv) : ∃ v, valueAt ks k = some v ∧ er v = some pv := by
  have := lkp_map_EP h k
  rw [e] at this
  cases q : valueAt ks k with
  | none => rw [q] at this; cases this
  | some v => rw [q] at this; exact ⟨v, rfl, Option.some.inj this⟩
theorem EP.lkp_none {K : Type} [DecidableEq K] {ks : List (K × Value)} {kvs : List (K × PV)} (h : EP ks kvs) {k : K} (e : Mine.lkp kvs k = none) : valueAt ks k = none := by
  have := lkp_map_EP h k
  rw [e] at this
  cases q : valueAt ks k with
  | none => rfl
  | some v => rw [q] at this; cases this
theorem EP.isSome {K : Type} [DecidableEq K] {ks : List (K × Value)} {kvs : List (K × PV)} (h : EP ks kvs) (k : K) : (valueAt ks k).isSome = (Mine.lkp kvs k).isSome := by
  have := congrArg Option.isSome (lkp_map_EP h k)
  simpa using this
theorem EP.any {K : Type} [DecidableEq K] : ∀ {ks : List (K × Value)} {kvs : List (K × PV)}, EP ks kvs → ∀ k, ks.any (fun x => decide (x.1 = k)) = kvs.any (fun x => decide (x.1 = k))
  | [], [], _, k => rfl
  | x :: ks, y :: kvs, h, k => by
    simp only [EP, List.map_cons, List.cons.injEq, Prod.mk.injEq] at h
    rw [List.any_cons, List.any_cons, h.1.1, EP.any (ks := ks) (kvs := kvs) h.2 k]
  | [], _ :: _, h, k => by cases h
  | _ :: _, [], h, k => by cases h
theorem EP.store {K : Type} [DecidableEq K] {ks : List (K × Value)} {kvs : List (K × PV)} (h : EP ks kvs) {k : K} {v : Value} {pv : PV} (e : er v = some pv) : EP (stored ks k v) (sto kvs k pv) := by
  unfold stored sto
  rw [EP.any h k]
  by_cases q : (kvs.any fun x => decide (x.1 = k)) = true
  · rw [if_pos q, if_pos q]
    clear q
    induction ks generalizing kvs with
    | nil => cases kvs with | nil => rfl | cons _ _ => cases h
    | cons x ks ih =>
      cases kvs with
      | nil => cases h
      | cons y kvs =>
        simp only [EP, List.map_cons, List.cons.injEq, Prod.mk.injEq] at h ⊢
        obtain ⟨⟨h1, h2⟩, h3⟩ := h
        refine ⟨?_, ih h3⟩
        rw [h1]
        by_cases q : y.1 = k
        · simp [q, e]
        · simp [q, h1, h2]
  · rw [if_neg q, if_neg q]
    simp only [EP, List.map_append, List.map_cons, List.map_nil, e]
    rw [h]

theorem base_of {p : Expr} {n : Str} {env : Env} {whole : Sem Value} (h : plainBase p = true) : attributeBase p n env whole = whole := by
  cases p <;> first | rfl | exact ff h

section
variable {D : Wd} {P : Nat → Option CFun} {ini : Nat} {ad : Nat → Nat} {fn : Nat → Option Str} {Γ : GT} {d : Nat} {A : Around}

theorem few1 {q : Expr} {pos : Pos} {env : Env} (hq : isStar q = false) : ((backTo pos (starEach [q] env)).all (fun x => !x.1) && (backToKw pos (keywordEach [] env)).all (fun x => x.1.isSome) && decide (([q] : List Expr).length + ([] : List Keyword).length + (if ([] : List Keyword).isEmpty then 0 else 1) < 30)) = true := by
  rw [starEach_cons hq]; rfl

theorem se_get {e k : CE} (hG : GlOK D P ini ad fn) (he : SE D fn Γ ini A e) (hk : SE D fn Γ ini A k) : SE D fn Γ ini A (.get e k) := by
  intro env N p σ s H Q hc hE hF hI hw
  obtain ⟨p, n, ap, q, pos, rfl, hcc⟩ := inv_get hc
  replace hc := hcc
  · skip
    simp only [Bool.and_eq_true, Bool.not_eq_true', beq_iff_eq] at hc
    obtain ⟨⟨⟨⟨⟨rfl, hce⟩, hpl⟩, hck⟩, hq⟩, hln⟩ := hc
    refine wpAny_Call_method (base_of hpl) (few1 hq) (by simpa using hln) F.plainAttrs_dict F.slot_dict_get F.type_dict_get (he.seq hce hE hF hI hw fun u s1 pu H1 e1 st1 F1 I1 q1 => ?_)
    cases pu with
    | ref a =>
      obtain rfl := er_ref e1
      obtain ⟨⟨kvs, ha⟩, q2⟩ := q1
      obtain ⟨ks, hd, ep⟩ := I1.rep a _ ha
      refine ⟨hd.typeIs, fun b e => by cases e; exact hd.mapOf.noDict _ rfl, ?_⟩
      rw [starEach_cons hq]
      refine wpAny_dict_get1 (knd := strKind D.prog D.w) (sys_ne (hG := hG) I1 ha id) (hk.seq hck hE F1 I1 q2 fun w s2 pw H2 e2 st2 F2 I2 q3 => ?_)
      split at q3
      · rename_i x kvs' hx
        obtain ⟨t, rfl⟩ := er_str e2
        obtain ⟨ks', hd', ep'⟩ := I2.rep a _ hx
        refine ⟨x, _, by simp [strKind, Value.isStrOf], hd'.mapOf, (lkp kvs' x).getD .none, H2, ?_, (st1.trans st2).trans (.toks I2), q3⟩
        cases hl : lkp kvs' x with
        | none => rw [ep'.lkp_none hl]; rfl
        | some pv => obtain ⟨v, h1, h2⟩ := ep'.lkp hl; rw [h1]; exact h2
      · exact q3.elim
    | _ => exact q1.elim

theorem looksIn_ns {od : Obj} {es : Array DictEntry} {ep : Nat} {n : Str} {v : Value} {m : Str → Option Value} (hd : od.data = .dict es ep) (hk : StrKeys es) (hm : ∀ name, nsFind es name = m name) (hv : m n = some v) : PySem.W.lookIn n od = some (some v) := by
  have := hm n
  rw [hv] at this
  unfold nsFind findBy at this
  unfold PySem.W.lookIn
  rw [hd]
  obtain ⟨e, he, hev⟩ := Option.map_eq_some_iff.mp this
  rw [← Array.find?_toList] at he
  simp only [he, hev]

theorem inst_at {h : Heap} {H : PH} {x dx : Nat} {fs : List (Str × PV)} (I : Inv D h H) (hx : H x = some (.inst dx)) (hd : H dx = some (.flds fs)) :
    ∃ (od : Obj) (es : Array DictEntry) (ep : Nat) (m : Str → Option Value), PySem.W.InstAt h x (instObj D.C dx) D.C (some od) ∧ h.get? dx = some od ∧ od.data = .dict es ep ∧ StrKeys es ∧ (∀ name, nsFind es name = m name) ∧ ∀ n pv, lkp fs n = some pv → ∃ v, m n = some v ∧ er v = some pv := by
  obtain ⟨m, ⟨od, es, ep, ho, hdd, hk, hm, _⟩, hf⟩ := I.rep dx _ hd
  have hx' : h.get? x = some (instObj D.C dx) := I.rep x _ hx
  exact ⟨od, es, ep, m, ⟨hx', rfl, rfl, ho⟩, ho, hdd, hk, hm, hf⟩

theorem er_handed {v : Value} {pv : PV} (h : er v = some pv) : PySem.W.handedIn v = true := by cases v <;> first | rfl | (simp [er] at h)

theorem attr_read {x : Nat} {pv : PV} {n : Str} {H : PH} {s : Shared} {R : Value → Shared → Prop} {e : Bool} (hG : GlOK D P ini ad fn) (I : Inv D s.heap H) (hn : fldNames.contains n = true) (hv : attrV H (.ref x) n = some pv)
    (k : ∀ v tk, er v = some pv → R v { s with toks := tk }) : wpAny (model D.prog D.w) A (getAttr (.ref x) n e) R Nope s := by
  simp only [attrV] at hv
  split at hv
  · rename_i dx hx
    split at hv
    · rename_i fs hd
      obtain ⟨od, es, ep, m, IA, ho, hdd, hkk, hm, hf⟩ := inst_at I hx hd
      obtain ⟨v, hmv, hev⟩ := hf n pv hv
      have hmem : n ∈ fldNames := by simpa using hn
      refine PySem.W.get_value (hG.X.keeps I.base) IA (PySem.W.plainGet_of (hG.pg n)).1 (PySem.W.findObj_own (name := n) hG.hdi (hG.fld n hmem) rfl (looksIn_ns hdd hkk hm hmv)) (er_handed hev) (k v _ hev)
    · cases hv
  · cases hv

theorem se_attr {e : CE} {n : Str} (hG : GlOK D P ini ad fn) (he : SE D fn Γ ini A e) : SE D fn Γ ini A (.attr e n) := by
  intro env N p σ s H Q hc hE hF hI hw
  obtain ⟨p, m, pos, rfl, hcc⟩ := inv_attr hc
  replace hc := hcc
  · skip
    simp only [Bool.and_eq_true, beq_iff_eq] at hc
    obtain ⟨⟨⟨rfl, hce⟩, hpl⟩, hn⟩ := hc
    rw [arm_eval_Attribute, base_of hpl]
    refine wpAny_bind (he.seq hce hE hF hI hw fun u s1 pu H1 e1 st1 F1 I1 q1 => wpAny_bind (wpAny_standAt (wpAny_bind (wpAny_holding ?_))))
    obtain ⟨pv, hv, q⟩ := optW_some q1
    cases pu with
    | ref a =>
      obtain rfl := er_ref e1
      refine attr_read hG I1 hn hv fun v tk e2 => wpAny_bind (wpAny_letTemporaryGo (wpAny_pure ⟨pv, H1, e2, st1.trans (.toks I1), q⟩))
    | _ => cases hv
end
end Mine
end

section
set_option maxRecDepth 100000
set_option Elab.async false
set_option linter.unusedVariables false
set_option linter.unusedSimpArgs false
open PySem PySem.Calls PySem.Spec
namespace Mine
open PySem.W (Frag TopRead instObj dictOf getL putL putN)
open PySem.SeqAt

theorem eqAt_plain {A : Around} {s : Shared} {u v : Value} {pu pv : PV} (hu : er u = some pu) (hv : er v = some pv) (pu' : plainV pu = true) (pv' : plainV pv = true) : EqAt A s u v (decide (pu = pv)) := by
  cases pu <;> (try (simp [plainV] at pu')) <;> cases pv <;> (try (simp [plainV] at pv'))
  case none.none => rw [er_none hu, er_none hv]; exact EqAt.same _
  case none.int => obtain ⟨t, rfl⟩ := er_int hv; rw [er_none hu]; exact EqAt.none_int _ _
  case none.str => obtain ⟨t, rfl⟩ := er_str hv; rw [er_none hu]; exact EqAt.none_str _ _
  case int.none => obtain ⟨t, rfl⟩ := er_int hu; rw [er_none hv]; exact EqAt.int_none _ _
  case int.int a b =>
    obtain ⟨t, rfl⟩ := er_int hu; obtain ⟨t', rfl⟩ := er_int hv
    have : decide (PV.int a = PV.int b) = (a == b) := by rw [Bool.eq_iff_iff]; simp
    rw [this]; exact (MeetsSeq.EqGives.int _ _ _ _).at _ _
  case int.str => obtain ⟨t, rfl⟩ := er_int hu; obtain ⟨t', rfl⟩ := er_str hv; exact EqAt.int_str _ _ _ _
  case str.none => obtain ⟨t, rfl⟩ := er_str hu; rw [er_none hv]; exact EqAt.str_none _ _
  case str.int => obtain ⟨t, rfl⟩ := er_str hu; obtain ⟨t', rfl⟩ := er_int hv; exact EqAt.str_int _ _ _ _
  case str.str a b =>
    obtain ⟨t, rfl⟩ := er_str hu; obtain ⟨t', rfl⟩ := er_str hv
    have : decide (PV.str a = PV.str b) = (a == b) := by rw [Bool.eq_iff_iff]; simp
    rw [this]; exact (PyProof.Rows.eqGives_str _ _ _ _).at _ _

theorem mul_small {a b : Int} (ha : a.natAbs ≤ big) (hb : b.natAbs ≤ big) : IntMulOk a b := by
  have h1 := intBits_le_64 (k := a) (by unfold big at ha; omega) (by unfold big at ha; omega)
  unfold IntMulOk
  intro h
  simp only [Bool.and_eq_true, decide_eq_true_eq] at h
  have := h.1.1
  unfold shortFactorBits at this
  omega

section
variable {D : Wd} {P : Nat → Option CFun} {ini : Nat} {ad : Nat → Nat} {fn : Nat → Option Str} {Γ : GT} {d : Nat} {A : Around}

theorem bin_sound {op : BOp} {o : Operator} {u v : Value} {pu pv r : PV} {s : Shared} {R : Value → Shared → Prop} (ho : bopIs op o = true) (hu : er u = some pu) (hv : er v = some pv) (hr : binV op pu pv = some r)
    (k : ∀ w tk, er w = some r → R w { s with toks := tk }) : wpAny (model D.prog D.w) A (binaryOp o u v) R Nope s := by
  cases op <;> cases o <;> (try (exact ff ho)) <;> cases pu <;> cases pv <;> (try (exact nf hr))
  · obtain ⟨t, rfl⟩ := er_int hu; obtain ⟨t', rfl⟩ := er_int hv
    simp only [binV, Option.some.injEq] at hr; subst hr
    exact PyProof.Rows.add_int (k _ _ rfl)
  · obtain ⟨t, rfl⟩ := er_int hu; obtain ⟨t', rfl⟩ := er_int hv
    simp only [binV, Option.some.injEq] at hr; subst hr
    exact PyProof.Rows.sub_int (k _ _ rfl)
  · rename_i a b
    obtain ⟨t, rfl⟩ := er_int hu; obtain ⟨t', rfl⟩ := er_int hv
    simp only [binV] at hr
    split at hr
    · rename_i hb
      simp only [Option.some.injEq] at hr; subst hr
      refine PyProof.Rows.mul_int (k _ _ rfl) ?_
      exact mul_small hb.1 hb.2
    · cases hr
  · obtain ⟨t, rfl⟩ := er_int hu; obtain ⟨t', rfl⟩ := er_int hv
    simp only [binV] at hr
    split at hr
    · cases hr
    · rename_i hb
      simp only [Option.some.injEq] at hr; subst hr
      exact PyProof.Rows.mod_int hb (k _ _ rfl)
end
end Mine
end

section
set_option maxRecDepth 100000
set_option Elab.async false
set_option linter.unusedVariables false
set_option linter.unusedSimpArgs false
open PySem PySem.Calls PySem.Spec
namespace Mine
open PySem.W (Frag TopRead instObj dictOf getL putL putN)
open PySem.SeqAt

theorem beq_dec {α : Type} [BEq α] [LawfulBEq α] [DecidableEq α] (a b : α) : (a == b) = decide (a = b) := by rw [Bool.eq_iff_iff]; simp

section
variable {D : Wd} {P : Nat → Option CFun} {ini : Nat} {ad : Nat → Nat} {fn : Nat → Option Str} {Γ : GT} {d : Nat} {A : Around}

/-- a list of the pure heap, as it lies -/
theorem seq_at {h : Heap} {H : PH} {a : Nat} {xs : List PV} (I : Inv D h H) (e : seqOf (H a) = some xs) : ∃ vs : List Value, h.IsList a vs.toArray ∧ EL vs xs := by
  cases ha : H a with
  | none => rw [ha] at e; cases e
  | some o =>
    rw [ha] at e
    have r := I.rep a o ha
    cases o with
    | list ys => cases e; obtain ⟨vs, h1, h2⟩ := r; exact ⟨vs, h1.isList, h2⟩
    | ro ys => cases e; exact r
    | _ => cases e

theorem range_all_eq {vs ws : List Value} {xs ys : List PV} (h1 : EL vs xs) (h2 : EL ws ys) (hl : xs.length = ys.length) :
    ((List.range vs.toArray.size).all fun j => decide (xs[j]? = ys[j]?)) = decide (xs = ys) := by
  have hs : vs.toArray.size = xs.length := by simpa using h1.length
  rw [hs, Bool.eq_iff_iff]
  simp only [List.all_eq_true, List.mem_range, decide_eq_true_eq]
  constructor
  · intro h
    refine List.ext_getElem? fun i => ?_
    by_cases q : i < xs.length
    · exact h i q
    · rw [List.getElem?_eq_none (by omega), List.getElem?_eq_none (by omega)]
  · rintro rfl i _; rfl
theorem eqAt_items {s : Shared} {A : Around} {vs ws : List Value} {xs ys : List PV} (h1 : EL vs xs) (h2 : EL ws ys) (p1 : xs.all plainV = true) (p2 : ys.all plainV = true) :
    ∀ j (h1 : j < vs.toArray.size) (h2 : j < ws.toArray.size), EqAt A s vs.toArray[j] ws.toArray[j] (decide (xs[j]? = ys[j]?)) := by
  intro j q1 q2
  have q1' : j < xs.length := by rw [← h1.length]; simpa using q1
  have q2' : j < ys.length := by rw [← h2.length]; simpa using q2
  obtain ⟨u, hu, eu⟩ := h1.get (List.getElem?_eq_getElem q1')
  obtain ⟨v, hv, ev⟩ := h2.get (List.getElem?_eq_getElem q2')
  have e1 : vs.toArray[j] = u := by
    have := List.getElem?_eq_some_iff.mp hu
    simpa using this.2
  have e2 : ws.toArray[j] = v := by
    have := List.getElem?_eq_some_iff.mp hv
    simpa using this.2
  rw [e1, e2, List.getElem?_eq_getElem q1', List.getElem?_eq_getElem q2']
  have e3 : decide (some xs[j] = some ys[j]) = decide (xs[j] = ys[j]) := by simp
  rw [e3]
  exact eqAt_plain eu ev (List.all_eq_true.mp p1 _ (List.getElem_mem _)) (List.all_eq_true.mp p2 _ (List.getElem_mem _))

theorem eq_sound {u v : Value} {pu pv : PV} {r : Bool} {s : Shared} {H : PH} {R : Value → Shared → Prop} (hR : Room A d) (I : Inv D s.heap H) (hu : er u = some pu) (hv : er v = some pv) (hr : eqV H pu pv = some r)
    (k : R (.bool r) s) : wpAny (model D.prog D.w) A (compareOp .Eq u v) R Nope s := by
  cases pu <;> cases pv <;> (try (exact nf hr))
  · obtain ⟨t, rfl⟩ := er_int hu; obtain ⟨t', rfl⟩ := er_int hv
    simp only [eqV, Option.some.injEq] at hr; subst hr
    refine PyProof.Rows.eq_int ?_
    rw [beq_dec]; exact k
  · obtain ⟨t, rfl⟩ := er_str hu; obtain ⟨t', rfl⟩ := er_str hv
    simp only [eqV, Option.some.injEq] at hr; subst hr
    refine PyProof.Rows.eq_str ?_
    rw [beq_dec]; exact k
  · rename_i a b
    obtain rfl := er_ref hu; obtain rfl := er_ref hv
    simp only [eqV] at hr
    split at hr
    · rename_i xs ys ha hb
      split at hr
      · rename_i hc
        obtain ⟨_, _, p1, p2⟩ := hc
        simp only [Option.some.injEq] at hr; subst hr
        obtain ⟨vs, l1, e1⟩ := seq_at I ha
        obtain ⟨ws, l2, e2⟩ := seq_at I hb
        by_cases hl : xs.length = ys.length
        · refine eq_listAt (e := fun j => decide (xs[j]? = ys[j]?)) l1 l2 (by simpa [e1.length, e2.length] using hl) hR.units (eqAt_items e1 e2 p1 p2) ?_
          rw [range_all_eq e1 e2 hl]; exact k
        · refine eq_list_lengthsAt l1 l2 (by simpa [e1.length, e2.length] using hl) hR.units ?_
          have : decide (xs = ys) = false := decide_eq_false (fun e => hl (by rw [e]))
          rw [this] at k; exact k
      · cases hr
    · cases hr
theorem ne_sound {u v : Value} {pu pv : PV} {r : Bool} {s : Shared} {H : PH} {R : Value → Shared → Prop} (hR : Room A d) (I : Inv D s.heap H) (hu : er u = some pu) (hv : er v = some pv) (hr : eqV H pu pv = some r)
    (k : R (.bool (!r)) s) : wpAny (model D.prog D.w) A (compareOp .NotEq u v) R Nope s := by
  cases pu <;> cases pv <;> (try (exact nf hr))
  · obtain ⟨t, rfl⟩ := er_int hu; obtain ⟨t', rfl⟩ := er_int hv
    simp only [eqV, Option.some.injEq] at hr; subst hr
    refine PyProof.Rows.ne_int ?_
    show R (.bool (!(_ == _))) s
    rw [beq_dec]; exact k
  · obtain ⟨t, rfl⟩ := er_str hu; obtain ⟨t', rfl⟩ := er_str hv
    simp only [eqV, Option.some.injEq] at hr; subst hr
    refine PyProof.Rows.ne_str ?_
    show R (.bool (!(_ == _))) s
    rw [beq_dec]; exact k
  · rename_i a b
    obtain rfl := er_ref hu; obtain rfl := er_ref hv
    simp only [eqV] at hr
    split at hr
    · rename_i xs ys ha hb
      split at hr
      · rename_i hc
        obtain ⟨_, _, p1, p2⟩ := hc
        simp only [Option.some.injEq] at hr; subst hr
        obtain ⟨vs, l1, e1⟩ := seq_at I ha
        obtain ⟨ws, l2, e2⟩ := seq_at I hb
        by_cases hl : xs.length = ys.length
        · refine RcNeAt.lists (e := fun j => decide (xs[j]? = ys[j]?)) l1 l2 (by simpa [e1.length, e2.length] using hl) hR.units (eqAt_items e1 e2 p1 p2) _ _ _ _ ?_
          rw [range_all_eq e1 e2 hl]; exact k
        · refine RcNeAt.lists_lengths l1 l2 (by simpa [e1.length, e2.length] using hl) hR.units _ _ _ _ ?_
          have : decide (xs = ys) = false := decide_eq_false (fun e => hl (by rw [e]))
          rw [this] at k; exact k
      · cases hr
    · cases hr

theorem any_mem {vs : List Value} {xs : List PV} {pu : PV} (h : EL vs xs) : (vs.toArray.any fun y => decide (er y = some pu)) = decide (pu ∈ xs) := by
  rw [← Array.any_toList, Bool.eq_iff_iff]
  simp only [List.any_eq_true, decide_eq_true_eq]
  constructor
  · rintro ⟨y, hy, e⟩
    have : er y ∈ vs.map er := List.mem_map_of_mem (by simpa using hy)
    rw [h, e] at this
    obtain ⟨z, hz, ez⟩ := List.mem_map.mp this
    cases ez; exact hz
  · intro hm
    have : some pu ∈ vs.map er := by rw [h]; exact List.mem_map_of_mem hm
    obtain ⟨y, hy, e⟩ := List.mem_map.mp this
    exact ⟨y, by simpa using hy, e⟩
theorem eqAt_each {s : Shared} {A : Around} {vs : List Value} {xs : List PV} {u : Value} {pu : PV} (h : EL vs xs) (hu : er u = some pu) (p1 : xs.all plainV = true) (p2 : plainV pu = true) : ∀ y, y ∈ vs.toArray → EqAt A s y u (decide (er y = some pu)) := by
  intro y hy
  have : er y ∈ vs.map er := List.mem_map_of_mem (by simpa using hy)
  rw [h] at this
  obtain ⟨z, hz, ez⟩ := List.mem_map.mp this
  have := eqAt_plain (A := A) (s := s) ez.symm hu (List.all_eq_true.mp p1 z hz) p2
  have e : decide (er y = some pu) = decide (z = pu) := by rw [← ez]; simp
  rw [e]; exact this

theorem in_sound {neg : Bool} {u v : Value} {pu pv : PV} {r : Bool} {s : Shared} {H : PH} {R : Value → Shared → Prop} (hG : GlOK D P ini ad fn) (I : Inv D s.heap H) (hu : er u = some pu) (hv : er v = some pv) (hr : inV H pu pv = some r)
    (k : ∀ tk, R (.bool (if neg = true then !r else r)) { s with toks := tk }) : wpAny (model D.prog D.w) A (compareOp (if neg = true then .NotIn else .In) u v) R Nope s := by
  cases pv <;> (try (exact nf hr))
  rename_i a
  obtain rfl := er_ref hv
  simp only [inV] at hr
  cases ha : H a with
  | none => rw [ha] at hr; cases hr
  | some o =>
    rw [ha] at hr
    have rp := I.rep a o ha
    cases o with
    | list xs =>
      simp only at hr
      split at hr
      · rename_i hc
        simp only [Option.some.injEq] at hr; subst hr
        obtain ⟨vs, hl, el⟩ := rp
        cases neg
        · refine in_listAt (fun y => decide (er y = some pu)) hl.isList (eqAt_each el hu hc.2.1 hc.2.2) ?_
          rw [any_mem el]; exact k s.toks
        · refine notIn_listAt (fun y => decide (er y = some pu)) hl.isList (eqAt_each el hu hc.2.1 hc.2.2) ?_
          rw [any_mem el]; exact k s.toks
      · cases hr
    | tup xs =>
      simp only at hr
      split at hr
      · rename_i hc
        simp only [Option.some.injEq] at hr; subst hr
        obtain ⟨vs, hl, el⟩ := rp
        cases neg
        · refine in_tupleAt (fun y => decide (er y = some pu)) hl (eqAt_each el hu hc.2.1 hc.2.2) ?_
          rw [any_mem el]; exact k s.toks
        · refine notIn_tupleAt (fun y => decide (er y = some pu)) hl (eqAt_each el hu hc.2.1 hc.2.2) ?_
          rw [any_mem el]; exact k s.toks
      · cases hr
    | dS kvs =>
      cases pu <;> (try (simp at hr; done))
      rename_i x
      simp only [Option.some.injEq] at hr; subst hr
      obtain ⟨t, rfl⟩ := er_str hu
      obtain ⟨ks, hd, ep⟩ := rp
      cases neg
      · refine wpAny_in_of (knd := strKind D.prog D.w) (k := x) (by simp [strKind, Value.isStrOf]) (sys_ne (hG := hG) I ha id) hd.mapOf ?_
        rw [ep.isSome]; exact k _
      · refine wpAny_notIn_of (knd := strKind D.prog D.w) (k := x) (by simp [strKind, Value.isStrOf]) (sys_ne (hG := hG) I ha id) hd.mapOf ?_
        rw [ep.isSome]; exact k _
    | dI kvs =>
      cases pu <;> (try (simp at hr; done))
      rename_i x
      simp only [Option.some.injEq] at hr; subst hr
      obtain ⟨t, rfl⟩ := er_int hu
      obtain ⟨ks, hd, ep⟩ := rp
      cases neg
      · refine wpAny_in_of (knd := intKind D.prog D.w) (k := x) (by simp [intKind, Value.isInt]) (sys_ne (hG := hG) I ha id) hd.mapOf ?_
        rw [ep.isSome]; exact k _
      · refine wpAny_notIn_of (knd := intKind D.prog D.w) (k := x) (by simp [intKind, Value.isInt]) (sys_ne (hG := hG) I ha id) hd.mapOf ?_
        rw [ep.isSome]; exact k _
    | _ => simp at hr

theorem none_dec {u : Value} {pu : PV} (hu : er u = some pu) : (u == Value.none) = decide (pu = PV.none) := by
  cases u <;> simp [er] at hu <;> subst hu <;> simp <;> rfl

theorem cmp_sound {op : COp} {o : CmpOp} {u v : Value} {pu pv : PV} {r : Bool} {s : Shared} {H : PH} {R : Value → Shared → Prop} (hG : GlOK D P ini ad fn) (hR : Room A d) (I : Inv D s.heap H) (ho : copIs op o = true) (hu : er u = some pu) (hv : er v = some pv)
    (hr : cmpV H op pu pv = some r) (k : ∀ tk, R (.bool r) { s with toks := tk }) : wpAny (model D.prog D.w) A (compareOp o u v) R Nope s := by
  cases op <;> cases o <;> (try (exact ff ho))
  · exact eq_sound hR I hu hv (by simpa [cmpV] using hr) (k s.toks)
  · by_cases hb : ∃ a b, pu = .bool a ∧ pv = .bool b
    · obtain ⟨a, b, rfl, rfl⟩ := hb
      obtain rfl := er_bool hu; obtain rfl := er_bool hv
      simp only [cmpV, Option.some.injEq] at hr; subst hr
      exact RcNeAt.bool_bool a b _ _ _ _ (k s.toks)
    · have hr' : (eqV H pu pv).map (!·) = some r := by
        rw [← hr]; cases pu <;> cases pv <;> first | rfl | exact (hb ⟨_, _, rfl, rfl⟩).elim
      obtain ⟨q, h1, rfl⟩ := Option.map_eq_some_iff.mp hr'
      exact ne_sound hR I hu hv h1 (k s.toks)
  · cases pu <;> cases pv <;> (try (exact nf hr))
    · obtain ⟨t, rfl⟩ := er_int hu; obtain ⟨t', rfl⟩ := er_int hv
      simp only [cmpV, Option.some.injEq] at hr; subst hr
      exact PyProof.Rows.lt_int (k s.toks)
    · obtain ⟨t, rfl⟩ := er_str hu; obtain ⟨t', rfl⟩ := er_str hv
      simp only [cmpV, Option.some.injEq] at hr; subst hr
      exact PyProof.Rows.lt_str (k s.toks)
  · cases pu <;> cases pv <;> (try (exact nf hr))
    · obtain ⟨t, rfl⟩ := er_int hu; obtain ⟨t', rfl⟩ := er_int hv
      simp only [cmpV, Option.some.injEq] at hr; subst hr
      exact PyProof.Rows.gt_int (k s.toks)
    · obtain ⟨t, rfl⟩ := er_str hu; obtain ⟨t', rfl⟩ := er_str hv
      simp only [cmpV, Option.some.injEq] at hr; subst hr
      exact PySem.P.gt_str (k s.toks)
  · cases pu <;> cases pv <;> (try (exact nf hr))
    obtain ⟨t, rfl⟩ := er_int hu; obtain ⟨t', rfl⟩ := er_int hv
    simp only [cmpV, Option.some.injEq] at hr; subst hr
    exact PyProof.Rows.le_int (k s.toks)
  · cases pu <;> cases pv <;> (try (exact nf hr))
    obtain ⟨t, rfl⟩ := er_int hu; obtain ⟨t', rfl⟩ := er_int hv
    simp only [cmpV, Option.some.injEq] at hr; subst hr
    exact PyProof.Rows.ge_int (k s.toks)
  · cases pv <;> (try (exact nf hr))
    obtain rfl := er_none hv
    simp only [cmpV, Option.some.injEq] at hr; subst hr
    exact is_none (by rw [none_dec hu]; exact k s.toks)
  · cases pv <;> (try (exact nf hr))
    obtain rfl := er_none hv
    simp only [cmpV, Option.some.injEq] at hr; subst hr
    exact isNot_none (by rw [none_dec hu]; exact k s.toks)
  · exact in_sound (neg := false) hG I hu hv (by simpa [cmpV] using hr) k
  · simp only [cmpV, Option.map_eq_some_iff] at hr
    obtain ⟨q, h1, rfl⟩ := hr
    exact in_sound (neg := true) hG I hu hv h1 k
end
end Mine
end

section
set_option maxRecDepth 100000
set_option Elab.async false
set_option linter.unusedVariables false
set_option linter.unusedSimpArgs false
open PySem PySem.Calls PySem.Spec
namespace Mine
open PySem.W (Frag TopRead instObj dictOf getL putL putN)

section
variable {D : Wd} {P : Nat → Option CFun} {ini : Nat} {ad : Nat → Nat} {fn : Nat → Option Str} {Γ : GT} {d : Nat} {A : Around}

/-- a test's soundness -/
noncomputable def Tx (D : Wd) (s : Shared) (H : PH) (Q : Bool → PH → Prop) (b : Bool) (s' : Shared) : Prop := ∃ H', Step D noOwn s s' H H' ∧ Q b H'
noncomputable def ST (D : Wd) (fn : Nat → Option Str) (Γ : GT) (ini : Nat) (A : Around) (e : CE) : Prop :=
  ∀ (env : Env) (N : List (Str × NK)) (p : Expr) (σ : Sg) (s : Shared) (H : PH) (Q : Bool → PH → Prop), chkE fn N e p = true → EnvOK env N → FrOK D env N σ s.heap H → Inv D s.heap H → WE Γ ini e σ H (tl Q) →
    wpAny (model D.prog D.w) A (isTrue p env (eval p env)) (Tx D s H Q) (fun _ _ => False) s
abbrev SB (D : Wd) (fn : Nat → Option Str) (Γ : GT) (ini : Nat) (A : Around) (e : CE) : Prop := SE D fn Γ ini A e ∧ ST D fn Γ ini A e

theorem ST.seq {e : CE} (h : ST D fn Γ ini A e) {env : Env} {N : List (Str × NK)} {p : Expr} {σ : Sg} {s : Shared} {H : PH} {R : Bool → Shared → Prop} {Q : Bool → PH → Prop} (hc : chkE fn N e p = true) (hE : EnvOK env N) (hF : FrOK D env N σ s.heap H)
    (hI : Inv D s.heap H) (hw : WE Γ ini e σ H (tl Q)) (k : ∀ b s1 H1, Step D noOwn s s1 H H1 → FrOK D env N σ s1.heap H1 → Inv D s1.heap H1 → Q b H1 → R b s1) : wpAny (model D.prog D.w) A (isTrue p env (eval p env)) R Nope s :=
  wpAny_mono (h env N p σ s H Q hc hE hF hI hw) (fun v s1 x => let ⟨H1, st, q⟩ := x; k v s1 H1 st (hF.step st) st.inv q) fun _ _ x => x

theorem tl_some {Q : Bool → PH → Prop} {v : PV} {H : PH} (h : tl Q v H) : ∃ b, v = .bool b ∧ Q b H := by
  cases v <;> first | exact ⟨_, rfl, h⟩ | exact h.elim

/-- the shapes whose test is no more than their value's -/
noncomputable def plainT : Expr → Bool
  | .UnaryOp .. => false
  | .BoolOp .. => false
  | .IfExp .. => false
  | .Compare .. => false
  | _ => true
theorem plainT_eq {p : Expr} {env : Env} {whole : Sem Value} (h : plainT p = true) : isTrue p env whole = (do let v ← whole; standAt p.pos; holding [v] (truthy v)) := by
  cases p <;> first | rfl | exact ff h
theorem st_of_se {e : CE} (he : SE D fn Γ ini A e) {env : Env} {N : List (Str × NK)} {p : Expr} {σ : Sg} {s : Shared} {H : PH} {Q : Bool → PH → Prop} (hp : plainT p = true) (hc : chkE fn N e p = true) (hE : EnvOK env N) (hF : FrOK D env N σ s.heap H)
    (hI : Inv D s.heap H) (hw : WE Γ ini e σ H (tl Q)) : wpAny (model D.prog D.w) A (isTrue p env (eval p env)) (Tx D s H Q) Nope s := by
  refine wpAny_isTrue_value (he.seq hc hE hF hI hw fun v s1 pv H1 e1 st1 F1 I1 q1 => ?_) (plainT_eq hp)
  obtain ⟨b, rfl, q⟩ := tl_some q1
  obtain rfl := er_bool e1
  exact wpAny_truthy_bool ⟨H1, st1, q⟩
/-- whatever the tree, the value is no bool -/
theorem st_never {e : CE} (hn : ∀ N p, chkE fn N e p = true → plainT p = true) (he : SE D fn Γ ini A e) : ST D fn Γ ini A e := by
  intro env N p σ s H Q hc hE hF hI hw
  exact st_of_se he (hn N p hc) hc hE hF hI hw
theorem st_int {i : Int} : ST D fn Γ ini A (.int i) := by
  intro env N p σ s H Q hc hE hF hI hw
  exact hw.elim

theorem se_bin {op : BOp} {a b : CE} (ha : SE D fn Γ ini A a) (hb : SE D fn Γ ini A b) : SE D fn Γ ini A (.bin op a b) := by
  intro env N p σ s H Q hc hE hF hI hw
  obtain ⟨_, _, _, _, rfl, hcc⟩ := inv_bin hc
  replace hc := hcc
  · simp only [Bool.and_eq_true] at hc
    refine wpAny_BinOp (ha.seq hc.1.2 hE hF hI hw fun u s1 pu H1 e1 st1 F1 I1 q1 => hb.seq hc.2 hE F1 I1 q1 fun v s2 pv H2 e2 st2 F2 I2 q2 => ?_)
    obtain ⟨r, hr, q⟩ := optW_some q2
    exact bin_sound hc.1.1 e1 e2 hr fun w tk e3 => ⟨r, H2, e3, (st1.trans st2).trans (.toks I2), q⟩

theorem marks {o : CmpOp} {r : Expr} (h : isSetD r = false) : behindInMarks o r = false := by
  cases r <;> first | rfl | exact tf h

theorem cmp_core {op : COp} {a b : CE} (hG : GlOK D P ini ad fn) (hR : Room A d) (ha : SE D fn Γ ini A a) (hb : SE D fn Γ ini A b) {env : Env} {N : List (Str × NK)} {p q : Expr} {o : CmpOp} {σ : Sg} {s : Shared} {H : PH} {Q : PV → PH → Prop} {R : Value → Shared → Prop}
    (h1 : copIs op o = true) (h2 : chkE fn N a p = true) (h3 : chkE fn N b q = true) (hE : EnvOK env N) (hF : FrOK D env N σ s.heap H) (hI : Inv D s.heap H) (hw : WE Γ ini (.cmp op a b) σ H Q)
    (k : ∀ r s' H', Step D noOwn s s' H H' → Q (.bool r) H' → R (.bool r) s') :
    wpAny (model D.prog D.w) A (eval p env) (fun u s1 => wpAny (model D.prog D.w) A (eval q env) (fun v s2 => wpAny (model D.prog D.w) A (compareOp o u v) R Nope s2) Nope s1) Nope s := by
  refine ha.seq h2 hE hF hI hw fun u s1 pu H1 e1 st1 F1 I1 q1 => hb.seq h3 hE F1 I1 q1 fun v s2 pv H2 e2 st2 F2 I2 q2 => ?_
  obtain ⟨r, hr, q⟩ := optW_some q2
  exact cmp_sound hG hR I2 h1 e1 e2 hr fun tk => k r _ H2 ((st1.trans st2).trans (.toks I2)) q

theorem se_cmp {op : COp} {a b : CE} (hG : GlOK D P ini ad fn) (hR : Room A d) (ha : SE D fn Γ ini A a) (hb : SE D fn Γ ini A b) : SB D fn Γ ini A (.cmp op a b) := by
  constructor
  · intro env N p σ s H Q hc hE hF hI hw
    obtain ⟨_, _, _, _, rfl, hcc⟩ := inv_cmp hc
    replace hc := hcc
    · simp only [Bool.and_eq_true, Bool.not_eq_true'] at hc
      exact wpAny_Compare1 (cmp_core hG hR ha hb hc.1.1.1 hc.1.1.2 hc.1.2 hE hF hI hw fun r s' H' st q => ⟨.bool r, H', rfl, st, q⟩) (marks hc.2)
  · intro env N p σ s H Q hc hE hF hI hw
    obtain ⟨_, _, _, _, rfl, hcc⟩ := inv_cmp hc
    replace hc := hcc
    · simp only [Bool.and_eq_true, Bool.not_eq_true'] at hc
      exact wpAny_isTrue_Compare1 (cmp_core hG hR ha hb hc.1.1.1 hc.1.1.2 hc.1.2 hE hF hI hw fun r s' H' st q => wpAny_truthy_bool ⟨H', st, q⟩) (marks hc.2)

theorem se_chain {o1 o2 : COp} {a b c : CE} (hG : GlOK D P ini ad fn) (hR : Room A d) (ha : SE D fn Γ ini A a) (hb : SE D fn Γ ini A b) (hc' : SE D fn Γ ini A c) : SB D fn Γ ini A (.chain o1 o2 a b c) := by
  constructor
  · intro env N p σ s H Q hc hE hF hI hw
    obtain ⟨_, _, _, _, _, _, rfl, hcc⟩ := inv_chain hc
    replace hc := hcc
    · simp only [Bool.and_eq_true, Bool.not_eq_true'] at hc
      obtain ⟨⟨⟨⟨⟨k1, k2⟩, k3⟩, k4⟩, k5⟩, k6⟩ := hc
      refine PyProof.Rows.Compare_chain (ha.seq k3 hE hF hI hw fun u s1 pu H1 e1 st1 F1 I1 q1 => PyProof.Rows.chain_link (hb.seq k4 hE F1 I1 q1 fun v s2 pv H2 e2 st2 F2 I2 q2 => ?_)) (marks k6)
      obtain ⟨r, hr, q⟩ := optW_some q2
      refine cmp_sound hG hR I2 k1 e1 e2 hr fun tk => wpAny_truthy_bool ?_
      have st3 := (st1.trans st2).trans (Step.toks (tk := tk) (own := noOwn) I2)
      cases r with
      | false => exact ⟨_, _, rfl, st3, q⟩
      | true =>
        refine PyProof.Rows.chain_last (hc'.seq k5 hE (F2.step (Step.toks I2)) st3.inv q fun w s3 pw H3 e3 st4 F3 I3 q3 => ?_)
        obtain ⟨r, hr, q⟩ := optW_some q3
        exact cmp_sound hG hR I3 k2 e2 e3 hr fun tk => ⟨_, _, rfl, (st3.trans st4).trans (.toks I3), q⟩
  · intro env N p σ s H Q hc hE hF hI hw
    obtain ⟨_, _, _, _, _, _, rfl, hcc⟩ := inv_chain hc
    replace hc := hcc
    · simp only [Bool.and_eq_true, Bool.not_eq_true'] at hc
      obtain ⟨⟨⟨⟨⟨k1, k2⟩, k3⟩, k4⟩, k5⟩, k6⟩ := hc
      refine PyProof.Rows.isTrue_chain (ha.seq k3 hE hF hI hw fun u s1 pu H1 e1 st1 F1 I1 q1 => PyProof.Rows.test_link (hb.seq k4 hE F1 I1 q1 fun v s2 pv H2 e2 st2 F2 I2 q2 => ?_)) (marks k6)
      obtain ⟨r, hr, q⟩ := optW_some q2
      refine cmp_sound hG hR I2 k1 e1 e2 hr fun tk => wpAny_truthy_bool ?_
      have st3 := (st1.trans st2).trans (Step.toks (tk := tk) (own := noOwn) I2)
      cases r with
      | false => exact ⟨_, st3, q⟩
      | true =>
        refine PyProof.Rows.test_last (hc'.seq k5 hE (F2.step (Step.toks I2)) st3.inv q fun w s3 pw H3 e3 st4 F3 I3 q3 => ?_)
        obtain ⟨r, hr, q⟩ := optW_some q3
        exact cmp_sound hG hR I3 k2 e2 e3 hr fun tk => wpAny_truthy_bool ⟨_, (st3.trans st4).trans (.toks I3), q⟩

theorem se_not {a : CE} (ha : SB D fn Γ ini A a) : SB D fn Γ ini A (.not a) := by
  have tln : ∀ {Q : PV → PH → Prop} {v H}, tl (fun b H1 => Q (.bool (!b)) H1) v H → ∃ b, v = .bool b ∧ Q (.bool (!b)) H := fun h => tl_some h
  constructor
  · intro env N p σ s H Q hc hE hF hI hw
    obtain ⟨_, _, rfl, hcc⟩ := inv_not hc
    replace hc := hcc
    · refine wpAny_UnaryOp (ha.1.seq hc hE hF hI hw fun v s1 pv H1 e1 st1 F1 I1 q1 => ?_)
      obtain ⟨b, rfl, q⟩ := tln q1
      obtain rfl := er_bool e1
      exact not_value (wpAny_truthy_bool ⟨_, _, rfl, st1, q⟩)
  · intro env N p σ s H Q hc hE hF hI hw
    obtain ⟨_, _, rfl, hcc⟩ := inv_not hc
    replace hc := hcc
    · exact wpAny_isTrue_Not (ha.2.seq hc hE hF hI hw fun b s1 H1 st1 F1 I1 q1 => ⟨H1, st1, q1⟩)

theorem se_ife {t a b : CE} (ht : ST D fn Γ ini A t) (ha : SB D fn Γ ini A a) (hb : SB D fn Γ ini A b) : SB D fn Γ ini A (.ife t a b) := by
  constructor
  · intro env N p σ s H Q hc hE hF hI hw
    obtain ⟨_, _, _, _, rfl, hcc⟩ := inv_ife hc
    replace hc := hcc
    · simp only [Bool.and_eq_true] at hc
      refine wpAny_IfExp (ht.seq hc.1.1 hE hF hI hw fun c s1 H1 st1 F1 I1 q1 => ?_)
      cases c with
      | true => exact ha.1.seq hc.1.2 hE F1 I1 q1 fun v s2 pv H2 e2 st2 F2 I2 q2 => ⟨pv, H2, e2, st1.trans st2, q2⟩
      | false => exact hb.1.seq hc.2 hE F1 I1 q1 fun v s2 pv H2 e2 st2 F2 I2 q2 => ⟨pv, H2, e2, st1.trans st2, q2⟩
  · intro env N p σ s H Q hc hE hF hI hw
    obtain ⟨_, _, _, _, rfl, hcc⟩ := inv_ife hc
    replace hc := hcc
    · simp only [Bool.and_eq_true] at hc
      refine PyProof.Rows.isTrue_IfExp (ht.seq hc.1.1 hE hF hI hw fun c s1 H1 st1 F1 I1 q1 => ?_)
      cases c with
      | true => exact ha.2.seq hc.1.2 hE F1 I1 q1 fun v s2 H2 st2 F2 I2 q2 => ⟨H2, st1.trans st2, q2⟩
      | false => exact hb.2.seq hc.2 hE F1 I1 q1 fun v s2 H2 st2 F2 I2 q2 => ⟨H2, st1.trans st2, q2⟩

/-! and, or -/
noncomputable def SAnd (D : Wd) (fn : Nat → Option Str) (Γ : GT) (ini : Nat) (A : Around) (as : CEs) : Prop :=
  ∀ (env : Env) (N : List (Str × NK)) (ps : List Expr) (σ : Sg) (s : Shared) (H : PH) (pos : Pos), chkEs fn N as ps = true → EnvOK env N → FrOK D env N σ s.heap H → Inv D s.heap H →
    (∀ Q : PV → PH → Prop, WAnd Γ ini as σ H Q → ps ≠ [] → wpAny (model D.prog D.w) A (eval (.BoolOp .And ps pos) env) (Ex D s H Q) Nope s) ∧ (∀ Q : Bool → PH → Prop, WAnd Γ ini as σ H (tl Q) → wpAny (model D.prog D.w) A (allTrue .And ps env) (Tx D s H Q) Nope s)
noncomputable def SOr (D : Wd) (fn : Nat → Option Str) (Γ : GT) (ini : Nat) (A : Around) (as : CEs) : Prop :=
  ∀ (env : Env) (N : List (Str × NK)) (ps : List Expr) (σ : Sg) (s : Shared) (H : PH) (pos : Pos), chkEs fn N as ps = true → EnvOK env N → FrOK D env N σ s.heap H → Inv D s.heap H →
    (∀ Q : PV → PH → Prop, WOr Γ ini as σ H Q → ps ≠ [] → wpAny (model D.prog D.w) A (eval (.BoolOp .Or ps pos) env) (Ex D s H Q) Nope s) ∧ (∀ Q : Bool → PH → Prop, WOr Γ ini as σ H (tl Q) → wpAny (model D.prog D.w) A (allTrue .Or ps env) (Tx D s H Q) Nope s)

theorem sand_nil : SAnd D fn Γ ini A .nil := by
  intro env N ps σ s H pos hc hE hF hI
  cases ps with
  | nil => exact ⟨fun Q hw h => (h rfl).elim, fun Q hw => wpAny_allTrue_And_nil ⟨H, .refl hI, hw⟩⟩
  | cons _ _ => exact ff hc
theorem sor_nil : SOr D fn Γ ini A .nil := by
  intro env N ps σ s H pos hc hE hF hI
  cases ps with
  | nil => exact ⟨fun Q hw h => (h rfl).elim, fun Q hw => wpAny_allTrue_Or_nil ⟨H, .refl hI, hw⟩⟩
  | cons _ _ => exact ff hc

theorem sand_cons {e : CE} {r : CEs} (he : SB D fn Γ ini A e) (hr : SAnd D fn Γ ini A r) : SAnd D fn Γ ini A (.cons e r) := by
  intro env N ps σ s H pos hc hE hF hI
  cases ps with
  | nil => exact ff hc
  | cons p ps =>
    simp only [chkEs, Bool.and_eq_true, Bool.not_eq_true'] at hc
    constructor
    · intro Q hw _
      have step : wpAny (model D.prog D.w) A (eval p env) (fun v s1 => ∃ b H1, v = .bool b ∧ Step D noOwn s s1 H H1 ∧ FrOK D env N σ s1.heap H1 ∧ match b with | true => WAnd Γ ini r σ H1 Q | false => Q (.bool false) H1) Nope s :=
        he.1.seq hc.1.1 hE hF hI hw fun v s1 pv H1 e1 st1 F1 I1 q1 => by
          cases pv with
          | bool b => obtain rfl := er_bool e1; refine ⟨b, H1, rfl, st1, F1, ?_⟩; cases b <;> exact q1
          | _ => exact q1.elim
      cases ps with
      | nil =>
        refine PyProof.Rows.BoolOp_one (wpAny_mono step (fun v s1 x => ?_) fun _ _ x => x)
        obtain ⟨b, H1, rfl, st1, F1, q⟩ := x
        refine ⟨_, H1, rfl, st1, ?_⟩
        cases b with
        | false => exact q
        | true =>
          cases r with
          | nil => exact q
          | cons _ _ => exact ff hc.2
      | cons p2 ps2 =>
        refine PyProof.Rows.BoolOp_and (wpAny_mono step (fun v s1 x => ?_) fun _ _ x => x)
        obtain ⟨b, H1, rfl, st1, F1, q⟩ := x
        refine wpAny_truthy_bool ?_
        cases b with
        | false => exact ⟨_, H1, rfl, st1, q⟩
        | true => exact wpAny_mono ((hr env N (p2 :: ps2) σ s1 H1 pos hc.2 hE F1 st1.inv).1 Q q (by simp)) (fun _ _ x => x.after st1) fun _ _ x => x
    · intro Q hw
      refine wpAny_allTrue_And_cons (he.2.seq (Q := fun b H1 => match b with | true => WAnd Γ ini r σ H1 (tl Q) | false => Q false H1) hc.1.1 hE hF hI ?_ fun b s1 H1 st1 F1 I1 q1 => ?_)
      · refine Eq.mp (congrArg (WE Γ ini e σ H) (funext fun v => funext fun H1 => ?_)) hw
        cases v with
        | bool b => cases b <;> rfl
        | _ => rfl
      · cases b with
        | false => exact ⟨H1, st1, q1⟩
        | true => exact wpAny_mono ((hr env N ps σ s1 H1 pos hc.2 hE F1 I1).2 Q q1) (fun _ _ x => let ⟨H2, st2, q2⟩ := x; ⟨H2, st1.trans st2, q2⟩) fun _ _ x => x
theorem sor_cons {e : CE} {r : CEs} (he : SB D fn Γ ini A e) (hr : SOr D fn Γ ini A r) : SOr D fn Γ ini A (.cons e r) := by
  intro env N ps σ s H pos hc hE hF hI
  cases ps with
  | nil => exact ff hc
  | cons p ps =>
    simp only [chkEs, Bool.and_eq_true, Bool.not_eq_true'] at hc
    constructor
    · intro Q hw _
      have step : wpAny (model D.prog D.w) A (eval p env) (fun v s1 => ∃ b H1, v = .bool b ∧ Step D noOwn s s1 H H1 ∧ FrOK D env N σ s1.heap H1 ∧ match b with | true => Q (.bool true) H1 | false => WOr Γ ini r σ H1 Q) Nope s :=
        he.1.seq hc.1.1 hE hF hI hw fun v s1 pv H1 e1 st1 F1 I1 q1 => by
          cases pv with
          | bool b => obtain rfl := er_bool e1; refine ⟨b, H1, rfl, st1, F1, ?_⟩; cases b <;> exact q1
          | _ => exact q1.elim
      cases ps with
      | nil =>
        refine PyProof.Rows.BoolOp_one (wpAny_mono step (fun v s1 x => ?_) fun _ _ x => x)
        obtain ⟨b, H1, rfl, st1, F1, q⟩ := x
        refine ⟨_, H1, rfl, st1, ?_⟩
        cases b with
        | true => exact q
        | false =>
          cases r with
          | nil => exact q
          | cons _ _ => exact ff hc.2
      | cons p2 ps2 =>
        refine PyProof.Rows.BoolOp_or (wpAny_mono step (fun v s1 x => ?_) fun _ _ x => x)
        obtain ⟨b, H1, rfl, st1, F1, q⟩ := x
        refine wpAny_truthy_bool ?_
        cases b with
        | true => exact ⟨_, H1, rfl, st1, q⟩
        | false => exact wpAny_mono ((hr env N (p2 :: ps2) σ s1 H1 pos hc.2 hE F1 st1.inv).1 Q q (by simp)) (fun _ _ x => x.after st1) fun _ _ x => x
    · intro Q hw
      refine wpAny_allTrue_Or_cons (he.2.seq (Q := fun b H1 => match b with | true => Q true H1 | false => WOr Γ ini r σ H1 (tl Q)) hc.1.1 hE hF hI ?_ fun b s1 H1 st1 F1 I1 q1 => ?_)
      · refine Eq.mp (congrArg (WE Γ ini e σ H) (funext fun v => funext fun H1 => ?_)) hw
        cases v with
        | bool b => cases b <;> rfl
        | _ => rfl
      · cases b with
        | true => exact ⟨H1, st1, q1⟩
        | false => exact wpAny_mono ((hr env N ps σ s1 H1 pos hc.2 hE F1 I1).2 Q q1) (fun _ _ x => let ⟨H2, st2, q2⟩ := x; ⟨H2, st1.trans st2, q2⟩) fun _ _ x => x

theorem se_and {as : CEs} (h : SAnd D fn Γ ini A as) : SB D fn Γ ini A (.and as) := by
  constructor
  · intro env N p σ s H Q hc hE hF hI hw
    obtain ⟨ps, pos, rfl, hcc⟩ := inv_and hc
    replace hc := hcc
    · skip
      simp only [Bool.and_eq_true, Bool.not_eq_true'] at hc
      exact (h env N ps σ s H pos hc.1 hE hF hI).1 Q hw (by rintro rfl; simp at hc)
  · intro env N p σ s H Q hc hE hF hI hw
    obtain ⟨ps, pos, rfl, hcc⟩ := inv_and hc
    replace hc := hcc
    · skip
      simp only [Bool.and_eq_true, Bool.not_eq_true'] at hc
      exact wpAny_isTrue_BoolOp ((h env N ps σ s H pos hc.1 hE hF hI).2 Q hw)
theorem se_or {as : CEs} (h : SOr D fn Γ ini A as) : SB D fn Γ ini A (.or as) := by
  constructor
  · intro env N p σ s H Q hc hE hF hI hw
    obtain ⟨ps, pos, rfl, hcc⟩ := inv_or hc
    replace hc := hcc
    · skip
      simp only [Bool.and_eq_true, Bool.not_eq_true'] at hc
      exact (h env N ps σ s H pos hc.1 hE hF hI).1 Q hw (by rintro rfl; simp at hc)
  · intro env N p σ s H Q hc hE hF hI hw
    obtain ⟨ps, pos, rfl, hcc⟩ := inv_or hc
    replace hc := hcc
    · skip
      simp only [Bool.and_eq_true, Bool.not_eq_true'] at hc
      exact wpAny_isTrue_BoolOp ((h env N ps σ s H pos hc.1 hE hF hI).2 Q hw)
end
end Mine
end

section
set_option maxRecDepth 100000
set_option Elab.async false
set_option linter.unusedVariables false
set_option linter.unusedSimpArgs false
open PySem PySem.Calls PySem.Spec
namespace Mine
open PySem.W (Frag TopRead instObj dictOf getL putL putN)

section
variable {D : Wd} {P : Nat → Option CFun} {ini : Nat} {ad : Nat → Nat} {fn : Nat → Option Str} {Γ : GT} {d : Nat} {A : Around}

theorem subscripted_eq {slice : Expr} {o i : Value} (h : isSlice slice = false) : subscripted slice false o i = operate [o, i] (getItem o i) := by
  cases slice <;> first | rfl | exact tf h

theorem at_sound {vs : List Value} {xs : List PV} {l : Nat} {k : Int} {t : Tok} {r : PV} {s : Shared} {R : Value → Shared → Prop} (hl : s.heap.IsList l vs.toArray) (el : EL vs xs) (h : atV xs k = some r) (hk : ∀ v, er v = some r → R v s) :
    wpAny (model D.prog D.w) A (getItem (.ref l) (.int k t)) R Nope s := by
  unfold atV at h
  split at h
  · rename_i hb
    have hs : vs.toArray.size = xs.length := by simpa using el.length
    split at h
    · rename_i h0
      obtain ⟨v, hv, ev⟩ := el.get h
      have : k.toNat < xs.length := (List.getElem?_eq_some_iff.mp h).1
      exact wpAny_getItem_list hl h0 (by unfold big at hb; omega) (by simpa using hv) (hk v ev)
    · rename_i h0
      split at h
      · rename_i h1
        obtain ⟨v, hv, ev⟩ := el.get h
        refine wpAny_getItem_list_neg hl (by omega) (by rw [hs]; omega) (by unfold big at hb; omega) ?_ (hk v ev)
        rw [hs, show (k + (xs.length : Int)) = (xs.length : Int) + k by omega]; simpa using hv
      · cases h
  · cases h

theorem idx_sound {a i r : PV} {u v : Value} {H : PH} {s : Shared} {R : Value → Shared → Prop} {p q : Expr} (hq : isSlice q = false) (I : Inv D s.heap H) (hu : er u = some a) (hv : er v = some i) (h : idxV H a i = some r)
    (k : ∀ v tk, er v = some r → R v { s with toks := tk }) : wpAny (model D.prog D.w) A (PyProof.Rows.subscriptTail p q u v) R Nope s := by
  cases a <;> (try (simp [idxV] at h; done))
  rename_i l
  obtain rfl := er_ref hu
  simp only [idxV] at h
  cases ha : H l with
  | none => rw [ha] at h; cases h
  | some o =>
    rw [ha] at h
    have rp := I.rep l o ha
    cases o with
    | list xs =>
      cases i <;> (try (simp at h; done))
      obtain ⟨t, rfl⟩ := er_int hv
      obtain ⟨vs, hl, el⟩ := rp
      exact PyProof.Rows.tail_any hl.isList.typeIs list_getitem_lookup (at_sound hl.isList el h fun v e => k v s.toks e) (subscripted_eq hq)
    | ro xs =>
      cases i <;> (try (simp at h; done))
      obtain ⟨t, rfl⟩ := er_int hv
      obtain ⟨vs, hl, el⟩ := rp
      exact PyProof.Rows.tail_any hl.typeIs list_getitem_lookup (at_sound hl el h fun v e => k v s.toks e) (subscripted_eq hq)
    | dS kvs =>
      cases i <;> (try (simp at h; done))
      obtain ⟨t, rfl⟩ := er_str hv
      obtain ⟨ks, hd, ep⟩ := rp
      obtain ⟨v, h1, h2⟩ := ep.lkp h
      exact PyProof.Rows.tail_any hd.typeIs F.slot_dict_getitem.lookup (wpAny_getItem_of (knd := strKind D.prog D.w) (by simp [strKind, Value.isStrOf]) hd.mapOf h1 (k v _ h2)) (subscripted_eq hq)
    | dI kvs =>
      cases i <;> (try (simp at h; done))
      obtain ⟨t, rfl⟩ := er_int hv
      obtain ⟨ks, hd, ep⟩ := rp
      obtain ⟨v, h1, h2⟩ := ep.lkp h
      exact PyProof.Rows.tail_any hd.typeIs F.slot_dict_getitem.lookup (wpAny_getItem_of (knd := intKind D.prog D.w) (by simp [intKind, Value.isInt]) hd.mapOf h1 (k v _ h2)) (subscripted_eq hq)
    | _ => simp at h

theorem se_idx {a i : CE} (ha : SE D fn Γ ini A a) (hi : SE D fn Γ ini A i) : SE D fn Γ ini A (.idx a i) := by
  intro env N p σ s H Q hc hE hF hI hw
  obtain ⟨_, _, _, rfl, hcc⟩ := inv_idx hc
  replace hc := hcc
  · simp only [Bool.and_eq_true, Bool.not_eq_true'] at hc
    refine PyProof.Rows.Subscript_ (ha.seq hc.1.1 hE hF hI hw fun u s1 pu H1 e1 st1 F1 I1 q1 => hi.seq hc.1.2 hE F1 I1 q1 fun v s2 pv H2 e2 st2 F2 I2 q2 => ?_)
    obtain ⟨r, hr, q⟩ := optW_some q2
    exact idx_sound hc.2 I2 e1 e2 hr fun w tk e3 => ⟨r, H2, e3, (st1.trans st2).trans (.toks I2), q⟩

theorem letName {p : Expr} (h : isNameE p = true) : ∀ o r, letTemporaryGo p o r = pure () := by
  cases p <;> first | (intro _ _; rfl) | exact ff h

theorem cut_ex {s0 s : Shared} {H0 H : PH} {pu pl : PV} {ph : Option PV} {u vl vh : Value} {xs : List PV} {Q : PV → PH → Prop} (st : Step D noOwn s0 s H0 H) (e1 : er u = some pu) (e2 : er vl = some pl) (e3 : match ph with | some p => er vh = some p | none => vh = .none)
    (h : cutV H pu pl ph = some xs) (hq : newW H (.list xs) Q) :
      ∃ l items lo hi, u = .ref l ∧ s.heap.IsList l items ∧ items.size ≤ sizeLine ∧ IsPart vl lo ∧ IsPart vh hi ∧
        Ex D s0 H0 Q (.ref (s.heap.objs.size + 1)) { s with heap := (s.heap.push { cls := .type "slice", data := .fields #[vl, vh, .none] }).push { cls := .type "list", data := .seq (slicePick items lo hi none) } } := by
  cases pu <;> (try (exact nf h))
  rename_i l
  obtain rfl := er_ref e1
  simp only [cutV] at h
  split at h
  · rename_i ys hy
    split at h
    · rename_i hb
      obtain ⟨vs, hl, el⟩ := seq_at st.inv hy
      have hs : vs.toArray.size = ys.length := by simpa using el.length
      have fin : ∀ lo hi, EL (slicePick vs.toArray lo hi none).toList xs → Ex D s0 H0 Q (.ref (s.heap.objs.size + 1)) { s with heap := (s.heap.push { cls := .type "slice", data := .fields #[vl, vh, .none] }).push { cls := .type "list", data := .seq (slicePick vs.toArray lo hi none) } } := by
        intro lo hi hx
        have e0 : ∀ b ob, s.heap.get? b = some ob → (s.heap.push { cls := .type "slice", data := .fields #[vl, vh, .none] }).get? b = some ob := fun b ob e => Heap.get?_push_of_some _ e
        have st1 : Step D noOwn s0 { s with heap := s.heap.push { cls := .type "slice", data := .fields #[vl, vh, .none] } } H0 H := st.trans (.ext st.inv e0)
        refine newW_ex (s := { s with heap := s.heap.push { cls := .type "slice", data := .fields #[vl, vh, .none] } }) (tk := s.toks) st1 hq ?_ (fun b ob e => Heap.get?_push_of_some _ e) ⟨(slicePick vs.toArray lo hi none).toList, ?_, hx⟩
        · rw [← Heap.size_push s.heap { cls := .type "slice", data := .fields #[vl, vh, .none] }]; exact fresh_size _
        · rw [← Heap.size_push s.heap { cls := .type "slice", data := .fields #[vl, vh, .none] }, Array.toArray_toList]; exact ⟨_, Heap.get?_push_size _ rfl⟩
      split at h
      · rename_i k
        split at h
        · rename_i hk
          cases h
          obtain ⟨t, rfl⟩ := er_int e2
          simp only at e3; subst e3
          refine ⟨l, _, some k, none, rfl, hl, by rw [hs]; exact big_size hb, .int _ _, .none, fin _ _ ?_⟩
          rw [slicePick_plain]
          have e := el.drop k.toNat
          have hh : clipAt ys.length k = min k.toNat ys.length := by
            have : k = ((k.toNat : Nat) : Int) := by omega
            rw [this, clipAt_nat]; rfl
          simp only [Option.elim, hs]
          rw [hh]
          have : ((vs.drop (min k.toNat ys.length)).take (ys.length - min k.toNat ys.length)) = vs.drop k.toNat := by
            rw [List.take_of_length_le (by rw [List.length_drop, el.length]; omega)]
            by_cases q : k.toNat ≤ ys.length
            · rw [Nat.min_eq_left q]
            · rw [Nat.min_eq_right (by omega), List.drop_eq_nil_of_le (by rw [el.length]; omega), List.drop_eq_nil_of_le (by rw [el.length]; omega)]
          simpa [this] using e
        · cases h
      · rename_i k m
        split at h
        · rename_i hk
          cases h
          obtain ⟨t, rfl⟩ := er_int e2
          simp only at e3
          obtain ⟨t', rfl⟩ := er_int e3
          refine ⟨l, _, some k, some m, rfl, hl, by rw [hs]; exact big_size hb, .int _ _, .int _ _, fin _ _ ?_⟩
          rw [slicePick_plain]
          have e := (el.drop k.toNat).take (m.toNat - k.toNat)
          have hh : clipAt ys.length k = min k.toNat ys.length := by
            have : k = ((k.toNat : Nat) : Int) := by omega
            rw [this, clipAt_nat]; rfl
          have hm : clipAt ys.length m = min m.toNat ys.length := by
            have : m = ((m.toNat : Nat) : Int) := by omega
            rw [this, clipAt_nat]; rfl
          simp only [Option.elim, hs]
          rw [hh, hm]
          have : ((vs.drop (min k.toNat ys.length)).take (min m.toNat ys.length - min k.toNat ys.length)) = (vs.drop k.toNat).take (m.toNat - k.toNat) := by
            have hl := el.length
            apply List.ext_getElem?
            intro i
            simp only [List.getElem?_take, List.getElem?_drop]
            by_cases q1 : i < m.toNat - k.toNat
            · rw [if_pos q1]
              by_cases q2 : i < min m.toNat ys.length - min k.toNat ys.length
              · rw [if_pos q2, Nat.min_eq_left (by omega)]
              · rw [if_neg q2, List.getElem?_eq_none (by omega)]
            · rw [if_neg q1]
              by_cases q2 : i < min m.toNat ys.length - min k.toNat ys.length
              · omega
              · rw [if_neg q2]
          simpa [this] using e
        · cases h
      · cases h
    · cases h
  · cases h

theorem se_slice {a lo : CE} (ha : SE D fn Γ ini A a) (hl : SE D fn Γ ini A lo) : SE D fn Γ ini A (.slice a lo) := by
  intro env N p σ s H Q hc hE hF hI hw
  obtain ⟨_, _, _, _, rfl, hcc⟩ := inv_slice hc
  replace hc := hcc
  · simp only [Bool.and_eq_true] at hc
    refine wpAny_Subscript_list_slice (ha.seq hc.1.2 hE hF hI hw fun u s1 pu H1 e1 st1 F1 I1 q1 => hl.seq hc.2 hE F1 I1 q1 fun v s2 pv H2 e2 st2 F2 I2 q2 => ?_) (letName hc.1.1)
    obtain ⟨xs, hx, q⟩ := optW_some q2
    exact wpAny_pure (cut_ex (st1.trans st2) e1 e2 rfl hx q)
theorem se_slice2 {a lo hi : CE} (ha : SE D fn Γ ini A a) (hl : SE D fn Γ ini A lo) (hh : SE D fn Γ ini A hi) : SE D fn Γ ini A (.slice2 a lo hi) := by
  intro env N p σ s H Q hc hE hF hI hw
  obtain ⟨_, _, _, _, _, rfl, hcc⟩ := inv_slice2 hc
  replace hc := hcc
  · simp only [Bool.and_eq_true] at hc
    refine wpAny_Subscript_list_slice (ha.seq hc.1.1.2 hE hF hI hw fun u s1 pu H1 e1 st1 F1 I1 q1 => hl.seq hc.1.2 hE F1 I1 q1 fun v s2 pv H2 e2 st2 F2 I2 q2 => hh.seq hc.2 hE F2 I2 q2 fun w s3 pw H3 e3 st3 F3 I3 q3 => ?_) (letName hc.1.1.1)
    obtain ⟨xs, hx, q⟩ := optW_some q3
    exact cut_ex ((st1.trans st2).trans st3) e1 e2 e3 hx q

theorem se_lst {as : CEs} (ha : SEs D fn Γ ini A as) : SE D fn Γ ini A (.lst as) := by
  intro env N p σ s H Q hc hE hF hI hw
  obtain ⟨_, _, rfl, hcc⟩ := inv_lst hc
  replace hc := hcc
  · refine wpAny_List (ha.seq hc hE hF hI hw fun vs s1 pvs H1 e1 st1 F1 I1 q1 => ⟨by rw [e1.length]; exact big_size q1.1, ?_⟩)
    exact newW_ex (tk := s1.toks) st1 q1.2 (fresh_size _) (fun b ob e => Heap.get?_push_of_some _ e) ⟨vs, ⟨_, Heap.get?_push_size _ rfl⟩, e1⟩
theorem se_tup {as : CEs} (ha : SEs D fn Γ ini A as) : SE D fn Γ ini A (.tup as) := by
  intro env N p σ s H Q hc hE hF hI hw
  obtain ⟨_, _, _, rfl, hcc⟩ := inv_tup hc
  replace hc := hcc
  · refine wpAny_Tuple (ha.seq hc hE hF hI hw fun vs s1 pvs H1 e1 st1 F1 I1 q1 => ⟨by rw [e1.length]; exact big_size q1.1, ?_⟩)
    exact newW_ex (tk := s1.toks) st1 q1.2 (fresh_size _) (fun b ob e => Heap.get?_push_of_some _ e) ⟨vs, ⟨_, Heap.get?_push_size _ rfl, rfl, _, rfl⟩, e1⟩
theorem se_dS : SE D fn Γ ini A .dS := by
  intro env N p σ s H Q hc hE hF hI hw
  obtain ⟨_, rfl, hcc⟩ := inv_dS hc
  replace hc := hcc
  · refine wpAny_Dict_empty ?_
    exact newW_ex (tk := s.toks) (.refl hI) hw (fresh_size _) (fun b ob e => Heap.get?_push_of_some _ e) ⟨[], Heap.DictOf.new _, rfl⟩
theorem se_dI : SE D fn Γ ini A .dI := by
  intro env N p σ s H Q hc hE hF hI hw
  obtain ⟨_, rfl, hcc⟩ := inv_dI hc
  replace hc := hcc
  · refine wpAny_Dict_empty ?_
    exact newW_ex (tk := s.toks) (.refl hI) hw (fresh_size _) (fun b ob e => Heap.get?_push_of_some _ e) ⟨[], Heap.DictOf.new _, rfl⟩

theorem se_cat {a b : CE} (ha : SE D fn Γ ini A a) (hb : SE D fn Γ ini A b) : SE D fn Γ ini A (.cat a b) := by
  intro env N p σ s H Q hc hE hF hI hw
  obtain ⟨_, _, _, rfl, hcc⟩ := inv_cat hc
  replace hc := hcc
  · simp only [Bool.and_eq_true] at hc
    refine wpAny_BinOp (ha.seq hc.1 hE hF hI hw fun u s1 pu H1 e1 st1 F1 I1 q1 => hb.seq hc.2 hE F1 I1 q1 fun v s2 pv H2 e2 st2 F2 I2 q2 => ?_)
    cases pu <;> cases pv <;> (try (exact q2.elim))
    rename_i x y
    obtain rfl := er_ref e1; obtain rfl := er_ref e2
    simp only at q2
    split at q2
    · rename_i xs ys hx hy
      obtain ⟨bx, by', q⟩ := q2
      obtain ⟨vs, ⟨n, l1⟩, el1⟩ := I2.rep x _ hx
      obtain ⟨ws, ⟨n2, l2⟩, el2⟩ := I2.rep y _ hy
      refine concat_meets ⟨_, l1, rfl⟩ ⟨_, l2, rfl⟩ noFill_list_add seq_list_add PySem.F.slot_list_add PySem.F.entry_list_add (PySem.F.args_list_add_2 _ _) (PyProof.Rows.list_addW x y vs.toArray ws.toArray n n2 none none #[] #[] (by have h1 := el1.length; have h2 := el2.length; simp only [List.size_toArray]; rw [h1, h2, sizeLine_eq]; unfold big at bx by'; omega)) ⟨l1, l2, ?_⟩
      refine newW_ex (tk := s2.toks) (st1.trans st2) q (fresh_size _) (fun b ob e => Heap.get?_push_of_some _ e) ⟨vs ++ ws, ?_, el1.append el2⟩
      rw [show (vs ++ ws).toArray = vs.toArray ++ ws.toArray by simp]
      exact ⟨_, Heap.get?_push_size _ rfl⟩
    · exact q2.elim

theorem foldl_one {v : Value} : ∀ n acc, List.foldl (fun (x1 x2 : Array Value) => x1 ++ x2) acc (List.replicate n #[v]) = acc ++ (List.replicate n v).toArray
  | 0, acc => by simp
  | n + 1, acc => by
    rw [List.replicate_succ, List.foldl_cons, foldl_one n, List.replicate_succ]
    apply Array.ext'
    simp [List.replicate_succ]
theorem se_rep {a b : CE} (ha : SE D fn Γ ini A a) (hb : SE D fn Γ ini A b) : SE D fn Γ ini A (.rep a b) := by
  intro env N p σ s H Q hc hE hF hI hw
  obtain ⟨_, _, _, rfl, hcc⟩ := inv_rep hc
  replace hc := hcc
  · simp only [Bool.and_eq_true] at hc
    refine wpAny_BinOp (ha.seq hc.1 hE hF hI hw fun u s1 pu H1 e1 st1 F1 I1 q1 => hb.seq hc.2 hE F1 I1 q1 fun v s2 pv H2 e2 st2 F2 I2 q2 => ?_)
    cases pu <;> cases pv <;> (try (exact q2.elim))
    rename_i x n
    obtain rfl := er_ref e1; obtain ⟨t, rfl⟩ := er_int e2
    simp only at q2
    split at q2
    · rename_i y hx
      obtain ⟨h0, hn, q⟩ := q2
      obtain ⟨vs, ⟨k, l1⟩, el1⟩ := I2.rep x _ hx
      obtain ⟨v, vs', rfl, ev, e0⟩ := el1.cons
      obtain rfl := e0.nil
      refine wpAny_binaryOp_repeat_ref (T := "list") (U := "int") (by decide) ⟨_, l1, rfl⟩ (fun s' => typeIs_int s' n t) noFill_list_mul F.fills_int_mul F.slot_int_rmul repeat_list F.slot_int_index.lookup
        (call_meets F.slot_int_rmul (typeIs_int s2 n t) F.entry_int_rmul (F.args_int_rmul_2 _ _) (int___rmul___int_list n t x [v].toArray k)
          ⟨l1, rfl, ⟨_, l1, rfl⟩, call_meets F.slot_list_mul ⟨_, l1, rfl⟩ F.entry_list_mul (F.args_list_mul_2 _ _)
            (AutoListH.list___mul___list_int_3 x [v].toArray k n t (by unfold big at hn; simp [Builtin.List.listFitsIndex]; omega) (by have : ([v] : List Value).toArray.size = 1 := rfl; rw [this]; unfold big at hn; omega) (by unfold big at hn; simp [Builtin.List.listTooLong, sizeLine]; omega))
            ⟨l1, ?_⟩⟩)
      refine newW_ex (tk := s2.toks) (st1.trans st2) q (fresh_size _) (fun b ob e => Heap.get?_push_of_some _ e) ⟨List.replicate n.toNat v, ⟨0, ?_⟩, ?_⟩
      · rw [Heap.get?_push_size _ rfl]
        have : ([v].toArray.isEmpty = true) = False := by simp
        simp only [this, if_false]
        rw [show ([v] : List Value).toArray = #[v] from rfl, foldl_one]; simp
      · show List.map _ _ = List.map _ _
        rw [List.map_replicate, List.map_replicate, ev]
    · exact q2.elim
end
end Mine
end

section
set_option maxRecDepth 100000
set_option Elab.async false
set_option linter.unusedVariables false
set_option linter.unusedSimpArgs false
open PySem PySem.Calls PySem.Spec
namespace Mine
open PySem.W (Frag TopRead instObj dictOf getL putL putN)

/-! hidden objects -/
theorem Step.hid {D : Wd} {own : Nat → Prop} {s : Shared} {H : PH} {h' : Heap} {tk : Nat} {X : Nat} (I : Inv D s.heap H) (hX : own X) (hH : H X = none) (h0 : D.h0.get? X = none) (hk : ∀ b o, b ≠ X → s.heap.get? b = some o → h'.get? b = some o)
    (hl : ∃ o, h'.get? X = some o) : Step D own s { s with heap := h', toks := tk } H H := by
  refine ⟨⟨_, _, rfl⟩, ⟨fun b o e => hk b o (by rintro rfl; rw [h0] at e; cases e) (I.base b o e), fun a o e => (I.rep a o e).at fun o' e' => hk a o' (by rintro rfl; rw [hH] at e; cases e) e', I.new⟩, fun b o _ hb e => hk b o (by rintro rfl; exact hb hX) e, fun b o _ e => ?_, fun _ _ _ e => e⟩
  by_cases q : b = X
  · subst q; exact hl
  · exact ⟨o, hk b o q e⟩
theorem Step.drop {D : Wd} {own : Nat → Prop} {s s1 : Shared} {H H1 : PH} {h' : Heap} {tk : Nat} {X : Nat} (x : Step D (fun b => b = X ∨ own b) s s1 H H1) (hX : s.heap.get? X = none) (h0 : D.h0.get? X = none) (hH : H1 X = none)
    (hk : ∀ b o, b ≠ X → s1.heap.get? b = some o → h'.get? b = some o) : Step D own s { s1 with heap := h', toks := tk } H H1 := by
  obtain ⟨h, tk', rfl⟩ := x.same
  have ne : ∀ {b o}, s.heap.get? b = some o → b ≠ X := fun e => by rintro rfl; rw [hX] at e; cases e
  refine ⟨⟨_, _, rfl⟩, ⟨fun b o e => hk b o (by rintro rfl; rw [h0] at e; cases e) (x.inv.base b o e), fun a o e => (x.inv.rep a o e).at fun o' e' => hk a o' (by rintro rfl; rw [hH] at e; cases e) e', x.inv.new⟩, fun b o hb ho e => ?_, fun b o hb e => ?_, x.dom⟩
  · exact hk b o (ne e) (x.keep b o hb (by rintro (q | q); exact ne e q; exact ho q) e)
  · obtain ⟨o', e'⟩ := x.live b o hb e
    exact ⟨o', hk b o' (ne e) e'⟩
theorem Step.expose {D : Wd} {own : Nat → Prop} {s s1 : Shared} {H H1 : PH} {X : Nat} {o : PObj} (x : Step D (fun b => b = X ∨ own b) s s1 H H1) (hX : s.heap.get? X = none) (h0 : D.h0.get? X = none) (hH : H1 X = none) (r : RO D s1.heap X o) :
    Step D own s s1 H (H1.set X o) := by
  have ne : ∀ {b o}, s.heap.get? b = some o → b ≠ X := fun e => by rintro rfl; rw [hX] at e; cases e
  refine ⟨x.same, ⟨x.inv.base, fun a o' e => ?_, fun a o' e => ?_⟩, fun b o hb ho e => x.keep b o hb (by rintro (q | q); exact ne e q; exact ho q) e, x.live, fun b o' e hb => ?_⟩
  · by_cases q : a = X
    · subst q; rw [PH.set_same] at e; cases e; exact r
    · rw [PH.set_ne q] at e; exact x.inv.rep a o' e
  · by_cases q : a = X
    · subst q; exact .inr h0
    · rw [PH.set_ne q] at e; exact x.inv.new a o' e
  · rw [PH.set_ne (ne e)]; exact x.dom b o' e hb

theorem Inv.old {D : Wd} {h : Heap} {H : PH} (I : Inv D h H) {X : Nat} (hX : h.get? X = none) : D.h0.get? X = none := by
  cases q : D.h0.get? X with
  | none => rfl
  | some o' => rw [I.base X o' q] at hX; cases hX

theorem FrOK.env_some {D : Wd} {env : Env} {N : List (Str × NK)} {σ : Sg} {h : Heap} {H : PH} (F : FrOK D env N σ h H) {b : Nat} (hb : ownOf env b) : ∃ o, h.get? b = some o := by
  rcases hb with rfl | ⟨n, hc⟩
  · obtain ⟨m, ⟨o, _, _, e, _⟩, _⟩ := F.ns; exact ⟨o, e⟩
  · exact F.live n b hc
theorem FrOK.ne {D : Wd} {env : Env} {N : List (Str × NK)} {σ : Sg} {h : Heap} {H : PH} (F : FrOK D env N σ h H) {b X : Nat} (hb : ownOf env b) (hX : h.get? X = none) : b ≠ X := by
  obtain ⟨o, e⟩ := F.env_some hb
  rintro rfl; rw [hX] at e; cases e
/-- the frame's objects stand -/
theorem FrOK.stay {D : Wd} {env : Env} {N : List (Str × NK)} {σ : Sg} {h h' : Heap} {H H' : PH} (F : FrOK D env N σ h H) (hk : ∀ b o, ownOf env b → h.get? b = some o → h'.get? b = some o) (hH : ∀ b, ownOf env b → H' b = none) : FrOK D env N σ h' H' := by
  obtain ⟨m, hn, hm⟩ := F.ns
  refine ⟨⟨m, Ns.at hn fun o e => hk _ o (.inl rfl) e, hm⟩, fun n i c h1 h2 => ?_, hH, F.old, fun n c hc => ?_⟩
  · have k : ∀ o, h.get? c = some o → h'.get? c = some o := fun o e => hk _ o (.inr ⟨n, h2⟩) e
    obtain ⟨⟨v, hv⟩, hc⟩ := F.cl n i c h1 h2
    exact ⟨⟨v, IsCell.at hv k⟩, fun pv hp => let ⟨v, a, b⟩ := hc pv hp; ⟨v, IsCell.at a k, b⟩⟩
  · obtain ⟨o, e⟩ := F.live n c hc
    exact ⟨o, hk _ o (.inr ⟨n, hc⟩) e⟩

theorem gt_st_ne : ∀ {σ : Sg} {i j : Nat} {pv : PV}, j ≠ i → gt (st σ i pv) j = gt σ j
  | [], _, _, _, _ => rfl
  | _ :: _, 0, 0, _, h => (h rfl).elim
  | _ :: _, 0, _ + 1, _, _ => rfl
  | _ :: _, _ + 1, 0, _, _ => rfl
  | _ :: r, i + 1, j + 1, pv, h => gt_st_ne (σ := r) (i := i) (j := j) (pv := pv) (by omega)
theorem gt_st_same : ∀ {σ : Sg} {i : Nat} {pv pv' : PV}, gt (st σ i pv) i = some pv' → pv' = pv
  | [], _, _, _, h => by cases h
  | _ :: _, 0, _, _, h => by cases h; rfl
  | _ :: r, i + 1, pv, pv', h => gt_st_same (σ := r) (i := i) h

section
variable {D : Wd} {P : Nat → Option CFun} {ini : Nat} {ad : Nat → Nat} {fn : Nat → Option Str} {Γ : GT} {d : Nat} {A : Around} {M : Model} {E : Value → Shared → Prop}

theorem noClassMod {env : Env} (h : env.scope.kind = .function) : (env.scope.kind == .class || (env.scope.kind == .module && env.locals != env.globals)) = false := by rw [h]; rfl

/-- one name bound -/
theorem store_ok {env : Env} {N : List (Str × NK)} {σ : Sg} {s : Shared} {H : PH} {y : Str} {i : Nat} {v : Value} {pv : PV} {R : Unit → Shared → Prop} (hE : EnvOK env N) (F : FrOK D env N σ s.heap H) (I : Inv D s.heap H) (hy : (N.lookup y).bind nkSlot = some i) (hv : er v = some pv)
    (k : ∀ h' tk, Step D (ownOf env) s { s with heap := h', toks := tk } H H → FrOK D env N (st σ i pv) h' H → R () { s with heap := h', toks := tk }) : wpAny M A (storeName env y v) R E s := by
  obtain ⟨m, hn, hm⟩ := F.ns
  have oth : ∀ {x j kk}, N.lookup x = some kk → nkSlot kk = some j → x ≠ y → j ≠ i := by
    intro x j kk e1 e2 hne e
    subst e
    exact hne (hE.inj x y j (by rw [e1]; exact e2) hy)
  cases hl : N.lookup y with
  | none => rw [hl] at hy; cases hy
  | some kk =>
    rw [hl] at hy
    cases kk with
    | glo => cases hy
    | loc j =>
      obtain rfl : j = i := by simpa [nkSlot] using hy
      refine wpAny_storeName_local (hE.loc y j hl) hn (fun h' hn' hs => k h' _ (.hid I (.inl rfl) (F.off _ (.inl rfl)) (F.old _ (.inl rfl)) (fun b o hb e => hs.extBut b o hb e) (let ⟨o, _, _, e, _⟩ := hn'; ⟨o, e⟩)) ?_) (noClassMod hE.fn)
      refine ⟨⟨_, hn', fun x i' hx pv' hp => ?_⟩, fun x i' c hx hc => ?_, F.off, F.old, fun x c hc => ?_⟩
      · by_cases q : x = y
        · subst q
          rw [hl] at hx; cases hx
          rw [gt_st_same hp]
          exact ⟨v, if_pos rfl, hv⟩
        · rw [gt_st_ne (oth hx rfl q)] at hp
          obtain ⟨v', h1, h2⟩ := hm x i' hx pv' hp
          exact ⟨v', by rw [if_neg q]; exact h1, h2⟩
      · have hne : x ≠ y := by rintro rfl; rw [hl] at hx; cases hx
        have hk : ∀ o, s.heap.get? c = some o → h'.get? c = some o := fun o e => hs.extBut c o (hE.off x c hc) e
        rw [gt_st_ne (oth hx rfl hne)]
        obtain ⟨⟨u, hu⟩, hw⟩ := F.cl x i' c hx hc
        exact ⟨⟨u, IsCell.at hu hk⟩, fun pv' hp => let ⟨w, a, b⟩ := hw pv' hp; ⟨w, IsCell.at a hk, b⟩⟩
      · obtain ⟨o, e⟩ := F.live x c hc
        exact ⟨o, hs.extBut c o (hE.off x c hc) e⟩
    | cel j =>
      obtain rfl : j = i := by simpa [nkSlot] using hy
      obtain ⟨hkd, c, hc⟩ := hE.cel y j hl
      obtain ⟨⟨v0, hv0⟩, _⟩ := F.cl y j c hl hc
      refine wpAny_storeName_cell hE.fn hkd hc hv0 fun h' hn' hs => k h' s.toks (.hid I (.inr ⟨y, hc⟩) (F.off _ (.inr ⟨y, hc⟩)) (F.old _ (.inr ⟨y, hc⟩)) (fun b o hb e => hs.extBut b o hb e) (let ⟨o, e, _⟩ := hn'; ⟨o, e⟩)) ?_
      have keep : ∀ b o, b ≠ c → s.heap.get? b = some o → h'.get? b = some o := fun b o hb e => hs.extBut b o hb e
      refine ⟨⟨m, Ns.at hn fun o e => keep _ o (Ne.symm (hE.off y c hc)) e, fun x i' hx pv' hp => ?_⟩, fun x i' c' hx hc' => ?_, F.off, F.old, fun x c' hc' => ?_⟩
      · have hne : x ≠ y := by rintro rfl; rw [hl] at hx; cases hx
        rw [gt_st_ne (oth hx rfl hne)] at hp
        exact hm x i' hx pv' hp
      · by_cases q : x = y
        · subst q
          rw [hl] at hx; cases hx
          rw [hc] at hc'; cases hc'
          exact ⟨⟨_, hn'⟩, fun pv' hp => ⟨v, hn', by rw [gt_st_same hp]; exact hv⟩⟩
        · have hne : c' ≠ c := by rintro rfl; exact q (hE.apart x y c' hc' hc)
          rw [gt_st_ne (oth hx rfl q)]
          obtain ⟨⟨u, hu⟩, hw⟩ := F.cl x i' c' hx hc'
          exact ⟨⟨u, IsCell.at hu fun o e => keep _ o hne e⟩, fun pv' hp => let ⟨w, a, b⟩ := hw pv' hp; ⟨w, IsCell.at a fun o e => keep _ o hne e, b⟩⟩
      · obtain ⟨o, e⟩ := F.live x c' hc'
        by_cases q : c' = c
        · subst q; obtain ⟨o', e', _⟩ := hn'; exact ⟨o', e'⟩
        · exact ⟨o, keep _ o q e⟩
end
end Mine
end

section
set_option maxRecDepth 100000
set_option Elab.async false
set_option linter.unusedVariables false
set_option linter.unusedSimpArgs false
open PySem PySem.Calls PySem.Spec
namespace Mine
open PySem.W (Frag TopRead instObj dictOf getL putL putN)

noncomputable def ItAt (I : Nat) (a : Option (Nat × PObj)) (xs : List PV) (i : Nat) (h : Heap) : Prop := match a with
  | some (b, _) => h.IsListIter I b i
  | none => ∃ (a0 c : Int) (n : Nat), xs = (List.range n).map (fun (k : Nat) => PV.int (a0 + (k : Int) * c)) ∧ IsRangeIter h I (a0 + (i : Nat) * c) ((n : Int) - (i : Nat)) c
noncomputable def SrcOK (a : Option (Nat × PObj)) (xs : List PV) : Prop := match a with
  | some (_, o) => seqOf (some o) = some xs
  | none => True
theorem ItAt.at {I : Nat} {a : Option (Nat × PObj)} {xs : List PV} {i : Nat} {h h' : Heap} (x : ItAt I a xs i h) (hk : ∀ o, h.get? I = some o → h'.get? I = some o) : ItAt I a xs i h' := by
  cases a with
  | some b => obtain ⟨o, e, r⟩ := x; exact ⟨o, hk o e, r⟩
  | none => obtain ⟨a0, c, n, e, r⟩ := x; exact ⟨a0, c, n, e, hk _ r⟩
theorem ItAt.some {I : Nat} {a : Option (Nat × PObj)} {xs : List PV} {i : Nat} {h : Heap} (x : ItAt I a xs i h) : ∃ o, h.get? I = some o := by
  cases a with
  | some b => obtain ⟨o, e, r⟩ := x; exact ⟨o, e⟩
  | none => obtain ⟨a0, c, n, e, r⟩ := x; exact ⟨_, r⟩

section
variable {D : Wd} {P : Nat → Option CFun} {ini : Nat} {ad : Nat → Nat} {fn : Nat → Option Str} {Γ : GT} {d : Nat} {A : Around} {E : Value → Shared → Prop}

theorem it_item {I : Nat} {a : Option (Nat × PObj)} {xs : List PV} {i : Nat} {s : Shared} {H : PH} {pv : PV} {R : Option Value → Shared → Prop} (hI : Inv D s.heap H) (hit : ItAt I a xs i s.heap) (hs : SrcOK a xs) (hst : still a H) (hi : xs[i]? = some pv)
    (k : ∀ v h' tk, er v = some pv → ItAt I a xs (i + 1) h' → (∀ b o, b ≠ I → s.heap.get? b = some o → h'.get? b = some o) → R (some v) { s with heap := h', toks := tk }) : wpAny (model D.prog D.w) A (pyNext (.ref I)) R E s := by
  cases a with
  | some b =>
    obtain ⟨b, o⟩ := b
    obtain ⟨vs, hl, el⟩ := seq_at hI (show seqOf (H b) = some xs by rw [show H b = some o from hst]; exact hs)
    obtain ⟨v, hv, ev⟩ := el.get hi
    exact wpAny_pyNext_list_item hit hl (by simpa using hv) fun h' h1 h2 => k v h' _ ev h1 fun b o hb e => h2.extBut b o hb e
  | none =>
    obtain ⟨a0, c, n, e, r⟩ := hit
    subst e
    have hn : i < n := by have := (List.getElem?_eq_some_iff.mp hi).1; simpa using this
    simp only [List.getElem?_map, List.getElem?_range hn, Option.map_some, Option.some.injEq] at hi
    subst hi
    refine wpAny_pyNext_range_item r (by omega) fun h' h1 h2 => k _ h' _ rfl ⟨a0, c, n, rfl, ?_⟩ fun b o hb e => h2.extBut b o hb e
    have e1 : a0 + ((i + 1 : Nat) : Int) * c = a0 + (i : Int) * c + c := by push_cast; rw [Int.add_mul, Int.one_mul, Int.add_assoc]
    have e2 : (n : Int) - ((i + 1 : Nat) : Int) = (n : Int) - (i : Int) - 1 := by push_cast; omega
    rw [e1, e2]; exact h1
theorem it_end {I : Nat} {a : Option (Nat × PObj)} {xs : List PV} {i : Nat} {s : Shared} {H : PH} {R : Option Value → Shared → Prop} (hh : A.handled = none) (hI : Inv D s.heap H) (hit : ItAt I a xs i s.heap) (hs : SrcOK a xs) (hst : still a H) (hi : xs.length ≤ i)
    (k : ∀ h' tk, (∀ b o, b ≠ I → s.heap.get? b = some o → h'.get? b = some o) → R none { s with heap := h', toks := tk }) : wpAny (model D.prog D.w) A (pyNext (.ref I)) R E s := by
  cases a with
  | some b =>
    obtain ⟨b, o⟩ := b
    obtain ⟨vs, hl, el⟩ := seq_at hI (show seqOf (H b) = some xs by rw [show H b = some o from hst]; exact hs)
    exact wpAny_pyNext_list_end hh hit hl (by have := el.length; simp; omega) fun h' h2 => k h' _ h2
  | none =>
    obtain ⟨a0, c, n, e, r⟩ := hit
    subst e
    have hn : n ≤ i := by simpa using hi
    exact wpAny_pyNext_range_end hh r (by omega) fun h' h2 => k h' _ h2

/-- an iterator stands ready -/
noncomputable def ItOK (D : Wd) (s0 : Shared) (H0 : PH) (Q : Option (Nat × PObj) → List PV → PH → Prop) (it : Value) (s2 : Shared) : Prop :=
  ∃ I a xs s1 H1, it = .ref I ∧ Step D noOwn s0 s1 H0 H1 ∧ s1.heap.get? I = none ∧ Step D noOwn s1 s2 H1 H1 ∧ ItAt I a xs 0 s2.heap ∧ SrcOK a xs ∧ still a H1 ∧ xs.length ≤ sizeLine ∧ Q a xs H1
noncomputable def SSrc (D : Wd) (fn : Nat → Option Str) (Γ : GT) (ini : Nat) (A : Around) (src : CSrc) : Prop :=
  ∀ (env : Env) (N : List (Str × NK)) (p : Expr) (σ : Sg) (s : Shared) (H : PH) (Q : Option (Nat × PObj) → List PV → PH → Prop) (E : Value → Shared → Prop), chkSrc fn N src p = true → EnvOK env N → FrOK D env N σ s.heap H → Inv D s.heap H → WSrc Γ ini src σ H Q →
    wpAny (model D.prog D.w) A (eval p env) (fun x s1 => wpAny (model D.prog D.w) A (pyIter x) (ItOK D s H Q) E s1) E s

theorem src_set {N : List (Str × NK)} {src : CSrc} {p : Expr} {env : Env} (h : chkSrc fn N src p = true) : ∀ x, foldedSetIterable p env x = pure x := by
  cases src with
  | it e =>
    simp only [chkSrc, Bool.and_eq_true, Bool.not_eq_true'] at h
    intro x
    cases p <;> first | rfl | exact tf h.2
  | rng as =>
    obtain ⟨_, _, _, _, rfl, hcc⟩ := inv_rng h
    replace h := hcc
    · intro x; rfl

theorem ssrc_it {e : CE} (he : SE D fn Γ ini A e) : SSrc D fn Γ ini A (.it e) := by
  intro env N p σ s H Q E hc hE hF hI hw
  simp only [chkSrc, Bool.and_eq_true, Bool.not_eq_true'] at hc
  refine wpAny_mono (he.seq (R := fun x s1 => wpAny (model D.prog D.w) A (pyIter x) (ItOK D s H Q) E s1) hc.1 hE hF hI hw fun v s1 pv H1 e1 st1 F1 I1 q1 => ?_) (fun _ _ x => x) fun _ _ x => x.elim
  cases pv <;> (try (exact q1.elim))
  rename_i a
  obtain rfl := er_ref e1
  simp only at q1
  have fin : ∀ o xs, H1 a = some o → seqOf (some o) = some xs → xs.length ≤ big → Q (some (a, o)) xs H1 → wpAny (model D.prog D.w) A (pyIter (.ref a)) (ItOK D s H Q) E s1 := by
    intro o xs ho hs hb q
    obtain ⟨vs, hl, el⟩ := seq_at I1 (show seqOf (H1 a) = some xs by rw [ho]; exact hs)
    refine wpAny_pyIter_list hl ⟨s1.heap.objs.size, some (a, o), xs, s1, H1, rfl, st1, fresh_size _, .ext (tk := s1.toks) I1 fun b ob e => Heap.get?_push_of_some _ e, ⟨_, Heap.get?_push_size _ rfl, rfl, rfl⟩, hs, ho, big_size hb, q⟩
  split at q1
  · rename_i xs ha; exact fin _ xs ha rfl q1.1 q1.2
  · rename_i xs ha; exact fin _ xs ha rfl q1.1 q1.2
  · exact q1.elim

theorem rng_fits {k : Int} (h : k.natAbs ≤ 100000) : Builtin.Range.rangeFitsLong k = true := by
  unfold Builtin.Range.rangeFitsLong; simp; omega
theorem rng_size {a b c : Int} (ha : a.natAbs ≤ big) (hb : b.natAbs ≤ big) (hc : c.natAbs ≤ big) (h0 : c ≠ 0) : 0 ≤ Builtin.Range.rangeSize a b c ∧ Builtin.Range.rangeSize a b c ≤ 2000 := by
  unfold big at ha hb hc
  unfold Builtin.Range.rangeSize
  split
  · split
    · have h1 := Int.ediv_le_self (b := c) (show 0 ≤ b - a - 1 by omega)
      have h2 := Int.ediv_nonneg (b := c) (show 0 ≤ b - a - 1 by omega) (by omega)
      omega
    · omega
  · split
    · have h1 := Int.ediv_le_self (b := -c) (show 0 ≤ a - b - 1 by omega)
      have h2 := Int.ediv_nonneg (b := -c) (show 0 ≤ a - b - 1 by omega) (by omega)
      omega
    · omega
theorem rng_small {a b c : Int} (ha : a.natAbs ≤ big) (hb : b.natAbs ≤ big) (hc : c.natAbs ≤ big) (h0 : c ≠ 0) : Builtin.Range.small a b c = true := by
  have h := rng_size ha hb hc h0
  unfold big at ha hb hc
  unfold Builtin.Range.small
  rw [rng_fits (by omega), rng_fits (by omega), rng_fits (by omega), rng_fits (by omega)]
  simp only [Bool.true_and, Bool.or_eq_true]
  right
  split
  · exact rng_fits (by omega)
  · exact rng_fits (by omega)

theorem ssrc_rng {as : CEs} (hG : GlOK D P ini ad fn) (hA : SEs D fn Γ ini A as) : SSrc D fn Γ ini A (.rng as) := by
  intro env N p σ s H Q E hc hE hF hI hw
  obtain ⟨x, px, ps, pos, rfl, hcc⟩ := inv_rng hc
  replace hc := hcc
  · skip
    simp only [Bool.and_eq_true] at hc
    have step : wpAny (model D.prog D.w) A (eval (.Call (.Name x px) ps [] pos) env) (fun x s1 => wpAny (model D.prog D.w) A (pyIter x) (ItOK D s H Q) E s1) Nope s := by
      refine call_arm (name_blt (n := "range") hG hE hI hc.1 (hG.blt _ (by simp)) boot_range' (by decide) ?_)
      refine call_typ (chkEs_plain hc.2) (hA.seq hc.2 hE hF hI hw fun vs s1 pvs H1 e1 st1 F1 I1 q1 => ?_)
      obtain ⟨xs, hx, q⟩ := optW_some q1
      have fin : ∀ (a b c : Int) (t u v : Tok) (tk : Nat), a.natAbs ≤ big → b.natAbs ≤ big → c.natAbs ≤ big → c ≠ 0 → xs = rngI a b c →
          wpAny (model D.prog D.w) A (pyIter (.ref s1.heap.objs.size)) (ItOK D s H Q) E { s1 with heap := s1.heap.push { cls := .type "range", data := .fields #[.int a t, .int b u, .int c v] }, toks := tk } := by
        intro a b c t u v tk ha hb hc' h0 hxs
        subst hxs
        have st2 : Step D noOwn s { s1 with heap := s1.heap.push { cls := .type "range", data := .fields #[.int a t, .int b u, .int c v] }, toks := tk } H H1 := st1.trans (.ext I1 fun b ob e => Heap.get?_push_of_some _ e)
        have hsz := rng_size ha hb hc' h0
        refine wpAny_pyIter_range (a := a) (b := b) (c := c) (t := t) (u := u) (v := v) (Heap.get?_push_size _ rfl) (rng_small ha hb hc' h0) ⟨_, none, rngI a b c, _, H1, rfl, st2, fresh_size _, .ext (tk := tk) st2.inv fun b ob e => Heap.get?_push_of_some _ e, ⟨a, c, rngN a b c, rfl, ?_⟩, trivial, trivial, ?_, q⟩
        · have e1 : a + ((0 : Nat) : Int) * c = a := by simp
          have e2 : (rngN a b c : Int) - ((0 : Nat) : Int) = Builtin.Range.rangeSize a b c := by
            show ((Builtin.Range.rangeSize a b c).toNat : Int) - ((0 : Nat) : Int) = _
            omega
          rw [e1, e2]
          exact Heap.get?_push_size _ rfl
        · have : (rngI a b c).length = (Builtin.Range.rangeSize a b c).toNat := by
            unfold rngI; rw [List.length_map, List.length_range]; rfl
          rw [this, sizeLine_eq]; omega
      unfold rngV at hx
      split at hx
      · rename_i n
        split at hx
        · rename_i hb
          obtain ⟨v, vs', rfl, ev, e0⟩ := e1.cons
          obtain rfl := e0.nil
          obtain ⟨t, rfl⟩ := er_int ev
          exact call_range_1 (fin 0 n 1 _ _ _ _ (by decide) hb (by decide) (by decide) (Option.some.inj hx).symm)
        · cases hx
      · rename_i a b
        split at hx
        · rename_i hb
          obtain ⟨v, vs', rfl, ev, e0⟩ := e1.cons
          obtain ⟨v2, vs2, rfl, ev2, e0⟩ := e0.cons
          obtain rfl := e0.nil
          obtain ⟨t, rfl⟩ := er_int ev
          obtain ⟨t2, rfl⟩ := er_int ev2
          exact call_range_2 (fin a b 1 _ _ _ _ hb.1 hb.2 (by decide) (by decide) (Option.some.inj hx).symm)
        · cases hx
      · rename_i a b c
        split at hx
        · rename_i hb
          obtain ⟨v, vs', rfl, ev, e0⟩ := e1.cons
          obtain ⟨v2, vs2, rfl, ev2, e0⟩ := e0.cons
          obtain ⟨v3, vs3, rfl, ev3, e0⟩ := e0.cons
          obtain rfl := e0.nil
          obtain ⟨t, rfl⟩ := er_int ev
          obtain ⟨t2, rfl⟩ := er_int ev2
          obtain ⟨t3, rfl⟩ := er_int ev3
          exact call_range_3 hb.2.2.2 (fin a b c _ _ _ _ hb.1 hb.2.1 hb.2.2.1 hb.2.2.2 (Option.some.inj hx).symm) (.inl (PyProof.noPylong_small (by have := hb.2.2.1; unfold big at this; omega)))
        · cases hx
      · cases hx
    exact wpAny_mono step (fun _ _ x => x) fun _ _ x => x.elim

/-! statements -/
noncomputable def flOK : Flow → Fl → Prop
  | .next, .next => True
  | .ret v, .ret pv => er v = some pv
  | _, _ => False
noncomputable def Sp (D : Wd) (env : Env) (N : List (Str × NK)) (s : Shared) (H : PH) (Q : Fl → Sg → PH → Prop) (f : Flow) (s' : Shared) : Prop := ∃ fl σ' H', flOK f fl ∧ Step D (ownOf env) s s' H H' ∧ FrOK D env N σ' s'.heap H' ∧ Q fl σ' H'
noncomputable def SS (D : Wd) (fn : Nat → Option Str) (Γ : GT) (ini : Nat) (A : Around) (c : CS) : Prop :=
  ∀ (env : Env) (N : List (Str × NK)) (p : Stmt) (σ : Sg) (s : Shared) (H : PH) (Q : Fl → Sg → PH → Prop), chkS fn N c p = true → EnvOK env N → FrOK D env N σ s.heap H → Inv D s.heap H → WS Γ ini c σ H Q →
    wpAny (model D.prog D.w) A (exec p env) (Sp D env N s H Q) Nope s
noncomputable def SSs (D : Wd) (fn : Nat → Option Str) (Γ : GT) (ini : Nat) (A : Around) (c : CSs) : Prop :=
  ∀ (env : Env) (N : List (Str × NK)) (p : List Stmt) (σ : Sg) (s : Shared) (H : PH) (Q : Fl → Sg → PH → Prop), chkSs fn N c p = true → EnvOK env N → FrOK D env N σ s.heap H → Inv D s.heap H → WSs Γ ini c σ H Q →
    wpAny (model D.prog D.w) A (execs p env) (Sp D env N s H Q) Nope s

theorem ss_for {x : Nat} {src : CSrc} {b : CSs} (hR : Room A d) (hs : SSrc D fn Γ ini A src) (hb : SSs D fn Γ ini A b) : SS D fn Γ ini A (.forr x src b) := by
  intro env N p σ s H Q hc hE hF hI hw
  obtain ⟨y, py, it, pb, pos, rfl, hcc⟩ := ins_forr hc
  replace hc := hcc
  · skip
    simp only [Bool.and_eq_true] at hc
    obtain ⟨⟨c1, c2⟩, c3⟩ := hc
    have hy : N.lookup y = some (.loc x) := by simpa [isLoc] using c1
    refine wpAny_For (wpAny_mono (hs env N it σ s H _ Nope c2 hE hF hI hw) (fun v s1 h1 => wpAny_mono h1 (fun w s2 h2 => ?_) fun _ _ x => x) fun _ _ x => x) (src_set c2)
    obtain ⟨I, a, xs, s1, H1, rfl, st1, fI, st2, it0, so, sl, hsz, q⟩ := h2
    have F1 := hF.step st1
    have F2 := F1.step st2
    have hI1 : H1 I = none := st1.inv.fresh fI
    have h0I : D.h0.get? I = none := st1.inv.old fI
    have nI : ∀ b, ownOf env b → b ≠ I := fun b hb => F1.ne hb fI
    have fIs : s1.heap.get? I = none := fI
    refine codeAny_forLoop (fun n s' => ∃ i σ' H', n = xs.length + 1 - i ∧ i ≤ xs.length ∧ Step D (fun b => b = I ∨ ownOf env b) s1 s' H1 H' ∧ FrOK D env N σ' s'.heap H' ∧ ItAt I a xs i s'.heap ∧ still a H' ∧ H' I = none ∧ loopW (WSs Γ ini b) a x (xs.drop i) σ' H' Q)
      ?_ (xs.length + 1) ⟨0, σ, H1, rfl, Nat.zero_le _, st2.ofNo, F2, it0, sl, hI1, by rw [List.drop_zero]; exact q⟩
    rintro n s' ⟨i, σ', H', rfl, hi, st', F', it', sl', hI', q'⟩
    by_cases hlt : i < xs.length
    · have hx : xs[i]? = some xs[i] := List.getElem?_eq_getElem hlt
      refine it_item st'.inv it' so sl' hx fun v h1 tk1 ev it1 hk1 => ?_
      have stA : Step D (fun b => b = I ∨ ownOf env b) s' { s' with heap := h1, toks := tk1 } H' H' := .hid st'.inv (.inl rfl) hI' h0I hk1 it1.some
      have FA : FrOK D env N σ' h1 H' := F'.stay (fun b o hb e => hk1 b o (nI b hb) e) F'.off
      refine wpAny_assign_Name (store_ok hE FA stA.inv (by rw [hy]; rfl) ev fun h2 tk2 stB FB => ?_)
      rw [List.drop_eq_getElem_cons hlt] at q'
      have itB : ItAt I a xs (i + 1) h2 := it1.at fun o e => stB.keep I o hI' (fun hb => nI I hb rfl) e
      refine wpAny_mono (hb env N pb _ _ H' _ c3 hE FB stB.inv q') (fun f s3 h3 => ?_) fun _ _ x => x.elim
      obtain ⟨fl, σ3, H3, hfl, st3, F3, q3⟩ := h3
      have stAll : Step D (fun b => b = I ∨ ownOf env b) s1 s3 H1 H3 := ((st'.trans stA).trans (stB.weak fun b hb => .inr hb)).trans (st3.weak fun b hb => .inr hb)
      have it3 : ItAt I a xs (i + 1) s3.heap := itB.at fun o e => st3.keep I o hI' (fun hb => nI I hb rfl) e
      have hI3 : H3 I = none := by obtain ⟨o, e⟩ := itB.some; exact st3.dom I o e hI'
      cases fl with
      | next =>
        cases f <;> (try (exact hfl.elim))
        exact ⟨xs.length + 1 - (i + 1), by omega, i + 1, σ3, H3, rfl, hlt, stAll, F3, it3, q3.1, hI3, q3.2⟩
      | ret u =>
        cases f <;> (try (exact hfl.elim))
        obtain ⟨hh, tk, e3⟩ := stAll.same
        have := stAll.drop (h' := s3.heap) (tk := s3.toks) fI h0I hI3 fun _ _ _ e => e
        exact ⟨.ret u, σ3, H3, hfl, st1.ofNo.trans this, F3, q3⟩
    · have hi2 : i = xs.length := by omega
      subst hi2
      rw [List.drop_length] at q'
      refine it_end hR.hd st'.inv it' so sl' (Nat.le_refl _) fun h1 tk1 hk1 => ?_
      have := st'.drop (h' := h1) (tk := tk1) fI h0I hI' hk1
      exact wpAny_pure ⟨.next, σ', H', trivial, st1.ofNo.trans this, F'.stay (fun b o hb e => hk1 b o (nI b hb) e) F'.off, q'⟩

theorem ss_while {t : CE} {b : CSs} (ht : ST D fn Γ ini A t) (hb : SSs D fn Γ ini A b) : SS D fn Γ ini A (.whil t b) := by
  intro env N p σ s H Q hc hE hF hI hw
  obtain ⟨pt, pb, pos, rfl, hcc⟩ := ins_whil hc
  replace hc := hcc
  · skip
    simp only [Bool.and_eq_true] at hc
    obtain ⟨J, n, h0, step⟩ := hw
    refine wpAny_While (codeAny_whileLoop (fun n s' => ∃ σ' H', Step D (ownOf env) s s' H H' ∧ FrOK D env N σ' s'.heap H' ∧ J n σ' H') ?_ n ⟨σ, H, .refl hI, hF, h0⟩)
    rintro n s' ⟨σ', H', st', F', j'⟩
    refine wpAny_mono (ht env N pt σ' s' H' _ hc.1 hE F' st'.inv (step n σ' H' j')) (fun c s1 h1 => ?_) fun _ _ x => x.elim
    obtain ⟨H1, st1, q1⟩ := h1
    have F1 := F'.step st1
    cases c with
    | true =>
      refine wpAny_mono (hb env N pb σ' s1 H1 _ hc.2 hE F1 st1.inv q1) (fun f s2 h2 => ?_) fun _ _ x => x.elim
      obtain ⟨fl, σ2, H2, hfl, st2, F2, q2⟩ := h2
      have st3 := (st'.trans st1.ofNo).trans st2
      cases fl with
      | next =>
        cases f <;> (try (exact hfl.elim))
        obtain ⟨m, hm, hj⟩ := q2
        exact ⟨m, hm, σ2, H2, st3, F2, hj⟩
      | ret u =>
        cases f <;> (try (exact hfl.elim))
        exact ⟨.ret u, σ2, H2, hfl, st3, F2, q2⟩
    | false => exact wpAny_pure ⟨.next, σ', H1, trivial, st'.trans st1.ofNo, F1, q1⟩

theorem ss_if {t : CE} {a b : CSs} (ht : ST D fn Γ ini A t) (ha : SSs D fn Γ ini A a) (hb : SSs D fn Γ ini A b) : SS D fn Γ ini A (.ifs t a b) := by
  intro env N p σ s H Q hc hE hF hI hw
  obtain ⟨_, _, _, _, rfl, hcc⟩ := ins_ifs hc
  replace hc := hcc
  · simp only [Bool.and_eq_true] at hc
    refine wpAny_If (ht.seq hc.1.1 hE hF hI hw fun c s1 H1 st1 F1 I1 q1 => ?_)
    cases c with
    | true => exact wpAny_mono (ha env N _ σ s1 H1 _ hc.1.2 hE F1 I1 q1) (fun f s2 h2 => let ⟨fl, σ2, H2, hfl, st2, F2, q2⟩ := h2; ⟨fl, σ2, H2, hfl, st1.ofNo.trans st2, F2, q2⟩) fun _ _ x => x
    | false => exact wpAny_mono (hb env N _ σ s1 H1 _ hc.2 hE F1 I1 q1) (fun f s2 h2 => let ⟨fl, σ2, H2, hfl, st2, F2, q2⟩ := h2; ⟨fl, σ2, H2, hfl, st1.ofNo.trans st2, F2, q2⟩) fun _ _ x => x

theorem ss_ret {e : CE} (he : SE D fn Γ ini A e) : SS D fn Γ ini A (.ret e) := by
  intro env N p σ s H Q hc hE hF hI hw
  obtain ⟨_, _, rfl, hcc⟩ := ins_ret hc
  replace hc := hcc
  · exact wpAny_Return_some (he.seq hc hE hF hI hw fun v s1 pv H1 e1 st1 F1 I1 q1 => ⟨.ret pv, σ, H1, e1, st1.ofNo, F1, q1⟩)

theorem sss_nil : SSs D fn Γ ini A .nil := by
  intro env N p σ s H Q hc hE hF hI hw
  cases p with
  | nil => exact wpAny_pure ⟨.next, σ, H, trivial, .refl hI, hF, hw⟩
  | cons _ _ => exact ff hc
theorem sss_cons {c : CS} {r : CSs} (h1 : SS D fn Γ ini A c) (h2 : SSs D fn Γ ini A r) : SSs D fn Γ ini A (.cons c r) := by
  intro env N p σ s H Q hc hE hF hI hw
  cases p with
  | nil => exact ff hc
  | cons p ps =>
    simp only [chkSs, Bool.and_eq_true] at hc
    refine wpAny_execs_cons (wpAny_mono (h1 env N p σ s H _ hc.1 hE hF hI hw) (fun f s1 x => ?_) fun _ _ x => x)
    obtain ⟨fl, σ1, H1, hfl, st1, F1, q1⟩ := x
    cases fl with
    | next =>
      cases f <;> (try (exact hfl.elim))
      exact wpAny_mono (h2 env N ps σ1 s1 H1 _ hc.2 hE F1 st1.inv q1) (fun f s2 h2 => let ⟨fl, σ2, H2, hfl, st2, F2, q2⟩ := h2; ⟨fl, σ2, H2, hfl, st1.trans st2, F2, q2⟩) fun _ _ x => x
    | ret u =>
      cases f <;> (try (exact hfl.elim))
      exact ⟨.ret u, σ1, H1, hfl, st1, F1, q1⟩
end
end Mine
end

section
set_option maxRecDepth 100000
set_option Elab.async false
set_option linter.unusedVariables false
set_option linter.unusedSimpArgs false
open PySem PySem.Calls PySem.Spec
namespace Mine
open PySem.W (Frag TopRead instObj dictOf getL putL putN)

theorem lkp_sto {K : Type} [DecidableEq K] (fs : List (K × PV)) (n : K) (v : PV) (k : K) : lkp (sto fs n v) k = if k = n then some v else lkp fs k := by
  unfold sto
  by_cases q : (fs.any fun x => decide (x.1 = n)) = true
  · rw [if_pos q]
    unfold lkp
    by_cases e : k = n
    · subst e
      rw [if_pos rfl]
      induction fs with
      | nil => simp at q
      | cons y ys ih =>
        rw [List.map_cons, List.find?_cons]
        by_cases h : y.1 = k
        · simp [h]
        · simp only [h, if_false, decide_false]
          rw [List.any_cons] at q
          simp only [h, decide_false, Bool.false_or] at q
          simpa [h] using ih q
    · rw [if_neg e]
      clear q
      induction fs with
      | nil => rfl
      | cons y ys ih =>
        rw [List.map_cons, List.find?_cons, List.find?_cons]
        by_cases h : y.1 = n
        · have : ¬ n = k := fun h' => e h'.symm
          simp only [h, if_true, this, decide_false]
          exact ih
        · by_cases h2 : y.1 = k
          · rw [if_neg h]; simp [h2]
          · rw [if_neg h]; simp only [h2, decide_false]
            exact ih
  · rw [if_neg q]
    unfold lkp
    rw [List.find?_append]
    by_cases e : k = n
    · subst e
      rw [if_pos rfl]
      have : fs.find? (fun kv => decide (kv.1 = k)) = none := by
        rw [List.find?_eq_none]
        intro x hx h
        exact q (List.any_eq_true.mpr ⟨x, hx, h⟩)
      rw [this]; simp
    · rw [if_neg e]
      have : ¬ n = k := fun h' => e h'.symm
      cases hf : fs.find? (fun kv => decide (kv.1 = k)) with
      | some x => rfl
      | none => simp [this]

section
variable {D : Wd} {P : Nat → Option CFun} {ini : Nat} {ad : Nat → Nat} {fn : Nat → Option Str} {Γ : GT} {d : Nat} {A : Around} {E : Value → Shared → Prop}

theorem plain_swaps {e : CE} {p : Expr} {t : Option Expr} {l : Nat} {env : Env} (h : isCompE p = false) : swapsWith p t l env = pure false := by
  cases p <;> first | rfl | exact tf h

theorem FrOK.setH {env : Env} {N : List (Str × NK)} {σ : Sg} {h h' : Heap} {H : PH} {X : Nat} {o : PObj} (F : FrOK D env N σ h H) (hX : ∀ b, ownOf env b → b ≠ X) (hk : ∀ b o, ownOf env b → h.get? b = some o → h'.get? b = some o) : FrOK D env N σ h' (H.set X o) :=
  F.stay hk fun b hb => by rw [PH.set_ne (hX b hb)]; exact F.off b hb
theorem FrOK.apart {env : Env} {N : List (Str × NK)} {σ : Sg} {h : Heap} {H : PH} {X : Nat} {o : PObj} (F : FrOK D env N σ h H) (hX : H X = some o) : ∀ b, ownOf env b → b ≠ X := by
  intro b hb; rintro rfl; rw [F.off b hb] at hX; cases hX

theorem store_own {x dx : Nat} {n : Str} {v : Value} {b : Bool} {tk : Tok} {s : Shared} {R : Fin → Shared → Prop} {A : Around} (hG : GlOK D P ini ad fn) (X : D.K.In s.heap) (hx : s.heap.get? x = some (instObj D.C dx))
    (k : wpAny (model D.prog D.w) A (nsSet dx n v) (fun _ s' => ∃ o, s'.heap.get? dx = some o ∧ o.data.pastItsLine = none ∧ R (.done (.ret .none)) s') E s) : wpAny (model D.prog D.w) A (Builtin.ObjectAttr.storeInOwnDict (.ref x) (.ref D.C) (.str n tk) n v b) R E s := by
  obtain ⟨cd, hc, hd'⟩ := PySem.W.any_some hG.hdi
  refine wpAny_bind (wpAny_pure (wpAny_bind (wpAny_bind (wpAny_loadPart hx (wpAny_bind ((PySem.W.looks_clsIn X hc).here ?_))))))
  rw [hd']
  refine wpAny_pure (a := some dx) (wpAny_bind (wpAny_pure (wpAny_bind (wpAny_mono k (fun _ s' h => ?_) fun _ _ x => x))))
  obtain ⟨o, h1, h2, h3⟩ := h
  exact wpAny_bind (wpAny_lookBehind h1 h2 (wpAny_pure h3))

theorem nsSetF {M : Model} {A : Around} {s : Shared} {a : Nat} {m : Str → Option Value} {l : Nat} {name : Str} {v : Value} {Q : Unit → Shared → Prop} (hn : NsF s.heap a m l)
    (hQ : ∀ h', NsF h' a (fun x => if x = name then some v else m x) (if (m name).isSome then l else l + 1) → Heap.SameBut a s.heap h' → Q () { s with heap := h', toks := s.toks + 1 }) : wpAny M A (nsSet a name v) Q E s := fun Γ p hΓ => by
  obtain ⟨o, es, ep, ho, hd, hk, hm, hz⟩ := hn
  simp only [nsSet, strHash, Sem.wp_bind', Sem.wp_cmd_ask, Sem.wp_pure', Sem.wp_cmd_mkText]
  rw [Sem.wp_loadPart_of M Γ _ p { s with toks := s.toks + 1 } (o := o) _ ho]
  have hany : es.any (·.refKey) = false := by
    rw [Array.any_eq_false']; intro e he; obtain ⟨n, t, h⟩ := hk e he; simp [DictEntry.refKey, h]
  simp only [hd, aRefKeyMayBeTheName_eq, aRefKeyMayBeTheNameByArray, hany, Bool.and_false, Bool.false_eq_true, if_false, Sem.wp_cmd_updatePart]
  refine ⟨by rw [ho]; rfl, hQ _ ?_ (Heap.SameBut.update ..)⟩
  obtain ⟨c, d, dt, sl⟩ := o
  subst hd
  cases hi : es.findIdx? (·.key.isStr name) with
  | some i =>
    have hs : (m name).isSome = true := by
      rw [← hm name]
      unfold nsFind findBy
      rw [Option.isSome_map, Array.find?_isSome]
      have := Array.findIdx?_eq_some_iff_getElem.mp hi
      obtain ⟨h1, h2, _⟩ := this
      exact ⟨es[i], Array.getElem_mem h1, h2⟩
    rw [hs]
    refine ⟨_, _, ep, Heap.get?_update_self _ ho (by simp only [Obj.putName_eq, Obj.putNameByArray, hi]; rfl), by simp only [Obj.putName_eq, Obj.putNameByArray, hi]; rfl, hk.modify _ _, fun x => ?_, by simpa using hz⟩
    show _ = if x = name then some v else m x
    rw [← hm]; exact findBy_modify (fun n v => v.isStr n) Value.isStr_inj es name x v i hi
  | none =>
    refine ⟨_, _, ep + 1, Heap.get?_update_self _ ho (by simp only [Obj.putName_eq, Obj.putNameByArray, hi]; rfl), by simp only [Obj.putName_eq, Obj.putNameByArray, hi]; rfl, hk.push _ _ _ _, fun x => ?_, ?_⟩
    · show _ = if x = name then some v else m x
      rw [← hm]
      exact findBy_push (fun n v => v.isStr n) es name x _ _ v (fun y => by
        show (name == y) = decide (y = name)
        by_cases h : y = name
        · subst h; simp
        · have : ¬ name = y := fun e => h e.symm
          simp [h, this]) hi
    · have hs : (m name).isSome = false := by
        rw [← hm name]
        unfold nsFind findBy
        have : es.find? (fun e => e.key.isStr name) = none := by
          rw [Array.find?_eq_none]; intro e he
          simpa using (Array.findIdx?_eq_none_iff.mp hi) e he
        simp only [this]; rfl
      rw [hs]
      simp; exact hz

theorem sto_len {K : Type} [DecidableEq K] (fs : List (K × PV)) (n : K) (v : PV) : (sto fs n v).length = if (lkp fs n).isSome then fs.length else fs.length + 1 := by
  unfold sto lkp
  by_cases q : (fs.any fun x => decide (x.1 = n)) = true
  · rw [if_pos q]
    have : (fs.find? fun x => decide (x.1 = n)).isSome = true := by
      rw [List.find?_isSome]; obtain ⟨x, h1, h2⟩ := List.any_eq_true.mp q; exact ⟨x, h1, h2⟩
    rw [Option.isSome_map, this, List.length_map]; rfl
  · rw [if_neg q]
    have : (fs.find? fun x => decide (x.1 = n)).isSome = false := by
      cases h : (fs.find? fun x => decide (x.1 = n)).isSome with
      | false => rfl
      | true => rw [List.find?_isSome] at h; obtain ⟨x, h1, h2⟩ := h; exact (q (List.any_eq_true.mpr ⟨x, h1, h2⟩)).elim
    rw [Option.isSome_map, this, List.length_append]; rfl

theorem set_attr {x dx : Nat} {fs : List (Str × PV)} {pv : PV} {n : Str} {v : Value} {H : PH} {s : Shared} {R : Unit → Shared → Prop} (hG : GlOK D P ini ad fn) (I : Inv D s.heap H) (hn : fldNames.contains n = true) (hx : H x = some (.inst dx)) (hd : H dx = some (.flds fs)) (hz : fs.length ≤ big) (hv : er v = some pv)
    (k : ∀ h' tk, (∀ b o, b ≠ dx → s.heap.get? b = some o → h'.get? b = some o) → RO D h' dx (.flds (sto fs n pv)) → R () { s with heap := h', toks := tk }) : wpAny (model D.prog D.w) A (setAttr (.ref x) n v) R E s := by
  obtain ⟨m, hns, hf⟩ := I.rep dx _ hd
  have hx' : s.heap.get? x = some (instObj D.C dx) := I.rep x _ hx
  obtain ⟨od, es, ep, ho, hdd, hkk, hm, hes⟩ := id hns
  have IA : PySem.W.InstAt s.heap x (instObj D.C dx) D.C (some od) := ⟨hx', rfl, rfl, ho⟩
  have X := hG.X.keeps I.base
  have hmem : n ∈ fldNames := by simpa using hn
  refine PySem.W.set_plain X IA hG.sa ?_
  refine PySem.W.osa_open (s := { s with toks := s.toks + 1 }) X IA hG.po (hG.tk n hmem) fun b => ?_
  refine store_own (s := { s with toks := s.toks + 1 }) hG X hx' ?_
  refine nsSetF hns fun h' hn' hs' => ?_
  have hb : (if (m n).isSome = true then fs.length else fs.length + 1) ≤ (sto fs n pv).length := by
    rw [sto_len]
    cases hl : lkp fs n with
    | none => simp only [Option.isSome_none, Bool.false_eq_true, if_false]; split <;> omega
    | some pv' => obtain ⟨u, h1, h2⟩ := hf n pv' hl; rw [h1]; simp
  have hb2 : (sto fs n pv).length ≤ fs.length + 1 := by rw [sto_len]; split <;> omega
  obtain ⟨o', es', ep', g1, g2, g3, g4, g5⟩ := hn'
  refine ⟨o', g1, by rw [g2]; exact pastItsLine_dict (by rw [sizeLine_eq]; unfold big at hz; omega), ?_⟩
  refine k h' _ (fun b o hb e => hs'.extBut b o hb e) ⟨_, ⟨o', es', ep', g1, g2, g3, g4, by omega⟩, fun n' pv' hp => ?_⟩
  rw [lkp_sto] at hp
  by_cases q : n' = n
  · rw [if_pos q] at hp; cases hp
    exact ⟨v, if_pos q, hv⟩
  · rw [if_neg q] at hp
    obtain ⟨u, h1, h2⟩ := hf n' pv' hp
    exact ⟨u, by rw [if_neg q]; exact h1, h2⟩

theorem ss_seta {o e : CE} {n : Str} (hG : GlOK D P ini ad fn) (ho : SE D fn Γ ini A o) (he : SE D fn Γ ini A e) : SS D fn Γ ini A (.seta o n e) := by
  intro env N p σ s H Q hc hE hF hI hw
  obtain ⟨_, _, _, _, _, rfl, hcc⟩ := ins_seta hc
  replace hc := hcc
  · simp only [Bool.and_eq_true, Bool.not_eq_true', beq_iff_eq] at hc
    obtain ⟨⟨⟨⟨rfl, c2⟩, c3⟩, c4⟩, c5⟩ := hc
    refine plainObj_wpAny_Assign_Attribute (he.seq c3 hE hF hI hw fun v s1 pv H1 e1 st1 F1 I1 q1 => ho.seq c2 hE F1 I1 q1 fun u s2 pu H2 e2 st2 F2 I2 q2 => ?_) (plain_swaps (e := e) c4)
    cases pu <;> (try (exact q2.elim))
    rename_i x
    obtain rfl := er_ref e2
    simp only at q2
    split at q2
    · rename_i dx hx
      split at q2
      · rename_i fs hd
        refine set_attr hG I2 c5 hx hd q2.1 e1 fun h' tk hk r => ?_
        have st3 : Step D (ownOf env) s2 { s2 with heap := h', toks := tk } H2 _ := .mut I2 hd id hk r
        exact ⟨.next, σ, _, trivial, (st1.trans st2).ofNo.trans st3, F2.setH (F2.apart hd) (fun b o hb e => hk b o (F2.apart hd b hb) e), q2.2⟩
      · exact q2.elim
    · exact q2.elim

theorem ss_seti {o k e : CE} (ho : SE D fn Γ ini A o) (hk : SE D fn Γ ini A k) (he : SE D fn Γ ini A e) : SS D fn Γ ini A (.seti o k e) := by
  intro env N p σ s H Q hc hE hF hI hw
  obtain ⟨_, _, _, _, _, rfl, hcc⟩ := ins_seti hc
  replace hc := hcc
  · simp only [Bool.and_eq_true, Bool.not_eq_true'] at hc
    obtain ⟨⟨⟨⟨c1, c2⟩, c3⟩, c4⟩, c5⟩ := hc
    refine wpAny_Assign_Subscript (he.seq c3 hE hF hI hw fun v s1 pv H1 e1 st1 F1 I1 q1 => ho.seq c1 hE F1 I1 q1 fun u s2 pu H2 e2 st2 F2 I2 q2 => hk.seq c2 hE F2 I2 q2 fun w s3 pw H3 e3 st3 F3 I3 q3 => ?_) (plain_swaps (e := e) c4)
    cases pu <;> (try (exact q3.elim))
    rename_i x
    obtain rfl := er_ref e2
    simp only at q3
    split at q3
    · rename_i kvs k hx
      obtain ⟨t, rfl⟩ := er_str e3
      obtain ⟨ks, hd, ep⟩ := I3.rep x _ hx
      refine wpAny_setItem_pairs (knd := strKind D.prog D.w) (k := k) (by simp [strKind, Value.isStrOf]) hd (fun h' h1 h2 => ?_) (by rw [ep.length]; exact big_size q3.1)
      have st4 : Step D (ownOf env) s3 { s3 with heap := h', toks := s3.toks + 1 } H3 _ := .mut I3 hx id (fun b o hb e => h2.extBut b o hb e) (show RO D h' x (.dS (sto kvs k pv)) from ⟨_, h1, ep.store e1⟩)
      exact ⟨.next, σ, _, trivial, ((st1.trans st2).trans st3).ofNo.trans st4, F3.setH (F3.apart hx) (fun b o hb e => h2.extBut b o (F3.apart hx b hb) e), q3.2⟩
    · rename_i kvs k hx
      obtain ⟨t, rfl⟩ := er_int e3
      obtain ⟨ks, hd, ep⟩ := I3.rep x _ hx
      refine wpAny_setItem_pairs (knd := intKind D.prog D.w) (k := k) (by simp [intKind, Value.isInt]) hd (fun h' h1 h2 => ?_) (by rw [ep.length]; exact big_size q3.1)
      have st4 : Step D (ownOf env) s3 { s3 with heap := h', toks := s3.toks + 1 } H3 _ := .mut I3 hx id (fun b o hb e => h2.extBut b o hb e) (show RO D h' x (.dI (sto kvs k pv)) from ⟨_, h1, ep.store e1⟩)
      exact ⟨.next, σ, _, trivial, ((st1.trans st2).trans st3).ofNo.trans st4, F3.setH (F3.apart hx) (fun b o hb e => h2.extBut b o (F3.apart hx b hb) e), q3.2⟩
    · exact q3.elim

theorem ss_aug {x : Nat} {op : BOp} {e : CE} (he : SE D fn Γ ini A e) : SS D fn Γ ini A (.aug x op e) := by
  intro env N p σ s H Q hc hE hF hI hw
  obtain ⟨y, py, o, p, pos, rfl, hcc⟩ := ins_aug hc
  replace hc := hcc
  · skip
    simp only [Bool.and_eq_true, Bool.or_eq_true, beq_iff_eq] at hc
    obtain ⟨⟨⟨c1, c2⟩, c3⟩, hop⟩ := hc
    have hy : (N.lookup y).bind nkSlot = some x := by simpa [slotIs] using c1
    obtain ⟨pu, hg, hq⟩ := optW_some hw
    have core : ∀ u, er u = some pu → wpAny (model D.prog D.w) A (eval p env) (fun v s₂ => wpAny (model D.prog D.w) A (inplaceOp o u v) (fun r s₃ => wpAny (model D.prog D.w) A (storeName env y r) (fun _ => Sp D env N s H Q .next) Nope s₃) Nope s₂) Nope s := by
      intro u eu
      refine he.seq c3 hE hF hI hq fun v s1 pv H1 e1 st1 F1 I1 q1 => ?_
      obtain ⟨r, hr, q⟩ := optW_some q1
      have fin : ∀ w tk, er w = some r → wpAny (model D.prog D.w) A (storeName env y w) (fun _ => Sp D env N s H Q .next) Nope { s1 with toks := tk } := by
        intro w tk ew
        refine store_ok (s := { s1 with toks := tk }) hE F1 I1 hy ew fun h' tk' st2 F2 => ?_
        exact ⟨.next, _, _, trivial, (st1.ofNo.trans (.toks I1)).trans st2, F2, q⟩
      rcases hop with rfl | rfl <;> cases o <;> (try (exact ff c2)) <;> cases pu <;> cases pv <;> (try (exact nf hr)) <;>
        obtain ⟨t, rfl⟩ := er_int eu <;> obtain ⟨t', rfl⟩ := er_int e1 <;> simp only [binV, Option.some.injEq] at hr <;> subst hr
      · exact PyProof.Rows.iadd_int (fin _ _ rfl)
      · exact PyProof.Rows.isub_int (fin _ _ rfl)
    refine wpAny_AugAssign_Name ?_
    cases hl : N.lookup y with
    | none => rw [hl] at hy; cases hy
    | some kk =>
      rw [hl] at hy
      cases kk with
      | glo => cases hy
      | loc j =>
        obtain rfl : j = x := by simpa [nkSlot] using hy
        obtain ⟨m, hn, hm⟩ := hF.ns
        obtain ⟨v, hv, e⟩ := hm y j hl pu hg
        exact wpAny_loadName_local hE.fn (hE.loc y j hl) hn hv (core v e)
      | cel j =>
        obtain rfl : j = x := by simpa [nkSlot] using hy
        obtain ⟨hk, c, hcl⟩ := hE.cel y j hl
        obtain ⟨v, hv, e⟩ := (hF.cl y j c hl hcl).2 pu hg
        exact wpAny_loadName_cell hE.fn hk hcl hv (core v e)

theorem ss_app {o e : CE} (ho : SE D fn Γ ini A o) (he : SE D fn Γ ini A e) : SS D fn Γ ini A (.app o e) := by
  intro env N p σ s H Q hc hE hF hI hw
  obtain ⟨p, n, ap, q, pos, pos', rfl, hcc⟩ := ins_app hc
  replace hc := hcc
  · skip
    simp only [Bool.and_eq_true, Bool.not_eq_true', beq_iff_eq] at hc
    obtain ⟨⟨⟨⟨⟨rfl, hce⟩, hpl⟩, hck⟩, hq⟩, hln⟩ := hc
    refine wpAny_Expr (wpAny_Call_method (base_of hpl) (few1 hq) (by simpa using hln) F.plainAttrs_list F.slot_list_append F.type_list_append (ho.seq hce hE hF hI hw fun u s1 pu H1 e1 st1 F1 I1 q1 => ?_)) (by unfold interactive; rw [hE.fn]; rfl)
    cases pu <;> (try (exact q1.elim))
    rename_i a
    obtain rfl := er_ref e1
    obtain ⟨⟨xs, ha⟩, q2⟩ := q1
    obtain ⟨vs, ⟨nn, hl⟩, el⟩ := I1.rep a _ ha
    refine ⟨⟨_, hl, rfl⟩, fun b e => by cases e; exact ⟨_, hl, rfl⟩, ?_⟩
    refine callWith_builtin (plain_any (by simp only [plainPs, hq]; rfl)) (evalArgs_ps (by simp only [plainPs, hq]; rfl) (spliced1 hq (he.seq hck hE F1 I1 q2 fun w s2 pw H2 e2 st2 F2 I2 q3 => ?_)))
    split at q3
    · rename_i ys hy
      obtain ⟨ws, hl2, el2⟩ := I2.rep a _ hy
      refine wpAny_list_append_plain hl2 (fun h' h1 h2 => ?_) (by rw [show ws.toArray.size = ys.length by simpa using el2.length]; exact big_size q3.1)
      have st3 : Step D (ownOf env) s2 { s2 with heap := h', toks := s2.toks } H2 _ := .mut I2 hy id (fun b o hb e => h2.extBut b o hb e) (show RO D h' a (.list (ys ++ [pw])) from ⟨ws ++ [w], by rw [show (ws ++ [w]).toArray = ws.toArray.push w by simp]; exact h1, el2.append (show EL [w] [pw] by simp [EL, e2])⟩)
      exact ⟨.next, σ, _, trivial, (st1.trans st2).ofNo.trans st3, F2.setH (F2.apart hy) (fun b o hb e => h2.extBut b o (F2.apart hy b hb) e), q3.2⟩
    · exact q3.elim

theorem swaps_none {p : Expr} {l : Nat} {env : Env} (h : isCompE p = false) : swapsWith p none l env = pure false := by
  cases p <;> first | rfl | exact tf h
theorem ss_ex {e : CE} (he : SE D fn Γ ini A e) : SS D fn Γ ini A (.ex e) := by
  intro env N p σ s H Q hc hE hF hI hw
  obtain ⟨_, _, rfl, hcc⟩ := ins_ex hc
  replace hc := hcc
  · simp only [Bool.and_eq_true, Bool.not_eq_true'] at hc
    refine wpAny_Expr_any (he.seq hc.1 hE hF hI hw fun v s1 pv H1 e1 st1 F1 I1 q1 => ⟨.next, σ, H1, trivial, st1.ofNo, F1, q1⟩) (by unfold interactive; rw [hE.fn]; rfl) (swaps_none hc.2)

theorem ss_unpk {x y : Nat} {e : CE} (hR : Room A d) (he : SE D fn Γ ini A e) : SS D fn Γ ini A (.unpk x y e) := by
  intro env N p σ s H Q hc hE hF hI hw
  obtain ⟨y1, p1, y2, p2, k1, tp, p, pos, rfl, hcc⟩ := ins_unpk hc
  replace hc := hcc
  · skip
    simp only [Bool.and_eq_true, Bool.not_eq_true', bne_iff_ne] at hc
    obtain ⟨⟨⟨⟨⟨c1, c2⟩, c3⟩, c4⟩, c5⟩, c6⟩ := hc
    have hy1 : N.lookup y1 = some (.loc x) := by simpa [isLoc] using c1
    have hy2 : N.lookup y2 = some (.loc y) := by simpa [isLoc] using c2
    refine wpAny_Assign_stores (he.seq c4 hE hF hI hw fun v s1 pv H1 e1 st1 F1 I1 q1 => ?_) (by unfold swapsWithSole; exact plain_swaps (e := e) c6) (by cases p <;> first | rfl | exact tf c5)
    cases pv <;> (try (exact q1.elim))
    rename_i a
    obtain rfl := er_ref e1
    simp only at q1
    split at q1
    · rename_i u w ha
      obtain ⟨vs, ht, el⟩ := I1.rep a _ ha
      obtain ⟨v1, vs', rfl, ev1, el'⟩ := el.cons
      obtain ⟨v2, vs'', rfl, ev2, el''⟩ := el'.cons
      obtain rfl := el''.nil
      show wpAny _ _ (assign (.Tuple [.Name y1 p1, .Name y2 p2] k1 tp) env (.ref a)) _ _ _
      refine wpAny_assign_Tuple hR.hd ht rfl rfl fun h' hx => ?_
      have st2 : Step D noOwn s1 { s1 with heap := h' } H1 H1 := .extBut (tk := s1.toks) I1 (fresh_size _) hx
      have F2 := F1.step st2
      refine wpAny_assignInOrder_more (wpAny_assign_Name (store_ok hE F2 st2.inv (by rw [hy1]; rfl) ev1 fun h3 tk3 st3 F3 => ?_))
      refine wpAny_assignInOrder_more (wpAny_assign_Name (store_ok hE F3 st3.inv (by rw [hy2]; rfl) ev2 fun h4 tk4 st4 F4 => ?_))
      exact wpAny_assignInOrder_none ⟨.next, _, _, trivial, ((st1.trans st2).ofNo.trans st3).trans st4, F4, q1⟩
    · exact q1.elim

theorem ss_asg {x : Nat} {e : CE} (he : SE D fn Γ ini A e) {env : Env} {N : List (Str × NK)} {y : Str} {py : Pos} {p : Expr} {pos : Pos} {σ : Sg} {s : Shared} {H : PH} {Q : Fl → Sg → PH → Prop} (hy : (N.lookup y).bind nkSlot = some x) (hc : chkE fn N e p = true)
    (hs : swapsWith p (some (.Name y py)) pos.line env = pure false) (hE : EnvOK env N) (hF : FrOK D env N σ s.heap H) (hI : Inv D s.heap H) (hw : WS Γ ini (.asg x e) σ H Q) : wpAny (model D.prog D.w) A (exec (.Assign [.Name y py] p pos) env) (Sp D env N s H Q) Nope s := by
  refine wpAny_Assign_Name (he.seq hc hE hF hI hw fun v s1 pv H1 e1 st1 F1 I1 q1 => ?_) hs
  exact store_ok hE F1 I1 hy e1 fun h' tk' st2 F2 => ⟨.next, _, _, trivial, st1.ofNo.trans st2, F2, q1⟩
end
end Mine
end

section
set_option maxRecDepth 100000
set_option Elab.async false
set_option linter.unusedVariables false
set_option linter.unusedSimpArgs false
open PySem PySem.Calls PySem.Spec
namespace Mine
open PySem.W (Frag TopRead instObj dictOf getL putL putN)

structure RoomE (A : Around) (d : Nat) : Prop where
  room : Room A d
  dp : A.depth + 8 * d + 26 < recursionLimit
  un : A.units + 40 * d + 110 < cLine

section
variable {D : Wd} {P : Nat → Option CFun} {ini : Nat} {ad : Nat → Nat} {fn : Nat → Option Str} {Γ : GT} {d : Nat} {A : Around} {E : Value → Shared → Prop}

theorem RoomE.of {env : Env} (h : Room A (d + 1)) : RoomE (A.deeper env) d := by
  have h1 := h.hd; have h2 := h.dp; have h3 := h.un
  refine ⟨⟨h1, ?_, ?_⟩, ?_, ?_⟩ <;> simp only [Around.deeper] <;> omega

theorem se_call {f : Nat} {as : CEs} (hG : GlOK D P ini ad fn) (hS : GSound D ad P Γ d) (hR : Room A d) (ha : SEs D fn Γ ini A as) : SE D fn Γ ini A (.call f as) := by
  intro env N p σ s H Q hc hE hF hI hw
  obtain ⟨x, px, ps, pos, rfl, hcc⟩ := inv_call hc
  replace hc := hcc
  · skip
    simp only [Bool.and_eq_true] at hc
    obtain ⟨c1, c2⟩ := hc
    split at c1
    · rename_i n hn
      obtain ⟨hm, ⟨c, hc'⟩, o, fd, ho, hd⟩ := hG.names f n hn
      refine call_arm (name_glo hG hE hI c1 hm ?_)
      refine call_fun (chkEs_plain c2) hd (ha.seq c2 hE hF hI hw fun vs s1 pvs H1 e1 st1 F1 I1 q1 => ⟨I1.base _ _ ho, ?_⟩)
      refine wpAny_call (codeAny_mono (hS f c hc' A s1 H1 vs pvs Q hR I1 e1 q1) fun r s' z => ?_)
      rcases r with e | (v | _ | _ | _) <;> first | exact z.elim | skip
      exact Ex.after st1 z
    · cases c1

theorem weight_tc (C : Nat) (vals : List Value) : (Code.builtin "type.__call__" ⟨.ref C :: vals, []⟩).weight ≤ 6 := by
  have : (Code.builtin "type.__call__" ⟨.ref C :: vals, []⟩).weight = 1 := rfl
  omega
theorem room_tc {C : Nat} {vals : List Value} (h : RoomE A d) : Room (A.under (.builtin "type.__call__" ⟨.ref C :: vals, []⟩)) d := by
  have h1 := h.room.hd; have h2 := h.dp; have h3 := h.un
  have h4 := weight_tc C vals
  have h5 := show (A.under (.builtin "type.__call__" ⟨.ref C :: vals, []⟩)).units = A.units + 1 from rfl
  refine ⟨h1, ?_, ?_⟩
  · show A.depth + _ + _ + _ < _; omega
  · rw [h5]; omega

theorem se_mk {as : CEs} (hG : GlOK D P ini ad fn) (hS : GSound D ad P Γ d) (hR : RoomE A d) (ha : SEs D fn Γ ini A as) : SE D fn Γ ini A (.mk as) := by
  intro env N p σ s H Q hc hE hF hI hw
  obtain ⟨x, px, ps, pos, rfl, hcc⟩ := inv_mk hc
  replace hc := hcc
  · skip
    simp only [Bool.and_eq_true] at hc
    obtain ⟨c1, c2⟩ := hc
    refine call_arm (name_glo hG hE hI c1 hG.vec ?_)
    refine PySem.W.callWith_of (P := fun h => D.K.In h) (by have := plain_any (pos := pos) (env := env) (chkEs_plain c2); simp [this]) (PySem.W.keeps_K hG.keep) (evalArgs_ps (chkEs_plain c2) (ha.seq c2 hE hF hI hw fun vs s1 pvs H1 e1 st1 F1 I1 q1 => ⟨hG.X.keeps I1.base, ?_⟩))
    have X1 := hG.X.keeps I1.base
    refine wpAny_call ?_
    obtain ⟨hh, g, dr, t, os⟩ := s1
    refine PySem.W.make_core (PySem.W.makes_of X1 hG.makes) (PySem.W.looks_findIn X1 hG.init) (fun self => PySem.W.bind_fn X1 self hG.isfn) (.inl rfl) ?_
    have f1 : hh.get? hh.objs.size = none := fresh_size hh
    have f2 : (hh.push PySem.W.emptyDict).get? (hh.objs.size + 1) = none := by rw [← Heap.size_push]; exact fresh_size _
    have st2 : Step D noOwn ⟨hh, g, dr, t, os⟩ ⟨hh.push PySem.W.emptyDict, g, dr, t, os⟩ H1 (H1.set hh.objs.size (.flds [])) :=
      Step.alloc (s := ⟨hh, g, dr, t, os⟩) (tk := t) I1 f1 (fun b o e => Heap.get?_push_of_some _ e) ⟨fun _ => none, ⟨_, #[], 0, Heap.get?_push_size _ rfl, rfl, fun _ h => by simp at h, fun _ => rfl, Nat.le_refl _⟩, fun n pv h => by simp [lkp] at h⟩
    have st3 : Step D noOwn ⟨hh.push PySem.W.emptyDict, g, dr, t, os⟩ ⟨(hh.push PySem.W.emptyDict).push (instObj D.C hh.objs.size), g, dr, t, os⟩ (H1.set hh.objs.size (.flds [])) ((H1.set hh.objs.size (.flds [])).set (hh.objs.size + 1) (.inst hh.objs.size)) :=
      Step.alloc (s := ⟨hh.push PySem.W.emptyDict, g, dr, t, os⟩) (tk := t) st2.inv f2 (fun b o e => Heap.get?_push_of_some _ e) (by have := Heap.get?_push_size (hh.push PySem.W.emptyDict) (o := instObj D.C hh.objs.size) rfl; rw [Heap.size_push] at this; exact this)
    have hq := q1 (hh.objs.size + 1) hh.objs.size (I1.fresh (by
      cases q : hh.get? (hh.objs.size + 1) with
      | none => rfl
      | some o => exact absurd (Heap.lt_size q) (by simp))) (I1.fresh f1) (Nat.succ_ne_self _)
    obtain ⟨ci, hci⟩ := hG.inip
    refine codeAny_mono (hS ini ci hci _ _ _ (.ref (hh.objs.size + 1) :: vs) (.ref (hh.objs.size + 1) :: pvs) _ (room_tc hR) st3.inv (by show _ :: _ = _; rw [e1]; rfl) hq) fun r s' z => ?_
    rcases r with e | (v | _ | _ | _) <;> first | exact z.elim | skip
    obtain ⟨pv, H', e, st4, rfl, q⟩ := z
    exact ⟨er_none e, .ref (hh.objs.size + 1), H', rfl, ((st1.trans st2).trans st3).trans st4, q⟩
end
end Mine
end

section
set_option maxRecDepth 100000
set_option Elab.async false
set_option linter.unusedVariables false
set_option linter.unusedSimpArgs false
open PySem PySem.Calls PySem.Spec
namespace Mine
open PySem.W (Frag TopRead instObj dictOf getL putL putN)

theorem mem_of_look {α : Type} {l : List (Str × α)} {n : Str} {c : α} (h : l.lookup n = some c) : (n, c) ∈ l := mem_of_lookup h

/-- what mkN's lookups say -/
theorem mkN_look {vars : List Str} : ∀ {l : List (Str × NameKind)} {x : Str} {k : NK}, (mkN vars l).lookup x = some k → match k with
    | .loc i => (x, NameKind.local) ∈ l ∧ vars.findIdx? (· == x) = some i
    | .cel i => (x, NameKind.cell) ∈ l ∧ vars.findIdx? (· == x) = some i
    | .glo => (x, NameKind.globalImplicit) ∈ l
  | [], x, k, h => by simp [mkN] at h
  | (n, kd) :: r, x, k, h => by
    have wk : ∀ {k : NK}, (mkN vars r).lookup x = some k → match k with
        | .loc i => (x, NameKind.local) ∈ (n, kd) :: r ∧ vars.findIdx? (· == x) = some i
        | .cel i => (x, NameKind.cell) ∈ (n, kd) :: r ∧ vars.findIdx? (· == x) = some i
        | .glo => (x, NameKind.globalImplicit) ∈ (n, kd) :: r := by
      intro k h
      have := mkN_look h
      cases k <;> dsimp only at this ⊢
      · exact ⟨List.mem_cons_of_mem _ this.1, this.2⟩
      · exact ⟨List.mem_cons_of_mem _ this.1, this.2⟩
      · exact List.mem_cons_of_mem _ this
    unfold mkN at h
    split at h
    · rename_i i hi
      rw [List.lookup_cons] at h
      split at h
      · rename_i q; obtain rfl := beq_iff_eq.mp q; cases h; exact ⟨List.mem_cons_self, hi⟩
      · exact wk h
    · rename_i i hi
      rw [List.lookup_cons] at h
      split at h
      · rename_i q; obtain rfl := beq_iff_eq.mp q; cases h; exact ⟨List.mem_cons_self, hi⟩
      · exact wk h
    · rw [List.lookup_cons] at h
      split at h
      · rename_i q; obtain rfl := beq_iff_eq.mp q; cases h; exact List.mem_cons_self
      · exact wk h
    · exact wk h

theorem injN_ok : ∀ {N : List (Str × NK)}, injN N = true → ∀ {x y : Str} {i : Nat}, (N.lookup x).bind nkSlot = some i → (N.lookup y).bind nkSlot = some i → x = y
  | [], _, x, y, i, h, _ => by simp at h
  | (n, k) :: r, hj, x, y, i, hx, hy => by
    simp only [injN, Bool.and_eq_true, Bool.not_eq_true'] at hj
    obtain ⟨⟨h1, h2⟩, h3⟩ := hj
    have key : ∀ z, (r.lookup z).bind nkSlot = some i → nkSlot k = some i → z = n := by
      intro z hz hk
      cases hl : r.lookup z with
      | none => rw [hl] at hz; cases hz
      | some kz =>
        rw [hl] at hz
        rw [hk] at h1
        have := List.all_eq_true.mp h1 _ (mem_of_look hl)
        simp only [Bool.or_eq_true, beq_iff_eq, bne_iff_ne] at this
        rcases this with e | e
        · exact e
        · exact (e hz).elim
    rw [List.lookup_cons] at hx hy
    cases qx : x == n <;> cases qy : y == n <;> rw [qx] at hx <;> rw [qy] at hy
    · exact injN_ok h3 hx hy
    · have := key x hx hy; rw [this, beq_iff_eq.mp qy]
    · have := key y hy hx; rw [this, beq_iff_eq.mp qx]
    · rw [beq_iff_eq.mp qx, beq_iff_eq.mp qy]

theorem distinct_ok : ∀ {l : List Str}, distinct l = true → l.Nodup
  | [], _ => List.nodup_nil
  | x :: r, h => by
    simp only [distinct, Bool.and_eq_true, Bool.not_eq_true'] at h
    refine List.nodup_cons.mpr ⟨fun hm => ?_, distinct_ok h.2⟩
    have := List.contains_iff_mem.mpr hm
    rw [h.1] at this; cases this

theorem bindL_miss (kd : Str → Option NameKind) : ∀ (l : List (Str × Value)) (m : Str → Option Value) (n : Str), n ∉ l.map (·.1) → bindL kd l m n = m n
  | [], _, _, _ => rfl
  | (n', v) :: r, m, n, h => by
    simp only [List.map_cons, List.mem_cons, not_or] at h
    unfold bindL
    rw [bindL_miss kd r _ n h.2]
    split
    · exact if_neg h.1
    · rfl
theorem bindL_hit (kd : Str → Option NameKind) : ∀ (l : List (Str × Value)) (m : Str → Option Value) (n : Str) (v : Value), (l.map (·.1)).Nodup → (n, v) ∈ l → kd n = some .local → bindL kd l m n = some v
  | [], _, _, _, _, h, _ => by cases h
  | (n', v') :: r, m, n, v, hn, h, hk => by
    rw [List.map_cons, List.nodup_cons] at hn
    unfold bindL
    rcases List.mem_cons.mp h with e | h
    · cases e
      rw [bindL_miss kd r _ n' hn.1, if_pos hk]; exact if_pos rfl
    · exact bindL_hit kd r _ n v hn.2 h hk
theorem bindC_miss (kd : Str → Option NameKind) : ∀ (l : List (Str × Value)) (m : Str → Option Value) (n : Str), n ∉ l.map (·.1) → bindC kd l m n = m n
  | [], _, _, _ => rfl
  | (n', v) :: r, m, n, h => by
    simp only [List.map_cons, List.mem_cons, not_or] at h
    unfold bindC
    rw [bindC_miss kd r _ n h.2]
    split
    · rfl
    · exact if_neg h.1
theorem bindC_hit (kd : Str → Option NameKind) : ∀ (l : List (Str × Value)) (m : Str → Option Value) (n : Str) (v : Value), (l.map (·.1)).Nodup → (n, v) ∈ l → kd n = some .cell → bindC kd l m n = some v
  | [], _, _, _, _, h, _ => by cases h
  | (n', v') :: r, m, n, v, hn, h, hk => by
    rw [List.map_cons, List.nodup_cons] at hn
    unfold bindC
    rcases List.mem_cons.mp h with e | h
    · cases e
      rw [bindC_miss kd r _ n' hn.1, if_neg (by rw [hk]; decide)]; exact if_pos rfl
    · exact bindC_hit kd r _ n v hn.2 h hk

theorem gt_get : ∀ (σ : Sg) (i : Nat), gt σ i = (σ[i]?).join
  | [], _ => rfl
  | v :: _, 0 => by simp [gt]
  | _ :: r, n + 1 => by simp only [gt, List.getElem?_cons_succ]; exact gt_get r n

theorem cells_has : ∀ (l : List (Str × NameKind)) (n : Nat) (acc : List (Str × Addr)) (x : Str), ((x, NameKind.cell) ∈ l ∨ (acc.lookup x).isSome = true) → ((cellsFrom n l acc).lookup x).isSome = true
  | [], _, _, _, h => by rcases h with h | h; cases h; exact h
  | (n', k) :: r, n, acc, x, h => by
    unfold cellsFrom
    split
    · refine cells_has r _ _ x ?_
      by_cases q : x = n'
      · subst q; right; rw [List.lookup_cons]; simp
      · rcases h with h | h
        · rcases List.mem_cons.mp h with e | h
          · cases e; exact (q rfl).elim
          · exact .inl h
        · right; rw [List.lookup_cons, show (x == n') = false by simpa using q]; exact h
    · rename_i hk
      refine cells_has r _ _ x ?_
      rcases h with h | h
      · rcases List.mem_cons.mp h with e | h
        · cases e; exact (hk rfl).elim
        · exact .inl h
      · exact .inr h

theorem Step.shed {D : Wd} {own : Nat → Prop} {s s1 s2 : Shared} {H H1 : PH} (hs : ∃ h tk, s1 = { s with heap := h, toks := tk }) (k : ∀ b o, s.heap.get? b = some o → s1.heap.get? b = some o) (hf : ∀ b, own b → s.heap.get? b = none) (x : Step D own s1 s2 H H1) : Step D noOwn s s2 H H1 := by
  obtain ⟨h, tk, rfl⟩ := hs
  obtain ⟨h2, tk2, rfl⟩ := x.same
  have kp : ∀ b o, H b = none → s.heap.get? b = some o → h2.get? b = some o := fun b o hb e => x.keep b o hb (fun q => by rw [hf b q] at e; cases e) (k _ _ e)
  exact ⟨⟨_, _, rfl⟩, x.inv, fun b o hb _ e => kp b o hb e, fun b o hb e => ⟨o, kp b o hb e⟩, fun b o e hb => x.dom b o (k _ _ e) hb⟩

theorem get_ge {h : Heap} {b : Nat} (hb : h.objs.size ≤ b) : h.get? b = none := by
  cases q : h.get? b with
  | none => rfl
  | some o => exact absurd (Heap.lt_size q) (Nat.not_lt.mpr hb)

theorem find_take {vars : List Str} {x : Str} {i : Nat} (h : vars.findIdx? (· == x) = some i) : vars[i]? = some x := by
  obtain ⟨hi, h1, _⟩ := List.findIdx?_eq_some_iff_getElem.mp h
  rw [List.getElem?_eq_getElem hi]
  exact congrArg some (beq_iff_eq.mp h1)

section
variable {D : Wd} {P : Nat → Option CFun} {ini : Nat} {ad : Nat → Nat} {fn : Nat → Option Str} {Γ : GT} {d : Nat} {A : Around} {E : Value → Shared → Prop}

theorem fun_sound {c : CFun} {a : Nat} (hG : GlOK D P ini ad fn) (hF : FunAt D fn c a) (hR : Room A (d + 1)) (hb : ∀ env, SSs D fn Γ ini (A.deeper env) c.body) {s : Shared} {H : PH} {vs : List Value} {pvs : List PV} {Q : PV → PH → Prop}
    (I : Inv D s.heap H) (el : EL vs pvs) (h1 : pvs.length ≤ c.np) (h2 : c.np ≤ pvs.length + c.dfl.length)
    (hw : WSs Γ ini c.body (c.init pvs) H fun fl _ H' => Q (match fl with | .ret v => v | .next => .none) H') :
    codeAny (model D.prog D.w) A (.call (.ref a) ⟨vs, []⟩) (fun r s' => match r with | .ok (.ret v) => Ex D s H Q v s' | _ => False) s := by
  obtain ⟨o, name, qual, params, body, scope, dV, kV, doc, pm, an, cdv, ct, ho, hd, hcd, hchk, -, -, -, -, hbd⟩ := hF.fd
  simp only [chkF, Bool.and_eq_true, beq_iff_eq, Bool.not_eq_true', decide_eq_true_eq] at hchk
  obtain ⟨⟨⟨⟨⟨⟨⟨⟨⟨⟨k1, k2⟩, k3⟩, k4⟩, k5⟩, k6⟩, k7⟩, k8⟩, k9⟩, k10⟩, k11⟩ := hchk
  obtain ⟨ws, ew, hbind⟩ := hbd vs s I.base (by rw [el.length]; exact h1) (by rw [el.length]; exact h2)
  rw [el.length] at ew
  have len : (pvs ++ c.dfl.drop (pvs.length + c.dfl.length - c.np)).length = c.np := by simp; omega
  have eall : EL (vs ++ ws) (pvs ++ c.dfl.drop (pvs.length + c.dfl.length - c.np)) := el.append ew
  have lenv : (vs ++ ws).length = c.np := eall.length.trans len
  have lk : ∀ x k, (x, k) ∈ scope.names → scope.names.lookup x = some k := fun x k hm => beq_iff_eq.mp (List.all_eq_true.mp k8 _ hm)
  have lent : (c.vars.take c.np).length = c.np := by rw [← k5, List.length_map]; exact k6
  have hnames : ((params.args.map (·.arg)).zip (vs ++ ws)).map (·.1) = c.vars.take c.np := by
    rw [k5]
    exact List.map_fst_zip (by rw [lent, lenv]; exact Nat.le_refl _)
  refine codeAny_call_function (by have := hR.dp; omega) (I.base _ _ ho) hd k3 k2 rfl (hcd.keeps I.base) (hbind _ _ _ _ ?_)
  refine wpAny_newFunctionEnv_cells k1 (fun x hx => ?_) fun env he s1 C1 => ⟨(hG.T.nolimit.keeps I.base).keeps C1.toInCall.keep, codeAny_func ?_⟩
  · have hm : x.1 ∈ c.vars.take c.np := by rw [← hnames]; exact List.mem_map_of_mem hx
    have := List.all_eq_true.mp k7 _ hm
    split at this
    · exact .inl (by assumption)
    · exact .inr ⟨by assumption, cells_has _ _ _ _ (.inl (mem_of_look (by assumption)))⟩
    · cases this
  · have e1 : env.scope = scope := by rw [he]; rfl
    have e2 : env.locals = s.heap.objs.size := by rw [he]; rfl
    have e3 : env.cells = cellsFrom (s.heap.objs.size + 1) scope.names [] := by rw [he]; rfl
    have e4 : env.globals = mainGlobals := by rw [he]; rfl
    have e5 : env.builtins = builtinsNs := by rw [he]; rfl
    have kd : ∀ x k, (x, k) ∈ scope.names → env.kindOf x = some k := fun x k hm => by unfold Env.kindOf; rw [e1]; exact lk x k hm
    have hE : EnvOK env (mkN c.vars scope.names) := by
      refine ⟨by rw [e1]; exact k1, e4, e5, ?_, fun x i h => kd x _ (mkN_look h).1, fun x i h => ⟨kd x _ (mkN_look h).1, ?_⟩, fun x h => kd x _ (mkN_look h), fun x y i hx hy => injN_ok k4 hx hy, fun x y c' hx hy => ?_, fun x c' hx => ?_⟩
      · rw [e2, e4]
        have := (hG.T.g.keeps I.base).lt
        exact Nat.ne_of_gt this
      · rw [← Option.isSome_iff_exists, e3]; exact cells_has _ _ _ _ (.inl (mkN_look h).1)
      · exact name_of_addr C1.apart (mem_of_look hx) (mem_of_look hy)
      · exact Nat.ne_of_gt (C1.above x c' (mem_of_look hx))
    have own_ge : ∀ b, ownOf env b → s.heap.objs.size ≤ b := by
      rintro b (rfl | ⟨x, hx⟩)
      · rw [e2]; exact Nat.le_refl _
      · have := C1.above x b (mem_of_look hx); rw [e2] at this; exact Nat.le_of_lt this
    have own_no : ∀ b, ownOf env b → s.heap.get? b = none := fun b hb => get_ge (own_ge b hb)
    have slot : ∀ x i pv, c.vars.findIdx? (· == x) = some i → gt (c.init pvs) i = some pv → ∃ v, (x, v) ∈ (params.args.map (·.arg)).zip (vs ++ ws) ∧ er v = some pv := by
      intro x i pv hi hg
      rw [gt_get] at hg
      unfold CFun.init at hg
      by_cases q : i < c.np
      · rw [List.getElem?_append_left (by rw [List.length_map, len]; exact q), List.getElem?_map] at hg
        cases hp : (pvs ++ c.dfl.drop (pvs.length + c.dfl.length - c.np))[i]? with
        | none => rw [hp] at hg; cases hg
        | some pv' =>
          rw [hp] at hg
          simp at hg; subst hg
          obtain ⟨v, hv, ev⟩ := eall.get hp
          refine ⟨v, ?_, ev⟩
          refine List.mem_iff_getElem?.mpr ⟨i, ?_⟩
          rw [k5, List.zip, List.getElem?_zipWith, List.getElem?_take_of_lt q, find_take hi, hv]
      · rw [List.getElem?_append_right (by rw [List.length_map, len]; omega)] at hg
        rw [List.getElem?_replicate] at hg
        split at hg <;> cases hg
    have nd : (((params.args.map (·.arg)).zip (vs ++ ws)).map (·.1)).Nodup := by rw [hnames]; exact distinct_ok k9
    obtain ⟨hh, tk, hs1⟩ := C1.toInCall.same
    have keep := C1.toInCall.keep
    have I1 : Inv D s1.heap H := by
      have := Step.ext (own := noOwn) (tk := tk) (h' := hh) I (by rw [hs1] at keep; exact keep)
      rw [hs1]; exact this.inv
    have hFr : FrOK D env (mkN c.vars scope.names) (c.init pvs) s1.heap H := by
      refine ⟨⟨_, C1.toInCall.ns, fun x i hx pv hg => ?_⟩, fun x i cc hx hc => ?_, fun b hb => I.fresh (own_no b hb), fun b hb => I.old (own_no b hb), fun x cc hc => ?_⟩
      · obtain ⟨m1, m2⟩ := mkN_look hx
        obtain ⟨v, hv, ev⟩ := slot x i pv m2 hg
        exact ⟨v, bindL_hit _ _ _ _ _ nd hv (kd x _ m1), ev⟩
      · obtain ⟨m1, m2⟩ := mkN_look hx
        refine ⟨⟨_, C1.cell x cc hc⟩, fun pv hg => ?_⟩
        obtain ⟨v, hv, ev⟩ := slot x i pv m2 hg
        refine ⟨v, ?_, ev⟩
        have := C1.cell x cc hc
        rw [bindC_hit _ _ _ _ _ nd hv (kd x _ m1)] at this
        exact this
      · obtain ⟨o, e, _⟩ := C1.cell x cc hc; exact ⟨o, e⟩
    refine wpAny_mono (hb env env _ body (c.init pvs) s1 H _ k11 hE hFr I1 hw) (fun f s' h3 => ?_) fun _ _ x => x.elim
    obtain ⟨fl, σ', H', hfl, st3, F3, q3⟩ := h3
    have st4 : Step D noOwn s s' H H' := Step.shed ⟨hh, tk, hs1⟩ keep own_no st3
    cases fl with
    | next =>
      cases f <;> (try (exact hfl.elim))
      exact ⟨.none, H', rfl, st4, q3⟩
    | ret u =>
      cases f <;> (try (exact hfl.elim))
      exact ⟨u, H', hfl, st4, q3⟩
end
end Mine
end

section
set_option maxRecDepth 100000
set_option Elab.async false
set_option linter.unusedVariables false
set_option linter.unusedSimpArgs false
open PySem PySem.Calls PySem.Spec
namespace Mine
open PySem.W (Frag TopRead instObj dictOf getL putL putN)

/-! the cells that a comprehension closes over -/
noncomputable def clAcc (env : Env) : List (Str × NameKind) → List (Str × Addr) → List (Str × Addr)
  | [], acc => acc
  | (n, k) :: r, acc => clAcc env r (if k == .free then (match env.cells.lookup n with | some a => (n, a) :: acc | none => acc) else acc)

theorem clos_forIn {env : Env} {f : Str × NameKind → List (Str × Addr) → Sem (ForInStep (List (Str × Addr)))} : ∀ (names : List (Str × NameKind)) (acc : List (Str × Addr)),
    (∀ n k c, (n, k) ∈ names → f (n, k) c = pure (.yield (if k == .free then (match env.cells.lookup n with | some a => (n, a) :: c | none => c) else c))) → forIn names acc f = pure (clAcc env names acc)
  | [], _, _ => rfl
  | (n, k) :: r, acc, h => by
    rw [List.forIn_cons, h n k acc List.mem_cons_self, pure_bind]
    exact clos_forIn r _ fun n' k' c hm => h n' k' c (List.mem_cons_of_mem _ hm)

theorem closure_eq {scope : Scope} {env : Env} (h : ∀ n, (n, NameKind.free) ∈ scope.names → ∃ c, env.cells.lookup n = some c) : closureFor scope env = pure (clAcc env scope.names []) := by
  simp only [closureFor]
  rw [clos_forIn (env := env) scope.names [] (fun n k c hm => by
    cases k <;> first
      | rfl
      | (obtain ⟨a, ha⟩ := h n hm; simp only [cellOf, ha]; rfl))]
  rfl

theorem clAcc_look {env : Env} : ∀ (names : List (Str × NameKind)) (acc : List (Str × Addr)), (∀ z c, acc.lookup z = some c → env.cells.lookup z = some c) → ∀ z c, (clAcc env names acc).lookup z = some c → env.cells.lookup z = some c
  | [], acc, h, z, c, e => h z c e
  | (n, k) :: r, acc, h, z, c, e => by
    unfold clAcc at e
    refine clAcc_look r _ (fun z c e => ?_) z c e
    split at e
    · split at e
      · rename_i a ha
        rw [List.lookup_cons] at e
        split at e
        · rename_i q; cases e; rw [beq_iff_eq.mp q]; exact ha
        · exact h z c e
      · exact h z c e
    · exact h z c e
theorem clAcc_has {env : Env} : ∀ (names : List (Str × NameKind)) (acc : List (Str × Addr)) (z : Str), ((z, NameKind.free) ∈ names ∨ (acc.lookup z).isSome = true) → (∃ c, env.cells.lookup z = some c) → ((clAcc env names acc).lookup z).isSome = true
  | [], _, _, h, _ => by rcases h with h | h; cases h; exact h
  | (n, k) :: r, acc, z, h, hc => by
    unfold clAcc
    refine clAcc_has r _ z ?_ hc
    rcases h with h | h
    · rcases List.mem_cons.mp h with e | h
      · cases e
        obtain ⟨c, hc⟩ := hc
        right
        simp [hc, List.lookup_cons]
      · exact .inl h
    · right
      split
      · split
        · rename_i a ha
          rw [List.lookup_cons]
          split
          · rfl
          · exact h
        · exact h
      · exact h

noncomputable def relK (env : Env) (n : Str) (k : NameKind) : NameKind := if (k == .free && env.scope.kind == .function && env.kindOf n == some .cell) = true then .cell else k
theorem relabel_names (scope : Scope) (env : Env) : (relabel scope env).names = scope.names.map fun z => (z.1, relK env z.1 z.2) := by
  unfold relabel
  refine List.map_congr_left fun z _ => ?_
  obtain ⟨n, k⟩ := z
  unfold relK
  dsimp only
  split <;> rfl
theorem look_map {f : Str → NameKind → NameKind} : ∀ (l : List (Str × NameKind)) (z : Str), (l.map fun y => (y.1, f y.1 y.2)).lookup z = (l.lookup z).map (f z)
  | [], _ => rfl
  | (n, k) :: r, z => by
    have ih := look_map (f := f) r z
    rw [List.map_cons, List.lookup_cons, List.lookup_cons]
    cases q : z == n with
    | true => obtain rfl := beq_iff_eq.mp q; rfl
    | false => exact ih
theorem relabel_look {scope : Scope} {env : Env} {z : Str} {k : NameKind} (h : scope.names.lookup z = some k) : (relabel scope env).names.lookup z = some (relK env z k) := by
  rw [relabel_names, look_map, h]; rfl

theorem compN_look {N : List (Str × NK)} {y : Str} {x : Nat} : ∀ {l : List (Str × NameKind)} {z : Str} {k : NK}, (compN N y x l).lookup z = some k → match k with
    | .loc i => z = y ∧ i = x ∧ (z, NameKind.local) ∈ l
    | .cel i => (z, NameKind.free) ∈ l ∧ N.lookup z = some (.cel i)
    | .glo => (z, NameKind.globalImplicit) ∈ l
  | [], z, k, h => by simp [compN] at h
  | (n, kd) :: r, z, k, h => by
    have wk : ∀ {k : NK}, (compN N y x r).lookup z = some k → match k with
        | .loc i => z = y ∧ i = x ∧ (z, NameKind.local) ∈ (n, kd) :: r
        | .cel i => (z, NameKind.free) ∈ (n, kd) :: r ∧ N.lookup z = some (.cel i)
        | .glo => (z, NameKind.globalImplicit) ∈ (n, kd) :: r := by
      intro k h
      have := compN_look h
      cases k <;> dsimp only at this ⊢
      · exact ⟨this.1, this.2.1, List.mem_cons_of_mem _ this.2.2⟩
      · exact ⟨List.mem_cons_of_mem _ this.1, this.2⟩
      · exact List.mem_cons_of_mem _ this
    unfold compN at h
    cases kd <;> dsimp only at h
    case «local» =>
      split at h
      · rename_i q
        rw [List.lookup_cons] at h
        split at h
        · rename_i q'; cases h; obtain rfl := beq_iff_eq.mp q'; exact ⟨beq_iff_eq.mp q, rfl, List.mem_cons_self⟩
        · exact wk h
      · exact wk h
    case «free» =>
      split at h
      · rename_i i hi
        rw [List.lookup_cons] at h
        split at h
        · rename_i q'; cases h; obtain rfl := beq_iff_eq.mp q'; exact ⟨List.mem_cons_self, hi⟩
        · exact wk h
      · exact wk h
    case «globalImplicit» =>
      rw [List.lookup_cons] at h
      split at h
      · rename_i q'; cases h; obtain rfl := beq_iff_eq.mp q'; exact List.mem_cons_self
      · exact wk h
    all_goals exact wk h

/-- slot x set free -/
noncomputable def cls : Sg → Nat → Sg
  | [], _ => []
  | _ :: r, 0 => none :: r
  | v :: r, n + 1 => v :: cls r n
theorem st_cls : ∀ (σ : Sg) (x : Nat) (v : PV), st (cls σ x) x v = st σ x v
  | [], _, _ => rfl
  | _ :: _, 0, _ => rfl
  | v :: r, n + 1, u => by show _ :: st (cls r n) n u = _ :: _; rw [st_cls r n u]
theorem gt_cls : ∀ {σ : Sg} {x i : Nat} {pv : PV}, gt (cls σ x) i = some pv → i ≠ x ∧ gt σ i = some pv
  | [], _, _, _, h => by cases h
  | _ :: _, 0, 0, _, h => by cases h
  | _ :: _, 0, i + 1, _, h => ⟨by omega, h⟩
  | _ :: _, _ + 1, 0, _, h => ⟨by omega, h⟩
  | _ :: r, n + 1, i + 1, pv, h => let ⟨a, b⟩ := gt_cls (σ := r) (x := n) (i := i) h; ⟨by omega, b⟩
theorem gt_st_cls {σ : Sg} {x i : Nat} {v pv : PV} (h : gt (cls σ x) i = some pv) : gt (st σ x v) i = some pv := by
  obtain ⟨a, b⟩ := gt_cls h
  rw [gt_st_ne a]; exact b

section
variable {D : Wd} {P : Nat → Option CFun} {ini : Nat} {ad : Nat → Nat} {fn : Nat → Option Str} {Γ : GT} {d : Nat} {A : Around} {E : Value → Shared → Prop}

theorem FrOK.less {env : Env} {N : List (Str × NK)} {σ σ' : Sg} {h : Heap} {H : PH} (F : FrOK D env N σ h H) (hs : ∀ i pv, gt σ' i = some pv → gt σ i = some pv) : FrOK D env N σ' h H := by
  obtain ⟨m, hn, hm⟩ := F.ns
  refine ⟨⟨m, hn, fun x i hx pv hp => hm x i hx pv (hs i pv hp)⟩, fun x i c hx hc => ?_, F.off, F.old, F.live⟩
  obtain ⟨a, b⟩ := F.cl x i c hx hc
  exact ⟨a, fun pv hp => b pv (hs i pv hp)⟩

/-- a comprehension's frame -/
structure CFr (env : Env) (scope : Scope) (C : Nat) (cenv : Env) : Prop where
  eq : cenv = compEnvC scope (clAcc env scope.names []) C env

theorem scopeOK_spec {N : List (Str × NK)} {y : Str} {scope : Scope} (h : scopeOK N y scope = true) : scope.kind = .function ∧ (∀ n k, (n, k) ∈ scope.names → k ≠ .cell ∧ scope.names.lookup n = some k ∧ (k = .free → ∃ i, N.lookup n = some (.cel i))) ∧ scope.names.lookup y = some .local := by
  unfold scopeOK at h
  simp only [Bool.and_eq_true, beq_iff_eq] at h
  obtain ⟨⟨h1, h2⟩, h3⟩ := h
  refine ⟨h1, fun n k hm => ?_, h3⟩
  have := List.all_eq_true.mp h2 _ hm
  simp only [Bool.and_eq_true, bne_iff_ne, beq_iff_eq, Bool.or_eq_true] at this
  obtain ⟨⟨a, b⟩, c⟩ := this
  refine ⟨a, b, fun e => ?_⟩
  rcases c with c | c
  · exact (c e).elim
  · split at c
    · exact ⟨_, by assumption⟩
    · cases c

theorem comp_env {env : Env} {N : List (Str × NK)} {y : Str} {x : Nat} {scope : Scope} {C : Nat} (hE : EnvOK env N) (hs : scopeOK N y scope = true) (hj : injN (compN N y x scope.names) = true) (hC : C ≠ mainGlobals) (hcl : ∀ z c, env.cells.lookup z = some c → c ≠ C) :
    EnvOK (compEnvC scope (clAcc env scope.names []) C env) (compN N y x scope.names) := by
  obtain ⟨s1, s2, s3⟩ := scopeOK_spec hs
  have kd : ∀ z k, (z, k) ∈ scope.names → (compEnvC scope (clAcc env scope.names []) C env).kindOf z = some (relK env z k) := fun z k hm => relabel_look (s2 z k hm).2.1
  have cl : ∀ z c, (compEnvC scope (clAcc env scope.names []) C env).cells.lookup z = some c → env.cells.lookup z = some c := clAcc_look _ _ (fun z c e => by cases e)
  refine ⟨s1, hE.glob, hE.blt, by show C ≠ env.globals; rw [hE.glob]; exact hC, fun z i h => ?_, fun z i h => ?_, fun z h => ?_, fun a b i ha hb => injN_ok hj ha hb, fun a b c ha hb => hE.apart a b c (cl _ _ ha) (cl _ _ hb), fun z c h => hcl z c (cl _ _ h)⟩
  · have := (compN_look h).2.2; rw [kd z _ this]; rfl
  · obtain ⟨m1, m2⟩ := compN_look h
    obtain ⟨c1, c, hc⟩ := hE.cel z i m2
    refine ⟨?_, ?_⟩
    · rw [kd z _ m1]; unfold relK; rw [hE.fn, c1]; rfl
    · rw [← Option.isSome_iff_exists]; exact clAcc_has _ _ _ (.inl m1) ⟨c, hc⟩
  · rw [kd z _ (compN_look h)]; rfl

theorem comp_fr {env : Env} {N : List (Str × NK)} {y : Str} {x : Nat} {scope : Scope} {C : Nat} {σ : Sg} {h h' : Heap} {H : PH} {m : Str → Option Value} (hF : FrOK D env N σ h H) (hk : ∀ b o, h.get? b = some o → h'.get? b = some o) (hn : h'.Ns C m)
    (hC : H C = none) (hC0 : D.h0.get? C = none) : FrOK D (compEnvC scope (clAcc env scope.names []) C env) (compN N y x scope.names) (cls σ x) h' H := by
  have cl : ∀ z c, (compEnvC scope (clAcc env scope.names []) C env).cells.lookup z = some c → env.cells.lookup z = some c := clAcc_look _ _ (fun z c e => by cases e)
  refine ⟨⟨m, hn, fun z i hz pv hp => ?_⟩, fun z i c hz hc => ?_, fun b hb => ?_, fun b hb => ?_, fun z c hc => ?_⟩
  · exact ((gt_cls hp).1 (compN_look hz).2.1).elim
  · obtain ⟨⟨v, hv⟩, hw⟩ := hF.cl z i c (compN_look hz).2 (cl z c hc)
    exact ⟨⟨v, IsCell.at hv fun o e => hk _ o e⟩, fun pv hp => let ⟨w, a, b⟩ := hw pv (gt_cls hp).2; ⟨w, IsCell.at a fun o e => hk _ o e, b⟩⟩
  · rcases hb with rfl | ⟨z, hz⟩
    · exact hC
    · exact hF.off b (.inr ⟨z, cl _ _ hz⟩)
  · rcases hb with rfl | ⟨z, hz⟩
    · exact hC0
    · exact hF.old b (.inr ⟨z, cl _ _ hz⟩)
  · obtain ⟨o, e⟩ := hF.live z c (cl _ _ hc); exact ⟨o, hk _ _ e⟩

/-- a local name bound: only the frame is written -/
theorem store_loc {M : Model} {env : Env} {N : List (Str × NK)} {σ : Sg} {s : Shared} {H : PH} {y : Str} {i : Nat} {v : Value} {pv : PV} {R : Unit → Shared → Prop} (hE : EnvOK env N) (F : FrOK D env N σ s.heap H) (I : Inv D s.heap H) (hl : N.lookup y = some (.loc i)) (hv : er v = some pv)
    (k : ∀ h' tk, Step D (fun b => b = env.locals) s { s with heap := h', toks := tk } H H → FrOK D env N (st σ i pv) h' H → R () { s with heap := h', toks := tk }) : wpAny M A (storeName env y v) R E s := by
  obtain ⟨m, hn, hm⟩ := F.ns
  have oth : ∀ {x j kk}, N.lookup x = some kk → nkSlot kk = some j → x ≠ y → j ≠ i := by
    intro x j kk e1 e2 hne e
    subst e
    exact hne (hE.inj x y j (by rw [e1]; exact e2) (by rw [hl]; rfl))
  refine wpAny_storeName_local (hE.loc y i hl) hn (fun h' hn' hs => k h' _ (.hid I rfl (F.off _ (.inl rfl)) (F.old _ (.inl rfl)) (fun b o hb e => hs.extBut b o hb e) (let ⟨o, _, _, e, _⟩ := hn'; ⟨o, e⟩)) ?_) (noClassMod hE.fn)
  refine ⟨⟨_, hn', fun x i' hx pv' hp => ?_⟩, fun x i' c hx hc => ?_, F.off, F.old, fun x c hc => ?_⟩
  · by_cases q : x = y
    · subst q
      rw [hl] at hx; cases hx
      rw [gt_st_same hp]
      exact ⟨v, if_pos rfl, hv⟩
    · rw [gt_st_ne (oth hx rfl q)] at hp
      obtain ⟨v', h1, h2⟩ := hm x i' hx pv' hp
      exact ⟨v', by rw [if_neg q]; exact h1, h2⟩
  · have hne : x ≠ y := by rintro rfl; rw [hl] at hx; cases hx
    have hk : ∀ o, s.heap.get? c = some o → h'.get? c = some o := fun o e => hs.extBut c o (hE.off x c hc) e
    rw [gt_st_ne (oth hx rfl hne)]
    obtain ⟨⟨u, hu⟩, hw⟩ := F.cl x i' c hx hc
    exact ⟨⟨u, IsCell.at hu hk⟩, fun pv' hp => let ⟨w, a, b⟩ := hw pv' hp; ⟨w, IsCell.at a hk, b⟩⟩
  · obtain ⟨o, e⟩ := F.live x c hc
    exact ⟨o, hs.extBut c o (hE.off x c hc) e⟩

/-- the tests of a comprehension -/
noncomputable def SCond (D : Wd) (fn : Nat → Option Str) (Γ : GT) (ini : Nat) (A : Around) (cs : CEs) : Prop :=
  ∀ (env : Env) (N : List (Str × NK)) (ps : List Expr) (σ : Sg) (s : Shared) (H : PH) (Q : Bool → PH → Prop), chkEs fn N cs ps = true → EnvOK env N → FrOK D env N σ s.heap H → Inv D s.heap H → WCond Γ ini cs σ H Q →
    wpAny (model D.prog D.w) A (forIn ps true fun c r => if r = true then do let ok ← isTrue c env (eval c env); pure (ForInStep.yield ok) else pure (ForInStep.yield r))
      (fun ok s' => ∃ H', Step D noOwn s s' H H' ∧ Q ok H') Nope s

theorem tests_false {env : Env} {Q : Bool → Shared → Prop} : ∀ (ps : List Expr) (s : Shared), Q false s →
    wpAny (model D.prog D.w) A (forIn ps false fun c r => if r = true then do let ok ← isTrue c env (eval c env); pure (ForInStep.yield ok) else pure (ForInStep.yield r)) Q E s
  | [], s, h => wpAny_pure h
  | p :: ps, s, h => by
    rw [List.forIn_cons, if_neg (by decide)]
    exact wpAny_bind (wpAny_pure (tests_false ps s h))

theorem scond_nil : SCond D fn Γ ini A .nil := by
  intro env N ps σ s H Q hc hE hF hI hw
  cases ps with
  | nil => exact wpAny_pure ⟨H, .refl hI, hw⟩
  | cons _ _ => exact ff hc
theorem scond_cons {e : CE} {r : CEs} (he : ST D fn Γ ini A e) (hr : SCond D fn Γ ini A r) : SCond D fn Γ ini A (.cons e r) := by
  intro env N ps σ s H Q hc hE hF hI hw
  cases ps with
  | nil => exact ff hc
  | cons p ps =>
    simp only [chkEs, Bool.and_eq_true] at hc
    rw [List.forIn_cons, if_pos rfl]
    refine wpAny_bind (wpAny_bind (he.seq hc.1.1 hE hF hI hw fun b s1 H1 st1 F1 I1 q1 => wpAny_pure ?_))
    cases b with
    | true => exact wpAny_mono (hr env N ps σ s1 H1 Q hc.2 hE F1 I1 q1) (fun ok s2 h2 => let ⟨H2, st2, q2⟩ := h2; ⟨H2, st1.trans st2, q2⟩) fun _ _ x => x
    | false => exact tests_false ps s1 ⟨H1, st1, q1⟩
end
end Mine
end

section
set_option maxRecDepth 100000
set_option Elab.async false
set_option linter.unusedVariables false
set_option linter.unusedSimpArgs false
open PySem PySem.Calls PySem.Spec
namespace Mine
open PySem.W (Frag TopRead instObj dictOf getL putL putN)

abbrev own3 (I X C : Nat) : Nat → Prop := fun b => b = I ∨ (b = X ∨ (b = C ∨ noOwn b))

/-- midway through a comprehension -/
structure CMid (D : Wd) (s1 : Shared) (H1 : PH) (I X : Nat) (cenv : Env) (N' : List (Str × NK)) (a : Option (Nat × PObj)) (xs : List PV) (o : PObj) (σ' : Sg) (j : Nat) (s : Shared) (H : PH) : Prop where
  st : Step D (own3 I X cenv.locals) s1 s H1 H
  fr : FrOK D cenv N' σ' s.heap H
  it : ItAt I a xs j s.heap
  hI : H I = none
  hX : H X = none
  acc : RO D s.heap X o

section
variable {D : Wd} {P : Nat → Option CFun} {ini : Nat} {ad : Nat → Nat} {fn : Nat → Option Str} {Γ : GT} {d : Nat} {A : Around} {E : Value → Shared → Prop}
variable {s1 : Shared} {H1 : PH} {I X : Nat} {cenv : Env} {N' : List (Str × NK)} {a : Option (Nat × PObj)} {xs : List PV} {o : PObj} {σ' : Sg} {j : Nat}

theorem CMid.hC {s : Shared} {H : PH} (m : CMid D s1 H1 I X cenv N' a xs o σ' j s H) : H cenv.locals = none := m.fr.off _ (.inl rfl)
theorem CMid.step {s s' : Shared} {H H' : PH} (m : CMid D s1 H1 I X cenv N' a xs o σ' j s H) (st : Step D noOwn s s' H H') : CMid D s1 H1 I X cenv N' a xs o σ' j s' H' := by
  obtain ⟨oi, ei⟩ := m.it.some
  obtain ⟨ox, ex⟩ := m.acc.some
  exact ⟨m.st.trans st.ofNo, m.fr.step st, m.it.at fun o e => st.keep _ o m.hI id e, st.dom _ _ ei m.hI, st.dom _ _ ex m.hX, m.acc.at fun o e => st.keep _ o m.hX id e⟩
theorem CMid.less {σ'' : Sg} {s : Shared} {H : PH} (m : CMid D s1 H1 I X cenv N' a xs o σ' j s H) (h : ∀ i pv, gt σ'' i = some pv → gt σ' i = some pv) : CMid D s1 H1 I X cenv N' a xs o σ'' j s H :=
  ⟨m.st, m.fr.less h, m.it, m.hI, m.hX, m.acc⟩

/-- what stays through a comprehension's loop -/
structure CFix (D : Wd) (s1 : Shared) (H1 : PH) (I X : Nat) (cenv : Env) (N' : List (Str × NK)) (a : Option (Nat × PObj)) (xs : List PV) (y : Str) (x : Nat) : Prop where
  env : EnvOK cenv N'
  y : N'.lookup y = some (.loc x)
  fI : s1.heap.get? I = none
  fX : s1.heap.get? X = none
  fC : s1.heap.get? cenv.locals = none
  h0I : D.h0.get? I = none
  h0X : D.h0.get? X = none
  h0C : D.h0.get? cenv.locals = none
  nIX : I ≠ X
  nIC : I ≠ cenv.locals
  nXC : X ≠ cenv.locals
  ncI : ∀ z c, cenv.cells.lookup z = some c → c ≠ I
  ncX : ∀ z c, cenv.cells.lookup z = some c → c ≠ X
  src : SrcOK a xs
  len : xs.length ≤ sizeLine

noncomputable def CInv {β : Type} (D : Wd) (s1 : Shared) (H1 : PH) (I X : Nat) (cenv : Env) (N' : List (Str × NK)) (a : Option (Nat × PObj)) (xs : List PV) (σ : Sg) (x : Nat) (f : β → PObj) (W : List PV → β → PH → Prop) (n : Nat) (s : Shared) : Prop :=
  ∃ i acc H, n = xs.length + 1 - i ∧ i ≤ xs.length ∧ CMid D s1 H1 I X cenv N' a xs (f acc) (cls σ x) i s H ∧ still a H ∧ W (xs.drop i) acc H

theorem comp_turn {β : Type} {σ : Sg} {x : Nat} {y : Str} {py : Pos} {f : β → PObj} {W : List PV → β → PH → Prop} {WT : PV → List PV → β → PH → Prop} {T : Nat → Shared → Prop} {R : Result → Shared → Prop} {cd : CEs} {ifs : List Expr} {n : Nat} {s : Shared} {E1 E2 E3 : Value → Shared → Prop}
    (hh : A.handled = none) (F : CFix D s1 H1 I X cenv N' a xs y x) (hcd : SCond D fn Γ ini A cd) (hck : chkEs fn N' cd ifs = true)
    (hW : ∀ v r acc H, W (v :: r) acc H → WCond Γ ini cd (st σ x v) H fun b H1 => match b with | true => WT v r acc H1 | false => still a H1 ∧ W r acc H1)
    (h : CInv D s1 H1 I X cenv N' a xs σ x f W n s)
    (kend : ∀ s' H acc, Step D (fun b => b = X ∨ (b = cenv.locals ∨ noOwn b)) s1 s' H1 H → H X = none → H cenv.locals = none → RO D s'.heap X (f acc) → (∃ m, s'.heap.Ns cenv.locals m) → W [] acc H → R (.ok .next) s')
    (ktrue : ∀ i v acc s3 H3, n = xs.length + 1 - i → i < xs.length → CMid D s1 H1 I X cenv N' a xs (f acc) (st σ x v) (i + 1) s3 H3 → WT v (xs.drop (i + 1)) acc H3 → T n s3) :
    wpAny (model D.prog D.w) A (pyNext (.ref I)) (fun r s₁ => match r with
      | none => R (.ok .next) s₁
      | some v => wpAny (model D.prog D.w) A (assign (.Name y py) cenv v) (fun _ s₂ =>
          wpAny (model D.prog D.w) A (forIn ifs true fun c r => if r = true then do let ok ← isTrue c cenv (eval c cenv); pure (ForInStep.yield ok) else pure (ForInStep.yield r)) (fun ok s₃ =>
            if ok = true then T n s₃ else ∃ m, m < n ∧ CInv D s1 H1 I X cenv N' a xs σ x f W m s₃) E1 s₂) E2 s₁) E3 s := by
  obtain ⟨i, acc, H, rfl, hi, M, sl, w⟩ := h
  have ncI : ∀ b, ownOf cenv b → b ≠ I := by
    rintro b (rfl | ⟨z, hz⟩)
    · exact F.nIC.symm
    · exact F.ncI z b hz
  by_cases hlt : i < xs.length
  · have hx : xs[i]? = some xs[i] := List.getElem?_eq_getElem hlt
    refine it_item M.st.inv M.it F.src sl hx fun v h1 tk1 ev it1 hk1 => ?_
    have stA : Step D (own3 I X cenv.locals) s { s with heap := h1, toks := tk1 } H H := .hid M.st.inv (.inl rfl) M.hI F.h0I hk1 it1.some
    have FA : FrOK D cenv N' (cls σ x) h1 H := M.fr.stay (fun b o hb e => hk1 b o (ncI b hb) e) M.fr.off
    refine wpAny_assign_Name (store_loc F.env FA stA.inv F.y ev fun h2 tk2 stB FB => ?_)
    rw [st_cls] at FB
    rw [List.drop_eq_getElem_cons hlt] at w
    have itB : ItAt I a xs (i + 1) h2 := it1.at fun o e => stB.keep I o M.hI F.nIC e
    have accB : RO D h2 X (f acc) := (M.acc.at fun o e => hk1 X o F.nIX.symm e).at fun o e => stB.keep X o M.hX F.nXC e
    have MB : CMid D s1 H1 I X cenv N' a xs (f acc) (st σ x xs[i]) (i + 1) { s with heap := h2, toks := tk2 } H :=
      ⟨(M.st.trans stA).trans (stB.weak fun b hb => .inr (.inr (.inl hb))), FB, itB, M.hI, M.hX, accB⟩
    refine wpAny_mono (hcd cenv N' ifs _ _ H _ hck F.env FB stB.inv (hW _ _ _ _ w)) (fun ok s3 h3 => ?_) fun _ _ x => x.elim
    obtain ⟨H3, st3, q3⟩ := h3
    have M3 := MB.step st3
    cases ok with
    | true => rw [if_pos rfl]; exact ktrue i _ acc s3 H3 rfl hlt M3 q3
    | false =>
      rw [if_neg (by decide)]
      exact ⟨xs.length + 1 - (i + 1), by omega, i + 1, acc, H3, rfl, hlt, M3.less fun _ _ e => gt_st_cls e, q3.1, q3.2⟩
  · have hi2 : i = xs.length := by omega
    subst hi2
    rw [List.drop_length] at w
    refine it_end hh M.st.inv M.it F.src sl (Nat.le_refl _) fun h1 tk1 hk1 => ?_
    have st5 := M.st.drop (h' := h1) (tk := tk1) F.fI F.h0I M.hI hk1
    obtain ⟨m, hn, _⟩ := M.fr.ns
    exact kend _ H acc st5 M.hX M.hC (M.acc.at fun o e => hk1 X o F.nIX.symm e) ⟨m, Ns.at hn fun o e => hk1 _ o F.nIC.symm e⟩ w

/-- the list comprehension's loop -/
theorem comp_loop {σ : Sg} {x : Nat} {y : Str} {py : Pos} {R : Result → Shared → Prop} {elt : CE} {cd : CEs} {p it : Expr} {ifs : List Expr} {scope : Scope} {pos : Pos} {s : Shared} {Q : List PV → PH → Prop}
    (hh : A.handled = none) (F : CFix D s1 H1 I X cenv N' a xs y x) (hcd : SCond D fn Γ ini A cd) (he : SE D fn Γ ini A elt) (hck : chkEs fn N' cd ifs = true) (hce : chkE fn N' elt p = true)
    (M : CMid D s1 H1 I X cenv N' a xs (.list []) (cls σ x) 0 s H1) (sl : still a H1) (w : compW (WCond Γ ini cd) (WE Γ ini elt) a x σ xs [] H1 Q)
    (kend : ∀ s' H acc, Step D (fun b => b = X ∨ (b = cenv.locals ∨ noOwn b)) s1 s' H1 H → H X = none → H cenv.locals = none → RO D s'.heap X (.list acc) → (∃ m, s'.heap.Ns cenv.locals m) → Q acc H → R (.ok .next) s') :
    codeAny (model D.prog D.w) A (.compLoop (.ListComp p [⟨.Name y py, it, ifs, 0⟩] scope pos) 0 (.ref I) (.ref X) cenv) R s := by
  refine codeAny_compLoop_tests (CInv D s1 H1 I X cenv N' a xs σ x PObj.list (fun r acc H => compW (WCond Γ ini cd) (WE Γ ini elt) a x σ r acc H Q)) (fun n s' hI => ?_) (xs.length + 1) ⟨0, [], H1, rfl, Nat.zero_le _, M, sl, by rw [List.drop_zero]; exact w⟩
  let N := notedBy (model D.prog D.w) A cenv fun e s' => R (.error e) s'
  refine wpAny_mono (comp_turn (py := py) (R := R) (E1 := N) (E2 := N) (E3 := N) (T := fun n s₃ => wpAny (model D.prog D.w) A (eval p cenv) (fun x1 s₄ => wpAny (model D.prog D.w) A (call (.builtin "list.append") [.ref X, x1]) (fun _ s₅ => ∃ m, m < n ∧ CInv D s1 H1 I X cenv N' a xs σ x PObj.list (fun r acc H => compW (WCond Γ ini cd) (WE Γ ini elt) a x σ r acc H Q) m s₅) N s₄) N s₃) (f := PObj.list) (W := fun r acc H => compW (WCond Γ ini cd) (WE Γ ini elt) a x σ r acc H Q) (WT := fun v r acc H => WE Γ ini elt (st σ x v) H fun u H2 => still a H2 ∧ acc.length < big ∧ compW (WCond Γ ini cd) (WE Γ ini elt) a x σ r (acc ++ [u]) H2 Q)
    hh F hcd hck (fun v r acc H h => h) hI kend fun i v acc s3 H3 hn hi M3 w3 => ?_) (fun r s₁ h => by cases r <;> exact h) fun _ _ x => x
  subst hn
  refine wpAny_mono (he.seq hce F.env M3.fr M3.st.inv w3 fun u s4 pu H4 e4 st4 F4 I4 q4 => ?_) (fun _ _ x => x) fun _ _ x => x.elim
  have M4 := M3.step st4
  obtain ⟨vs, hl, el⟩ := M4.acc
  refine wpAny_list_append_plain hl (fun h' h1 h2 => ?_) (by rw [show vs.toArray.size = acc.length by simpa using el.length]; exact big_size (Nat.le_of_lt q4.2.1))
  have st5 : Step D (own3 I X cenv.locals) s4 { s4 with heap := h', toks := s4.toks } H4 H4 := .hid I4 (.inr (.inl rfl)) M4.hX F.h0X (fun b o hb e => h2.extBut b o hb e) ⟨_, h1.choose_spec⟩
  have ncX : ∀ b, ownOf cenv b → b ≠ X := by
    rintro b (rfl | ⟨z, hz⟩)
    · exact F.nXC.symm
    · exact F.ncX z b hz
  refine ⟨xs.length + 1 - (i + 1), by omega, i + 1, acc ++ [pu], H4, rfl, hi, ⟨M4.st.trans st5, (M4.fr.stay (fun b o hb e => h2.extBut b o (ncX b hb) e) M4.fr.off).less fun _ _ e => gt_st_cls e, M4.it.at fun o e => h2.extBut I o F.nIX e, M4.hI, M4.hX, ?_⟩, q4.1, q4.2.2⟩
  exact ⟨vs ++ [u], by rw [show (vs ++ [u]).toArray = vs.toArray.push u by simp]; exact h1, el.append (show EL [u] [pu] by simp [EL, e4])⟩

/-- the dict comprehension's loop -/
theorem dcomp_loop {σ : Sg} {x : Nat} {y : Str} {py : Pos} {R : Result → Shared → Prop} {ek ev : CE} {cd : CEs} {pk pv it : Expr} {ifs : List Expr} {scope : Scope} {pos : Pos} {s : Shared} {Q : List (Str × PV) → PH → Prop}
    (hh : A.handled = none) (F : CFix D s1 H1 I X cenv N' a xs y x) (hcd : SCond D fn Γ ini A cd) (hk : SE D fn Γ ini A ek) (hv : SE D fn Γ ini A ev) (hck : chkEs fn N' cd ifs = true) (hcek : chkE fn N' ek pk = true) (hcev : chkE fn N' ev pv = true)
    (M : CMid D s1 H1 I X cenv N' a xs (.dS []) (cls σ x) 0 s H1) (sl : still a H1) (w : dcompW (WCond Γ ini cd) (WE Γ ini ek) (WE Γ ini ev) a x σ xs [] H1 Q)
    (kend : ∀ s' H acc, Step D (fun b => b = X ∨ (b = cenv.locals ∨ noOwn b)) s1 s' H1 H → H X = none → H cenv.locals = none → RO D s'.heap X (.dS acc) → (∃ m, s'.heap.Ns cenv.locals m) → Q acc H → R (.ok .next) s') :
    codeAny (model D.prog D.w) A (.compLoop (.DictComp pk pv [⟨.Name y py, it, ifs, 0⟩] scope pos) 0 (.ref I) (.ref X) cenv) R s := by
  refine codeAny_compLoop_testsD (CInv D s1 H1 I X cenv N' a xs σ x PObj.dS (fun r acc H => dcompW (WCond Γ ini cd) (WE Γ ini ek) (WE Γ ini ev) a x σ r acc H Q)) (fun n s' hI => ?_) (xs.length + 1) ⟨0, [], H1, rfl, Nat.zero_le _, M, sl, by rw [List.drop_zero]; exact w⟩
  let N := notedBy (model D.prog D.w) A cenv fun e s' => R (.error e) s'
  refine wpAny_mono (comp_turn (py := py) (R := R) (E1 := N) (E2 := N) (E3 := N) (T := fun n s₃ => wpAny (model D.prog D.w) A (eval pk cenv) (fun kv s₄ => wpAny (model D.prog D.w) A (eval pv cenv) (fun vv s₅ => wpAny (model D.prog D.w) A (dictSet X kv vv) (fun _ s₆ => ∃ m, m < n ∧ CInv D s1 H1 I X cenv N' a xs σ x PObj.dS (fun r acc H => dcompW (WCond Γ ini cd) (WE Γ ini ek) (WE Γ ini ev) a x σ r acc H Q) m s₆) N s₅) N s₄) N s₃) (f := PObj.dS) (W := fun r acc H => dcompW (WCond Γ ini cd) (WE Γ ini ek) (WE Γ ini ev) a x σ r acc H Q) (WT := fun v r acc H => WE Γ ini ek (st σ x v) H fun k H2 => WE Γ ini ev (st σ x v) H2 fun u H3 => match k with
      | .str s => still a H3 ∧ acc.length < big ∧ dcompW (WCond Γ ini cd) (WE Γ ini ek) (WE Γ ini ev) a x σ r (sto acc s u) H3 Q
      | _ => False)
    hh F hcd hck (fun v r acc H h => h) hI kend fun i v acc s3 H3 hn hi M3 w3 => ?_) (fun r s₁ h => by cases r <;> exact h) fun _ _ x => x
  subst hn
  refine wpAny_mono (hk.seq hcek F.env M3.fr M3.st.inv w3 fun u s4 pu H4 e4 st4 F4 I4 q4 => ?_) (fun _ _ x => x) fun _ _ x => x.elim
  have M4 := M3.step st4
  refine wpAny_mono (hv.seq hcev F.env M4.fr M4.st.inv q4 fun u5 s5 pu5 H5 e5 st5 F5 I5 q5 => ?_) (fun _ _ x => x) fun _ _ x => x.elim
  have M5 := M4.step st5
  split at q5
  · rename_i ks
    obtain ⟨t, rfl⟩ := er_str e4
    obtain ⟨vs, hl, el⟩ := M5.acc
    refine wpAny_dictSet_pairs (knd := strKind D.prog D.w) (k := ks) (by simp [strKind, Value.isStrOf]) hl (fun h' h1 h2 => ?_) (by rw [el.length]; exact big_size (Nat.le_of_lt q5.2.1))
    have st6 : Step D (own3 I X cenv.locals) s5 { s5 with heap := h', toks := s5.toks + 1 } H5 H5 := .hid I5 (.inr (.inl rfl)) M5.hX F.h0X (fun b o hb e => h2.extBut b o hb e) (let ⟨o, _, _, e, _⟩ := h1; ⟨o, e⟩)
    have ncX : ∀ b, ownOf cenv b → b ≠ X := by
      rintro b (rfl | ⟨z, hz⟩)
      · exact F.nXC.symm
      · exact F.ncX z b hz
    refine ⟨xs.length + 1 - (i + 1), by omega, i + 1, sto acc ks pu5, H5, rfl, hi, ⟨M5.st.trans st6, (M5.fr.stay (fun b o hb e => h2.extBut b o (ncX b hb) e) M5.fr.off).less fun _ _ e => gt_st_cls e, M5.it.at fun o e => h2.extBut I o F.nIX e, M5.hI, M5.hX, ?_⟩, q5.1, q5.2.2⟩
    exact ⟨_, h1, el.store e5⟩
  · exact q5.elim
end
end Mine
end

section
set_option maxRecDepth 100000
set_option Elab.async false
set_option linter.unusedVariables false
set_option linter.unusedSimpArgs false
open PySem PySem.Calls PySem.Spec
namespace Mine
open PySem.W (Frag TopRead instObj dictOf getL putL putN)

section
variable {D : Wd} {P : Nat → Option CFun} {ini : Nat} {ad : Nat → Nat} {fn : Nat → Option Str} {Γ : GT} {d : Nat} {A : Around} {E : Value → Shared → Prop}

theorem mem_compN {N : List (Str × NK)} {y : Str} {x : Nat} : ∀ {l : List (Str × NameKind)}, (y, NameKind.local) ∈ l → ∃ k, (compN N y x l).lookup y = some k
  | [], h => by cases h
  | (n, k) :: r, h => by
    have wk : (y, NameKind.local) ∈ r → ∀ k0, ∃ k, List.lookup y (k0 :: compN N y x r) = some k := by
      intro hm k0
      obtain ⟨k, hk⟩ := mem_compN (N := N) (x := x) hm
      obtain ⟨n0, k0⟩ := k0
      rw [List.lookup_cons]
      cases y == n0
      · exact ⟨k, hk⟩
      · exact ⟨k0, rfl⟩
    rcases List.mem_cons.mp h with e | hm
    · cases e
      unfold compN
      dsimp only
      rw [if_pos (by simp), List.lookup_cons]
      simp
    · unfold compN
      cases k <;> dsimp only <;> (try split) <;> first | exact mem_compN hm | exact wk hm _

theorem comp_y {N : List (Str × NK)} {y : Str} {x : Nat} {scope : Scope} (h : scopeOK N y scope = true) : (compN N y x scope.names).lookup y = some (.loc x) := by
  obtain ⟨s1, s2, s3⟩ := scopeOK_spec h
  obtain ⟨k, hk⟩ := mem_compN (N := N) (x := x) (mem_of_look s3)
  have := compN_look hk
  cases k <;> dsimp only at this
  · obtain ⟨-, rfl, -⟩ := this; exact hk
  · have := (s2 _ _ this.1).2.1; rw [s3] at this; cases this
  · have := (s2 _ _ this).2.1; rw [s3] at this; cases this

theorem it_self {I : Nat} {a : Option (Nat × PObj)} {xs : List PV} {i : Nat} {s : Shared} {R : Value → Shared → Prop} (h : ItAt I a xs i s.heap) (k : R (.ref I) s) : wpAny (model D.prog D.w) A (pyIter (.ref I)) R E s := by
  cases a with
  | some b => exact wpAny_pyIter_listiter h k
  | none => obtain ⟨a0, c, n, e, r⟩ := h; exact wpAny_pyIter_rangeiter r k

theorem comp_enter {e : Expr} {scope : Scope} {pos : Pos} {newAcc : Sem Value} {y : Str} {py : Pos} {it : Expr} {ifs : List Expr} {use : Option (Value → Sem Unit)} {env : Env} {N : List (Str × NK)} {x : Nat} {src : CSrc} {σ : Sg} {s : Shared} {H : PH} {Q1 : Option (Nat × PObj) → List PV → PH → Prop} {R : Value → Shared → Prop} {o : PObj}
    (ob : Obj) (hnew : ∀ (s : Shared) (R : Value → Shared → Prop), R (.ref s.heap.objs.size) { s with heap := s.heap.push ob } → wpAny (model D.prog D.w) A newAcc R E s) (hro : ∀ h : Heap, RO D (h.push ob) h.objs.size o)
    (hcl : clausesOf e = [⟨.Name y py, it, ifs, 0⟩]) (hG : GlOK D P ini ad fn) (hE : EnvOK env N) (hF : FrOK D env N σ s.heap H) (hI : Inv D s.heap H) (hsc : scopeOK N y scope = true) (hj : injN (compN N y x scope.names) = true) (hs : SSrc D fn Γ ini A src) (hc : chkSrc fn N src it = true) (hw : WSrc Γ ini src σ H Q1)
    (k : ∀ I a xs s1 H1 X C s4, Step D noOwn s s1 H H1 → s1.heap.get? C = none → C ≠ env.locals → CFix D s1 H1 I X (compEnvC scope (clAcc env scope.names []) C env) (compN N y x scope.names) a xs y x →
      CMid D s1 H1 I X (compEnvC scope (clAcc env scope.names []) C env) (compN N y x scope.names) a xs o (cls σ x) 0 s4 H1 → still a H1 → Q1 a xs H1 →
      codeAny (model D.prog D.w) A (.compLoop e 0 (.ref I) (.ref X) (compEnvC scope (clAcc env scope.names []) C env)) (compPost (model D.prog D.w) A E use R (.ref X) C) s4)
    (hstart : ∀ it acc env (R : Result → Shared → Prop) s, codeAny (model D.prog D.w) A (.compLoop e 0 it acc env) R s → wpAny (model D.prog D.w) A (pyIter it) (fun it' s' => codeAny (model D.prog D.w) A (.compLoop e 0 it' acc env) R s') (notedBy (model D.prog D.w) A env fun x s' => R (.error x) s') s → codeAny (model D.prog D.w) A (.compStart e 0 it acc env) R s) :
    wpAny (model D.prog D.w) A (comprehension e scope env pos newAcc false (eval it env) use) R E s := by
  obtain ⟨s1, s2, s3⟩ := scopeOK_spec hsc
  refine wpAny_comprehension_free hcl (src_set hc) (closure_eq fun n hn => ?_) s1 (fun z hz hl => ?_) ?_
  · obtain ⟨i, hi⟩ := (s2 n _ hn).2.2 rfl
    exact (hE.cel n i hi).2
  · obtain ⟨n, k⟩ := z
    dsimp only at hl ⊢
    subst hl
    exact (s2 n _ hz).2.1
  refine wpAny_mono (hs env N it σ s H Q1 E hc hE hF hI hw) (fun v s5 h5 => wpAny_mono h5 (fun w s6 h6 => ?_) fun _ _ x => x) fun _ _ x => x
  obtain ⟨I, a, xs, s1', H1, rfl, st1, fI, st2, it0, so, sl, hsz, q⟩ := h6
  have F1 := hF.step st1
  have I1 := st1.inv
  have I6 := st2.inv
  obtain ⟨h6, tk6, e6⟩ := st2.same
  refine hnew _ _ ?_
  refine wpAny_newFunctionEnv (fun z hz => (s2 z.1 z.2 hz).1) (fun z hz => by cases hz) (fun h7 n7 sb7 => ?_) s1
  show codeAny _ _ (.compStart e 0 (.ref I) (.ref s6.heap.objs.size) (compEnvC scope (clAcc env scope.names []) (s6.heap.push ob).objs.size env)) (compPost _ _ _ _ _ _ (s6.heap.push ob).objs.size) _
  generalize hX : s6.heap.objs.size = X at *
  generalize hC : (s6.heap.push ob).objs.size = C at *
  have nXC : X ≠ C := by rw [← hX, ← hC, Heap.size_push]; omega
  have fX6 : s6.heap.get? X = none := by rw [← hX]; exact fresh_size _
  have fC6 : s6.heap.get? C = none := get_ge (by rw [← hC, Heap.size_push]; omega)
  have k67 : ∀ b o, s6.heap.get? b = some o → h7.get? b = some o := fun b o e => by
    refine sb7.extBut b o ?_ ?_
    · rintro rfl; rw [fC6] at e; cases e
    · exact Heap.get?_push_of_some _ (Heap.get?_push_of_some _ e)
  have st3 : Step D noOwn s6 { s6 with heap := h7, toks := s6.toks } H1 H1 := .ext I6 k67
  have down : ∀ b, s6.heap.get? b = none → H1 b = none → s1'.heap.get? b = none := by
    intro b hb hh
    cases q : s1'.heap.get? b with
    | none => rfl
    | some o' => obtain ⟨o2, e2⟩ := st2.live b o' hh q; rw [hb] at e2; cases e2
  have HX : H1 X = none := I6.fresh fX6
  have HC : H1 C = none := I6.fresh fC6
  have HI : H1 I = none := I1.fresh fI
  have fX : s1'.heap.get? X = none := down X fX6 HX
  have fC : s1'.heap.get? C = none := down C fC6 HC
  obtain ⟨oi, ei⟩ := it0.some
  have nIX : I ≠ X := by rintro rfl; rw [fX6] at ei; cases ei
  have nIC : I ≠ C := by rintro rfl; rw [fC6] at ei; cases ei
  have F6 : FrOK D env N σ s6.heap H1 := F1.step st2
  have ro7 : RO D h7 X o := by
    have r0 : RO D (s6.heap.push ob) X o := by rw [← hX]; exact hro s6.heap
    refine r0.at fun o' e' => sb7.extBut X o' nXC ?_
    exact Heap.get?_push_of_some _ e'
  have nmain : C ≠ mainGlobals := by
    have := (hG.T.g.keeps I6.base).lt
    rw [hX] at this
    rw [← hC, Heap.size_push, hX]
    intro e
    rw [← e] at this
    exact absurd this (Nat.not_lt.mpr (Nat.le_succ X))
  have ncl : ∀ z c, env.cells.lookup z = some c → c ≠ C := fun z c hz => F6.ne (.inr ⟨z, hz⟩) fC6
  have cl : ∀ z c, (compEnvC scope (clAcc env scope.names []) C env).cells.lookup z = some c → env.cells.lookup z = some c := clAcc_look _ _ (fun z c e => by cases e)
  have hE' := comp_env hE hsc hj nmain ncl
  have hF' : FrOK D (compEnvC scope (clAcc env scope.names []) C env) (compN N y x scope.names) (cls σ x) h7 H1 := comp_fr F6 k67 n7 HC (I6.old fC6)
  have it7 : ItAt I a xs 0 h7 := it0.at fun o e => k67 _ o e
  have fix : CFix D s1' H1 I X (compEnvC scope (clAcc env scope.names []) C env) (compN N y x scope.names) a xs y x :=
    ⟨hE', comp_y hsc, fI, fX, fC, I1.old fI, I6.old fX6, I6.old fC6, nIX, nIC, nXC, fun z c hz => F1.ne (.inr ⟨z, cl z c hz⟩) fI, fun z c hz => F1.ne (.inr ⟨z, cl z c hz⟩) fX, so, hsz⟩
  have mid : CMid D s1' H1 I X (compEnvC scope (clAcc env scope.names []) C env) (compN N y x scope.names) a xs o (cls σ x) 0 { s6 with heap := h7, toks := s6.toks } H1 :=
    ⟨(st2.trans st3).ofNo, hF', it7, HI, HX, ro7⟩
  have go := k I a xs s1' H1 X C _ st1 fC (Ne.symm (F1.ne (.inl rfl) fC)) fix mid sl q
  exact hstart _ _ _ _ _ go (it_self it7 go)

/-- the end of a comprehension that is a value -/
theorem comp_end {s s1 s' : Shared} {H H1 H' : PH} {X C : Nat} {o : PObj} {Q : PV → PH → Prop} {A' : Around} (st1 : Step D noOwn s s1 H H1) (fX : s1.heap.get? X = none) (fC : s1.heap.get? C = none) (h0X : D.h0.get? X = none) (h0C : D.h0.get? C = none) (nXC : X ≠ C)
    (st : Step D (fun b => b = X ∨ (b = C ∨ noOwn b)) s1 s' H1 H') (hX : H' X = none) (hC : H' C = none) (r : RO D s'.heap X o) (hn : ∃ m, s'.heap.Ns C m) (hq : newW H' o Q) :
    compPost (model D.prog D.w) A' E none (Ex D s H Q) (.ref X) C (.ok .next) s' := by
  obtain ⟨m, hn⟩ := hn
  refine ⟨m, hn, fun h' sb => ?_⟩
  have st2 := st.expose fX h0X hX r
  have st3 := st2.drop (h' := h') (tk := s'.toks) fC h0C (by rw [PH.set_ne nXC.symm]; exact hC) fun b o hb e => sb.extBut b o hb e
  exact ⟨.ref X, _, rfl, st1.trans st3, hq X hX⟩

theorem comp_end_use {s s1 s' : Shared} {H H1 H' : PH} {X C : Nat} {o : PObj} {env : Env} {N : List (Str × NK)} {σ : Sg} {z : Str} {pz : Pos} {i : Nat} {Q : Fl → Sg → PH → Prop} (hE : EnvOK env N) (F1 : FrOK D env N σ s1.heap H1) (hz : N.lookup z = some (.loc i)) (nL : C ≠ env.locals)
    (st1 : Step D noOwn s s1 H H1) (fX : s1.heap.get? X = none) (fC : s1.heap.get? C = none) (h0X : D.h0.get? X = none) (h0C : D.h0.get? C = none) (nXC : X ≠ C)
    (st : Step D (fun b => b = X ∨ (b = C ∨ noOwn b)) s1 s' H1 H') (hX : H' X = none) (hC : H' C = none) (r : RO D s'.heap X o) (hn : ∃ m, s'.heap.Ns C m) (hq : newW H' o fun v H2 => Q .next (Mine.st σ i v) H2) :
    compPost (model D.prog D.w) A Nope (some (assign (.Name z pz) env)) (fun _ => Sp D env N s H Q .next) (.ref X) C (.ok .next) s' := by
  obtain ⟨m, hn⟩ := hn
  have st2 := st.expose fX h0X hX r
  have keep : ∀ b o, H1 b = none → b ≠ C → s1.heap.get? b = some o → s'.heap.get? b = some o := fun b o hb hc e => st2.keep b o hb (fun q => q.elim hc id) e
  have F2 : FrOK D env N σ s'.heap (H'.set X o) := F1.stay (fun b o hb e => keep b o (F1.off b hb) (F1.ne hb fC) e) fun b hb => by
    obtain ⟨ob, e⟩ := F1.env_some hb
    exact st2.dom b ob e (F1.off b hb)
  refine wpAny_assign_Name (store_loc (pv := .ref X) hE F2 st2.inv hz rfl fun h3 tk3 st3 F3 => ?_)
  refine ⟨m, Ns.at hn fun o e => st3.keep C o (by rw [PH.set_ne nXC.symm]; exact hC) nL e, fun h' sb => ?_⟩
  have st4 : Step D (fun b => b = C ∨ ownOf env b) s1 { s' with heap := h3, toks := tk3 } H1 (H'.set X o) := (st2.weak fun b hb => hb.elim .inl fun h => h.elim).trans (st3.weak fun b hb => .inr (.inl hb))
  have st5 := st4.drop (h' := h') (tk := tk3) fC h0C (by rw [PH.set_ne nXC.symm]; exact hC) fun b o hb e => sb.extBut b o hb e
  exact ⟨.next, _, _, trivial, st1.ofNo.trans st5, F3.stay (fun b o hb e => sb.extBut b o (F1.ne hb fC) e) F3.off, hq X hX⟩

/-- a comprehension whose value a name takes -/
noncomputable def SU (D : Wd) (fn : Nat → Option Str) (Γ : GT) (ini : Nat) (A : Around) (e : CE) : Prop :=
  ∀ (env : Env) (N : List (Str × NK)) (p : Expr) (z : Str) (pz : Pos) (i : Nat) (σ : Sg) (s : Shared) (H : PH) (Q : Fl → Sg → PH → Prop), chkE fn N e p = true → isCompE p = true → N.lookup z = some (.loc i) → EnvOK env N → FrOK D env N σ s.heap H → Inv D s.heap H →
    WE Γ ini e σ H (fun v H1 => Q .next (Mine.st σ i v) H1) → wpAny (model D.prog D.w) A (evalThenUse p env (assign (.Name z pz) env)) (fun _ => Sp D env N s H Q .next) Nope s

theorem se_comp {elt : CE} {x : Nat} {src : CSrc} {cd : CEs} (hG : GlOK D P ini ad fn) (hR : Room A d) (hs : SSrc D fn Γ ini A src) (hcd : SCond D fn Γ ini A cd) (he : SE D fn Γ ini A elt) : SE D fn Γ ini A (.comp elt x src cd) := by
  intro env N p σ s H Q hc hE hF hI hw
  obtain ⟨q, y, py, it, ifs, scope, pos, rfl, hcc⟩ := inv_comp hc
  replace hc := hcc
  · skip
    simp only [Bool.and_eq_true] at hc
    obtain ⟨⟨⟨⟨c1, c2⟩, c3⟩, c4⟩, c5⟩ := hc
    rw [eval_ListComp]
    refine comp_enter (o := .list []) { cls := .type "list", data := .seq #[] } (fun s R h => wpAny_newList h) (fun h => ⟨[], ⟨_, Heap.get?_push_size _ rfl⟩, rfl⟩) rfl hG hE hF hI c1 c2 hs c3 hw (fun I a xs s1 H1 X C s4 st1 fC nL fix mid sl q => ?_) (fun it acc env R s h0 h1 => codeAny_compStart_list h0 h1)
    exact comp_loop hR.hd fix hcd he c4 c5 mid sl q fun s' H' acc st hX hC r hn q => comp_end st1 fix.fX fix.fC fix.h0X fix.h0C fix.nXC st hX hC r hn q
theorem su_comp {elt : CE} {x : Nat} {src : CSrc} {cd : CEs} (hG : GlOK D P ini ad fn) (hR : Room A d) (hs : SSrc D fn Γ ini A src) (hcd : SCond D fn Γ ini A cd) (he : SE D fn Γ ini A elt) : SU D fn Γ ini A (.comp elt x src cd) := by
  intro env N p z pz i σ s H Q hc hic hz hE hF hI hw
  obtain ⟨q, y, py, it, ifs, scope, pos, rfl, hcc⟩ := inv_comp hc
  replace hc := hcc
  · skip
    simp only [Bool.and_eq_true] at hc
    obtain ⟨⟨⟨⟨c1, c2⟩, c3⟩, c4⟩, c5⟩ := hc
    show wpAny _ _ (comprehension _ scope env _ (newList []) false (eval it env) (some (assign (.Name z pz) env)) >>= fun _ => pure ()) _ _ _
    refine wpAny_bind (wpAny_mono (comp_enter (R := fun _ => Sp D env N s H Q .next) (o := .list []) { cls := .type "list", data := .seq #[] } (fun s R h => wpAny_newList h) (fun h => ⟨[], ⟨_, Heap.get?_push_size _ rfl⟩, rfl⟩) rfl hG hE hF hI c1 c2 hs c3 hw (fun I a xs s1 H1 X C s4 st1 fC nL fix mid sl q => ?_) (fun it acc env R s h0 h1 => codeAny_compStart_list h0 h1)) (fun _ _ h => wpAny_pure h) fun _ _ x => x)
    exact comp_loop hR.hd fix hcd he c4 c5 mid sl q fun s' H' acc st hX hC r hn q => comp_end_use hE (hF.step st1) hz nL st1 fix.fX fix.fC fix.h0X fix.h0C fix.nXC st hX hC r hn q
theorem se_dcomp {k v : CE} {x : Nat} {src : CSrc} {cd : CEs} (hG : GlOK D P ini ad fn) (hR : Room A d) (hs : SSrc D fn Γ ini A src) (hcd : SCond D fn Γ ini A cd) (hk : SE D fn Γ ini A k) (hv : SE D fn Γ ini A v) : SE D fn Γ ini A (.dcomp k v x src cd) := by
  intro env N p σ s H Q hc hE hF hI hw
  obtain ⟨q, q2, y, py, it, ifs, scope, pos, rfl, hcc⟩ := inv_dcomp hc
  replace hc := hcc
  · skip
    simp only [Bool.and_eq_true] at hc
    obtain ⟨⟨⟨⟨⟨c1, c2⟩, c3⟩, c4⟩, c5⟩, c6⟩ := hc
    rw [arm_eval_DictComp]
    refine comp_enter (o := .dS []) { cls := .type "dict", data := .dict #[] } (fun s R h => wpAny_newObj_type h) (fun h => ⟨[], Heap.DictOf.new _, rfl⟩) rfl hG hE hF hI c1 c2 hs c3 hw (fun I a xs s1 H1 X C s4 st1 fC nL fix mid sl q => ?_) (fun it acc env R s h0 h1 => codeAny_compStart_dict h0 h1)
    exact dcomp_loop hR.hd fix hcd hk hv c4 c5 c6 mid sl q fun s' H' acc st hX hC r hn q => comp_end st1 fix.fX fix.fC fix.h0X fix.h0C fix.nXC st hX hC r hn q
theorem su_dcomp {k v : CE} {x : Nat} {src : CSrc} {cd : CEs} (hG : GlOK D P ini ad fn) (hR : Room A d) (hs : SSrc D fn Γ ini A src) (hcd : SCond D fn Γ ini A cd) (hk : SE D fn Γ ini A k) (hv : SE D fn Γ ini A v) : SU D fn Γ ini A (.dcomp k v x src cd) := by
  intro env N p z pz i σ s H Q hc hic hz hE hF hI hw
  obtain ⟨q, q2, y, py, it, ifs, scope, pos, rfl, hcc⟩ := inv_dcomp hc
  replace hc := hcc
  · skip
    simp only [Bool.and_eq_true] at hc
    obtain ⟨⟨⟨⟨⟨c1, c2⟩, c3⟩, c4⟩, c5⟩, c6⟩ := hc
    show wpAny _ _ (comprehension _ scope env _ newDict false (eval it env) (some (assign (.Name z pz) env)) >>= fun _ => pure ()) _ _ _
    refine wpAny_bind (wpAny_mono (comp_enter (R := fun _ => Sp D env N s H Q .next) (o := .dS []) { cls := .type "dict", data := .dict #[] } (fun s R h => wpAny_newObj_type h) (fun h => ⟨[], Heap.DictOf.new _, rfl⟩) rfl hG hE hF hI c1 c2 hs c3 hw (fun I a xs s1 H1 X C s4 st1 fC nL fix mid sl q => ?_) (fun it acc env R s h0 h1 => codeAny_compStart_dict h0 h1)) (fun _ _ h => wpAny_pure h) fun _ _ x => x)
    exact dcomp_loop hR.hd fix hcd hk hv c4 c5 c6 mid sl q fun s' H' acc st hX hC r hn q => comp_end_use hE (hF.step st1) hz nL st1 fix.fX fix.fC fix.h0X fix.h0C fix.nXC st hX hC r hn q
end
end Mine
end

section
set_option maxRecDepth 100000
set_option Elab.async false
set_option linter.unusedVariables false
set_option linter.unusedSimpArgs false
open PySem PySem.Calls PySem.Spec
namespace Mine
open PySem.W (Frag TopRead instObj dictOf getL putL putN)

section
variable {D : Wd} {P : Nat → Option CFun} {ini : Nat} {ad : Nat → Nat} {fn : Nat → Option Str} {Γ : GT} {d : Nat} {A : Around} {E : Value → Shared → Prop}

theorem su_triv {e : CE} (h : ∀ N p, chkE fn N e p = true → isCompE p = false) : SU D fn Γ ini A e := by
  intro env N p z pz i σ s H Q hc hic
  rw [h N p hc] at hic; cases hic

theorem swaps_comp {p : Expr} {y : Str} {py : Pos} {l : Nat} {env : Env} (h : isCompE p = true) : ∃ b, swapsWith p (some (.Name y py)) l env = pure b ∧ (b = true → env.kindOf y = some .local) := by
  cases p <;> first | exact ff h | skip
  all_goals
    refine ⟨_, rfl, fun e => ?_⟩
    simp only [Bool.and_eq_true, beq_iff_eq] at e
    exact e.1.1.2

theorem ss_asg_all {x : Nat} {e : CE} (he : SE D fn Γ ini A e) (hu : SU D fn Γ ini A e) : SS D fn Γ ini A (.asg x e) := by
  intro env N p σ s H Q hc hE hF hI hw
  obtain ⟨y, py, p, pos, rfl, hcc⟩ := ins_asg hc
  replace hc := hcc
  · skip
    simp only [Bool.and_eq_true] at hc
    obtain ⟨c1, c2⟩ := hc
    have hy : (N.lookup y).bind nkSlot = some x := by simpa [slotIs] using c1
    by_cases q : isCompE p = true
    · obtain ⟨b, hb, hk⟩ := swaps_comp (y := y) (py := py) (l := pos.line) (env := env) q
      cases b with
      | false => exact ss_asg he hy c2 hb hE hF hI hw
      | true =>
        have hz : N.lookup y = some (.loc x) := by
          cases hl : N.lookup y with
          | none => rw [hl] at hy; cases hy
          | some kk =>
            rw [hl] at hy
            cases kk with
            | glo => cases hy
            | loc j => cases hy; rfl
            | cel j => have := (hE.cel y j hl).1; rw [hk rfl] at this; cases this
        rw [exec_Assign_Name_used _ _ _ _ hb]
        exact wpAny_bind (wpAny_standAt (wpAny_bind (wpAny_mono (hu env N p y py x σ s H Q c2 q hz hE hF hI hw) (fun _ s' h => wpAny_pure h) fun _ _ x => x)))
    · exact ss_asg he hy c2 (plain_swaps (e := e) (by simpa using q)) hE hF hI hw

/-- all three of an expression -/
abbrev SA (D : Wd) (fn : Nat → Option Str) (Γ : GT) (ini : Nat) (A : Around) (e : CE) : Prop := SB D fn Γ ini A e ∧ SU D fn Γ ini A e
theorem sa_plain {e : CE} (h1 : ∀ N p, chkE fn N e p = true → plainT p = true ∧ isCompE p = false) (he : SE D fn Γ ini A e) : SA D fn Γ ini A e :=
  ⟨⟨he, st_never (fun N p h => (h1 N p h).1) he⟩, su_triv fun N p h => (h1 N p h).2⟩


mutual
theorem allE (hG : GlOK D P ini ad fn) (hS : GSound D ad P Γ d) (hR : RoomE A d) : ∀ e, SA D fn Γ ini A e
  | .non => sa_plain (fun N p h => by obtain ⟨_, _, rfl, _⟩ := inv_non h; exact ⟨rfl, rfl⟩) se_non
  | .bool b => sa_plain (fun N p h => by obtain ⟨_, _, _, rfl, _⟩ := inv_bool h; exact ⟨rfl, rfl⟩) se_bool
  | .int i => ⟨⟨se_int, st_int⟩, su_triv (by (intro N p h; cases p <;> first | rfl | exact ff h))⟩
  | .str s => sa_plain (fun N p h => by obtain ⟨_, _, _, rfl, _⟩ := inv_str h; exact ⟨rfl, rfl⟩) se_str
  | .var i => sa_plain (fun N p h => by obtain ⟨_, _, rfl, _⟩ := inv_var h; exact ⟨rfl, rfl⟩) se_var
  | .call f as => sa_plain (fun N p h => by obtain ⟨_, _, _, _, rfl, _⟩ := inv_call h; exact ⟨rfl, rfl⟩) (se_call hG hS hR.room (allEs hG hS hR as).1)
  | .mk as => sa_plain (fun N p h => by obtain ⟨_, _, _, _, rfl, _⟩ := inv_mk h; exact ⟨rfl, rfl⟩) (se_mk hG hS hR (allEs hG hS hR as).1)
  | .len e => sa_plain (fun N p h => by obtain ⟨_, _, _, _, rfl, _⟩ := inv_len h; exact ⟨rfl, rfl⟩) (se_len hG (allE hG hS hR e).1.1)
  | .list e => sa_plain (fun N p h => by obtain ⟨_, _, _, _, rfl, _⟩ := inv_list h; exact ⟨rfl, rfl⟩) (se_list hG hR.room (allE hG hS hR e).1.1)
  | .strOf e => sa_plain (fun N p h => by obtain ⟨_, _, _, _, rfl, _⟩ := inv_strOf h; exact ⟨rfl, rfl⟩) (se_strOf hG (allE hG hS hR e).1.1)
  | .abs e => sa_plain (fun N p h => by obtain ⟨_, _, _, _, rfl, _⟩ := inv_abs h; exact ⟨rfl, rfl⟩) (se_abs hG (allE hG hS hR e).1.1)
  | .isVec e => sa_plain (fun N p h => by obtain ⟨_, _, _, _, _, _, rfl, _⟩ := inv_isVec h; exact ⟨rfl, rfl⟩) (se_isVec hG (allE hG hS hR e).1.1)
  | .isList e => sa_plain (fun N p h => by obtain ⟨_, _, _, _, _, _, rfl, _⟩ := inv_isList h; exact ⟨rfl, rfl⟩) (se_isList hG (allE hG hS hR e).1.1)
  | .get e k => sa_plain (fun N p h => by obtain ⟨_, _, _, _, _, rfl, _⟩ := inv_get h; exact ⟨rfl, rfl⟩) (se_get hG (allE hG hS hR e).1.1 (allE hG hS hR k).1.1)
  | .attr e n => sa_plain (fun N p h => by obtain ⟨_, _, _, rfl, _⟩ := inv_attr h; exact ⟨rfl, rfl⟩) (se_attr hG (allE hG hS hR e).1.1)
  | .bin op a b => sa_plain (fun N p h => by obtain ⟨_, _, _, _, rfl, _⟩ := inv_bin h; exact ⟨rfl, rfl⟩) (se_bin (allE hG hS hR a).1.1 (allE hG hS hR b).1.1)
  | .cat a b => sa_plain (fun N p h => by obtain ⟨_, _, _, rfl, _⟩ := inv_cat h; exact ⟨rfl, rfl⟩) (se_cat (allE hG hS hR a).1.1 (allE hG hS hR b).1.1)
  | .rep a b => sa_plain (fun N p h => by obtain ⟨_, _, _, rfl, _⟩ := inv_rep h; exact ⟨rfl, rfl⟩) (se_rep (allE hG hS hR a).1.1 (allE hG hS hR b).1.1)
  | .cmp op a b => ⟨se_cmp hG hR.room (allE hG hS hR a).1.1 (allE hG hS hR b).1.1, su_triv (fun N p h => by obtain ⟨_, _, _, _, rfl, _⟩ := inv_cmp h; rfl)⟩
  | .chain o1 o2 a b c => ⟨se_chain hG hR.room (allE hG hS hR a).1.1 (allE hG hS hR b).1.1 (allE hG hS hR c).1.1, su_triv (fun N p h => by obtain ⟨_, _, _, _, _, _, rfl, _⟩ := inv_chain h; rfl)⟩
  | .and as => ⟨se_and (allEs hG hS hR as).2.1, su_triv (fun N p h => by obtain ⟨_, _, rfl, _⟩ := inv_and h; rfl)⟩
  | .or as => ⟨se_or (allEs hG hS hR as).2.2.1, su_triv (fun N p h => by obtain ⟨_, _, rfl, _⟩ := inv_or h; rfl)⟩
  | .not a => ⟨se_not (allE hG hS hR a).1, su_triv (fun N p h => by obtain ⟨_, _, rfl, _⟩ := inv_not h; rfl)⟩
  | .ife t a b => ⟨se_ife (allE hG hS hR t).1.2 (allE hG hS hR a).1 (allE hG hS hR b).1, su_triv (fun N p h => by obtain ⟨_, _, _, _, rfl, _⟩ := inv_ife h; rfl)⟩
  | .idx a i => sa_plain (fun N p h => by obtain ⟨_, _, _, rfl, _⟩ := inv_idx h; exact ⟨rfl, rfl⟩) (se_idx (allE hG hS hR a).1.1 (allE hG hS hR i).1.1)
  | .slice a l => sa_plain (fun N p h => by obtain ⟨_, _, _, _, rfl, _⟩ := inv_slice h; exact ⟨rfl, rfl⟩) (se_slice (allE hG hS hR a).1.1 (allE hG hS hR l).1.1)
  | .slice2 a l h => sa_plain (fun N p h => by obtain ⟨_, _, _, _, _, rfl, _⟩ := inv_slice2 h; exact ⟨rfl, rfl⟩) (se_slice2 (allE hG hS hR a).1.1 (allE hG hS hR l).1.1 (allE hG hS hR h).1.1)
  | .lst as => sa_plain (fun N p h => by obtain ⟨_, _, rfl, _⟩ := inv_lst h; exact ⟨rfl, rfl⟩) (se_lst (allEs hG hS hR as).1)
  | .tup as => sa_plain (fun N p h => by obtain ⟨_, _, _, rfl, _⟩ := inv_tup h; exact ⟨rfl, rfl⟩) (se_tup (allEs hG hS hR as).1)
  | .dS => sa_plain (fun N p h => by obtain ⟨_, rfl, _⟩ := inv_dS h; exact ⟨rfl, rfl⟩) se_dS
  | .dI => sa_plain (fun N p h => by obtain ⟨_, rfl, _⟩ := inv_dI h; exact ⟨rfl, rfl⟩) se_dI
  | .comp e x src cd => ⟨⟨se_comp hG hR.room (allSrc hG hS hR src) (allEs hG hS hR cd).2.2.2 (allE hG hS hR e).1.1, st_never (fun N p h => by obtain ⟨_, _, _, _, _, _, _, rfl, _⟩ := inv_comp h; rfl) (se_comp hG hR.room (allSrc hG hS hR src) (allEs hG hS hR cd).2.2.2 (allE hG hS hR e).1.1)⟩,
      su_comp hG hR.room (allSrc hG hS hR src) (allEs hG hS hR cd).2.2.2 (allE hG hS hR e).1.1⟩
  | .dcomp k v x src cd => ⟨⟨se_dcomp hG hR.room (allSrc hG hS hR src) (allEs hG hS hR cd).2.2.2 (allE hG hS hR k).1.1 (allE hG hS hR v).1.1, st_never (fun N p h => by obtain ⟨_, _, _, _, _, _, _, _, rfl, _⟩ := inv_dcomp h; rfl) (se_dcomp hG hR.room (allSrc hG hS hR src) (allEs hG hS hR cd).2.2.2 (allE hG hS hR k).1.1 (allE hG hS hR v).1.1)⟩,
      su_dcomp hG hR.room (allSrc hG hS hR src) (allEs hG hS hR cd).2.2.2 (allE hG hS hR k).1.1 (allE hG hS hR v).1.1⟩
  | .dead => ⟨⟨fun _ _ _ _ _ _ _ _ _ _ _ hw => hw.elim, fun _ _ _ _ _ _ _ _ _ _ _ hw => hw.elim⟩, fun _ _ _ _ _ _ _ _ _ _ _ _ _ _ _ _ hw => hw.elim⟩
theorem allEs (hG : GlOK D P ini ad fn) (hS : GSound D ad P Γ d) (hR : RoomE A d) : ∀ as, SEs D fn Γ ini A as ∧ SAnd D fn Γ ini A as ∧ SOr D fn Γ ini A as ∧ SCond D fn Γ ini A as
  | .nil => ⟨ses_nil, sand_nil, sor_nil, scond_nil⟩
  | .cons e r => ⟨ses_cons (allE hG hS hR e).1.1 (allEs hG hS hR r).1, sand_cons (allE hG hS hR e).1 (allEs hG hS hR r).2.1, sor_cons (allE hG hS hR e).1 (allEs hG hS hR r).2.2.1, scond_cons (allE hG hS hR e).1.2 (allEs hG hS hR r).2.2.2⟩
theorem allSrc (hG : GlOK D P ini ad fn) (hS : GSound D ad P Γ d) (hR : RoomE A d) : ∀ src, SSrc D fn Γ ini A src
  | .it e => ssrc_it (allE hG hS hR e).1.1
  | .rng as => ssrc_rng hG (allEs hG hS hR as).1
end

mutual
theorem allS (hG : GlOK D P ini ad fn) (hS : GSound D ad P Γ d) (hR : RoomE A d) : ∀ c, SS D fn Γ ini A c
  | .asg x e => ss_asg_all (allE hG hS hR e).1.1 (allE hG hS hR e).2
  | .unpk x y e => ss_unpk hR.room (allE hG hS hR e).1.1
  | .seta o n e => ss_seta hG (allE hG hS hR o).1.1 (allE hG hS hR e).1.1
  | .seti o k e => ss_seti (allE hG hS hR o).1.1 (allE hG hS hR k).1.1 (allE hG hS hR e).1.1
  | .aug x op e => ss_aug (allE hG hS hR e).1.1
  | .ifs t a b => ss_if (allE hG hS hR t).1.2 (allSs hG hS hR a) (allSs hG hS hR b)
  | .forr x src b => ss_for hR.room (allSrc hG hS hR src) (allSs hG hS hR b)
  | .whil t b => ss_while (allE hG hS hR t).1.2 (allSs hG hS hR b)
  | .ret e => ss_ret (allE hG hS hR e).1.1
  | .app o e => ss_app (allE hG hS hR o).1.1 (allE hG hS hR e).1.1
  | .ex e => ss_ex (allE hG hS hR e).1.1
  | .dead => fun _ _ _ _ _ _ _ _ _ _ _ hw => hw.elim
theorem allSs (hG : GlOK D P ini ad fn) (hS : GSound D ad P Γ d) (hR : RoomE A d) : ∀ cs, SSs D fn Γ ini A cs
  | .nil => sss_nil
  | .cons c r => sss_cons (allS hG hS hR c) (allSs hG hS hR r)
end

/-- every function of the table, at every depth -/
theorem gsound (hG : GlOK D P ini ad fn) : ∀ d, GSound D ad P (G P ini d) d
  | 0 => fun i c hc A s H vs pvs Q hR I el hw => hw.elim
  | d + 1 => fun i c hc A s H vs pvs Q hR I el hw => by
    simp only [G, hc] at hw
    obtain ⟨h1, h2, hw⟩ := hw
    exact codeAny_mono (fun_sound hG (hG.fns i c hc) hR (fun env => allSs hG (gsound hG d) (RoomE.of hR) c.body) I el h1 h2 hw) fun r s' z => by rcases r with e | (v | _ | _ | _) <;> exact z
end
end Mine
end

section
set_option maxRecDepth 100000
set_option linter.unusedVariables false
namespace Mine
open PySem

/-! 0 is_lacking: slots 0 kind, 1 item -/
noncomputable def b_is_lacking : CSs :=
  (.cons
  (.ret (.or (.cons (.cmp .is (.var 1) .non) (.cons (.and (.cons (.cmp .eq (.var 0) (.str "double")) (.cons (.cmp .eq (.var 1) (.tup (.cons (.int 0) (.cons (.int 0) .nil)))) .nil))) .nil))))
  .nil)
noncomputable def f_is_lacking : CFun := { name := "is_lacking", vars := ["kind", "item"], np := 2, dfl := [], slots := 2, body := b_is_lacking }
/-! 1 compare_items: slots 0 kind, 1 a, 2 b -/
noncomputable def b_compare_items : CSs :=
  (.cons
  (.ifs (.cmp .eq (.var 0) (.str "double")) (.cons
   .dead
   .nil) .nil)
  (.cons
  (.ifs (.cmp .lt (.var 1) (.var 2)) (.cons
   (.ret (.int (-1)))
   .nil) .nil)
  (.cons
  (.ifs (.cmp .gt (.var 1) (.var 2)) (.cons
   (.ret (.int 1))
   .nil) .nil)
  (.cons
  (.ret (.int 0))
  .nil))))
noncomputable def f_compare_items : CFun := { name := "compare_items", vars := ["kind", "a", "b"], np := 3, dfl := [], slots := 3, body := b_compare_items }
/-! 2 check_sortable: slots 0 v -/
noncomputable def b_check_sortable : CSs :=
  (.cons
  (.ifs (.cmp .notin (.attr (.var 0) "kind") (.tup (.cons (.str "logical") (.cons (.str "integer") (.cons (.str "double") (.cons (.str "character") .nil)))))) (.cons
   .dead
   .nil) .nil)
  .nil)
noncomputable def f_check_sortable : CFun := { name := "check_sortable", vars := ["v"], np := 1, dfl := [], slots := 1, body := b_check_sortable }
/-! 3 compare_places: slots 0 v, 1 i, 2 j, 3 decreasing, 4 na_last, 5 left, 6 right, 7 left_lacking, 8 right_lacking, 9 result -/
noncomputable def b_compare_places : CSs :=
  (.cons
  (.asg 5 (.idx (.attr (.var 0) "items") (.var 1)))
  (.cons
  (.asg 6 (.idx (.attr (.var 0) "items") (.var 2)))
  (.cons
  (.asg 7 (.call 0 (.cons (.attr (.var 0) "kind") (.cons (.var 5) .nil))))
  (.cons
  (.asg 8 (.call 0 (.cons (.attr (.var 0) "kind") (.cons (.var 6) .nil))))
  (.cons
  (.ifs (.and (.cons (.var 7) (.cons (.var 8) .nil))) (.cons
   (.ret (.int 0))
   .nil) .nil)
  (.cons
  (.ifs (.var 7) (.cons
   (.ret (.ife (.var 4) (.int 1) (.int (-1))))
   .nil) .nil)
  (.cons
  (.ifs (.var 8) (.cons
   (.ret (.ife (.var 4) (.int (-1)) (.int 1)))
   .nil) .nil)
  (.cons
  (.asg 9 (.call 1 (.cons (.attr (.var 0) "kind") (.cons (.var 5) (.cons (.var 6) .nil)))))
  (.cons
  (.ret (.ife (.var 3) .dead (.var 9)))
  .nil)))))))))
noncomputable def f_compare_places : CFun := { name := "compare_places", vars := ["v", "i", "j", "decreasing", "na_last", "left", "right", "left_lacking", "right_lacking", "result"], np := 5, dfl := [], slots := 10, body := b_compare_places }
/-! 4 compare_keys: slots 0 vs, 1 i, 2 j, 3 decreasing, 4 na_last, 5 number, 6 result -/
noncomputable def b_compare_keys : CSs :=
  (.cons
  (.forr 5 (.rng (.cons (.len (.var 0)) .nil)) (.cons
   (.asg 6 (.call 3 (.cons (.idx (.var 0) (.var 5)) (.cons (.var 1) (.cons (.var 2) (.cons (.idx (.var 3) (.var 5)) (.cons (.var 4) .nil)))))))
   (.cons
   (.ifs (.cmp .ne (.var 6) (.int 0)) (.cons
    (.ret (.var 6))
    .nil) .nil)
   .nil)))
  (.cons
  (.ret (.int 0))
  .nil))
noncomputable def f_compare_keys : CFun := { name := "compare_keys", vars := ["vs", "i", "j", "decreasing", "na_last", "number", "result"], np := 5, dfl := [], slots := 7, body := b_compare_keys }
/-! 5 merge_runs: slots 0 left, 1 right, 2 vs, 3 decreasing, 4 na_last, 5 merged, 6 i, 7 j -/
noncomputable def b_merge_runs : CSs :=
  (.cons
  (.asg 5 (.lst .nil))
  (.cons
  (.asg 6 (.int 0))
  (.cons
  (.asg 7 (.int 0))
  (.cons
  (.whil (.and (.cons (.cmp .lt (.var 6) (.len (.var 0))) (.cons (.cmp .lt (.var 7) (.len (.var 1))) .nil))) (.cons
   (.ifs (.cmp .le (.call 4 (.cons (.var 2) (.cons (.idx (.var 0) (.var 6)) (.cons (.idx (.var 1) (.var 7)) (.cons (.var 3) (.cons (.var 4) .nil)))))) (.int 0)) (.cons
    (.app (.var 5) (.idx (.var 0) (.var 6)))
    (.cons
    (.aug 6 .add (.int 1))
    .nil)) (.cons
    (.app (.var 5) (.idx (.var 1) (.var 7)))
    (.cons
    (.aug 7 .add (.int 1))
    .nil)))
   .nil))
  (.cons
  (.ret (.cat (.cat (.var 5) (.slice (.var 0) (.var 6))) (.slice (.var 1) (.var 7))))
  .nil)))))
noncomputable def f_merge_runs : CFun := { name := "merge_runs", vars := ["left", "right", "vs", "decreasing", "na_last", "merged", "i", "j"], np := 5, dfl := [], slots := 8, body := b_merge_runs }
/-! 6 merge_sort: slots 0 places, 1 vs, 2 decreasing, 3 na_last, 4 runs, 5 longer, 6 at -/
noncomputable def b_merge_sort : CSs :=
  (.cons
  (.asg 4 (.comp (.lst (.cons (.var 7) .nil)) 7 (.it (.var 0)) .nil))
  (.cons
  (.ifs (.cmp .eq (.len (.var 4)) (.int 0)) (.cons
   (.ret (.lst .nil))
   .nil) .nil)
  (.cons
  (.whil (.cmp .gt (.len (.var 4)) (.int 1)) (.cons
   (.asg 5 (.lst .nil))
   (.cons
   (.forr 6 (.rng (.cons (.int 0) (.cons (.bin .sub (.len (.var 4)) (.int 1)) (.cons (.int 2) .nil)))) (.cons
    (.app (.var 5) (.call 5 (.cons (.idx (.var 4) (.var 6)) (.cons (.idx (.var 4) (.bin .add (.var 6) (.int 1))) (.cons (.var 1) (.cons (.var 2) (.cons (.var 3) .nil)))))))
    .nil))
   (.cons
   (.ifs (.cmp .eq (.bin .mod (.len (.var 4)) (.int 2)) (.int 1)) (.cons
    (.app (.var 5) (.idx (.var 4) (.int (-1))))
    .nil) .nil)
   (.cons
   (.asg 4 (.var 5))
   .nil)))))
  (.cons
  (.ret (.idx (.var 4) (.int 0)))
  .nil))))
noncomputable def f_merge_sort : CFun := { name := "merge_sort", vars := ["places", "vs", "decreasing", "na_last", "runs", "longer", "at"], np := 4, dfl := [], slots := 8, body := b_merge_sort }
/-! 7 each_key: slots 0 decreasing, 1 count -/
noncomputable def b_each_key : CSs :=
  (.cons
  (.ifs (.isList (.var 0)) (.cons
   (.ret (.comp (.idx (.var 0) (.bin .mod (.var 2) (.len (.var 0)))) 2 (.rng (.cons (.var 1) .nil)) .nil))
   .nil) .nil)
  (.cons
  (.ret (.rep (.lst (.cons (.var 0) .nil)) (.var 1)))
  .nil))
noncomputable def f_each_key : CFun := { name := "each_key", vars := ["decreasing", "count"], np := 2, dfl := [], slots := 3, body := b_each_key }
/-! 8 kept_places: slots 0 vs, 1 na_last, 2 places, 3 place, 4 keep, 5 v -/
noncomputable def b_kept_places : CSs :=
  (.cons
  (.asg 2 (.lst .nil))
  (.cons
  (.forr 3 (.rng (.cons (.call 14 (.cons (.idx (.var 0) (.int 0)) .nil)) .nil)) (.cons
   (.asg 4 (.bool true))
   (.cons
   (.ifs (.cmp .is (.var 1) .non) (.cons
    (.forr 5 (.it (.var 0)) (.cons
     (.ifs (.call 0 (.cons (.attr (.var 5) "kind") (.cons (.idx (.attr (.var 5) "items") (.var 3)) .nil))) (.cons
      (.asg 4 (.bool false))
      .nil) .nil)
     .nil))
    .nil) .nil)
   (.cons
   (.ifs (.var 4) (.cons
    (.app (.var 2) (.var 3))
    .nil) .nil)
   .nil))))
  (.cons
  (.ret (.var 2))
  .nil)))
noncomputable def f_kept_places : CFun := { name := "kept_places", vars := ["vs", "na_last", "places", "place", "keep", "v"], np := 2, dfl := [], slots := 6, body := b_kept_places }
/-! 9 order_by: slots 0 vs, 1 decreasing, 2 na_last, 3 v, 4 flags -/
noncomputable def b_order_by : CSs :=
  (.cons
  (.ifs (.cmp .eq (.len (.var 0)) (.int 0)) (.cons
   (.ret (.lst .nil))
   .nil) .nil)
  (.cons
  (.forr 3 (.it (.var 0)) (.cons
   (.ex (.call 2 (.cons (.var 3) .nil)))
   (.cons
   (.ifs (.cmp .ne (.call 14 (.cons (.var 3) .nil)) (.call 14 (.cons (.idx (.var 0) (.int 0)) .nil))) (.cons
    .dead
    .nil) .nil)
   .nil)))
  (.cons
  (.asg 4 (.call 7 (.cons (.var 1) (.cons (.len (.var 0)) .nil))))
  (.cons
  (.ret (.call 6 (.cons (.call 8 (.cons (.var 0) (.cons (.var 2) .nil))) (.cons (.var 0) (.cons (.var 4) (.cons (.or (.cons (.cmp .is (.var 2) .non) (.cons (.var 2) .nil))) .nil))))))
  .nil))))
noncomputable def f_order_by : CFun := { name := "order_by", vars := ["vs", "decreasing", "na_last", "v", "flags"], np := 3, dfl := [], slots := 5, body := b_order_by }
/-! 10 Vector.__init__: slots 0 self, 1 kind, 2 items, 3 attrs -/
noncomputable def b_init : CSs :=
  (.cons
  (.seta (.var 0) "kind" (.var 1))
  (.cons
  (.seta (.var 0) "items" (.var 2))
  (.cons
  (.seta (.var 0) "attrs" (.var 3))
  (.cons
  (.seta (.var 0) "shared" (.bool false))
  (.cons
  (.seta (.var 0) "loose" (.bool false))
  .nil)))))
noncomputable def f_init : CFun := { name := "__init__", vars := ["self", "kind", "items", "attrs"], np := 4, dfl := [.none], slots := 4, body := b_init }
/-! 11 integer: slots 0 items -/
noncomputable def b_integer : CSs :=
  (.cons
  (.ret (.mk (.cons (.str "integer") (.cons (.list (.var 0)) .nil))))
  .nil)
noncomputable def f_integer : CFun := { name := "integer", vars := ["items"], np := 1, dfl := [], slots := 1, body := b_integer }
/-! 12 character: slots 0 items -/
noncomputable def b_character : CSs :=
  (.cons
  (.ret (.mk (.cons (.str "character") (.cons (.list (.var 0)) .nil))))
  .nil)
noncomputable def f_character : CFun := { name := "character", vars := ["items"], np := 1, dfl := [], slots := 1, body := b_character }
/-! 13 named: slots 0 v, 1 names -/
noncomputable def b_named : CSs :=
  (.cons
  (.ifs (.cmp .isnt (.var 1) .non) (.cons
   .dead
   .nil) .nil)
  (.cons
  (.ret (.var 0))
  .nil))
noncomputable def f_named : CFun := { name := "named", vars := ["v", "names"], np := 2, dfl := [], slots := 2, body := b_named }
/-! 14 length: slots 0 v, 1 kind -/
noncomputable def b_length : CSs :=
  (.cons
  (.asg 1 (.attr (.var 0) "kind"))
  (.cons
  (.ifs (.cmp .eq (.var 1) (.str "NULL")) (.cons
   (.ret (.int 0))
   .nil) .nil)
  (.cons
  (.ifs (.or (.cons (.isVec (.var 0)) (.cons (.cmp .eq (.var 1) (.str "language")) .nil))) (.cons
   (.ret (.len (.attr (.var 0) "items")))
   .nil) .nil)
  (.cons
  (.ifs (.cmp .eq (.var 1) (.str "environment")) (.cons
   .dead
   .nil) .nil)
  (.cons
  (.ifs (.cmp .eq (.var 1) (.str "dots")) (.cons
   .dead
   .nil) .nil)
  (.cons
  (.ret (.int 1))
  .nil))))))
noncomputable def f_length : CFun := { name := "length", vars := ["v", "kind"], np := 1, dfl := [], slots := 2, body := b_length }
/-! 15 is_atomic: slots 0 v -/
noncomputable def b_is_atomic : CSs :=
  (.cons
  (.ret (.cmp .isin (.attr (.var 0) "kind") (.tup (.cons (.str "logical") (.cons (.str "integer") (.cons (.str "double") (.cons (.str "character") .nil)))))))
  .nil)
noncomputable def f_is_atomic : CFun := { name := "is_atomic", vars := ["v"], np := 1, dfl := [], slots := 1, body := b_is_atomic }
/-! 16 get_attr: slots 0 v, 1 name -/
noncomputable def b_get_attr : CSs :=
  (.cons
  (.ifs (.cmp .is (.attr (.var 0) "attrs") .non) (.cons
   (.ret .non)
   .nil) .nil)
  (.cons
  (.ret (.get (.attr (.var 0) "attrs") (.var 1)))
  .nil))
noncomputable def f_get_attr : CFun := { name := "get_attr", vars := ["v", "name"], np := 2, dfl := [], slots := 2, body := b_get_attr }
/-! 17 label_text: slots 0 kind, 1 item -/
noncomputable def b_label_text : CSs :=
  (.cons
  (.ifs (.or (.cons (.cmp .is (.var 1) .non) (.cons (.cmp .eq (.var 0) (.str "character")) .nil))) (.cons
   (.ret (.var 1))
   .nil) .nil)
  (.cons
  (.ifs (.cmp .eq (.var 0) (.str "logical")) (.cons
   (.ret (.ife (.cmp .eq (.var 1) (.int 1)) (.str "TRUE") (.str "FALSE")))
   .nil) .nil)
  (.cons
  (.ifs (.cmp .eq (.var 0) (.str "integer")) (.cons
   (.ret (.strOf (.var 1)))
   .nil) .nil)
  (.cons
  .dead
  .nil))))
noncomputable def f_label_text : CFun := { name := "label_text", vars := ["kind", "item"], np := 2, dfl := [], slots := 2, body := b_label_text }
/-! 18 label_texts: slots 0 value, 1 levels, 2 texts -/
noncomputable def b_label_texts : CSs :=
  (.cons
  (.asg 1 (.call 16 (.cons (.var 0) (.cons (.str "levels") .nil))))
  (.cons
  (.ifs (.and (.cons (.cmp .isnt (.var 1) .non) (.cons (.cmp .eq (.attr (.var 0) "kind") (.str "integer")) (.cons (.cmp .isin (.str "factor") (.call 21 (.cons (.var 0) .nil))) .nil)))) (.cons
   (.asg 2 (.ife (.call 15 (.cons (.var 1) .nil)) (.call 18 (.cons (.var 1) .nil)) (.lst .nil)))
   (.cons
   .dead
   .nil)) .nil)
  (.cons
  (.ret (.comp (.call 17 (.cons (.attr (.var 0) "kind") (.cons (.var 4) .nil))) 4 (.it (.attr (.var 0) "items")) .nil))
  .nil)))
noncomputable def f_label_texts : CFun := { name := "label_texts", vars := ["value", "levels", "texts"], np := 1, dfl := [], slots := 5, body := b_label_texts }
/-! 19 names_of: slots 0 v, 1 tag, 2 dims, 3 rows, 4 names -/
noncomputable def b_names_of : CSs :=
  (.cons
  (.ifs (.cmp .eq (.attr (.var 0) "kind") (.str "language")) (.cons
   .dead
   (.cons
   (.ret .non)
   .nil)) .nil)
  (.cons
  (.ifs (.cmp .eq (.attr (.var 0) "kind") (.str "environment")) (.cons
   .dead
   .nil) .nil)
  (.cons
  (.asg 2 (.call 20 (.cons (.var 0) .nil)))
  (.cons
  (.ifs (.and (.cons (.cmp .isnt (.var 2) .non) (.cons (.cmp .eq (.len (.var 2)) (.int 1)) .nil))) (.cons
   .dead
   (.cons
   (.ret (.ife (.cmp .is (.var 3) .non) .non (.idx (.var 3) (.int 0))))
   .nil)) .nil)
  (.cons
  (.asg 4 (.call 16 (.cons (.var 0) (.cons (.str "names") .nil))))
  (.cons
  (.ifs (.cmp .is (.var 4) .non) (.cons
   (.ret .non)
   .nil) .nil)
  (.cons
  (.ret (.list (.attr (.var 4) "items")))
  .nil)))))))
noncomputable def f_names_of : CFun := { name := "names_of", vars := ["v", "tag", "dims", "rows", "names"], np := 1, dfl := [], slots := 5, body := b_names_of }
/-! 20 dim_of: slots 0 v, 1 dims -/
noncomputable def b_dim_of : CSs :=
  (.cons
  (.asg 1 (.call 16 (.cons (.var 0) (.cons (.str "dim") .nil))))
  (.cons
  (.ifs (.cmp .is (.var 1) .non) (.cons
   (.ret .non)
   .nil) .nil)
  (.cons
  (.ret (.list (.attr (.var 1) "items")))
  .nil)))
noncomputable def f_dim_of : CFun := { name := "dim_of", vars := ["v", "dims"], np := 1, dfl := [], slots := 2, body := b_dim_of }
/-! 21 class_attr: slots 0 v, 1 found -/
noncomputable def b_class_attr : CSs :=
  (.cons
  (.asg 1 (.call 16 (.cons (.var 0) (.cons (.str "class") .nil))))
  (.cons
  (.ifs (.cmp .is (.var 1) .non) (.cons
   (.ret (.lst .nil))
   .nil) .nil)
  (.cons
  (.ret (.list (.attr (.var 1) "items")))
  .nil)))
noncomputable def f_class_attr : CFun := { name := "class_attr", vars := ["v", "found"], np := 1, dfl := [], slots := 2, body := b_class_attr }
/-! 22 is_factor: slots 0 v -/
noncomputable def b_is_factor : CSs :=
  (.cons
  (.ret (.and (.cons (.cmp .eq (.attr (.var 0) "kind") (.str "integer")) (.cons (.cmp .isin (.str "factor") (.call 21 (.cons (.var 0) .nil))) .nil))))
  .nil)
noncomputable def f_is_factor : CFun := { name := "is_factor", vars := ["v"], np := 1, dfl := [], slots := 1, body := b_is_factor }
/-! 23 is_ordered: slots 0 v -/
noncomputable def b_is_ordered : CSs :=
  (.cons
  (.ret (.and (.cons (.call 22 (.cons (.var 0) .nil)) (.cons (.cmp .isin (.str "ordered") (.call 21 (.cons (.var 0) .nil))) .nil))))
  .nil)
noncomputable def f_is_ordered : CFun := { name := "is_ordered", vars := ["v"], np := 1, dfl := [], slots := 1, body := b_is_ordered }
/-! 24 level_texts: slots 0 f, 1 found -/
noncomputable def b_level_texts : CSs :=
  (.cons
  (.asg 1 (.call 16 (.cons (.var 0) (.cons (.str "levels") .nil))))
  (.cons
  (.ifs (.or (.cons (.cmp .is (.var 1) .non) (.cons (.not (.call 15 (.cons (.var 1) .nil))) .nil))) (.cons
   (.ret (.lst .nil))
   .nil) .nil)
  (.cons
  (.ret (.comp (.ife (.cmp .is (.var 2) .non) (.str "NA") (.var 2)) 2 (.it (.call 18 (.cons (.var 1) .nil))) .nil))
  .nil)))
noncomputable def f_level_texts : CFun := { name := "level_texts", vars := ["f", "found"], np := 1, dfl := [], slots := 3, body := b_level_texts }
/-! 25 codes_in: slots 0 f, 1 count -/
noncomputable def b_codes_in : CSs :=
  (.cons
  (.asg 1 (.len (.call 24 (.cons (.var 0) .nil))))
  (.cons
  (.ret (.comp (.ife (.and (.cons (.cmp .isnt (.var 2) .non) (.cons (.chain .le .le (.int 1) (.var 2) (.var 1)) .nil))) (.var 2) .non) 2 (.it (.attr (.var 0) "items")) .nil))
  .nil))
noncomputable def f_codes_in : CFun := { name := "codes_in", vars := ["f", "count"], np := 1, dfl := [], slots := 3, body := b_codes_in }
/-! 26 factor_texts: slots 0 f, 1 texts -/
noncomputable def b_factor_texts : CSs :=
  (.cons
  (.asg 1 (.call 24 (.cons (.var 0) .nil)))
  (.cons
  (.ret (.comp (.ife (.cmp .is (.var 2) .non) .non (.idx (.var 1) (.bin .sub (.var 2) (.int 1)))) 2 (.it (.call 25 (.cons (.var 0) .nil))) .nil))
  .nil))
noncomputable def f_factor_texts : CFun := { name := "factor_texts", vars := ["f", "texts"], np := 1, dfl := [], slots := 3, body := b_factor_texts }
/-! 27 factor_class: slots 0 ordered -/
noncomputable def b_factor_class : CSs :=
  (.cons
  (.ifs (.var 0) (.cons
   (.ret (.call 12 (.cons (.lst (.cons (.str "ordered") (.cons (.str "factor") .nil))) .nil)))
   .nil) .nil)
  (.cons
  (.ret (.call 12 (.cons (.lst (.cons (.str "factor") .nil)) .nil)))
  .nil))
noncomputable def f_factor_class : CFun := { name := "factor_class", vars := ["ordered"], np := 1, dfl := [], slots := 1, body := b_factor_class }
/-! 28 with_levels: slots 0 v, 1 texts, 2 ordered -/
noncomputable def b_with_levels : CSs :=
  (.cons
  (.ifs (.cmp .is (.attr (.var 0) "attrs") .non) (.cons
   (.seta (.var 0) "attrs" .dS)
   .nil) .nil)
  (.cons
  (.seti (.attr (.var 0) "attrs") (.str "levels") (.call 12 (.cons (.var 1) .nil)))
  (.cons
  (.seti (.attr (.var 0) "attrs") (.str "class") (.call 27 (.cons (.var 2) .nil)))
  (.cons
  (.ret (.var 0))
  .nil))))
noncomputable def f_with_levels : CFun := { name := "with_levels", vars := ["v", "texts", "ordered"], np := 3, dfl := [], slots := 3, body := b_with_levels }
/-! 29 distinct_texts: slots 0 texts, 1 found, 2 one -/
noncomputable def b_distinct_texts : CSs :=
  (.cons
  (.asg 1 .dS)
  (.cons
  (.forr 2 (.it (.var 0)) (.cons
   (.ifs (.cmp .isnt (.var 2) .non) (.cons
    (.seti (.var 1) (.var 2) (.bool true))
    .nil) .nil)
   .nil))
  (.cons
  (.ret (.list (.var 1)))
  .nil)))
noncomputable def f_distinct_texts : CFun := { name := "distinct_texts", vars := ["texts", "found", "one"], np := 1, dfl := [], slots := 3, body := b_distinct_texts }
/-! 30 sorted_levels: slots 0 v, 1 texts -/
noncomputable def b_sorted_levels : CSs :=
  (.cons
  (.ifs (.call 22 (.cons (.var 0) .nil)) (.cons
   (.ret (.call 24 (.cons (.call 36 (.cons (.var 0) .nil)) .nil)))
   .nil) .nil)
  (.cons
  (.asg 1 (.call 18 (.cons (.var 0) .nil)))
  (.cons
  (.ret (.call 29 (.cons (.comp (.idx (.var 1) (.var 2)) 2 (.it (.call 9 (.cons (.lst (.cons (.var 0) .nil)) (.cons (.bool false) (.cons .non .nil))))) .nil) .nil)))
  .nil)))
noncomputable def f_sorted_levels : CFun := { name := "sorted_levels", vars := ["v", "texts"], np := 1, dfl := [], slots := 3, body := b_sorted_levels }
/-! 31 codes_of: slots 0 texts, 1 levels, 2 places, 3 i -/
noncomputable def b_codes_of : CSs :=
  (.cons
  (.asg 2 .dS)
  (.cons
  (.forr 3 (.rng (.cons (.len (.var 1)) .nil)) (.cons
   (.ifs (.and (.cons (.cmp .isnt (.idx (.var 1) (.var 3)) .non) (.cons (.cmp .notin (.idx (.var 1) (.var 3)) (.var 2)) .nil))) (.cons
    (.seti (.var 2) (.idx (.var 1) (.var 3)) (.bin .add (.var 3) (.int 1)))
    .nil) .nil)
   .nil))
  (.cons
  (.ret (.comp (.ife (.cmp .is (.var 4) .non) .non (.get (.var 2) (.var 4))) 4 (.it (.var 0)) .nil))
  .nil)))
noncomputable def f_codes_of : CFun := { name := "codes_of", vars := ["texts", "levels", "places", "i"], np := 2, dfl := [], slots := 5, body := b_codes_of }
/-! 32 item_texts: slots 0 v -/
noncomputable def b_item_texts : CSs :=
  (.cons
  (.ifs (.cmp .eq (.attr (.var 0) "kind") (.str "NULL")) (.cons
   (.ret (.lst .nil))
   .nil) .nil)
  (.cons
  (.ifs (.not (.call 15 (.cons (.var 0) .nil))) (.cons
   .dead
   .nil) .nil)
  (.cons
  (.ret (.call 18 (.cons (.var 0) .nil)))
  .nil)))
noncomputable def f_item_texts : CFun := { name := "item_texts", vars := ["v"], np := 1, dfl := [], slots := 1, body := b_item_texts }
/-! 33 label_list: slots 0 labels, 1 levels, 2 texts -/
noncomputable def b_label_list : CSs :=
  (.cons
  (.ifs (.cmp .is (.var 0) .non) (.cons
   (.ret (.var 1))
   .nil) .nil)
  (.cons
  (.asg 2 (.call 32 (.cons (.var 0) .nil)))
  (.cons
  (.ifs (.cmp .eq (.len (.var 2)) (.len (.var 1))) (.cons
   (.ret (.var 2))
   .nil) .nil)
  (.cons
  (.ifs (.cmp .eq (.len (.var 2)) (.int 1)) (.cons
   (.ret (.comp (.bin .add (.idx (.var 2) (.int 0)) (.strOf (.bin .add (.var 3) (.int 1)))) 3 (.rng (.cons (.len (.var 1)) .nil)) .nil))
   .nil) .nil)
  (.cons
  .dead
  .nil)))))
noncomputable def f_label_list : CFun := { name := "label_list", vars := ["labels", "levels", "texts"], np := 2, dfl := [], slots := 4, body := b_label_list }
/-! 34 check_distinct: slots 0 levels, 1 seen, 2 i -/
noncomputable def b_check_distinct : CSs :=
  (.cons
  (.asg 1 .dS)
  (.cons
  (.forr 2 (.rng (.cons (.len (.var 0)) .nil)) (.cons
   (.ifs (.cmp .isin (.idx (.var 0) (.var 2)) (.var 1)) (.cons
    .dead
    .nil) .nil)
   (.cons
   (.seti (.var 1) (.idx (.var 0) (.var 2)) (.bool true))
   .nil)))
  .nil))
noncomputable def f_check_distinct : CFun := { name := "check_distinct", vars := ["levels", "seen", "i"], np := 1, dfl := [], slots := 3, body := b_check_distinct }
/-! 35 make_factor: slots 0 v, 1 levels, 2 labels, 3 exclude, 4 ordered, 5 texts, 6 wanted, 7 called, 8 names, 9 joined, 10 codes, 11 result -/
noncomputable def b_make_factor : CSs :=
  (.cons
  (.asg 5 (.call 32 (.cons (.var 0) .nil)))
  (.cons
  (.ifs (.cmp .isnt (.var 1) .non) (.cons
   (.asg 6 (.comp (.var 12) 12 (.it (.call 32 (.cons (.var 1) .nil))) (.cons (.cmp .isnt (.var 12) .non) .nil)))
   .nil) (.cons
   (.ifs (.cmp .eq (.attr (.var 0) "kind") (.str "NULL")) (.cons
    (.asg 6 (.lst .nil))
    .nil) (.cons
    (.asg 6 (.call 30 (.cons (.var 0) .nil)))
    .nil))
   .nil))
  (.cons
  (.asg 6 (.comp (.var 13) 13 (.it (.var 6)) (.cons (.cmp .notin (.var 13) (.var 3)) .nil)))
  (.cons
  (.ex (.call 34 (.cons (.var 6) .nil)))
  (.cons
  (.asg 7 (.call 33 (.cons (.var 2) (.cons (.var 6) .nil))))
  (.cons
  (.asg 8 (.call 29 (.cons (.var 7) .nil)))
  (.cons
  (.asg 9 (.call 31 (.cons (.var 7) (.cons (.var 8) .nil))))
  (.cons
  (.asg 10 (.comp (.ife (.cmp .is (.var 14) .non) .non (.idx (.var 9) (.bin .sub (.var 14) (.int 1)))) 14 (.it (.call 31 (.cons (.var 5) (.cons (.var 6) .nil)))) .nil))
  (.cons
  (.asg 11 (.call 11 (.cons (.var 10) .nil)))
  (.cons
  (.ifs (.cmp .ne (.attr (.var 0) "kind") (.str "NULL")) (.cons
   (.ex (.call 13 (.cons (.var 11) (.cons (.call 19 (.cons (.var 0) .nil)) .nil))))
   .nil) .nil)
  (.cons
  (.ret (.call 28 (.cons (.var 11) (.cons (.var 8) (.cons (.var 4) .nil)))))
  .nil)))))))))))
noncomputable def f_make_factor : CFun := { name := "make_factor", vars := ["v", "levels", "labels", "exclude", "ordered", "texts", "wanted", "called", "names", "joined", "codes", "result"], np := 5, dfl := [], slots := 15, body := b_make_factor }
/-! 36 drop_levels: slots 0 f, 1 texts, 2 codes, 3 used, 4 code, 5 kept, 6 renewed, 7 i, 8 result -/
noncomputable def b_drop_levels : CSs :=
  (.cons
  (.asg 1 (.call 24 (.cons (.var 0) .nil)))
  (.cons
  (.asg 2 (.call 25 (.cons (.var 0) .nil)))
  (.cons
  (.asg 3 .dI)
  (.cons
  (.forr 4 (.it (.var 2)) (.cons
   (.ifs (.cmp .isnt (.var 4) .non) (.cons
    (.seti (.var 3) (.var 4) (.bool true))
    .nil) .nil)
   .nil))
  (.cons
  (.asg 5 (.comp (.bin .add (.var 9) (.int 1)) 9 (.rng (.cons (.len (.var 1)) .nil)) (.cons (.cmp .isin (.bin .add (.var 9) (.int 1)) (.var 3)) .nil)))
  (.cons
  (.asg 6 .dI)
  (.cons
  (.forr 7 (.rng (.cons (.len (.var 5)) .nil)) (.cons
   (.seti (.var 6) (.idx (.var 5) (.var 7)) (.bin .add (.var 7) (.int 1)))
   .nil))
  (.cons
  (.asg 8 (.call 11 (.cons (.comp (.ife (.cmp .is (.var 10) .non) .non (.idx (.var 6) (.var 10))) 10 (.it (.var 2)) .nil) .nil)))
  (.cons
  (.ex (.call 13 (.cons (.var 8) (.cons (.call 19 (.cons (.var 0) .nil)) .nil))))
  (.cons
  (.ret (.call 28 (.cons (.var 8) (.cons (.comp (.idx (.var 1) (.bin .sub (.var 11) (.int 1))) 11 (.it (.var 5)) .nil) (.cons (.call 23 (.cons (.var 0) .nil)) .nil)))))
  .nil))))))))))
noncomputable def f_drop_levels : CFun := { name := "drop_levels", vars := ["f", "texts", "codes", "used", "code", "kept", "renewed", "i", "result"], np := 1, dfl := [], slots := 12, body := b_drop_levels }
/-! 37 _law_items: slots 0 script, 1 kind, 2 items, 3 cell, 4 drawn -/
noncomputable def b_law_items : CSs :=
  (.cons
  (.asg 1 (.idx (.lst (.cons (.str "integer") (.cons (.str "logical") (.cons (.str "character") .nil)))) (.ife (.cmp .ne (.var 0) (.lst .nil)) (.bin .mod (.abs (.idx (.var 0) (.int 0))) (.int 3)) (.int 0))))
  (.cons
  (.asg 2 (.lst .nil))
  (.cons
  (.forr 3 (.it (.slice2 (.var 0) (.int 1) (.int 10))) (.cons
   (.asg 4 (.bin .mod (.abs (.var 3)) (.int 8)))
   (.cons
   (.ifs (.cmp .eq (.var 4) (.int 7)) (.cons
    (.app (.var 2) .non)
    .nil) (.cons
    (.ifs (.cmp .eq (.var 1) (.str "integer")) (.cons
     (.app (.var 2) (.bin .sub (.int 12) (.bin .mul (.int 4) (.var 4))))
     .nil) (.cons
     (.ifs (.cmp .eq (.var 1) (.str "logical")) (.cons
      (.app (.var 2) (.bin .mod (.var 4) (.int 2)))
      .nil) (.cons
      (.app (.var 2) (.idx (.lst (.cons (.str "b") (.cons (.str "") (.cons (.str "ab") (.cons (.str "B") (.cons (.str "a") (.cons (.str "10") (.cons (.str "9") .nil)))))))) (.var 4)))
      .nil))
     .nil))
    .nil))
   .nil)))
  (.cons
  (.ret (.tup (.cons (.var 1) (.cons (.var 2) .nil))))
  .nil))))
noncomputable def f_law_items : CFun := { name := "_law_items", vars := ["script", "kind", "items", "cell", "drawn"], np := 1, dfl := [], slots := 5, body := b_law_items }
/-! 38 _law_words: slots 0 kind, 1 items, 2 words, 3 item -/
noncomputable def b_law_words : CSs :=
  (.cons
  (.asg 2 (.lst .nil))
  (.cons
  (.forr 3 (.it (.var 1)) (.cons
   (.ifs (.or (.cons (.cmp .is (.var 3) .non) (.cons (.cmp .eq (.var 0) (.str "character")) .nil))) (.cons
    (.app (.var 2) (.var 3))
    .nil) (.cons
    (.ifs (.cmp .eq (.var 0) (.str "logical")) (.cons
     (.app (.var 2) (.ife (.cmp .eq (.var 3) (.int 1)) (.str "TRUE") (.str "FALSE")))
     .nil) (.cons
     (.app (.var 2) (.strOf (.var 3)))
     .nil))
    .nil))
   .nil))
  (.cons
  (.ret (.var 2))
  .nil)))
noncomputable def f_law_words : CFun := { name := "_law_words", vars := ["kind", "items", "words", "item"], np := 2, dfl := [], slots := 4, body := b_law_words }
/-! 39 _law_in_order: slots 0 items, 1 codes, 2 i, 3 j -/
noncomputable def b_law_in_order : CSs :=
  (.cons
  (.forr 2 (.rng (.cons (.len (.var 0)) .nil)) (.cons
   (.forr 3 (.rng (.cons (.len (.var 0)) .nil)) (.cons
    (.ifs (.cmp .is (.idx (.var 0) (.var 2)) .non) (.cons
     (.ifs (.cmp .isnt (.idx (.var 1) (.var 2)) .non) (.cons
      (.ret (.bool false))
      .nil) .nil)
     .nil) (.cons
     (.ifs (.cmp .isnt (.idx (.var 0) (.var 3)) .non) (.cons
      (.ifs (.cmp .ne (.cmp .lt (.idx (.var 0) (.var 2)) (.idx (.var 0) (.var 3))) (.cmp .lt (.idx (.var 1) (.var 2)) (.idx (.var 1) (.var 3)))) (.cons
       (.ret (.bool false))
       .nil) .nil)
      .nil) .nil)
     .nil))
    .nil))
   .nil))
  (.cons
  (.ret (.bool true))
  .nil))
noncomputable def f_law_in_order : CFun := { name := "_law_in_order", vars := ["items", "codes", "i", "j"], np := 2, dfl := [], slots := 4, body := b_law_in_order }
/-! 40 law: slots 0 script, 1 kind, 2 items, 3 words, 4 f, 5 there, 6 code, 7 flipped, 8 at, 9 g, 10 due, 11 less, 12 again -/
noncomputable def b_law : CSs :=
  (.cons
  (.unpk 1 2 (.call 37 (.cons (.var 0) .nil)))
  (.cons
  (.asg 3 (.call 38 (.cons (.var 1) (.cons (.var 2) .nil))))
  (.cons
  (.asg 4 (.call 35 (.cons (.mk (.cons (.var 1) (.cons (.list (.var 2)) .nil))) (.cons .non (.cons .non (.cons (.lst .nil) (.cons (.bool false) .nil)))))))
  (.cons
  (.ifs (.or (.cons (.cmp .ne (.call 26 (.cons (.var 4) .nil)) (.var 3)) (.cons (.not (.call 39 (.cons (.var 2) (.cons (.attr (.var 4) "items") .nil)))) .nil))) (.cons
   (.ret (.bool false))
   .nil) .nil)
  (.cons
  (.asg 5 (.call 24 (.cons (.var 4) .nil)))
  (.cons
  (.ifs (.cmp .ne (.len (.var 5)) (.len (.dcomp (.var 13) (.int 1) 13 (.it (.var 3)) (.cons (.cmp .isnt (.var 13) .non) .nil)))) (.cons
   (.ret (.bool false))
   .nil) .nil)
  (.cons
  (.forr 6 (.rng (.cons (.int 1) (.cons (.bin .add (.len (.var 5)) (.int 1)) .nil))) (.cons
   (.ifs (.cmp .notin (.var 6) (.attr (.var 4) "items")) (.cons
    (.ret (.bool false))
    .nil) .nil)
   .nil))
  (.cons
  (.asg 7 (.lst (.cons (.str "strange") .nil)))
  (.cons
  (.forr 8 (.rng (.cons (.bin .sub (.len (.var 5)) (.int 1)) (.cons (.int (-1)) (.cons (.int (-1)) .nil)))) (.cons
   (.app (.var 7) (.idx (.var 5) (.var 8)))
   .nil))
  (.cons
  (.asg 9 (.call 35 (.cons (.mk (.cons (.var 1) (.cons (.list (.var 2)) .nil))) (.cons (.call 12 (.cons (.var 7) .nil)) (.cons .non (.cons (.lst .nil) (.cons (.bool false) .nil)))))))
  (.cons
  (.asg 10 (.comp (.ife (.cmp .is (.var 14) .non) .non (.bin .sub (.bin .add (.len (.var 5)) (.int 2)) (.var 14))) 14 (.it (.attr (.var 4) "items")) .nil))
  (.cons
  (.ifs (.or (.cons (.cmp .ne (.attr (.var 9) "items") (.var 10)) (.cons (.cmp .ne (.call 26 (.cons (.var 9) .nil)) (.var 3)) (.cons (.cmp .ne (.call 24 (.cons (.var 9) .nil)) (.var 7)) .nil)))) (.cons
   (.ret (.bool false))
   .nil) .nil)
  (.cons
  (.asg 11 (.call 36 (.cons (.var 9) .nil)))
  (.cons
  (.ifs (.or (.cons (.cmp .ne (.call 24 (.cons (.var 11) .nil)) (.slice (.var 7) (.int 1))) (.cons (.cmp .ne (.call 26 (.cons (.var 11) .nil)) (.var 3)) (.cons (.cmp .ne (.attr (.var 9) "items") (.var 10)) .nil)))) (.cons
   (.ret (.bool false))
   .nil) .nil)
  (.cons
  (.asg 12 (.call 36 (.cons (.var 11) .nil)))
  (.cons
  (.ret (.and (.cons (.cmp .eq (.attr (.var 12) "items") (.attr (.var 11) "items")) (.cons (.cmp .eq (.call 24 (.cons (.var 12) .nil)) (.slice (.var 7) (.int 1))) .nil))))
  .nil))))))))))))))))
noncomputable def f_law : CFun := { name := "law", vars := ["script", "kind", "items", "words", "f", "there", "code", "flipped", "at", "g", "due", "less", "again"], np := 1, dfl := [], slots := 15, body := b_law }
noncomputable def tbl : List CFun := [f_is_lacking, f_compare_items, f_check_sortable, f_compare_places, f_compare_keys, f_merge_runs, f_merge_sort, f_each_key, f_kept_places, f_order_by, f_init, f_integer, f_character, f_named, f_length, f_is_atomic, f_get_attr, f_label_text, f_label_texts, f_names_of, f_dim_of, f_class_attr, f_is_factor, f_is_ordered, f_level_texts, f_codes_in, f_factor_texts, f_factor_class, f_with_levels, f_distinct_texts, f_sorted_levels, f_codes_of, f_item_texts, f_label_list, f_check_distinct, f_make_factor, f_drop_levels, f_law_items, f_law_words, f_law_in_order, f_law]
noncomputable def nmT : List (Option Str) := [some ("is_lacking" : Str), some ("compare_items" : Str), some ("check_sortable" : Str), some ("compare_places" : Str), some ("compare_keys" : Str), some ("merge_runs" : Str), some ("merge_sort" : Str), some ("each_key" : Str), some ("kept_places" : Str), some ("order_by" : Str), none, some ("integer" : Str), some ("character" : Str), some ("named" : Str), some ("length" : Str), some ("is_atomic" : Str), some ("get_attr" : Str), some ("label_text" : Str), some ("label_texts" : Str), some ("names_of" : Str), some ("dim_of" : Str), some ("class_attr" : Str), some ("is_factor" : Str), some ("is_ordered" : Str), some ("level_texts" : Str), some ("codes_in" : Str), some ("factor_texts" : Str), some ("factor_class" : Str), some ("with_levels" : Str), some ("distinct_texts" : Str), some ("sorted_levels" : Str), some ("codes_of" : Str), some ("item_texts" : Str), some ("label_list" : Str), some ("check_distinct" : Str), some ("make_factor" : Str), some ("drop_levels" : Str), some ("_law_items" : Str), some ("_law_words" : Str), some ("_law_in_order" : Str), some ("law" : Str)]
noncomputable def PT : Nat → Option CFun := fun i => tbl[i]?
noncomputable def fnT : Nat → Option Str := fun i => (nmT[i]?).join
abbrev iniT : Nat := 10
abbrev GG : Nat → GT := G PT iniT
theorem u_is_lacking {d : Nat} {v0 v1 : PV} {H : PH} {Q : PV → PH → Prop} (h : WSs (GG d) iniT b_is_lacking [some v0, some v1] H fun fl _ H' => Q (match fl with | .ret v => v | .next => .none) H') : GG (d + 1) 0 [v0, v1] H Q := ⟨Nat.le_of_ble_eq_true rfl, Nat.le_of_ble_eq_true rfl, h⟩
theorem u_compare_items {d : Nat} {v0 v1 v2 : PV} {H : PH} {Q : PV → PH → Prop} (h : WSs (GG d) iniT b_compare_items [some v0, some v1, some v2] H fun fl _ H' => Q (match fl with | .ret v => v | .next => .none) H') : GG (d + 1) 1 [v0, v1, v2] H Q := ⟨Nat.le_of_ble_eq_true rfl, Nat.le_of_ble_eq_true rfl, h⟩
theorem u_check_sortable {d : Nat} {v0 : PV} {H : PH} {Q : PV → PH → Prop} (h : WSs (GG d) iniT b_check_sortable [some v0] H fun fl _ H' => Q (match fl with | .ret v => v | .next => .none) H') : GG (d + 1) 2 [v0] H Q := ⟨Nat.le_of_ble_eq_true rfl, Nat.le_of_ble_eq_true rfl, h⟩
theorem u_compare_places {d : Nat} {v0 v1 v2 v3 v4 : PV} {H : PH} {Q : PV → PH → Prop} (h : WSs (GG d) iniT b_compare_places [some v0, some v1, some v2, some v3, some v4, none, none, none, none, none] H fun fl _ H' => Q (match fl with | .ret v => v | .next => .none) H') : GG (d + 1) 3 [v0, v1, v2, v3, v4] H Q := ⟨Nat.le_of_ble_eq_true rfl, Nat.le_of_ble_eq_true rfl, h⟩
theorem u_compare_keys {d : Nat} {v0 v1 v2 v3 v4 : PV} {H : PH} {Q : PV → PH → Prop} (h : WSs (GG d) iniT b_compare_keys [some v0, some v1, some v2, some v3, some v4, none, none] H fun fl _ H' => Q (match fl with | .ret v => v | .next => .none) H') : GG (d + 1) 4 [v0, v1, v2, v3, v4] H Q := ⟨Nat.le_of_ble_eq_true rfl, Nat.le_of_ble_eq_true rfl, h⟩
theorem u_merge_runs {d : Nat} {v0 v1 v2 v3 v4 : PV} {H : PH} {Q : PV → PH → Prop} (h : WSs (GG d) iniT b_merge_runs [some v0, some v1, some v2, some v3, some v4, none, none, none] H fun fl _ H' => Q (match fl with | .ret v => v | .next => .none) H') : GG (d + 1) 5 [v0, v1, v2, v3, v4] H Q := ⟨Nat.le_of_ble_eq_true rfl, Nat.le_of_ble_eq_true rfl, h⟩
theorem u_merge_sort {d : Nat} {v0 v1 v2 v3 : PV} {H : PH} {Q : PV → PH → Prop} (h : WSs (GG d) iniT b_merge_sort [some v0, some v1, some v2, some v3, none, none, none, none] H fun fl _ H' => Q (match fl with | .ret v => v | .next => .none) H') : GG (d + 1) 6 [v0, v1, v2, v3] H Q := ⟨Nat.le_of_ble_eq_true rfl, Nat.le_of_ble_eq_true rfl, h⟩
theorem u_each_key {d : Nat} {v0 v1 : PV} {H : PH} {Q : PV → PH → Prop} (h : WSs (GG d) iniT b_each_key [some v0, some v1, none] H fun fl _ H' => Q (match fl with | .ret v => v | .next => .none) H') : GG (d + 1) 7 [v0, v1] H Q := ⟨Nat.le_of_ble_eq_true rfl, Nat.le_of_ble_eq_true rfl, h⟩
theorem u_kept_places {d : Nat} {v0 v1 : PV} {H : PH} {Q : PV → PH → Prop} (h : WSs (GG d) iniT b_kept_places [some v0, some v1, none, none, none, none] H fun fl _ H' => Q (match fl with | .ret v => v | .next => .none) H') : GG (d + 1) 8 [v0, v1] H Q := ⟨Nat.le_of_ble_eq_true rfl, Nat.le_of_ble_eq_true rfl, h⟩
theorem u_order_by {d : Nat} {v0 v1 v2 : PV} {H : PH} {Q : PV → PH → Prop} (h : WSs (GG d) iniT b_order_by [some v0, some v1, some v2, none, none] H fun fl _ H' => Q (match fl with | .ret v => v | .next => .none) H') : GG (d + 1) 9 [v0, v1, v2] H Q := ⟨Nat.le_of_ble_eq_true rfl, Nat.le_of_ble_eq_true rfl, h⟩
theorem u_init {d : Nat} {v0 v1 v2 : PV} {H : PH} {Q : PV → PH → Prop} (h : WSs (GG d) iniT b_init [some v0, some v1, some v2, some (.none)] H fun fl _ H' => Q (match fl with | .ret v => v | .next => .none) H') : GG (d + 1) 10 [v0, v1, v2] H Q := ⟨Nat.le_of_ble_eq_true rfl, Nat.le_of_ble_eq_true rfl, h⟩
theorem u_integer {d : Nat} {v0 : PV} {H : PH} {Q : PV → PH → Prop} (h : WSs (GG d) iniT b_integer [some v0] H fun fl _ H' => Q (match fl with | .ret v => v | .next => .none) H') : GG (d + 1) 11 [v0] H Q := ⟨Nat.le_of_ble_eq_true rfl, Nat.le_of_ble_eq_true rfl, h⟩
theorem u_character {d : Nat} {v0 : PV} {H : PH} {Q : PV → PH → Prop} (h : WSs (GG d) iniT b_character [some v0] H fun fl _ H' => Q (match fl with | .ret v => v | .next => .none) H') : GG (d + 1) 12 [v0] H Q := ⟨Nat.le_of_ble_eq_true rfl, Nat.le_of_ble_eq_true rfl, h⟩
theorem u_named {d : Nat} {v0 v1 : PV} {H : PH} {Q : PV → PH → Prop} (h : WSs (GG d) iniT b_named [some v0, some v1] H fun fl _ H' => Q (match fl with | .ret v => v | .next => .none) H') : GG (d + 1) 13 [v0, v1] H Q := ⟨Nat.le_of_ble_eq_true rfl, Nat.le_of_ble_eq_true rfl, h⟩
theorem u_length {d : Nat} {v0 : PV} {H : PH} {Q : PV → PH → Prop} (h : WSs (GG d) iniT b_length [some v0, none] H fun fl _ H' => Q (match fl with | .ret v => v | .next => .none) H') : GG (d + 1) 14 [v0] H Q := ⟨Nat.le_of_ble_eq_true rfl, Nat.le_of_ble_eq_true rfl, h⟩
theorem u_is_atomic {d : Nat} {v0 : PV} {H : PH} {Q : PV → PH → Prop} (h : WSs (GG d) iniT b_is_atomic [some v0] H fun fl _ H' => Q (match fl with | .ret v => v | .next => .none) H') : GG (d + 1) 15 [v0] H Q := ⟨Nat.le_of_ble_eq_true rfl, Nat.le_of_ble_eq_true rfl, h⟩
theorem u_get_attr {d : Nat} {v0 v1 : PV} {H : PH} {Q : PV → PH → Prop} (h : WSs (GG d) iniT b_get_attr [some v0, some v1] H fun fl _ H' => Q (match fl with | .ret v => v | .next => .none) H') : GG (d + 1) 16 [v0, v1] H Q := ⟨Nat.le_of_ble_eq_true rfl, Nat.le_of_ble_eq_true rfl, h⟩
theorem u_label_text {d : Nat} {v0 v1 : PV} {H : PH} {Q : PV → PH → Prop} (h : WSs (GG d) iniT b_label_text [some v0, some v1] H fun fl _ H' => Q (match fl with | .ret v => v | .next => .none) H') : GG (d + 1) 17 [v0, v1] H Q := ⟨Nat.le_of_ble_eq_true rfl, Nat.le_of_ble_eq_true rfl, h⟩
theorem u_label_texts {d : Nat} {v0 : PV} {H : PH} {Q : PV → PH → Prop} (h : WSs (GG d) iniT b_label_texts [some v0, none, none, none, none] H fun fl _ H' => Q (match fl with | .ret v => v | .next => .none) H') : GG (d + 1) 18 [v0] H Q := ⟨Nat.le_of_ble_eq_true rfl, Nat.le_of_ble_eq_true rfl, h⟩
theorem u_names_of {d : Nat} {v0 : PV} {H : PH} {Q : PV → PH → Prop} (h : WSs (GG d) iniT b_names_of [some v0, none, none, none, none] H fun fl _ H' => Q (match fl with | .ret v => v | .next => .none) H') : GG (d + 1) 19 [v0] H Q := ⟨Nat.le_of_ble_eq_true rfl, Nat.le_of_ble_eq_true rfl, h⟩
theorem u_dim_of {d : Nat} {v0 : PV} {H : PH} {Q : PV → PH → Prop} (h : WSs (GG d) iniT b_dim_of [some v0, none] H fun fl _ H' => Q (match fl with | .ret v => v | .next => .none) H') : GG (d + 1) 20 [v0] H Q := ⟨Nat.le_of_ble_eq_true rfl, Nat.le_of_ble_eq_true rfl, h⟩
theorem u_class_attr {d : Nat} {v0 : PV} {H : PH} {Q : PV → PH → Prop} (h : WSs (GG d) iniT b_class_attr [some v0, none] H fun fl _ H' => Q (match fl with | .ret v => v | .next => .none) H') : GG (d + 1) 21 [v0] H Q := ⟨Nat.le_of_ble_eq_true rfl, Nat.le_of_ble_eq_true rfl, h⟩
theorem u_is_factor {d : Nat} {v0 : PV} {H : PH} {Q : PV → PH → Prop} (h : WSs (GG d) iniT b_is_factor [some v0] H fun fl _ H' => Q (match fl with | .ret v => v | .next => .none) H') : GG (d + 1) 22 [v0] H Q := ⟨Nat.le_of_ble_eq_true rfl, Nat.le_of_ble_eq_true rfl, h⟩
theorem u_is_ordered {d : Nat} {v0 : PV} {H : PH} {Q : PV → PH → Prop} (h : WSs (GG d) iniT b_is_ordered [some v0] H fun fl _ H' => Q (match fl with | .ret v => v | .next => .none) H') : GG (d + 1) 23 [v0] H Q := ⟨Nat.le_of_ble_eq_true rfl, Nat.le_of_ble_eq_true rfl, h⟩
theorem u_level_texts {d : Nat} {v0 : PV} {H : PH} {Q : PV → PH → Prop} (h : WSs (GG d) iniT b_level_texts [some v0, none, none] H fun fl _ H' => Q (match fl with | .ret v => v | .next => .none) H') : GG (d + 1) 24 [v0] H Q := ⟨Nat.le_of_ble_eq_true rfl, Nat.le_of_ble_eq_true rfl, h⟩
theorem u_codes_in {d : Nat} {v0 : PV} {H : PH} {Q : PV → PH → Prop} (h : WSs (GG d) iniT b_codes_in [some v0, none, none] H fun fl _ H' => Q (match fl with | .ret v => v | .next => .none) H') : GG (d + 1) 25 [v0] H Q := ⟨Nat.le_of_ble_eq_true rfl, Nat.le_of_ble_eq_true rfl, h⟩
theorem u_factor_texts {d : Nat} {v0 : PV} {H : PH} {Q : PV → PH → Prop} (h : WSs (GG d) iniT b_factor_texts [some v0, none, none] H fun fl _ H' => Q (match fl with | .ret v => v | .next => .none) H') : GG (d + 1) 26 [v0] H Q := ⟨Nat.le_of_ble_eq_true rfl, Nat.le_of_ble_eq_true rfl, h⟩
theorem u_factor_class {d : Nat} {v0 : PV} {H : PH} {Q : PV → PH → Prop} (h : WSs (GG d) iniT b_factor_class [some v0] H fun fl _ H' => Q (match fl with | .ret v => v | .next => .none) H') : GG (d + 1) 27 [v0] H Q := ⟨Nat.le_of_ble_eq_true rfl, Nat.le_of_ble_eq_true rfl, h⟩
theorem u_with_levels {d : Nat} {v0 v1 v2 : PV} {H : PH} {Q : PV → PH → Prop} (h : WSs (GG d) iniT b_with_levels [some v0, some v1, some v2] H fun fl _ H' => Q (match fl with | .ret v => v | .next => .none) H') : GG (d + 1) 28 [v0, v1, v2] H Q := ⟨Nat.le_of_ble_eq_true rfl, Nat.le_of_ble_eq_true rfl, h⟩
theorem u_distinct_texts {d : Nat} {v0 : PV} {H : PH} {Q : PV → PH → Prop} (h : WSs (GG d) iniT b_distinct_texts [some v0, none, none] H fun fl _ H' => Q (match fl with | .ret v => v | .next => .none) H') : GG (d + 1) 29 [v0] H Q := ⟨Nat.le_of_ble_eq_true rfl, Nat.le_of_ble_eq_true rfl, h⟩
theorem u_sorted_levels {d : Nat} {v0 : PV} {H : PH} {Q : PV → PH → Prop} (h : WSs (GG d) iniT b_sorted_levels [some v0, none, none] H fun fl _ H' => Q (match fl with | .ret v => v | .next => .none) H') : GG (d + 1) 30 [v0] H Q := ⟨Nat.le_of_ble_eq_true rfl, Nat.le_of_ble_eq_true rfl, h⟩
theorem u_codes_of {d : Nat} {v0 v1 : PV} {H : PH} {Q : PV → PH → Prop} (h : WSs (GG d) iniT b_codes_of [some v0, some v1, none, none, none] H fun fl _ H' => Q (match fl with | .ret v => v | .next => .none) H') : GG (d + 1) 31 [v0, v1] H Q := ⟨Nat.le_of_ble_eq_true rfl, Nat.le_of_ble_eq_true rfl, h⟩
theorem u_item_texts {d : Nat} {v0 : PV} {H : PH} {Q : PV → PH → Prop} (h : WSs (GG d) iniT b_item_texts [some v0] H fun fl _ H' => Q (match fl with | .ret v => v | .next => .none) H') : GG (d + 1) 32 [v0] H Q := ⟨Nat.le_of_ble_eq_true rfl, Nat.le_of_ble_eq_true rfl, h⟩
theorem u_label_list {d : Nat} {v0 v1 : PV} {H : PH} {Q : PV → PH → Prop} (h : WSs (GG d) iniT b_label_list [some v0, some v1, none, none] H fun fl _ H' => Q (match fl with | .ret v => v | .next => .none) H') : GG (d + 1) 33 [v0, v1] H Q := ⟨Nat.le_of_ble_eq_true rfl, Nat.le_of_ble_eq_true rfl, h⟩
theorem u_check_distinct {d : Nat} {v0 : PV} {H : PH} {Q : PV → PH → Prop} (h : WSs (GG d) iniT b_check_distinct [some v0, none, none] H fun fl _ H' => Q (match fl with | .ret v => v | .next => .none) H') : GG (d + 1) 34 [v0] H Q := ⟨Nat.le_of_ble_eq_true rfl, Nat.le_of_ble_eq_true rfl, h⟩
theorem u_make_factor {d : Nat} {v0 v1 v2 v3 v4 : PV} {H : PH} {Q : PV → PH → Prop} (h : WSs (GG d) iniT b_make_factor [some v0, some v1, some v2, some v3, some v4, none, none, none, none, none, none, none, none, none, none] H fun fl _ H' => Q (match fl with | .ret v => v | .next => .none) H') : GG (d + 1) 35 [v0, v1, v2, v3, v4] H Q := ⟨Nat.le_of_ble_eq_true rfl, Nat.le_of_ble_eq_true rfl, h⟩
theorem u_drop_levels {d : Nat} {v0 : PV} {H : PH} {Q : PV → PH → Prop} (h : WSs (GG d) iniT b_drop_levels [some v0, none, none, none, none, none, none, none, none, none, none, none] H fun fl _ H' => Q (match fl with | .ret v => v | .next => .none) H') : GG (d + 1) 36 [v0] H Q := ⟨Nat.le_of_ble_eq_true rfl, Nat.le_of_ble_eq_true rfl, h⟩
theorem u_law_items {d : Nat} {v0 : PV} {H : PH} {Q : PV → PH → Prop} (h : WSs (GG d) iniT b_law_items [some v0, none, none, none, none] H fun fl _ H' => Q (match fl with | .ret v => v | .next => .none) H') : GG (d + 1) 37 [v0] H Q := ⟨Nat.le_of_ble_eq_true rfl, Nat.le_of_ble_eq_true rfl, h⟩
theorem u_law_words {d : Nat} {v0 v1 : PV} {H : PH} {Q : PV → PH → Prop} (h : WSs (GG d) iniT b_law_words [some v0, some v1, none, none] H fun fl _ H' => Q (match fl with | .ret v => v | .next => .none) H') : GG (d + 1) 38 [v0, v1] H Q := ⟨Nat.le_of_ble_eq_true rfl, Nat.le_of_ble_eq_true rfl, h⟩
theorem u_law_in_order {d : Nat} {v0 v1 : PV} {H : PH} {Q : PV → PH → Prop} (h : WSs (GG d) iniT b_law_in_order [some v0, some v1, none, none] H fun fl _ H' => Q (match fl with | .ret v => v | .next => .none) H') : GG (d + 1) 39 [v0, v1] H Q := ⟨Nat.le_of_ble_eq_true rfl, Nat.le_of_ble_eq_true rfl, h⟩
theorem u_law {d : Nat} {v0 : PV} {H : PH} {Q : PV → PH → Prop} (h : WSs (GG d) iniT b_law [some v0, none, none, none, none, none, none, none, none, none, none, none, none, none, none] H fun fl _ H' => Q (match fl with | .ret v => v | .next => .none) H') : GG (d + 1) 40 [v0] H Q := ⟨Nat.le_of_ble_eq_true rfl, Nat.le_of_ble_eq_true rfl, h⟩
end Mine
end

section
set_option maxRecDepth 100000
set_option linter.unusedVariables false
set_option linter.unusedSimpArgs false
namespace Mine
open PySem

noncomputable def Ext (H H' : PH) : Prop := ∀ a o, H a = some o → H' a = some o
theorem Ext.refl (H : PH) : Ext H H := fun _ _ h => h
theorem Ext.trans {H H1 H2 : PH} (x : Ext H H1) (y : Ext H1 H2) : Ext H H2 := fun a o h => y a o (x a o h)
theorem Ext.fresh {H H' : PH} {a : Nat} (x : Ext H H') (h : H' a = none) : H a = none := by
  cases q : H a with
  | none => rfl
  | some o => rw [x a o q] at h; cases h
theorem Ext.put {H H' : PH} {a : Nat} {o : PObj} (x : Ext H H') (h : H a = none) : Ext H (H'.set a o) := fun b o' e => by
  unfold PH.set
  by_cases q : b = a
  · subst q; rw [h] at e; cases e
  · rw [if_neg q]; exact x b o' e
theorem Ext.set {H : PH} {a : Nat} {o : PObj} (h : H a = none) : Ext H (H.set a o) := (Ext.refl H).put h
theorem set_eq {H : PH} {a : Nat} {o : PObj} : (H.set a o) a = some o := if_pos rfl
theorem set_ne {H : PH} {a b : Nat} {o : PObj} (h : b ≠ a) : (H.set a o) b = H b := if_neg h
theorem ne_of {H : PH} {a b : Nat} {o : PObj} (h : H a = some o) (h' : H b = none) : a ≠ b := by rintro rfl; rw [h] at h'; cases h'

/-! loops -/
theorem loopW_ix {B : Sg → PH → (Fl → Sg → PH → Prop) → Prop} {a : Option (Nat × PObj)} {x : Nat} {Q : Fl → Sg → PH → Prop} (xs : List PV) (I : Nat → Sg → PH → Prop)
    (step : ∀ i (h : i < xs.length) σ H, I i σ H → ∀ Q' : Fl → Sg → PH → Prop, (∀ σ' H', still a H' → I (i + 1) σ' H' → Q' .next σ' H') → (∀ u σ' H', Q (.ret u) σ' H' → Q' (.ret u) σ' H') → B (st σ x xs[i]) H Q')
    (fin : ∀ σ H, I xs.length σ H → Q .next σ H) {σ : Sg} {H : PH} (h0 : I 0 σ H) : loopW B a x xs σ H Q := by
  have gen : ∀ n i σ H, i + n = xs.length → I i σ H → loopW B a x (xs.drop i) σ H Q := by
    intro n
    induction n with
    | zero =>
      intro i σ H e hI
      have e : i = xs.length := by omega
      subst e
      rw [List.drop_length]
      exact fin σ H hI
    | succ n ih =>
      intro i σ H e hI
      have hi : i < xs.length := by omega
      rw [List.drop_eq_getElem_cons hi]
      exact step i hi σ H hI _ (fun σ' H' hs hI' => ⟨hs, ih (i + 1) σ' H' (by omega) hI'⟩) fun u σ' H' q => q
  have := gen xs.length 0 σ H (by omega) h0
  rwa [List.drop_zero] at this

theorem compW_ix {C : Sg → PH → (Bool → PH → Prop) → Prop} {B : Sg → PH → (PV → PH → Prop) → Prop} {a : Option (Nat × PObj)} {x : Nat} {σ : Sg} {Q : List PV → PH → Prop} (xs : List PV) (hb : xs.length ≤ big) (I : Nat → List PV → PH → Prop)
    (hC : ∀ σ H (R : Bool → PH → Prop), R true H → C σ H R)
    (step : ∀ i (h : i < xs.length) acc H, I i acc H → ∀ R : PV → PH → Prop, (∀ u H', still a H' → I (i + 1) (acc ++ [u]) H' → R u H') → B (st σ x xs[i]) H R)
    (fin : ∀ acc H, I xs.length acc H → Q acc H) {H : PH} (h0 : I 0 [] H) : compW C B a x σ xs [] H Q := by
  have gen : ∀ n i acc H, i + n = xs.length → acc.length ≤ i → I i acc H → compW C B a x σ (xs.drop i) acc H Q := by
    intro n
    induction n with
    | zero =>
      intro i acc H e _ hI
      have e : i = xs.length := by omega
      subst e
      rw [List.drop_length]
      exact fin acc H hI
    | succ n ih =>
      intro i acc H e hl hI
      have hi : i < xs.length := by omega
      rw [List.drop_eq_getElem_cons hi]
      exact hC _ _ _ (step i hi acc H hI _ fun u H' hs hI' => ⟨hs, by unfold big at *; omega, ih (i + 1) _ H' (by omega) (by simp; omega) hI'⟩)
  have := gen xs.length 0 [] H (by omega) (Nat.le_refl _) h0
  rwa [List.drop_zero] at this

theorem compW_fm {C : Sg → PH → (Bool → PH → Prop) → Prop} {B : Sg → PH → (PV → PH → Prop) → Prop} {a : Option (Nat × PObj)} {x : Nat} {σ : Sg} {Q : List PV → PH → Prop} (xs : List PV) (hb : xs.length ≤ big) (f : PV → Option PV) (J : PH → Prop) (hs : ∀ H, J H → still a H)
    (hc : ∀ v ∈ xs, ∀ H, J H → ∀ R : Bool → PH → Prop, (∀ H', J H' → R (f v).isSome H') → C (st σ x v) H R)
    (he : ∀ v ∈ xs, ∀ u, f v = some u → ∀ H, J H → ∀ R : PV → PH → Prop, (∀ H', J H' → R u H') → B (st σ x v) H R)
    (fin : ∀ H, J H → Q (xs.filterMap f) H) {H : PH} (hJ : J H) : compW C B a x σ xs [] H Q := by
  have gen : ∀ ys : List PV, (∀ v ∈ ys, v ∈ xs) → ∀ acc H, acc.length + ys.length ≤ xs.length → J H → (∀ H, J H → Q (acc ++ ys.filterMap f) H) → compW C B a x σ ys acc H Q := by
    intro ys
    induction ys with
    | nil => intro _ acc H _ hJ fin; have := fin H hJ; rwa [List.filterMap_nil, List.append_nil] at this
    | cons y ys ih =>
      intro hm acc H hl hJ fin
      rw [List.length_cons] at hl
      refine hc y (hm y List.mem_cons_self) H hJ _ fun H1 h1 => ?_
      cases hf : f y with
      | none =>
        exact ⟨hs H1 h1, ih (fun v h => hm v (List.mem_cons_of_mem _ h)) acc H1 (by omega) h1 fun H2 h2 => by have := fin H2 h2; rwa [List.filterMap_cons, hf] at this⟩
      | some u =>
        refine he y (hm y List.mem_cons_self) u hf H1 h1 _ fun H2 h2 => ⟨hs H2 h2, by unfold big at *; omega, ih (fun v h => hm v (List.mem_cons_of_mem _ h)) (acc ++ [u]) H2 (by rw [List.length_append, List.length_singleton]; omega) h2 fun H3 h3 => ?_⟩
        have := fin H3 h3
        rw [List.filterMap_cons, hf] at this
        rw [List.append_assoc]; exact this
  exact gen xs (fun _ h => h) [] H (by simp) hJ fun H h => by rw [List.nil_append]; exact fin H h

theorem dcompW_fm {C : Sg → PH → (Bool → PH → Prop) → Prop} {K V : Sg → PH → (PV → PH → Prop) → Prop} {a : Option (Nat × PObj)} {x : Nat} {σ : Sg} {Q : List (Str × PV) → PH → Prop} (xs : List PV) (hb : xs.length ≤ big) (f : PV → Option (Str × PV)) (J : PH → Prop) (hs : ∀ H, J H → still a H)
    (hc : ∀ v ∈ xs, ∀ H, J H → ∀ R : Bool → PH → Prop, (∀ H', J H' → R (f v).isSome H') → C (st σ x v) H R)
    (hk : ∀ v ∈ xs, ∀ u, f v = some u → ∀ H, J H → ∀ R : PV → PH → Prop, (∀ H', J H' → R (.str u.1) H') → K (st σ x v) H R)
    (hv : ∀ v ∈ xs, ∀ u, f v = some u → ∀ H, J H → ∀ R : PV → PH → Prop, (∀ H', J H' → R u.2 H') → V (st σ x v) H R)
    (fin : ∀ H, J H → Q ((xs.filterMap f).foldl (fun acc u => sto acc u.1 u.2) []) H) {H : PH} (hJ : J H) : dcompW C K V a x σ xs [] H Q := by
  have len : ∀ (acc : List (Str × PV)) k v, (sto acc k v).length ≤ acc.length + 1 := by
    intro acc k v; unfold sto; split <;> simp
  have gen : ∀ ys : List PV, (∀ v ∈ ys, v ∈ xs) → ∀ acc H, acc.length + ys.length ≤ xs.length → J H → (∀ H, J H → Q ((ys.filterMap f).foldl (fun acc u => sto acc u.1 u.2) acc) H) → dcompW C K V a x σ ys acc H Q := by
    intro ys
    induction ys with
    | nil => intro _ acc H _ hJ fin; exact fin H hJ
    | cons y ys ih =>
      intro hm acc H hl hJ fin
      rw [List.length_cons] at hl
      refine hc y (hm y List.mem_cons_self) H hJ _ fun H1 h1 => ?_
      cases hf : f y with
      | none =>
        exact ⟨hs H1 h1, ih (fun v h => hm v (List.mem_cons_of_mem _ h)) acc H1 (by omega) h1 fun H2 h2 => by have := fin H2 h2; rwa [List.filterMap_cons, hf] at this⟩
      | some u =>
        refine hk y (hm y List.mem_cons_self) u hf H1 h1 _ fun H2 h2 => hv y (hm y List.mem_cons_self) u hf H2 h2 _ fun H3 h3 => ⟨hs H3 h3, by unfold big at *; omega, ih (fun v h => hm v (List.mem_cons_of_mem _ h)) _ H3 (by have := len acc u.1 u.2; omega) h3 fun H4 h4 => ?_⟩
        have := fin H4 h4
        rw [List.filterMap_cons, hf] at this
        exact this
  exact gen xs (fun _ h => h) [] H (by simp) hJ fun H h => fin H h

/-! vectors -/
noncomputable def vec (k i a : PV) : List (Str × PV) := [("kind", k), ("items", i), ("attrs", a), ("shared", .bool false), ("loose", .bool false)]
noncomputable def Vec (H : PH) (r : Nat) (k : Str) (I : Nat) (a : PV) : Prop := ∃ d, H r = some (.inst d) ∧ H d = some (.flds (vec (.str k) (.ref I) a))
theorem Vec.ext {H H' : PH} {r : Nat} {k : Str} {I : Nat} {a : PV} (v : Vec H r k I a) (h : Ext H H') : Vec H' r k I a := let ⟨d, a, b⟩ := v; ⟨d, h _ _ a, h _ _ b⟩
theorem Vec.kind {H : PH} {r : Nat} {k : Str} {I : Nat} {a : PV} (v : Vec H r k I a) : attrV H (.ref r) "kind" = some (.str k) := by
  obtain ⟨d, h1, h2⟩ := v; simp only [attrV, h1, h2]; rfl
theorem Vec.items {H : PH} {r : Nat} {k : Str} {I : Nat} {a : PV} (v : Vec H r k I a) : attrV H (.ref r) "items" = some (.ref I) := by
  obtain ⟨d, h1, h2⟩ := v; simp only [attrV, h1, h2]; rfl
theorem Vec.attrs {H : PH} {r : Nat} {k : Str} {I : Nat} {a : PV} (v : Vec H r k I a) : attrV H (.ref r) "attrs" = some a := by
  obtain ⟨d, h1, h2⟩ := v; simp only [attrV, h1, h2]; rfl

inductive Kd : Str → Prop
  | int : Kd "integer"
  | log : Kd "logical"
  | chr : Kd "character"
end Mine
end

section
set_option maxRecDepth 100000
set_option linter.unusedVariables false
set_option linter.unusedSimpArgs false
namespace Mine
open PySem

theorem kd_ne {k : Str} (h : Kd k) : (k = "double") = False ∧ (k = "NULL") = False ∧ (k = "language") = False ∧ (k = "environment") = False ∧ (k = "dots") = False := by
  cases h <;> refine ⟨?_, ?_, ?_, ?_, ?_⟩ <;> exact eq_false (by decide)
theorem kd_in {k : Str} (h : Kd k) : (PV.str k ∈ ([.str "logical", .str "integer", .str "double", .str "character"] : List PV)) := by
  cases h <;> decide

theorem s_is_lacking {d : Nat} {H : PH} {k : Str} {v : PV} {Q : PV → PH → Prop} (hk : Kd k) (h : Q (.bool (decide (v = .none))) H) : GG (d + 1) 0 [.str k, v] H Q := by
  refine u_is_lacking ?_
  simp only [b_is_lacking, WSs, WS, WE, WEs, WAnd, WOr, WCond, WSrc, optW, gt, st, tl, truthV, cmpV, eqV, (kd_ne hk).1, decide_false]
  by_cases q : v = .none
  · simp only [q, decide_true] at h ⊢; exact h
  · simp only [q, decide_false] at h ⊢; exact h

theorem s_get_attr {d : Nat} {H : PH} {r : Nat} {k : Str} {I : Nat} {a : PV} {name : Str} {Q : PV → PH → Prop} (v : Vec H r k I a) (h : match a with | .none => Q .none H | .ref A => ∃ kvs, H A = some (.dS kvs) ∧ Q ((lkp kvs name).getD .none) H | _ => False) : GG (d + 1) 16 [.ref r, .str name] H Q := by
  refine u_get_attr ?_
  simp only [b_get_attr, WSs, WS, WE, WEs, WAnd, WOr, WCond, WSrc, optW, gt, st, tl, truthV, v.attrs, cmpV]
  cases a with
  | none => simp only [decide_true]; exact h
  | ref A =>
    obtain ⟨kvs, hA, hq⟩ := h
    simp only [reduceCtorEq, decide_false, hA]
    exact ⟨⟨kvs, rfl⟩, hq⟩
  | _ => exact h.elim

theorem s_length {d : Nat} {H : PH} {r : Nat} {k : Str} {I : Nat} {a : PV} {xs : List PV} {Q : PV → PH → Prop} (hk : Kd k) (v : Vec H r k I a) (hI : H I = some (.list xs)) (hb : xs.length ≤ big) (h : Q (.int xs.length) H) : GG (d + 1) 14 [.ref r] H Q := by
  refine u_length ?_
  obtain ⟨dd, h1, h2⟩ := id v
  simp only [b_length, WSs, WS, WE, WEs, WAnd, WOr, WCond, WSrc, optW, gt, st, tl, truthV, v.kind, v.items, cmpV, eqV, (kd_ne hk).2.1, decide_false]
  refine ⟨⟨dd, h1⟩, ?_⟩
  simp only [lenV, hI, if_pos hb]
  exact h

theorem s_is_atomic {d : Nat} {H : PH} {r : Nat} {k : Str} {I : Nat} {a : PV} {Q : PV → PH → Prop} (hk : Kd k) (v : Vec H r k I a) (h : ∀ H', Ext H H' → Q (.bool true) H') : GG (d + 1) 15 [.ref r] H Q := by
  refine u_is_atomic ?_
  simp only [b_is_atomic, WSs, WS, WE, WEs, WAnd, WOr, WCond, WSrc, optW, gt, st, tl, truthV, v.kind, cmpV]
  refine ⟨by decide, fun D hD => ?_⟩
  have e : decide (PV.str k ∈ ([.str "logical", .str "integer", .str "double", .str "character"] : List PV)) = true := decide_eq_true (kd_in hk)
  simp only [inV, set_eq]
  rw [if_pos ⟨Nat.le_of_ble_eq_true rfl, rfl, rfl⟩, e]
  exact h _ (Ext.set hD)
theorem s_check_sortable {d : Nat} {H : PH} {r : Nat} {k : Str} {I : Nat} {a : PV} {Q : PV → PH → Prop} (hk : Kd k) (v : Vec H r k I a) (h : ∀ H', Ext H H' → Q .none H') : GG (d + 1) 2 [.ref r] H Q := by
  refine u_check_sortable ?_
  simp only [b_check_sortable, WSs, WS, WE, WEs, WAnd, WOr, WCond, WSrc, optW, gt, st, tl, truthV, v.kind, cmpV]
  refine ⟨by decide, fun D hD => ?_⟩
  have e : decide (PV.str k ∈ ([.str "logical", .str "integer", .str "double", .str "character"] : List PV)) = true := decide_eq_true (kd_in hk)
  simp only [inV, set_eq]
  rw [if_pos ⟨Nat.le_of_ble_eq_true rfl, rfl, rfl⟩, e]
  exact h _ (Ext.set hD)

theorem s_dim_of {d : Nat} {H : PH} {r : Nat} {k : Str} {I : Nat} {a : PV} {Q : PV → PH → Prop} (v : Vec H r k I a) (ha : a = .none ∨ ∃ A kvs, a = .ref A ∧ H A = some (.dS kvs) ∧ lkp kvs "dim" = none) (h : Q .none H) : GG (d + 2) 20 [.ref r] H Q := by
  refine u_dim_of ?_
  simp only [b_dim_of, WSs, WS, WE, WEs, WAnd, WOr, WCond, WSrc, optW, gt, st, tl, truthV]
  refine s_get_attr v ?_
  rcases ha with rfl | ⟨A, kvs, rfl, hA, hl⟩
  · simp only [cmpV, decide_true]; exact h
  · refine ⟨kvs, hA, ?_⟩
    simp only [hl, Option.getD_none, cmpV, decide_true]; exact h

theorem s_names_of {d : Nat} {H : PH} {r : Nat} {k : Str} {I : Nat} {a : PV} {Q : PV → PH → Prop} (hk : Kd k) (v : Vec H r k I a) (ha : a = .none ∨ ∃ A kvs, a = .ref A ∧ H A = some (.dS kvs) ∧ lkp kvs "dim" = none ∧ lkp kvs "names" = none) (h : Q .none H) : GG (d + 3) 19 [.ref r] H Q := by
  refine u_names_of ?_
  simp only [b_names_of, WSs, WS, WE, WEs, WAnd, WOr, WCond, WSrc, optW, gt, st, tl, truthV, v.kind, cmpV, eqV, (kd_ne hk).2.2.1, (kd_ne hk).2.2.2.1, decide_false]
  refine s_dim_of v ?_ ?_
  · rcases ha with rfl | ⟨A, kvs, rfl, hA, hl, _⟩
    · exact .inl rfl
    · exact .inr ⟨A, kvs, rfl, hA, hl⟩
  · simp only [decide_true, Bool.not_true]
    refine s_get_attr v ?_
    rcases ha with rfl | ⟨A, kvs, rfl, hA, _, hl⟩
    · simp only [decide_true]; exact h
    · refine ⟨kvs, hA, ?_⟩
      simp only [hl, Option.getD_none, cmpV, decide_true]; exact h

theorem s_named {d : Nat} {H : PH} {r : PV} {Q : PV → PH → Prop} (h : Q r H) : GG (d + 1) 13 [r, .none] H Q := by
  refine u_named ?_
  simp only [b_named, WSs, WS, WE, WEs, WAnd, WOr, WCond, WSrc, optW, gt, st, tl, truthV, cmpV, decide_true, Bool.not_true]
  exact h

theorem s_init {d : Nat} {H : PH} {x D : Nat} {k : Str} {I : Nat} {Q : PV → PH → Prop} (hx : H x = some (.inst D)) (hD : H D = some (.flds [])) (h : Q .none (H.set D (.flds (vec (.str k) (.ref I) .none)))) : GG (d + 1) 10 [.ref x, .str k, .ref I] H Q := by
  refine u_init ?_
  have hne : x ≠ D := by rintro rfl; rw [hx] at hD; cases hD
  simp only [b_init, WSs, WS, WE, WEs, WAnd, WOr, WCond, WSrc, optW, gt, st, tl, truthV, hx, hD, set_eq, set_ne hne]
  refine ⟨Nat.le_of_ble_eq_true rfl, Nat.le_of_ble_eq_true rfl, Nat.le_of_ble_eq_true rfl, Nat.le_of_ble_eq_true rfl, Nat.le_of_ble_eq_true rfl, ?_⟩
  have e : (((((H.set D (.flds (sto [] "kind" (.str k)))).set D (.flds (sto (sto [] "kind" (.str k)) "items" (.ref I)))).set D (.flds (sto (sto (sto [] "kind" (.str k)) "items" (.ref I)) "attrs" .none))).set D (.flds (sto (sto (sto (sto [] "kind" (.str k)) "items" (.ref I)) "attrs" .none) "shared" (.bool false)))).set D (.flds (sto (sto (sto (sto (sto [] "kind" (.str k)) "items" (.ref I)) "attrs" .none) "shared" (.bool false)) "loose" (.bool false)))) = H.set D (.flds (vec (.str k) (.ref I) .none)) := by
    funext b
    unfold PH.set
    by_cases q : b = D
    · subst q; simp only [if_true]; rfl
    · simp only [if_neg q]
  rw [e]; exact h

/-- a fresh vector -/
noncomputable def NewVec (H H' : PH) (r : Nat) (k : Str) (xs : List PV) : Prop := ∃ D I, H r = none ∧ H D = none ∧ H I = none ∧ H' r = some (.inst D) ∧ H' D = some (.flds (vec (.str k) (.ref I) .none)) ∧ H' I = some (.list xs)

theorem w_mk {d : Nat} {H : PH} {k : Str} {I : Nat} {xs : List PV} {Q : PV → PH → Prop} (hI : H I = some (.list xs)) (h : ∀ r D H', Ext H H' → H r = none → H D = none → H' r = some (.inst D) → H' D = some (.flds (vec (.str k) (.ref I) .none)) → Q (.ref r) H') :
    ∀ x D, H x = none → H D = none → x ≠ D → GG (d + 1) iniT [.ref x, .str k, .ref I] ((H.set D (.flds [])).set x (.inst D)) fun r H2 => r = .none ∧ Q (.ref x) H2 := by
  intro x D hx hD hne
  refine s_init (D := D) set_eq (by rw [set_ne (Ne.symm hne)]; exact set_eq) ⟨rfl, ?_⟩
  refine h x D _ (((Ext.refl H).put hD |>.put hx).put hD) hx hD ?_ set_eq
  rw [set_ne hne]; exact set_eq

theorem s_integer {d : Nat} {H : PH} {l : Nat} {xs : List PV} {Q : PV → PH → Prop} (hl : H l = some (.list xs)) (hb : xs.length ≤ big) (h : ∀ r H', Ext H H' → NewVec H H' r "integer" xs → Q (.ref r) H') : GG (d + 2) 11 [.ref l] H Q := by
  refine u_integer ?_
  simp only [b_integer, WSs, WS, WE, WEs, WAnd, WOr, WCond, WSrc, optW, gt, st, tl, truthV, itemsV, hl, if_pos hb]
  intro I hI
  refine w_mk (xs := xs) set_eq fun r D H' e hr hD h1 h2 => ?_
  have e0 := Ext.set (o := .list xs) hI
  exact h r H' (e0.trans e) ⟨D, I, e0.fresh hr, e0.fresh hD, hI, h1, h2, e _ _ set_eq⟩
theorem s_character {d : Nat} {H : PH} {l : Nat} {xs : List PV} {Q : PV → PH → Prop} (hl : H l = some (.list xs)) (hb : xs.length ≤ big) (h : ∀ r H', Ext H H' → NewVec H H' r "character" xs → Q (.ref r) H') : GG (d + 2) 12 [.ref l] H Q := by
  refine u_character ?_
  simp only [b_character, WSs, WS, WE, WEs, WAnd, WOr, WCond, WSrc, optW, gt, st, tl, truthV, itemsV, hl, if_pos hb]
  intro I hI
  refine w_mk (xs := xs) set_eq fun r D H' e hr hD h1 h2 => ?_
  have e0 := Ext.set (o := .list xs) hI
  exact h r H' (e0.trans e) ⟨D, I, e0.fresh hr, e0.fresh hD, hI, h1, h2, e _ _ set_eq⟩
end Mine
end

section
set_option maxRecDepth 100000
set_option linter.unusedVariables false
set_option linter.unusedSimpArgs false
namespace Mine
open PySem

theorem fm_map {α β : Type} (f : α → β) (xs : List α) : xs.filterMap (fun x => some (f x)) = xs.map f := by
  rw [show (fun x => some (f x)) = some ∘ f from rfl, List.filterMap_eq_map]

inductive K3 where | I | L | C
  deriving DecidableEq
noncomputable def K3.nm : K3 → Str
  | .I => "integer"
  | .L => "logical"
  | .C => "character"
theorem K3.kd : ∀ k : K3, Kd k.nm
  | .I => .int
  | .L => .log
  | .C => .chr
noncomputable def U : K3 → List PV
  | .I => [.int 12, .int 8, .int 4, .int 0, .int (-4), .int (-8), .int (-12)]
  | .L => [.int 0, .int 1]
  | .C => [.str "b", .str "", .str "ab", .str "B", .str "a", .str "10", .str "9"]
noncomputable def word : K3 → PV → PV
  | _, .none => .none
  | .C, v => v
  | .L, v => if v = .int 1 then .str "TRUE" else .str "FALSE"
  | .I, .int i => .str (Str.ofString (toString i))
  | .I, v => v
noncomputable def okV (k : K3) (v : PV) : Prop := v = .none ∨ k = .C ∨ v ∈ U k

theorem U_int : ∀ v ∈ U .I, ∃ i, v = .int i ∧ i.natAbs ≤ big := by
  intro v hv
  simp only [U, List.mem_cons, List.not_mem_nil, or_false] at hv
  rcases hv with rfl | rfl | rfl | rfl | rfl | rfl | rfl <;> exact ⟨_, rfl, Nat.le_of_ble_eq_true rfl⟩
theorem U_log : ∀ v ∈ U .L, ∃ i, v = .int i := by
  intro v hv
  simp only [U, List.mem_cons, List.not_mem_nil, or_false] at hv
  rcases hv with rfl | rfl <;> exact ⟨_, rfl⟩

theorem s_label_text {d : Nat} {H : PH} {k : K3} {v : PV} {Q : PV → PH → Prop} (hv : okV k v) (h : Q (word k v) H) : GG (d + 1) 17 [.str k.nm, v] H Q := by
  refine u_label_text ?_
  simp only [b_label_text, WSs, WS, WE, WEs, WAnd, WOr, WCond, WSrc, optW, gt, st, tl, truthV, cmpV, eqV]
  by_cases q : v = .none
  · subst q; simp only [decide_true]; cases k <;> exact h
  · rcases hv with hv | hv | hv
    · exact (q hv).elim
    · subst hv
      simp only [q, decide_false, show decide (K3.C.nm = "character") = true from rfl]
      cases v <;> first | exact h | exact (q rfl).elim
    · cases k with
      | C =>
        simp only [q, decide_false, show decide (K3.C.nm = "character") = true from rfl]
        cases v <;> first | exact h | exact (q rfl).elim
      | L =>
        obtain ⟨i, rfl⟩ := U_log v hv
        simp only [reduceCtorEq, decide_false, show decide (K3.L.nm = "character") = false from rfl, show decide (K3.L.nm = "logical") = true from rfl]
        by_cases e : i = 1
        · subst e; exact h
        · simp only [e, decide_false]
          have : word .L (.int i) = .str "FALSE" := by unfold word; exact if_neg (fun q => e (PV.int.inj q))
          rw [this] at h; exact h
      | I =>
        obtain ⟨i, rfl, hb⟩ := U_int v hv
        simp only [reduceCtorEq, decide_false, show decide (K3.I.nm = "character") = false from rfl, show decide (K3.I.nm = "logical") = false from rfl, show decide (K3.I.nm = "integer") = true from rfl]
        exact ⟨hb, h⟩

theorem s_label_texts {d : Nat} {H : PH} {r : Nat} {k : K3} {I : Nat} {xs : List PV} {Q : PV → PH → Prop} (v : Vec H r k.nm I .none) (hI : H I = some (.list xs)) (hb : xs.length ≤ big) (hx : ∀ x ∈ xs, okV k x)
    (h : ∀ l H', Ext H H' → H l = none → H' l = some (.list (xs.map (word k))) → Q (.ref l) H') : GG (d + 2) 18 [.ref r] H Q := by
  refine u_label_texts ?_
  simp only [b_label_texts, WSs, WS, WE, WEs, WAnd, WOr, WCond, WSrc, optW, gt, st, tl, truthV]
  refine s_get_attr v ?_
  simp only [WSs, WS, WE, WEs, WAnd, WOr, WCond, WSrc, optW, gt, st, tl, truthV, cmpV, binV, reduceCtorEq, decide_true, decide_false, Bool.not_true, Bool.not_false, v.items, hI]
  refine ⟨hb, ?_⟩
  refine compW_fm xs hb (fun x => some (word k x)) (· = H) (fun H' e => by rw [e]; exact hI) (fun x _ H' e R hR => hR H' e) (fun x hm u hu H' e R hR => ?_) (fun H' e => ?_) rfl
  · subst e
    simp only [Option.some.injEq] at hu
    subst hu
    simp only [WSs, WS, WE, WEs, WAnd, WOr, WCond, WSrc, optW, gt, st, tl, truthV, cmpV, binV, reduceCtorEq, decide_true, decide_false, Bool.not_true, Bool.not_false, v.kind]
    exact s_label_text (hx x hm) (hR _ rfl)
  · subst e
    rw [fm_map]
    intro D hD
    exact h D _ (Ext.set hD) hD set_eq

theorem s_item_texts {d : Nat} {H : PH} {r : Nat} {k : K3} {I : Nat} {xs : List PV} {Q : PV → PH → Prop} (v : Vec H r k.nm I .none) (hI : H I = some (.list xs)) (hb : xs.length ≤ big) (hx : ∀ x ∈ xs, okV k x)
    (h : ∀ l H', Ext H H' → H l = none → H' l = some (.list (xs.map (word k))) → Q (.ref l) H') : GG (d + 3) 32 [.ref r] H Q := by
  refine u_item_texts ?_
  simp only [b_item_texts, WSs, WS, WE, WEs, WAnd, WOr, WCond, WSrc, optW, gt, st, tl, truthV, v.kind, cmpV, eqV, (kd_ne k.kd).2.1, decide_false]
  refine s_is_atomic k.kd v fun H1 e1 => ?_
  simp only [WSs, WS, WE, WEs, WAnd, WOr, WCond, WSrc, optW, gt, st, tl, truthV, cmpV, binV, reduceCtorEq, decide_true, decide_false, Bool.not_true, Bool.not_false]
  exact s_label_texts (v.ext e1) (e1 _ _ hI) hb hx fun l H' e hl hl' => h l H' (e1.trans e) (e1.fresh hl) hl'

/-! factors -/
structure Fac (H : PH) (r : Nat) (cs : List PV) (L : List Str) : Prop where
  ex : ∃ I A lv LI cv CI, Vec H r "integer" I (.ref A) ∧ H I = some (.list cs) ∧ H A = some (.dS [("levels", .ref lv), ("class", .ref cv)]) ∧ Vec H lv "character" LI .none ∧ H LI = some (.list (L.map .str)) ∧ Vec H cv "character" CI .none ∧ H CI = some (.list [.str "factor"])
theorem Fac.ext {H H' : PH} {r : Nat} {cs : List PV} {L : List Str} (f : Fac H r cs L) (e : Ext H H') : Fac H' r cs L :=
  let ⟨I, A, lv, LI, cv, CI, a1, a2, a3, a4, a5, a6, a7⟩ := f.ex
  ⟨I, A, lv, LI, cv, CI, a1.ext e, e _ _ a2, e _ _ a3, a4.ext e, e _ _ a5, a6.ext e, e _ _ a7⟩

theorem s_class_none {d : Nat} {H : PH} {r : Nat} {k : Str} {I : Nat} {Q : PV → PH → Prop} (v : Vec H r k I .none) (h : ∀ l H', Ext H H' → H' l = some (.list []) → Q (.ref l) H') : GG (d + 2) 21 [.ref r] H Q := by
  refine u_class_attr ?_
  simp only [b_class_attr, WSs, WS, WE, WEs, WAnd, WOr, WCond, WSrc, optW, gt, st, tl, truthV]
  refine s_get_attr v ?_
  simp only [WSs, WS, WE, WEs, WAnd, WOr, WCond, WSrc, optW, gt, st, tl, truthV, cmpV, binV, reduceCtorEq, decide_true, decide_false, Bool.not_true, Bool.not_false]
  exact ⟨Nat.zero_le _, fun D hD => h D _ (Ext.set hD) set_eq⟩
theorem s_class_fac {d : Nat} {H : PH} {r : Nat} {cs : List PV} {L : List Str} {Q : PV → PH → Prop} (f : Fac H r cs L) (h : ∀ l H', Ext H H' → H' l = some (.list [.str "factor"]) → Q (.ref l) H') : GG (d + 2) 21 [.ref r] H Q := by
  obtain ⟨I, A, lv, LI, cv, CI, a1, a2, a3, a4, a5, a6, a7⟩ := f.ex
  refine u_class_attr ?_
  simp only [b_class_attr, WSs, WS, WE, WEs, WAnd, WOr, WCond, WSrc, optW, gt, st, tl, truthV]
  refine s_get_attr a1 ⟨_, a3, ?_⟩
  simp only [show lkp [(("levels" : Str), PV.ref lv), ("class", .ref cv)] "class" = some (.ref cv) from rfl, Option.getD_some, WSs, WS, WE, WEs, WAnd, WOr, WCond, WSrc, optW, gt, st, tl, truthV, cmpV, binV, reduceCtorEq, decide_true, decide_false, Bool.not_true, Bool.not_false, a6.items, itemsV, a7]
  rw [if_pos (Nat.le_of_ble_eq_true rfl)]
  exact fun D hD => h D _ (Ext.set hD) set_eq

theorem s_is_factor_plain {d : Nat} {H : PH} {r : Nat} {k : Str} {I : Nat} {Q : PV → PH → Prop} (v : Vec H r k I .none) (h : ∀ H', Ext H H' → Q (.bool false) H') : GG (d + 3) 22 [.ref r] H Q := by
  refine u_is_factor ?_
  simp only [b_is_factor, WSs, WS, WE, WEs, WAnd, WOr, WCond, WSrc, optW, gt, st, tl, truthV, v.kind, cmpV, eqV]
  by_cases q : k = "integer"
  · simp only [q, decide_true]
    refine s_class_none v fun l H' e hl => ?_
    simp only [inV, hl]
    rw [if_pos ⟨Nat.zero_le _, rfl, rfl⟩]
    exact h H' e
  · simp only [q, decide_false]
    exact h H (Ext.refl H)
theorem s_is_factor_fac {d : Nat} {H : PH} {r : Nat} {cs : List PV} {L : List Str} {Q : PV → PH → Prop} (f : Fac H r cs L) (h : ∀ H', Ext H H' → Q (.bool true) H') : GG (d + 3) 22 [.ref r] H Q := by
  obtain ⟨I, A, lv, LI, cv, CI, a1, a2, a3, a4, a5, a6, a7⟩ := id f.ex
  refine u_is_factor ?_
  simp only [b_is_factor, WSs, WS, WE, WEs, WAnd, WOr, WCond, WSrc, optW, gt, st, tl, truthV, a1.kind, cmpV, eqV, decide_true]
  refine s_class_fac f fun l H' e hl => ?_
  simp only [inV, hl]
  rw [if_pos ⟨Nat.le_of_ble_eq_true rfl, rfl, rfl⟩]
  exact h H' e
theorem s_is_ordered {d : Nat} {H : PH} {r : Nat} {cs : List PV} {L : List Str} {Q : PV → PH → Prop} (f : Fac H r cs L) (h : ∀ H', Ext H H' → Q (.bool false) H') : GG (d + 4) 23 [.ref r] H Q := by
  refine u_is_ordered ?_
  simp only [b_is_ordered, WSs, WS, WE, WEs, WAnd, WOr, WCond, WSrc, optW, gt, st, tl, truthV]
  refine s_is_factor_fac f fun H1 e1 => ?_
  simp only [WSs, WS, WE, WEs, WAnd, WOr, WCond, WSrc, optW, gt, st, tl, truthV, cmpV, binV, reduceCtorEq, decide_true, decide_false, Bool.not_true, Bool.not_false]
  refine s_class_fac (f.ext e1) fun l H' e hl => ?_
  simp only [cmpV, inV, hl]
  rw [if_pos ⟨Nat.le_of_ble_eq_true rfl, rfl, rfl⟩]
  exact h H' (e1.trans e)

theorem map_str_ok {L : List Str} : ∀ x ∈ L.map PV.str, okV .C x := fun _ _ => .inr (.inl rfl)
theorem map_word_C : ∀ (xs : List PV), xs.map (word .C) = xs
  | [] => rfl
  | x :: xs => by rw [List.map_cons, map_word_C xs]; cases x <;> rfl

theorem s_level_texts {d : Nat} {H : PH} {r : Nat} {cs : List PV} {L : List Str} {Q : PV → PH → Prop} (f : Fac H r cs L) (hL : L.length ≤ big) (h : ∀ l H', Ext H H' → H l = none → H' l = some (.list (L.map .str)) → Q (.ref l) H') : GG (d + 3) 24 [.ref r] H Q := by
  obtain ⟨I, A, lv, LI, cv, CI, a1, a2, a3, a4, a5, a6, a7⟩ := id f.ex
  refine u_level_texts ?_
  simp only [b_level_texts, WSs, WS, WE, WEs, WAnd, WOr, WCond, WSrc, optW, gt, st, tl, truthV]
  refine s_get_attr a1 ⟨_, a3, ?_⟩
  simp only [show lkp [(("levels" : Str), PV.ref lv), ("class", .ref cv)] "levels" = some (.ref lv) from rfl, Option.getD_some, WSs, WS, WE, WEs, WAnd, WOr, WCond, WSrc, optW, gt, st, tl, truthV, cmpV, binV, reduceCtorEq, decide_true, decide_false, Bool.not_true, Bool.not_false]
  refine s_is_atomic .chr a4 fun H1 e1 => ?_
  simp only [WSs, WS, WE, WEs, WAnd, WOr, WCond, WSrc, optW, gt, st, tl, truthV, cmpV, binV, reduceCtorEq, decide_true, decide_false, Bool.not_true, Bool.not_false]
  refine s_label_texts (k := .C) (a4.ext e1) (e1 _ _ a5) (by simpa using hL) map_str_ok fun l H2 e2 hl hl' => ?_
  rw [map_word_C] at hl'
  simp only [hl']
  refine ⟨by simpa using hL, ?_⟩
  refine compW_fm _ (by simpa using hL) some (· = H2) (fun H' e => by rw [e]; exact hl') (fun x _ H' e R hR => hR H' e) (fun x hm u hu H' e R hR => ?_) (fun H' e => ?_) rfl
  · cases hu
    obtain ⟨s, _, rfl⟩ := List.mem_map.mp hm
    simp only [WSs, WS, WE, WEs, WAnd, WOr, WCond, WSrc, optW, gt, st, tl, truthV, cmpV, binV, reduceCtorEq, decide_true, decide_false, Bool.not_true, Bool.not_false]
    exact hR H' e
  · subst e
    rw [List.filterMap_some]
    intro D hD
    exact h D _ ((e1.trans e2).put ((e1.trans e2).fresh hD)) ((e1.trans e2).fresh hD) set_eq

noncomputable def okC (L : List Str) (c : PV) : Prop := c = .none ∨ ∃ n : Int, c = .int n ∧ 1 ≤ n ∧ n ≤ L.length

theorem s_codes_in {d : Nat} {H : PH} {r : Nat} {cs : List PV} {L : List Str} {Q : PV → PH → Prop} (f : Fac H r cs L) (hL : L.length ≤ big) (hc : cs.length ≤ big) (ok : ∀ c ∈ cs, okC L c) (h : ∀ l H', Ext H H' → H l = none → H' l = some (.list cs) → Q (.ref l) H') : GG (d + 4) 25 [.ref r] H Q := by
  refine u_codes_in ?_
  simp only [b_codes_in, WSs, WS, WE, WEs, WAnd, WOr, WCond, WSrc, optW, gt, st, tl, truthV]
  refine s_level_texts f hL fun l H1 e1 hl hl' => ?_
  obtain ⟨I, A, lv, LI, cv, CI, a1, a2, a3, a4, a5, a6, a7⟩ := (f.ext e1).ex
  simp only [lenV, hl', List.length_map, if_pos hL, a1.items, a2]
  refine ⟨hc, ?_⟩
  refine compW_fm _ hc some (· = H1) (fun H' e => by rw [e]; exact a2) (fun x _ H' e R hR => hR H' e) (fun x hm u hu H' e R hR => ?_) (fun H' e => ?_) rfl
  · cases hu
    rcases ok x hm with rfl | ⟨n, rfl, n1, n2⟩
    · simp only [WSs, WS, WE, WEs, WAnd, WOr, WCond, WSrc, optW, gt, st, tl, truthV, cmpV, binV, reduceCtorEq, decide_true, decide_false, Bool.not_true, Bool.not_false]; exact hR H' e
    · simp only [WSs, WS, WE, WEs, WAnd, WOr, WCond, WSrc, optW, gt, st, tl, truthV, cmpV, binV, reduceCtorEq, decide_true, decide_false, Bool.not_true, Bool.not_false, n1, n2]; exact hR H' e
  · subst e
    rw [List.filterMap_some]
    intro D hD
    exact h D _ (e1.put (e1.fresh hD)) (e1.fresh hD) set_eq

noncomputable def tx (L : List Str) : PV → PV
  | .int n => .str (L.getD (n - 1).toNat "")
  | _ => .none

theorem s_factor_texts {d : Nat} {H : PH} {r : Nat} {cs : List PV} {L : List Str} {Q : PV → PH → Prop} (f : Fac H r cs L) (hL : L.length ≤ big) (hc : cs.length ≤ big) (ok : ∀ c ∈ cs, okC L c) (h : ∀ l H', Ext H H' → H l = none → H' l = some (.list (cs.map (tx L))) → Q (.ref l) H') : GG (d + 5) 26 [.ref r] H Q := by
  refine u_factor_texts ?_
  simp only [b_factor_texts, WSs, WS, WE, WEs, WAnd, WOr, WCond, WSrc, optW, gt, st, tl, truthV]
  refine s_level_texts f hL fun l H1 e1 hl hl' => ?_
  refine s_codes_in (f.ext e1) hL hc ok fun l2 H2 e2 hl2 hl2' => ?_
  simp only [hl2']
  refine ⟨hc, ?_⟩
  refine compW_fm _ hc (fun c => some (tx L c)) (· = H2) (fun H' e => by rw [e]; exact hl2') (fun x _ H' e R hR => hR H' e) (fun x hm u hu H' e R hR => ?_) (fun H' e => ?_) rfl
  · cases hu
    rcases ok x hm with rfl | ⟨n, rfl, n1, n2⟩
    · simp only [WSs, WS, WE, WEs, WAnd, WOr, WCond, WSrc, optW, gt, st, tl, truthV, cmpV, binV, reduceCtorEq, decide_true, decide_false, Bool.not_true, Bool.not_false]; exact hR H' e
    · subst e
      have hlt : (n - 1).toNat < L.length := by omega
      simp only [WSs, WS, WE, WEs, WAnd, WOr, WCond, WSrc, optW, gt, st, tl, truthV, cmpV, binV, reduceCtorEq, decide_true, decide_false, Bool.not_true, Bool.not_false, binV, idxV, e2 _ _ hl', atV, List.length_map, if_pos hL, if_pos (show (0 : Int) ≤ n - 1 by omega), List.getElem?_map, List.getElem?_eq_getElem hlt, Option.map_some]
      have : tx L (.int n) = .str (L[(n - 1).toNat]) := by simp only [tx, List.getD, List.getElem?_eq_getElem hlt, Option.getD_some]
      rw [← this]; exact hR _ rfl
  · subst e
    rw [fm_map]
    intro D hD
    exact h D _ ((e1.trans e2).put ((e1.trans e2).fresh hD)) ((e1.trans e2).fresh hD) set_eq
end Mine
end

section
set_option maxRecDepth 100000
set_option linter.unusedVariables false
set_option linter.unusedSimpArgs false
namespace Mine
open PySem

theorem lkp_sto_ {K : Type} [DecidableEq K] (fs : List (K × PV)) (n : K) (v : PV) (k : K) : lkp (sto fs n v) k = if k = n then some v else lkp fs k := by
  unfold sto
  by_cases q : (fs.any fun x => decide (x.1 = n)) = true
  · rw [if_pos q]
    unfold lkp
    by_cases e : k = n
    · subst e
      rw [if_pos rfl]
      induction fs with
      | nil => simp at q
      | cons y ys ih =>
        rw [List.map_cons, List.find?_cons]
        by_cases h : y.1 = k
        · simp [h]
        · simp only [h, if_false, decide_false]
          rw [List.any_cons] at q
          simp only [h, decide_false, Bool.false_or] at q
          simpa [h] using ih q
    · rw [if_neg e]
      clear q
      induction fs with
      | nil => rfl
      | cons y ys ih =>
        rw [List.map_cons, List.find?_cons, List.find?_cons]
        by_cases h : y.1 = n
        · have : ¬ n = k := fun h' => e h'.symm
          simp only [h, if_true, this, decide_false]
          exact ih
        · by_cases h2 : y.1 = k
          · rw [if_neg h]; simp [h2]
          · rw [if_neg h]; simp only [h2, decide_false]
            exact ih
  · rw [if_neg q]
    unfold lkp
    rw [List.find?_append]
    by_cases e : k = n
    · subst e
      rw [if_pos rfl]
      have : fs.find? (fun kv => decide (kv.1 = k)) = none := by
        rw [List.find?_eq_none]
        intro x hx h
        exact q (List.any_eq_true.mpr ⟨x, hx, h⟩)
      rw [this]; simp
    · rw [if_neg e]
      have : ¬ n = k := fun h' => e h'.symm
      cases hf : fs.find? (fun kv => decide (kv.1 = k)) with
      | some x => rfl
      | none => simp [this]


theorem sto_len_ {K : Type} [DecidableEq K] (fs : List (K × PV)) (n : K) (v : PV) : (sto fs n v).length = if (lkp fs n).isSome then fs.length else fs.length + 1 := by
  unfold sto lkp
  by_cases q : (fs.any fun x => decide (x.1 = n)) = true
  · rw [if_pos q]
    have : (fs.find? fun x => decide (x.1 = n)).isSome = true := by
      rw [List.find?_isSome]; obtain ⟨x, h1, h2⟩ := List.any_eq_true.mp q; exact ⟨x, h1, h2⟩
    rw [Option.isSome_map, this, List.length_map]; rfl
  · rw [if_neg q]
    have : (fs.find? fun x => decide (x.1 = n)).isSome = false := by
      cases h : (fs.find? fun x => decide (x.1 = n)).isSome with
      | false => rfl
      | true => rw [List.find?_isSome] at h; obtain ⟨x, h1, h2⟩ := h; exact (q (List.any_eq_true.mpr ⟨x, h1, h2⟩)).elim
    rw [Option.isSome_map, this, List.length_append]; rfl


noncomputable def ins (ks : List Str) (s : Str) : List Str := if s ∈ ks then ks else ks ++ [s]
noncomputable def ddS (ks : List Str) (v : PV) : List Str := match v with | .str s => ins ks s | _ => ks
noncomputable def dd (xs : List PV) : List Str := xs.foldl ddS []
theorem dd_snoc (xs : List PV) (v : PV) : dd (xs ++ [v]) = ddS (dd xs) v := by unfold dd; rw [List.foldl_append]; rfl
theorem sto_keys {K : Type} [DecidableEq K] (kvs : List (K × PV)) (k : K) (v : PV) : (sto kvs k v).map (·.1) = if k ∈ kvs.map (·.1) then kvs.map (·.1) else kvs.map (·.1) ++ [k] := by
  unfold sto
  by_cases q : k ∈ kvs.map (·.1)
  · rw [if_pos q, if_pos ?_]
    · rw [List.map_map]
      refine List.map_congr_left fun x _ => ?_
      dsimp only [Function.comp]
      split <;> rfl
    · obtain ⟨x, hx, e⟩ := List.mem_map.mp q
      exact List.any_eq_true.mpr ⟨x, hx, by simpa using e⟩
  · rw [if_neg q, if_neg ?_]
    · rw [List.map_append]; rfl
    · intro h
      obtain ⟨x, hx, e⟩ := List.any_eq_true.mp h
      exact q (List.mem_map.mpr ⟨x, hx, by simpa using e⟩)
theorem lkp_some_iff {K : Type} [DecidableEq K] (kvs : List (K × PV)) (k : K) : (lkp kvs k).isSome = decide (k ∈ kvs.map (·.1)) := by
  unfold lkp
  rw [Option.isSome_map, Bool.eq_iff_iff, decide_eq_true_iff, List.find?_isSome]
  constructor
  · rintro ⟨x, hx, e⟩; exact List.mem_map.mpr ⟨x, hx, by simpa using e⟩
  · intro h; obtain ⟨x, hx, e⟩ := List.mem_map.mp h; exact ⟨x, hx, by simpa using e⟩
theorem take_succ_get {α : Type} (xs : List α) (i : Nat) (h : i < xs.length) : xs.take (i + 1) = xs.take i ++ [xs[i]] := by
  rw [List.take_add_one, List.getElem?_eq_getElem h]; rfl

theorem s_factor_class {d : Nat} {H : PH} {Q : PV → PH → Prop} (h : ∀ r H', Ext H H' → NewVec H H' r "character" [.str "factor"] → Q (.ref r) H') : GG (d + 3) 27 [.bool false] H Q := by
  refine u_factor_class ?_
  simp only [b_factor_class, WSs, WS, WE, WEs, WAnd, WOr, WCond, WSrc, optW, gt, st, tl, truthV, cmpV, binV, reduceCtorEq, decide_true, decide_false, Bool.not_true, Bool.not_false]
  refine ⟨Nat.le_of_ble_eq_true rfl, fun l hl => ?_⟩
  have e0 := Ext.set (o := .list [PV.str "factor"]) hl
  refine s_character set_eq (Nat.le_of_ble_eq_true rfl) fun r H' e n => ?_
  obtain ⟨D, I, n1, n2, n3, n4, n5, n6⟩ := n
  exact h r H' (e0.trans e) ⟨D, I, e0.fresh n1, e0.fresh n2, e0.fresh n3, n4, n5, n6⟩

theorem NewVec.vec {H H' : PH} {r : Nat} {k : Str} {xs : List PV} (n : NewVec H H' r k xs) : ∃ I, Vec H' r k I .none ∧ H' I = some (.list xs) := let ⟨D, I, n1, n2, n3, n4, n5, n6⟩ := n; ⟨I, ⟨D, n4, n5⟩, n6⟩

theorem s_with_levels {d : Nat} {H0 H : PH} {r D I t : Nat} {cs : List PV} {L : List Str} {Q : PV → PH → Prop} (e0 : Ext H0 H) (fD : H0 D = none) (hr : H r = some (.inst D)) (hD : H D = some (.flds (vec (.str "integer") (.ref I) .none))) (hI : H I = some (.list cs)) (ht : H t = some (.list (L.map .str))) (hL : L.length ≤ big)
    (h : ∀ H', Ext H0 H' → Fac H' r cs L → Q (.ref r) H') : GG (d + 4) 28 [.ref r, .ref t, .bool false] H Q := by
  refine u_with_levels ?_
  have nDr : r ≠ D := by rintro rfl; rw [hr] at hD; cases hD
  have nDI : I ≠ D := by rintro rfl; rw [hI] at hD; cases hD
  have nDt : t ≠ D := by rintro rfl; rw [ht] at hD; cases hD
  simp only [b_with_levels, WSs, WS, WE, WEs, WAnd, WOr, WCond, WSrc, optW, gt, st, tl, truthV, cmpV, binV, reduceCtorEq, decide_true, decide_false, Bool.not_true, Bool.not_false, (show Vec H r "integer" I .none from ⟨D, hr, hD⟩).attrs]
  intro A hA
  have nA : ∀ {b o}, H b = some o → b ≠ A := fun e => ne_of e hA
  simp only [set_ne (nA hr), hr, set_ne (nA hD), hD]
  refine ⟨Nat.le_of_ble_eq_true rfl, ?_⟩
  have ev : sto (vec (.str "integer") (.ref I) .none) "attrs" (.ref A) = vec (.str "integer") (.ref I) (.ref A) := rfl
  rw [ev]
  generalize hH1 : ((H.set A (.dS [])).set D (.flds (vec (.str "integer") (.ref I) (.ref A)))) = H1
  have fA : H0 A = none := e0.fresh hA
  have e1 : Ext H0 H1 := by subst hH1; exact (e0.put fA).put fD
  have nAD : A ≠ D := (nA hD).symm
  have r1 : H1 r = some (.inst D) := by subst hH1; rw [set_ne nDr, set_ne (nA hr)]; exact hr
  have D1 : H1 D = some (.flds (vec (.str "integer") (.ref I) (.ref A))) := by subst hH1; exact set_eq
  have A1 : H1 A = some (.dS []) := by subst hH1; rw [set_ne nAD]; exact set_eq
  have I1 : H1 I = some (.list cs) := by subst hH1; rw [set_ne nDI, set_ne (nA hI)]; exact hI
  have t1 : H1 t = some (.list (L.map .str)) := by subst hH1; rw [set_ne nDt, set_ne (nA ht)]; exact ht
  refine s_character t1 (by simpa using hL) fun lv H2 e2 nv => ?_
  obtain ⟨Dv, LI, v1, v2, v3, v4, v5, v6⟩ := nv
  have A2 := e2 _ _ A1
  simp only [WSs, WS, WE, WEs, WAnd, WOr, WCond, WSrc, optW, gt, st, tl, truthV, cmpV, binV, reduceCtorEq, decide_true, decide_false, Bool.not_true, Bool.not_false, (show Vec H2 r "integer" I (.ref A) from ⟨D, e2 _ _ r1, e2 _ _ D1⟩).attrs, A2]
  refine ⟨Nat.zero_le _, ?_⟩
  have hs : sto ([] : List (Str × PV)) "levels" (.ref lv) = [(("levels" : Str), PV.ref lv)] := rfl
  rw [hs]
  generalize hH3 : H2.set A (.dS [(("levels" : Str), PV.ref lv)]) = H3
  have e02 := e1.trans e2
  have e3 : Ext H0 H3 := by subst hH3; exact e02.put fA
  have n_r : r ≠ A := by rintro rfl; rw [r1] at A1; cases A1
  have n_D : D ≠ A := by rintro rfl; rw [D1] at A1; cases A1
  have n_I : I ≠ A := by rintro rfl; rw [I1] at A1; cases A1
  have n_lv : lv ≠ A := by rintro rfl; rw [A1] at v1; cases v1
  have n_Dv : Dv ≠ A := by rintro rfl; rw [A1] at v2; cases v2
  have n_LI : LI ≠ A := by rintro rfl; rw [A1] at v3; cases v3
  have k3 : ∀ {b o}, b ≠ A → H2 b = some o → H3 b = some o := fun n e => by subst hH3; rw [set_ne n]; exact e
  have A3 : H3 A = some (.dS [(("levels" : Str), PV.ref lv)]) := by subst hH3; exact set_eq
  refine s_factor_class fun cv H4 e4 nc => ?_
  obtain ⟨Dc, CI, c1, c2, c3, c4, c5, c6⟩ := nc
  simp only [WSs, WS, WE, WEs, WAnd, WOr, WCond, WSrc, optW, gt, st, tl, truthV, cmpV, binV, reduceCtorEq, decide_true, decide_false, Bool.not_true, Bool.not_false, (show Vec H4 r "integer" I (.ref A) from ⟨D, e4 _ _ (k3 n_r (e2 _ _ r1)), e4 _ _ (k3 n_D (e2 _ _ D1))⟩).attrs, e4 _ _ A3]
  refine ⟨Nat.le_of_ble_eq_true rfl, ?_⟩
  have hs2 : sto [(("levels" : Str), PV.ref lv)] "class" (.ref cv) = [(("levels" : Str), PV.ref lv), ("class", .ref cv)] := rfl
  rw [hs2]
  have m_cv : cv ≠ A := by rintro rfl; rw [A3] at c1; cases c1
  have m_Dc : Dc ≠ A := by rintro rfl; rw [A3] at c2; cases c2
  have m_CI : CI ≠ A := by rintro rfl; rw [A3] at c3; cases c3
  have k5 : ∀ {b : Nat} {o : PObj}, b ≠ A → H4 b = some o → (H4.set A (.dS [(("levels" : Str), PV.ref lv), ("class", .ref cv)])) b = some o := fun n e => by rw [set_ne n]; exact e
  refine h _ ((e3.trans e4).put fA) ⟨I, A, lv, LI, cv, CI, ?_, ?_, set_eq, ?_, ?_, ?_, ?_⟩
  · exact ⟨D, k5 n_r (e4 _ _ (k3 n_r (e2 _ _ r1))), k5 n_D (e4 _ _ (k3 n_D (e2 _ _ D1)))⟩
  · exact k5 n_I (e4 _ _ (k3 n_I (e2 _ _ I1)))
  · exact ⟨Dv, k5 n_lv (e4 _ _ (k3 n_lv v4)), k5 n_Dv (e4 _ _ (k3 n_Dv v5))⟩
  · exact k5 n_LI (e4 _ _ (k3 n_LI v6))
  · exact ⟨Dc, k5 m_cv c4, k5 m_Dc c5⟩
  · exact k5 m_CI c6

theorem s_distinct {d : Nat} {H : PH} {l : Nat} {xs : List PV} {Q : PV → PH → Prop} (hl : H l = some (.list xs)) (hb : xs.length ≤ big) (hx : ∀ x ∈ xs, x = .none ∨ ∃ s, x = .str s) (h : ∀ r H', Ext H H' → H r = none → H' r = some (.list ((dd xs).map .str)) → Q (.ref r) H') : GG (d + 1) 29 [.ref l] H Q := by
  refine u_distinct_texts ?_
  simp only [b_distinct_texts, WSs, WS, WE, WEs, WAnd, WOr, WCond, WSrc, optW, gt, st, tl, truthV, cmpV, binV, reduceCtorEq, decide_true, decide_false, Bool.not_true, Bool.not_false]
  intro D hD
  have nl : l ≠ D := ne_of hl hD
  simp only [set_ne nl, hl]
  refine ⟨hb, ?_⟩
  refine loopW_ix xs (fun i σ H' => (∃ o, σ = [some (.ref l), some (.ref D), o]) ∧ Ext H H' ∧ ∃ kvs, H' D = some (.dS kvs) ∧ kvs.map (·.1) = dd (xs.take i) ∧ kvs.length ≤ i) (fun i hi σ H' hI Q' kn kr => ?_) (fun σ H' hI => ?_) ⟨⟨_, rfl⟩, Ext.set hD, [], set_eq, rfl, Nat.le_refl _⟩
  · obtain ⟨⟨o, rfl⟩, e, kvs, hk, hm, hlen⟩ := hI
    rcases hx _ (List.getElem_mem hi) with q | ⟨s, q⟩
    · simp only [WSs, WS, WE, WEs, WAnd, WOr, WCond, WSrc, optW, gt, st, tl, truthV, cmpV, binV, reduceCtorEq, decide_true, decide_false, Bool.not_true, Bool.not_false, q]
      refine kn _ _ (e _ _ hl) ⟨⟨_, rfl⟩, e, kvs, hk, ?_, by omega⟩
      rw [take_succ_get xs i hi, dd_snoc, q, hm]; rfl
    · simp only [WSs, WS, WE, WEs, WAnd, WOr, WCond, WSrc, optW, gt, st, tl, truthV, cmpV, binV, reduceCtorEq, decide_true, decide_false, Bool.not_true, Bool.not_false, q, hk]
      refine ⟨by unfold big at *; omega, kn _ _ ?_ ⟨⟨_, rfl⟩, e.put hD, _, set_eq, ?_, ?_⟩⟩
      · show (H'.set D _) l = _; rw [set_ne nl]; exact e _ _ hl
      · rw [take_succ_get xs i hi, dd_snoc, q, sto_keys, hm]; rfl
      · rw [sto_len_]; split <;> omega
  · obtain ⟨⟨o, rfl⟩, e, kvs, hk, hm, hlen⟩ := hI
    simp only [WSs, WS, WE, WEs, WAnd, WOr, WCond, WSrc, optW, gt, st, tl, truthV, cmpV, binV, reduceCtorEq, decide_true, decide_false, Bool.not_true, Bool.not_false, itemsV, hk, if_pos (Nat.le_trans hlen hb)]
    intro r hr
    refine h r _ (e.put (e.fresh hr)) (e.fresh hr) ?_
    rw [set_eq, List.take_length] at *
    rw [← hm, List.map_map]; rfl
end Mine
end

section
set_option maxRecDepth 100000
set_option linter.unusedVariables false
set_option linter.unusedSimpArgs false
namespace Mine
open PySem

noncomputable def upto (n : Nat) : List PV := (List.range n).map fun (k : Nat) => PV.int k
theorem upto_len (n : Nat) : (upto n).length = n := by simp [upto]
theorem upto_get (n i : Nat) (h : i < (upto n).length) : (upto n)[i] = .int i := by simp [upto]
theorem rng1 (n : Nat) (h : n ≤ big) : rngV [.int n] = some (upto n) := by
  unfold rngV
  dsimp only
  rw [if_pos (by simpa using h)]
  congr 1
  unfold rngI upto
  have e : rngN 0 n 1 = n := by
    unfold rngN
    simp only [Int.reduceLT, if_true, gt_iff_lt]
    split
    · rw [Int.ediv_one]; omega
    · omega
  rw [e]
  refine List.map_congr_left fun k _ => ?_
  simp
theorem at_nat {xs : List PV} (hb : xs.length ≤ big) {i : Nat} (h : i < xs.length) : atV xs (i : Int) = some xs[i] := by
  unfold atV
  rw [if_pos hb, if_pos (Int.natCast_nonneg i), Int.toNat_natCast, List.getElem?_eq_getElem h]

noncomputable def code (L : List Str) : PV → PV
  | .str s => if s ∈ L then .int (L.idxOf s + 1) else .none
  | _ => .none

theorem code_mem {L : List Str} {s : Str} (h : s ∈ L) : code L (.str s) = .int (L.idxOf s + 1) := if_pos h
theorem code_not {L : List Str} {s : Str} (h : s ∉ L) : code L (.str s) = .none := if_neg h
theorem mem_snoc {xs : List Str} {s y : Str} (q : ¬ s = y) : s ∈ xs ++ [y] ↔ s ∈ xs := ⟨fun h => (List.mem_append.mp h).elim id fun h => (q (List.mem_singleton.mp h)).elim, List.mem_append_left _⟩
theorem nd_take {α : Type} {L : List α} (nd : L.Nodup) {i : Nat} (h : i < L.length) : L[i] ∉ L.take i := by
  intro hm
  obtain ⟨j, hj, e⟩ := List.mem_take_iff_getElem.mp hm
  have := (List.getElem_inj nd).mp e
  omega
theorem nd_idx {L : List Str} (nd : L.Nodup) {i : Nat} (h : i < L.length) : L.idxOf L[i] = i := by
  have hlt : L.idxOf L[i] < L.length := List.idxOf_lt_length_of_mem (List.getElem_mem h)
  have e : L[L.idxOf L[i]] = L[i] := List.getElem_idxOf hlt
  exact (List.getElem_inj nd).mp e

theorem s_codes_of {d : Nat} {H : PH} {lt ll : Nat} {ts : List PV} {L : List Str} {Q : PV → PH → Prop} (ht : H lt = some (.list ts)) (hl : H ll = some (.list (L.map .str))) (hb : ts.length ≤ big) (hL : L.length ≤ big) (nd : L.Nodup) (hx : ∀ x ∈ ts, x = .none ∨ ∃ s, x = .str s)
    (h : ∀ r H', Ext H H' → H r = none → H' r = some (.list (ts.map (code L))) → Q (.ref r) H') : GG (d + 1) 31 [.ref lt, .ref ll] H Q := by
  refine u_codes_of ?_
  simp only [b_codes_of, WSs, WS, WE, WEs, WAnd, WOr, WCond, WSrc, optW, gt, st, tl, truthV, cmpV, binV, reduceCtorEq, decide_true, decide_false, Bool.not_true, Bool.not_false]
  intro D hD
  have nt : lt ≠ D := ne_of ht hD
  have nl : ll ≠ D := ne_of hl hD
  have hLm : (L.map PV.str).length ≤ big := by simpa using hL
  simp only [set_ne nl, hl, lenV, List.length_map, if_pos hL, rng1 L.length hL]
  refine loopW_ix (upto L.length) (fun i σ H' => (∃ o, σ = [some (.ref lt), some (.ref ll), some (.ref D), o, none]) ∧ Ext H H' ∧ ∃ kvs, H' D = some (.dS kvs) ∧ (∀ s, lkp kvs s = if s ∈ L.take i then some (code L (.str s)) else none) ∧ kvs.length ≤ i) (fun i hi σ H' hI Q' kn kr => ?_) (fun σ H' hI => ?_)
    ⟨⟨_, rfl⟩, Ext.set hD, [], set_eq, fun s => rfl, Nat.le_refl _⟩
  · obtain ⟨⟨o, rfl⟩, e, kvs, hk, hm, hlen⟩ := hI
    rw [upto_len] at hi
    have hi' : i < (L.map PV.str).length := by simpa using hi
    have hnone : lkp kvs L[i] = none := by rw [hm, if_neg (nd_take nd hi)]
    simp only [WSs, WS, WE, WEs, WAnd, WOr, WCond, WSrc, optW, gt, st, tl, truthV, cmpV, binV, reduceCtorEq, decide_true, decide_false, Bool.not_true, Bool.not_false, upto_get, idxV, e _ _ hl, at_nat hLm hi', List.getElem_map, inV, hk, hnone, Option.isSome_none, Option.map_some]
    refine ⟨by unfold big at *; omega, kn _ _ trivial ⟨⟨_, rfl⟩, e.put hD, _, set_eq, fun s => ?_, ?_⟩⟩
    · rw [lkp_sto_, take_succ_get L i hi]
      by_cases q : s = L[i]
      · subst q
        have hmem : L[i] ∈ L.take i ++ [L[i]] := List.mem_append_right _ (List.mem_singleton.mpr rfl)
        rw [if_pos rfl, if_pos hmem]
        rw [code_mem (List.getElem_mem hi), nd_idx nd hi]
      · rw [if_neg q, hm]
        have hiff := mem_snoc (xs := L.take i) q
        by_cases qq : s ∈ L.take i
        · rw [if_pos qq, if_pos (hiff.mpr qq)]
        · rw [if_neg qq, if_neg (mt hiff.mp qq)]
    · rw [sto_len_]; split <;> omega
  · obtain ⟨⟨o, rfl⟩, e, kvs, hk, hm, hlen⟩ := hI
    simp only [WSs, WS, WE, WEs, WAnd, WOr, WCond, WSrc, optW, gt, st, tl, truthV, cmpV, binV, reduceCtorEq, decide_true, decide_false, Bool.not_true, Bool.not_false, e _ _ ht]
    refine ⟨hb, ?_⟩
    refine compW_fm _ hb (fun c => some (code L c)) (· = H') (fun H2 e2 => by rw [e2]; exact e _ _ ht) (fun x _ H' e R hR => hR H' e) (fun x hm' u hu H2 e2 R hR => ?_) (fun H2 e2 => ?_) rfl
    · cases hu
      subst e2
      rcases hx x hm' with rfl | ⟨s, rfl⟩
      · simp only [WSs, WS, WE, WEs, WAnd, WOr, WCond, WSrc, optW, gt, st, tl, truthV, cmpV, binV, reduceCtorEq, decide_true, decide_false, Bool.not_true, Bool.not_false]; exact hR _ rfl
      · simp only [WSs, WS, WE, WEs, WAnd, WOr, WCond, WSrc, optW, gt, st, tl, truthV, cmpV, binV, reduceCtorEq, decide_true, decide_false, Bool.not_true, Bool.not_false, hk]
        refine ⟨⟨_, rfl⟩, ?_⟩
        rw [upto_len, List.take_length] at hm
        have : (lkp kvs s).getD .none = code L (.str s) := by
          rw [hm]
          by_cases q : s ∈ L
          · rw [if_pos q]; rfl
          · rw [if_neg q, code_not q]; rfl
        rw [this]; exact hR _ rfl
    · subst e2
      rw [fm_map]
      intro r hr
      exact h r _ (e.put (e.fresh hr)) (e.fresh hr) set_eq

theorem s_check_distinct {d : Nat} {H : PH} {ll : Nat} {L : List Str} {Q : PV → PH → Prop} (hl : H ll = some (.list (L.map .str))) (hL : L.length ≤ big) (nd : L.Nodup) (h : ∀ H', Ext H H' → Q .none H') : GG (d + 1) 34 [.ref ll] H Q := by
  refine u_check_distinct ?_
  simp only [b_check_distinct, WSs, WS, WE, WEs, WAnd, WOr, WCond, WSrc, optW, gt, st, tl, truthV, cmpV, binV, reduceCtorEq, decide_true, decide_false, Bool.not_true, Bool.not_false]
  intro D hD
  have nl : ll ≠ D := ne_of hl hD
  have hLm : (L.map PV.str).length ≤ big := by simpa using hL
  simp only [set_ne nl, hl, lenV, List.length_map, if_pos hL, rng1 L.length hL]
  refine loopW_ix (upto L.length) (fun i σ H' => (∃ o, σ = [some (.ref ll), some (.ref D), o]) ∧ Ext H H' ∧ ∃ kvs, H' D = some (.dS kvs) ∧ (∀ s, (lkp kvs s).isSome = decide (s ∈ L.take i)) ∧ kvs.length ≤ i) (fun i hi σ H' hI Q' kn kr => ?_) (fun σ H' hI => ?_)
    ⟨⟨_, rfl⟩, Ext.set hD, [], set_eq, fun s => by simp [lkp], Nat.le_refl _⟩
  · obtain ⟨⟨o, rfl⟩, e, kvs, hk, hm, hlen⟩ := hI
    rw [upto_len] at hi
    have hi' : i < (L.map PV.str).length := by simpa using hi
    have hnone : (lkp kvs L[i]).isSome = false := by rw [hm, decide_eq_false (nd_take nd hi)]
    simp only [WSs, WS, WE, WEs, WAnd, WOr, WCond, WSrc, optW, gt, st, tl, truthV, cmpV, binV, reduceCtorEq, decide_true, decide_false, Bool.not_true, Bool.not_false, upto_get, idxV, e _ _ hl, at_nat hLm hi', List.getElem_map, inV, hk, hnone]
    refine ⟨by unfold big at *; omega, kn _ _ trivial ⟨⟨_, rfl⟩, e.put hD, _, set_eq, fun s => ?_, ?_⟩⟩
    · rw [lkp_sto_, take_succ_get L i hi]
      by_cases q : s = L[i]
      · subst q
        rw [if_pos rfl]
        exact (decide_eq_true (List.mem_append_right _ (List.mem_singleton.mpr rfl))).symm
      · rw [if_neg q, hm]
        exact decide_eq_decide.mpr (mem_snoc q).symm
    · rw [sto_len_]; split <;> omega
  · obtain ⟨⟨o, rfl⟩, e, kvs, hk, hm, hlen⟩ := hI
    simp only [WSs, WS, WE, WEs, WAnd, WOr, WCond, WSrc, optW, gt, st, tl, truthV, cmpV, binV, reduceCtorEq, decide_true, decide_false, Bool.not_true, Bool.not_false]
    exact h _ e

theorem s_label_list {d : Nat} {H : PH} {l : PV} {Q : PV → PH → Prop} (h : Q l H) : GG (d + 1) 33 [.none, l] H Q := by
  refine u_label_list ?_
  simp only [b_label_list, WSs, WS, WE, WEs, WAnd, WOr, WCond, WSrc, optW, gt, st, tl, truthV, cmpV, binV, reduceCtorEq, decide_true, decide_false, Bool.not_true, Bool.not_false]
  exact h
end Mine
end

section
set_option maxRecDepth 100000
set_option linter.unusedVariables false
set_option linter.unusedSimpArgs false
namespace Mine
open PySem

noncomputable def sub (a : Nat) : PV → PV
  | .int m => .int (m - a)
  | _ => .none

theorem kept_eq {cs : List PV} {n a : Nat} (ha : a ≤ n) (hu : ∀ i, i < n → (PV.int (i + 1) ∈ cs ↔ a ≤ i)) :
    (upto n).filterMap (fun v => match v with | .int i => if PV.int (i + 1) ∈ cs then some (PV.int (i + 1)) else none | _ => none) = (List.range (n - a)).map fun (j : Nat) => PV.int (a + j + 1) := by
  unfold upto
  rw [List.filterMap_map]
  have e : List.range n = List.range a ++ (List.range (n - a)).map (a + ·) := by
    rw [← List.range_add]; congr 1; omega
  rw [e, List.filterMap_append]
  have e1 : (List.range a).filterMap ((fun v => match v with | .int i => if PV.int (i + 1) ∈ cs then some (PV.int (i + 1)) else none | _ => none) ∘ fun (k : Nat) => PV.int k) = [] := by
    rw [List.filterMap_eq_nil_iff]
    intro i hi
    have hi := List.mem_range.mp hi
    dsimp only [Function.comp]
    rw [if_neg]
    intro h
    have := (hu i (by omega)).mp h
    omega
  rw [e1, List.nil_append, List.filterMap_map]
  have e2 : ∀ l : List Nat, (∀ j ∈ l, j < n - a) → l.filterMap (((fun v => match v with | .int i => if PV.int (i + 1) ∈ cs then some (PV.int (i + 1)) else none | _ => none) ∘ fun (k : Nat) => PV.int k) ∘ (a + ·)) = l.map fun (j : Nat) => PV.int (a + j + 1) := by
    intro l
    induction l with
    | nil => intro _; rfl
    | cons j l ih =>
      intro hl
      rw [List.filterMap_cons, ih fun j hj => hl j (List.mem_cons_of_mem _ hj)]
      dsimp only [Function.comp]
      have := hl j List.mem_cons_self
      rw [if_pos ((hu (a + j) (by omega)).mpr (by omega))]
      simp
  exact e2 _ fun j hj => List.mem_range.mp hj

theorem mem_snocP {xs : List PV} {s y : PV} : s ∈ xs ++ [y] ↔ s ∈ xs ∨ s = y := by rw [List.mem_append, List.mem_singleton]

theorem s_drop {d : Nat} {H : PH} {r : Nat} {cs : List PV} {L : List Str} {Q : PV → PH → Prop} (f : Fac H r cs L) (hL : L.length ≤ big) (hc : cs.length ≤ big) (ok : ∀ c ∈ cs, okC L c) {a : Nat} (ha : a ≤ L.length) (hu : ∀ i, i < L.length → (PV.int (i + 1) ∈ cs ↔ a ≤ i))
    (h : ∀ r' H', Ext H H' → Fac H' r' (cs.map (sub a)) (L.drop a) → Q (.ref r') H') : GG (d + 6) 36 [.ref r] H Q := by
  refine u_drop_levels ?_
  simp only [b_drop_levels, WSs, WS, WE, WEs, WAnd, WOr, WCond, WSrc, optW, gt, st, tl, truthV, cmpV, binV, reduceCtorEq, decide_true, decide_false, Bool.not_true, Bool.not_false]
  refine s_level_texts f hL fun lt H1 e1 f1 h1 => ?_
  refine s_codes_in (f.ext e1) hL hc ok fun lc H2 e2 f2 h2 => ?_
  intro U hU
  have g1 : (H2.set U (.dI [])) lc = some (.list cs) := by rw [set_ne (ne_of h2 hU)]; exact h2
  simp only [g1]
  refine ⟨hc, ?_⟩
  have e12 := e1.trans e2
  have fU : H U = none := e12.fresh hU
  have h1' := e2 _ _ h1
  refine loopW_ix cs (fun i σ H' => (∃ o, σ = [some (.ref r), some (.ref lt), some (.ref lc), some (.ref U), o, none, none, none, none, none, none, none]) ∧ Ext H2 H' ∧ ∃ kvs, H' U = some (.dI kvs) ∧ (∀ m : Int, (lkp kvs m).isSome = decide (PV.int m ∈ cs.take i)) ∧ kvs.length ≤ i)
    (fun i hi σ H' hI Q' kn kr => ?_) (fun σ H3 hI => ?_) ⟨⟨_, rfl⟩, Ext.set hU, [], set_eq, fun m => by simp [lkp], Nat.le_refl _⟩
  · obtain ⟨⟨o, rfl⟩, e, kvs, hk, hm, hlen⟩ := hI
    rcases ok _ (List.getElem_mem hi) with q | ⟨n, q, -, -⟩
    · simp only [WSs, WS, WE, WEs, WAnd, WOr, WCond, WSrc, optW, gt, st, tl, truthV, cmpV, binV, reduceCtorEq, decide_true, decide_false, Bool.not_true, Bool.not_false, q]
      refine kn _ _ (e _ _ h2) ⟨⟨_, rfl⟩, e, kvs, hk, fun m => ?_, by omega⟩
      rw [take_succ_get cs i hi, hm]
      refine decide_eq_decide.mpr ?_
      rw [mem_snocP, q]; simp
    · simp only [WSs, WS, WE, WEs, WAnd, WOr, WCond, WSrc, optW, gt, st, tl, truthV, cmpV, binV, reduceCtorEq, decide_true, decide_false, Bool.not_true, Bool.not_false, q, hk]
      refine ⟨by unfold big at *; omega, kn _ _ ?_ ⟨⟨_, rfl⟩, e.put hU, _, set_eq, fun m => ?_, ?_⟩⟩
      · show (H'.set U _) lc = _; rw [set_ne (ne_of h2 hU)]; exact e _ _ h2
      · rw [lkp_sto_, take_succ_get cs i hi]
        by_cases qq : m = n
        · subst qq
          rw [if_pos rfl]
          exact (decide_eq_true (mem_snocP.mpr (.inr q.symm))).symm
        · rw [if_neg qq, hm]
          refine decide_eq_decide.mpr ?_
          rw [mem_snocP, q]; simp [qq]
      · rw [sto_len_]; split <;> omega
  · obtain ⟨⟨o, rfl⟩, e3, kvs, hk, hm, hlen⟩ := hI
    rw [List.take_length] at hm
    have h1L : H3 lt = some (.list (L.map .str)) := e3 _ _ h1'
    simp only [WSs, WS, WE, WEs, WAnd, WOr, WCond, WSrc, optW, gt, st, tl, truthV, cmpV, binV, reduceCtorEq, decide_true, decide_false, Bool.not_true, Bool.not_false, h1L, lenV, List.length_map, if_pos hL, rng1 L.length hL]
    refine compW_fm (a := none) (upto L.length) (by rw [upto_len]; exact hL) (fun v => match v with | .int i => if PV.int (i + 1) ∈ cs then some (PV.int (i + 1)) else none | _ => none) (· = H3) (fun H' _ => trivial) (fun x hx H' e' R hR => ?_) (fun x hx u hu' H' e' R hR => ?_) (fun H' e' => ?_) rfl
    · subst e'
      obtain ⟨k, hk', rfl⟩ := List.mem_map.mp hx
      simp only [WSs, WS, WE, WEs, WAnd, WOr, WCond, WSrc, optW, gt, st, tl, truthV, cmpV, binV, reduceCtorEq, decide_true, decide_false, Bool.not_true, Bool.not_false, inV, hk, hm]
      by_cases q : PV.int (k + 1) ∈ cs
      · simp only [q, if_true, decide_true]; have := hR _ rfl; simp only [q, if_true] at this; exact this
      · simp only [q, if_false, decide_false]; have := hR _ rfl; simp only [q, if_false] at this; exact this
    · subst e'
      obtain ⟨k, hk', rfl⟩ := List.mem_map.mp hx
      dsimp only at hu'
      split at hu' <;> cases hu'
      simp only [WSs, WS, WE, WEs, WAnd, WOr, WCond, WSrc, optW, gt, st, tl, truthV, cmpV, binV, reduceCtorEq, decide_true, decide_false, Bool.not_true, Bool.not_false]
      exact hR _ rfl
    · subst e'
      rw [kept_eq ha hu]
      generalize hK : ((List.range (L.length - a)).map fun (j : Nat) => PV.int (a + j + 1)) = K
      have lenK : K.length = L.length - a := by subst hK; simp
      have getK : ∀ i (hi : i < K.length), K[i] = PV.int (a + i + 1) := by subst hK; intro i hi; simp
      have hbK : K.length ≤ big := by unfold big at *; omega
      intro lk hlk W hW
      have fK : H2 lk = none := e3.fresh hlk
      have e4 : Ext H2 (H'.set lk (.list K)) := e3.put fK
      generalize hH4 : H'.set lk (.list K) = H4 at *
      have k4 : H4 lk = some (.list K) := by subst hH4; exact set_eq
      have fW : H2 W = none := e4.fresh hW
      have nkW : lk ≠ W := ne_of k4 hW
      have k4' : (H4.set W (.dI [])) lk = some (.list K) := by rw [set_ne nkW]; exact k4
      have eK : Ext H4 (H4.set W (.dI [])) := Ext.set hW
      simp only [k4', lenV, if_pos hbK, rng1 K.length hbK]
      refine loopW_ix (upto K.length) (fun i σ H' => (∃ o o', σ = [some (.ref r), some (.ref lt), some (.ref lc), some (.ref U), o', some (.ref lk), some (.ref W), o, none, none, none, none]) ∧ Ext H4 H' ∧ ∃ kvs, H' W = some (.dI kvs) ∧ (∀ m : Int, lkp kvs m = if (a : Int) + 1 ≤ m ∧ m ≤ a + i then some (.int (m - a)) else none) ∧ kvs.length ≤ i)
        (fun i hi σ H' hI Q' kn kr => ?_) (fun σ H5 hI => ?_) ⟨⟨_, _, rfl⟩, eK, [], set_eq, fun m => by rw [if_neg (by omega)]; rfl, Nat.le_refl _⟩
      · obtain ⟨⟨o, o', rfl⟩, e, kvs, hk5, hm5, hlen5⟩ := hI
        rw [upto_len] at hi
        simp only [WSs, WS, WE, WEs, WAnd, WOr, WCond, WSrc, optW, gt, st, tl, truthV, cmpV, binV, reduceCtorEq, decide_true, decide_false, Bool.not_true, Bool.not_false, upto_get, idxV, e _ _ k4, at_nat hbK hi, getK, hk5]
        refine ⟨by unfold big at *; omega, kn _ _ trivial ⟨⟨_, _, rfl⟩, e.put hW, _, set_eq, fun m => ?_, ?_⟩⟩
        · rw [lkp_sto_]
          by_cases q : m = a + i + 1
          · subst q
            rw [if_pos rfl, if_pos (by omega)]
            congr 2; omega
          · rw [if_neg q, hm5]
            by_cases qq : (a : Int) + 1 ≤ m ∧ m ≤ a + i
            · rw [if_pos qq, if_pos (by omega)]
            · rw [if_neg qq, if_neg (by omega)]
        · rw [sto_len_]; split <;> omega
      · obtain ⟨⟨o, o', rfl⟩, e5, kvs5, hk5, hm5, hlen5⟩ := hI
        rw [upto_len, lenK] at hm5
        have e25 : Ext H2 H5 := e4.trans e5
        simp only [WSs, WS, WE, WEs, WAnd, WOr, WCond, WSrc, optW, gt, st, tl, truthV, cmpV, binV, reduceCtorEq, decide_true, decide_false, Bool.not_true, Bool.not_false, e25 _ _ h2]
        refine ⟨hc, ?_⟩
        refine compW_fm cs hc (fun c => some (sub a c)) (· = H5) (fun H' e => by rw [e]; exact e25 _ _ h2) (fun x _ H' e R hR => hR H' e) (fun x hx u hu' H' e R hR => ?_) (fun H' e => ?_) rfl
        · cases hu'
          subst e
          rcases ok x hx with rfl | ⟨n, rfl, n1, n2⟩
          · simp only [WSs, WS, WE, WEs, WAnd, WOr, WCond, WSrc, optW, gt, st, tl, truthV, cmpV, binV, reduceCtorEq, decide_true, decide_false, Bool.not_true, Bool.not_false]; exact hR _ rfl
          · have hn : a ≤ (n - 1).toNat := by
              refine (hu (n - 1).toNat (by omega)).mp ?_
              have : (((n - 1).toNat : Int) + 1) = n := by omega
              rw [this]; exact hx
            simp only [WSs, WS, WE, WEs, WAnd, WOr, WCond, WSrc, optW, gt, st, tl, truthV, cmpV, binV, reduceCtorEq, decide_true, decide_false, Bool.not_true, Bool.not_false, idxV, hk5, hm5]
            rw [if_pos (by omega)]
            exact hR _ rfl
        · subst e
          rw [fm_map]
          intro lr hlr
          have eR := Ext.set (o := .list (cs.map (sub a))) hlr
          refine s_integer set_eq (by simpa using hc) fun r' H6 e6 n6 => ?_
          obtain ⟨D, I, m1, m2, m3, m4, m5, m6⟩ := n6
          have e56 : Ext H' H6 := eR.trans e6
          have eAll : Ext H H6 := (e12.trans e25).trans e56
          have f6 := f.ext eAll
          obtain ⟨I0, A0, lv, LI, cv, CI, a1, a2, a3, a4, a5, a6, a7⟩ := id f6.ex
          refine s_names_of .int a1 (.inr ⟨A0, _, rfl, a3, rfl, rfl⟩) ?_
          refine s_named ?_
          have k6 : H6 lk = some (.list K) := e56 _ _ (e5 _ _ k4)
          have t6 : H6 lt = some (.list (L.map .str)) := e56 _ _ (e25 _ _ h1')
          simp only [k6]
          refine ⟨hbK, ?_⟩
          refine compW_fm K hbK (fun c => match c with | .int m => some (.str (L.getD (m - 1).toNat "")) | _ => none) (· = H6) (fun H' e => by rw [e]; exact k6) (fun x hx H' e R hR => ?_) (fun x hx u hu' H' e R hR => ?_) (fun H' e => ?_) rfl
          · subst hK
            obtain ⟨j, hj, rfl⟩ := List.mem_map.mp hx
            exact hR _ e
          · subst e
            subst hK
            obtain ⟨j, hj, rfl⟩ := List.mem_map.mp hx
            have hj := List.mem_range.mp hj
            cases hu'
            have hlt : ((a : Int) + j + 1 - 1).toNat < L.length := by omega
            simp only [WSs, WS, WE, WEs, WAnd, WOr, WCond, WSrc, optW, gt, st, tl, truthV, cmpV, binV, reduceCtorEq, decide_true, decide_false, Bool.not_true, Bool.not_false, idxV, t6, atV, List.length_map, if_pos hL]
            rw [if_pos (by omega), List.getElem?_map, List.getElem?_eq_getElem hlt]
            have : L.getD ((a : Int) + j + 1 - 1).toNat "" = L[((a : Int) + j + 1 - 1).toNat] := by simp only [List.getD, List.getElem?_eq_getElem hlt, Option.getD_some]
            rw [← this]
            exact hR _ rfl
          · subst e
            have eL : K.filterMap (fun c => match c with | .int m => some (.str (L.getD (m - 1).toNat "")) | _ => none) = (L.drop a).map PV.str := by
              subst hK
              rw [List.filterMap_map]
              have : ((fun c : PV => match c with | .int m => some (PV.str (L.getD (m - 1).toNat "")) | _ => none) ∘ fun (j : Nat) => PV.int (a + j + 1)) = fun (j : Nat) => some (PV.str (L.getD (a + j) "")) := by
                funext j
                dsimp only [Function.comp]
                congr 3; omega
              rw [this, fm_map]
              refine List.ext_getElem (by simp) fun i h1 h2 => ?_
              simp only [List.length_map, List.length_range] at h1
              have hlt : a + i < L.length := by omega
              simp [List.getD, List.getElem?_eq_getElem hlt]
            rw [eL]
            intro ll hll
            have e7 := Ext.set (o := .list ((L.drop a).map PV.str)) hll
            refine s_is_ordered (f6.ext e7) fun H8 e8 => ?_
            have e68 := e7.trans e8
            have hD0 : H D = none := (e12.trans e25).fresh (eR.fresh m2)
            exact s_with_levels (eAll.trans e68) hD0 (e68 _ _ m4) (e68 _ _ m5) (e68 _ _ m6) (e8 _ _ set_eq) (by simp; omega) fun H9 e9 f9 => h r' H9 e9 f9
end Mine
end

section
set_option maxRecDepth 100000
set_option linter.unusedVariables false
set_option linter.unusedSimpArgs false
namespace Mine
open PySem

/-! statement by statement -/
section
variable {Γ : GT} {ini : Nat} {r : CSs} {σ : Sg} {H : PH} {Q : Fl → Sg → PH → Prop}
theorem x_asg {x : Nat} {e : CE} (h : WE Γ ini e σ H fun v H1 => WSs Γ ini r (st σ x v) H1 Q) : WSs Γ ini (.cons (.asg x e) r) σ H Q := h
theorem x_ex {e : CE} (h : WE Γ ini e σ H fun _ H1 => WSs Γ ini r σ H1 Q) : WSs Γ ini (.cons (.ex e) r) σ H Q := h
theorem x_ret {e : CE} (h : WE Γ ini e σ H fun v H1 => Q (.ret v) σ H1) : WSs Γ ini (.cons (.ret e) r) σ H Q := h
theorem x_ifs {t : CE} {a b : CSs} (h : WE Γ ini t σ H (tl fun c H1 => match c with
    | true => WSs Γ ini a σ H1 (fun f σ' H' => match f with | .next => WSs Γ ini r σ' H' Q | .ret v => Q (.ret v) σ' H')
    | false => WSs Γ ini b σ H1 (fun f σ' H' => match f with | .next => WSs Γ ini r σ' H' Q | .ret v => Q (.ret v) σ' H'))) : WSs Γ ini (.cons (.ifs t a b) r) σ H Q := h
theorem x_nil (h : Q .next σ H) : WSs Γ ini .nil σ H Q := h
theorem x_for {x : Nat} {src : CSrc} {b : CSs} (h : WSrc Γ ini src σ H fun a vs H1 => loopW (WSs Γ ini b) a x vs σ H1 (fun f σ' H' => match f with | .next => WSs Γ ini r σ' H' Q | .ret v => Q (.ret v) σ' H')) : WSs Γ ini (.cons (.forr x src b) r) σ H Q := h
theorem x_app {o e : CE} (h : WE Γ ini o σ H fun u H1 => match u with
    | .ref a => (∃ xs, H1 a = some (.list xs)) ∧ WE Γ ini e σ H1 fun v H2 => match H2 a with
      | some (.list xs) => xs.length ≤ big ∧ WSs Γ ini r σ (H2.set a (.list (xs ++ [v]))) Q
      | _ => False
    | _ => False) : WSs Γ ini (.cons (.app o e) r) σ H Q := h
theorem x_unpk {x y : Nat} {e : CE} (h : WE Γ ini e σ H fun v H1 => match v with
    | .ref a => match H1 a with
      | some (.tup [u, w]) => WSs Γ ini r (st (st σ x u) y w) H1 Q
      | _ => False
    | _ => False) : WSs Γ ini (.cons (.unpk x y e) r) σ H Q := h
theorem x_aug {x : Nat} {op : BOp} {e : CE} (h : optW (gt σ x) fun u => WE Γ ini e σ H fun v H1 => optW (binV op u v) fun q => WSs Γ ini r (st σ x q) H1 Q) : WSs Γ ini (.cons (.aug x op e) r) σ H Q := h
theorem x_whil {t : CE} {b : CSs} (I : Nat → Sg → PH → Prop) (n : Nat) (h0 : I n σ H) (step : ∀ n σ H, I n σ H → WE Γ ini t σ H (tl fun c H1 => match c with
    | true => WSs Γ ini b σ H1 fun f σ' H' => match f with
      | .ret u => Q (.ret u) σ' H'
      | .next => ∃ m, m < n ∧ I m σ' H'
    | false => WSs Γ ini r σ H1 Q)) : WSs Γ ini (.cons (.whil t b) r) σ H Q := ⟨I, n, h0, step⟩
end

noncomputable def ltP : PV → PV → Bool
  | .int a, .int b => decide (a < b)
  | .str a, .str b => decide (a.cps.toList < b.cps.toList)
  | _, _ => false
noncomputable def cmpI (x y : PV) : Int := if ltP x y then -1 else if ltP y x then 1 else 0
noncomputable def leV (x y : PV) : Bool := decide (cmpI x y ≤ 0)

theorem U_tot : ∀ k : K3, ((U k).all fun x => (U k).all fun y => leV x y || leV y x) = true := by
  intro k; cases k <;> decide +kernel
theorem U_trans : ∀ k : K3, ((U k).all fun x => (U k).all fun y => (U k).all fun z => !(leV x y && leV y z) || leV x z) = true := by
  intro k; cases k <;> decide +kernel
theorem U_shape {k : K3} {x y : PV} (hx : x ∈ U k) (hy : y ∈ U k) : (∃ a b, x = .int a ∧ y = .int b) ∨ (∃ a b, x = .str a ∧ y = .str b) := by
  cases k with
  | I => obtain ⟨a, rfl, _⟩ := U_int x hx; obtain ⟨b, rfl, _⟩ := U_int y hy; exact .inl ⟨a, b, rfl, rfl⟩
  | L => obtain ⟨a, rfl⟩ := U_log x hx; obtain ⟨b, rfl⟩ := U_log y hy; exact .inl ⟨a, b, rfl, rfl⟩
  | C =>
    right
    have hs : ∀ v ∈ U .C, ∃ s, v = .str s := by
      intro v hv
      simp only [U, List.mem_cons, List.not_mem_nil, or_false] at hv
      rcases hv with rfl | rfl | rfl | rfl | rfl | rfl | rfl <;> exact ⟨_, rfl⟩
    obtain ⟨a, rfl⟩ := hs x hx; obtain ⟨b, rfl⟩ := hs y hy; exact ⟨a, b, rfl, rfl⟩
theorem U_ne {k : K3} {x : PV} (hx : x ∈ U k) : x ≠ .none := by
  rcases U_shape hx hx with ⟨a, b, rfl, _⟩ | ⟨a, b, rfl, _⟩ <;> exact fun h => by cases h
theorem cmpV_lt {H : PH} {k : K3} {x y : PV} (hx : x ∈ U k) (hy : y ∈ U k) : cmpV H .lt x y = some (ltP x y) := by
  rcases U_shape hx hy with ⟨a, b, rfl, rfl⟩ | ⟨a, b, rfl, rfl⟩ <;> rfl
theorem cmpV_gt {H : PH} {k : K3} {x y : PV} (hx : x ∈ U k) (hy : y ∈ U k) : cmpV H .gt x y = some (ltP y x) := by
  rcases U_shape hx hy with ⟨a, b, rfl, rfl⟩ | ⟨a, b, rfl, rfl⟩ <;> rfl

theorem s_compare_items {d : Nat} {H : PH} {k : K3} {x y : PV} {Q : PV → PH → Prop} (hx : x ∈ U k) (hy : y ∈ U k) (h : Q (.int (cmpI x y)) H) : GG (d + 1) 1 [.str k.nm, x, y] H Q := by
  refine u_compare_items ?_
  simp only [b_compare_items, WSs, WS, WE, WEs, WAnd, WOr, WCond, WSrc, optW, gt, st, tl, truthV, cmpV_lt hx hy, cmpV_gt hx hy, show cmpV H .eq (.str k.nm) (.str "double") = some false by simp only [cmpV, eqV, (kd_ne k.kd).1, decide_false]]
  unfold cmpI at h
  cases q : ltP x y <;> rw [q] at h <;> simp only
  · cases q2 : ltP y x <;> rw [q2] at h <;> simp only <;> exact h
  · exact h

/-- the vector that is sorted, in its list -/
structure Srt (H : PH) (k : K3) (v : Nat) (xs : List PV) : Prop where
  ex : ∃ I, Vec H v k.nm I .none ∧ H I = some (.list xs)
  len : xs.length ≤ big
theorem Srt.ext {H H' : PH} {k : K3} {v : Nat} {xs : List PV} (s : Srt H k v xs) (e : Ext H H') : Srt H' k v xs := let ⟨I, a, b⟩ := s.ex; ⟨⟨I, a.ext e, e _ _ b⟩, s.len⟩

noncomputable def okI (k : K3) (xs : List PV) (i : Nat) : Prop := ∃ h : i < xs.length, xs[i] ∈ U k
noncomputable def it (k : K3) (xs : List PV) (i : Nat) : PV := if xs.getD i .none ∈ U k then xs.getD i .none else (U k).headD .none
theorem it_mem (k : K3) (xs : List PV) (i : Nat) : it k xs i ∈ U k := by
  unfold it
  split
  · assumption
  · cases k <;> decide
theorem it_ok {k : K3} {xs : List PV} {i : Nat} (h : okI k xs i) : ∃ hi : i < xs.length, it k xs i = xs[i] := by
  obtain ⟨hi, hm⟩ := h
  refine ⟨hi, ?_⟩
  have e : xs.getD i .none = xs[i] := by simp only [List.getD, List.getElem?_eq_getElem hi, Option.getD_some]
  unfold it
  rw [e, if_pos hm]
noncomputable def le (k : K3) (xs : List PV) (i j : Nat) : Bool := leV (it k xs i) (it k xs j)
theorem le_total (k : K3) (xs : List PV) (i j : Nat) : (le k xs i j || le k xs j i) = true :=
  List.all_eq_true.mp (List.all_eq_true.mp (U_tot k) _ (it_mem k xs i)) _ (it_mem k xs j)
theorem le_trans (k : K3) (xs : List PV) (a b c : Nat) (h1 : le k xs a b = true) (h2 : le k xs b c = true) : le k xs a c = true := by
  have := List.all_eq_true.mp (List.all_eq_true.mp (List.all_eq_true.mp (U_trans k) _ (it_mem k xs a)) _ (it_mem k xs b)) _ (it_mem k xs c)
  unfold le at h1 h2 ⊢
  rw [h1, h2] at this
  exact this

theorem s_compare_places0 {d : Nat} {H : PH} {k : K3} {v I : Nat} {xs : List PV} {i j : Int} {x y : PV} {Q : PV → PH → Prop} (a1 : Vec H v k.nm I .none) (a2 : H I = some (.list xs)) (ex : atV xs i = some x) (ey : atV xs j = some y) (mi : x ∈ U k) (mj : y ∈ U k) (h : Q (.int (cmpI x y)) H) : GG (d + 2) 3 [.ref v, .int i, .int j, .bool false, .bool true] H Q := by
  have nx : decide (x = .none) = false := decide_eq_false (U_ne mi)
  have ny : decide (y = .none) = false := decide_eq_false (U_ne mj)
  refine u_compare_places ?_
  refine x_asg ?_
  simp only [WE, WEs, WAnd, WOr, WCond, WSrc, optW, gt, st, tl, truthV, cmpV, binV, reduceCtorEq, decide_true, decide_false, Bool.not_true, Bool.not_false, a1.items, idxV, a2, ex]
  refine x_asg ?_
  simp only [WE, WEs, WAnd, WOr, WCond, WSrc, optW, gt, st, tl, truthV, cmpV, binV, reduceCtorEq, decide_true, decide_false, Bool.not_true, Bool.not_false, a1.items, idxV, a2, ey]
  refine x_asg ?_
  simp only [WE, WEs, WAnd, WOr, WCond, WSrc, optW, gt, st, tl, truthV, cmpV, binV, reduceCtorEq, decide_true, decide_false, Bool.not_true, Bool.not_false, a1.kind]
  refine s_is_lacking k.kd ?_
  refine x_asg ?_
  simp only [WE, WEs, WAnd, WOr, WCond, WSrc, optW, gt, st, tl, truthV, cmpV, binV, reduceCtorEq, decide_true, decide_false, Bool.not_true, Bool.not_false, a1.kind, nx]
  refine s_is_lacking k.kd ?_
  simp only [ny]
  refine x_ifs ?_
  simp only [WE, WEs, WAnd, WOr, WCond, WSrc, optW, gt, st, tl, truthV, cmpV, binV, reduceCtorEq, decide_true, decide_false, Bool.not_true, Bool.not_false]
  refine x_nil ?_
  refine x_ifs ?_
  simp only [WE, WEs, WAnd, WOr, WCond, WSrc, optW, gt, st, tl, truthV, cmpV, binV, reduceCtorEq, decide_true, decide_false, Bool.not_true, Bool.not_false]
  refine x_nil ?_
  refine x_ifs ?_
  simp only [WE, WEs, WAnd, WOr, WCond, WSrc, optW, gt, st, tl, truthV, cmpV, binV, reduceCtorEq, decide_true, decide_false, Bool.not_true, Bool.not_false]
  refine x_nil ?_
  refine x_asg ?_
  simp only [WE, WEs, WAnd, WOr, WCond, WSrc, optW, gt, st, tl, truthV, cmpV, binV, reduceCtorEq, decide_true, decide_false, Bool.not_true, Bool.not_false, a1.kind]
  refine s_compare_items mi mj ?_
  refine x_ret ?_
  simp only [WE, WEs, WAnd, WOr, WCond, WSrc, optW, gt, st, tl, truthV, cmpV, binV, reduceCtorEq, decide_true, decide_false, Bool.not_true, Bool.not_false]
  exact h
theorem s_compare_places {d : Nat} {H : PH} {k : K3} {v : Nat} {xs : List PV} {i j : Nat} {Q : PV → PH → Prop} (s : Srt H k v xs) (hi : okI k xs i) (hj : okI k xs j) (h : Q (.int (cmpI (it k xs i) (it k xs j))) H) : GG (d + 2) 3 [.ref v, .int i, .int j, .bool false, .bool true] H Q := by
  obtain ⟨I, a1, a2⟩ := s.ex
  obtain ⟨li, ei⟩ := it_ok hi
  obtain ⟨lj, ej⟩ := it_ok hj
  exact s_compare_places0 a1 a2 (by rw [ei]; exact at_nat s.len li) (by rw [ej]; exact at_nat s.len lj) (it_mem k xs i) (it_mem k xs j) h

/-- what the sorter is handed -/
structure Args (H : PH) (k : K3) (vs fl : Nat) (xs : List PV) : Prop where
  ex : ∃ v, H vs = some (.list [.ref v]) ∧ Srt H k v xs
  fl : H fl = some (.list [.bool false])
theorem Args.ext {H H' : PH} {k : K3} {vs fl : Nat} {xs : List PV} (s : Args H k vs fl xs) (e : Ext H H') : Args H' k vs fl xs := let ⟨v, a, b⟩ := s.ex; ⟨⟨v, e _ _ a, b.ext e⟩, e _ _ s.fl⟩

theorem s_compare_keys {d : Nat} {H : PH} {k : K3} {vs fl : Nat} {xs : List PV} {i j : Nat} {Q : PV → PH → Prop} (s : Args H k vs fl xs) (hi : okI k xs i) (hj : okI k xs j) (h : Q (.int (cmpI (it k xs i) (it k xs j))) H) : GG (d + 3) 4 [.ref vs, .int i, .int j, .ref fl, .bool true] H Q := by
  obtain ⟨v, a1, a2⟩ := s.ex
  refine u_compare_keys ?_
  simp only [b_compare_keys, WSs, WS, WE, WEs, WAnd, WOr, WCond, WSrc, optW, gt, st, tl, truthV, lenV, a1]
  rw [if_pos (Nat.le_of_ble_eq_true rfl)]
  simp only [List.length_singleton, rng1 1 (Nat.le_of_ble_eq_true rfl), show upto 1 = [.int 0] from rfl, loopW, WSs, WS, WE, WEs, WAnd, WOr, WCond, WSrc, optW, gt, st, tl, truthV, idxV, a1, s.fl]
  simp only [show atV [PV.ref v] 0 = some (.ref v) from rfl, show atV [PV.bool false] 0 = some (.bool false) from rfl]
  refine s_compare_places a2 hi hj ?_
  simp only [WSs, WS, WE, WEs, WAnd, WOr, WCond, WSrc, optW, gt, st, tl, truthV, cmpV, binV, reduceCtorEq, decide_true, decide_false, Bool.not_true, Bool.not_false, eqV, Option.map_some]
  by_cases q : cmpI (it k xs i) (it k xs j) = 0
  · rw [q] at h ⊢
    exact ⟨trivial, h⟩
  · simp only [q, decide_false, Bool.not_false]
    exact h
end Mine
end

section
set_option maxRecDepth 100000
set_option linter.unusedVariables false
set_option linter.unusedSimpArgs false
namespace Mine
open PySem

noncomputable def pi (n : Nat) : PV := .int n
theorem len_pi (A : List Nat) : (A.map pi).length = A.length := List.length_map ..

theorem unset {H : PH} {a b : Nat} {o : PObj} (h : (H.set a o) b = none) : H b = none := by
  unfold PH.set at h
  split at h
  · cases h
  · exact h
theorem fin_merge {d : Nat} {H H' : PH} {vs fl la lb m : Nat} {A B acc R : List Nat} {i j : Nat} {Q : PV → PH → Prop} (e : Ext H H') (ha : H' la = some (.list (A.map pi))) (hb : H' lb = some (.list (B.map pi))) (hm : H m = none) (hm' : H' m = some (.list (acc.map pi)))
    (hAB : A.length + B.length ≤ big) (hi : i ≤ A.length) (hj : j ≤ B.length) (hR : acc ++ A.drop i ++ B.drop j = R) (hacc : acc.length = i + j)
    (h : ∀ r H', Ext H H' → H r = none → H' r = some (.list (R.map pi)) → Q (.ref r) H') :
    WSs (GG (d + 3)) iniT (.cons (.ret (.cat (.cat (.var 5) (.slice (.var 0) (.var 6))) (.slice (.var 1) (.var 7)))) .nil) [some (.ref la), some (.ref lb), some (.ref vs), some (.ref fl), some (.bool true), some (.ref m), some (.int (i : Nat)), some (.int (j : Nat))] H' fun f _ H' => Q (match f with | .ret v => v | .next => .none) H' := by
  refine x_ret ?_
  simp only [WE, WEs, WAnd, WOr, WCond, WSrc, optW, gt, st, tl, truthV, cmpV, binV, reduceCtorEq, decide_true, decide_false, Bool.not_true, Bool.not_false, cutV, ha, seqOf, len_pi]
  rw [if_pos (by omega), if_pos (by omega)]
  intro r1 h1
  have n1 : ∀ {b o}, H' b = some o → b ≠ r1 := fun e => ne_of e h1
  simp only [set_ne (n1 hm'), hm', set_eq, set_ne (n1 hb), hb]
  refine ⟨by rw [len_pi]; omega, by rw [List.length_drop, len_pi]; omega, fun r2 h2 => ?_⟩
  have n2 : ∀ {b o}, H' b = some o → b ≠ r2 := fun e => ne_of e (unset h2)
  have n12 : r1 ≠ r2 := ne_of set_eq h2
  simp only [set_ne (n2 hb), set_ne (n1 hb), hb, len_pi]
  rw [if_pos (by omega), if_pos (by omega)]
  intro r3 h3
  have n23 : r2 ≠ r3 := ne_of set_eq h3
  simp only [set_eq, set_ne n23]
  refine ⟨?_, by rw [List.length_drop, len_pi]; omega, fun r4 h4 => ?_⟩
  · rw [List.length_append, List.length_drop, len_pi, len_pi]; omega
  have f4 : H r4 = none := e.fresh (unset (unset (unset h4)))
  have f3 : H r3 = none := e.fresh (unset (unset h3))
  have f2 : H r2 = none := e.fresh (unset h2)
  refine h r4 _ ((((e.put (e.fresh h1)).put f2).put f3).put f4) f4 ?_
  rw [set_eq, ← hR, List.map_append, List.map_append, List.map_drop, List.map_drop]
  rfl

theorem s_merge_runs {d : Nat} {H : PH} {k : K3} {vs fl la lb : Nat} {xs : List PV} {A B : List Nat} {Q : PV → PH → Prop} (s : Args H k vs fl xs) (ha : H la = some (.list (A.map pi))) (hb : H lb = some (.list (B.map pi))) (hAB : A.length + B.length ≤ big) (oA : ∀ i ∈ A, okI k xs i) (oB : ∀ i ∈ B, okI k xs i)
    (h : ∀ r H', Ext H H' → H r = none → H' r = some (.list ((A.merge B (le k xs)).map pi)) → Q (.ref r) H') : GG (d + 4) 5 [.ref la, .ref lb, .ref vs, .ref fl, .bool true] H Q := by
  have bA : A.length ≤ big := by omega
  have bB : B.length ≤ big := by omega
  have bA' : (A.map pi).length ≤ big := by rw [len_pi]; exact bA
  have bB' : (B.map pi).length ≤ big := by rw [len_pi]; exact bB
  refine u_merge_runs ?_
  refine x_asg ?_
  simp only [WE, WEs, WAnd, WOr, WCond, WSrc, optW, gt, st, tl, truthV, cmpV, binV, reduceCtorEq, decide_true, decide_false, Bool.not_true, Bool.not_false]
  refine ⟨Nat.zero_le _, fun m hm => ?_⟩
  refine x_asg ?_
  simp only [WE, WEs, WAnd, WOr, WCond, WSrc, optW, gt, st, tl, truthV, cmpV, binV, reduceCtorEq, decide_true, decide_false, Bool.not_true, Bool.not_false]
  refine x_asg ?_
  simp only [WE, WEs, WAnd, WOr, WCond, WSrc, optW, gt, st, tl, truthV, cmpV, binV, reduceCtorEq, decide_true, decide_false, Bool.not_true, Bool.not_false]
  have e0 := Ext.set (o := .list []) hm
  refine x_whil (fun n σ H' => ∃ i j acc, σ = [some (.ref la), some (.ref lb), some (.ref vs), some (.ref fl), some (.bool true), some (.ref m), some (.int (i : Nat)), some (.int (j : Nat))] ∧ Ext H H' ∧ H' m = some (.list (acc.map pi)) ∧ i ≤ A.length ∧ j ≤ B.length ∧
    n = (A.length - i) + (B.length - j) ∧ acc ++ List.merge (A.drop i) (B.drop j) (le k xs) = A.merge B (le k xs) ∧ acc.length = i + j) (A.length + B.length) ⟨0, 0, [], rfl, e0, set_eq, Nat.zero_le _, Nat.zero_le _, rfl, rfl, rfl⟩ ?_
  rintro n σ H' ⟨i, j, acc, rfl, e, hm', hi, hj, rfl, hmg, hacc⟩
  have ha' := e _ _ ha
  have hb' := e _ _ hb
  simp only [WE, WEs, WAnd, WOr, WCond, WSrc, optW, gt, st, tl, truthV, cmpV, binV, reduceCtorEq, decide_true, decide_false, Bool.not_true, Bool.not_false, lenV, ha', hb', List.length_map, if_pos bA, if_pos bB]
  by_cases qi : i < A.length
  · have qi' : (i : Int) < (A.length : Int) := by omega
    simp only [qi', decide_true]
    by_cases qj : j < B.length
    · have qj' : (j : Int) < (B.length : Int) := by omega
      simp only [qj', decide_true]
      have gi : i < (A.map pi).length := by rw [len_pi]; exact qi
      have gj : j < (B.map pi).length := by rw [len_pi]; exact qj
      have eA : (A.map pi)[i] = .int (A[i] : Nat) := by rw [List.getElem_map]; rfl
      have eB : (B.map pi)[j] = .int (B[j] : Nat) := by rw [List.getElem_map]; rfl
      refine x_ifs ?_
      simp only [WE, WEs, WAnd, WOr, WCond, WSrc, optW, gt, st, tl, truthV, cmpV, binV, reduceCtorEq, decide_true, decide_false, Bool.not_true, Bool.not_false, idxV, ha', hb', at_nat bA' gi, at_nat bB' gj, eA, eB]
      refine s_compare_keys (s.ext e) (oA _ (List.getElem_mem qi)) (oB _ (List.getElem_mem qj)) ?_
      have dA := List.drop_eq_getElem_cons qi
      have dB := List.drop_eq_getElem_cons qj
      rw [dA, dB, List.cons_merge_cons] at hmg
      by_cases q : cmpI (it k xs A[i]) (it k xs B[j]) ≤ 0
      · have q' : le k xs A[i] B[j] = true := decide_eq_true q
        rw [if_pos q'] at hmg
        simp only [WE, WEs, WAnd, WOr, WCond, WSrc, optW, gt, st, tl, truthV, cmpV, binV, reduceCtorEq, decide_true, decide_false, Bool.not_true, Bool.not_false, q]
        refine x_app ?_
        simp only [WE, WEs, WAnd, WOr, WCond, WSrc, optW, gt, st, tl, truthV, cmpV, binV, reduceCtorEq, decide_true, decide_false, Bool.not_true, Bool.not_false, idxV, hm', ha', at_nat bA' gi, eA]
        refine ⟨⟨_, rfl⟩, by rw [len_pi]; omega, ?_⟩
        refine x_aug ?_
        simp only [WE, WEs, WAnd, WOr, WCond, WSrc, optW, gt, st, tl, truthV, cmpV, binV, reduceCtorEq, decide_true, decide_false, Bool.not_true, Bool.not_false]
        refine x_nil ?_
        refine x_nil ?_
        refine ⟨_, ?_, i + 1, j, acc ++ [A[i]], rfl, e.put hm, by rw [set_eq, List.map_append]; rfl, qi, hj, rfl, ?_, by rw [List.length_append]; simp; omega⟩
        · omega
        · rw [List.append_assoc, dB]; exact hmg
      · have q' : ¬ le k xs A[i] B[j] = true := by unfold le leV; simp only [q, decide_false]; decide
        rw [if_neg q'] at hmg
        simp only [WE, WEs, WAnd, WOr, WCond, WSrc, optW, gt, st, tl, truthV, cmpV, binV, reduceCtorEq, decide_true, decide_false, Bool.not_true, Bool.not_false, q]
        refine x_app ?_
        simp only [WE, WEs, WAnd, WOr, WCond, WSrc, optW, gt, st, tl, truthV, cmpV, binV, reduceCtorEq, decide_true, decide_false, Bool.not_true, Bool.not_false, idxV, hm', hb', at_nat bB' gj, eB]
        refine ⟨⟨_, rfl⟩, by rw [len_pi]; omega, ?_⟩
        refine x_aug ?_
        simp only [WE, WEs, WAnd, WOr, WCond, WSrc, optW, gt, st, tl, truthV, cmpV, binV, reduceCtorEq, decide_true, decide_false, Bool.not_true, Bool.not_false]
        refine x_nil ?_
        refine x_nil ?_
        refine ⟨_, ?_, i, j + 1, acc ++ [B[j]], rfl, e.put hm, by rw [set_eq, List.map_append]; rfl, hi, qj, rfl, ?_, by rw [List.length_append]; simp; omega⟩
        · omega
        · rw [List.append_assoc, dA]; exact hmg
    · have qj' : ¬ (j : Int) < (B.length : Int) := by omega
      simp only [qj', decide_false]
      refine fin_merge e ha' hb' hm hm' hAB hi hj ?_ hacc h
      rw [← hmg, List.drop_eq_nil_of_le (by omega : B.length ≤ j), List.merge_right, List.append_nil]
  · have qi' : ¬ (i : Int) < (A.length : Int) := by omega
    simp only [qi', decide_false]
    refine fin_merge e ha' hb' hm hm' hAB hi hj ?_ hacc h
    rw [← hmg, List.drop_eq_nil_of_le (by omega : A.length ≤ i), List.nil_merge, List.append_nil]
end Mine
end

section
set_option maxRecDepth 100000
set_option linter.unusedVariables false
set_option linter.unusedSimpArgs false
namespace Mine
open PySem

noncomputable def Runs (H : PH) (rf : List Nat) (Ls : List (List Nat)) : Prop := rf.length = Ls.length ∧ ∀ (i a : Nat) (L : List Nat), rf[i]? = some a → Ls[i]? = some L → H a = some (.list (L.map pi))
theorem Runs.ext {H H' : PH} {rf : List Nat} {Ls : List (List Nat)} (r : Runs H rf Ls) (e : Ext H H') : Runs H' rf Ls := ⟨r.1, fun i a L h1 h2 => e _ _ (r.2 i a L h1 h2)⟩
theorem Runs.nil (H : PH) : Runs H [] [] := ⟨rfl, fun i a L h => by simp at h⟩
theorem Runs.snoc {H : PH} {rf : List Nat} {Ls : List (List Nat)} {a : Nat} {L : List Nat} (r : Runs H rf Ls) (h : H a = some (.list (L.map pi))) : Runs H (rf ++ [a]) (Ls ++ [L]) := by
  refine ⟨by simp [r.1], fun i b M h1 h2 => ?_⟩
  by_cases q : i < rf.length
  · rw [List.getElem?_append_left q] at h1
    rw [List.getElem?_append_left (by rw [← r.1]; exact q)] at h2
    exact r.2 i b M h1 h2
  · rw [List.getElem?_append_right (by omega)] at h1
    rw [List.getElem?_append_right (by rw [← r.1]; omega)] at h2
    rw [← r.1] at h2
    cases hi : i - rf.length with
    | zero => rw [hi] at h1 h2; simp at h1 h2; subst h1; subst h2; exact h
    | succ n => rw [hi] at h1; simp at h1
theorem Runs.get {H : PH} {rf : List Nat} {Ls : List (List Nat)} (r : Runs H rf Ls) {i : Nat} (h : i < Ls.length) : ∃ hi : i < rf.length, H rf[i] = some (.list (Ls[i].map pi)) := by
  have hi : i < rf.length := by rw [r.1]; exact h
  exact ⟨hi, r.2 i _ _ (List.getElem?_eq_getElem hi) (List.getElem?_eq_getElem h)⟩
/-- another object turned -/
theorem Runs.put {H : PH} {rf : List Nat} {Ls : List (List Nat)} {b : Nat} {o : PObj} (r : Runs H rf Ls) (h : ∀ a ∈ rf, a ≠ b) : Runs (H.set b o) rf Ls :=
  ⟨r.1, fun i a L h1 h2 => by rw [set_ne (h a (List.mem_of_getElem? h1))]; exact r.2 i a L h1 h2⟩

noncomputable def stp (f : List Nat → List Nat → List Nat) : List (List Nat) → List (List Nat)
  | [] => []
  | [a] => [a]
  | a :: b :: r => f a b :: stp f r
noncomputable def mrg (f : List Nat → List Nat → List Nat) (Ls : List (List Nat)) (t : Nat) : List (List Nat) := (List.range t).map fun t => f (Ls.getD (2 * t) []) (Ls.getD (2 * t + 1) [])
theorem mrg_succ (f : List Nat → List Nat → List Nat) (Ls : List (List Nat)) (t : Nat) : mrg f Ls (t + 1) = mrg f Ls t ++ [f (Ls.getD (2 * t) []) (Ls.getD (2 * t + 1) [])] := by
  unfold mrg; rw [List.range_succ, List.map_append]; rfl
theorem stp_eq (f : List Nat → List Nat → List Nat) : ∀ Ls : List (List Nat), stp f Ls = mrg f Ls (Ls.length / 2) ++ (if Ls.length % 2 = 1 then [Ls.getD (Ls.length - 1) []] else [])
  | [] => by simp [stp, mrg]
  | [a] => by simp [stp, mrg]
  | a :: b :: r => by
    have ih := stp_eq f r
    have e1 : (a :: b :: r).length / 2 = r.length / 2 + 1 := by simp only [List.length_cons]; omega
    have e2 : (a :: b :: r).length % 2 = r.length % 2 := by simp only [List.length_cons]; omega
    rw [e1, e2]
    have e3 : mrg f (a :: b :: r) (r.length / 2 + 1) = f a b :: mrg f r (r.length / 2) := by
      unfold mrg
      rw [List.range_succ_eq_map, List.map_cons, List.map_map]
      congr 1
    rw [e3, List.cons_append]
    show f a b :: stp f r = _
    rw [ih]
    congr 2
    by_cases q : r.length % 2 = 1
    · rw [if_pos q, if_pos q]
      have : (a :: b :: r).length - 1 = (r.length - 1) + 2 := by simp only [List.length_cons]; omega
      rw [this]; rfl
    · rw [if_neg q, if_neg q]
theorem stp_len (f : List Nat → List Nat → List Nat) : ∀ Ls : List (List Nat), (stp f Ls).length = Ls.length / 2 + Ls.length % 2
  | [] => by simp [stp]
  | [a] => by simp [stp]
  | a :: b :: r => by
    show (stp f r).length + 1 = _
    rw [stp_len f r]; simp only [List.length_cons]; omega
theorem stp_perm {f : List Nat → List Nat → List Nat} (hf : ∀ a b, (f a b).Perm (a ++ b)) : ∀ Ls : List (List Nat), (stp f Ls).flatten.Perm Ls.flatten
  | [] => .refl _
  | [a] => .refl _
  | a :: b :: r => by
    show (f a b ++ (stp f r).flatten).Perm (a ++ (b ++ r.flatten))
    rw [← List.append_assoc]
    exact (hf a b).append (stp_perm hf r)
theorem stp_all {f : List Nat → List Nat → List Nat} {P : List Nat → Prop} (hf : ∀ a b, P a → P b → P (f a b)) : ∀ Ls : List (List Nat), (∀ L ∈ Ls, P L) → ∀ L ∈ stp f Ls, P L
  | [], h => h
  | [a], h => h
  | a :: b :: r, h => fun L hL => by
    rcases List.mem_cons.mp hL with rfl | hL
    · exact hf a b (h a List.mem_cons_self) (h b (List.mem_cons_of_mem _ List.mem_cons_self))
    · exact stp_all hf r (fun L hL => h L (List.mem_cons_of_mem _ (List.mem_cons_of_mem _ hL))) L hL

noncomputable def Sorted (k : K3) (xs : List PV) (L : List Nat) : Prop := L.Pairwise fun a b => le k xs a b = true

theorem rng2 (n : Nat) (h : n ≤ big) (h1 : 1 ≤ n) : rngV [.int 0, .int ((n : Int) - 1), .int 2] = some ((List.range (n / 2)).map fun (t : Nat) => PV.int (2 * t : Nat)) := by
  unfold rngV
  dsimp only
  rw [if_pos ⟨Nat.zero_le _, by unfold big at *; omega, Nat.le_of_ble_eq_true rfl, by decide⟩]
  congr 1
  unfold rngI
  have e : rngN 0 ((n : Int) - 1) 2 = n / 2 := by
    unfold rngN
    rw [if_pos (by decide)]
    split <;> omega
  rw [e]
  refine List.map_congr_left fun k _ => ?_
  congr 1
  push_cast
  omega
end Mine
end

section
set_option maxRecDepth 100000
set_option linter.unusedVariables false
set_option linter.unusedSimpArgs false
namespace Mine
open PySem

theorem map_ref_get {rf : List Nat} {i : Nat} (h : i < (rf.map PV.ref).length) : (rf.map PV.ref)[i] = .ref (rf[i]'(by simpa using h)) := by simp

theorem s_merge_sort {d : Nat} {H : PH} {k : K3} {vs fl pl : Nat} {xs : List PV} {ps : List Nat} {Q : PV → PH → Prop} (s : Args H k vs fl xs) (hp : H pl = some (.list (ps.map pi))) (hb : ps.length ≤ 500) (ok : ∀ i ∈ ps, okI k xs i)
    (h : ∀ r H' L, Ext H H' → H' r = some (.list (L.map pi)) → L.Perm ps → Sorted k xs L → Q (.ref r) H') : GG (d + 5) 6 [.ref pl, .ref vs, .ref fl, .bool true] H Q := by
  have bp : ps.length ≤ big := by unfold big; omega
  have bp' : (ps.map pi).length ≤ big := by rw [len_pi]; exact bp
  refine u_merge_sort ?_
  refine x_asg ?_
  simp only [WE, WEs, WAnd, WOr, WCond, WSrc, optW, gt, st, tl, truthV, cmpV, binV, reduceCtorEq, decide_true, decide_false, Bool.not_true, Bool.not_false, hp]
  refine ⟨bp', ?_⟩
  refine compW_ix (ps.map pi) bp' (fun i acc H' => Ext H H' ∧ ∃ rf : List Nat, acc = rf.map PV.ref ∧ Runs H' rf ((ps.take i).map fun p => [p])) (fun _ _ R h => h) (fun i hi acc H' hI R hR => ?_) (fun acc H' hI => ?_) ⟨Ext.refl H, [], rfl, Runs.nil H⟩
  · obtain ⟨e, rf, rfl, hr⟩ := hI
    have hi' : i < ps.length := by rw [len_pi] at hi; exact hi
    have eg : (ps.map pi)[i] = pi ps[i] := List.getElem_map ..
    simp only [WE, WEs, WAnd, WOr, WCond, WSrc, optW, gt, st, tl, truthV, cmpV, binV, reduceCtorEq, decide_true, decide_false, Bool.not_true, Bool.not_false, eg]
    refine ⟨Nat.le_of_ble_eq_true rfl, fun D hD => ?_⟩
    have eD := Ext.set (o := .list [pi ps[i]]) hD
    refine hR _ _ ?_ ⟨e.trans eD, rf ++ [D], by rw [List.map_append]; rfl, ?_⟩
    · exact eD _ _ (e _ _ hp)
    · rw [take_succ_get ps i hi', List.map_append]
      exact (hr.ext eD).snoc set_eq
  · obtain ⟨e, rf, rfl, hr⟩ := hI
    rw [len_pi, List.take_length] at hr
    intro R0 hR0
    have fR0 : H R0 = none := e.fresh hR0
    have e1 : Ext H (H'.set R0 (.list (rf.map PV.ref))) := e.put fR0
    have hr1 := hr.ext (Ext.set (o := .list (rf.map PV.ref)) hR0)
    have hR1 : (H'.set R0 (.list (rf.map PV.ref))) R0 = some (.list (rf.map PV.ref)) := set_eq
    generalize H'.set R0 (.list (rf.map PV.ref)) = H1 at e1 hr1 hR1 ⊢
    have lrf : rf.length = ps.length := by rw [hr.1, List.length_map]
    refine x_ifs ?_
    simp only [WE, WEs, WAnd, WOr, WCond, WSrc, optW, gt, st, tl, truthV, cmpV, binV, reduceCtorEq, decide_true, decide_false, Bool.not_true, Bool.not_false, hR1, lenV, List.length_map, lrf, if_pos bp, eqV]
    by_cases q : ps = []
    · subst q
      simp only [List.length_nil, Int.ofNat_zero, show ((0 : Nat) : Int) = 0 from rfl, decide_true]
      refine x_ret ?_
      simp only [WE, WEs, WAnd, WOr, WCond, WSrc, optW, gt, st, tl, truthV, cmpV, binV, reduceCtorEq, decide_true, decide_false, Bool.not_true, Bool.not_false]
      exact ⟨Nat.zero_le _, fun D hD => h D _ [] (e1.put (e1.fresh hD)) set_eq (.refl _) .nil⟩
    · have q1 : 0 < ps.length := List.length_pos_iff.mpr q
      have q2 : ¬ ((ps.length : Int) = 0) := by omega
      simp only [q2, decide_false]
      refine x_nil ?_
      refine x_whil (fun n σ H' => ∃ R rf Ls o5 o6, σ = [some (.ref pl), some (.ref vs), some (.ref fl), some (.bool true), some (.ref R), o5, o6, none] ∧ Ext H H' ∧ H' R = some (.list (rf.map PV.ref)) ∧ Runs H' rf Ls ∧ n = Ls.length ∧ 1 ≤ n ∧ n ≤ ps.length ∧ (∀ L ∈ Ls, Sorted k xs L ∧ (∀ i ∈ L, okI k xs i) ∧ L.length ≤ ps.length) ∧ Ls.flatten.Perm ps)
        ps.length ⟨R0, rf, _, _, _, rfl, e1, hR1, hr1, by simp, q1, Nat.le_refl _, fun L hL => ?_, ?_⟩ ?_
      · obtain ⟨p, hp', rfl⟩ := List.mem_map.mp hL
        exact ⟨List.pairwise_singleton _ _, fun i hi => by rw [List.mem_singleton.mp hi]; exact ok p hp', q1⟩
      · have : ∀ l : List Nat, (l.map fun p => [p]).flatten = l := by
          intro l; induction l with
          | nil => rfl
          | cons a l ih => rw [List.map_cons, List.flatten_cons, ih]; rfl
        rw [this]
      · rintro n σ H2 ⟨R, rf, Ls, o5, o6, rfl, e2, hR2, hr2, rfl, n1, n2, hs, hperm⟩
        have bn : Ls.length ≤ big := by omega
        have lf : rf.length = Ls.length := hr2.1
        have brf : (rf.map PV.ref).length ≤ big := by rw [List.length_map, lf]; exact bn
        simp only [WE, WEs, WAnd, WOr, WCond, WSrc, optW, gt, st, tl, truthV, cmpV, binV, reduceCtorEq, decide_true, decide_false, Bool.not_true, Bool.not_false, hR2, lenV, List.length_map, lf, if_pos bn]
        by_cases q3 : 1 < Ls.length
        · have q3' : (1 : Int) < (Ls.length : Int) := by omega
          simp only [q3', decide_true]
          refine x_asg ?_
          simp only [WE, WEs, WAnd, WOr, WCond, WSrc, optW, gt, st, tl, truthV, cmpV, binV, reduceCtorEq, decide_true, decide_false, Bool.not_true, Bool.not_false]
          refine ⟨Nat.zero_le _, fun lg hlg => ?_⟩
          have flg : H lg = none := e2.fresh hlg
          have e3 : Ext H2 (H2.set lg (.list [])) := Ext.set hlg
          have hlg3 : (H2.set lg (.list [])) lg = some (.list ([].map PV.ref)) := set_eq
          generalize H2.set lg (.list []) = H3 at e3 hlg3 ⊢
          refine x_for ?_
          simp only [WE, WEs, WAnd, WOr, WCond, WSrc, optW, gt, st, tl, truthV, cmpV, binV, reduceCtorEq, decide_true, decide_false, Bool.not_true, Bool.not_false, e3 _ _ hR2, lenV, List.length_map, lf, if_pos bn, rng2 Ls.length bn n1]
          refine loopW_ix _ (fun t σ H' => ∃ o6 mf, σ = [some (.ref pl), some (.ref vs), some (.ref fl), some (.bool true), some (.ref R), some (.ref lg), o6, none] ∧ Ext H2 H' ∧ H' lg = some (.list (mf.map PV.ref)) ∧ (∀ a ∈ mf, a ≠ lg) ∧ Runs H' mf (mrg (fun a b => List.merge a b (le k xs)) Ls t))
            (fun t ht σ H' hI Q' kn kr => ?_) (fun σ H4 hI => ?_) ⟨_, [], rfl, e3, hlg3, (fun a h => by cases h), Runs.nil _⟩
          · obtain ⟨o6, mf, rfl, e4, hl4, hne, hm4⟩ := hI
            have ht' : t < Ls.length / 2 := by simpa using ht
            have a1 : 2 * t < Ls.length := by omega
            have a2 : 2 * t + 1 < Ls.length := by omega
            have b1 : 2 * t < (rf.map PV.ref).length := by rw [List.length_map, lf]; exact a1
            have b2 : 2 * t + 1 < (rf.map PV.ref).length := by rw [List.length_map, lf]; exact a2
            have r4 := hr2.ext e4
            obtain ⟨c1, g1⟩ := r4.get a1
            obtain ⟨c2, g2⟩ := r4.get a2
            have eg : ((List.range (Ls.length / 2)).map fun (t : Nat) => PV.int (2 * t : Nat))[t] = .int (2 * t : Nat) := by simp
            have lm : mf.length = t := by rw [hm4.1]; unfold mrg; simp
            refine x_app ?_
            simp only [WE, WEs, WAnd, WOr, WCond, WSrc, optW, gt, st, tl, truthV, cmpV, binV, reduceCtorEq, decide_true, decide_false, Bool.not_true, Bool.not_false, eg, hl4, idxV, e4 _ _ hR2, at_nat brf b1, map_ref_get]
            refine ⟨⟨_, rfl⟩, ?_⟩
            rw [show (((2 * t : Nat) : Int) + 1) = ((2 * t + 1 : Nat) : Int) by omega]
            simp only [at_nat brf b2, map_ref_get]
            obtain ⟨s1, s1', s1''⟩ := hs _ (List.getElem_mem a1)
            obtain ⟨s2, s2', s2''⟩ := hs _ (List.getElem_mem a2)
            refine s_merge_runs (A := Ls[2 * t]) (B := Ls[2 * t + 1]) ((s.ext e2).ext e4) g1 g2 (by unfold big; omega) s1' s2' fun r H5 e5 fr hr5 => ?_
            have n5 : r ≠ lg := by rintro rfl; rw [hl4] at fr; cases fr
            simp only [e5 _ _ hl4]
            refine ⟨by rw [List.length_map, lm]; unfold big at *; omega, ?_⟩
            refine x_nil ?_
            refine kn _ _ trivial ⟨_, mf ++ [r], rfl, (e4.trans e5).put hlg, by rw [set_eq, List.map_append]; rfl, fun a ha => ?_, ?_⟩
            · rcases List.mem_append.mp ha with ha | ha
              · exact hne a ha
              · rw [List.mem_singleton.mp ha]; exact n5
            · rw [mrg_succ]
              have : (List.getD Ls (2 * t) []).merge (List.getD Ls (2 * t + 1) []) (le k xs) = Ls[2 * t].merge Ls[2 * t + 1] (le k xs) := by
                simp only [List.getD, List.getElem?_eq_getElem a1, List.getElem?_eq_getElem a2, Option.getD_some]
              rw [this]
              exact ((hm4.ext e5).put hne).snoc (by rw [set_ne n5]; exact hr5)
          · obtain ⟨o6, mf, rfl, e4, hl4, hne, hm4⟩ := hI
            have lr : ((List.range (Ls.length / 2)).map fun (t : Nat) => PV.int (2 * t : Nat)).length = Ls.length / 2 := by simp
            rw [lr] at hm4
            have lm : mf.length = Ls.length / 2 := by rw [hm4.1]; unfold mrg; simp
            have e24 := e2.trans e4
            have fin : ∀ H5 mf', Ext H2 H5 → H5 lg = some (.list (mf'.map PV.ref)) → Runs H5 mf' (stp (fun a b => List.merge a b (le k xs)) Ls) →
                ∃ m, m < Ls.length ∧ ∃ R rf Ls' o5 o6', [some (PV.ref pl), some (.ref vs), some (.ref fl), some (.bool true), some (.ref lg), some (.ref lg), o6, none] = [some (PV.ref pl), some (.ref vs), some (.ref fl), some (.bool true), some (.ref R), o5, o6', none] ∧ Ext H H5 ∧ H5 R = some (.list (rf.map PV.ref)) ∧ Runs H5 rf Ls' ∧ m = Ls'.length ∧ 1 ≤ m ∧ m ≤ ps.length ∧ (∀ L ∈ Ls', Sorted k xs L ∧ (∀ i ∈ L, okI k xs i) ∧ L.length ≤ ps.length) ∧ Ls'.flatten.Perm ps := by
              intro H5 mf' e5 hl5 hr5
              have hl := stp_len (fun a b => List.merge a b (le k xs)) Ls
              have hpm : (stp (fun a b => List.merge a b (le k xs)) Ls).flatten.Perm ps := (stp_perm (fun a b => List.merge_perm_append _) Ls).trans hperm
              refine ⟨_, ?_, lg, mf', _, _, _, rfl, e2.trans e5, hl5, hr5, rfl, ?_, ?_, fun L hL => ⟨?_, ?_, ?_⟩, hpm⟩
              · rw [hl]; omega
              · rw [hl]; omega
              · rw [hl]; omega
              · exact stp_all (P := Sorted k xs) (fun a b ha hb => List.pairwise_merge (le_trans k xs) (le_total k xs) a b ha hb) Ls (fun L hL => (hs L hL).1) L hL
              · refine fun i hi => ok i (hpm.mem_iff.mp ?_)
                exact List.mem_flatten.mpr ⟨L, hL, hi⟩
              · have := hpm.length_eq
                rw [← this]
                exact (List.sublist_flatten_of_mem hL).length_le
            refine x_ifs ?_
            simp only [WE, WEs, WAnd, WOr, WCond, WSrc, optW, gt, st, tl, truthV, cmpV, binV, reduceCtorEq, decide_true, decide_false, Bool.not_true, Bool.not_false, e4 _ _ hR2, lenV, List.length_map, lf, if_pos bn, eqV]
            rw [if_neg (by decide)]
            have st := stp_eq (fun a b => List.merge a b (le k xs)) Ls
            by_cases q4 : Ls.length % 2 = 1
            · have q4' : (Ls.length : Int).fmod 2 = 1 := by rw [Int.fmod_eq_emod_of_nonneg _ (by decide)]; omega
              simp only [q4', decide_true]
              refine x_app ?_
              have a1 : Ls.length - 1 < Ls.length := by omega
              have b1 : Ls.length - 1 < (rf.map PV.ref).length := by rw [List.length_map, lf]; exact a1
              have at1 : atV (rf.map PV.ref) (-1) = some (rf.map PV.ref)[Ls.length - 1] := by
                unfold atV
                rw [if_pos brf, if_neg (by decide), if_pos (by rw [List.length_map, lf]; omega)]
                have : (((rf.map PV.ref).length : Int) + -1).toNat = Ls.length - 1 := by rw [List.length_map, lf]; omega
                rw [this, List.getElem?_eq_getElem b1]
              obtain ⟨c1, g1⟩ := (hr2.ext e4).get a1
              simp only [WE, WEs, WAnd, WOr, WCond, WSrc, optW, gt, st, tl, truthV, cmpV, binV, reduceCtorEq, decide_true, decide_false, Bool.not_true, Bool.not_false, hl4, idxV, e4 _ _ hR2, at1, map_ref_get]
              refine ⟨⟨_, rfl⟩, by rw [List.length_map, lm]; unfold big at *; omega, ?_⟩
              refine x_nil ?_
              refine x_asg ?_
              simp only [WE, WEs, WAnd, WOr, WCond, WSrc, optW, gt, st, tl, truthV, cmpV, binV, reduceCtorEq, decide_true, decide_false, Bool.not_true, Bool.not_false]
              refine x_nil ?_
              have nrf : rf[Ls.length - 1] ≠ lg := by
                intro h5
                have := (hr2.get a1).2
                rw [h5, hlg] at this; cases this
              refine fin _ (mf ++ [rf[Ls.length - 1]]) (e4.put hlg) (by rw [set_eq, List.map_append]; rfl) ?_
              rw [st, if_pos q4]
              have : Ls.getD (Ls.length - 1) [] = Ls[Ls.length - 1] := by simp only [List.getD, List.getElem?_eq_getElem a1, Option.getD_some]
              rw [this]
              exact (hm4.put hne).snoc (by rw [set_ne nrf]; exact g1)
            · have q4' : ¬ (Ls.length : Int).fmod 2 = 1 := by rw [Int.fmod_eq_emod_of_nonneg _ (by decide)]; omega
              simp only [q4', decide_false]
              refine x_nil ?_
              refine x_asg ?_
              simp only [WE, WEs, WAnd, WOr, WCond, WSrc, optW, gt, st, tl, truthV, cmpV, binV, reduceCtorEq, decide_true, decide_false, Bool.not_true, Bool.not_false]
              refine x_nil ?_
              refine fin _ mf e4 hl4 ?_
              rw [st, if_neg q4, List.append_nil]
              exact hm4
        · have q3' : ¬ (1 : Int) < (Ls.length : Int) := by omega
          simp only [q3', decide_false]
          refine x_ret ?_
          have a1 : 0 < Ls.length := by omega
          have b1 : 0 < (rf.map PV.ref).length := by rw [List.length_map, lf]; exact a1
          obtain ⟨c1, g1⟩ := hr2.get a1
          simp only [WE, WEs, WAnd, WOr, WCond, WSrc, optW, gt, st, tl, truthV, cmpV, binV, reduceCtorEq, decide_true, decide_false, Bool.not_true, Bool.not_false, idxV, hR2, show atV (rf.map PV.ref) 0 = some (rf.map PV.ref)[0] from at_nat brf b1, map_ref_get]
          have hL : Ls = [Ls[0]] := by
            match Ls, a1, q3 with
            | [L], _, _ => rfl
            | [], h, _ => exact absurd h (by decide)
            | _ :: _ :: _, _, h => exact absurd (by simp) h
          refine h _ _ Ls[0] e2 g1 ?_ (hs _ (List.getElem_mem a1)).1
          rw [hL] at hperm
          simpa using hperm
end Mine
end

section
set_option maxRecDepth 100000
set_option linter.unusedVariables false
set_option linter.unusedSimpArgs false
namespace Mine
open PySem

theorem s_each_key {d : Nat} {H : PH} {Q : PV → PH → Prop} (h : ∀ r H', Ext H H' → H' r = some (.list [.bool false]) → Q (.ref r) H') : GG (d + 1) 7 [.bool false, .int 1] H Q := by
  refine u_each_key ?_
  refine x_ifs ?_
  simp only [WE, WEs, WAnd, WOr, WCond, WSrc, optW, gt, st, tl, truthV, cmpV, binV, reduceCtorEq, decide_true, decide_false, Bool.not_true, Bool.not_false]
  refine x_nil ?_
  refine x_ret ?_
  simp only [WE, WEs, WAnd, WOr, WCond, WSrc, optW, gt, st, tl, truthV, cmpV, binV, reduceCtorEq, decide_true, decide_false, Bool.not_true, Bool.not_false]
  refine ⟨Nat.le_of_ble_eq_true rfl, fun D hD => ?_⟩
  simp only [set_eq]
  refine ⟨by decide, by decide, fun E hE => ?_⟩
  exact h E _ ((Ext.refl H).put hD |>.put (unset hE)) set_eq

noncomputable def okX (k : K3) (xs : List PV) : Prop := ∀ x ∈ xs, x = .none ∨ x ∈ U k
noncomputable def keepI (xs : List PV) (i : Nat) : Bool := xs.getD i .none != .none
noncomputable def kept (xs : List PV) : List Nat := (List.range xs.length).filter (keepI xs)
theorem kept_ok {k : K3} {xs : List PV} (hx : okX k xs) : ∀ i ∈ kept xs, okI k xs i := by
  intro i hi
  obtain ⟨h1, h2⟩ := List.mem_filter.mp hi
  have h1 := List.mem_range.mp h1
  refine ⟨h1, ?_⟩
  have e : xs.getD i .none = xs[i] := by simp only [List.getD, List.getElem?_eq_getElem h1, Option.getD_some]
  unfold keepI at h2
  rw [e] at h2
  rcases hx _ (List.getElem_mem h1) with q | q
  · rw [q] at h2; cases h2
  · exact q

theorem s_kept {d : Nat} {H : PH} {k : K3} {vs v : Nat} {xs : List PV} {Q : PV → PH → Prop} (hv : H vs = some (.list [.ref v])) (s : Srt H k v xs) (h : ∀ r H', Ext H H' → H' r = some (.list ((kept xs).map pi)) → Q (.ref r) H') : GG (d + 2) 8 [.ref vs, .none] H Q := by
  refine u_kept_places ?_
  refine x_asg ?_
  simp only [WE, WEs, WAnd, WOr, WCond, WSrc, optW, gt, st, tl, truthV, cmpV, binV, reduceCtorEq, decide_true, decide_false, Bool.not_true, Bool.not_false]
  refine ⟨Nat.zero_le _, fun pl hpl => ?_⟩
  have e0 := Ext.set (o := .list []) hpl
  have g0 : (H.set pl (.list [])) pl = some (.list (((List.range 0).filter (keepI xs)).map pi)) := set_eq
  generalize H.set pl (.list []) = H0 at e0 g0 ⊢
  obtain ⟨I, a1, a2⟩ := s.ex
  refine x_for ?_
  simp only [WE, WEs, WAnd, WOr, WCond, WSrc, optW, gt, st, tl, truthV, cmpV, binV, reduceCtorEq, decide_true, decide_false, Bool.not_true, Bool.not_false, idxV, e0 _ _ hv, show atV [PV.ref v] 0 = some (.ref v) from rfl]
  refine s_length k.kd (a1.ext e0) (e0 _ _ a2) s.len ?_
  simp only [rng1 xs.length s.len]
  refine loopW_ix (upto xs.length) (fun i σ H' => ∃ o3 o4 o5, σ = [some (.ref vs), some .none, some (.ref pl), o3, o4, o5] ∧ Ext H H' ∧ H' pl = some (.list (((List.range i).filter (keepI xs)).map pi))) (fun i hi σ H' hI Q' kn kr => ?_) (fun σ H' hI => ?_) ⟨_, _, _, rfl, e0, g0⟩
  · obtain ⟨o3, o4, o5, rfl, e, hp⟩ := hI
    rw [upto_len] at hi
    have eg : xs.getD i .none = xs[i] := by simp only [List.getD, List.getElem?_eq_getElem hi, Option.getD_some]
    have nvs : vs ≠ pl := ne_of hv hpl
    refine x_asg ?_
    simp only [WE, WEs, WAnd, WOr, WCond, WSrc, optW, gt, st, tl, truthV, cmpV, binV, reduceCtorEq, decide_true, decide_false, Bool.not_true, Bool.not_false, upto_get]
    refine x_ifs ?_
    simp only [WE, WEs, WAnd, WOr, WCond, WSrc, optW, gt, st, tl, truthV, cmpV, binV, reduceCtorEq, decide_true, decide_false, Bool.not_true, Bool.not_false]
    refine x_for ?_
    simp only [WE, WEs, WAnd, WOr, WCond, WSrc, optW, gt, st, tl, truthV, cmpV, binV, reduceCtorEq, decide_true, decide_false, Bool.not_true, Bool.not_false, e _ _ hv]
    refine ⟨Nat.le_of_ble_eq_true rfl, ?_⟩
    have b1 := a1.ext e
    simp only [loopW]
    refine x_ifs ?_
    simp only [WE, WEs, WAnd, WOr, WCond, WSrc, optW, gt, st, tl, truthV, cmpV, binV, reduceCtorEq, decide_true, decide_false, Bool.not_true, Bool.not_false, b1.kind, b1.items, idxV, e _ _ a2, at_nat s.len hi]
    refine s_is_lacking k.kd ?_
    have lenk : ((List.range i).filter (keepI xs)).length ≤ big := by
      have := List.length_filter_le (keepI xs) (List.range i)
      rw [List.length_range] at this
      have := s.len
      omega
    by_cases q : xs[i] = .none
    · simp only [q, WE, WEs, WAnd, WOr, WCond, WSrc, optW, gt, st, tl, truthV, cmpV, binV, reduceCtorEq, decide_true, decide_false, Bool.not_true, Bool.not_false]
      refine x_asg ?_
      simp only [WE, WEs, WAnd, WOr, WCond, WSrc, optW, gt, st, tl, truthV, cmpV, binV, reduceCtorEq, decide_true, decide_false, Bool.not_true, Bool.not_false]
      refine x_nil ?_
      refine x_nil ?_
      simp only
      refine ⟨e _ _ hv, ?_⟩
      refine x_nil ?_
      refine x_ifs ?_
      simp only [WE, WEs, WAnd, WOr, WCond, WSrc, optW, gt, st, tl, truthV, cmpV, binV, reduceCtorEq, decide_true, decide_false, Bool.not_true, Bool.not_false]
      refine x_nil ?_
      refine x_nil ?_
      refine kn _ _ trivial ⟨_, _, _, rfl, e, ?_⟩
      have : keepI xs i = false := by unfold keepI; rw [eg, q]; rfl
      rw [List.range_succ, List.filter_append, List.filter_cons, if_neg (by rw [this]; decide), List.filter_nil, List.append_nil]
      exact hp
    · simp only [q, WE, WEs, WAnd, WOr, WCond, WSrc, optW, gt, st, tl, truthV, cmpV, binV, reduceCtorEq, decide_true, decide_false, Bool.not_true, Bool.not_false]
      refine x_nil ?_
      refine x_nil ?_
      simp only
      refine ⟨e _ _ hv, ?_⟩
      refine x_nil ?_
      refine x_ifs ?_
      simp only [WE, WEs, WAnd, WOr, WCond, WSrc, optW, gt, st, tl, truthV, cmpV, binV, reduceCtorEq, decide_true, decide_false, Bool.not_true, Bool.not_false]
      refine x_app ?_
      simp only [WE, WEs, WAnd, WOr, WCond, WSrc, optW, gt, st, tl, truthV, cmpV, binV, reduceCtorEq, decide_true, decide_false, Bool.not_true, Bool.not_false, hp]
      refine ⟨⟨_, rfl⟩, by rw [len_pi]; exact lenk, ?_⟩
      refine x_nil ?_
      refine x_nil ?_
      refine kn _ _ trivial ⟨_, _, _, rfl, e.put hpl, ?_⟩
      have : keepI xs i = true := by unfold keepI; rw [eg]; simpa using q
      rw [set_eq, List.range_succ, List.filter_append, List.filter_cons, if_pos this, List.filter_nil, List.map_append]
      rfl
  · obtain ⟨o3, o4, o5, rfl, e, hp⟩ := hI
    rw [upto_len] at hp
    refine x_ret ?_
    simp only [WE, WEs, WAnd, WOr, WCond, WSrc, optW, gt, st, tl, truthV, cmpV, binV, reduceCtorEq, decide_true, decide_false, Bool.not_true, Bool.not_false]
    exact h pl H' e hp

theorem s_order_by {d : Nat} {H : PH} {k : K3} {vs v : Nat} {xs : List PV} {Q : PV → PH → Prop} (hv : H vs = some (.list [.ref v])) (s : Srt H k v xs) (hb : xs.length ≤ 500) (hx : okX k xs) (h : ∀ r H' L, Ext H H' → H' r = some (.list (L.map pi)) → L.Perm (kept xs) → Sorted k xs L → Q (.ref r) H') : GG (d + 6) 9 [.ref vs, .bool false, .none] H Q := by
  obtain ⟨I, a1, a2⟩ := s.ex
  refine u_order_by ?_
  refine x_ifs ?_
  simp only [WE, WEs, WAnd, WOr, WCond, WSrc, optW, gt, st, tl, truthV, cmpV, binV, reduceCtorEq, decide_true, decide_false, Bool.not_true, Bool.not_false, lenV, hv, eqV]
  rw [if_pos (Nat.le_of_ble_eq_true rfl)]
  simp only [List.length_singleton, show decide (((1 : Nat) : Int) = 0) = false from rfl]
  refine x_nil ?_
  refine x_for ?_
  simp only [WE, WEs, WAnd, WOr, WCond, WSrc, optW, gt, st, tl, truthV, cmpV, binV, reduceCtorEq, decide_true, decide_false, Bool.not_true, Bool.not_false, hv]
  refine ⟨Nat.le_of_ble_eq_true rfl, ?_⟩
  simp only [loopW]
  refine x_ex ?_
  simp only [WE, WEs, WAnd, WOr, WCond, WSrc, optW, gt, st, tl, truthV, cmpV, binV, reduceCtorEq, decide_true, decide_false, Bool.not_true, Bool.not_false]
  refine s_check_sortable k.kd a1 fun H1 e1 => ?_
  refine x_ifs ?_
  simp only [WE, WEs, WAnd, WOr, WCond, WSrc, optW, gt, st, tl, truthV, cmpV, binV, reduceCtorEq, decide_true, decide_false, Bool.not_true, Bool.not_false]
  refine s_length k.kd (a1.ext e1) (e1 _ _ a2) s.len ?_
  simp only [idxV, e1 _ _ hv, show atV [PV.ref v] 0 = some (.ref v) from rfl]
  refine s_length k.kd (a1.ext e1) (e1 _ _ a2) s.len ?_
  simp only [eqV, WE, WEs, WAnd, WOr, WCond, WSrc, optW, gt, st, tl, truthV, cmpV, binV, reduceCtorEq, decide_true, decide_false, Bool.not_true, Bool.not_false, Option.map_some]
  refine x_nil ?_
  refine x_nil ?_
  simp only
  refine ⟨e1 _ _ hv, ?_⟩
  refine x_asg ?_
  simp only [WE, WEs, WAnd, WOr, WCond, WSrc, optW, gt, st, tl, truthV, cmpV, binV, reduceCtorEq, decide_true, decide_false, Bool.not_true, Bool.not_false, lenV, e1 _ _ hv]
  rw [if_pos (Nat.le_of_ble_eq_true rfl)]
  refine s_each_key fun fl H2 e2 hfl => ?_
  have e12 := e1.trans e2
  refine x_ret ?_
  simp only [WE, WEs, WAnd, WOr, WCond, WSrc, optW, gt, st, tl, truthV, cmpV, binV, reduceCtorEq, decide_true, decide_false, Bool.not_true, Bool.not_false]
  refine s_kept (e12 _ _ hv) (s.ext e12) fun pl H3 e3 hpl => ?_
  have e13 := e12.trans e3
  have lk : (kept xs).length ≤ 500 := by
    have := List.length_filter_le (keepI xs) (List.range xs.length)
    rw [List.length_range] at this
    unfold kept; omega
  refine s_merge_sort ⟨⟨v, e13 _ _ hv, s.ext e13⟩, e3 _ _ hfl⟩ hpl lk (kept_ok hx) fun r H4 L e4 hr hp hs => h r H4 L (e13.trans e4) hr hp hs

theorem okX_okV {k : K3} {xs : List PV} (hx : okX k xs) : ∀ x ∈ xs, okV k x := fun x h => (hx x h).elim .inl fun q => .inr (.inr q)

theorem word_str {k : K3} {x : PV} (hx : x = .none ∨ x ∈ U k) : word k x = .none ∨ ∃ s, word k x = .str s := by
  rcases hx with rfl | hx
  · left; cases k <;> rfl
  · right
    cases k with
    | I => obtain ⟨i, rfl, _⟩ := U_int x hx; exact ⟨_, rfl⟩
    | L =>
      obtain ⟨i, rfl⟩ := U_log x hx
      by_cases e : PV.int i = .int 1
      · exact ⟨"TRUE", if_pos e⟩
      · exact ⟨"FALSE", if_neg e⟩
    | C =>
      rcases U_shape hx hx with ⟨a, b, rfl, _⟩ | ⟨a, b, rfl, _⟩
      · simp only [U, List.mem_cons, reduceCtorEq, List.not_mem_nil, or_self] at hx
      · exact ⟨a, rfl⟩

theorem s_sorted_levels {d : Nat} {H : PH} {k : K3} {v : Nat} {xs : List PV} {Q : PV → PH → Prop} (s : Srt H k v xs) (hb : xs.length ≤ 500) (hx : okX k xs) (h : ∀ r H' L, Ext H H' → H' r = some (.list ((dd (L.map fun i => word k (xs.getD i .none))).map .str)) → L.Perm (kept xs) → Sorted k xs L → Q (.ref r) H') : GG (d + 7) 30 [.ref v] H Q := by
  obtain ⟨I, a1, a2⟩ := s.ex
  refine u_sorted_levels ?_
  refine x_ifs ?_
  simp only [WE, WEs, WAnd, WOr, WCond, WSrc, optW, gt, st, tl, truthV, cmpV, binV, reduceCtorEq, decide_true, decide_false, Bool.not_true, Bool.not_false]
  refine s_is_factor_plain a1 fun H1 e1 => ?_
  simp only [WE, WEs, WAnd, WOr, WCond, WSrc, optW, gt, st, tl, truthV, cmpV, binV, reduceCtorEq, decide_true, decide_false, Bool.not_true, Bool.not_false]
  refine x_nil ?_
  refine x_asg ?_
  simp only [WE, WEs, WAnd, WOr, WCond, WSrc, optW, gt, st, tl, truthV, cmpV, binV, reduceCtorEq, decide_true, decide_false, Bool.not_true, Bool.not_false]
  refine s_label_texts (a1.ext e1) (e1 _ _ a2) s.len (okX_okV hx) fun lt H2 e2 f2 h2 => ?_
  refine x_ret ?_
  simp only [WE, WEs, WAnd, WOr, WCond, WSrc, optW, gt, st, tl, truthV, cmpV, binV, reduceCtorEq, decide_true, decide_false, Bool.not_true, Bool.not_false]
  refine ⟨Nat.le_of_ble_eq_true rfl, fun vs hvs => ?_⟩
  have e3 := Ext.set (o := .list [PV.ref v]) hvs
  have e13 := (e1.trans e2).trans e3
  refine s_order_by set_eq (s.ext e13) hb hx fun pl H4 L e4 hpl hp hs => ?_
  have lL : L.length ≤ big := by
    rw [hp.length_eq]
    have := List.length_filter_le (keepI xs) (List.range xs.length)
    rw [List.length_range] at this
    unfold kept; unfold big; omega
  have lL' : (L.map pi).length ≤ big := by rw [len_pi]; exact lL
  simp only [hpl]
  refine ⟨lL', ?_⟩
  have t4 : H4 lt = some (.list (xs.map (word k))) := e4 _ _ (e3 _ _ h2)
  have okL : ∀ i ∈ L, okI k xs i := fun i hi => kept_ok hx i (hp.mem_iff.mp hi)
  refine compW_fm (L.map pi) lL' (fun c => match c with | .int i => some (word k (xs.getD i.toNat .none)) | _ => none) (· = H4) (fun H' e => by rw [e]; exact hpl) (fun x hm H' e R hR => ?_) (fun x hm u hu H' e R hR => ?_) (fun H' e => ?_) rfl
  · obtain ⟨i, hi, rfl⟩ := List.mem_map.mp hm
    exact hR _ e
  · subst e
    obtain ⟨i, hi, rfl⟩ := List.mem_map.mp hm
    obtain ⟨li, mi⟩ := okL i hi
    cases hu
    have li' : i < (xs.map (word k)).length := by rw [List.length_map]; exact li
    simp only [WE, WEs, WAnd, WOr, WCond, WSrc, optW, gt, st, tl, truthV, cmpV, binV, reduceCtorEq, decide_true, decide_false, Bool.not_true, Bool.not_false, pi, idxV, t4, at_nat (by rw [List.length_map]; exact s.len) li', List.getElem_map]
    have eg : xs.getD i .none = xs[i] := by simp only [List.getD, List.getElem?_eq_getElem li, Option.getD_some]
    have := hR _ rfl
    rw [Int.toNat_natCast, eg] at this
    exact this
  · subst e
    have eL : (L.map pi).filterMap (fun c => match c with | .int i => some (word k (xs.getD i.toNat .none)) | _ => none) = L.map fun i => word k (xs.getD i .none) := by
      rw [List.filterMap_map, ← fm_map]
      rfl
    rw [eL]
    intro lr hlr
    refine s_distinct set_eq (by rw [List.length_map]; exact lL) (fun x hm => ?_) fun r H5 e5 f5 h5 => h r H5 L ((e13.trans e4).trans ((Ext.set hlr).trans e5)) h5 hp hs
    obtain ⟨i, hi, rfl⟩ := List.mem_map.mp hm
    obtain ⟨li, mi⟩ := okL i hi
    have eg : xs.getD i .none = xs[i] := by simp only [List.getD, List.getElem?_eq_getElem li, Option.getD_some]
    rw [eg]
    exact word_str (.inr mi)
end Mine
end

section
set_option maxRecDepth 100000
set_option linter.unusedVariables false
set_option linter.unusedSimpArgs false
namespace Mine
open PySem

theorem ins_nodup {ks : List Str} (h : ks.Nodup) (s : Str) : (ins ks s).Nodup := by
  unfold ins
  split
  · exact h
  · rename_i q
    refine List.nodup_append.mpr ⟨h, List.nodup_cons.mpr ⟨by simp, List.nodup_nil⟩, fun a ha b hb => ?_⟩
    rw [List.mem_singleton.mp hb]; rintro rfl; exact q ha
theorem ddS_nodup {ks : List Str} (h : ks.Nodup) (v : PV) : (ddS ks v).Nodup := by
  unfold ddS; split
  · exact ins_nodup h _
  · exact h
theorem dd_nodup (xs : List PV) : (dd xs).Nodup := by
  unfold dd
  have : ∀ ks : List Str, ks.Nodup → (xs.foldl ddS ks).Nodup := by
    induction xs with
    | nil => intro ks h; exact h
    | cons x xs ih => intro ks h; exact ih _ (ddS_nodup h x)
  exact this [] List.nodup_nil
theorem dd_id {D : List Str} (h : D.Nodup) : dd (D.map .str) = D := by
  have : ∀ n, n ≤ D.length → dd ((D.take n).map .str) = D.take n := by
    intro n
    induction n with
    | zero => intro _; rfl
    | succ n ih =>
      intro hn
      rw [take_succ_get D n (by omega), List.map_append, List.map_singleton, dd_snoc, ih (by omega)]
      show ins _ _ = _
      unfold ins
      rw [if_neg (nd_take h (by omega))]
  have := this D.length (Nat.le_refl _)
  rwa [List.take_length] at this

theorem dd_len (xs : List PV) : (dd xs).length ≤ xs.length := by
  have : ∀ n, n ≤ xs.length → (dd (xs.take n)).length ≤ n := by
    intro n
    induction n with
    | zero => intro _; exact Nat.le_refl _
    | succ n ih =>
      intro hn
      rw [take_succ_get xs n (by omega), dd_snoc]
      have := ih (by omega)
      unfold ddS
      split
      · unfold ins; split
        · omega
        · rw [List.length_append, List.length_singleton]; omega
      · omega
  have := this xs.length (Nat.le_refl _)
  rwa [List.take_length] at this

theorem code_self {D : List Str} (h : D.Nodup) {j : Nat} (hj : j < D.length) : code D (.str D[j]) = .int ((j : Nat) + 1) := by
  rw [code_mem (List.getElem_mem hj), nd_idx h hj]

theorem code_ok (D : List Str) (t : PV) : okC D (code D t) := by
  cases t with
  | str s =>
    by_cases q : s ∈ D
    · rw [code_mem q]
      have := List.idxOf_lt_length_of_mem q
      exact .inr ⟨_, rfl, by omega, by omega⟩
    · rw [code_not q]; exact .inl rfl
  | _ => exact .inl rfl

noncomputable def b_tail : CSs := match b_make_factor with
  | .cons _ (.cons _ r) => r
  | _ => .nil

theorem s_make_tail {d : Nat} {H0 H : PH} {k : K3} {v I ex lt w0 : Nat} {lev : PV} {xs : List PV} {D : List Str} {Q : PV → PH → Prop} (e0 : Ext H0 H) (a1 : Vec H v k.nm I .none) (hex : H ex = some (.list [])) (ht : H lt = some (.list (xs.map (word k)))) (hw : H w0 = some (.list (D.map .str))) (nd : D.Nodup) (bD : D.length ≤ big) (bx : xs.length ≤ big) (hx : okX k xs)
    (h : ∀ r H', Ext H0 H' → Fac H' r ((xs.map (word k)).map (code D)) D → Q (.ref r) H') :
    WSs (GG (d + 7)) iniT b_tail [some (.ref v), some lev, some .none, some (.ref ex), some (.bool false), some (.ref lt), some (.ref w0), none, none, none, none, none, none, none, none] H (fun fl _ H' => Q (match fl with | .ret v => v | .next => .none) H') := by
  have bD' : (D.map PV.str).length ≤ big := by rw [List.length_map]; exact bD
  have bw : (xs.map (word k)).length ≤ big := by rw [List.length_map]; exact bx
  have ws : ∀ x ∈ xs.map (word k), x = .none ∨ ∃ s, x = .str s := by
    intro x hm
    obtain ⟨y, hy, rfl⟩ := List.mem_map.mp hm
    exact word_str (hx y hy)
  unfold b_tail b_make_factor
  dsimp only
  refine x_asg ?_
  simp only [WE, WEs, WAnd, WOr, WCond, WSrc, optW, gt, st, tl, truthV, cmpV, binV, reduceCtorEq, decide_true, decide_false, Bool.not_true, Bool.not_false, hw]
  refine ⟨bD', ?_⟩
  refine compW_fm (D.map .str) bD' some (· = H) (fun H' e => by rw [e]; exact hw) (fun x hm H' e R hR => ?_) (fun x hm u hu H' e R hR => ?_) (fun H' e => ?_) rfl
  · subst e
    obtain ⟨s, _, rfl⟩ := List.mem_map.mp hm
    simp only [WE, WEs, WAnd, WOr, WCond, WSrc, optW, gt, st, tl, truthV, cmpV, binV, reduceCtorEq, decide_true, decide_false, Bool.not_true, Bool.not_false, inV, hex]
    rw [if_pos ⟨Nat.zero_le _, rfl, rfl⟩]
    exact hR _ rfl
  · subst e
    cases hu
    simp only [WE, WEs, WAnd, WOr, WCond, WSrc, optW, gt, st, tl, truthV, cmpV, binV, reduceCtorEq, decide_true, decide_false, Bool.not_true, Bool.not_false]
    exact hR _ rfl
  · subst e
    rw [List.filterMap_some]
    intro w hw1
    have e1 := Ext.set (o := .list (D.map .str)) hw1
    have g1 : (H'.set w (.list (D.map .str))) w = some (.list (D.map .str)) := set_eq
    generalize H'.set w (.list (D.map .str)) = H1 at e1 g1 ⊢
    refine x_ex ?_
    simp only [WE, WEs, WAnd, WOr, WCond, WSrc, optW, gt, st, tl, truthV, cmpV, binV, reduceCtorEq, decide_true, decide_false, Bool.not_true, Bool.not_false]
    refine s_check_distinct g1 bD nd fun H2 e2 => ?_
    have g2 := e2 _ _ g1
    refine x_asg ?_
    simp only [WE, WEs, WAnd, WOr, WCond, WSrc, optW, gt, st, tl, truthV, cmpV, binV, reduceCtorEq, decide_true, decide_false, Bool.not_true, Bool.not_false]
    refine s_label_list ?_
    refine x_asg ?_
    simp only [WE, WEs, WAnd, WOr, WCond, WSrc, optW, gt, st, tl, truthV, cmpV, binV, reduceCtorEq, decide_true, decide_false, Bool.not_true, Bool.not_false]
    refine s_distinct g2 bD' (fun x hm => by obtain ⟨s, _, rfl⟩ := List.mem_map.mp hm; exact .inr ⟨s, rfl⟩) fun nm H3 e3 f3 g3 => ?_
    rw [dd_id nd] at g3
    refine x_asg ?_
    simp only [WE, WEs, WAnd, WOr, WCond, WSrc, optW, gt, st, tl, truthV, cmpV, binV, reduceCtorEq, decide_true, decide_false, Bool.not_true, Bool.not_false]
    refine s_codes_of (e3 _ _ g2) g3 bD' bD nd (fun x hm => by obtain ⟨s, _, rfl⟩ := List.mem_map.mp hm; exact .inr ⟨s, rfl⟩) fun jn H4 e4 f4 g4 => ?_
    refine x_asg ?_
    simp only [WE, WEs, WAnd, WOr, WCond, WSrc, optW, gt, st, tl, truthV, cmpV, binV, reduceCtorEq, decide_true, decide_false, Bool.not_true, Bool.not_false]
    have e14 : Ext H' H4 := ((e1.trans e2).trans e3).trans e4
    refine s_codes_of (e14 _ _ ht) (e4 _ _ (e3 _ _ g2)) bw bD nd ws fun cl H5 e5 f5 g5 => ?_
    have bc : ((xs.map (word k)).map (code D)).length ≤ big := by rw [List.length_map]; exact bw
    simp only [g5]
    refine ⟨bc, ?_⟩
    refine compW_fm _ bc some (· = H5) (fun H' e => by rw [e]; exact g5) (fun x hm H' e R hR => hR _ e) (fun x hm u hu H' e R hR => ?_) (fun H' e => ?_) rfl
    · subst e
      cases hu
      obtain ⟨t, _, rfl⟩ := List.mem_map.mp hm
      rcases code_ok D t with q | ⟨m, q, m1, m2⟩
      · rw [q]
        rw [q] at hR
        simp only [WE, WEs, WAnd, WOr, WCond, WSrc, optW, gt, st, tl, truthV, cmpV, binV, reduceCtorEq, decide_true, decide_false, Bool.not_true, Bool.not_false]; exact hR _ rfl
      · rw [q]
        rw [q] at hR
        obtain ⟨j, rfl⟩ : ∃ j : Nat, m = (j : Int) + 1 := ⟨(m - 1).toNat, by omega⟩
        have hj : j < D.length := by omega
        have hj' : j < ((D.map PV.str).map (code D)).length := by rw [List.length_map, List.length_map]; exact hj
        simp only [WE, WEs, WAnd, WOr, WCond, WSrc, optW, gt, st, tl, truthV, cmpV, binV, reduceCtorEq, decide_true, decide_false, Bool.not_true, Bool.not_false, idxV, e5 _ _ g4]
        rw [show (j : Int) + 1 - 1 = (j : Nat) by omega, at_nat (by rw [List.length_map]; exact bD') hj', List.getElem_map, List.getElem_map, code_self nd hj]
        exact hR _ rfl
    · subst e
      rw [List.filterMap_some]
      intro lr hlr
      have e6 := Ext.set (o := .list ((xs.map (word k)).map (code D))) hlr
      refine x_asg ?_
      simp only [WE, WEs, WAnd, WOr, WCond, WSrc, optW, gt, st, tl, truthV, cmpV, binV, reduceCtorEq, decide_true, decide_false, Bool.not_true, Bool.not_false]
      refine s_integer set_eq bc fun r H7 e7 n7 => ?_
      obtain ⟨DD, I7, m1, m2, m3, m4, m5, m6⟩ := n7
      have e17 := ((e14.trans e5).trans e6).trans e7
      have v7 := a1.ext e17
      refine x_ifs ?_
      simp only [WE, WEs, WAnd, WOr, WCond, WSrc, optW, gt, st, tl, truthV, cmpV, binV, reduceCtorEq, decide_true, decide_false, Bool.not_true, Bool.not_false, v7.kind, eqV, (kd_ne k.kd).2.1, Option.map_some]
      refine x_ex ?_
      simp only [WE, WEs, WAnd, WOr, WCond, WSrc, optW, gt, st, tl, truthV, cmpV, binV, reduceCtorEq, decide_true, decide_false, Bool.not_true, Bool.not_false]
      refine s_names_of k.kd v7 (.inl rfl) ?_
      refine s_named ?_
      refine x_nil ?_
      refine x_ret ?_
      simp only [WE, WEs, WAnd, WOr, WCond, WSrc, optW, gt, st, tl, truthV, cmpV, binV, reduceCtorEq, decide_true, decide_false, Bool.not_true, Bool.not_false]
      have hD0 : H0 DD = none := (((e0.trans e14).trans e5).trans e6).fresh m2
      exact s_with_levels (e0.trans e17) hD0 m4 m5 m6 (e7 _ _ (e6 _ _ (e5 _ _ (e4 _ _ g3)))) bD fun H8 e8 f8 => h r H8 e8 f8

theorem s_make_A {d : Nat} {H : PH} {k : K3} {v ex : Nat} {xs : List PV} {Q : PV → PH → Prop} (s : Srt H k v xs) (hb : xs.length ≤ 500) (hx : okX k xs) (hex : H ex = some (.list []))
    (h : ∀ r H' L, Ext H H' → L.Perm (kept xs) → Sorted k xs L → Fac H' r ((xs.map (word k)).map (code (dd (L.map fun i => word k (xs.getD i .none))))) (dd (L.map fun i => word k (xs.getD i .none))) → Q (.ref r) H') : GG (d + 8) 35 [.ref v, .none, .none, .ref ex, .bool false] H Q := by
  obtain ⟨I, a1, a2⟩ := s.ex
  refine u_make_factor ?_
  refine x_asg ?_
  simp only [WE, WEs, WAnd, WOr, WCond, WSrc, optW, gt, st, tl, truthV, cmpV, binV, reduceCtorEq, decide_true, decide_false, Bool.not_true, Bool.not_false]
  refine s_item_texts a1 a2 s.len (okX_okV hx) fun lt H1 e1 f1 g1 => ?_
  refine x_ifs ?_
  simp only [WE, WEs, WAnd, WOr, WCond, WSrc, optW, gt, st, tl, truthV, cmpV, binV, reduceCtorEq, decide_true, decide_false, Bool.not_true, Bool.not_false]
  refine x_ifs ?_
  simp only [WE, WEs, WAnd, WOr, WCond, WSrc, optW, gt, st, tl, truthV, cmpV, binV, reduceCtorEq, decide_true, decide_false, Bool.not_true, Bool.not_false, (a1.ext e1).kind, eqV, (kd_ne k.kd).2.1]
  refine x_asg ?_
  simp only [WE, WEs, WAnd, WOr, WCond, WSrc, optW, gt, st, tl, truthV, cmpV, binV, reduceCtorEq, decide_true, decide_false, Bool.not_true, Bool.not_false]
  refine s_sorted_levels (s.ext e1) hb hx fun w0 H2 L e2 g2 hp hs => ?_
  refine x_nil ?_
  refine x_nil ?_
  have e12 := e1.trans e2
  refine s_make_tail e12 (a1.ext e12) (e12 _ _ hex) (e2 _ _ g1) g2 (dd_nodup _) ?_ s.len hx fun r H3 e3 f3 => h r H3 L e3 hp hs f3
  have lL : L.length ≤ 500 := by
    rw [hp.length_eq]
    have := List.length_filter_le (keepI xs) (List.range xs.length)
    rw [List.length_range] at this
    unfold kept; omega
  have := dd_len (L.map fun i => word k (xs.getD i .none))
  rw [List.length_map] at this
  unfold big; omega

theorem s_make_B {d : Nat} {H : PH} {k : K3} {v ex lv LI : Nat} {xs : List PV} {F : List Str} {Q : PV → PH → Prop} (s : Srt H k v xs) (hb : xs.length ≤ 500) (hx : okX k xs) (hex : H ex = some (.list [])) (l1 : Vec H lv "character" LI .none) (l2 : H LI = some (.list (F.map .str))) (nd : F.Nodup) (bF : F.length ≤ big)
    (h : ∀ r H', Ext H H' → Fac H' r ((xs.map (word k)).map (code F)) F → Q (.ref r) H') : GG (d + 8) 35 [.ref v, .ref lv, .none, .ref ex, .bool false] H Q := by
  obtain ⟨I, a1, a2⟩ := s.ex
  have bF' : (F.map PV.str).length ≤ big := by rw [List.length_map]; exact bF
  refine u_make_factor ?_
  refine x_asg ?_
  simp only [WE, WEs, WAnd, WOr, WCond, WSrc, optW, gt, st, tl, truthV, cmpV, binV, reduceCtorEq, decide_true, decide_false, Bool.not_true, Bool.not_false]
  refine s_item_texts a1 a2 s.len (okX_okV hx) fun lt H1 e1 f1 g1 => ?_
  refine x_ifs ?_
  simp only [WE, WEs, WAnd, WOr, WCond, WSrc, optW, gt, st, tl, truthV, cmpV, binV, reduceCtorEq, decide_true, decide_false, Bool.not_true, Bool.not_false]
  refine x_asg ?_
  simp only [WE, WEs, WAnd, WOr, WCond, WSrc, optW, gt, st, tl, truthV, cmpV, binV, reduceCtorEq, decide_true, decide_false, Bool.not_true, Bool.not_false]
  refine s_item_texts (k := .C) (l1.ext e1) (e1 _ _ l2) bF' map_str_ok fun ll H2 e2 f2 g2 => ?_
  rw [map_word_C] at g2
  simp only [g2]
  refine ⟨bF', ?_⟩
  refine compW_fm _ bF' some (· = H2) (fun H' e => by rw [e]; exact g2) (fun x hm H' e R hR => ?_) (fun x hm u hu H' e R hR => ?_) (fun H' e => ?_) rfl
  · obtain ⟨s, _, rfl⟩ := List.mem_map.mp hm
    simp only [WE, WEs, WAnd, WOr, WCond, WSrc, optW, gt, st, tl, truthV, cmpV, binV, reduceCtorEq, decide_true, decide_false, Bool.not_true, Bool.not_false]
    exact hR _ e
  · cases hu
    simp only [WE, WEs, WAnd, WOr, WCond, WSrc, optW, gt, st, tl, truthV, cmpV, binV, reduceCtorEq, decide_true, decide_false, Bool.not_true, Bool.not_false]
    exact hR _ e
  · subst e
    rw [List.filterMap_some]
    intro w0 hw0
    have e3 := Ext.set (o := .list (F.map .str)) hw0
    have e13 := (e1.trans e2).trans e3
    refine x_nil ?_
    exact s_make_tail e13 (a1.ext e13) (e13 _ _ hex) (e3 _ _ (e2 _ _ g1)) set_eq nd bF s.len hx fun r H3 e3 f3 => h r H3 e3 f3
end Mine
end

section
set_option maxRecDepth 100000
set_option linter.unusedVariables false
set_option linter.unusedSimpArgs false
namespace Mine
open PySem

noncomputable def abI (i : Int) : Int := if i < 0 then -i else i
theorem abI_nat (i : Int) : abI i = (i.natAbs : Nat) := by unfold abI; split <;> omega
theorem fmod_nat (i : Int) (m : Nat) (hm : 0 < m) : (abI i).fmod m = ((i.natAbs % m : Nat) : Int) := by
  rw [abI_nat, Int.fmod_eq_emod_of_nonneg _ (by omega)]; rfl

theorem upto_plain (ns : List Int) : (ns.map PV.int).all plainV = true := by
  rw [List.all_eq_true]; intro x hx; obtain ⟨i, _, rfl⟩ := List.mem_map.mp hx; rfl

noncomputable def kinds : List PV := [.str "integer", .str "logical", .str "character"]
theorem kinds_at {j : Nat} (h : j < 3) : ∃ k : K3, atV kinds (j : Int) = some (.str k.nm) := by
  rcases (show j = 0 ∨ j = 1 ∨ j = 2 by omega) with rfl | rfl | rfl
  · exact ⟨.I, rfl⟩
  · exact ⟨.L, rfl⟩
  · exact ⟨.C, rfl⟩
noncomputable def chars : List PV := [.str "b", .str "", .str "ab", .str "B", .str "a", .str "10", .str "9"]
theorem chars_at {j : Nat} (h : j < 7) : ∃ v ∈ U .C, atV chars (j : Int) = some v := by
  have hl : j < chars.length := h
  exact ⟨chars[j], List.getElem_mem hl, at_nat (Nat.le_of_ble_eq_true rfl) hl⟩
theorem mem_I {j : Nat} (h : j < 7) : PV.int (12 - 4 * (j : Int)) ∈ U .I := by
  rcases (show j = 0 ∨ j = 1 ∨ j = 2 ∨ j = 3 ∨ j = 4 ∨ j = 5 ∨ j = 6 by omega) with rfl | rfl | rfl | rfl | rfl | rfl | rfl <;> decide
theorem mem_L {j : Nat} : PV.int ((j : Int).fmod 2) ∈ U .L := by
  rw [Int.fmod_eq_emod_of_nonneg _ (by decide)]
  rcases (show (j : Int) % 2 = 0 ∨ (j : Int) % 2 = 1 by omega) with q | q <;> rw [q] <;> decide

theorem okX_snoc {k : K3} {xs : List PV} (h : okX k xs) {v : PV} (hv : v = .none ∨ v ∈ U k) : okX k (xs ++ [v]) := fun x hx => by
  rcases List.mem_append.mp hx with q | q
  · exact h x q
  · rw [List.mem_singleton.mp q]; exact hv

/-- behind the kind -/
noncomputable def b_items2 : CSs := match b_law_items with
  | .cons _ r => r
  | _ => .nil

theorem s_items2 {d : Nat} {H0 H : PH} {k : K3} {l : Nat} {ns : List Int} {Q : PV → PH → Prop} (e0 : Ext H0 H) (hl : H l = some (.ro (ns.map .int))) (hn : ns.length ≤ 63)
    (h : ∀ r H' it xs, Ext H0 H' → H' r = some (.tup [.str k.nm, .ref it]) → H' it = some (.list xs) → okX k xs → xs.length ≤ 9 → Q (.ref r) H') :
    WSs (GG d) iniT b_items2 [some (.ref l), some (.str k.nm), none, none, none] H (fun fl _ H' => Q (match fl with | .ret v => v | .next => .none) H') := by
  unfold b_items2 b_law_items
  dsimp only
  refine x_asg ?_
  simp only [WE, WEs, WAnd, WOr, WCond, WSrc, optW, gt, st, tl, truthV, cmpV, binV, reduceCtorEq, decide_true, decide_false, Bool.not_true, Bool.not_false]
  refine ⟨Nat.zero_le _, fun itm hit => ?_⟩
  have nl : l ≠ itm := ne_of hl hit
  refine x_for ?_
  simp only [WE, WEs, WAnd, WOr, WCond, WSrc, optW, gt, st, tl, truthV, cmpV, binV, reduceCtorEq, decide_true, decide_false, Bool.not_true, Bool.not_false, set_ne nl, hl, cutV, seqOf, List.length_map]
  rw [if_pos (by unfold big; omega), if_pos ⟨by decide, by decide, by unfold big; decide, by unfold big; decide⟩]
  intro sl hsl
  have fit : H0 itm = none := e0.fresh hit
  have fsl : H0 sl = none := e0.fresh (unset hsl)
  have nis : itm ≠ sl := ne_of set_eq hsl
  have e2 : Ext H0 ((H.set itm (.list [])).set sl (.list (((ns.map PV.int).drop (1 : Int).toNat).take ((10 : Int).toNat - (1 : Int).toNat)))) := (e0.put fit).put fsl
  have h2 : ((H.set itm (.list [])).set sl (.list (((ns.map PV.int).drop (1 : Int).toNat).take ((10 : Int).toNat - (1 : Int).toNat)))) itm = some (.list []) := by rw [set_ne nis]; exact set_eq
  have h2' : ((H.set itm (.list [])).set sl (.list (((ns.map PV.int).drop (1 : Int).toNat).take ((10 : Int).toNat - (1 : Int).toNat)))) sl = some (.list (((ns.map PV.int).drop (1 : Int).toNat).take ((10 : Int).toNat - (1 : Int).toNat))) := set_eq
  have lenC : (((ns.map PV.int).drop (1 : Int).toNat).take ((10 : Int).toNat - (1 : Int).toNat)).length ≤ 9 := by
    rw [List.length_take]; show min 9 _ ≤ 9; omega
  have memC : ∀ x ∈ (((ns.map PV.int).drop (1 : Int).toNat).take ((10 : Int).toNat - (1 : Int).toNat)), ∃ c, x = .int c := by
    intro x hx
    obtain ⟨c, _, rfl⟩ := List.mem_map.mp (List.mem_of_mem_drop (List.mem_of_mem_take hx))
    exact ⟨c, rfl⟩
  generalize (((ns.map PV.int).drop (1 : Int).toNat).take ((10 : Int).toNat - (1 : Int).toNat)) = cells at *
  generalize (H.set itm (.list [])).set sl (.list cells) = H2 at *
  simp only [h2']
  refine ⟨by unfold big; omega, ?_⟩
  refine loopW_ix cells (fun i σ H' => ∃ o3 o4 xs, σ = [some (.ref l), some (.str k.nm), some (.ref itm), o3, o4] ∧ Ext H0 H' ∧ H' itm = some (.list xs) ∧ okX k xs ∧ xs.length = i ∧ H' sl = some (.list cells)) (fun i hi σ H' hI Q' kn kr => ?_) (fun σ H' hI => ?_) ⟨_, _, [], rfl, e2, h2, (fun x hx => by cases hx), rfl, h2'⟩
  · obtain ⟨o3, o4, xs, rfl, e, hx, ok, hlen, hs⟩ := hI
    obtain ⟨c, hc⟩ := memC _ (List.getElem_mem hi)
    rw [hc]
    refine x_asg ?_
    simp only [WE, WEs, WAnd, WOr, WCond, WSrc, optW, gt, st, tl, truthV, cmpV, binV, reduceCtorEq, decide_true, decide_false, Bool.not_true, Bool.not_false]
    rw [if_neg (by decide)]
    have e8 : (if c < 0 then -c else c).fmod 8 = ((c.natAbs % 8 : Nat) : Int) := fmod_nat c 8 (by decide)
    rw [e8]
    have hj : c.natAbs % 8 < 8 := Nat.mod_lt _ (by decide)
    generalize c.natAbs % 8 = j at hj
    have app : ∀ v H1, (v = .none ∨ v ∈ U k) → Ext H0 H1 → H1 itm = some (.list xs) → H1 sl = some (.list cells) → xs.length ≤ big ∧ Q' .next [some (.ref l), some (.str k.nm), some (.ref itm), some (.int c), some (.int (j : Nat))] (H1.set itm (.list (xs ++ [v]))) := by
      intro v H1 hv e1 h1 hs1
      have n' : sl ≠ itm := Ne.symm nis
      exact ⟨by unfold big; omega, kn _ _ (show (H1.set itm _) sl = _ by rw [set_ne n']; exact hs1) ⟨_, _, _, rfl, e1.put fit, set_eq, okX_snoc ok hv, by simp [hlen], by rw [set_ne n']; exact hs1⟩⟩
    refine x_ifs ?_
    simp only [WE, WEs, WAnd, WOr, WCond, WSrc, optW, gt, st, tl, truthV, cmpV, binV, reduceCtorEq, decide_true, decide_false, Bool.not_true, Bool.not_false, eqV]
    by_cases q7 : (j : Int) = 7
    · simp only [q7, decide_true]
      refine x_app ?_
      simp only [WE, WEs, WAnd, WOr, WCond, WSrc, optW, gt, st, tl, truthV, cmpV, binV, reduceCtorEq, decide_true, decide_false, Bool.not_true, Bool.not_false, hx]
      refine ⟨⟨_, rfl⟩, ?_⟩
      obtain ⟨b1, b2⟩ := app .none H' (.inl rfl) e hx hs
      rw [q7] at b2
      exact ⟨b1, b2⟩
    · have hj7 : j < 7 := by omega
      simp only [q7, decide_false]
      refine x_ifs ?_
      simp only [WE, WEs, WAnd, WOr, WCond, WSrc, optW, gt, st, tl, truthV, cmpV, binV, reduceCtorEq, decide_true, decide_false, Bool.not_true, Bool.not_false, eqV]
      cases k with
      | I =>
        simp only [show decide (K3.I.nm = "integer") = true from rfl]
        refine x_app ?_
        simp only [WE, WEs, WAnd, WOr, WCond, WSrc, optW, gt, st, tl, truthV, cmpV, binV, reduceCtorEq, decide_true, decide_false, Bool.not_true, Bool.not_false, hx]
        refine ⟨⟨_, rfl⟩, ?_⟩
        rw [if_pos ⟨Nat.le_of_ble_eq_true rfl, by unfold big; omega⟩]
        simp only
        exact app _ H' (.inr (mem_I hj7)) e hx hs
      | L =>
        simp only [show decide (K3.L.nm = "integer") = false from rfl]
        refine x_ifs ?_
        simp only [WE, WEs, WAnd, WOr, WCond, WSrc, optW, gt, st, tl, truthV, cmpV, binV, reduceCtorEq, decide_true, decide_false, Bool.not_true, Bool.not_false, eqV, show decide (K3.L.nm = "logical") = true from rfl]
        refine x_app ?_
        simp only [WE, WEs, WAnd, WOr, WCond, WSrc, optW, gt, st, tl, truthV, cmpV, binV, reduceCtorEq, decide_true, decide_false, Bool.not_true, Bool.not_false, hx]
        refine ⟨⟨_, rfl⟩, ?_⟩
        rw [if_neg (by decide)]
        simp only
        exact app _ H' (.inr mem_L) e hx hs
      | C =>
        simp only [show decide (K3.C.nm = "integer") = false from rfl]
        refine x_ifs ?_
        simp only [WE, WEs, WAnd, WOr, WCond, WSrc, optW, gt, st, tl, truthV, cmpV, binV, reduceCtorEq, decide_true, decide_false, Bool.not_true, Bool.not_false, eqV, show decide (K3.C.nm = "logical") = false from rfl]
        refine x_app ?_
        simp only [WE, WEs, WAnd, WOr, WCond, WSrc, optW, gt, st, tl, truthV, cmpV, binV, reduceCtorEq, decide_true, decide_false, Bool.not_true, Bool.not_false, hx]
        refine ⟨⟨_, rfl⟩, Nat.le_of_ble_eq_true rfl, fun D hD => ?_⟩
        obtain ⟨v, hv, hat⟩ := chars_at hj7
        unfold chars at hat
        have nD : itm ≠ D := ne_of hx hD
        simp only [idxV, set_eq, hat, set_ne nD, hx]
        exact app v _ (.inr hv) (e.put (e.fresh hD)) (by rw [set_ne nD]; exact hx) (by rw [set_ne (ne_of hs hD)]; exact hs)
  · obtain ⟨o3, o4, xs, rfl, e, hx, ok, hlen, hs⟩ := hI
    refine x_ret ?_
    simp only [WE, WEs, WAnd, WOr, WCond, WSrc, optW, gt, st, tl, truthV, cmpV, binV, reduceCtorEq, decide_true, decide_false, Bool.not_true, Bool.not_false]
    refine ⟨Nat.le_of_ble_eq_true rfl, fun r hr => ?_⟩
    exact h r _ itm xs (e.put (e.fresh hr)) set_eq (by rw [set_ne (ne_of hx hr)]; exact hx) ok (by omega)

theorem s_law_items {d : Nat} {H : PH} {l : Nat} {ns : List Int} {Q : PV → PH → Prop} (hl : H l = some (.ro (ns.map .int))) (hn : ns.length ≤ 63)
    (h : ∀ r H' k it xs, Ext H H' → H' r = some (.tup [.str (K3.nm k), .ref it]) → H' it = some (.list xs) → okX k xs → xs.length ≤ 9 → Q (.ref r) H') : GG (d + 1) 37 [.ref l] H Q := by
  refine u_law_items ?_
  refine x_asg ?_
  simp only [WE, WEs, WAnd, WOr, WCond, WSrc, optW, gt, st, tl, truthV, cmpV, binV, reduceCtorEq, decide_true, decide_false, Bool.not_true, Bool.not_false]
  refine ⟨Nat.le_of_ble_eq_true rfl, fun D1 h1 => ?_⟩
  refine ⟨Nat.zero_le _, fun D2 h2 => ?_⟩
  have n1 : l ≠ D1 := ne_of hl h1
  have n2 : l ≠ D2 := ne_of hl (unset h2)
  have n12 : D1 ≠ D2 := ne_of set_eq h2
  have e2 : Ext H ((H.set D1 (.list kinds)).set D2 (.list [])) := (Ext.set h1).put (unset h2)
  have fin : ∀ k : K3, WSs (GG d) iniT b_items2 [some (.ref l), some (.str k.nm), none, none, none] ((H.set D1 (.list kinds)).set D2 (.list [])) (fun fl _ H' => Q (match fl with | .ret v => v | .next => .none) H') := by
    intro k
    exact s_items2 e2 (e2 _ _ hl) hn fun r H' it xs => h r H' k it xs
  have hlen : (ns.map PV.int).length ≤ big := by rw [List.length_map]; unfold big; omega
  simp only [eqV, set_ne n2, set_ne n1, hl, seqOf, set_eq]
  rw [if_pos ⟨hlen, Nat.zero_le _, upto_plain ns, rfl⟩]
  simp only [Option.map_some]
  cases ns with
  | nil =>
    simp only [List.map_nil, decide_true, Bool.not_true, idxV, set_ne n12, set_eq]
    obtain ⟨k, hk⟩ := kinds_at (show 0 < 3 by decide)
    simp only [show atV [PV.str (Str.ofString "integer"), PV.str (Str.ofString "logical"), PV.str (Str.ofString "character")] 0 = some (.str k.nm) from hk]
    exact fin k
  | cons n0 r =>
    have ne : decide ((n0 :: r).map PV.int = []) = false := by simp
    simp only [ne, Bool.not_false, idxV, set_ne n2, set_ne n1, hl]
    have h0 : atV ((n0 :: r).map PV.int) 0 = some (.int n0) := at_nat (i := 0) hlen (by simp)
    simp only [h0]
    rw [if_neg (by decide)]
    have e3 : (if n0 < 0 then -n0 else n0).fmod 3 = ((n0.natAbs % 3 : Nat) : Int) := fmod_nat n0 3 (by decide)
    simp only [e3, set_ne n12, set_eq]
    obtain ⟨k, hk⟩ := kinds_at (Nat.mod_lt n0.natAbs (show 0 < 3 by decide))
    simp only [show atV [PV.str (Str.ofString "integer"), PV.str (Str.ofString "logical"), PV.str (Str.ofString "character")] ((n0.natAbs % 3 : Nat) : Int) = some (.str k.nm) from hk]
    exact fin k
end Mine
end

section
set_option maxRecDepth 100000
set_option linter.unusedVariables false
set_option linter.unusedSimpArgs false
namespace Mine
open PySem

theorem s_law_words {d : Nat} {H : PH} {k : K3} {l : Nat} {xs : List PV} {Q : PV → PH → Prop} (hl : H l = some (.list xs)) (hb : xs.length ≤ big) (hx : okX k xs) (h : ∀ r H', Ext H H' → H' r = some (.list (xs.map (word k))) → Q (.ref r) H') : GG (d + 1) 38 [.str k.nm, .ref l] H Q := by
  refine u_law_words ?_
  refine x_asg ?_
  simp only [WE, WEs, WAnd, WOr, WCond, WSrc, optW, gt, st, tl, truthV, cmpV, binV, reduceCtorEq, decide_true, decide_false, Bool.not_true, Bool.not_false]
  refine ⟨Nat.zero_le _, fun w hw => ?_⟩
  have nl : l ≠ w := ne_of hl hw
  refine x_for ?_
  simp only [WE, WEs, WAnd, WOr, WCond, WSrc, optW, gt, st, tl, truthV, cmpV, binV, reduceCtorEq, decide_true, decide_false, Bool.not_true, Bool.not_false, set_ne nl, hl]
  refine ⟨hb, ?_⟩
  refine loopW_ix xs (fun i σ H' => ∃ o3, σ = [some (.str k.nm), some (.ref l), some (.ref w), o3] ∧ Ext H H' ∧ H' w = some (.list ((xs.take i).map (word k)))) (fun i hi σ H' hI Q' kn kr => ?_) (fun σ H' hI => ?_) ⟨_, rfl, Ext.set hw, set_eq⟩
  · obtain ⟨o3, rfl, e, hw'⟩ := hI
    have hlen : ((xs.take i).map (word k)).length ≤ big := by rw [List.length_map, List.length_take]; omega
    have app : ∀ v, v = word k xs[i] → Q' .next [some (.str k.nm), some (.ref l), some (.ref w), some xs[i]] (H'.set w (.list ((xs.take i).map (word k) ++ [v]))) := by
      intro v hv
      refine kn _ _ (show (H'.set w _) l = _ by rw [set_ne nl]; exact e _ _ hl) ⟨_, rfl, e.put hw, ?_⟩
      rw [set_eq, take_succ_get xs i hi, List.map_append, hv]; rfl
    refine x_ifs ?_
    simp only [WE, WEs, WAnd, WOr, WCond, WSrc, optW, gt, st, tl, truthV, cmpV, binV, reduceCtorEq, decide_true, decide_false, Bool.not_true, Bool.not_false, eqV]
    rcases hx _ (List.getElem_mem hi) with q | q
    · simp only [q, decide_true]
      refine x_app ?_
      simp only [WE, WEs, WAnd, WOr, WCond, WSrc, optW, gt, st, tl, truthV, cmpV, binV, reduceCtorEq, decide_true, decide_false, Bool.not_true, Bool.not_false, hw']
      refine ⟨⟨_, rfl⟩, hlen, ?_⟩
      refine x_nil ?_
      refine x_nil ?_
      have := app .none (by rw [q]; cases k <;> rfl)
      rw [q] at this
      exact this
    · have nn := U_ne q
      simp only [nn, decide_false]
      cases k with
      | C =>
        simp only [show decide (K3.C.nm = "character") = true from rfl]
        refine x_app ?_
        simp only [WE, WEs, WAnd, WOr, WCond, WSrc, optW, gt, st, tl, truthV, cmpV, binV, reduceCtorEq, decide_true, decide_false, Bool.not_true, Bool.not_false, hw']
        refine ⟨⟨_, rfl⟩, hlen, ?_⟩
        refine x_nil ?_
        refine x_nil ?_
        refine app _ ?_
        rcases U_shape q q with ⟨a, b, e1, _⟩ | ⟨a, b, e1, _⟩ <;> rw [e1] <;> rfl
      | L =>
        obtain ⟨i0, hi0⟩ := U_log _ q
        simp only [show decide (K3.L.nm = "character") = false from rfl]
        refine x_ifs ?_
        simp only [WE, WEs, WAnd, WOr, WCond, WSrc, optW, gt, st, tl, truthV, cmpV, binV, reduceCtorEq, decide_true, decide_false, Bool.not_true, Bool.not_false, eqV, show decide (K3.L.nm = "logical") = true from rfl]
        refine x_app ?_
        simp only [WE, WEs, WAnd, WOr, WCond, WSrc, optW, gt, st, tl, truthV, cmpV, binV, reduceCtorEq, decide_true, decide_false, Bool.not_true, Bool.not_false, hw', hi0, eqV]
        refine ⟨⟨_, rfl⟩, ?_⟩
        rw [hi0] at app
        by_cases q1 : i0 = 1
        · simp only [q1, decide_true]
          rw [q1] at app
          refine ⟨hlen, ?_⟩
          refine x_nil ?_
          refine x_nil ?_
          refine x_nil ?_
          exact app _ rfl
        · simp only [q1, decide_false]
          refine ⟨hlen, ?_⟩
          refine x_nil ?_
          refine x_nil ?_
          refine x_nil ?_
          exact app _ (if_neg (fun h => q1 (PV.int.inj h))).symm
      | I =>
        obtain ⟨i0, hi0, hb0⟩ := U_int _ q
        simp only [show decide (K3.I.nm = "character") = false from rfl]
        refine x_ifs ?_
        simp only [WE, WEs, WAnd, WOr, WCond, WSrc, optW, gt, st, tl, truthV, cmpV, binV, reduceCtorEq, decide_true, decide_false, Bool.not_true, Bool.not_false, eqV, show decide (K3.I.nm = "logical") = false from rfl]
        refine x_app ?_
        simp only [WE, WEs, WAnd, WOr, WCond, WSrc, optW, gt, st, tl, truthV, cmpV, binV, reduceCtorEq, decide_true, decide_false, Bool.not_true, Bool.not_false, hw', hi0]
        rw [hi0] at app
        refine ⟨⟨_, rfl⟩, hb0, hlen, ?_⟩
        refine x_nil ?_
        refine x_nil ?_
        refine x_nil ?_
        exact app _ rfl
  · obtain ⟨o3, rfl, e, hw'⟩ := hI
    rw [List.take_length] at hw'
    refine x_ret ?_
    simp only [WE, WEs, WAnd, WOr, WCond, WSrc, optW, gt, st, tl, truthV, cmpV, binV, reduceCtorEq, decide_true, decide_false, Bool.not_true, Bool.not_false]
    exact h w H' e hw'

structure InOrd (xs cs : List PV) : Prop where
  len : cs.length = xs.length
  none : ∀ i (h : i < xs.length) (h' : i < cs.length), xs[i] = .none → cs[i] = .none
  ord : ∀ i j (h : i < xs.length) (h' : i < cs.length) (g : j < xs.length) (g' : j < cs.length), xs[i] ≠ .none → xs[j] ≠ .none → ∃ a b : Int, cs[i] = .int a ∧ cs[j] = .int b ∧ ltP xs[i] xs[j] = decide (a < b)

theorem s_law_in_order {d : Nat} {H : PH} {k : K3} {l c : Nat} {xs cs : List PV} {Q : PV → PH → Prop} (hl : H l = some (.list xs)) (hc : H c = some (.list cs)) (hb : xs.length ≤ big) (hx : okX k xs) (ho : InOrd xs cs) (h : Q (.bool true) H) : GG (d + 1) 39 [.ref l, .ref c] H Q := by
  have hbc : cs.length ≤ big := by rw [ho.len]; exact hb
  refine u_law_in_order ?_
  refine x_for ?_
  simp only [WE, WEs, WAnd, WOr, WCond, WSrc, optW, gt, st, tl, truthV, cmpV, binV, reduceCtorEq, decide_true, decide_false, Bool.not_true, Bool.not_false, lenV, hl, if_pos hb, rng1 xs.length hb]
  refine loopW_ix (upto xs.length) (fun i σ H' => ∃ o2 o3, σ = [some (.ref l), some (.ref c), o2, o3] ∧ H' = H) (fun i hi σ H' hI Q' kn kr => ?_) (fun σ H' hI => ?_) ⟨_, _, rfl, rfl⟩
  · obtain ⟨o2, o3, rfl, rfl⟩ := hI
    rw [upto_len] at hi
    refine x_for ?_
    simp only [WE, WEs, WAnd, WOr, WCond, WSrc, optW, gt, st, tl, truthV, cmpV, binV, reduceCtorEq, decide_true, decide_false, Bool.not_true, Bool.not_false, upto_get, lenV, hl, if_pos hb, rng1 xs.length hb]
    refine loopW_ix (upto xs.length) (fun j σ H1 => ∃ o3, σ = [some (.ref l), some (.ref c), some (.int (i : Nat)), o3] ∧ H1 = H') (fun j hj σ H1 hJ Q2 kn2 kr2 => ?_) (fun σ H1 hJ => ?_) ⟨_, rfl, rfl⟩
    · obtain ⟨o3, rfl, rfl⟩ := hJ
      rw [upto_len] at hj
      have hic : i < cs.length := by rw [ho.len]; exact hi
      have hjc : j < cs.length := by rw [ho.len]; exact hj
      have go : Q2 .next [some (.ref l), some (.ref c), some (.int (i : Nat)), some (.int (j : Nat))] H1 := kn2 _ _ trivial ⟨_, rfl, rfl⟩
      refine x_ifs ?_
      simp only [WE, WEs, WAnd, WOr, WCond, WSrc, optW, gt, st, tl, truthV, cmpV, binV, reduceCtorEq, decide_true, decide_false, Bool.not_true, Bool.not_false, upto_get, idxV, hl, at_nat hb hi]
      by_cases qi : xs[i] = .none
      · simp only [qi, decide_true]
        refine x_ifs ?_
        simp only [WE, WEs, WAnd, WOr, WCond, WSrc, optW, gt, st, tl, truthV, cmpV, binV, reduceCtorEq, decide_true, decide_false, Bool.not_true, Bool.not_false, idxV, hc, at_nat hbc hic, ho.none i hi hic qi]
        refine x_nil ?_
        refine x_nil ?_
        exact x_nil go
      · simp only [qi, decide_false]
        refine x_ifs ?_
        simp only [WE, WEs, WAnd, WOr, WCond, WSrc, optW, gt, st, tl, truthV, cmpV, binV, reduceCtorEq, decide_true, decide_false, Bool.not_true, Bool.not_false, idxV, hl, at_nat hb hj]
        by_cases qj : xs[j] = .none
        · simp only [qj, decide_true, Bool.not_true]
          refine x_nil ?_
          refine x_nil ?_
          exact x_nil go
        · simp only [qj, decide_false, Bool.not_false]
          obtain ⟨a, b, ea, eb, eo⟩ := ho.ord i j hi hic hj hjc qi qj
          have mi := (hx _ (List.getElem_mem hi)).resolve_left qi
          have mj := (hx _ (List.getElem_mem hj)).resolve_left qj
          have e1 := cmpV_lt (H := H1) mi mj
          refine x_ifs ?_
          simp only [WE, WEs, optW, gt, st, tl, truthV, idxV, hl, hc, at_nat hb hi, at_nat hb hj, at_nat hbc hic, at_nat hbc hjc, e1, ea, eb, eo]
          simp only [cmpV]
          have e2 : (!(decide (a < b) == decide (a < b))) = false := by simp
          simp only [e2]
          refine x_nil ?_
          refine x_nil ?_
          refine x_nil ?_
          exact x_nil go
    · obtain ⟨o3, rfl, rfl⟩ := hJ
      refine x_nil ?_
      exact kn _ _ trivial ⟨_, _, rfl, rfl⟩
  · obtain ⟨o2, o3, rfl, rfl⟩ := hI
    refine x_ret ?_
    simp only [WE, WEs, WAnd, WOr, WCond, WSrc, optW, gt, st, tl, truthV, cmpV, binV, reduceCtorEq, decide_true, decide_false, Bool.not_true, Bool.not_false]
    exact h
end Mine
end

section
set_option maxRecDepth 100000
set_option linter.unusedVariables false
set_option linter.unusedSimpArgs false
namespace Mine
open PySem

theorem U_tri : ∀ k : K3, ((U k).all fun x => (U k).all fun y => (ltP x y || ltP y x || decide (x = y)) && !(ltP x y && ltP y x)) = true := by
  intro k; cases k <;> decide +kernel
theorem U_inj : ∀ k : K3, ((U k).all fun x => (U k).all fun y => !decide (word k x = word k y) || decide (x = y)) = true := by
  intro k; cases k <;> decide +kernel
theorem U_strange : ∀ k : K3, ((U k).all fun x => !decide (word k x = .str "strange")) = true := by
  intro k; cases k <;> decide +kernel
theorem inj {k : K3} {x y : PV} (hx : x ∈ U k) (hy : y ∈ U k) (h : word k x = word k y) : x = y := by
  have := List.all_eq_true.mp (List.all_eq_true.mp (U_inj k) x hx) y hy
  simpa [h] using this
theorem tri {k : K3} {x y : PV} (hx : x ∈ U k) (hy : y ∈ U k) : (ltP x y = true ∨ ltP y x = true ∨ x = y) ∧ ¬ (ltP x y = true ∧ ltP y x = true) := by
  have := List.all_eq_true.mp (List.all_eq_true.mp (U_tri k) x hx) y hy
  simp only [Bool.and_eq_true, Bool.or_eq_true, Bool.not_eq_true', decide_eq_true_eq, Bool.and_eq_false_iff] at this
  obtain ⟨h1, h2⟩ := this
  refine ⟨?_, fun ⟨a, b⟩ => ?_⟩
  · rcases h1 with (h | h) | h
    · exact .inl h
    · exact .inr (.inl h)
    · exact .inr (.inr h)
  · rcases h2 with h | h
    · rw [a] at h; cases h
    · rw [b] at h; cases h

theorem mem_ins {ks : List Str} {s t : Str} : t ∈ ins ks s ↔ t ∈ ks ∨ t = s := by
  unfold ins
  split
  · rename_i q
    exact ⟨.inl, fun h => h.elim id fun e => e ▸ q⟩
  · rw [List.mem_append, List.mem_singleton]
theorem mem_dd {W : List PV} {s : Str} : s ∈ dd W ↔ .str s ∈ W := by
  have : ∀ n, n ≤ W.length → (s ∈ dd (W.take n) ↔ PV.str s ∈ W.take n) := by
    intro n
    induction n with
    | zero => intro _; simp [dd]
    | succ n ih =>
      intro hn
      rw [take_succ_get W n (by omega), dd_snoc, mem_snocP, ← ih (by omega)]
      generalize W[n] = v
      cases v with
      | str t =>
        show s ∈ ins _ t ↔ _
        rw [mem_ins]
        exact or_congr Iff.rfl ⟨fun e => by rw [e], fun e => PV.str.inj e⟩
      | _ => exact ⟨.inl, fun h => h.elim id fun e => by cases e⟩
  have := this W.length (Nat.le_refl _)
  rwa [List.take_length] at this
theorem dd_sub (W : List PV) : ((dd W).map PV.str).Sublist W := by
  have : ∀ n, n ≤ W.length → ((dd (W.take n)).map PV.str).Sublist (W.take n) := by
    intro n
    induction n with
    | zero => intro _; exact List.Sublist.slnil
    | succ n ih =>
      intro hn
      rw [take_succ_get W n (by omega), dd_snoc]
      have i1 := ih (by omega)
      generalize W[n] = v
      cases v with
      | str t =>
        show ((ins _ t).map _).Sublist _
        unfold ins
        split
        · exact i1.trans (List.sublist_append_left _ _)
        · rw [List.map_append]; exact i1.append (List.Sublist.refl _)
      | _ => exact i1.trans (List.sublist_append_left _ _)
  have := this W.length (Nat.le_refl _)
  rwa [List.take_length] at this

/-- the words of the items, in the sorter's order -/
noncomputable def sw (k : K3) (xs : List PV) (L : List Nat) : List PV := L.map fun i => word k (xs.getD i .none)

theorem mem_kept {xs : List PV} {i : Nat} (h : i < xs.length) : i ∈ kept xs ↔ xs[i] ≠ .none := by
  unfold kept keepI
  rw [List.mem_filter, List.mem_range]
  have e : xs.getD i .none = xs[i] := by simp only [List.getD, List.getElem?_eq_getElem h, Option.getD_some]
  rw [e]
  simp [h]
theorem mem_sw {k : K3} {xs : List PV} {L : List Nat} (hx : okX k xs) (hp : L.Perm (kept xs)) {s : Str} : .str s ∈ sw k xs L ↔ .str s ∈ xs.map (word k) := by
  unfold sw
  rw [List.mem_map, List.mem_map]
  constructor
  · rintro ⟨i, hi, e⟩
    obtain ⟨li, mi⟩ := kept_ok hx i (hp.mem_iff.mp hi)
    have eg : xs.getD i .none = xs[i] := by simp only [List.getD, List.getElem?_eq_getElem li, Option.getD_some]
    rw [eg] at e
    exact ⟨_, List.getElem_mem li, e⟩
  · rintro ⟨x, hm, e⟩
    obtain ⟨i, li, rfl⟩ := List.mem_iff_getElem.mp hm
    have eg : xs.getD i .none = xs[i] := by simp only [List.getD, List.getElem?_eq_getElem li, Option.getD_some]
    refine ⟨i, hp.mem_iff.mpr ((mem_kept li).mpr ?_), by rw [eg]; exact e⟩
    intro q
    rw [q] at e
    cases k <;> cases e
theorem sw_pair {k : K3} {xs : List PV} {L : List Nat} (hx : okX k xs) (hp : L.Perm (kept xs)) (hs : Sorted k xs L) : (sw k xs L).Pairwise fun u v => ∀ x ∈ U k, ∀ y ∈ U k, word k x = u → word k y = v → leV x y = true := by
  unfold sw
  rw [List.pairwise_map]
  refine List.Pairwise.imp_of_mem ?_ hs
  intro i j hi hj hij x mx y my ex ey
  obtain ⟨li, mi⟩ := kept_ok hx i (hp.mem_iff.mp hi)
  obtain ⟨lj, mj⟩ := kept_ok hx j (hp.mem_iff.mp hj)
  obtain ⟨_, e1⟩ := it_ok (kept_ok hx i (hp.mem_iff.mp hi))
  obtain ⟨_, e2⟩ := it_ok (kept_ok hx j (hp.mem_iff.mp hj))
  have g1 : xs.getD i .none = xs[i] := by simp only [List.getD, List.getElem?_eq_getElem li, Option.getD_some]
  have g2 : xs.getD j .none = xs[j] := by simp only [List.getD, List.getElem?_eq_getElem lj, Option.getD_some]
  rw [g1] at ex; rw [g2] at ey
  rw [inj mx mi ex, inj my mj ey, ← e1, ← e2]
  exact hij

theorem word_of {k : K3} {x : PV} (hx : x ∈ U k) : ∃ s, word k x = .str s := by
  rcases word_str (.inr hx) with q | q
  · exfalso
    rcases U_shape hx hx with ⟨a, b, rfl, _⟩ | ⟨a, b, rfl, _⟩
    · cases k with
      | I => cases q
      | L => unfold word at q; dsimp only at q; split at q <;> cases q
      | C => simp only [U, List.mem_cons, reduceCtorEq, List.not_mem_nil, or_self] at hx
    · cases k with
      | I => simp only [U, List.mem_cons, reduceCtorEq, List.not_mem_nil, or_self] at hx
      | L => simp only [U, List.mem_cons, reduceCtorEq, List.not_mem_nil, or_self] at hx
      | C => cases q
  · exact q

theorem in_order {k : K3} {xs : List PV} {L : List Nat} (hx : okX k xs) (hp : L.Perm (kept xs)) (hs : Sorted k xs L) : InOrd xs ((xs.map (word k)).map (code (dd (sw k xs L)))) := by
  have nd := dd_nodup (sw k xs L)
  have pw : (dd (sw k xs L)).Pairwise fun s t => ∀ x ∈ U k, ∀ y ∈ U k, word k x = .str s → word k y = .str t → leV x y = true := by
    rw [← List.pairwise_map (f := PV.str) (R := fun u v => ∀ x ∈ U k, ∀ y ∈ U k, word k x = u → word k y = v → leV x y = true)]
    exact (sw_pair hx hp hs).sublist (dd_sub _)
  refine ⟨by simp, fun i h h' e => ?_, fun i j h h' g g' ni nj => ?_⟩
  · rw [List.getElem_map, List.getElem_map, e]; cases k <;> rfl
  · have mi := (hx _ (List.getElem_mem h)).resolve_left ni
    have mj := (hx _ (List.getElem_mem g)).resolve_left nj
    obtain ⟨s, es⟩ := word_of mi
    obtain ⟨t, et⟩ := word_of mj
    have ms : s ∈ dd (sw k xs L) := mem_dd.mpr ((mem_sw hx hp).mpr (List.mem_map.mpr ⟨_, List.getElem_mem h, es⟩))
    have mt : t ∈ dd (sw k xs L) := mem_dd.mpr ((mem_sw hx hp).mpr (List.mem_map.mpr ⟨_, List.getElem_mem g, et⟩))
    refine ⟨_, _, by rw [List.getElem_map, List.getElem_map, es]; exact code_mem ms, by rw [List.getElem_map, List.getElem_map, et]; exact code_mem mt, ?_⟩
    have ls := List.idxOf_lt_length_of_mem ms
    have lt := List.idxOf_lt_length_of_mem mt
    have A : ∀ {s t : Str} {x y : PV}, s ∈ dd (sw k xs L) → t ∈ dd (sw k xs L) → x ∈ U k → y ∈ U k → word k x = .str s → word k y = .str t → (dd (sw k xs L)).idxOf s < (dd (sw k xs L)).idxOf t → leV x y = true := by
      intro s t x y ms mt mx my ex ey hlt
      have ls := List.idxOf_lt_length_of_mem ms
      have lt := List.idxOf_lt_length_of_mem mt
      have := List.pairwise_iff_getElem.mp pw _ _ ls lt hlt
      rw [List.getElem_idxOf ls, List.getElem_idxOf lt] at this
      exact this x mx y my ex ey
    obtain ⟨t1, t2⟩ := tri mi mj
    have st : s = t → xs[i] = xs[j] := fun e => inj mi mj (by rw [es, et, e])
    by_cases q : ltP xs[i] xs[j] = true
    · rw [q]
      refine (decide_eq_true ?_).symm
      have ne : (dd (sw k xs L)).idxOf s ≠ (dd (sw k xs L)).idxOf t := by
        intro e
        have e2 : s = t := by rw [← List.getElem_idxOf ls, ← List.getElem_idxOf lt]; simp only [e]
        rw [st e2] at q t2
        exact t2 ⟨q, q⟩
      have nlt : ¬ (dd (sw k xs L)).idxOf t < (dd (sw k xs L)).idxOf s := by
        intro h
        have := A mt ms mj mi et es h
        unfold leV cmpI at this
        have f : ltP xs[j] xs[i] = false := by
          cases f : ltP xs[j] xs[i] with
          | false => rfl
          | true => exact (t2 ⟨q, f⟩).elim
        rw [f, q] at this
        exact absurd this (by decide)
      omega
    · have q' : ltP xs[i] xs[j] = false := by simpa using q
      rw [q']
      refine (decide_eq_false ?_).symm
      intro h
      have h : (dd (sw k xs L)).idxOf s < (dd (sw k xs L)).idxOf t := by omega
      have := A ms mt mi mj es et h
      unfold leV cmpI at this
      rw [q'] at this
      have f : ltP xs[j] xs[i] = false := by
        cases f : ltP xs[j] xs[i] with
        | false => rfl
        | true => rw [f] at this; exact absurd this (by decide)
      rcases t1 with a | a | a
      · exact q a
      · rw [f] at a; cases a
      · have : s = t := by
          have := es.symm.trans ((congrArg (word k) a).trans et)
          exact PV.str.inj this
        rw [this] at h
        exact Nat.lt_irrefl _ h
end Mine
end

section
set_option maxRecDepth 100000
set_option linter.unusedVariables false
set_option linter.unusedSimpArgs false
namespace Mine
open PySem

theorem nd_rev {D : List Str} (h : D.Nodup) : D.reverse.Nodup := List.pairwise_reverse.mpr (List.Pairwise.imp (fun q => Ne.symm q) h)
/-- the words ws, each of them a level of D, each level of D one of them -/
structure Cov (ws : List PV) (D : List Str) : Prop where
  nd : D.Nodup
  iff : ∀ s, .str s ∈ ws ↔ s ∈ D
  shape : ∀ w ∈ ws, w = .none ∨ ∃ s, w = .str s
theorem Cov.rev {ws : List PV} {D : List Str} (c : Cov ws D) : Cov ws D.reverse :=
  ⟨nd_rev c.nd, fun s => (c.iff s).trans List.mem_reverse.symm, c.shape⟩

theorem texts_back {ws : List PV} {D : List Str} (h : ∀ s, .str s ∈ ws → s ∈ D) (sh : ∀ w ∈ ws, w = .none ∨ ∃ s, w = .str s) : (ws.map (code D)).map (tx D) = ws := by
  rw [List.map_map]
  refine (List.map_congr_left (g := id) fun w hw => ?_).trans (List.map_id _)
  dsimp only [Function.comp, id]
  rcases sh w hw with rfl | ⟨s, rfl⟩
  · rfl
  · have hm := h s hw
    have hl := List.idxOf_lt_length_of_mem hm
    rw [code_mem hm]
    show PV.str (D.getD ((D.idxOf s : Int) + 1 - 1).toNat "") = _
    have : ((D.idxOf s : Int) + 1 - 1).toNat = D.idxOf s := by omega
    rw [this]
    simp only [List.getD, List.getElem?_eq_getElem hl, Option.getD_some, List.getElem_idxOf hl]
theorem code_in {ws : List PV} {D : List Str} (nd : D.Nodup) {i : Nat} (h : i < D.length) : PV.int (i + 1) ∈ ws.map (code D) ↔ .str D[i] ∈ ws := by
  rw [List.mem_map]
  constructor
  · rintro ⟨w, hw, e⟩
    cases w with
    | str s =>
      by_cases q : s ∈ D
      · rw [code_mem q] at e
        have hl := List.idxOf_lt_length_of_mem q
        have : D.idxOf s = i := by have := PV.int.inj e; omega
        subst this
        rw [List.getElem_idxOf hl]; exact hw
      · rw [code_not q] at e; cases e
    | _ => cases e
  · intro hw
    exact ⟨_, hw, code_self nd h⟩

theorem idx_rev {D : List Str} (nd : D.Nodup) {s : Str} (h : s ∈ D) : D.reverse.idxOf s = D.length - 1 - D.idxOf s := by
  have hl := List.idxOf_lt_length_of_mem h
  have hr : D.length - 1 - D.idxOf s < D.reverse.length := by rw [List.length_reverse]; omega
  have e : D.reverse[D.length - 1 - D.idxOf s] = s := by
    rw [List.getElem_reverse]
    have : D.length - 1 - (D.length - 1 - D.idxOf s) = D.idxOf s := by omega
    simp only [this]
    exact List.getElem_idxOf hl
  have := nd_idx (nd_rev nd) hr
  rw [e] at this
  exact this
theorem idx_cons {D : List Str} {s t : Str} (h : s ≠ t) : (t :: D).idxOf s = D.idxOf s + 1 := by
  rw [List.idxOf_cons]
  have : (t == s) = false := by simpa using fun e : t = s => h e.symm
  rw [this]; rfl

noncomputable def flip (D : List Str) : List Str := "strange" :: D.reverse
theorem flip_nd {D : List Str} (nd : D.Nodup) (hs : ("strange" : Str) ∉ D) : (flip D).Nodup := List.nodup_cons.mpr ⟨fun h => hs (List.mem_reverse.mp h), nd_rev nd⟩

noncomputable def dueF (n : Nat) : PV → PV
  | .int m => .int (n + 2 - m)
  | _ => .none
theorem due_eq {ws : List PV} {D : List Str} (c : Cov ws D) (hs : ("strange" : Str) ∉ D) : (ws.map (code D)).map (dueF D.length) = ws.map (code (flip D)) := by
  rw [List.map_map]
  refine List.map_congr_left fun w hw => ?_
  dsimp only [Function.comp]
  rcases c.shape w hw with rfl | ⟨s, rfl⟩
  · rfl
  · have hm := (c.iff s).mp hw
    have hl := List.idxOf_lt_length_of_mem hm
    have ne : s ≠ "strange" := by rintro rfl; exact hs hm
    have hf : s ∈ flip D := List.mem_cons_of_mem _ (List.mem_reverse.mpr hm)
    rw [code_mem hm, code_mem hf]
    show PV.int _ = PV.int _
    unfold flip
    rw [idx_cons ne, idx_rev c.nd hm]
    congr 1
    omega
theorem sub_eq {ws : List PV} {D : List Str} (c : Cov ws D) (hs : ("strange" : Str) ∉ D) : (ws.map (code (flip D))).map (sub 1) = ws.map (code D.reverse) := by
  rw [List.map_map]
  refine List.map_congr_left fun w hw => ?_
  dsimp only [Function.comp]
  rcases c.shape w hw with rfl | ⟨s, rfl⟩
  · rfl
  · have hm := (c.iff s).mp hw
    have ne : s ≠ "strange" := by rintro rfl; exact hs hm
    have hr : s ∈ D.reverse := List.mem_reverse.mpr hm
    have hf : s ∈ flip D := List.mem_cons_of_mem _ hr
    rw [code_mem hr, code_mem hf]
    show PV.int _ = PV.int _
    unfold flip
    rw [idx_cons ne]
    congr 1
    omega
theorem sub_zero {ws : List PV} {D : List Str} : (ws.map (code D)).map (sub 0) = ws.map (code D) := by
  rw [List.map_map]
  refine List.map_congr_left fun w hw => ?_
  dsimp only [Function.comp]
  rcases code_ok D w with q | ⟨m, q, _, _⟩
  · rw [q]; rfl
  · rw [q]; show PV.int _ = _; congr 1; omega
theorem used_flip {ws : List PV} {D : List Str} (c : Cov ws D) (hs : ("strange" : Str) ∉ D) : ∀ i, i < (flip D).length → (PV.int (i + 1) ∈ ws.map (code (flip D)) ↔ 1 ≤ i) := by
  intro i hi
  rw [code_in (flip_nd c.nd hs) hi, c.iff]
  cases i with
  | zero => exact ⟨fun h => (hs h).elim, fun h => by omega⟩
  | succ n =>
    refine ⟨fun _ => by omega, fun _ => ?_⟩
    have : n < D.reverse.length := by unfold flip at hi; rw [List.length_cons] at hi; omega
    show (D.reverse)[n] ∈ D
    exact List.mem_reverse.mp (List.getElem_mem this)
theorem used_all {ws : List PV} {D : List Str} (c : Cov ws D) : ∀ i, i < D.length → (PV.int (i + 1) ∈ ws.map (code D) ↔ 0 ≤ i) := by
  intro i hi
  rw [code_in c.nd hi, c.iff]
  exact ⟨fun _ => Nat.zero_le _, fun _ => List.getElem_mem hi⟩

theorem words_cov {k : K3} {xs : List PV} {L : List Nat} (hx : okX k xs) (hp : L.Perm (kept xs)) : Cov (xs.map (word k)) (dd (sw k xs L)) :=
  ⟨dd_nodup _, fun s => (mem_sw hx hp).symm.trans mem_dd.symm, fun w hw => by obtain ⟨x, hm, rfl⟩ := List.mem_map.mp hw; exact word_str (hx x hm)⟩
theorem no_strange {k : K3} {xs : List PV} {D : List Str} (hx : okX k xs) (c : Cov (xs.map (word k)) D) : ("strange" : Str) ∉ D := by
  intro h
  obtain ⟨x, hm, e⟩ := List.mem_map.mp ((c.iff _).mpr h)
  rcases hx x hm with rfl | hu
  · cases k <;> cases e
  · have := List.all_eq_true.mp (U_strange k) x hu
    rw [e] at this
    simp at this

noncomputable def wk (u : PV) : PV → Option (Str × PV)
  | .str s => some (s, u)
  | _ => none
/-- the dict of the words -/
theorem dict_keys (u : PV) (ws : List PV) : ∀ acc : List (Str × PV), ((ws.filterMap (wk u)).foldl (fun acc u => sto acc u.1 u.2) acc).map (·.1) = ws.foldl ddS (acc.map (·.1)) := by
  induction ws with
  | nil => intro acc; rfl
  | cons w ws ih =>
    intro acc
    cases w with
    | str s =>
      rw [List.filterMap_cons]
      dsimp only [wk]
      rw [List.foldl_cons, ih, List.foldl_cons]
      congr 1
      rw [sto_keys]; rfl
    | _ => rw [List.filterMap_cons]; dsimp only [wk]; rw [ih, List.foldl_cons]; rfl
theorem nd_len {A B : List Str} (ha : A.Nodup) (hb : B.Nodup) (h : ∀ s, s ∈ A ↔ s ∈ B) : A.length = B.length:= by
  exact ((List.perm_ext_iff_of_nodup ha hb).mpr h).length_eq
theorem dict_len {ws : List PV} {D : List Str} (c : Cov ws D) (u : PV) : ((ws.filterMap (wk u)).foldl (fun acc u => sto acc u.1 u.2) []).length = D.length := by
  have e := dict_keys u ws []
  have : (dd ws).length = D.length := nd_len (dd_nodup ws) c.nd fun s => mem_dd.trans (c.iff s)
  rw [← this, show dd ws = _ from e.symm, List.length_map]

theorem eqV_same {H : PH} {a b : Nat} {xs : List PV} (ha : H a = some (.list xs)) (hb : H b = some (.list xs)) (hl : xs.length ≤ big) (hp : xs.all plainV = true) : eqV H (.ref a) (.ref b) = some true := by
  simp only [eqV, ha, hb, seqOf]
  rw [if_pos ⟨hl, hl, hp, hp⟩]
  simp
theorem plain_ws {ws : List PV} (sh : ∀ w ∈ ws, w = .none ∨ ∃ s, w = .str s) : ws.all plainV = true := by
  rw [List.all_eq_true]; intro w hw
  rcases sh w hw with rfl | ⟨s, rfl⟩ <;> rfl
theorem plain_cs (D : List Str) (ws : List PV) : (ws.map (code D)).all plainV = true := by
  rw [List.all_eq_true]; intro w hw
  obtain ⟨x, _, rfl⟩ := List.mem_map.mp hw
  rcases code_ok D x with q | ⟨m, q, _, _⟩ <;> rw [q] <;> rfl
theorem plain_strs (D : List Str) : (D.map PV.str).all plainV = true := by
  rw [List.all_eq_true]; intro w hw
  obtain ⟨x, _, rfl⟩ := List.mem_map.mp hw; rfl
end Mine
end

section
set_option maxRecDepth 100000
set_option maxHeartbeats 1000000
set_option linter.unusedVariables false
set_option linter.unusedSimpArgs false
namespace Mine
open PySem

theorem rngA (n : Nat) (h : n + 1 ≤ big) : rngV [.int 1, .int ((n : Int) + 1)] = some ((List.range n).map fun (t : Nat) => PV.int ((t : Int) + 1)) := by
  unfold rngV
  dsimp only
  rw [if_pos ⟨by unfold big; decide, by omega⟩]
  congr 1
  unfold rngI
  have e : rngN 1 ((n : Int) + 1) 1 = n := by
    unfold rngN
    rw [if_pos (by decide)]
    split
    · rw [Int.ediv_one]; omega
    · omega
  rw [e]
  refine List.map_congr_left fun k _ => ?_
  congr 1; omega
theorem rngB (n : Nat) (h : n ≤ big) : rngV [.int ((n : Int) - 1), .int (-1), .int (-1)] = some ((List.range n).map fun (t : Nat) => PV.int ((n : Int) - 1 - (t : Int))) := by
  unfold rngV
  dsimp only
  rw [if_pos ⟨by unfold big at *; omega, by unfold big; decide, by unfold big; decide, by decide⟩]
  congr 1
  unfold rngI
  have e : rngN ((n : Int) - 1) (-1) (-1) = n := by
    unfold rngN
    rw [if_neg (by decide)]
    simp only [Int.neg_neg, Int.ediv_one]
    split <;> omega
  rw [e]
  refine List.map_congr_left fun k _ => ?_
  congr 1; omega

theorem Fac.it {H : PH} {r : Nat} {cs : List PV} {L : List Str} (f : Fac H r cs L) : ∃ I, attrV H (.ref r) "items" = some (.ref I) ∧ H I = some (.list cs) :=
  let ⟨I, A, lv, LI, cv, CI, a1, a2, _⟩ := f.ex
  ⟨I, a1.items, a2⟩

theorem x_call1 {Γ : GT} {ini f : Nat} {e : CE} {r : CEs} {σ : Sg} {H : PH} {K : PV → PH → Prop} (h : WE Γ ini e σ H fun v H1 => WEs Γ ini r σ H1 fun vs H2 => Γ f (v :: vs) H2 K) : WE Γ ini (.call f (.cons e r)) σ H K := h
theorem w_mkE {d i j : Nat} {σ : Sg} {H : PH} {k : Str} {it : Nat} {xs : List PV} {K : PV → PH → Prop} (ek : gt σ i = some (.str k)) (ei : gt σ j = some (.ref it)) (hit : H it = some (.list xs)) (bx : xs.length ≤ big)
    (h : ∀ r I H', Ext H H' → Vec H' r k I .none → H' I = some (.list xs) → K (.ref r) H') : WE (GG (d + 1)) iniT (.mk (.cons (.var i) (.cons (.list (.var j)) .nil))) σ H K := by
  simp only [WE, WEs, ek, ei, optW, itemsV, hit, if_pos bx]
  intro I hI
  have eI := Ext.set (o := .list xs) hI
  exact w_mk (xs := xs) set_eq fun r D H' e _ _ g1 g2 => h r I H' (eI.trans e) ⟨D, g1, g2⟩ (e _ _ set_eq)

theorem s_law {d : Nat} {H : PH} {l : Nat} {ns : List Int} {Q : PV → PH → Prop} (hl : H l = some (.ro (ns.map .int))) (hn : ns.length ≤ 63) (h : ∀ H', Q (.bool true) H') : GG (d + 12) 40 [.ref l] H Q := by
  refine u_law ?_
  refine x_unpk ?_
  simp only [WE, WEs, WAnd, WOr, WCond, WSrc, optW, gt, st, tl, truthV, cmpV, binV, reduceCtorEq, decide_true, decide_false, Bool.not_true, Bool.not_false]
  refine s_law_items hl hn fun r H1 k it xs e1 hr hit ok len => ?_
  have bx : xs.length ≤ big := by unfold big; omega
  have bx5 : xs.length ≤ 500 := by omega
  simp only [hr, st]
  refine x_asg ?_
  simp only [WE, WEs, WAnd, WOr, WCond, WSrc, optW, gt, st, tl, truthV, cmpV, binV, reduceCtorEq, decide_true, decide_false, Bool.not_true, Bool.not_false]
  refine s_law_words hit bx ok fun w H2 e2 hw => ?_
  refine x_asg ?_
  refine x_call1 ?_
  refine w_mkE rfl rfl (e2 _ _ hit) bx fun v1 I1 H3 e3 g1 g2 => ?_
  simp only [WE, WEs, WAnd, WOr, WCond, WSrc, optW, gt, st, tl, truthV, cmpV, binV, reduceCtorEq, decide_true, decide_false, Bool.not_true, Bool.not_false]
  refine ⟨Nat.zero_le _, fun ex hex => ?_⟩
  have eX := Ext.set (o := .list []) hex
  have s1 : Srt (H3.set ex (.list [])) k v1 xs := ⟨⟨I1, g1.ext eX, eX _ _ g2⟩, bx⟩
  refine s_make_A s1 bx5 ok set_eq fun f H4 L e4 hp hs f4 => ?_
  have c : Cov (xs.map (word k)) (dd (sw k xs L)) := words_cov ok hp
  have io : InOrd xs ((xs.map (word k)).map (code (dd (sw k xs L)))) := in_order ok hp hs
  have nst := no_strange ok c
  have lenD : (dd (sw k xs L)).length ≤ 9 := by
    have h1 := dd_len (sw k xs L)
    have h2 : (sw k xs L).length = L.length := by unfold sw; simp
    have h3 := hp.length_eq
    have h4 := List.length_filter_le (keepI xs) (List.range xs.length)
    rw [List.length_range] at h4
    unfold kept at h3
    omega
  replace f4 : Fac H4 f ((xs.map (word k)).map (code (dd (sw k xs L)))) (dd (sw k xs L)) := f4
  have E4 : Ext H2 H4 := (e3.trans eX).trans e4
  have w4 := E4 _ _ hw
  have it4 := E4 _ _ (e2 _ _ hit)
  have lws : (xs.map (word k)).length = xs.length := List.length_map ..
  generalize hws : xs.map (word k) = ws at *
  generalize dd (sw k xs L) = D at *
  have bD : D.length ≤ big := by unfold big; omega
  have bws : ws.length ≤ big := by omega
  have bcs : ∀ F : List Str, (ws.map (code F)).length ≤ big := fun F => by rw [List.length_map]; exact bws
  have okc : ∀ F : List Str, ∀ x ∈ ws.map (code F), okC F x := fun F x hx => by obtain ⟨y, _, rfl⟩ := List.mem_map.mp hx; exact code_ok F y
  have pws := plain_ws c.shape
  -- the first factor told back, in order
  refine x_ifs ?_
  simp only [WE, WEs, WAnd, WOr, WCond, WSrc, optW, gt, st, tl, truthV, cmpV, binV, reduceCtorEq, decide_true, decide_false, Bool.not_true, Bool.not_false]
  refine s_factor_texts f4 bD (bcs D) (okc D) fun ft H5 e5 _ h5 => ?_
  rw [texts_back (fun s hs => (c.iff s).mp hs) c.shape] at h5
  obtain ⟨I4, i4, j4⟩ := (f4.ext e5).it
  simp only [eqV_same h5 (e5 _ _ w4) bws pws, Option.map_some, Bool.not_true, WE, WEs, WAnd, WOr, WCond, WSrc, optW, gt, st, tl, truthV, cmpV, binV, reduceCtorEq, decide_true, decide_false, Bool.not_true, Bool.not_false, i4]
  refine s_law_in_order (e5 _ _ it4) j4 bx ok io ?_
  simp only [WE, WEs, WAnd, WOr, WCond, WSrc, optW, gt, st, tl, truthV, cmpV, binV, reduceCtorEq, decide_true, decide_false, Bool.not_true, Bool.not_false]
  refine x_nil ?_
  -- its levels
  refine x_asg ?_
  simp only [WE, WEs, WAnd, WOr, WCond, WSrc, optW, gt, st, tl, truthV, cmpV, binV, reduceCtorEq, decide_true, decide_false, Bool.not_true, Bool.not_false]
  refine s_level_texts (f4.ext e5) bD fun th H6 e6 _ h6 => ?_
  have e46 := e5.trans e6
  have bDm : (D.map PV.str).length ≤ big := by rw [List.length_map]; exact bD
  have w6 := e46 _ _ w4
  refine x_ifs ?_
  simp only [WE, WEs, WAnd, WOr, WCond, WSrc, optW, gt, st, tl, truthV, cmpV, binV, reduceCtorEq, decide_true, decide_false, Bool.not_true, Bool.not_false, lenV, h6, List.length_map, if_pos bD, w6]
  refine ⟨bws, ?_⟩
  refine dcompW_fm ws bws (wk (.int 1)) (· = H6) (fun H' e => by rw [e]; exact w6) (fun x hx H' e R hR => ?_) (fun x hx u hu H' e R hR => ?_) (fun x hx u hu H' e R hR => ?_) (fun H' e => ?_) rfl
  · subst e
    rcases c.shape x hx with rfl | ⟨s, rfl⟩
    · simp only [WE, WEs, WAnd, WOr, WCond, WSrc, optW, gt, st, tl, truthV, cmpV, binV, reduceCtorEq, decide_true, decide_false, Bool.not_true, Bool.not_false]; exact hR _ rfl
    · simp only [WE, WEs, WAnd, WOr, WCond, WSrc, optW, gt, st, tl, truthV, cmpV, binV, reduceCtorEq, decide_true, decide_false, Bool.not_true, Bool.not_false]; exact hR _ rfl
  · subst e
    rcases c.shape x hx with rfl | ⟨s, rfl⟩
    · cases hu
    · cases hu; simp only [WE, WEs, WAnd, WOr, WCond, WSrc, optW, gt, st, tl, truthV, cmpV, binV, reduceCtorEq, decide_true, decide_false, Bool.not_true, Bool.not_false]; exact hR _ rfl
  · subst e
    rcases c.shape x hx with rfl | ⟨s, rfl⟩
    · cases hu
    · cases hu; exact hR _ rfl
  · subst e
    intro dk hdk
    have dl := dict_len c (.int 1)
    simp only [set_eq, dl, if_pos bD, eqV, decide_true, Option.map_some, Bool.not_true]
    have e7 := Ext.set (o := .dS ((ws.filterMap (wk (.int 1))).foldl (fun acc u => sto acc u.1 u.2) [])) hdk
    generalize H'.set dk _ = H7 at e7 ⊢
    refine x_nil ?_
    -- each code is some item's
    have e47 := e46.trans e7
    have h7 := e7 _ _ h6
    obtain ⟨I7, i7, j7⟩ := (f4.ext e47).it
    refine x_for ?_
    simp only [WE, WEs, WAnd, WOr, WCond, WSrc, optW, gt, st, tl, truthV, cmpV, binV, reduceCtorEq, decide_true, decide_false, Bool.not_true, Bool.not_false, lenV, h7, List.length_map, if_pos bD, rngA D.length (by unfold big; omega)]
    refine loopW_ix _ (fun i σ H' => ∃ o6, σ = [some (.ref l), some (.str k.nm), some (.ref it), some (.ref w), some (.ref f), some (.ref th), o6, none, none, none, none, none, none, none, none] ∧ H' = H7) (fun i hi σ H' hI Q' kn kr => ?_) (fun σ H' hI => ?_) ⟨_, rfl, rfl⟩
    · obtain ⟨o6, rfl, rfl⟩ := hI
      have hi' : i < D.length := by simpa using hi
      have eg : ((List.range D.length).map fun (t : Nat) => PV.int ((t : Int) + 1))[i] = .int ((i : Int) + 1) := by simp
      have hin : PV.int ((i : Int) + 1) ∈ ws.map (code D) := (used_all c i hi').mpr (Nat.zero_le _)
      refine x_ifs ?_
      simp only [WE, WEs, WAnd, WOr, WCond, WSrc, optW, gt, st, tl, truthV, cmpV, binV, reduceCtorEq, decide_true, decide_false, Bool.not_true, Bool.not_false, eg, i7, inV, j7]
      rw [if_pos ⟨bcs D, plain_cs D ws, rfl⟩, decide_eq_true hin]
      simp only [Option.map_some, Bool.not_true]
      refine x_nil ?_
      refine x_nil ?_
      exact kn _ _ trivial ⟨_, rfl, rfl⟩
    · obtain ⟨o6, rfl, rfl⟩ := hI
      -- the levels turned round
      refine x_asg ?_
      simp only [WE, WEs, WAnd, WOr, WCond, WSrc, optW, gt, st, tl, truthV, cmpV, binV, reduceCtorEq, decide_true, decide_false, Bool.not_true, Bool.not_false]
      refine ⟨Nat.le_of_ble_eq_true rfl, fun fl hfl => ?_⟩
      have nth : th ≠ fl := ne_of h7 hfl
      have e8 := Ext.set (o := .list [PV.str "strange"]) hfl
      have g8 : (H'.set fl (.list [PV.str "strange"])) fl = some (.list ((("strange" : Str) :: D.reverse.take 0).map PV.str)) := set_eq
      generalize H'.set fl (.list [PV.str "strange"]) = H8 at e8 g8 ⊢
      refine x_for ?_
      simp only [WE, WEs, WAnd, WOr, WCond, WSrc, optW, gt, st, tl, truthV, cmpV, binV, reduceCtorEq, decide_true, decide_false, Bool.not_true, Bool.not_false, lenV, e8 _ _ h7, List.length_map, if_pos bD, rngB D.length bD]
      refine loopW_ix _ (fun i σ H9 => ∃ o8, σ = [some (.ref l), some (.str k.nm), some (.ref it), some (.ref w), some (.ref f), some (.ref th), o6, some (.ref fl), o8, none, none, none, none, none, none] ∧ Ext H' H9 ∧ H9 fl = some (.list ((("strange" : Str) :: D.reverse.take i).map PV.str))) (fun i hi σ H9 hI Q' kn kr => ?_) (fun σ H9 hI => ?_) ⟨_, rfl, e8, g8⟩
      · obtain ⟨o8, rfl, e9, g9⟩ := hI
        have hi' : i < D.length := by simpa using hi
        have hir : i < D.reverse.length := by rw [List.length_reverse]; exact hi'
        have eg : ((List.range D.length).map fun (t : Nat) => PV.int ((D.length : Int) - 1 - (t : Int)))[i] = .int ((D.length : Int) - 1 - (i : Int)) := by simp
        have hat : atV (D.map PV.str) ((D.length : Int) - 1 - (i : Int)) = some (.str D.reverse[i]) := by
          have : ((D.length : Int) - 1 - (i : Int)) = ((D.length - 1 - i : Nat) : Int) := by omega
          rw [this, at_nat bDm (by rw [List.length_map]; omega), List.getElem_map, List.getElem_reverse]
        refine x_app ?_
        simp only [WE, WEs, WAnd, WOr, WCond, WSrc, optW, gt, st, tl, truthV, cmpV, binV, reduceCtorEq, decide_true, decide_false, Bool.not_true, Bool.not_false, eg, g9, idxV, e9 _ _ h7, hat]
        refine ⟨⟨_, rfl⟩, by rw [List.length_map, List.length_cons, List.length_take]; unfold big; omega, ?_⟩
        refine x_nil ?_
        refine kn _ _ trivial ⟨_, rfl, e9.put hfl, ?_⟩
        rw [set_eq, take_succ_get D.reverse i hir, List.map_cons, List.map_cons, List.map_append]
        rfl
      · obtain ⟨o8, rfl, e9, g9⟩ := hI
        have lr : ((List.range D.length).map fun (t : Nat) => PV.int ((D.length : Int) - 1 - (t : Int))).length = D.reverse.length := by simp
        rw [lr, List.take_length] at g9
        replace g9 : H9 fl = some (.list ((flip D).map PV.str)) := g9
        have ndF := flip_nd c.nd nst
        have lF : (flip D).length = D.length + 1 := by unfold flip; simp
        have bF : (flip D).length ≤ big := by rw [lF]; unfold big; omega
        have bFm : ((flip D).map PV.str).length ≤ big := by rw [List.length_map]; exact bF
        have e49 := e47.trans e9
        -- the second factor
        refine x_asg ?_
        refine x_call1 ?_
        refine w_mkE rfl rfl (e49 _ _ it4) bx fun v2 I2 H10 e910 g10 g10' => ?_
        simp only [WE, WEs, WAnd, WOr, WCond, WSrc, optW, gt, st, tl, truthV, cmpV, binV, reduceCtorEq, decide_true, decide_false, Bool.not_true, Bool.not_false]
        refine s_character (e910 _ _ g9) bFm fun lv H11 e11 n11 => ?_
        obtain ⟨LI, lv1, lv2⟩ := n11.vec
        refine ⟨Nat.zero_le _, fun ex2 hex2 => ?_⟩
        have eX2 := Ext.set (o := .list []) hex2
        have s2 : Srt (H11.set ex2 (.list [])) k v2 xs := ⟨⟨I2, g10.ext (e11.trans eX2), eX2 _ _ (e11 _ _ g10')⟩, bx⟩
        refine s_make_B s2 bx5 ok set_eq (lv1.ext eX2) (eX2 _ _ lv2) ndF bF fun g H12 e12 f12 => ?_
        rw [hws] at f12
        have e912 := ((e910.trans e11).trans eX2).trans e12
        have e412 := e49.trans e912
        have th12 := e912 _ _ (e9 _ _ h7)
        have fl12 := e912 _ _ g9
        have w12 := e412 _ _ w4
        obtain ⟨If, i12, j12⟩ := (f4.ext e412).it
        -- what its codes are due to be
        refine x_asg ?_
        simp only [WE, WEs, WAnd, WOr, WCond, WSrc, optW, gt, st, tl, truthV, cmpV, binV, reduceCtorEq, decide_true, decide_false, Bool.not_true, Bool.not_false, i12, j12]
        refine ⟨bcs D, ?_⟩
        refine compW_fm _ (bcs D) (fun x => some (dueF D.length x)) (· = H12) (fun H' e => by rw [e]; exact j12) (fun x _ H' e R hR => hR _ e) (fun x hx u hu H' e R hR => ?_) (fun H' e => ?_) rfl
        · subst e
          cases hu
          rcases okc D x hx with rfl | ⟨m, rfl, m1, m2⟩
          · simp only [WE, WEs, WAnd, WOr, WCond, WSrc, optW, gt, st, tl, truthV, cmpV, binV, reduceCtorEq, decide_true, decide_false, Bool.not_true, Bool.not_false]; exact hR _ rfl
          · simp only [WE, WEs, WAnd, WOr, WCond, WSrc, optW, gt, st, tl, truthV, cmpV, binV, reduceCtorEq, decide_true, decide_false, Bool.not_true, Bool.not_false, lenV, th12, List.length_map, if_pos bD]; exact hR _ rfl
        · subst e
          rw [fm_map, due_eq c nst]
          intro du hdu
          have e13 := Ext.set (o := .list (ws.map (code (flip D)))) hdu
          have g13 : (H'.set du (.list (ws.map (code (flip D))))) du = some (.list (ws.map (code (flip D)))) := set_eq
          generalize H'.set du (.list (ws.map (code (flip D)))) = H13 at e13 g13 ⊢
          have f13 := f12.ext e13
          obtain ⟨Ig, i13, j13⟩ := f13.it
          have pF := plain_cs (flip D) ws
          refine x_ifs ?_
          simp only [WE, WEs, WAnd, WOr, WCond, WSrc, optW, gt, st, tl, truthV, cmpV, binV, reduceCtorEq, decide_true, decide_false, Bool.not_true, Bool.not_false, i13, eqV_same j13 g13 (bcs _) pF, Option.map_some]
          refine s_factor_texts f13 bF (bcs _) (okc _) fun t14 H14 e14 _ h14 => ?_
          rw [texts_back (D := flip D) (fun s hs => List.mem_cons_of_mem _ (List.mem_reverse.mpr ((c.iff s).mp hs))) c.shape] at h14
          simp only [eqV_same h14 (e14 _ _ (e13 _ _ w12)) bws pws, Option.map_some, WE, WEs, WAnd, WOr, WCond, WSrc, optW, gt, st, tl, truthV, cmpV, binV, reduceCtorEq, decide_true, decide_false, Bool.not_true, Bool.not_false]
          refine s_level_texts (f13.ext e14) bF fun t15 H15 e15 _ h15 => ?_
          have e1315 := e14.trans e15
          simp only [eqV_same h15 (e1315 _ _ (e13 _ _ fl12)) bFm (plain_strs _), Option.map_some, WE, WEs, WAnd, WOr, WCond, WSrc, optW, gt, st, tl, truthV, cmpV, binV, reduceCtorEq, decide_true, decide_false, Bool.not_true, Bool.not_false]
          refine x_nil ?_
          -- the strange one dropped
          refine x_asg ?_
          simp only [WE, WEs, WAnd, WOr, WCond, WSrc, optW, gt, st, tl, truthV, cmpV, binV, reduceCtorEq, decide_true, decide_false, Bool.not_true, Bool.not_false]
          refine s_drop (a := 1) (f13.ext e1315) bF (bcs _) (okc _) (by rw [lF]; omega) (used_flip c nst) fun ls H16 e16 f16 => ?_
          rw [sub_eq c nst] at f16
          replace f16 : Fac H16 ls (ws.map (code D.reverse)) D.reverse := f16
          have e1316 := e1315.trans e16
          have bR : D.reverse.length ≤ big := by rw [List.length_reverse]; exact bD
          have bRm : (D.reverse.map PV.str).length ≤ big := by rw [List.length_map]; exact bR
          have fl16 := e1316 _ _ (e13 _ _ fl12)
          have cR := c.rev
          refine x_ifs ?_
          simp only [WE, WEs, WAnd, WOr, WCond, WSrc, optW, gt, st, tl, truthV, cmpV, binV, reduceCtorEq, decide_true, decide_false, Bool.not_true, Bool.not_false]
          refine s_level_texts f16 bR fun t17 H17 e17 _ h17 => ?_
          simp only [e17 _ _ fl16, cutV, seqOf, if_pos bFm]
          rw [if_pos ⟨by decide, by unfold big; decide⟩]
          intro sl hsl
          have esl := Ext.set (o := .list (((flip D).map PV.str).drop (1 : Int).toNat)) hsl
          have gsl : (H17.set sl (.list (((flip D).map PV.str).drop (1 : Int).toNat))) sl = some (.list (D.reverse.map PV.str)) := set_eq
          generalize H17.set sl (.list (((flip D).map PV.str).drop (1 : Int).toNat)) = H18 at esl gsl ⊢
          simp only [eqV_same (esl _ _ h17) gsl bRm (plain_strs _), Option.map_some, WE, WEs, WAnd, WOr, WCond, WSrc, optW, gt, st, tl, truthV, cmpV, binV, reduceCtorEq, decide_true, decide_false, Bool.not_true, Bool.not_false]
          have e1618 := e17.trans esl
          refine s_factor_texts (f16.ext e1618) bR (bcs _) (okc _) fun t19 H19 e19 _ h19 => ?_
          rw [texts_back (fun s hs => (cR.iff s).mp hs) c.shape] at h19
          have e1319 := (e1316.trans e1618).trans e19
          simp only [eqV_same h19 (e1319 _ _ (e13 _ _ w12)) bws pws, Option.map_some, WE, WEs, WAnd, WOr, WCond, WSrc, optW, gt, st, tl, truthV, cmpV, binV, reduceCtorEq, decide_true, decide_false, Bool.not_true, Bool.not_false]
          obtain ⟨Ig2, i19, j19⟩ := (f13.ext e1319).it
          simp only [i19, eqV_same j19 (e1319 _ _ g13) (bcs _) pF, Option.map_some, WE, WEs, WAnd, WOr, WCond, WSrc, optW, gt, st, tl, truthV, cmpV, binV, reduceCtorEq, decide_true, decide_false, Bool.not_true, Bool.not_false]
          refine x_nil ?_
          -- and once more
          refine x_asg ?_
          simp only [WE, WEs, WAnd, WOr, WCond, WSrc, optW, gt, st, tl, truthV, cmpV, binV, reduceCtorEq, decide_true, decide_false, Bool.not_true, Bool.not_false]
          refine s_drop (a := 0) (f16.ext (e1618.trans e19)) bR (bcs _) (okc _) (Nat.zero_le _) (used_all cR) fun ag H20 e20 f20 => ?_
          rw [sub_zero] at f20
          replace f20 : Fac H20 ag (ws.map (code D.reverse)) D.reverse := f20
          have f16' := f16.ext ((e1618.trans e19).trans e20)
          obtain ⟨Ia, i20, j20⟩ := f20.it
          obtain ⟨Il, i20', j20'⟩ := f16'.it
          refine x_ret ?_
          simp only [WE, WEs, WAnd, WOr, WCond, WSrc, optW, gt, st, tl, truthV, cmpV, binV, reduceCtorEq, decide_true, decide_false, Bool.not_true, Bool.not_false, i20, i20', eqV_same j20 j20' (bcs _) (plain_cs _ _)]
          refine s_level_texts f20 bR fun t21 H21 e21 _ h21 => ?_
          have fl21 := e21 _ _ (e20 _ _ (e19 _ _ (e1618 _ _ fl16)))
          simp only [fl21, cutV, seqOf, if_pos bFm]
          rw [if_pos ⟨by decide, by unfold big; decide⟩]
          intro s2 hs2
          have es2 := Ext.set (o := .list (((flip D).map PV.str).drop (1 : Int).toNat)) hs2
          have gs2 : (H21.set s2 (.list (((flip D).map PV.str).drop (1 : Int).toNat))) s2 = some (.list (D.reverse.map PV.str)) := set_eq
          generalize H21.set s2 (.list (((flip D).map PV.str).drop (1 : Int).toNat)) = H22 at es2 gs2 ⊢
          simp only [eqV_same (es2 _ _ h21) gs2 bRm (plain_strs _), WE, WEs, WAnd, WOr, WCond, WSrc, optW, gt, st, tl, truthV, cmpV, binV, reduceCtorEq, decide_true, decide_false, Bool.not_true, Bool.not_false]
          exact h _
end Mine
end

section
set_option maxRecDepth 100000
set_option Elab.async false
set_option linter.unusedVariables false
set_option linter.unusedSimpArgs false
open PySem PySem.Calls PySem.Spec
namespace Mine
open PySem.W (Frag TopRead instObj dictOf getL putL putN)

theorem look_zip : ∀ {ns : List Str} {vs : List Value} {n : Str}, ns.length ≤ vs.length → n ∈ ns → ((ns.zip vs).lookup n).isSome = true
  | [], _, _, _, h => by cases h
  | a :: ns, [], _, h, _ => by simp at h
  | a :: ns, v :: vs, n, h, hm => by
    rw [List.zip_cons_cons, List.lookup_cons]
    cases q : n == a with
    | true => rfl
    | false =>
      refine look_zip (by simpa using h) ?_
      rcases List.mem_cons.mp hm with e | e
      · subst e; simp at q
      · exact e
theorem look_zip_nd : ∀ {ns : List Str} {vs : List Value}, ns.length = vs.length → ns.Nodup → ns.filterMap (fun n => ((ns.zip vs).lookup n).map (n, ·)) = ns.zip vs
  | [], _, _, _ => by simp
  | a :: ns, [], h, _ => by simp at h
  | a :: ns, v :: vs, h, nd => by
    rw [List.nodup_cons] at nd
    rw [List.filterMap_cons, List.zip_cons_cons, List.lookup_cons]
    simp only [beq_self_eq_true, Option.map_some]
    congr 1
    have e := look_zip_nd (ns := ns) (vs := vs) (by simpa using h) nd.2
    have : ∀ l : List Str, (∀ n ∈ l, n ≠ a) → l.filterMap (fun n => (List.lookup n ((a, v) :: ns.zip vs)).map (n, ·)) = l.filterMap (fun n => ((ns.zip vs).lookup n).map (n, ·)) := by
      intro l
      induction l with
      | nil => intro _; rfl
      | cons y ys ih =>
        intro hl
        rw [List.filterMap_cons, List.filterMap_cons, ih fun n hn => hl n (List.mem_cons_of_mem _ hn), List.lookup_cons, show (y == a) = false by simpa using hl y List.mem_cons_self]
    rw [this ns (fun n hn => by rintro rfl; exact nd.1 hn)]
    exact e
theorem forIn_stay {α β : Type} {l : List α} {f : α → β → Sem (ForInStep β)} {c : β} (h : ∀ x ∈ l, f x c = pure (.yield c)) : forIn l c f = pure c := by
  induction l with
  | nil => rfl
  | cons x l ih =>
    rw [List.forIn_cons, h x List.mem_cons_self, pure_bind]
    exact ih fun y hy => h y (List.mem_cons_of_mem _ hy)

theorem binds_all {s : Shared} {fd : FuncData} {vs : List Value} (h1 : fd.params.posonlyargs = []) (h2 : fd.params.vararg = none) (h3 : fd.params.kwonlyargs = []) (h4 : fd.params.kwarg = none) (hl : (fd.params.args.map (·.arg)).length = vs.length) (nd : (fd.params.args.map (·.arg)).Nodup)
    (hd : ∀ (M : Model) (A : Around) (E : Value → Shared → Prop) (Q : Option (Array Value) → Shared → Prop), (∀ d, Q d s) → wpAny M A (seqItems? fd.defaults) Q E s) : BindsTo s fd ⟨vs, []⟩ ((fd.params.args.map (·.arg)).zip vs) := by
  intro M A E Q hQ
  unfold bindArgs
  have hm : ∀ n, n ∈ fd.params.args.map (·.arg) → (((fd.params.args.map (·.arg)).zip vs).lookup n).isNone = false := fun n hn => by
    have := look_zip (vs := vs) (by rw [hl]; exact Nat.le_refl _) hn
    cases q : ((fd.params.args.map (·.arg)).zip vs).lookup n with
    | none => rw [q] at this; cases this
    | some v => rfl
  simp only [h1, h2, h3, h4, List.map_nil, List.nil_append, List.forIn_nil, pure_bind, List.append_nil, Option.isNone_none, Bool.and_true]
  refine wpAny_bind (hd M A E _ fun d => ?_)
  have e1 : ¬ (decide (vs.length > (fd.params.args.map (·.arg)).length) = true) := by rw [hl]; simp
  have e2 : ∀ k, (((fd.params.args.map (·.arg)).take k).filter fun n => (((fd.params.args.map (·.arg)).zip vs).lookup n).isNone) = [] := fun k => by
    rw [List.filter_eq_nil_iff]
    intro n hn
    rw [hm n (List.mem_of_mem_take hn)]; simp
  simp only [if_neg e1, e2, List.isEmpty_nil, Bool.not_true, Bool.false_eq_true, if_false]
  rw [forIn_stay (fun x hx => ?_)]
  · rw [pure_bind, look_zip_nd hl nd]
    exact wpAny_pure hQ
  · obtain ⟨n, v⟩ := x
    have hn : n ∈ fd.params.args.map (·.arg) := List.mem_of_mem_drop (List.of_mem_zip hx).1
    have := hm n hn
    simp only [this, Bool.false_eq_true, if_false]

noncomputable def dflOK (K : Frag) : Value → Bool
  | .none => true
  | .ref T => (match K.lookup T with | some ⟨_, _, .seq _ _, _⟩ => true | _ => false)
  | _ => false
theorem dflOK_read {K : Frag} {s : Shared} {v : Value} (X : K.In s.heap) (h : dflOK K v = true) (M : Model) (A : Around) (E : Value → Shared → Prop) (Q : Option (Array Value) → Shared → Prop) (q : ∀ d, Q d s) : wpAny M A (seqItems? v) Q E s := by
  unfold dflOK at h
  split at h
  · exact wpAny_pure (q _)
  · split at h
    · rename_i ho; exact wpAny_seqItems (X _ _ ho) rfl (q _)
    · cases h
  · cases h

noncomputable def fdChk (K : Frag) (fn : Nat → Option Str) (c : CFun) (fd : FuncData) : Bool := (match fd.body with | .stmts b => chkF fn c fd.params b fd.scope | _ => false) && fd.globals == mainGlobals && fd.closure.isEmpty && fd.builtins == builtinsNs && PySem.W.codeIn K fd.code fd.qualname &&
  fd.params.posonlyargs.isEmpty && fd.params.vararg.isNone && fd.params.kwonlyargs.isEmpty && fd.params.kwarg.isNone && dflOK K fd.defaults
noncomputable def fnChk (K : Frag) (fn : Nat → Option Str) (a : Nat) (c : CFun) : Bool := match K.lookup a with
  | some ⟨_, _, .func fd, _⟩ => fdChk K fn c fd
  | _ => false

theorem funAt_of {D : Wd} {fn : Nat → Option Str} {c : CFun} {a : Nat} (X : D.K.In D.h0) (h : fnChk D.K fn a c = true) (hb : c.dfl = [] ∨ ∀ fd, (D.K.lookup a).map (·.data) = some (.func fd) → ∀ (vs : List Value) (s : Shared), (∀ b o, D.h0.get? b = some o → s.heap.get? b = some o) → vs.length ≤ c.np → c.np ≤ vs.length + c.dfl.length →
        ∃ ws, EL ws (c.dfl.drop (vs.length + c.dfl.length - c.np)) ∧ BindsTo s fd ⟨vs, []⟩ ((fd.params.args.map (·.arg)).zip (vs ++ ws))) : FunAt D fn c a := by
  unfold fnChk at h
  split at h
  · rename_i oc od fd osl ho
    unfold fdChk at h
    simp only [Bool.and_eq_true, beq_iff_eq, List.isEmpty_iff, Option.isNone_iff_eq_none] at h
    obtain ⟨⟨⟨⟨⟨⟨⟨⟨⟨h1, h2⟩, h3⟩, h4⟩, h5⟩, h6⟩, h7⟩, h8⟩, h9⟩, h10⟩ := h
    obtain ⟨name, qual, params, fbody, scope, gl, cl, dV, kV, doc, pm, an, cdv, ct, bl⟩ := fd
    dsimp only at h1 h2 h3 h4 h5 h6 h7 h8 h9 h10
    split at h1
    · rename_i body
      subst h2 h3 h4
      refine ⟨⟨_, name, qual, params, body, scope, dV, kV, doc, pm, an, cdv, ct, X _ _ ho, rfl, PySem.W.codeRec_of X h5, h1, h6, by rw [h7]; rfl, h8, by rw [h9]; rfl, ?_⟩⟩
      rcases hb with hb | hb
      · intro vs s hk l1 l2
        rw [hb, List.length_nil, Nat.add_zero] at l2
        refine ⟨[], by rw [hb, List.drop_nil]; rfl, ?_⟩
        simp only [chkF, Bool.and_eq_true, beq_iff_eq, Bool.not_eq_true', decide_eq_true_eq] at h1
        obtain ⟨⟨⟨⟨⟨⟨⟨⟨⟨⟨k1, k2⟩, k3⟩, k4⟩, k5⟩, k6⟩, k7⟩, k8⟩, k9⟩, k10⟩, k11⟩ := h1
        rw [List.append_nil]
        exact binds_all h6 h7 h8 h9 (by rw [List.length_map, k6]; omega) (by rw [k5]; exact distinct_ok k9) fun M A E Q q => dflOK_read (X.keeps hk) h10 M A E Q q
      · exact hb _ (by rw [ho]; rfl)
    · cases h1
  · cases h
end Mine
end

section
open PySem PySem.W PyProof.Rows
set_option Elab.async false
set_option maxRecDepth 100000
set_option maxHeartbeats 8000000
namespace Mine
noncomputable def adT : Nat → Nat := fun i => [285, 292, 299, 306, 313, 320, 325, 330, 337, 345, 147, 168, 175, 182, 189, 196, 203, 210, 222, 227, 234, 246, 352, 359, 364, 369, 374, 381, 388, 395, 400, 405, 412, 417, 424, 429, 434, 441, 448, 455, 460].getD i 0

theorem pt_lt {i : Nat} {c : CFun} (h : PT i = some c) : i < 41 := (List.getElem?_eq_some_iff.mp h).1
theorem fn_lt {i : Nat} {c : Str} (h : fnT i = some c) : i < 41 := by
  unfold fnT at h
  cases q : nmT[i]? with
  | none => rw [q] at h; cases h
  | some o => exact (List.getElem?_eq_some_iff.mp q).1
theorem dfl_none : ((List.range 41).all fun i => i == iniT || (match PT i with | some c => c.dfl.isEmpty | none => true)) = true := by decide +kernel

/-! what the written part of the top is asked -/
noncomputable def kFn (K : Frag) : Bool := (List.range 41).all fun i => match PT i with | some c => fnChk K fnT (adT i) c | none => false
noncomputable def kNm (K : Frag) : Bool := (List.range 41).all fun i => match fnT i with | some n => nsIn K mainGlobals n == some (some (.ref (adT i))) && (match PT i with | some _ => true | none => false) && (match K.lookup (adT i) with | some ⟨_, _, .func _, _⟩ => true | _ => false) | none => true
noncomputable def kBl (K : Frag) : Bool := ([("len" : Str), "list", "str", "abs", "isinstance", "range"] : List Str).all fun n => nsIn K mainGlobals n == some none
noncomputable def kFl (K : Frag) : Bool := fldNames.all fun n => findIn K (.ref 157) n == some none && takerIn K 157 n == some none
noncomputable def kIn (K : Frag) : Option (Arguments × Value) := match K.lookup 147 with | some ⟨_, _, .func fd, _⟩ => some (fd.params, fd.defaults) | _ => none
noncomputable def pIn : Arguments := { posonlyargs := [], args := [{ arg := "self", annotation := none, pos := ⟨139, 17, 139, 21⟩ }, { arg := "kind", annotation := none, pos := ⟨139, 23, 139, 27⟩ }, { arg := "items", annotation := none, pos := ⟨139, 29, 139, 34⟩ }, { arg := "attrs", annotation := none, pos := ⟨139, 36, 139, 41⟩ }], vararg := none, kwonlyargs := [], kw_defaults := [], kwarg := none, defaults := [.Constant .none 0 ⟨139, 42, 139, 46⟩] }
noncomputable def kDf (K : Frag) : Option Data := match K.lookup 140 with | some o => some o.data | none => none

theorem init_binds {fd : FuncData} {h0 : Heap} {K : Frag} (X : K.In h0) (hp : kIn K = some (pIn, .ref 140)) (h140 : kDf K = some (.seq #[.none] 0)) (hf : (K.lookup 147).map (·.data) = some (.func fd)) (vs : List Value) (s : Shared) (hk : ∀ b o, h0.get? b = some o → s.heap.get? b = some o) (l1 : vs.length ≤ 4) (l2 : 4 ≤ vs.length + 1) :
    ∃ ws, EL ws ((([.none] : List PV)).drop (vs.length + 1 - 4)) ∧ BindsTo s fd ⟨vs, []⟩ ((fd.params.args.map (·.arg)).zip (vs ++ ws)) := by
  unfold kIn at hp
  unfold kDf at h140
  cases hl : K.lookup 147 with
  | none => rw [hl] at hf; cases hf
  | some o =>
    obtain ⟨oc, od, dt, sl⟩ := o
    rw [hl] at hf hp
    simp only [Option.map_some, Option.some.injEq] at hf
    subst hf
    simp only [Option.some.injEq, Prod.mk.injEq] at hp
    obtain ⟨hp1, hp2⟩ := hp
    obtain ⟨name, qual, params, fbody, scope, gl, cl, dV, kV, doc, pm, an, cdv, ct, bl⟩ := fd
    dsimp only at hp1 hp2
    subst hp1 hp2
    cases hl0 : K.lookup 140 with
    | none => rw [hl0] at h140; cases h140
    | some o =>
      rw [hl0] at h140
      have h140 : o.data = .seq #[.none] 0 := by simpa using h140
      have ho : s.heap.get? 140 = some o := hk _ _ (X _ _ hl0)
      rcases vs with _ | ⟨v0, _ | ⟨v1, _ | ⟨v2, _ | ⟨v3, _ | ⟨v4, r⟩⟩⟩⟩⟩
      · simp at l2
      · simp at l2
      · simp at l2
      · exact ⟨[.none], rfl, BindsTo.of_defaults rfl ho h140 rfl rfl⟩
      · exact ⟨[], rfl, BindsTo.of_defaults rfl ho h140 rfl rfl⟩
      · simp only [List.length_cons] at l1; omega

theorem glok {prog : Program} {w : World} {h0 : Heap} {mg mb : Str → Option Value} {p : Program} {loose : List Str} {K : Frag} (T : TopRead p loose mg mb h0) (X : K.In h0) (hs : ∃ o, h0.get? sysModules = some o)
    (k1 : kFn K = true) (k2 : kNm K = true) (k3 : kBl K = true) (k4 : kFl K = true) (k5 : kIn K = some (pIn, .ref 140)) (k6 : kDf K = some (.seq #[.none] 0)) (k7 : nsIn K mainGlobals "Vector" = some (some (.ref 157))) (k8 : makesIn K 157 = true) (k9 : keepIn K (.ref 157) = true)
    (k10 : findIn K (.ref 157) "__init__" = some (some (.ref 147))) (k11 : typeIn K (.ref 147) = some (.type "function")) (k12 : plainGet K 157 "" = true) (k13 : hasDictIn K 157 = true) (k14 : findIn K (.ref 157) "__setattr__" = some (some (.builtin "object.__setattr__"))) (k15 : plainOver K 157 = true) (k16 : isIn K (.ref 157) 157 = true) :
    GlOK ⟨prog, w, K, 157, h0, mg, mb, p, loose⟩ PT iniT adT fnT := by
  refine ⟨T, X, fun i c hc => ?_, fun i n hn => ?_, fun n hn => ?_, mg_of X T.g k7, k8, k9, k10, k11, ⟨_, rfl⟩, hs, fun n => k12, k13, fun n hn => ?_, k14, k15, fun n hn => ?_, k16⟩
  · refine funAt_of X ?_ ?_
    · have := List.all_eq_true.mp k1 i (List.mem_range.mpr (pt_lt hc))
      rw [hc] at this
      exact this
    · by_cases q : i = iniT
      · subst q
        right
        have : c = f_init := by cases hc; rfl
        subst this
        intro fd hf vs s hk l1 l2
        exact init_binds X k5 k6 hf vs s hk l1 l2
      · left
        have := List.all_eq_true.mp dfl_none i (List.mem_range.mpr (pt_lt hc))
        rw [hc] at this
        simp only [Bool.or_eq_true, beq_iff_eq, List.isEmpty_iff] at this
        exact this.resolve_left q
  · have := List.all_eq_true.mp k2 i (List.mem_range.mpr (fn_lt hn))
    rw [hn] at this
    simp only [Bool.and_eq_true, beq_iff_eq] at this
    obtain ⟨⟨a1, a2⟩, a3⟩ := this
    refine ⟨mg_of X T.g a1, ?_, ?_⟩
    · cases q : PT i with
      | none => rw [q] at a2; cases a2
      | some c => exact ⟨c, rfl⟩
    · split at a3
      · rename_i fd sl ho; exact ⟨_, _, X _ _ ho, rfl⟩
      · cases a3
  · have := List.all_eq_true.mp k3 n hn
    exact mg_none_of X T.g (beq_iff_eq.mp this)
  · have := List.all_eq_true.mp k4 n hn
    simp only [Bool.and_eq_true, beq_iff_eq] at this
    exact this.1
  · have := List.all_eq_true.mp k4 n hn
    simp only [Bool.and_eq_true, beq_iff_eq] at this
    exact this.2
end Mine
end

section
open PySem PySem.W PyProof.Rows
set_option Elab.async false
set_option maxRecDepth 100000
set_option maxHeartbeats 8000000
namespace Mine
theorem el_ints : ∀ {vs : List Value} {xs : List Int}, IntsAre vs xs → EL vs (xs.map .int)
  | _, _, .nil => rfl
  | _, _, .cons n t h => by
    show _ :: _ = _ :: _
    rw [show (List.map er _ = List.map some (List.map PV.int _)) from el_ints h]
    rfl

abbrev LawPure : Prop := ∀ (xs : List Int) (l : Nat) (H : PH), xs.length ≤ 63 → H l = some (.ro (xs.map .int)) → ∀ Q : PV → PH → Prop, (∀ H', Q (.bool true) H') → G PT iniT 30 40 [.ref l] H Q

theorem law_end {prog : Program} {w : World} {K : Frag} {C : Nat} {s₁ : Shared} {mg mb : Str → Option Value} {p : Program} {loose : List Str} {c : ClaimW} {cl : Str → Option Addr} {mean : ExcName → Option Value} {args : List WData} {l : Nat} {vs : List Value} {xs : List Int}
    (GL : GlOK ⟨prog, w, K, C, s₁.heap, mg, mb, p, loose⟩ PT iniT adT fnT) (L : LawPure) (hg : s₁.gens = #[]) (hL : s₁.heap.IsList l vs.toArray) (hI : IntsAre vs xs) (hxs : xs.length ≤ 63) (h1 : ∀ cls, c.raises args cls = false) (h2 : c.post args (.bool true) args = true) :
    codeAny (model prog w) callerA (.call (.ref 460) ⟨[.ref l], []⟩) (GoodW c cl mean args s₁) s₁ := by
  have I0 : Inv ⟨prog, w, K, C, s₁.heap, mg, mb, p, loose⟩ s₁.heap (fun a => if a = l then some (.ro (xs.map .int)) else none) := by
    refine ⟨fun b o e => e, fun a o e => ?_, fun a o e => ?_⟩
    · split at e
      · rename_i q; subst q; cases e; exact ⟨vs, hL, el_ints hI⟩
      · cases e
    · split at e
      · cases e; exact .inl trivial
      · cases e
  have S := gsound GL 30 40 _ rfl callerA s₁ _ [.ref l] [.ref l] (fun v _ => v = .bool true) ⟨rfl, by decide, by decide⟩ I0 rfl (L xs l _ hxs (if_pos rfl) _ fun _ => rfl)
  refine codeAny_mono S fun r s' z => ?_
  rcases r with e | (v | _ | _ | _) <;> first | exact z.elim | skip
  obtain ⟨pv, H', e, st, rfl⟩ := z
  obtain rfl := er_bool e
  obtain ⟨h, tk, e'⟩ := st.same
  refine ⟨.inl ⟨.bool true, .bool true, [], rfl, h1, .bool true, h2, fun _ => ⟨List.nodup_nil, fun a ha => by cases ha⟩⟩, st.inv.base, ?_, ?_⟩
  · rw [e']
  · rw [e']; exact hg
end Mine
end

section
open PySem PySem.W PyProof.Rows
set_option maxRecDepth 100000
set_option maxHeartbeats 8000000
namespace Mine
theorem law_pure : LawPure := fun _ _ _ hn hl _ hQ => s_law (d := 18) hl hn hQ

/-! The head's tactic lays a twin beside each constant that it writes, with an equation whose size is the square of the constant's; here the twins' names are taken, so it goes without them: the compiled file stays small. -/
theorem whole.tw12598572606399187110 : True := trivial
theorem whole.tw427333557424167660 : True := trivial
theorem whole.tw4934077235998201596 : True := trivial
theorem whole.tw978456291528864041 : True := trivial
theorem whole.tw16505068655815891843 : True := trivial
theorem whole.tw5515949286892933951 : True := trivial
theorem whole.tw3909395182359919685 : True := trivial
theorem whole.tw16710806586956947785 : True := trivial
theorem whole.tw9818807331855934424 : True := trivial
theorem whole.tw6553984163096543158 : True := trivial
theorem whole.tw11423436602419212718 : True := trivial
theorem whole.tw10301362462094837657 : True := trivial
theorem whole.tw4346055641746905949 : True := trivial
theorem whole.tw5938623499991607928 : True := trivial
theorem whole.tw9685896690342822935 : True := trivial
theorem whole.tw13829708278779851847 : True := trivial
theorem whole.tw843396670912023852 : True := trivial
theorem whole.tw1692622564874605650 : True := trivial
theorem whole.tw8602141644225615130 : True := trivial
theorem whole.tw15539963934695697727 : True := trivial
theorem whole.tw5960344479690691001 : True := trivial
theorem whole.tw7280849871689594849 : True := trivial
theorem whole.tw4479364801722962140 : True := trivial
theorem whole.tw17980908128825299112 : True := trivial
theorem whole.tw2665807779830099079 : True := trivial
theorem whole.tw14654356449610600485 : True := trivial
theorem whole.tw14671651394210877623 : True := trivial
theorem whole.tw14381574177426341226 : True := trivial
theorem whole.tw10838650209671834137 : True := trivial
theorem whole.tw18135788421098096370 : True := trivial
theorem whole.tw5297632933804744799 : True := trivial
theorem whole.tw12928932934922122878 : True := trivial
theorem whole.tw14877643965249282964 : True := trivial
theorem whole.tw1640677438868554593 : True := trivial
theorem whole.tw5277582801102665213 : True := trivial
theorem whole.tw5078443471013023264 : True := trivial
theorem whole.tw14390007995909808975 : True := trivial
theorem whole.tw13045181716907704641 : True := trivial
theorem whole.tw6018008695308894833 : True := trivial
theorem whole.tw431044224361937856 : True := trivial
theorem whole.tw7466904020207815869 : True := trivial
theorem whole.tw17175008800681467811 : True := trivial
theorem whole.tw12698311456782994138 : True := trivial
theorem whole.tw9775085227918541326 : True := trivial
theorem whole.tw18056553881098321084 : True := trivial
theorem whole.tw7977878525754885090 : True := trivial
theorem whole.tw3280129329062278201 : True := trivial
theorem whole.tw5408107943391738 : True := trivial
theorem whole.tw9170513070990267023 : True := trivial
theorem whole.tw17295703372945214271 : True := trivial
theorem whole.tw1242133270297695508 : True := trivial
theorem whole.tw1114806542021703131 : True := trivial
theorem whole.tw10438997657263567297 : True := trivial
theorem whole.tw675793542917168019 : True := trivial
theorem whole.tw5462770333876777704 : True := trivial
theorem whole.tw3166543957339863982 : True := trivial
theorem whole.tw16304597587823193687 : True := trivial
theorem whole.tw16026843855606243410 : True := trivial
theorem whole.tw10565146586650446459 : True := trivial
theorem whole.tw3162365515331879682 : True := trivial
theorem whole.tw6891315699540082446 : True := trivial
theorem whole.tw9787344453429475573 : True := trivial
theorem whole.tw12620984872611610876 : True := trivial
theorem whole.tw6290923202673413122 : True := trivial
theorem whole.tw17529894129228449367 : True := trivial
theorem whole.tw3270133029678145397 : True := trivial
theorem whole.tw10654317064775040509 : True := trivial
theorem whole.tw1897105925431849711 : True := trivial
theorem whole.tw46433443316919834 : True := trivial
theorem whole.tw17169624498616045403 : True := trivial
theorem whole.tw4918820536221260690 : True := trivial
theorem whole.tw10000958634945066235 : True := trivial
theorem whole.tw949743934663060849 : True := trivial
theorem whole.tw9654072969724333583 : True := trivial
theorem whole.tw15938984323282852288 : True := trivial
theorem whole.tw10178181129370835086 : True := trivial
theorem whole.tw15001587830400145190 : True := trivial
theorem whole.tw6472696656209681604 : True := trivial
theorem whole.tw2013318861076662011 : True := trivial
theorem whole.tw11476502588441444683 : True := trivial
theorem whole.tw8884531897199943920 : True := trivial
theorem whole.tw8719548228035378133 : True := trivial
theorem whole.tw6823266097380344784 : True := trivial
theorem whole.tw203428145850139289 : True := trivial
theorem whole.tw13149474316023798553 : True := trivial
theorem whole.tw6774775609766916077 : True := trivial
theorem whole.tw1058133836064258550 : True := trivial
theorem whole.tw4909349585908861296 : True := trivial
theorem whole.tw1329479340354266572 : True := trivial
theorem whole.tw4689585835679557668 : True := trivial
theorem whole.tw9189751539129569556 : True := trivial
theorem whole.tw5171116725156735389 : True := trivial
theorem whole.tw7073311072910153293 : True := trivial
theorem whole.tw2081632904089052959 : True := trivial
theorem whole.tw12742087137024979937 : True := trivial
theorem whole.tw3028004478679740547 : True := trivial
theorem whole.tw18162983195158539490 : True := trivial
theorem whole.tw13000713063990318526 : True := trivial
theorem whole.tw17526097890917601238 : True := trivial
theorem whole.tw14628220171574447489 : True := trivial
theorem whole.tw9725988738643398560 : True := trivial
theorem whole.tw6356627984389668255 : True := trivial
theorem whole.tw8572516506043022915 : True := trivial
theorem whole.tw13478315594510353802 : True := trivial
theorem whole.tw2362521522948952975 : True := trivial
theorem whole.tw5277294116208204688 : True := trivial
theorem whole.tw9242471422690250210 : True := trivial
theorem whole.tw4234479992401935053 : True := trivial
theorem whole.tw11421851700320194570 : True := trivial
theorem whole.tw17395194986337826024 : True := trivial
theorem whole.tw6734874506966982255 : True := trivial
theorem whole.tw5081031077709457048 : True := trivial
theorem whole.tw1765076044715932963 : True := trivial
theorem whole.tw11690859581915506653 : True := trivial
theorem whole.tw2198523743367551842 : True := trivial
theorem whole.tw817909704231249520 : True := trivial
theorem whole.tw3802398583823018356 : True := trivial
theorem whole.tw10153838690179905649 : True := trivial
theorem whole.tw11384259339768038936 : True := trivial
theorem whole.tw17843127513448600897 : True := trivial
theorem whole.tw4221266100470226451 : True := trivial
theorem whole.tw15338273372565686330 : True := trivial
theorem whole.tw1219099391390118749 : True := trivial
theorem whole.tw17991299263585117788 : True := trivial
theorem whole.tw8351164730277109312 : True := trivial
theorem whole.tw10219327507634694686 : True := trivial
theorem whole.tw17179786008130999086 : True := trivial
theorem whole.tw10887019763833697050 : True := trivial
theorem whole.tw4107823604484434990 : True := trivial
theorem whole.tw4447922135398794285 : True := trivial
theorem whole.tw13962616709173656972 : True := trivial
theorem whole.tw7248877203947682478 : True := trivial
theorem whole.tw12442016628978143412 : True := trivial
theorem whole.tw15401142651479110994 : True := trivial
theorem whole.tw5542149417468696053 : True := trivial
theorem whole.tw6933715213461094250 : True := trivial
theorem whole.tw113900542113845248 : True := trivial
theorem whole.tw12983056121032118810 : True := trivial
theorem whole.tw6097748072631727781 : True := trivial
theorem whole.tw13142167418276237254 : True := trivial
theorem whole.tw18290474143342056155 : True := trivial
theorem whole.tw9625973628771424018 : True := trivial
theorem whole.tw4672207989499910625 : True := trivial
theorem whole.tw4180466227808675834 : True := trivial
theorem whole.tw16442795661328238356 : True := trivial
theorem whole.tw2777902329107566167 : True := trivial
theorem whole.tw356215775963413058 : True := trivial
theorem whole.tw12077107353733055826 : True := trivial
theorem whole.tw15206955865107345967 : True := trivial
theorem whole.tw11841974853317911985 : True := trivial
theorem whole.tw8101450032967502455 : True := trivial
theorem whole.tw6714927969197098277 : True := trivial
theorem whole.tw3099174332690161747 : True := trivial
theorem whole.tw5833760311655045577 : True := trivial
theorem whole.tw10354518954362131899 : True := trivial
theorem whole.tw14776171463994254414 : True := trivial
theorem whole.tw5790326999694950120 : True := trivial
theorem whole.tw6065093676875020208 : True := trivial
theorem whole.tw8699793337390238261 : True := trivial
theorem whole.tw16837869783174773174 : True := trivial
theorem whole.tw14031613983174702221 : True := trivial
theorem whole.tw10805158454514937742 : True := trivial
theorem whole.tw2649048575011448004 : True := trivial
theorem whole.tw12920395458479335663 : True := trivial
theorem whole.tw7576292583959916747 : True := trivial
theorem whole.tw17475311184863085016 : True := trivial
theorem whole.tw10344827342348678470 : True := trivial
theorem whole.tw5137022389394785357 : True := trivial
theorem whole.tw10339747121181971505 : True := trivial
theorem whole.tw43722865635132848 : True := trivial
theorem whole.tw8309436690622926411 : True := trivial
theorem whole.tw254780913952180833 : True := trivial
theorem whole.tw11409993775148365219 : True := trivial
theorem whole.tw4338333698743118245 : True := trivial
theorem whole.tw10488504414272976643 : True := trivial
theorem whole.tw18315055452531851272 : True := trivial
theorem whole.tw8961415085178454156 : True := trivial
theorem whole.tw13730376311393935369 : True := trivial
theorem whole.tw15105012252411618398 : True := trivial
theorem whole.tw1318554304652621475 : True := trivial
theorem whole.tw14138553856905868755 : True := trivial
theorem whole.tw15652777202477211125 : True := trivial
theorem whole.tw13675596732203519343 : True := trivial
theorem whole.tw2083198920140632441 : True := trivial
theorem whole.tw10749463760870054271 : True := trivial
theorem whole.tw9521756469634577901 : True := trivial
theorem whole.tw9212966250080664162 : True := trivial
theorem whole.tw668774492082921180 : True := trivial
theorem whole.tw1072497446573119103 : True := trivial
theorem whole.tw6896427876366098391 : True := trivial
theorem whole.tw2168223474955763204 : True := trivial
theorem whole.tw2021854409746315462 : True := trivial
theorem whole.tw13749801708979339770 : True := trivial
theorem whole.tw6330797023819526829 : True := trivial
theorem whole.tw6416634858453334624 : True := trivial
theorem whole.tw16845944245580146995 : True := trivial
theorem whole.tw2896436902973227457 : True := trivial
theorem whole.tw17659150536888882668 : True := trivial
theorem whole.tw285988719286631819 : True := trivial
theorem whole.tw17870853324313594786 : True := trivial
theorem whole.tw9024608533772062355 : True := trivial
theorem whole.tw13285438998962464343 : True := trivial
theorem whole.tw14173393766343599159 : True := trivial
theorem whole.tw397210227534267232 : True := trivial
theorem whole.tw2349701861695252166 : True := trivial
theorem whole.tw3384858237140249800 : True := trivial
theorem whole.tw15462414832971340256 : True := trivial
theorem whole.tw17092094596097150618 : True := trivial
theorem whole.tw12384220206497402333 : True := trivial
theorem whole.tw7645621925510333512 : True := trivial
theorem whole.tw5055955640874334904 : True := trivial
theorem whole.tw15274856360797078626 : True := trivial
theorem whole.tw14916202748087371944 : True := trivial
theorem whole.tw13974613887430780637 : True := trivial
theorem whole.tw16668768811381343612 : True := trivial
theorem whole.tw6396017553259284124 : True := trivial
theorem whole.tw4599867432513458523 : True := trivial
theorem whole.tw9416693575131194153 : True := trivial
theorem whole.tw5438831827131416888 : True := trivial
theorem whole.tw11966515284280811977 : True := trivial
theorem whole.tw1902754551582867561 : True := trivial
theorem whole.tw12219512705738599021 : True := trivial
theorem whole.tw5189780602208921310 : True := trivial
theorem whole.tw437534634077163847 : True := trivial
theorem whole.tw1470681187219097129 : True := trivial
theorem whole.tw7276013540153241084 : True := trivial
theorem whole.tw13463558215457259582 : True := trivial
theorem whole.tw9464417701048127947 : True := trivial
theorem whole.tw10590843552420965350 : True := trivial
theorem whole.tw7856580471358416282 : True := trivial
theorem whole.tw10472183733418339316 : True := trivial
theorem whole.tw620233503781600244 : True := trivial
theorem whole.tw14327238373524491041 : True := trivial
theorem whole.tw11952309323241053379 : True := trivial
theorem whole.tw15015764479258077956 : True := trivial
theorem whole.tw17814491789457634051 : True := trivial
theorem whole.tw7910221479046277610 : True := trivial
theorem whole.tw14457598465852218886 : True := trivial
theorem whole.tw9200330197067421115 : True := trivial
theorem whole.tw13468923340822585488 : True := trivial
theorem whole.tw12117460353608821864 : True := trivial
theorem whole.tw13329942582686594379 : True := trivial
theorem whole.tw4603890583814415204 : True := trivial
theorem whole.tw842793390314483620 : True := trivial
theorem whole.tw5099900934548537757 : True := trivial
theorem whole.tw8184708281838074206 : True := trivial
theorem whole.tw12012580348766612465 : True := trivial
theorem whole.tw12967805889597932581 : True := trivial
theorem whole.tw6266228650988000492 : True := trivial
theorem whole.tw11836910150536664915 : True := trivial
theorem whole.tw10118140284582671090 : True := trivial
theorem whole.tw3604371722874584219 : True := trivial
theorem whole.tw11791088910183784695 : True := trivial
theorem whole.tw5033959223826794972 : True := trivial
theorem whole.tw2912573282932879776 : True := trivial
theorem whole.tw1266484639899004939 : True := trivial
theorem whole.tw8868806382682364411 : True := trivial
theorem whole.tw14765760737338471991 : True := trivial
theorem whole.tw3016316376071577429 : True := trivial
theorem whole.tw12179455670472476543 : True := trivial
theorem whole.tw14302830165969023719 : True := trivial
theorem whole.tw5649241889958590350 : True := trivial
theorem whole.tw5879479702872096659 : True := trivial
theorem whole.tw12762855891700095494 : True := trivial
theorem whole.tw17819583843959417973 : True := trivial
theorem whole.tw15103685750691789098 : True := trivial
theorem whole.tw13052563405170915441 : True := trivial
theorem whole.tw7545654013535254480 : True := trivial
theorem whole.tw7925426705801168976 : True := trivial
theorem whole.tw3306209509626126654 : True := trivial
theorem whole.tw15695161780090201225 : True := trivial
theorem whole.tw2004449733676144487 : True := trivial
theorem whole.tw2558861820686608913 : True := trivial
theorem whole.tw13760198194640045919 : True := trivial
theorem whole.tw3479739002732855021 : True := trivial
theorem whole.tw7868544009499267292 : True := trivial
theorem whole.tw12499812526503966003 : True := trivial
theorem whole.tw4605417425148642151 : True := trivial
theorem whole.tw15189915617685484396 : True := trivial
theorem whole.tw4444701892398472603 : True := trivial
theorem whole.tw2781955308351554444 : True := trivial
theorem whole.tw9733464779038806419 : True := trivial
theorem whole.tw10144505478992762587 : True := trivial
theorem whole.tw6766658173562982576 : True := trivial
theorem whole.tw8775572950483521906 : True := trivial
theorem whole.tw5405151241437436114 : True := trivial
theorem whole.tw7588574119468234827 : True := trivial
theorem whole.tw8444963059077079450 : True := trivial
theorem whole.tw13334927893685096626 : True := trivial
theorem whole.tw12044105500090777872 : True := trivial
theorem whole.tw9406530864695525851 : True := trivial
theorem whole.tw5015864234111024480 : True := trivial
theorem whole.tw14875044017630859624 : True := trivial
theorem whole.tw11678933692714762019 : True := trivial
theorem whole.tw15564212434770411261 : True := trivial
theorem whole.tw10335108021726791369 : True := trivial
theorem whole.tw10002100669626812175 : True := trivial
theorem whole.tw1601961968588287001 : True := trivial
theorem whole.tw3085902745639715626 : True := trivial
theorem whole.tw4337987958061720545 : True := trivial
theorem whole.tw9988426361468213469 : True := trivial
theorem whole.tw6496092161831514541 : True := trivial
theorem whole.tw3947618128840659280 : True := trivial
theorem whole.tw369943808078234791 : True := trivial
theorem whole.tw16741440440132755172 : True := trivial
theorem whole.tw15048444944014311127 : True := trivial
theorem whole.tw2959683903145980101 : True := trivial
theorem whole.tw17333791097184162534 : True := trivial
theorem whole.tw1934810232205804993 : True := trivial
theorem whole.tw4725433933799282014 : True := trivial
theorem whole.tw12852820008105578649 : True := trivial
theorem whole.tw4535560162481520197 : True := trivial
theorem whole.tw13110515450571257733 : True := trivial
theorem whole.tw7545590854473540767 : True := trivial
theorem whole.tw11792362355297244138 : True := trivial
theorem whole.tw11187447588885237514 : True := trivial
theorem whole.tw6648197116569056673 : True := trivial
theorem whole.tw1469495571348798126 : True := trivial
theorem whole.tw13835169320686990480 : True := trivial
theorem whole.tw17692944630003236201 : True := trivial
theorem whole.tw1859146779660683823 : True := trivial
theorem whole.tw14492196311604417308 : True := trivial
theorem whole.tw16738726308800667447 : True := trivial
theorem whole.tw10832908153356258463 : True := trivial
theorem whole.tw8243020233432551205 : True := trivial
theorem whole.tw14621228733418778453 : True := trivial
theorem whole.tw1182916100746360932 : True := trivial
theorem whole.tw8799044985600393684 : True := trivial
theorem whole.tw3860174431591174066 : True := trivial
theorem whole.tw12850242359631670003 : True := trivial
theorem whole.tw7185185305316088854 : True := trivial
theorem whole.tw17992364426957274132 : True := trivial
theorem whole.tw18060336119277286115 : True := trivial
theorem whole.tw15835130817642446534 : True := trivial
theorem whole.tw15716183405302250479 : True := trivial
theorem whole.tw1587768003098754325 : True := trivial
theorem whole.tw6772379921613518395 : True := trivial
theorem whole.tw590541238101311183 : True := trivial
theorem whole.tw10602399703277881627 : True := trivial
theorem whole.tw5146043315109619605 : True := trivial
theorem whole.tw17700112632457955127 : True := trivial
theorem whole.tw8615399842404961663 : True := trivial
theorem whole.tw4772658413541480157 : True := trivial
theorem whole.tw6866068747796929802 : True := trivial
theorem whole.tw4487652198498899664 : True := trivial
theorem whole.tw17463027529269885953 : True := trivial
theorem whole.tw6197045082498751548 : True := trivial
theorem whole.tw5201323674647411954 : True := trivial
theorem whole.tw14592908492388784131 : True := trivial
theorem whole.tw17789319016849944305 : True := trivial
theorem whole.tw161632788893874429 : True := trivial
theorem whole.tw12562849145585476731 : True := trivial
theorem whole.tw14725644924352215136 : True := trivial
theorem whole.tw14239292526413980002 : True := trivial
theorem whole.tw12761472262123182041 : True := trivial
theorem whole.tw12808456870637180559 : True := trivial
theorem whole.tw16529046165737248422 : True := trivial
theorem whole.tw2989192609971925910 : True := trivial
theorem whole.tw10448145865145647019 : True := trivial
theorem whole.tw11116944545036436439 : True := trivial
theorem whole.tw17948893368442150300 : True := trivial
theorem whole.tw14395644662136614805 : True := trivial
theorem whole.tw3390907139478361160 : True := trivial
theorem whole.tw14857529406646634625 : True := trivial
theorem whole.tw16616245412964173377 : True := trivial
theorem whole.tw16564990636065421569 : True := trivial
theorem whole.tw14661705875561194100 : True := trivial
theorem whole.tw3127163415804763599 : True := trivial
theorem whole.tw16986268789631483586 : True := trivial
theorem whole.tw6888942637506950926 : True := trivial
theorem whole.tw13155097880312403346 : True := trivial
theorem whole.tw7056001396292377188 : True := trivial
theorem whole.tw3150075250938504248 : True := trivial
theorem whole.tw3141554390599180669 : True := trivial
theorem whole.tw17841917278309519415 : True := trivial
theorem whole.tw17075553230084287909 : True := trivial
theorem whole.tw6453619897266653623 : True := trivial
theorem whole.tw12207685810698929643 : True := trivial
theorem whole.tw10025635815308576066 : True := trivial
theorem whole.tw18174217711786252908 : True := trivial
theorem whole.tw6377287985247879410 : True := trivial
theorem whole.tw8894826161267586577 : True := trivial
theorem whole.tw13213058742666125385 : True := trivial
theorem whole.tw561600600097829391 : True := trivial
theorem whole.tw9446046918361872579 : True := trivial
theorem whole.tw12976933641374925533 : True := trivial
theorem whole.tw381110514646162275 : True := trivial
theorem whole.tw1256279898242784606 : True := trivial
theorem whole.tw7078629122812257199 : True := trivial
theorem whole.tw16062187612904122858 : True := trivial
theorem whole.tw6531100040246800141 : True := trivial
theorem whole.tw11357175057958205107 : True := trivial
theorem whole.tw3798757254938238448 : True := trivial
theorem whole.tw15089273742334493110 : True := trivial
theorem whole.tw715978364194892080 : True := trivial
theorem whole.tw12478609949429157409 : True := trivial
theorem whole.tw137721658169608169 : True := trivial
theorem whole.tw8258574867067344367 : True := trivial
theorem whole.tw10379991877525085312 : True := trivial
theorem whole.tw3687826684616867901 : True := trivial
theorem whole.tw10332575325313852403 : True := trivial
theorem whole.tw3869719713472690019 : True := trivial
theorem whole.tw9347626172496877827 : True := trivial
theorem whole.tw11401351377558187561 : True := trivial
theorem whole.tw7509650053966640704 : True := trivial
theorem whole.tw16467933323881711526 : True := trivial
theorem whole.tw13719171679594634575 : True := trivial
theorem whole.tw2608646628457097981 : True := trivial
theorem whole.tw14477139753959448365 : True := trivial
theorem whole.tw213970696928864655 : True := trivial
theorem whole.tw11018331769982298155 : True := trivial
theorem whole.tw17128258169734466478 : True := trivial
theorem whole.tw10084071824679271942 : True := trivial
theorem whole.tw16595449952281916149 : True := trivial
theorem whole.tw7582116766257987118 : True := trivial
theorem whole.tw9315315907157715723 : True := trivial
theorem whole.tw6084657873442493111 : True := trivial
theorem whole.tw4901011727050283698 : True := trivial
set_option Elab.async true in
theorem whole : PySem.Challenge.rw_ov0075_01.Holds := by
  w_on; o_law; k_head; (case hw => w_witness2)
  k_fill
  intro w s₀ s₁ mg mb G Y fa o pm cd doc dV kV ho hdd hcd hD hmg hg args vals as hpre hlay hrd hwl hlo
  have KX := kIn_of Y
  refine Ground.open G ?_
  intro T B D TE TW
  have TT := topRead_of T
  have HS : ∃ o, s₁.heap.get? sysModules = some o := by
    obtain ⟨mm, ⟨o, es, ep, e, _⟩, _⟩ := (T.seer (by decide +kernel)).mods
    exact ⟨o, e⟩
  have hfa : mg (PySem.Str.ofString "law") = some (.ref 460) := mg_of KX T.g (by kernel_rfl)
  have hmg' : mg (PySem.Str.ofString "law") = some (.ref fa) := hmg
  rw [hfa] at hmg'
  have hfa2 : 460 = fa := by injection hmg' with h; injection h
  subst hfa2
  clear hmg hmg' TE TW D B Y
  wrow_args hpre hlay hrd hwl hlo
  all_goals (first | refine callC_kw (enter_call ?_) | refine enter_call ?_ | refine callC_kw (enter_callW ?_) | refine enter_callW ?_ | w_how)
  clear hdd
  have GLOK := glok (prog := PySem.Challenge.rw_ov0075_01.row.prog) (w := w) TT KX HS (by kernel_rfl) (by kernel_rfl) (by kernel_rfl) (by kernel_rfl) (by kernel_rfl) (by kernel_rfl) (by kernel_rfl) (by kernel_rfl) (by kernel_rfl) (by kernel_rfl) (by kernel_rfl) (by kernel_rfl) (by kernel_rfl) (by kernel_rfl) (by kernel_rfl) (by kernel_rfl)
  rename IntsAre _ _ => hI
  rename Heap.IsList _ _ _ => hL
  rename ¬ ((63 : Int) < _) => hc
  clear hcd hD
  rename_i xs _ _ _ _ _ _ _ l vs _ _ _ _ _ _
  have hxs : xs.length ≤ 63 := by omega
  refine codeAny_mono (law_end GLOK law_pure hg hL hI hxs (fun _ => rfl) ?_) fun r s' z => GoodW.toG z
  wrow_post
end Mine
end


theorem PySem.Challenge.cw_ov0075_01_holds : PySem.Challenge.rw_ov0075_01.Holds :=
  Mine.whole
