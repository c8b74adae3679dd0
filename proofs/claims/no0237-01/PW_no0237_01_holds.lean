import PyProof.Rows.All
import Wide.All
import OpenK.AllK
import Wide.FinOn
import PySem.Challenge.RW_no0237_01
set_option Elab.async false
set_option linter.all false
set_option genSizeOf false
set_option genSizeOfSpec false
open PySem PySem.W PyProof.Rows

section
namespace Mine

set_option genSizeOf false
set_option genSizeOfSpec false
set_option genInjectivity false in
/-- the defs of the text that the law reaches -/
inductive Fn where
  | unitsOf | load | store | undefine | needUnits | readCell | loadNumber | storeNumber | loadText | storeText | pad | unitSize | extent
  | elementPlace | subPlace | elementsOf | spanOf | undefineCells | fresh | markStorage | cutStorage
  | lawValues | lawPick | lawOwn | lawLay | lawLoad | lawStore | lawDeed | lawCounted | lawShapes | lawAsked | lawArrays

/-- abstract values -/
inductive DV where
  | d (x : PyData)
  | ml (i : Nat)
  | mem (i j : Nat)
  | scr (ns : List Int)

noncomputable abbrev Hp := List (Option (List PyData))
noncomputable abbrev Lo := List (Option DV)

set_option genInjectivity false in
inductive Op where
  | add | sub | mul | fdiv | mod | pow
set_option genInjectivity false in
inductive Cm where
  | eq | ne | lt | gt | le | ge | is | isNot | inn

set_option genInjectivity false in
inductive ME where
  | var (x : Nat)
  | none
  | bool (b : Bool)
  | int (i : Int)
  | str (s : String)
  | gint (y : String) (i : Int)
  | neg (i : Int)
  | bin (o : Op) (a b : ME)
  | cmp (c : Cm) (a b : ME)
  | chain2 (c₁ c₂ : Cm) (a b e : ME)
  | chain3 (c₁ c₂ c₃ : Cm) (a b e f : ME)
  | not (a : ME)
  | bools (isAnd : Bool) (es : List ME)
  | andV (a b : ME)
  | ite (c a b : ME)
  | call (f : Fn) (es : List ME)
  | mcall (f : Fn) (o : ME) (es : List ME)
  | len (e : ME)
  | min2 (a b : ME)
  | lrange (a b : ME)
  | tupOf (e : ME)
  | index (o e : ME)
  | join (o e : ME)
  | numeric (e : ME)
  | chars (e : ME)
  | sub (o i : ME)
  | slice (o a b : ME)
  | upto (o b : ME)
  | rev (o : ME)
  | tup (es : List ME)
  | list (es : List ME)
  | mlist
  | freeze (e : ME)
  | comp (elt : ME) (x : Nat) (fv : List Nat) (e : ME)

set_option genInjectivity false in
inductive MS where
  | assign (x : Nat) (e : ME)
  | assignC (x : Nat) (e : ME)
  | asub (o i e : ME)
  | unpack (xs : List Nat) (e : ME)
  | aug (x : Nat) (o : Op) (e : ME)
  | ife (c : ME) (t e : List MS)
  | forR (x : Nat) (a : Option ME) (b : ME) (body : List MS)
  | forV (x : Nat) (e : ME) (body : List MS)
  | forU (xs : List Nat) (e : ME) (body : List MS)
  | whl (c : ME) (body : List MS)
  | ret (e : ME)
  | retN
  | raise (t : String)
  | tryT (body : List MS)
  | ex (e : ME)
  | append (o e : ME)
  | extend (o e : ME)
  | pop (o : ME)

inductive Rx (α : Type) where
  | ok (a : α) (H : Hp)
  | err (t : Str) (H : Hp)
inductive Md where
  | fresh | held | fly
inductive RS where
  | next (lo : Lo) (H : Hp)
  | ret (v : DV) (H : Hp)
  | err (m : Md) (t : Str) (H : Hp)

noncomputable def bnd {α β : Type} (x : Option (Rx α)) (k : α → Hp → Option (Rx β)) : Option (Rx β) :=
  match x with
  | some (.ok a H) => k a H
  | some (.err t H) => some (.err t H)
  | .none => .none

noncomputable def big : Nat := 2 ^ 29
/-- two plain data compared: the text's == -/
noncomputable def okD (d : PyData) : Bool := SeqAt.shaped d
noncomputable def eqD (d e : PyData) : Bool := PyData.eqv d e

noncomputable def isBlank (s : String) : Bool := s == " "

noncomputable def addD : PyData → PyData → Option PyData
  | .int a, .int b => some (.int (a + b))
  | .int a, .bool b => some (.int (a + (if b then 1 else 0)))
  | .str a, .str b => if a.length ≤ 4096 ∧ b.length ≤ 4096 then some (.str (a ++ b)) else .none
  | .list a, .list b => if a.length ≤ 4096 ∧ b.length ≤ 4096 then some (.list (a ++ b)) else .none
  | _, _ => .none
noncomputable def mulD : PyData → PyData → Option PyData
  | .int a, .int b => if a.natAbs ≤ big ∧ b.natAbs ≤ big then some (.int (a * b)) else .none
  | .str a, .int b => if a.length ≤ 16 ∧ -4096 ≤ b ∧ b ≤ 4096 then some (.str (Txt.mul a b)) else .none
  | .list a, .int b => if a.length * b.toNat ≤ 256 ∧ -4096 ≤ b ∧ b ≤ 4096 then some (.list ((List.replicate b.toNat a).flatten)) else .none
  | _, _ => .none
noncomputable def int2 {α : Type} (f : Int → Int → Option α) : PyData → PyData → Option α
  | .int a, .int b => f a b
  | _, _ => .none
noncomputable def binD : Op → PyData → PyData → Option PyData
  | .add, x, y => addD x y
  | .mul, x, y => mulD x y
  | .sub, x, y => int2 (fun a b => some (.int (a - b))) x y
  | .fdiv, x, y => int2 (fun a b => if b = 0 ∨ big < b.natAbs then .none else some (.int (Int.fdiv a b))) x y
  | .mod, x, y => int2 (fun a b => if b = 0 then .none else some (.int (Int.fmod a b))) x y
  | .pow, x, y => int2 (fun a b => if 0 ≤ b ∧ b ≤ 8 ∧ a.natAbs ≤ 16 then some (.int (a ^ b.toNat)) else .none) x y

noncomputable def augD : Op → PyData → PyData → Option PyData
  | .add, .int a, .int b => some (.int (a + b))
  | .mul, .int a, .int b => if a.natAbs ≤ big ∧ b.natAbs ≤ big then some (.int (a * b)) else .none
  | _, _, _ => .none

noncomputable def noneD : PyData → Bool
  | .none => true
  | _ => false
noncomputable def inD (a : PyData) : PyData → Option Bool
  | .list ds => if okD a && ds.all okD then some (ds.any fun y => eqD y a) else .none
  | _ => .none
noncomputable def isD (b : Bool) : PyData → Option Bool
  | .none => some b
  | _ => .none
noncomputable def cmpD : Cm → PyData → PyData → Option Bool
  | .eq, a, b => if okD a && okD b then some (eqD a b) else .none
  | .ne, a, b => if okD a && okD b then some (!eqD a b) else .none
  | .lt, a, b => int2 (fun a b => some (decide (a < b))) a b
  | .gt, a, b => int2 (fun a b => some (decide (b < a))) a b
  | .le, a, b => int2 (fun a b => some (decide (a ≤ b))) a b
  | .ge, a, b => int2 (fun a b => some (decide (b ≤ a))) a b
  | .inn, a, b => inD a b
  | .is, a, b => isD (noneD a) b
  | .isNot, a, b => isD (!noneD a) b

noncomputable def lenR (H : Hp) : DV → Option Nat
  | .d (.list ds) => some ds.length
  | .d (.tuple ds) => some ds.length
  | .d (.str s) => some s.length
  | .ml i => (H[i]?.join).map List.length
  | .scr ns => some ns.length
  | _ => .none

noncomputable def lenD (H : Hp) (v : DV) : Option Nat := (lenR H v).bind fun n => if n ≤ 4096 then some n else .none
noncomputable def subD (H : Hp) (o : DV) (k : Int) : Option DV :=
  if 0 ≤ k ∧ k ≤ 4096 then match o with
  | .d (.list ds) => (ds[k.toNat]?).map .d
  | .d (.tuple ds) => (ds[k.toNat]?).map .d
  | .d (.str s) => if k < s.length ∧ s.length ≤ 4096 then some (.d (.str (Txt.item s k))) else .none
  | .ml i => ((H[i]?.join).bind (·[k.toNat]?)).map .d
  | .scr ns => (ns[k.toNat]?).map fun n => .d (.int n)
  | _ => .none
  else .none
/-- a cut whose ends are ints that are not negative -/
noncomputable def cutL {α : Type} (l : List α) (a b : Nat) : List α := (l.drop a).take (b - a)
noncomputable def sliceD (H : Hp) (o : DV) (a b : Nat) : Option DV := match o with
  | .d (.list ds) => if a ≤ b ∧ b ≤ ds.length ∧ ds.length ≤ 4096 then some (.d (.list (cutL ds a b))) else .none
  | .d (.tuple ds) => if a ≤ b ∧ b < ds.length ∧ ds.length ≤ 4096 then some (.d (.tuple (cutL ds a b))) else .none
  | .ml i => (H[i]?.join).bind fun ds => if a ≤ b ∧ b ≤ ds.length ∧ ds.length ≤ 4096 then some (.d (.list (cutL ds a b))) else .none
  | _ => .none
noncomputable def uptoD (o : DV) (b : Nat) : Option DV := match o with
  | .d (.tuple ds) => if b < ds.length ∧ ds.length ≤ 4096 then some (.d (.tuple (ds.take b))) else .none
  | .d (.str s) => if s.length ≤ 4096 then some (.d (.str (Txt.slice s .none (some (b : Int))))) else .none
  | _ => .none
noncomputable def strsOf : List PyData → Option (List Str)
  | [] => some []
  | .str s :: r => (strsOf r).map (s :: ·)
  | _ :: _ => .none
noncomputable def natOf (v : DV) : Option Nat := match v with
  | .d (.int i) => if 0 ≤ i ∧ i ≤ 4096 then some i.toNat else .none
  | _ => .none
noncomputable def datOf : DV → Option PyData
  | .d x => some x
  | _ => .none
noncomputable def datsOf : List DV → Option (List PyData)
  | [] => some []
  | .d x :: r => (datsOf r).map (x :: ·)
  | _ :: _ => .none
noncomputable def intOf : DV → Option Int
  | .d (.int i) => some i
  | _ => .none
noncomputable def boolOf : DV → Option Bool
  | .d (.bool b) => some b
  | _ => .none
noncomputable def up {α : Type} (x : Option α) (H : Hp) : Option (Rx α) := x.map fun a => .ok a H
noncomputable def idxOf (ds : List PyData) (a : PyData) : Option Nat := ds.findIdx? fun y => eqD y a
noncomputable def rngI (a b : Int) : List Int := (List.range (b - a).toNat).map fun (k : Nat) => a + (k : Int)
noncomputable def small (i : Int) : Bool := decide (i.natAbs ≤ 4096)

noncomputable abbrev CF := Fn → List DV → Hp → Option (Rx DV)

noncomputable def compL (f : DV → Hp → Option (Rx DV)) : List Int → Hp → Option (List PyData × Hp)
  | [], H => some ([], H)
  | k :: r, H => match f (.d (.int k)) H with
    | some (.ok v H₁) => (datOf v).bind fun d => (compL f r H₁).map fun p => (d :: p.1, p.2)
    | _ => .none
/-- the names that a comprehension sees -/
noncomputable def keepOnly (fv : List Nat) (lo : Lo) : Lo := fv.foldl (fun l i => l.set i (lo[i]?.join)) (List.replicate lo.length .none)

mutual
noncomputable def evE (cf : CF) (lo : Lo) : ME → Hp → Option (Rx DV)
  | .var x, H => up (lo[x]?.join) H
  | .none, H => some (.ok (.d .none) H)
  | .bool b, H => some (.ok (.d (.bool b)) H)
  | .int i, H => some (.ok (.d (.int i)) H)
  | .str s, H => some (.ok (.d (.str (Str.ofString s))) H)
  | .gint _ i, H => some (.ok (.d (.int i)) H)
  | .neg i, H => some (.ok (.d (.int (-i))) H)
  | .bin o a b, H => bnd (evE cf lo a H) fun x H₁ => bnd (evE cf lo b H₁) fun y H₂ => up ((datOf x).bind fun x => (datOf y).bind fun y => (binD o x y).map .d) H₂
  | .cmp c a b, H => bnd (evE cf lo a H) fun x H₁ => bnd (evE cf lo b H₁) fun y H₂ => up ((datOf x).bind fun x => (datOf y).bind fun y => (cmpD c x y).map fun b => .d (.bool b)) H₂
  | .andV a b, H => bnd (evE cf lo a H) fun x H₁ => match boolOf x with
      | some true => evE cf lo b H₁
      | some false => some (.ok (.d (.bool false)) H₁)
      | .none => .none
  | .ite c a b, H => bnd (evT cf lo c H) fun x H₁ => if x then evE cf lo a H₁ else evE cf lo b H₁
  | .call f es, H => bnd (evEs cf lo es H) fun vs H₁ => cf f vs H₁
  | .mcall f o es, H => bnd (evE cf lo o H) fun x H₁ => match x with
      | .mem i j => bnd (evEs cf lo es H₁) fun vs H₂ => cf f (.mem i j :: vs) H₂
      | _ => .none
  | .len e, H => bnd (evE cf lo e H) fun x H₁ => up ((lenD H₁ x).map fun (n : Nat) => .d (.int (n : Int))) H₁
  | .min2 a b, H => bnd (evE cf lo a H) fun x H₁ => bnd (evE cf lo b H₁) fun y H₂ => up ((intOf x).bind fun x => (intOf y).map fun y => .d (.int (if y < x then y else x))) H₂
  | .lrange a b, H => bnd (evE cf lo a H) fun x H₁ => bnd (evE cf lo b H₁) fun y H₂ => up ((intOf x).bind fun x => (intOf y).bind fun y => if small x && small y then some (.d (.list ((rngI x y).map .int))) else .none) H₂
  | .tupOf e, H => bnd (evE cf lo e H) fun x H₁ => match x with
      | .d (.list ds) => if ds.length ≤ 4096 then some (.ok (.d (.tuple ds)) H₁) else .none
      | _ => .none
  | .index o e, H => bnd (evE cf lo o H) fun x H₁ => match x with
      | .d (.list ds) => bnd (evE cf lo e H₁) fun y H₂ => match y with
        | .d a => if ds.length ≤ 4096 then if okD a && ds.all okD then up ((idxOf ds a).map fun (n : Nat) => .d (.int (n : Int))) H₂ else .none else .none
        | _ => .none
      | _ => .none
  | .join o e, H => bnd (evE cf lo o H) fun x H₁ => match x with
      | .d (.str s) => bnd (evE cf lo e H₁) fun y H₂ => match y with
        | .d (.list ds) => if s.length ≤ 16 ∧ ds.length ≤ 4096 then (strsOf ds).bind fun l => if l.all (fun s => decide (s.length ≤ 16)) then some (.ok (.d (.str (Txt.join s l))) H₂) else .none else .none
        | _ => .none
      | _ => .none
  | .numeric e, H => bnd (evE cf lo e H) fun x H₁ => match x with
      | .mem i _ => some (.ok (.ml i) H₁)
      | _ => .none
  | .chars e, H => bnd (evE cf lo e H) fun x H₁ => match x with
      | .mem _ j => some (.ok (.ml j) H₁)
      | _ => .none
  | .sub o i, H => bnd (evE cf lo o H) fun x H₁ => bnd (evE cf lo i H₁) fun y H₂ => up ((intOf y).bind fun k => subD H₂ x k) H₂
  | .slice o a b, H => bnd (evE cf lo o H) fun x H₁ => bnd (evE cf lo a H₁) fun y H₂ => bnd (evE cf lo b H₂) fun z H₃ => up ((natOf y).bind fun a => (natOf z).bind fun b => sliceD H₃ x a b) H₃
  | .upto o b, H => bnd (evE cf lo o H) fun x H₁ => bnd (evE cf lo b H₁) fun z H₂ => up ((natOf z).bind fun b => uptoD x b) H₂
  | .rev o, H => bnd (evE cf lo o H) fun x H₁ => match x with
      | .d (.tuple ds) => if ds.length ≤ 4096 then some (.ok (.d (.tuple ds.reverse)) H₁) else .none
      | _ => .none
  | .tup es, H => bnd (evEs cf lo es H) fun vs H₁ => up ((datsOf vs).map fun ds => .d (.tuple ds)) H₁
  | .list es, H => bnd (evEs cf lo es H) fun vs H₁ => up ((datsOf vs).map fun ds => .d (.list ds)) H₁
  | .mlist, H => some (.ok (.ml H.length) (H ++ [some []]))
  | .freeze e, H => bnd (evE cf lo e H) fun x H₁ => match x with
      | .ml i => (H₁[i]?.join).bind fun ds => some (.ok (.d (.list ds)) (H₁.set i .none))
      | _ => .none
  | .comp elt x fv e, H => bnd (evE cf lo e H) fun n H₁ => (natOf n).bind fun n => (compL (fun v => evE cf ((keepOnly fv lo).set x (some v)) elt) (rngI 0 n) H₁).map fun p => .ok (.d (.list p.1)) p.2
  | .not _, _ => .none
  | .bools _ _, _ => .none
  | .chain2 .., _ => .none
  | .chain3 .., _ => .none
noncomputable def evEs (cf : CF) (lo : Lo) : List ME → Hp → Option (Rx (List DV))
  | [], H => some (.ok [] H)
  | e :: es, H => bnd (evE cf lo e H) fun v H₁ => bnd (evEs cf lo es H₁) fun vs H₂ => some (.ok (v :: vs) H₂)
noncomputable def evO (cf : CF) (lo : Lo) : Option ME → Hp → Option (Rx (Option DV))
  | .none, H => some (.ok .none H)
  | some e, H => bnd (evE cf lo e H) fun v H₁ => some (.ok (some v) H₁)
noncomputable def evT (cf : CF) (lo : Lo) : ME → Hp → Option (Rx Bool)
  | .not a, H => bnd (evT cf lo a H) fun b H₁ => some (.ok (!b) H₁)
  | .bools true es, H => evAll cf lo es H
  | .bools false es, H => evAny cf lo es H
  | .cmp c a b, H => bnd (evE cf lo a H) fun x H₁ => bnd (evE cf lo b H₁) fun y H₂ => up ((datOf x).bind fun x => (datOf y).bind fun y => cmpD c x y) H₂
  | .chain2 c₁ c₂ a b e, H => bnd (evE cf lo a H) fun x H₁ => bnd (evE cf lo b H₁) fun y H₂ => match (datOf x).bind fun x => (datOf y).bind fun y => cmpD c₁ x y with
      | some true => bnd (evE cf lo e H₂) fun z H₃ => up ((datOf y).bind fun y => (datOf z).bind fun z => cmpD c₂ y z) H₃
      | some false => some (.ok false H₂)
      | .none => .none
  | .chain3 c₁ c₂ c₃ a b e f, H => bnd (evE cf lo a H) fun x H₁ => bnd (evE cf lo b H₁) fun y H₂ => match (datOf x).bind fun x => (datOf y).bind fun y => cmpD c₁ x y with
      | some true => bnd (evE cf lo e H₂) fun z H₃ => match (datOf y).bind fun y => (datOf z).bind fun z => cmpD c₂ y z with
        | some true => bnd (evE cf lo f H₃) fun u H₄ => up ((datOf z).bind fun z => (datOf u).bind fun u => cmpD c₃ z u) H₄
        | some false => some (.ok false H₃)
        | .none => .none
      | some false => some (.ok false H₂)
      | .none => .none
  | .var x, H => up ((lo[x]?.join).bind boolOf) H
  | .call f es, H => bnd (bnd (evEs cf lo es H) fun vs H₁ => cf f vs H₁) fun v H₂ => up (boolOf v) H₂
  | .none, _ => .none
  | .bool _, _ => .none
  | .int _, _ => .none
  | .str _, _ => .none
  | .gint .., _ => .none
  | .neg _, _ => .none
  | .bin .., _ => .none
  | .andV .., _ => .none
  | .ite .., _ => .none
  | .mcall .., _ => .none
  | .len _, _ => .none
  | .min2 .., _ => .none
  | .lrange .., _ => .none
  | .tupOf _, _ => .none
  | .index .., _ => .none
  | .join .., _ => .none
  | .numeric _, _ => .none
  | .chars _, _ => .none
  | .sub .., _ => .none
  | .slice .., _ => .none
  | .upto .., _ => .none
  | .rev _, _ => .none
  | .tup _, _ => .none
  | .list _, _ => .none
  | .mlist, _ => .none
  | .freeze _, _ => .none
  | .comp .., _ => .none
noncomputable def evAll (cf : CF) (lo : Lo) : List ME → Hp → Option (Rx Bool)
  | [], H => some (.ok true H)
  | e :: es, H => bnd (evT cf lo e H) fun b H₁ => if b then evAll cf lo es H₁ else some (.ok false H₁)
noncomputable def evAny (cf : CF) (lo : Lo) : List ME → Hp → Option (Rx Bool)
  | [], H => some (.ok false H)
  | e :: es, H => bnd (evT cf lo e H) fun b H₁ => if b then some (.ok true H₁) else evAny cf lo es H₁
end

/-- an expression within a statement -/
noncomputable def bnS {α : Type} (x : Option (Rx α)) (k : α → Hp → Option RS) : Option RS :=
  match x with
  | some (.ok a H) => k a H
  | some (.err t H) => some (.err .fly t H)
  | .none => .none

noncomputable def loopV (f : DV → Lo → Hp → Option RS) : List DV → Lo → Hp → Option RS
  | [], lo, H => some (.next lo H)
  | d :: ds, lo, H => match f d lo H with
    | some (.next lo' H') => loopV f ds lo' H'
    | some (.ret v H') => some (.ret v H')
    | some (.err .fresh t H') => some (.err .held t H')
    | _ => .none
noncomputable def whileV (c : Lo → Hp → Option (Rx Bool)) (f : Lo → Hp → Option RS) : Nat → Lo → Hp → Option RS
  | 0, _, _ => .none
  | n + 1, lo, H => match c lo H with
    | some (.ok true H₁) => (match f lo H₁ with
      | some (.next lo' H') => whileV c f n lo' H'
      | _ => .none)
    | some (.ok false H₁) => some (.next lo H₁)
    | _ => .none
noncomputable def setAll : Lo → List Nat → List PyData → Option Lo
  | lo, [], [] => some lo
  | lo, x :: xs, d :: ds => setAll (lo.set x (some (.d d))) xs ds
  | _, _, _ => .none
noncomputable def tupItems : DV → Option (List PyData)
  | .d (.tuple ds) => some ds
  | _ => .none
noncomputable def seqItems : DV → Option (List PyData)
  | .d (.tuple ds) => some ds
  | .d (.list ds) => some ds
  | _ => .none

mutual
noncomputable def evS (cf : CF) : MS → Lo → Hp → Option RS
  | .assign x e, lo, H => bnS (evE cf lo e H) fun v H₁ => some (.next (lo.set x (some v)) H₁)
  | .assignC x e, lo, H => bnS (evE cf lo e H) fun v H₁ => some (.next (lo.set x (some v)) H₁)
  | .asub o i e, lo, H => bnS (evE cf lo e H) fun v H₁ => bnS (evE cf lo o H₁) fun ov H₂ => bnS (evE cf lo i H₂) fun iv H₃ => match v, ov with
      | .d x, .ml n => (H₃[n]?.join).bind fun ds => (natOf iv).bind fun k => if k < ds.length then some (.next lo (H₃.set n (some (ds.set k x)))) else .none
      | _, _ => .none
  | .unpack xs e, lo, H => bnS (evE cf lo e H) fun v H₁ => (tupItems v).bind fun ds => (setAll lo xs ds).map fun lo' => .next lo' H₁
  | .aug x o e, lo, H => bnS (up (lo[x]?.join) H) fun old H₀ => bnS (evE cf lo e H₀) fun v H₁ => (datOf old).bind fun a => (datOf v).bind fun b => (augD o a b).map fun r => .next (lo.set x (some (.d r))) H₁
  | .ife c t e, lo, H => bnS (evT cf lo c H) fun b H₁ => if b then evSs cf t lo H₁ else evSs cf e lo H₁
  | .forR x a b body, lo, H => bnS (evO cf lo a H) fun av H₁ => bnS (evE cf lo b H₁) fun bv H₂ => (match av with | some v => intOf v | .none => some 0).bind fun a => (intOf bv).bind fun b =>
      if small a && small b then loopV (fun v lo H => evSs cf body (lo.set x (some v)) H) ((rngI a b).map fun k => .d (.int k)) lo H₂ else .none
  | .forV x e body, lo, H => bnS (evE cf lo e H) fun v H₁ => (seqItems v).bind fun ds => loopV (fun v lo H => evSs cf body (lo.set x (some v)) H) (ds.map .d) lo H₁
  | .forU xs e body, lo, H => bnS (evE cf lo e H) fun v H₁ => (seqItems v).bind fun ds => loopV (fun v lo H => (tupItems v).bind fun es => (setAll lo xs es).bind fun lo' => evSs cf body lo' H) (ds.map .d) lo H₁
  | .whl c body, lo, H => whileV (fun lo H => evT cf lo c H) (fun lo H => evSs cf body lo H) 64 lo H
  | .ret e, lo, H => bnS (evE cf lo e H) fun v H₁ => some (.ret v H₁)
  | .retN, _, H => some (.ret (.d .none) H)
  | .raise t, _, H => some (.err .fresh (Str.ofString t) H)
  | .tryT body, lo, H => match evSs cf body lo H with
      | some (.err .fly t H₁) => some (.ret (.d (.str t)) H₁)
      | some (.err _ _ _) => .none
      | r => r
  | .ex e, lo, H => bnS (evE cf lo e H) fun _ H₁ => some (.next lo H₁)
  | .append o e, lo, H => bnS (evE cf lo o H) fun ov H₁ => match ov with
      | .ml n => if (H₁[n]?.join).isSome then bnS (evE cf lo e H₁) fun v H₂ => (datOf v).bind fun x => (H₂[n]?.join).bind fun ds => if ds.length ≤ 4096 then some (.next lo (H₂.set n (some (ds ++ [x])))) else .none else .none
      | _ => .none
  | .extend o e, lo, H => bnS (evE cf lo o H) fun ov H₁ => match ov with
      | .ml n => if (H₁[n]?.join).isSome then bnS (evE cf lo e H₁) fun v H₂ => match v with
        | .d (.list es) => (H₂[n]?.join).bind fun ds => if ds.length ≤ 4096 ∧ es.length ≤ 4096 then some (.next lo (H₂.set n (some (ds ++ es)))) else .none
        | _ => .none else .none
      | _ => .none
  | .pop o, lo, H => bnS (evE cf lo o H) fun ov H₁ => match ov with
      | .ml n => (H₁[n]?.join).bind fun ds => if ds = [] ∨ 4096 < ds.length then .none else some (.next lo (H₁.set n (some ds.dropLast)))
      | _ => .none
noncomputable def evSs (cf : CF) : List MS → Lo → Hp → Option RS
  | [], lo, H => some (.next lo H)
  | s :: r, lo, H => match evS cf s lo H with
    | some (.next lo' H') => evSs cf r lo' H'
    | x => x
end

structure FnDef where
  params : Nat
  names : List String
  body : List MS

noncomputable def initLo (fd : FnDef) (vs : List DV) : Lo := vs.map some ++ List.replicate (fd.names.length - vs.length) .none
noncomputable def callWithBody (cf : CF) (fd : FnDef) (vs : List DV) (H : Hp) : Option (Rx DV) :=
  if vs.length = fd.params then match evSs cf fd.body (initLo fd vs) H with
    | some (.ret v H') => some (.ok v H')
    | some (.next _ H') => some (.ok (.d .none) H')
    | some (.err _ t H') => some (.err t H')
    | .none => .none
  else .none
noncomputable def callN (defs : Fn → FnDef) : Nat → CF
  | 0, _, _, _ => .none
  | n + 1, f, vs, H => callWithBody (callN defs n) (defs f) vs H
end Mine
end

section
namespace Mine
noncomputable def d_unitsOf : FnDef := { params := 1, names := ["kind"], body := [.ife (.cmp .eq (.var 0) (.gint "CHARACTER" 5)) [.ret (.int 0)] [], .ife (.bools false [(.cmp .eq (.var 0) (.gint "DOUBLE" 2)), (.cmp .eq (.var 0) (.gint "COMPLEX" 3))]) [.ret (.int 2)] [], .ret (.int 1)] }
noncomputable def d_load : FnDef := { params := 2, names := ["self", "place"], body := [.ife (.cmp .eq (.sub (.var 1) (.int 0)) (.gint "CHARACTER" 5)) [.ret (.call .loadText [(.chars (.var 0)), (.sub (.var 1) (.int 1)), (.sub (.var 1) (.int 2))])] [], .ret (.call .loadNumber [(.numeric (.var 0)), (.sub (.var 1) (.int 0)), (.sub (.var 1) (.int 1))])] }
noncomputable def d_store : FnDef := { params := 3, names := ["self", "place", "value"], body := [.ife (.cmp .eq (.sub (.var 1) (.int 0)) (.gint "CHARACTER" 5)) [.ex (.call .storeText [(.chars (.var 0)), (.sub (.var 1) (.int 1)), (.call .pad [(.var 2), (.sub (.var 1) (.int 2))])])] [.ex (.call .storeNumber [(.numeric (.var 0)), (.sub (.var 1) (.int 0)), (.sub (.var 1) (.int 1)), (.var 2)])]] }
noncomputable def d_undefine : FnDef := { params := 2, names := ["self", "place", "is_character", "low", "high"], body := [.unpack [2, 3, 4] (.call .spanOf [(.var 1)]), .ex (.call .undefineCells [(.var 0), (.var 2), (.var 3), (.var 4)])] }
noncomputable def d_needUnits : FnDef := { params := 3, names := ["cells", "address", "count"], body := [.ife (.bools false [(.cmp .lt (.var 1) (.int 0)), (.cmp .gt (.bin .add (.var 1) (.var 2)) (.len (.var 0)))]) [.raise "storage"] []] }
noncomputable def d_readCell : FnDef := { params := 3, names := ["cells", "address", "tag", "cell"], body := [.assign 3 (.sub (.var 0) (.var 1)), .ife (.bools false [(.cmp .is (.var 3) .none), (.cmp .ne (.sub (.var 3) (.int 0)) (.var 2))]) [.raise "undefined"] [], .ret (.sub (.var 3) (.int 1))] }
noncomputable def d_loadNumber : FnDef := { params := 3, names := ["cells", "kind", "address", "value"], body := [.ex (.call .needUnits [(.var 0), (.var 2), (.call .unitsOf [(.var 1)])]), .ife (.cmp .eq (.var 1) (.gint "COMPLEX" 3)) [.ret (.tup [(.call .readCell [(.var 0), (.var 2), (.gint "REAL" 1)]), (.call .readCell [(.var 0), (.bin .add (.var 2) (.int 1)), (.gint "REAL" 1)])])] [], .assign 3 (.call .readCell [(.var 0), (.var 2), (.var 1)]), .ife (.cmp .eq (.var 1) (.gint "DOUBLE" 2)) [.ex (.call .readCell [(.var 0), (.bin .add (.var 2) (.int 1)), (.gint "SECOND" 6)])] [], .ret (.var 3)] }
noncomputable def d_storeNumber : FnDef := { params := 4, names := ["cells", "kind", "address", "value"], body := [.ex (.call .needUnits [(.var 0), (.var 2), (.call .unitsOf [(.var 1)])]), .ife (.cmp .eq (.var 1) (.gint "COMPLEX" 3)) [.asub (.var 0) (.var 2) (.tup [(.gint "REAL" 1), (.sub (.var 3) (.int 0))]), .asub (.var 0) (.bin .add (.var 2) (.int 1)) (.tup [(.gint "REAL" 1), (.sub (.var 3) (.int 1))]), .retN] [], .asub (.var 0) (.var 2) (.tup [(.var 1), (.var 3)]), .ife (.cmp .eq (.var 1) (.gint "DOUBLE" 2)) [.asub (.var 0) (.bin .add (.var 2) (.int 1)) (.tup [(.gint "SECOND" 6), (.var 3)])] []] }
noncomputable def d_loadText : FnDef := { params := 3, names := ["cells", "address", "length", "signs"], body := [.ex (.call .needUnits [(.var 0), (.var 1), (.var 2)]), .assign 3 (.slice (.var 0) (.var 1) (.bin .add (.var 1) (.var 2))), .ife (.cmp .inn .none (.var 3)) [.raise "undefined"] [], .ret (.join (.str "") (.var 3))] }
noncomputable def d_storeText : FnDef := { params := 3, names := ["cells", "address", "text", "k"], body := [.ex (.call .needUnits [(.var 0), (.var 1), (.len (.var 2))]), .forR 3 .none (.len (.var 2)) [.asub (.var 0) (.bin .add (.var 1) (.var 3)) (.sub (.var 2) (.var 3))]] }
noncomputable def d_pad : FnDef := { params := 2, names := ["text", "length"], body := [.ret (.bin .add (.upto (.var 0) (.var 1)) (.bin .mul (.str " ") (.bin .sub (.var 1) (.len (.var 0)))))] }
noncomputable def d_unitSize : FnDef := { params := 2, names := ["kind", "length"], body := [.ife (.cmp .eq (.var 0) (.gint "CHARACTER" 5)) [.ret (.var 1)] [], .ret (.call .unitsOf [(.var 0)])] }
noncomputable def d_extent : FnDef := { params := 1, names := ["dims", "count", "low", "high"], body := [.assign 1 (.int 1), .forU [2, 3] (.var 0) [.ife (.cmp .is (.var 3) .none) [.ret .none] [], .aug 1 .mul (.bin .add (.bin .sub (.var 3) (.var 2)) (.int 1))], .ret (.var 1)] }
noncomputable def d_elementPlace : FnDef := { params := 2, names := ["place", "subscripts", "offset", "stride", "k", "kind", "address", "length", "dims", "low", "high"], body := [.unpack [5, 6, 7, 8] (.var 0), .ife (.cmp .ne (.len (.var 1)) (.len (.var 8))) [.raise "subscript"] [], .assign 2 (.int 0), .assign 3 (.int 1), .forR 4 .none (.len (.var 8)) [.unpack [9, 10] (.sub (.var 8) (.var 4)), .ife (.bools false [(.cmp .lt (.sub (.var 1) (.var 4)) (.var 9)), (.bools true [(.cmp .isNot (.var 10) .none), (.cmp .gt (.sub (.var 1) (.var 4)) (.var 10))])]) [.raise "subscript"] [], .aug 2 .add (.bin .mul (.bin .sub (.sub (.var 1) (.var 4)) (.var 9)) (.var 3)), .ife (.cmp .isNot (.var 10) .none) [.aug 3 .mul (.bin .add (.bin .sub (.var 10) (.var 9)) (.int 1))] []], .ret (.tup [(.var 5), (.bin .add (.var 6) (.bin .mul (.var 2) (.call .unitSize [(.var 5), (.var 7)]))), (.var 7), (.tup [])])] }
noncomputable def d_subPlace : FnDef := { params := 3, names := ["place", "lo", "hi", "first", "last"], body := [.assign 3 (.ite (.cmp .is (.var 1) .none) (.int 1) (.var 1)), .assign 4 (.ite (.cmp .is (.var 2) .none) (.sub (.var 0) (.int 2)) (.var 2)), .ife (.bools false [(.cmp .lt (.var 3) (.int 1)), (.cmp .lt (.var 4) (.var 3)), (.cmp .gt (.var 4) (.sub (.var 0) (.int 2)))]) [.raise "substring"] [], .ret (.tup [(.gint "CHARACTER" 5), (.bin .sub (.bin .add (.sub (.var 0) (.int 1)) (.var 3)) (.int 1)), (.bin .add (.bin .sub (.var 4) (.var 3)) (.int 1)), (.tup [])])] }
noncomputable def d_elementsOf : FnDef := { params := 1, names := ["place", "count", "width", "kind", "address", "length", "dims", "k"], body := [.unpack [3, 4, 5, 6] (.var 0), .assign 1 (.call .extent [(.var 6)]), .ife (.cmp .is (.var 1) .none) [.raise "assumed size"] [], .assign 2 (.call .unitSize [(.var 3), (.var 5)]), .ret (.comp (.tup [(.var 3), (.bin .add (.var 4) (.bin .mul (.var 7) (.var 2))), (.var 5), (.tup [])]) 7 [3, 5, 4, 2] (.var 1))] }
noncomputable def d_spanOf : FnDef := { params := 1, names := ["place", "count", "kind", "address", "length", "dims"], body := [.unpack [2, 3, 4, 5] (.var 0), .assign 1 (.call .extent [(.var 5)]), .ife (.cmp .is (.var 1) .none) [.assign 1 (.int 1)] [], .ret (.tup [(.cmp .eq (.var 2) (.gint "CHARACTER" 5)), (.var 3), (.bin .add (.var 3) (.bin .mul (.var 1) (.call .unitSize [(.var 2), (.var 4)])))])] }
noncomputable def d_undefineCells : FnDef := { params := 4, names := ["memory", "is_character", "low", "high", "cells", "k"], body := [.assign 4 (.ite (.var 1) (.chars (.var 0)) (.numeric (.var 0))), .ex (.call .needUnits [(.var 4), (.var 2), (.bin .sub (.var 3) (.var 2))]), .forR 5 (some (.var 2)) (.var 3) [.asub (.var 4) (.var 5) .none]] }
noncomputable def d_fresh : FnDef := { params := 3, names := ["memory", "kind", "length", "cells", "address", "k"], body := [.assign 3 (.ite (.cmp .eq (.var 1) (.gint "CHARACTER" 5)) (.chars (.var 0)) (.numeric (.var 0))), .assign 4 (.len (.var 3)), .forR 5 .none (.call .unitSize [(.var 1), (.var 2)]) [.append (.var 3) .none], .ret (.tup [(.var 1), (.var 4), (.var 2), (.tup [])])] }
noncomputable def d_markStorage : FnDef := { params := 1, names := ["memory"], body := [.ret (.tup [(.len (.numeric (.var 0))), (.len (.chars (.var 0)))])] }
noncomputable def d_cutStorage : FnDef := { params := 2, names := ["memory", "marked"], body := [.whl (.cmp .gt (.len (.numeric (.var 0))) (.sub (.var 1) (.int 0))) [.pop (.numeric (.var 0))], .whl (.cmp .gt (.len (.chars (.var 0))) (.sub (.var 1) (.int 1))) [.pop (.chars (.var 0))]] }
noncomputable def d_lawValues : FnDef := { params := 0, names := [], body := [.ret (.list [(.int 7), (.tup [(.int 5), (.neg 1)]), (.tup [(.int 25), (.int 2)]), (.tup [(.tup [(.int 1), (.int 0)]), (.tup [(.int 5), (.neg 1)])]), (.bool true), (.str "AB")])] }
noncomputable def d_lawPick : FnDef := { params := 2, names := ["script", "place"], body := [.ife (.cmp .lt (.var 1) (.len (.var 0))) [.ret (.sub (.var 0) (.var 1))] [], .ret (.bin .add (.bin .mul (.var 1) (.var 1)) (.int 3))] }
noncomputable def d_lawOwn : FnDef := { params := 5, names := ["units", "texts", "kind", "at", "length", "cells", "count", "row"], body := [.assign 5 (.ite (.cmp .eq (.var 2) (.int 5)) (.var 1) (.var 0)), .assign 6 (.ite (.cmp .eq (.var 2) (.int 5)) (.var 4) (.bin .add (.int 1) (.cmp .inn (.var 2) (.list [(.int 2), (.int 3)])))), .ife (.bools false [(.cmp .lt (.var 3) (.int 0)), (.cmp .gt (.bin .add (.var 3) (.var 6)) (.len (.var 5)))]) [.ret (.str "storage")] [], .assign 7 (.slice (.var 5) (.var 3) (.bin .add (.var 3) (.var 6))), .ife (.cmp .inn .none (.var 7)) [.ret (.str "undefined")] [], .ife (.cmp .eq (.var 2) (.int 5)) [.ret (.tup [(.str "text"), (.join (.str "") (.var 7))])] [], .ife (.cmp .eq (.var 2) (.int 3)) [.ife (.bools false [(.cmp .ne (.slice (.sub (.var 7) (.int 0)) (.int 1) (.int 3)) (.tup [(.int 0), (.int 1)])), (.cmp .ne (.slice (.sub (.var 7) (.int 1)) (.int 1) (.int 3)) (.tup [(.int 0), (.int 1)]))]) [.ret (.str "undefined")] [], .ret (.tup [(.sub (.sub (.var 7) (.int 0)) (.int 3)), (.sub (.sub (.var 7) (.int 1)) (.int 3))])] [], .ife (.bools false [(.cmp .ne (.slice (.sub (.var 7) (.int 0)) (.int 1) (.int 3)) (.tup [(.int 0), (.var 2)])), (.bools true [(.cmp .eq (.var 2) (.int 2)), (.cmp .ne (.upto (.sub (.var 7) (.int 1)) (.int 2)) (.tup [(.sub (.sub (.var 7) (.int 0)) (.int 0)), (.int 1)]))])]) [.ret (.str "undefined")] [], .ret (.tup [(.str "one"), (.sub (.sub (.var 7) (.int 0)) (.int 3))])] }
noncomputable def d_lawLay : FnDef := { params := 7, names := ["units", "texts", "kind", "at", "length", "value", "serial", "k"], body := [.ife (.cmp .eq (.var 2) (.int 5)) [.forR 7 .none (.var 4) [.asub (.var 1) (.bin .add (.var 3) (.var 7)) (.sub (.bin .add (.var 5) (.bin .mul (.str " ") (.var 4))) (.var 7))]] [.ife (.cmp .eq (.var 2) (.int 3)) [.asub (.var 0) (.var 3) (.tup [(.var 6), (.int 0), (.int 1), (.sub (.var 5) (.int 0))]), .asub (.var 0) (.bin .add (.var 3) (.int 1)) (.tup [(.var 6), (.int 0), (.int 1), (.sub (.var 5) (.int 1))])] [.asub (.var 0) (.var 3) (.tup [(.var 6), (.int 0), (.var 2), (.var 5)]), .ife (.cmp .eq (.var 2) (.int 2)) [.asub (.var 0) (.bin .add (.var 3) (.int 1)) (.tup [(.var 6), (.int 1), (.var 2), (.var 5)])] []]]] }
noncomputable def d_lawLoad : FnDef := { params := 4, names := ["memory", "kind", "at", "length", "heard"], body := [.assign 4 (.str "none"), .tryT [.assign 4 (.mcall .load (.var 0) [(.tup [(.var 1), (.var 2), (.var 3), (.tup [])])])], .ife (.cmp .eq (.var 1) (.int 5)) [.ret (.tup [(.str "text"), (.var 4)])] [], .ife (.cmp .eq (.var 1) (.int 3)) [.ret (.var 4)] [], .ret (.tup [(.str "one"), (.var 4)])] }
noncomputable def d_lawStore : FnDef := { params := 5, names := ["memory", "kind", "at", "length", "value"], body := [.tryT [.ex (.mcall .store (.var 0) [(.tup [(.var 1), (.var 2), (.var 3), (.tup [])]), (.var 4)])], .ret (.str "stored")] }
noncomputable def d_lawDeed : FnDef := { params := 6, names := ["memory", "units", "texts", "code", "number", "serial", "kind", "length", "at", "value", "cells", "count", "due", "before", "place", "k"], body := [.assign 6 (.bin .mod (.bin .fdiv (.var 3) (.int 4)) (.int 6)), .assign 7 (.bin .add (.int 1) (.bin .mod (.bin .fdiv (.var 3) (.int 24)) (.int 3))), .assign 8 (.bin .sub (.bin .mod (.var 4) (.int 11)) (.int 1)), .assign 9 (.sub (.call .lawValues []) (.var 6)), .ife (.cmp .inn (.var 6) (.list [(.int 0), (.int 5)])) [.assign 9 (.sub (.list [(.var 4), (.str ""), (.str ""), (.str ""), (.str ""), (.upto (.str "ABCDE") (.bin .add (.int 1) (.bin .mod (.bin .fdiv (.var 4) (.int 11)) (.int 5))))]) (.var 6))] [], .assign 10 (.ite (.cmp .eq (.var 6) (.int 5)) (.var 2) (.var 1)), .assign 11 (.ite (.cmp .eq (.var 6) (.int 5)) (.var 7) (.bin .add (.int 1) (.cmp .inn (.var 6) (.list [(.int 2), (.int 3)])))), .ife (.cmp .eq (.bin .mod (.var 3) (.int 4)) (.int 2)) [.ife (.bools true [(.cmp .le (.int 0) (.var 8)), (.cmp .le (.bin .add (.var 8) (.var 11)) (.len (.var 10)))]) [.ex (.mcall .undefine (.var 0) [(.tup [(.var 6), (.var 8), (.var 7), (.tup [])])]), .forR 15 (some (.var 8)) (.bin .add (.var 8) (.var 11)) [.asub (.var 10) (.var 15) .none]] [], .ret (.bool true)] [], .ife (.cmp .eq (.bin .mod (.var 3) (.int 4)) (.int 3)) [.assign 13 (.call .markStorage [(.var 0)]), .assign 14 (.call .fresh [(.var 0), (.var 6), (.var 7)]), .ife (.cmp .ne (.var 14) (.tup [(.var 6), (.len (.var 10)), (.var 7), (.tup [])])) [.ret (.bool false)] [], .ife (.cmp .eq (.bin .mod (.var 4) (.int 2)) (.int 0)) [.ex (.call .cutStorage [(.var 0), (.var 13)]), .ret (.bool true)] [], .extend (.var 10) (.bin .mul (.list [.none]) (.var 11)), .assign 8 (.bin .sub (.len (.var 10)) (.var 11))] [], .assign 12 (.str "stored"), .ife (.bools false [(.cmp .lt (.var 8) (.int 0)), (.cmp .gt (.bin .add (.var 8) (.var 11)) (.len (.var 10)))]) [.assign 12 (.str "storage")] [.ex (.call .lawLay [(.var 1), (.var 2), (.var 6), (.var 8), (.var 7), (.var 9), (.var 5)])], .ret (.cmp .eq (.call .lawStore [(.var 0), (.var 6), (.var 8), (.var 7), (.var 9)]) (.var 12))] }
noncomputable def d_lawCounted : FnDef := { params := 1, names := ["dims", "rows", "low", "high", "later", "row", "at"], body := [.assign 1 (.list [(.list [])]), .forU [2, 3] (.rev (.var 0)) [.assign 4 .mlist, .forV 5 (.var 1) [.forR 6 (some (.var 2)) (.bin .add (.var 3) (.int 1)) [.append (.var 4) (.bin .add (.list [(.var 6)]) (.var 5))]], .assign 1 (.freeze (.var 4))], .ret (.var 1)] }
noncomputable def d_lawShapes : FnDef := { params := 1, names := ["code", "dims", "k", "low"], body := [.assign 1 .mlist, .forR 2 .none (.bin .mod (.var 0) (.int 4)) [.assign 3 (.bin .sub (.bin .mod (.bin .fdiv (.bin .fdiv (.var 0) (.int 4)) (.bin .pow (.int 9) (.var 2))) (.int 3)) (.int 1)), .append (.var 1) (.tup [(.var 3), (.bin .add (.var 3) (.bin .mod (.bin .fdiv (.bin .fdiv (.var 0) (.int 12)) (.bin .pow (.int 9) (.var 2))) (.int 3)))])], .ret (.tupOf (.freeze (.var 1)))] }
noncomputable def d_lawAsked : FnDef := { params := 3, names := ["ask", "place", "given"], body := [.tryT [.ife (.cmp .eq (.var 0) (.int 0)) [.ret (.call .elementPlace [(.var 1), (.var 2)])] [], .ret (.call .subPlace [(.var 1), (.sub (.var 2) (.int 0)), (.sub (.var 2) (.int 1))])]] }
noncomputable def d_lawArrays : FnDef := { params := 2, names := ["code", "number", "dims", "kind", "length", "width", "rows", "place", "asked", "due", "low", "high", "row", "first", "last", "k"], body := [.assign 2 (.call .lawShapes [(.var 0)]), .assign 3 (.bin .mod (.var 1) (.int 6)), .assign 4 (.bin .add (.int 1) (.bin .mod (.bin .fdiv (.var 1) (.int 6)) (.int 3))), .assign 5 (.sub (.list [(.int 1), (.int 1), (.int 2), (.int 2), (.int 1), (.var 4)]) (.var 3)), .assign 6 (.call .lawCounted [(.var 2)]), .assign 7 (.tup [(.var 3), (.int 5), (.var 4), (.var 2)]), .ife (.cmp .ne (.call .elementsOf [(.var 7)]) (.comp (.tup [(.var 3), (.bin .add (.int 5) (.bin .mul (.var 15) (.var 5))), (.var 4), (.tup [])]) 15 [3, 4, 5] (.len (.var 6)))) [.ret (.bool false)] [], .assignC 8 (.comp (.bin .sub (.bin .mod (.bin .fdiv (.bin .fdiv (.var 1) (.int 18)) (.bin .pow (.int 5) (.var 15))) (.int 5)) (.int 2)) 15 [1] (.len (.var 2))), .assign 9 (.str "subscript"), .ife (.cmp .inn (.var 8) (.var 6)) [.assign 9 (.tup [(.var 3), (.bin .add (.int 5) (.bin .mul (.index (.var 6) (.var 8)) (.var 5))), (.var 4), (.tup [])])] [], .ife (.bools false [(.cmp .ne (.call .lawAsked [(.int 0), (.var 7), (.var 8)]) (.var 9)), (.cmp .ne (.call .lawAsked [(.int 0), (.var 7), (.bin .add (.var 8) (.list [(.int 1)]))]) (.str "subscript"))]) [.ret (.bool false)] [], .assign 10 (.sub (.list [.none, (.int 0), (.int 1), (.int 2), (.int 3), (.int 4)]) (.bin .mod (.var 0) (.int 6))), .assign 11 (.sub (.list [.none, (.int 0), (.int 1), (.int 2), (.int 3), (.int 4)]) (.bin .mod (.var 1) (.int 6))), .assign 12 (.lrange (.int 5) (.bin .add (.int 5) (.var 4))), .assign 13 (.ite (.cmp .is (.var 10) .none) (.int 1) (.var 10)), .assign 14 (.ite (.cmp .is (.var 11) .none) (.var 4) (.var 11)), .assign 9 (.str "substring"), .ife (.chain3 .le .le .le (.int 1) (.var 13) (.var 14) (.var 4)) [.assign 12 (.slice (.var 12) (.bin .sub (.var 13) (.int 1)) (.var 14)), .assign 9 (.tup [(.int 5), (.sub (.var 12) (.int 0)), (.len (.var 12)), (.tup [])])] [], .ret (.cmp .eq (.call .lawAsked [(.int 1), (.tup [(.int 5), (.int 5), (.var 4), (.tup [])]), (.list [(.var 10), (.var 11)])]) (.var 9))] }
noncomputable def d_law : FnDef := { params := 1, names := ["script", "memory", "units", "texts", "turn", "at", "kind", "length"], body := [.forR 4 .none (.bin .add (.int 3) (.min2 (.int 9) (.bin .fdiv (.len (.var 0)) (.int 2)))) [.ife (.not (.call .lawDeed [(.var 1), (.var 2), (.var 3), (.call .lawPick [(.var 0), (.bin .mul (.int 2) (.var 4))]), (.call .lawPick [(.var 0), (.bin .add (.bin .mul (.int 2) (.var 4)) (.int 1))]), (.var 4)])) [.ret (.bool false)] []], .ife (.cmp .ne (.tup [(.len (.numeric (.var 1))), (.len (.chars (.var 1)))]) (.tup [(.len (.var 2)), (.len (.var 3))])) [.ret (.bool false)] [], .forR 5 (some (.neg 1)) (.bin .add (.len (.var 2)) (.int 1)) [.forR 6 .none (.int 5) [.ife (.cmp .ne (.call .lawLoad [(.var 1), (.var 6), (.var 5), (.int 0)]) (.call .lawOwn [(.var 2), (.var 3), (.var 6), (.var 5), (.int 0)])) [.ret (.bool false)] []]], .forR 5 (some (.neg 1)) (.bin .add (.len (.var 3)) (.int 1)) [.forV 7 (.list [(.int 1), (.int 3)]) [.ife (.cmp .ne (.call .lawLoad [(.var 1), (.int 5), (.var 5), (.var 7)]) (.call .lawOwn [(.var 2), (.var 3), (.int 5), (.var 5), (.var 7)])) [.ret (.bool false)] []]], .ret (.andV (.call .lawArrays [(.call .lawPick [(.var 0), (.int 0)]), (.call .lawPick [(.var 0), (.int 1)])]) (.call .lawArrays [(.call .lawPick [(.var 0), (.int 2)]), (.call .lawPick [(.var 0), (.int 3)])]))] }
noncomputable def defs : Fn → FnDef
  | .unitsOf => d_unitsOf
  | .load => d_load
  | .store => d_store
  | .undefine => d_undefine
  | .needUnits => d_needUnits
  | .readCell => d_readCell
  | .loadNumber => d_loadNumber
  | .storeNumber => d_storeNumber
  | .loadText => d_loadText
  | .storeText => d_storeText
  | .pad => d_pad
  | .unitSize => d_unitSize
  | .extent => d_extent
  | .elementPlace => d_elementPlace
  | .subPlace => d_subPlace
  | .elementsOf => d_elementsOf
  | .spanOf => d_spanOf
  | .undefineCells => d_undefineCells
  | .fresh => d_fresh
  | .markStorage => d_markStorage
  | .cutStorage => d_cutStorage
  | .lawValues => d_lawValues
  | .lawPick => d_lawPick
  | .lawOwn => d_lawOwn
  | .lawLay => d_lawLay
  | .lawLoad => d_lawLoad
  | .lawStore => d_lawStore
  | .lawDeed => d_lawDeed
  | .lawCounted => d_lawCounted
  | .lawShapes => d_lawShapes
  | .lawAsked => d_lawAsked
  | .lawArrays => d_lawArrays
end Mine
end

section
set_option backward.defeqAttrib.useBackward true
set_option linter.all false
namespace Mine
noncomputable def getLo (lo : Lo) (x : Nat) : Option DV := lo[x]?.join
noncomputable def fin : Option RS → Option (Rx DV)
  | some (.ret v H') => some (.ok v H')
  | some (.next _ H') => some (.ok (.d .none) H')
  | some (.err _ t H') => some (.err t H')
  | .none => .none
theorem callN_succ (n : Nat) (f : Fn) (vs : List DV) (H : Hp) : callN defs (n + 1) f vs H = callWithBody (callN defs n) (defs f) vs H := rfl
theorem okD_int (k : Int) : okD (.int k) = true := rfl
theorem okD_none : okD .none = true := rfl
theorem okD_bool (b : Bool) : okD (.bool b) = true := by cases b <;> rfl
theorem eqD_int (a b : Int) : eqD (.int a) (.int b) = decide (a = b) := by
  show (a == b) = decide (a = b)
  cases h : decide (a = b) with
  | true => rw [of_decide_eq_true h]; simp
  | false => simp at h; simp [h]
namespace Ev
@[scoped simp] theorem okD_i (k : Int) : okD (.int k) = true := okD_int k
@[scoped simp] theorem okD_n : okD .none = true := okD_none
@[scoped simp] theorem okD_b (b : Bool) : okD (.bool b) = true := okD_bool b
@[scoped simp] theorem eqD_i (a b : Int) : eqD (.int a) (.int b) = decide (a = b) := eqD_int a b
@[scoped simp] theorem getLo_0 (a : Option DV) (l : Lo) : getLo (a :: l) 0 = a := rfl
@[scoped simp] theorem getLo_s (a : Option DV) (l : Lo) (n : Nat) : getLo (a :: l) (n + 1) = getLo l n := rfl
@[scoped simp high] theorem set_0 {α : Type} (a b : α) (l : List α) : (a :: l).set 0 b = b :: l := rfl
@[scoped simp high] theorem set_s {α : Type} (a b : α) (l : List α) (n : Nat) : (a :: l).set (n + 1) b = a :: l.set n b := rfl
@[scoped simp high] theorem gq_0 {α : Type} (a : α) (l : List α) : (a :: l)[0]? = some a := rfl
@[scoped simp high] theorem gq_s {α : Type} (a : α) (l : List α) (n : Nat) : (a :: l)[n + 1]? = l[n]? := rfl
@[scoped simp ↓] theorem ite_tt {α : Type} (a b : α) : (if true = true then a else b) = a := rfl
@[scoped simp ↓] theorem ite_ff {α : Type} (a b : α) : (if false = true then a else b) = b := rfl
@[scoped simp] theorem not_tt : (!true) = false := rfl
@[scoped simp] theorem not_ff : (!false) = true := rfl
@[scoped simp] theorem oj_s (a : Option DV) : (some a).join = a := rfl
@[scoped simp] theorem ob_s {α β : Type} (a : α) (f : α → Option β) : (some a).bind f = f a := rfl
@[scoped simp] theorem ob_n {α β : Type} (f : α → Option β) : (Option.none : Option α).bind f = Option.none := rfl
@[scoped simp] theorem om_s {α β : Type} (a : α) (f : α → β) : (some a).map f = some (f a) := rfl
@[scoped simp] theorem om_n {α β : Type} (f : α → β) : (Option.none : Option α).map f = Option.none := rfl
@[scoped simp] theorem evE_var (cf : CF) (lo : Lo) (H : Hp) : evE cf lo (.var x) H = (up (getLo lo x) H) := rfl
@[scoped simp] theorem evE_none (cf : CF) (lo : Lo) (H : Hp) : evE cf lo (.none) H = (some (.ok (.d .none) H)) := rfl
@[scoped simp] theorem evE_bool (cf : CF) (lo : Lo) (H : Hp) : evE cf lo (.bool b) H = (some (.ok (.d (.bool b)) H)) := rfl
@[scoped simp] theorem evE_int (cf : CF) (lo : Lo) (H : Hp) : evE cf lo (.int i) H = (some (.ok (.d (.int i)) H)) := rfl
@[scoped simp] theorem evE_str (cf : CF) (lo : Lo) (H : Hp) : evE cf lo (.str s) H = (some (.ok (.d (.str (Str.ofString s))) H)) := rfl
@[scoped simp] theorem evE_gint (cf : CF) (lo : Lo) (H : Hp) : evE cf lo (.gint u1 i) H = (some (.ok (.d (.int i)) H)) := rfl
@[scoped simp] theorem evE_neg (cf : CF) (lo : Lo) (H : Hp) : evE cf lo (.neg i) H = (some (.ok (.d (.int (-i))) H)) := rfl
@[scoped simp] theorem evE_bin (cf : CF) (lo : Lo) (H : Hp) : evE cf lo (.bin o a b) H = (bnd (evE cf lo a H) fun x H₁ => bnd (evE cf lo b H₁) fun y H₂ => up ((datOf x).bind fun x => (datOf y).bind fun y => (binD o x y).map .d) H₂) := rfl
@[scoped simp] theorem evE_cmp (cf : CF) (lo : Lo) (H : Hp) : evE cf lo (.cmp c a b) H = (bnd (evE cf lo a H) fun x H₁ => bnd (evE cf lo b H₁) fun y H₂ => up ((datOf x).bind fun x => (datOf y).bind fun y => (cmpD c x y).map fun b => .d (.bool b)) H₂) := rfl
@[scoped simp] theorem evE_andV (cf : CF) (lo : Lo) (H : Hp) : evE cf lo (.andV a b) H = (bnd (evE cf lo a H) fun x H₁ => match boolOf x with
      | some true => evE cf lo b H₁
      | some false => some (.ok (.d (.bool false)) H₁)
      | .none => .none) := rfl
@[scoped simp] theorem evE_ite (cf : CF) (lo : Lo) (H : Hp) : evE cf lo (.ite c a b) H = (bnd (evT cf lo c H) fun x H₁ => if x then evE cf lo a H₁ else evE cf lo b H₁) := rfl
@[scoped simp] theorem evE_call (cf : CF) (lo : Lo) (H : Hp) : evE cf lo (.call f es) H = (bnd (evEs cf lo es H) fun vs H₁ => cf f vs H₁) := rfl
@[scoped simp] theorem evE_mcall (cf : CF) (lo : Lo) (H : Hp) : evE cf lo (.mcall f o es) H = (bnd (evE cf lo o H) fun x H₁ => match x with
      | .mem i j => bnd (evEs cf lo es H₁) fun vs H₂ => cf f (.mem i j :: vs) H₂
      | _ => .none) := rfl
@[scoped simp] theorem evE_len (cf : CF) (lo : Lo) (H : Hp) : evE cf lo (.len e) H = (bnd (evE cf lo e H) fun x H₁ => up ((lenD H₁ x).map fun (n : Nat) => .d (.int (n : Int))) H₁) := rfl
@[scoped simp] theorem evE_min2 (cf : CF) (lo : Lo) (H : Hp) : evE cf lo (.min2 a b) H = (bnd (evE cf lo a H) fun x H₁ => bnd (evE cf lo b H₁) fun y H₂ => up ((intOf x).bind fun x => (intOf y).map fun y => .d (.int (if y < x then y else x))) H₂) := rfl
@[scoped simp] theorem evE_lrange (cf : CF) (lo : Lo) (H : Hp) : evE cf lo (.lrange a b) H = (bnd (evE cf lo a H) fun x H₁ => bnd (evE cf lo b H₁) fun y H₂ => up ((intOf x).bind fun x => (intOf y).bind fun y => if small x && small y then some (.d (.list ((rngI x y).map .int))) else .none) H₂) := rfl
@[scoped simp] theorem evE_tupOf (cf : CF) (lo : Lo) (H : Hp) : evE cf lo (.tupOf e) H = (bnd (evE cf lo e H) fun x H₁ => match x with
      | .d (.list ds) => if ds.length ≤ 4096 then some (.ok (.d (.tuple ds)) H₁) else .none
      | _ => .none) := rfl
@[scoped simp] theorem evE_index (cf : CF) (lo : Lo) (H : Hp) : evE cf lo (.index o e) H = (bnd (evE cf lo o H) fun x H₁ => match x with
      | .d (.list ds) => bnd (evE cf lo e H₁) fun y H₂ => match y with
        | .d a => if ds.length ≤ 4096 then if okD a && ds.all okD then up ((idxOf ds a).map fun (n : Nat) => .d (.int (n : Int))) H₂ else .none else .none
        | _ => .none
      | _ => .none) := rfl
@[scoped simp] theorem evE_join (cf : CF) (lo : Lo) (H : Hp) : evE cf lo (.join o e) H = (bnd (evE cf lo o H) fun x H₁ => match x with
      | .d (.str s) => bnd (evE cf lo e H₁) fun y H₂ => match y with
        | .d (.list ds) => if s.length ≤ 16 ∧ ds.length ≤ 4096 then (strsOf ds).bind fun l => if l.all (fun s => decide (s.length ≤ 16)) then some (.ok (.d (.str (Txt.join s l))) H₂) else .none else .none
        | _ => .none
      | _ => .none) := rfl
@[scoped simp] theorem evE_numeric (cf : CF) (lo : Lo) (H : Hp) : evE cf lo (.numeric e) H = (bnd (evE cf lo e H) fun x H₁ => match x with
      | .mem i _ => some (.ok (.ml i) H₁)
      | _ => .none) := rfl
@[scoped simp] theorem evE_chars (cf : CF) (lo : Lo) (H : Hp) : evE cf lo (.chars e) H = (bnd (evE cf lo e H) fun x H₁ => match x with
      | .mem _ j => some (.ok (.ml j) H₁)
      | _ => .none) := rfl
@[scoped simp] theorem evE_sub (cf : CF) (lo : Lo) (H : Hp) : evE cf lo (.sub o i) H = (bnd (evE cf lo o H) fun x H₁ => bnd (evE cf lo i H₁) fun y H₂ => up ((intOf y).bind fun k => subD H₂ x k) H₂) := rfl
@[scoped simp] theorem evE_slice (cf : CF) (lo : Lo) (H : Hp) : evE cf lo (.slice o a b) H = (bnd (evE cf lo o H) fun x H₁ => bnd (evE cf lo a H₁) fun y H₂ => bnd (evE cf lo b H₂) fun z H₃ => up ((natOf y).bind fun a => (natOf z).bind fun b => sliceD H₃ x a b) H₃) := rfl
@[scoped simp] theorem evE_upto (cf : CF) (lo : Lo) (H : Hp) : evE cf lo (.upto o b) H = (bnd (evE cf lo o H) fun x H₁ => bnd (evE cf lo b H₁) fun z H₂ => up ((natOf z).bind fun b => uptoD x b) H₂) := rfl
@[scoped simp] theorem evE_rev (cf : CF) (lo : Lo) (H : Hp) : evE cf lo (.rev o) H = (bnd (evE cf lo o H) fun x H₁ => match x with
      | .d (.tuple ds) => if ds.length ≤ 4096 then some (.ok (.d (.tuple ds.reverse)) H₁) else .none
      | _ => .none) := rfl
@[scoped simp] theorem evE_tup (cf : CF) (lo : Lo) (H : Hp) : evE cf lo (.tup es) H = (bnd (evEs cf lo es H) fun vs H₁ => up ((datsOf vs).map fun ds => .d (.tuple ds)) H₁) := rfl
@[scoped simp] theorem evE_list (cf : CF) (lo : Lo) (H : Hp) : evE cf lo (.list es) H = (bnd (evEs cf lo es H) fun vs H₁ => up ((datsOf vs).map fun ds => .d (.list ds)) H₁) := rfl
@[scoped simp] theorem evE_mlist (cf : CF) (lo : Lo) (H : Hp) : evE cf lo (.mlist) H = (some (.ok (.ml H.length) (H ++ [some []]))) := rfl
@[scoped simp] theorem evE_freeze (cf : CF) (lo : Lo) (H : Hp) : evE cf lo (.freeze e) H = (bnd (evE cf lo e H) fun x H₁ => match x with
      | .ml i => (H₁[i]?.join).bind fun ds => some (.ok (.d (.list ds)) (H₁.set i .none))
      | _ => .none) := rfl
@[scoped simp] theorem evE_comp (cf : CF) (lo : Lo) (H : Hp) : evE cf lo (.comp elt x fv e) H = (bnd (evE cf lo e H) fun n H₁ => (natOf n).bind fun n => (compL (fun v => evE cf ((keepOnly fv lo).set x (some v)) elt) (rngI 0 n) H₁).map fun p => .ok (.d (.list p.1)) p.2) := rfl
@[scoped simp] theorem evEs_nil (cf : CF) (lo : Lo) (H : Hp) : evEs cf lo [] H = (some (.ok [] H)) := rfl
@[scoped simp] theorem evEs_cons (cf : CF) (lo : Lo) (H : Hp) : evEs cf lo (e :: es) H = (bnd (evE cf lo e H) fun v H₁ => bnd (evEs cf lo es H₁) fun vs H₂ => some (.ok (v :: vs) H₂)) := rfl
@[scoped simp] theorem evO_none (cf : CF) (lo : Lo) (H : Hp) : evO cf lo (.none) H = (some (.ok .none H)) := rfl
@[scoped simp] theorem evO_some (cf : CF) (lo : Lo) (H : Hp) : evO cf lo (some e) H = (bnd (evE cf lo e H) fun v H₁ => some (.ok (some v) H₁)) := rfl
@[scoped simp] theorem evT_not (cf : CF) (lo : Lo) (H : Hp) : evT cf lo (.not a) H = (bnd (evT cf lo a H) fun b H₁ => some (.ok (!b) H₁)) := rfl
@[scoped simp] theorem evT_boolsT (cf : CF) (lo : Lo) (H : Hp) : evT cf lo (.bools true es) H = (evAll cf lo es H) := rfl
@[scoped simp] theorem evT_boolsF (cf : CF) (lo : Lo) (H : Hp) : evT cf lo (.bools false es) H = (evAny cf lo es H) := rfl
@[scoped simp] theorem evT_cmp (cf : CF) (lo : Lo) (H : Hp) : evT cf lo (.cmp c a b) H = (bnd (evE cf lo a H) fun x H₁ => bnd (evE cf lo b H₁) fun y H₂ => up ((datOf x).bind fun x => (datOf y).bind fun y => cmpD c x y) H₂) := rfl
@[scoped simp] theorem evT_chain2 (cf : CF) (lo : Lo) (H : Hp) : evT cf lo (.chain2 c₁ c₂ a b e) H = (bnd (evE cf lo a H) fun x H₁ => bnd (evE cf lo b H₁) fun y H₂ => match (datOf x).bind fun x => (datOf y).bind fun y => cmpD c₁ x y with
      | some true => bnd (evE cf lo e H₂) fun z H₃ => up ((datOf y).bind fun y => (datOf z).bind fun z => cmpD c₂ y z) H₃
      | some false => some (.ok false H₂)
      | .none => .none) := rfl
@[scoped simp] theorem evT_chain3 (cf : CF) (lo : Lo) (H : Hp) : evT cf lo (.chain3 c₁ c₂ c₃ a b e f) H = (bnd (evE cf lo a H) fun x H₁ => bnd (evE cf lo b H₁) fun y H₂ => match (datOf x).bind fun x => (datOf y).bind fun y => cmpD c₁ x y with
      | some true => bnd (evE cf lo e H₂) fun z H₃ => match (datOf y).bind fun y => (datOf z).bind fun z => cmpD c₂ y z with
        | some true => bnd (evE cf lo f H₃) fun u H₄ => up ((datOf z).bind fun z => (datOf u).bind fun u => cmpD c₃ z u) H₄
        | some false => some (.ok false H₃)
        | .none => .none
      | some false => some (.ok false H₂)
      | .none => .none) := rfl
@[scoped simp] theorem evT_var (cf : CF) (lo : Lo) (H : Hp) : evT cf lo (.var x) H = (up ((getLo lo x).bind boolOf) H) := rfl
@[scoped simp] theorem evT_call (cf : CF) (lo : Lo) (H : Hp) : evT cf lo (.call f es) H = (bnd (bnd (evEs cf lo es H) fun vs H₁ => cf f vs H₁) fun v H₂ => up (boolOf v) H₂) := rfl
@[scoped simp] theorem evAll_nil (cf : CF) (lo : Lo) (H : Hp) : evAll cf lo [] H = (some (.ok true H)) := rfl
@[scoped simp] theorem evAll_cons (cf : CF) (lo : Lo) (H : Hp) : evAll cf lo (e :: es) H = (bnd (evT cf lo e H) fun b H₁ => if b then evAll cf lo es H₁ else some (.ok false H₁)) := rfl
@[scoped simp] theorem evAny_nil (cf : CF) (lo : Lo) (H : Hp) : evAny cf lo [] H = (some (.ok false H)) := rfl
@[scoped simp] theorem evAny_cons (cf : CF) (lo : Lo) (H : Hp) : evAny cf lo (e :: es) H = (bnd (evT cf lo e H) fun b H₁ => if b then some (.ok true H₁) else evAny cf lo es H₁) := rfl
@[scoped simp] theorem evS_assign (cf : CF) (lo : Lo) (H : Hp) : evS cf (.assign x e) lo H = (bnS (evE cf lo e H) fun v H₁ => some (.next (lo.set x (some v)) H₁)) := rfl
@[scoped simp] theorem evS_assignC (cf : CF) (lo : Lo) (H : Hp) : evS cf (.assignC x e) lo H = (bnS (evE cf lo e H) fun v H₁ => some (.next (lo.set x (some v)) H₁)) := rfl
@[scoped simp] theorem evS_asub (cf : CF) (lo : Lo) (H : Hp) : evS cf (.asub o i e) lo H = (bnS (evE cf lo e H) fun v H₁ => bnS (evE cf lo o H₁) fun ov H₂ => bnS (evE cf lo i H₂) fun iv H₃ => match v, ov with
      | .d x, .ml n => (H₃[n]?.join).bind fun ds => (natOf iv).bind fun k => if k < ds.length then some (.next lo (H₃.set n (some (ds.set k x)))) else .none
      | _, _ => .none) := rfl
@[scoped simp] theorem evS_unpack (cf : CF) (lo : Lo) (H : Hp) : evS cf (.unpack xs e) lo H = (bnS (evE cf lo e H) fun v H₁ => (tupItems v).bind fun ds => (setAll lo xs ds).map fun lo' => .next lo' H₁) := rfl
@[scoped simp] theorem evS_aug (cf : CF) (lo : Lo) (H : Hp) : evS cf (.aug x o e) lo H = (bnS (up (getLo lo x) H) fun old H₀ => bnS (evE cf lo e H₀) fun v H₁ => (datOf old).bind fun a => (datOf v).bind fun b => (augD o a b).map fun r => .next (lo.set x (some (.d r))) H₁) := rfl
@[scoped simp] theorem evS_ife (cf : CF) (lo : Lo) (H : Hp) : evS cf (.ife c t e) lo H = (bnS (evT cf lo c H) fun b H₁ => if b then evSs cf t lo H₁ else evSs cf e lo H₁) := rfl
@[scoped simp] theorem evS_forR (cf : CF) (lo : Lo) (H : Hp) : evS cf (.forR x a b body) lo H = (bnS (evO cf lo a H) fun av H₁ => bnS (evE cf lo b H₁) fun bv H₂ => (match av with | some v => intOf v | .none => some 0).bind fun a => (intOf bv).bind fun b =>
      if small a && small b then loopV (fun v lo H => evSs cf body (lo.set x (some v)) H) ((rngI a b).map fun k => .d (.int k)) lo H₂ else .none) := rfl
@[scoped simp] theorem evS_forV (cf : CF) (lo : Lo) (H : Hp) : evS cf (.forV x e body) lo H = (bnS (evE cf lo e H) fun v H₁ => (seqItems v).bind fun ds => loopV (fun v lo H => evSs cf body (lo.set x (some v)) H) (ds.map .d) lo H₁) := rfl
@[scoped simp] theorem evS_forU (cf : CF) (lo : Lo) (H : Hp) : evS cf (.forU xs e body) lo H = (bnS (evE cf lo e H) fun v H₁ => (seqItems v).bind fun ds => loopV (fun v lo H => (tupItems v).bind fun es => (setAll lo xs es).bind fun lo' => evSs cf body lo' H) (ds.map .d) lo H₁) := rfl
@[scoped simp] theorem evS_whl (cf : CF) (lo : Lo) (H : Hp) : evS cf (.whl c body) lo H = (whileV (fun lo H => evT cf lo c H) (fun lo H => evSs cf body lo H) 64 lo H) := rfl
@[scoped simp] theorem evS_ret (cf : CF) (lo : Lo) (H : Hp) : evS cf (.ret e) lo H = (bnS (evE cf lo e H) fun v H₁ => some (.ret v H₁)) := rfl
@[scoped simp] theorem evS_retN (cf : CF) (H : Hp) : evS cf (.retN) u1 H = (some (.ret (.d .none) H)) := rfl
@[scoped simp] theorem evS_raise (cf : CF) (H : Hp) : evS cf (.raise t) u1 H = (some (.err .fresh (Str.ofString t) H)) := rfl
@[scoped simp] theorem evS_tryT (cf : CF) (lo : Lo) (H : Hp) : evS cf (.tryT body) lo H = (match evSs cf body lo H with
      | some (.err .fly t H₁) => some (.ret (.d (.str t)) H₁)
      | some (.err _ _ _) => .none
      | r => r) := rfl
@[scoped simp] theorem evS_ex (cf : CF) (lo : Lo) (H : Hp) : evS cf (.ex e) lo H = (bnS (evE cf lo e H) fun _ H₁ => some (.next lo H₁)) := rfl
@[scoped simp] theorem evS_append (cf : CF) (lo : Lo) (H : Hp) : evS cf (.append o e) lo H = (bnS (evE cf lo o H) fun ov H₁ => match ov with
      | .ml n => if (H₁[n]?.join).isSome then bnS (evE cf lo e H₁) fun v H₂ => (datOf v).bind fun x => (H₂[n]?.join).bind fun ds => if ds.length ≤ 4096 then some (.next lo (H₂.set n (some (ds ++ [x])))) else .none else .none
      | _ => .none) := rfl
@[scoped simp] theorem evS_extend (cf : CF) (lo : Lo) (H : Hp) : evS cf (.extend o e) lo H = (bnS (evE cf lo o H) fun ov H₁ => match ov with
      | .ml n => if (H₁[n]?.join).isSome then bnS (evE cf lo e H₁) fun v H₂ => match v with
        | .d (.list es) => (H₂[n]?.join).bind fun ds => if ds.length ≤ 4096 ∧ es.length ≤ 4096 then some (.next lo (H₂.set n (some (ds ++ es)))) else .none
        | _ => .none else .none
      | _ => .none) := rfl
@[scoped simp] theorem evS_pop (cf : CF) (lo : Lo) (H : Hp) : evS cf (.pop o) lo H = (bnS (evE cf lo o H) fun ov H₁ => match ov with
      | .ml n => (H₁[n]?.join).bind fun ds => if ds = [] ∨ 4096 < ds.length then .none else some (.next lo (H₁.set n (some ds.dropLast)))
      | _ => .none) := rfl
@[scoped simp] theorem evSs_nil (cf : CF) (lo : Lo) (H : Hp) : evSs cf [] lo H = (some (.next lo H)) := rfl
@[scoped simp] theorem evSs_cons (cf : CF) (lo : Lo) (H : Hp) : evSs cf (s :: r) lo H = (match evS cf s lo H with
    | some (.next lo' H') => evSs cf r lo' H'
    | x => x) := rfl
@[scoped simp] theorem setAll_67 (lo : Lo) : setAll lo [] [] = (some lo) := rfl
@[scoped simp] theorem setAll_68 (lo : Lo) : setAll lo (x :: xs) (d :: ds) = (setAll (lo.set x (some (.d d))) xs ds) := rfl
@[scoped simp] theorem tupItems_69 : tupItems (.d (.tuple ds)) = (some ds) := rfl
@[scoped simp] theorem seqItems_70 : seqItems (.d (.tuple ds)) = (some ds) := rfl
@[scoped simp] theorem seqItems_71 : seqItems (.d (.list ds)) = (some ds) := rfl
@[scoped simp] theorem datOf_72 : datOf (.d x) = (some x) := rfl
@[scoped simp] theorem intOf_73 : intOf (.d (.int i)) = (some i) := rfl
@[scoped simp] theorem boolOf_74 : boolOf (.d (.bool b)) = (some b) := rfl
@[scoped simp] theorem datsOf_75 : datsOf [] = (some []) := rfl
@[scoped simp] theorem datsOf_76 : datsOf (.d x :: r) = ((datsOf r).map (x :: ·)) := rfl
@[scoped simp] theorem strsOf_77 : strsOf [] = (some []) := rfl
@[scoped simp] theorem strsOf_78 : strsOf (.str s :: r) = ((strsOf r).map (s :: ·)) := rfl
@[scoped simp] theorem cmpD_79 : cmpD (.eq) a b = (if okD a && okD b then some (eqD a b) else .none) := rfl
@[scoped simp] theorem cmpD_80 : cmpD (.ne) a b = (if okD a && okD b then some (!eqD a b) else .none) := rfl
@[scoped simp] theorem cmpD_81 : cmpD (.lt) (.int a) (.int b) = (some (decide (a < b))) := rfl
@[scoped simp] theorem cmpD_82 : cmpD (.gt) (.int a) (.int b) = (some (decide (b < a))) := rfl
@[scoped simp] theorem cmpD_83 : cmpD (.le) (.int a) (.int b) = (some (decide (a ≤ b))) := rfl
@[scoped simp] theorem cmpD_84 : cmpD (.ge) (.int a) (.int b) = (some (decide (b ≤ a))) := rfl
@[scoped simp] theorem cmpD_85 : cmpD (.inn) a (.list ds) = (if okD a && ds.all okD then some (ds.any fun y => eqD y a) else .none) := rfl
@[scoped simp] theorem cmpD_86a : cmpD .is .none .none = (some true : Option Bool) := rfl
@[scoped simp] theorem cmpD_86b : cmpD .is (.int k) .none = (some false : Option Bool) := rfl
@[scoped simp] theorem cmpD_86c : cmpD .is (.bool k) .none = (some false : Option Bool) := rfl
@[scoped simp] theorem cmpD_86d : cmpD .is (.str k) .none = (some false : Option Bool) := rfl
@[scoped simp] theorem cmpD_86e : cmpD .is (.tuple k) .none = (some false : Option Bool) := rfl
@[scoped simp] theorem cmpD_86f : cmpD .is (.list k) .none = (some false : Option Bool) := rfl
@[scoped simp] theorem cmpD_87a : cmpD .isNot .none .none = (some false : Option Bool) := rfl
@[scoped simp] theorem cmpD_87b : cmpD .isNot (.int k) .none = (some true : Option Bool) := rfl
@[scoped simp] theorem cmpD_87c : cmpD .isNot (.bool k) .none = (some true : Option Bool) := rfl
@[scoped simp] theorem cmpD_87d : cmpD .isNot (.str k) .none = (some true : Option Bool) := rfl
@[scoped simp] theorem cmpD_87e : cmpD .isNot (.tuple k) .none = (some true : Option Bool) := rfl
@[scoped simp] theorem cmpD_87f : cmpD .isNot (.list k) .none = (some true : Option Bool) := rfl
@[scoped simp] theorem binD_88 : binD (.add) (.int a) (.int b) = (some (.int (a + b))) := rfl
@[scoped simp] theorem binD_89 : binD (.add) (.int a) (.bool b) = (some (.int (a + (if b then 1 else 0)))) := rfl
@[scoped simp] theorem binD_90 : binD (.sub) (.int a) (.int b) = (some (.int (a - b))) := rfl
@[scoped simp] theorem binD_91 : binD (.mul) (.int a) (.int b) = (if a.natAbs ≤ big ∧ b.natAbs ≤ big then some (.int (a * b)) else .none) := rfl
@[scoped simp] theorem binD_92 : binD (.fdiv) (.int a) (.int b) = (if b = 0 ∨ big < b.natAbs then .none else some (.int (Int.fdiv a b))) := rfl
@[scoped simp] theorem binD_93 : binD (.mod) (.int a) (.int b) = (if b = 0 then .none else some (.int (Int.fmod a b))) := rfl
@[scoped simp] theorem binD_94 : binD (.pow) (.int a) (.int b) = (if 0 ≤ b ∧ b ≤ 8 ∧ a.natAbs ≤ 16 then some (.int (a ^ b.toNat)) else .none) := rfl
@[scoped simp] theorem binD_95 : binD (.add) (.str a) (.str b) = (if a.length ≤ 4096 ∧ b.length ≤ 4096 then some (.str (a ++ b)) else .none) := rfl
@[scoped simp] theorem binD_96 : binD (.mul) (.str a) (.int b) = (if a.length ≤ 16 ∧ -4096 ≤ b ∧ b ≤ 4096 then some (.str (Txt.mul a b)) else .none) := rfl
@[scoped simp] theorem binD_97 : binD (.add) (.list a) (.list b) = (if a.length ≤ 4096 ∧ b.length ≤ 4096 then some (.list (a ++ b)) else .none) := rfl
@[scoped simp] theorem binD_98 : binD (.mul) (.list a) (.int b) = (if a.length * b.toNat ≤ 256 ∧ -4096 ≤ b ∧ b ≤ 4096 then some (.list ((List.replicate b.toNat a).flatten)) else .none) := rfl
@[scoped simp] theorem augD_99 : augD (.add) (.int a) (.int b) = (some (.int (a + b))) := rfl
@[scoped simp] theorem augD_100 : augD (.mul) (.int a) (.int b) = (if a.natAbs ≤ big ∧ b.natAbs ≤ big then some (.int (a * b)) else .none) := rfl
@[scoped simp] theorem lenR_101 (H : Hp) : lenR H (.d (.list ds)) = (some ds.length) := rfl
@[scoped simp] theorem lenR_102 (H : Hp) : lenR H (.d (.tuple ds)) = (some ds.length) := rfl
@[scoped simp] theorem lenR_103 (H : Hp) : lenR H (.d (.str s)) = (some s.length) := rfl
@[scoped simp] theorem lenR_104 (H : Hp) : lenR H (.ml i) = ((H[i]?.join).map List.length) := rfl
@[scoped simp] theorem lenR_105 (H : Hp) : lenR H (.scr ns) = (some ns.length) := rfl
@[scoped simp ↓] theorem bnd_def {α β : Type} (x : Option (Rx α)) (k : α → Hp → Option (Rx β)) : bnd x k = (match x with | some (.ok a H) => k a H | some (.err t H) => some (.err t H) | .none => .none) := rfl
@[scoped simp ↓] theorem bnS_def {α : Type} (x : Option (Rx α)) (k : α → Hp → Option RS) : bnS x k = (match x with | some (.ok a H) => k a H | some (.err t H) => some (.err .fly t H) | .none => .none) := rfl
@[scoped simp] theorem up_some {α : Type} (a : α) (H : Hp) : up (some a) H = (some (.ok a H)) := rfl
@[scoped simp] theorem up_none {α : Type} (H : Hp) : up (.none : Option α) H = .none := rfl
@[scoped simp] theorem natOf_int (i : Int) : natOf (.d (.int i)) = (if 0 ≤ i ∧ i ≤ 4096 then some i.toNat else .none) := rfl
@[scoped simp] theorem fin_ret (H : Hp) : fin (some (.ret v H)) = (some (.ok v H)) := rfl
@[scoped simp] theorem fin_next (lo : Lo) (H : Hp) : fin (some (.next lo H)) = (some (.ok (.d .none) H)) := rfl
@[scoped simp] theorem fin_err (H : Hp) : fin (some (.err m t H)) = (some (.err t H)) := rfl
@[scoped simp] theorem fin_none : fin .none = .none := rfl
@[scoped simp] theorem lenD_ml (H : Hp) (i : Nat) : lenD H (.ml i) = (((H[i]?.join).map List.length).bind fun n => if n ≤ 4096 then some n else .none) := rfl
@[scoped simp] theorem subD_list0 (H : Hp) : subD H (.d (.list (a0 :: l))) 0 = (some (.d a0)) := rfl
@[scoped simp] theorem subD_list1 (H : Hp) : subD H (.d (.list (a0 :: a1 :: l))) 1 = (some (.d a1)) := rfl
@[scoped simp] theorem subD_list2 (H : Hp) : subD H (.d (.list (a0 :: a1 :: a2 :: l))) 2 = (some (.d a2)) := rfl
@[scoped simp] theorem subD_list3 (H : Hp) : subD H (.d (.list (a0 :: a1 :: a2 :: a3 :: l))) 3 = (some (.d a3)) := rfl
@[scoped simp] theorem subD_list4 (H : Hp) : subD H (.d (.list (a0 :: a1 :: a2 :: a3 :: a4 :: l))) 4 = (some (.d a4)) := rfl
@[scoped simp] theorem subD_list5 (H : Hp) : subD H (.d (.list (a0 :: a1 :: a2 :: a3 :: a4 :: a5 :: l))) 5 = (some (.d a5)) := rfl
@[scoped simp] theorem lenD_list (H : Hp) : lenD H (.d (.list ds)) = (if ds.length ≤ 4096 then some ds.length else .none) := rfl
@[scoped simp] theorem subD_tuple0 (H : Hp) : subD H (.d (.tuple (a0 :: l))) 0 = (some (.d a0)) := rfl
@[scoped simp] theorem subD_tuple1 (H : Hp) : subD H (.d (.tuple (a0 :: a1 :: l))) 1 = (some (.d a1)) := rfl
@[scoped simp] theorem subD_tuple2 (H : Hp) : subD H (.d (.tuple (a0 :: a1 :: a2 :: l))) 2 = (some (.d a2)) := rfl
@[scoped simp] theorem subD_tuple3 (H : Hp) : subD H (.d (.tuple (a0 :: a1 :: a2 :: a3 :: l))) 3 = (some (.d a3)) := rfl
@[scoped simp] theorem subD_tuple4 (H : Hp) : subD H (.d (.tuple (a0 :: a1 :: a2 :: a3 :: a4 :: l))) 4 = (some (.d a4)) := rfl
@[scoped simp] theorem subD_tuple5 (H : Hp) : subD H (.d (.tuple (a0 :: a1 :: a2 :: a3 :: a4 :: a5 :: l))) 5 = (some (.d a5)) := rfl
@[scoped simp] theorem lenD_tuple (H : Hp) : lenD H (.d (.tuple ds)) = (if ds.length ≤ 4096 then some ds.length else .none) := rfl
@[scoped simp low] theorem subD_g139 (H : Hp) (k : Int) : subD H (.d (.list ds)) k = (if 0 ≤ k ∧ k ≤ 4096 then (ds[k.toNat]?).map .d else .none) := rfl
@[scoped simp low] theorem subD_g140 (H : Hp) (k : Int) : subD H (.d (.tuple ds)) k = (if 0 ≤ k ∧ k ≤ 4096 then (ds[k.toNat]?).map .d else .none) := rfl
@[scoped simp low] theorem subD_g141 (H : Hp) (k : Int) : subD H (.d (.str s)) k = (if 0 ≤ k ∧ k ≤ 4096 then if k < s.length ∧ s.length ≤ 4096 then some (.d (.str (Txt.item s k))) else .none else .none) := rfl
@[scoped simp low] theorem subD_g142 (H : Hp) (k : Int) : subD H (.ml i) k = (if 0 ≤ k ∧ k ≤ 4096 then ((H[i]?.join).bind (·[k.toNat]?)).map .d else .none) := rfl
@[scoped simp low] theorem subD_g143 (H : Hp) (k : Int) : subD H (.scr ns) k = (if 0 ≤ k ∧ k ≤ 4096 then (ns[k.toNat]?).map fun n => .d (.int n) else .none) := rfl
@[scoped simp] theorem lenD_str (H : Hp) : lenD H (.d (.str ds)) = (if ds.length ≤ 4096 then some ds.length else .none) := rfl
@[scoped simp] theorem lenD_scr (H : Hp) : lenD H (.scr ns) = (if ns.length ≤ 4096 then some ns.length else .none) := rfl
@[scoped simp ↓] theorem db_d {β : Type} (a : PyData) (f : PyData → Option β) : (datOf (.d a)).bind f = f a := rfl
@[scoped simp ↓] theorem ib_i {β : Type} (a : Int) (f : Int → Option β) : (intOf (.d (.int a))).bind f = f a := rfl
@[scoped simp ↓] theorem bb_b {β : Type} (a : Bool) (f : Bool → Option β) : (boolOf (.d (.bool a))).bind f = f a := rfl
@[scoped simp ↓] theorem ob_s' {α β : Type} (a : α) (f : α → Option β) : (some a).bind f = f a := rfl
@[scoped simp ↓] theorem om_s' {α β : Type} (a : α) (f : α → β) : (some a).map f = some (f a) := rfl
@[scoped simp] theorem add_1f : binD .add (.int 1) (.bool false) = some (.int 1) := rfl
@[scoped simp] theorem add_1t : binD .add (.int 1) (.bool true) = some (.int 2) := rfl
@[scoped simp high] theorem cmp_eq_ii (a b : Int) : cmpD .eq (.int a) (.int b) = some (decide (a = b)) := congrArg some (eqD_int a b)
@[scoped simp high] theorem cmp_ne_ii (a b : Int) : cmpD .ne (.int a) (.int b) = some (!decide (a = b)) := congrArg (fun x => some (!x)) (eqD_int a b)
@[scoped simp 20000] theorem cmp_eq_02 : cmpD .eq (.int 0) (.int 2) = some false := rfl
@[scoped simp 20000] theorem cmp_eq_03 : cmpD .eq (.int 0) (.int 3) = some false := rfl
@[scoped simp 20000] theorem cmp_eq_05 : cmpD .eq (.int 0) (.int 5) = some false := rfl
@[scoped simp 20000] theorem cmp_in_023 : cmpD .inn (.int 0) (.list [.int 2, .int 3]) = some false := rfl
@[scoped simp 20000] theorem cmp_in_005 : cmpD .inn (.int 0) (.list [.int 0, .int 5]) = some true := rfl
@[scoped simp 20000] theorem cmp_eq_12 : cmpD .eq (.int 1) (.int 2) = some false := rfl
@[scoped simp 20000] theorem cmp_eq_13 : cmpD .eq (.int 1) (.int 3) = some false := rfl
@[scoped simp 20000] theorem cmp_eq_15 : cmpD .eq (.int 1) (.int 5) = some false := rfl
@[scoped simp 20000] theorem cmp_in_123 : cmpD .inn (.int 1) (.list [.int 2, .int 3]) = some false := rfl
@[scoped simp 20000] theorem cmp_in_105 : cmpD .inn (.int 1) (.list [.int 0, .int 5]) = some false := rfl
@[scoped simp 20000] theorem cmp_eq_22 : cmpD .eq (.int 2) (.int 2) = some true := rfl
@[scoped simp 20000] theorem cmp_eq_23 : cmpD .eq (.int 2) (.int 3) = some false := rfl
@[scoped simp 20000] theorem cmp_eq_25 : cmpD .eq (.int 2) (.int 5) = some false := rfl
@[scoped simp 20000] theorem cmp_in_223 : cmpD .inn (.int 2) (.list [.int 2, .int 3]) = some true := rfl
@[scoped simp 20000] theorem cmp_in_205 : cmpD .inn (.int 2) (.list [.int 0, .int 5]) = some false := rfl
@[scoped simp 20000] theorem cmp_eq_32 : cmpD .eq (.int 3) (.int 2) = some false := rfl
@[scoped simp 20000] theorem cmp_eq_33 : cmpD .eq (.int 3) (.int 3) = some true := rfl
@[scoped simp 20000] theorem cmp_eq_35 : cmpD .eq (.int 3) (.int 5) = some false := rfl
@[scoped simp 20000] theorem cmp_in_323 : cmpD .inn (.int 3) (.list [.int 2, .int 3]) = some true := rfl
@[scoped simp 20000] theorem cmp_in_305 : cmpD .inn (.int 3) (.list [.int 0, .int 5]) = some false := rfl
@[scoped simp 20000] theorem cmp_eq_42 : cmpD .eq (.int 4) (.int 2) = some false := rfl
@[scoped simp 20000] theorem cmp_eq_43 : cmpD .eq (.int 4) (.int 3) = some false := rfl
@[scoped simp 20000] theorem cmp_eq_45 : cmpD .eq (.int 4) (.int 5) = some false := rfl
@[scoped simp 20000] theorem cmp_in_423 : cmpD .inn (.int 4) (.list [.int 2, .int 3]) = some false := rfl
@[scoped simp 20000] theorem cmp_in_405 : cmpD .inn (.int 4) (.list [.int 0, .int 5]) = some false := rfl
@[scoped simp 20000] theorem cmp_eq_52 : cmpD .eq (.int 5) (.int 2) = some false := rfl
@[scoped simp 20000] theorem cmp_eq_53 : cmpD .eq (.int 5) (.int 3) = some false := rfl
@[scoped simp 20000] theorem cmp_eq_55 : cmpD .eq (.int 5) (.int 5) = some true := rfl
@[scoped simp 20000] theorem cmp_in_523 : cmpD .inn (.int 5) (.list [.int 2, .int 3]) = some false := rfl
@[scoped simp 20000] theorem cmp_in_505 : cmpD .inn (.int 5) (.list [.int 0, .int 5]) = some true := rfl
@[scoped simp] theorem cb_unitsOf (cf : CF) (H : Hp) : callWithBody cf (defs .unitsOf) [v0] H = fin (evSs cf d_unitsOf.body [some v0] H) := rfl
@[scoped simp] theorem cb_load (cf : CF) (H : Hp) : callWithBody cf (defs .load) [v0, v1] H = fin (evSs cf d_load.body [some v0, some v1] H) := rfl
@[scoped simp] theorem cb_store (cf : CF) (H : Hp) : callWithBody cf (defs .store) [v0, v1, v2] H = fin (evSs cf d_store.body [some v0, some v1, some v2] H) := rfl
@[scoped simp] theorem cb_undefine (cf : CF) (H : Hp) : callWithBody cf (defs .undefine) [v0, v1] H = fin (evSs cf d_undefine.body [some v0, some v1, .none, .none, .none] H) := rfl
@[scoped simp] theorem cb_needUnits (cf : CF) (H : Hp) : callWithBody cf (defs .needUnits) [v0, v1, v2] H = fin (evSs cf d_needUnits.body [some v0, some v1, some v2] H) := rfl
@[scoped simp] theorem cb_readCell (cf : CF) (H : Hp) : callWithBody cf (defs .readCell) [v0, v1, v2] H = fin (evSs cf d_readCell.body [some v0, some v1, some v2, .none] H) := rfl
@[scoped simp] theorem cb_loadNumber (cf : CF) (H : Hp) : callWithBody cf (defs .loadNumber) [v0, v1, v2] H = fin (evSs cf d_loadNumber.body [some v0, some v1, some v2, .none] H) := rfl
@[scoped simp] theorem cb_storeNumber (cf : CF) (H : Hp) : callWithBody cf (defs .storeNumber) [v0, v1, v2, v3] H = fin (evSs cf d_storeNumber.body [some v0, some v1, some v2, some v3] H) := rfl
@[scoped simp] theorem cb_loadText (cf : CF) (H : Hp) : callWithBody cf (defs .loadText) [v0, v1, v2] H = fin (evSs cf d_loadText.body [some v0, some v1, some v2, .none] H) := rfl
@[scoped simp] theorem cb_storeText (cf : CF) (H : Hp) : callWithBody cf (defs .storeText) [v0, v1, v2] H = fin (evSs cf d_storeText.body [some v0, some v1, some v2, .none] H) := rfl
@[scoped simp] theorem cb_pad (cf : CF) (H : Hp) : callWithBody cf (defs .pad) [v0, v1] H = fin (evSs cf d_pad.body [some v0, some v1] H) := rfl
@[scoped simp] theorem cb_unitSize (cf : CF) (H : Hp) : callWithBody cf (defs .unitSize) [v0, v1] H = fin (evSs cf d_unitSize.body [some v0, some v1] H) := rfl
@[scoped simp] theorem cb_extent (cf : CF) (H : Hp) : callWithBody cf (defs .extent) [v0] H = fin (evSs cf d_extent.body [some v0, .none, .none, .none] H) := rfl
@[scoped simp] theorem cb_elementPlace (cf : CF) (H : Hp) : callWithBody cf (defs .elementPlace) [v0, v1] H = fin (evSs cf d_elementPlace.body [some v0, some v1, .none, .none, .none, .none, .none, .none, .none, .none, .none] H) := rfl
@[scoped simp] theorem cb_subPlace (cf : CF) (H : Hp) : callWithBody cf (defs .subPlace) [v0, v1, v2] H = fin (evSs cf d_subPlace.body [some v0, some v1, some v2, .none, .none] H) := rfl
@[scoped simp] theorem cb_elementsOf (cf : CF) (H : Hp) : callWithBody cf (defs .elementsOf) [v0] H = fin (evSs cf d_elementsOf.body [some v0, .none, .none, .none, .none, .none, .none, .none] H) := rfl
@[scoped simp] theorem cb_spanOf (cf : CF) (H : Hp) : callWithBody cf (defs .spanOf) [v0] H = fin (evSs cf d_spanOf.body [some v0, .none, .none, .none, .none, .none] H) := rfl
@[scoped simp] theorem cb_undefineCells (cf : CF) (H : Hp) : callWithBody cf (defs .undefineCells) [v0, v1, v2, v3] H = fin (evSs cf d_undefineCells.body [some v0, some v1, some v2, some v3, .none, .none] H) := rfl
@[scoped simp] theorem cb_fresh (cf : CF) (H : Hp) : callWithBody cf (defs .fresh) [v0, v1, v2] H = fin (evSs cf d_fresh.body [some v0, some v1, some v2, .none, .none, .none] H) := rfl
@[scoped simp] theorem cb_markStorage (cf : CF) (H : Hp) : callWithBody cf (defs .markStorage) [v0] H = fin (evSs cf d_markStorage.body [some v0] H) := rfl
@[scoped simp] theorem cb_cutStorage (cf : CF) (H : Hp) : callWithBody cf (defs .cutStorage) [v0, v1] H = fin (evSs cf d_cutStorage.body [some v0, some v1] H) := rfl
@[scoped simp] theorem cb_lawValues (cf : CF) (H : Hp) : callWithBody cf (defs .lawValues) [] H = fin (evSs cf d_lawValues.body [] H) := rfl
@[scoped simp] theorem cb_lawPick (cf : CF) (H : Hp) : callWithBody cf (defs .lawPick) [v0, v1] H = fin (evSs cf d_lawPick.body [some v0, some v1] H) := rfl
@[scoped simp] theorem cb_lawOwn (cf : CF) (H : Hp) : callWithBody cf (defs .lawOwn) [v0, v1, v2, v3, v4] H = fin (evSs cf d_lawOwn.body [some v0, some v1, some v2, some v3, some v4, .none, .none, .none] H) := rfl
@[scoped simp] theorem cb_lawLay (cf : CF) (H : Hp) : callWithBody cf (defs .lawLay) [v0, v1, v2, v3, v4, v5, v6] H = fin (evSs cf d_lawLay.body [some v0, some v1, some v2, some v3, some v4, some v5, some v6, .none] H) := rfl
@[scoped simp] theorem cb_lawLoad (cf : CF) (H : Hp) : callWithBody cf (defs .lawLoad) [v0, v1, v2, v3] H = fin (evSs cf d_lawLoad.body [some v0, some v1, some v2, some v3, .none] H) := rfl
@[scoped simp] theorem cb_lawStore (cf : CF) (H : Hp) : callWithBody cf (defs .lawStore) [v0, v1, v2, v3, v4] H = fin (evSs cf d_lawStore.body [some v0, some v1, some v2, some v3, some v4] H) := rfl
@[scoped simp] theorem cb_lawDeed (cf : CF) (H : Hp) : callWithBody cf (defs .lawDeed) [v0, v1, v2, v3, v4, v5] H = fin (evSs cf d_lawDeed.body [some v0, some v1, some v2, some v3, some v4, some v5, .none, .none, .none, .none, .none, .none, .none, .none, .none, .none] H) := rfl
@[scoped simp] theorem cb_lawCounted (cf : CF) (H : Hp) : callWithBody cf (defs .lawCounted) [v0] H = fin (evSs cf d_lawCounted.body [some v0, .none, .none, .none, .none, .none, .none] H) := rfl
@[scoped simp] theorem cb_lawShapes (cf : CF) (H : Hp) : callWithBody cf (defs .lawShapes) [v0] H = fin (evSs cf d_lawShapes.body [some v0, .none, .none, .none] H) := rfl
@[scoped simp] theorem cb_lawAsked (cf : CF) (H : Hp) : callWithBody cf (defs .lawAsked) [v0, v1, v2] H = fin (evSs cf d_lawAsked.body [some v0, some v1, some v2] H) := rfl
@[scoped simp] theorem cb_lawArrays (cf : CF) (H : Hp) : callWithBody cf (defs .lawArrays) [v0, v1] H = fin (evSs cf d_lawArrays.body [some v0, some v1, .none, .none, .none, .none, .none, .none, .none, .none, .none, .none, .none, .none, .none, .none] H) := rfl
@[scoped simp] theorem il_unitsOf : initLo (defs .unitsOf) [v0] = [some v0] := rfl
@[scoped simp] theorem il_load : initLo (defs .load) [v0, v1] = [some v0, some v1] := rfl
@[scoped simp] theorem il_store : initLo (defs .store) [v0, v1, v2] = [some v0, some v1, some v2] := rfl
@[scoped simp] theorem il_undefine : initLo (defs .undefine) [v0, v1] = [some v0, some v1, .none, .none, .none] := rfl
@[scoped simp] theorem il_needUnits : initLo (defs .needUnits) [v0, v1, v2] = [some v0, some v1, some v2] := rfl
@[scoped simp] theorem il_readCell : initLo (defs .readCell) [v0, v1, v2] = [some v0, some v1, some v2, .none] := rfl
@[scoped simp] theorem il_loadNumber : initLo (defs .loadNumber) [v0, v1, v2] = [some v0, some v1, some v2, .none] := rfl
@[scoped simp] theorem il_storeNumber : initLo (defs .storeNumber) [v0, v1, v2, v3] = [some v0, some v1, some v2, some v3] := rfl
@[scoped simp] theorem il_loadText : initLo (defs .loadText) [v0, v1, v2] = [some v0, some v1, some v2, .none] := rfl
@[scoped simp] theorem il_storeText : initLo (defs .storeText) [v0, v1, v2] = [some v0, some v1, some v2, .none] := rfl
@[scoped simp] theorem il_pad : initLo (defs .pad) [v0, v1] = [some v0, some v1] := rfl
@[scoped simp] theorem il_unitSize : initLo (defs .unitSize) [v0, v1] = [some v0, some v1] := rfl
@[scoped simp] theorem il_extent : initLo (defs .extent) [v0] = [some v0, .none, .none, .none] := rfl
@[scoped simp] theorem il_elementPlace : initLo (defs .elementPlace) [v0, v1] = [some v0, some v1, .none, .none, .none, .none, .none, .none, .none, .none, .none] := rfl
@[scoped simp] theorem il_subPlace : initLo (defs .subPlace) [v0, v1, v2] = [some v0, some v1, some v2, .none, .none] := rfl
@[scoped simp] theorem il_elementsOf : initLo (defs .elementsOf) [v0] = [some v0, .none, .none, .none, .none, .none, .none, .none] := rfl
@[scoped simp] theorem il_spanOf : initLo (defs .spanOf) [v0] = [some v0, .none, .none, .none, .none, .none] := rfl
@[scoped simp] theorem il_undefineCells : initLo (defs .undefineCells) [v0, v1, v2, v3] = [some v0, some v1, some v2, some v3, .none, .none] := rfl
@[scoped simp] theorem il_fresh : initLo (defs .fresh) [v0, v1, v2] = [some v0, some v1, some v2, .none, .none, .none] := rfl
@[scoped simp] theorem il_markStorage : initLo (defs .markStorage) [v0] = [some v0] := rfl
@[scoped simp] theorem il_cutStorage : initLo (defs .cutStorage) [v0, v1] = [some v0, some v1] := rfl
@[scoped simp] theorem il_lawValues : initLo (defs .lawValues) [] = [] := rfl
@[scoped simp] theorem il_lawPick : initLo (defs .lawPick) [v0, v1] = [some v0, some v1] := rfl
@[scoped simp] theorem il_lawOwn : initLo (defs .lawOwn) [v0, v1, v2, v3, v4] = [some v0, some v1, some v2, some v3, some v4, .none, .none, .none] := rfl
@[scoped simp] theorem il_lawLay : initLo (defs .lawLay) [v0, v1, v2, v3, v4, v5, v6] = [some v0, some v1, some v2, some v3, some v4, some v5, some v6, .none] := rfl
@[scoped simp] theorem il_lawLoad : initLo (defs .lawLoad) [v0, v1, v2, v3] = [some v0, some v1, some v2, some v3, .none] := rfl
@[scoped simp] theorem il_lawStore : initLo (defs .lawStore) [v0, v1, v2, v3, v4] = [some v0, some v1, some v2, some v3, some v4] := rfl
@[scoped simp] theorem il_lawDeed : initLo (defs .lawDeed) [v0, v1, v2, v3, v4, v5] = [some v0, some v1, some v2, some v3, some v4, some v5, .none, .none, .none, .none, .none, .none, .none, .none, .none, .none] := rfl
@[scoped simp] theorem il_lawCounted : initLo (defs .lawCounted) [v0] = [some v0, .none, .none, .none, .none, .none, .none] := rfl
@[scoped simp] theorem il_lawShapes : initLo (defs .lawShapes) [v0] = [some v0, .none, .none, .none] := rfl
@[scoped simp] theorem il_lawAsked : initLo (defs .lawAsked) [v0, v1, v2] = [some v0, some v1, some v2] := rfl
@[scoped simp] theorem il_lawArrays : initLo (defs .lawArrays) [v0, v1] = [some v0, some v1, .none, .none, .none, .none, .none, .none, .none, .none, .none, .none, .none, .none, .none, .none] := rfl
end Ev
theorem six_cases {k : Int} (h : 0 ≤ k ∧ k < 6) : k = 0 ∨ k = 1 ∨ k = 2 ∨ k = 3 ∨ k = 4 ∨ k = 5 := by omega
open Ev in
theorem evSs_app (cf : CF) : ∀ (a b : List MS) (lo : Lo) (H : Hp), evSs cf (a ++ b) lo H = (match evSs cf a lo H with | some (.next lo' H') => evSs cf b lo' H' | x => x)
  | [], b, lo, H => rfl
  | s :: a, b, lo, H => by
    rw [List.cons_append, evSs_cons, evSs_cons]
    cases h : evS cf s lo H with
    | none => rfl
    | some r => cases r with
      | next lo' H' => exact evSs_app cf a b lo' H'
      | ret v H' => rfl
      | err m t H' => rfl
end Mine
end

section
set_option autoImplicit false
set_option maxRecDepth 100000
namespace Mine

open Ev

theorem unitsOf_eq (n : Nat) (k : Int) (H : Hp) : callN defs (n + 1) .unitsOf [.d (.int k)] H = some (.ok (.d (.int (if k = 5 then 0 else if k = 2 ∨ k = 3 then 2 else 1))) H) := by
  by_cases h5 : k = 5
  · simp [callN_succ, d_unitsOf, h5]
  · by_cases h2 : k = 2
    · simp [callN_succ, d_unitsOf, h2]
    · by_cases h3 : k = 3
      · simp [callN_succ, d_unitsOf, h3]
      · simp [callN_succ, d_unitsOf, h5, h2, h3]
theorem needUnits_eq (n : Nat) (H : Hp) (i : Nat) (l : List PyData) (a c : Int) (hi : H[i]? = some (some l)) (hl : l.length ≤ 4096) :
    callN defs (n + 1) .needUnits [.ml i, .d (.int a), .d (.int c)] H = if a < 0 ∨ (l.length : Int) < a + c then some (.err (Str.ofString "storage") H) else some (.ok (.d .none) H) := by
  by_cases h1 : a < 0
  · simp [callN_succ, d_needUnits, h1]
  · by_cases h2 : (l.length : Int) < a + c
    · simp [callN_succ, d_needUnits, h1, h2, hi, hl]
    · simp [callN_succ, d_needUnits, h1, h2, hi, hl]
/-- a cell of the memory: nothing, or a tag with a value -/
theorem readCell_none (n : Nat) (H : Hp) (i : Nat) (l : List PyData) (a : Nat) (tag : Int) (hi : H[i]? = some (some l)) (ha : a ≤ 4096) (hc : l[a]? = some .none) :
    callN defs (n + 1) .readCell [.ml i, .d (.int a), .d (.int tag)] H = some (.err (Str.ofString "undefined") H) := by
  have ha' : ((a : Nat) : Int) ≤ 4096 := by lia
  simp [callN_succ, d_readCell, hi, ha', hc]
theorem readCell_some (n : Nat) (H : Hp) (i : Nat) (l : List PyData) (a : Nat) (tag t : Int) (v : PyData) (hi : H[i]? = some (some l)) (ha : a ≤ 4096) (hc : l[a]? = some (.tuple [.int t, v])) :
    callN defs (n + 1) .readCell [.ml i, .d (.int a), .d (.int tag)] H = if t = tag then some (.ok (.d v) H) else some (.err (Str.ofString "undefined") H) := by
  have ha' : ((a : Nat) : Int) ≤ 4096 := by lia
  by_cases h : t = tag
  · subst h
    simp [callN_succ, d_readCell, hi, ha', hc]
  · simp [callN_succ, d_readCell, hi, ha', hc, h]

/-- the cells of the law's numeric storage -/
inductive UC where
  | no
  | v (s h k : Int) (x : PyData)
noncomputable def UC.toM : UC → PyData
  | .no => .none
  | .v _ h k x => .tuple [.int (if h = 1 then 6 else k), x]
noncomputable def UC.toU : UC → PyData
  | .no => .none
  | .v s h k x => .tuple [.int s, .int h, .int k, x]

/-- what a load of one number gives -/
noncomputable def rd (c : Option UC) (tag : Int) : Option PyData := match c with
  | some (.v _ h k x) => if (if h = 1 then 6 else k) = tag then some x else .none
  | _ => .none
noncomputable def loadS (L : List UC) (kind at_ : Int) : PyData ⊕ Str :=
  if at_ < 0 ∨ (L.length : Int) < at_ + (if kind = 2 ∨ kind = 3 then 2 else 1) then .inr (Str.ofString "storage") else
  if kind = 3 then match rd L[at_.toNat]? 1, rd L[at_.toNat + 1]? 1 with
    | some a, some b => .inl (.tuple [a, b])
    | _, _ => .inr (Str.ofString "undefined")
  else match rd L[at_.toNat]? kind with
    | some a => if kind = 2 then (match rd L[at_.toNat + 1]? 6 with | some _ => .inl a | .none => .inr (Str.ofString "undefined")) else .inl a
    | .none => .inr (Str.ofString "undefined")
noncomputable def rxS (r : PyData ⊕ Str) (H : Hp) : Option (Rx DV) := match r with
  | .inl d => some (.ok (.d d) H)
  | .inr t => some (.err t H)

theorem readCell_eq (n : Nat) (H : Hp) (i : Nat) (L : List UC) (a : Nat) (tag : Int) (hi : H[i]? = some (some (L.map UC.toM))) (ha : a ≤ 4096) (hl : a < L.length) :
    callN defs (n + 1) .readCell [.ml i, .d (.int a), .d (.int tag)] H = (match rd L[a]? tag with | some x => some (.ok (.d x) H) | .none => some (.err (Str.ofString "undefined") H)) := by
  have hc : (L.map UC.toM)[a]? = some (L[a]).toM := by rw [List.getElem?_map, List.getElem?_eq_getElem hl]; rfl
  rw [List.getElem?_eq_getElem hl]
  cases h : L[a] with
  | no => rw [h] at hc; exact readCell_none n H i _ a tag hi ha hc
  | v s hf k x =>
    rw [h] at hc
    rw [readCell_some n H i _ a tag _ x hi ha hc]
    unfold rd
    by_cases q : (if hf = 1 then 6 else k) = tag
    · simp only [q, if_true]
    · simp only [q, if_false]

theorem loadNumber_eq (n : Nat) (H : Hp) (i : Nat) (L : List UC) (kind at_ : Int) (hi : H[i]? = some (some (L.map UC.toM))) (hL : L.length ≤ 2000) (hk : 0 ≤ kind ∧ kind < 5) :
    callN defs (n + 2) .loadNumber [.ml i, .d (.int kind), .d (.int at_)] H = rxS (loadS L kind at_) H := by
  have hk5 : kind ≠ 5 := by lia
  have hN : ∀ c, callN defs (n + 1) .needUnits [.ml i, .d (.int at_), .d (.int c)] H = if at_ < 0 ∨ (L.length : Int) < at_ + c then some (.err (Str.ofString "storage") H) else some (.ok (.d .none) H) := fun c => by
    have := needUnits_eq n H i (L.map UC.toM) at_ c hi (by simp; lia)
    simpa using this
  have hU := unitsOf_eq n kind H
  unfold loadS
  by_cases hs : at_ < 0 ∨ (L.length : Int) < at_ + (if kind = 2 ∨ kind = 3 then 2 else 1)
  · rw [if_pos hs]
    simp only [hk5, if_false] at hU
    rw [callN_succ]
    simp [d_loadNumber, hU, hN, hs, rxS]
  · rw [if_neg hs]
    simp only [hk5, if_false] at hU
    have hc : (1 : Int) ≤ (if kind = 2 ∨ kind = 3 then 2 else 1) := by split <;> lia
    obtain ⟨a, rfl⟩ : ∃ a : Nat, at_ = (a : Int) := ⟨at_.toNat, by lia⟩
    have hal : a < L.length := by lia
    have hNs : callN defs (n + 1) .needUnits [.ml i, .d (.int a), .d (.int (if kind = 2 ∨ kind = 3 then 2 else 1))] H = some (.ok (.d .none) H) := by rw [hN, if_neg hs]
    have hR0 := fun tag => readCell_eq n H i L a tag hi (by lia) hal
    rw [callN_succ]
    rw [Int.toNat_natCast]
    by_cases h3 : kind = 3
    · subst h3
      have hNs' : callN defs (n + 1) .needUnits [.ml i, .d (.int a), .d (.int 2)] H = some (.ok (.d .none) H) := hNs
      have hal1 : a + 1 < L.length := by simp at hs; lia
      have hR1 := fun tag => readCell_eq n H i L (a + 1) tag hi (by lia) hal1
      simp only [Int.natCast_add, Int.cast_ofNat_Int] at hR1
      cases r0 : rd L[a]? 1 with
      | none => simp [d_loadNumber, hU, hNs', hR0, hR1, r0, rxS]
      | some x => cases r1 : rd L[a + 1]? 1 with
        | none => simp [d_loadNumber, hU, hNs', hR0, hR1, r0, r1, rxS]
        | some y => simp [d_loadNumber, hU, hNs', hR0, hR1, r0, r1, rxS]
    · by_cases h2 : kind = 2
      · subst h2
        have hNs' : callN defs (n + 1) .needUnits [.ml i, .d (.int a), .d (.int 2)] H = some (.ok (.d .none) H) := hNs
        have hal1 : a + 1 < L.length := by simp at hs; lia
        have hR1 := fun tag => readCell_eq n H i L (a + 1) tag hi (by lia) hal1
        simp only [Int.natCast_add, Int.cast_ofNat_Int] at hR1
        cases r0 : rd L[a]? 2 with
        | none => simp [d_loadNumber, hU, hNs', hR0, hR1, r0, rxS]
        | some x => cases r1 : rd L[a + 1]? 6 with
          | none => simp [d_loadNumber, hU, hNs', hR0, hR1, r0, r1, rxS]
          | some y => simp [d_loadNumber, hU, hNs', hR0, hR1, r0, r1, rxS]
      · have hNs' : callN defs (n + 1) .needUnits [.ml i, .d (.int a), .d (.int 1)] H = some (.ok (.d .none) H) := by
          rw [if_neg (by lia)] at hNs; exact hNs
        cases r0 : rd L[a]? kind with
        | none => simp [d_loadNumber, hU, hNs', hR0, r0, h2, h3, rxS]
        | some x => simp [d_loadNumber, hU, hNs', hR0, r0, h2, h3, rxS]
end Mine
end

section
set_option autoImplicit false
set_option maxRecDepth 100000
namespace Mine
open Ev

/-- a cell of the texts: nothing, or a sign -/
noncomputable def tOk (d : PyData) : Prop := d = .none ∨ ∃ c, d = .str c ∧ PyData.strOk c = true ∧ c.length ≤ 16
theorem tOk_ok {d : PyData} (h : tOk d) : okD d = true := by
  rcases h with rfl | ⟨c, rfl, h, _⟩
  · rfl
  · simp [okD, SeqAt.shaped, PyData.canLay0, PyData.depth, h]
theorem strsOf_some : ∀ {row : List PyData}, (∀ d ∈ row, tOk d) → row.any (fun y => eqD y .none) = false → ∃ l, strsOf row = some l ∧ l.all (fun s => decide (s.length ≤ 16)) = true
  | [], _, _ => ⟨[], rfl, rfl⟩
  | d :: r, h, hn => by
    rw [List.any_cons, Bool.or_eq_false_iff] at hn
    obtain ⟨l, h1, h2⟩ := strsOf_some (fun d m => h d (.tail _ m)) hn.2
    rcases h d (.head _) with rfl | ⟨c, rfl, _, hc⟩
    · exact absurd hn.1 (by decide)
    · exact ⟨c :: l, by rw [strsOf, h1]; rfl, by rw [List.all_cons, h2, decide_eq_true hc]; rfl⟩

noncomputable def rowT (T : List PyData) (at_ len : Int) : List PyData := cutL T at_.toNat (at_ + len).toNat
noncomputable def textS (T : List PyData) (at_ len : Int) : PyData ⊕ Str :=
  if at_ < 0 ∨ (T.length : Int) < at_ + len then .inr (Str.ofString "storage") else
  if (rowT T at_ len).any (fun y => eqD y .none) then .inr (Str.ofString "undefined") else .inl (.str (Txt.join (Str.ofString "") ((strsOf (rowT T at_ len)).getD [])))

theorem rowT_mem {T : List PyData} {at_ len : Int} {d : PyData} (h : d ∈ rowT T at_ len) : d ∈ T := List.mem_of_mem_drop (List.mem_of_mem_take h)
theorem rowT_ok {T : List PyData} (hT : ∀ d ∈ T, tOk d) (at_ len : Int) : (rowT T at_ len).all okD = true := List.all_eq_true.mpr fun d m => tOk_ok (hT d (rowT_mem m))

theorem loadText_eq (n : Nat) (H : Hp) (i : Nat) (T : List PyData) (at_ len : Int) (hi : H[i]? = some (some T)) (hL : T.length ≤ 2000) (hT : ∀ d ∈ T, tOk d) (hl : 0 ≤ len ∧ len ≤ 16) :
    callN defs (n + 2) .loadText [.ml i, .d (.int at_), .d (.int len)] H = rxS (textS T at_ len) H := by
  have hN : callN defs (n + 1) .needUnits [.ml i, .d (.int at_), .d (.int len)] H = if at_ < 0 ∨ (T.length : Int) < at_ + len then some (.err (Str.ofString "storage") H) else some (.ok (.d .none) H) := needUnits_eq n H i T at_ len hi (by omega)
  unfold textS
  by_cases hs : at_ < 0 ∨ (T.length : Int) < at_ + len
  · rw [if_pos hs] at hN ⊢
    rw [callN_succ]
    simp [d_loadText, hN, rxS]
  · rw [if_neg hs] at hN ⊢
    have e1 : 0 ≤ at_ ∧ at_ ≤ 4096 := ⟨by omega, by omega⟩
    have e2 : 0 ≤ at_ + len ∧ at_ + len ≤ 4096 := ⟨by omega, by omega⟩
    have e3 : at_.toNat ≤ (at_ + len).toNat ∧ (at_ + len).toNat ≤ T.length ∧ T.length ≤ 4096 := ⟨by omega, by omega, by omega⟩
    have hr := rowT_ok hT at_ len
    rw [callN_succ]
    have hsl : sliceD H (.ml i) at_.toNat (at_ + len).toNat = some (.d (.list (rowT T at_ len))) := by
      show (H[i]?.join.bind _) = _
      rw [hi]
      exact if_pos e3
    cases hn : (rowT T at_ len).any (fun y => eqD y .none) with
    | true => simp [d_loadText, hN, hsl, e1, e2, hr, hn, rxS, -List.any_eq_true, -List.all_eq_true]
    | false =>
      obtain ⟨l, g1, g2⟩ := strsOf_some (fun d m => hT d (rowT_mem m)) hn
      have hz : (rowT T at_ len).length ≤ 4096 := by unfold rowT cutL; rw [List.length_take, List.length_drop]; omega
      have h0 : (Str.ofString "").length ≤ 16 := by decide
      simp [d_loadText, hN, hsl, e1, e2, hr, hn, g1, g2, hz, h0, rxS, -List.any_eq_false, -List.all_eq_true]
end Mine
end

section
set_option autoImplicit false
set_option maxRecDepth 100000
namespace Mine
open Ev

noncomputable def memS (L : List UC) (T : List PyData) (kind at_ len : Int) : PyData ⊕ Str := if kind = 5 then textS T at_ len else loadS L kind at_
noncomputable def resS (kind : Int) (r : PyData ⊕ Str) : PyData := match r with
  | .inl d => if kind = 5 then .tuple [.str (Str.ofString "text"), d] else if kind = 3 then d else .tuple [.str (Str.ofString "one"), d]
  | .inr t => .str t

/-- the state of the law's storages -/
structure StH (H : Hp) (L : List UC) (T : List PyData) : Prop where
  num : H[0]? = some (some (L.map UC.toM))
  chr : H[1]? = some (some T)
  uni : H[2]? = some (some (L.map UC.toU))
  txt : H[3]? = some (some T)
  lenL : L.length ≤ 2000
  lenT : T.length ≤ 2000
  tok : ∀ d ∈ T, tOk d

theorem load_eq (n : Nat) {H : Hp} {L : List UC} {T : List PyData} (S : StH H L T) (kind at_ len : Int) (hk : 0 ≤ kind ∧ kind ≤ 5) (hl : 0 ≤ len ∧ len ≤ 16) :
    callN defs (n + 3) .load [.mem 0 1, .d (.tuple [.int kind, .int at_, .int len, .tuple []])] H = rxS (memS L T kind at_ len) H := by
  have h1 := loadText_eq n H 1 T at_ len S.chr S.lenT S.tok hl
  unfold memS
  by_cases h5 : kind = 5
  · subst h5
    rw [callN_succ]
    cases h : textS T at_ len <;> simp [d_load, h1, h, rxS]
  · have h2 := loadNumber_eq n H 0 L kind at_ S.num S.lenL ⟨hk.1, by lia⟩
    rw [callN_succ]
    cases h : loadS L kind at_ <;> simp [d_load, h2, h, h5, rxS]

theorem lawLoad_eq (n : Nat) {H : Hp} {L : List UC} {T : List PyData} (S : StH H L T) (kind at_ len : Int) (hk : 0 ≤ kind ∧ kind ≤ 5) (hl : 0 ≤ len ∧ len ≤ 16) :
    callN defs (n + 4) .lawLoad [.mem 0 1, .d (.int kind), .d (.int at_), .d (.int len)] H = some (.ok (.d (resS kind (memS L T kind at_ len))) H) := by
  have h1 := load_eq n S kind at_ len hk hl
  rw [callN_succ]
  cases h : memS L T kind at_ len with
  | inr t => simp [d_lawLoad, h1, h, rxS, resS]
  | inl d =>
    by_cases h5 : kind = 5
    · subst h5
      simp [d_lawLoad, h1, h, rxS, resS]
    · by_cases h3 : kind = 3
      · subst h3
        simp [d_lawLoad, h1, h, rxS, resS]
      · simp [d_lawLoad, h1, h, rxS, resS, h5, h3]
end Mine
end

section
set_option autoImplicit false
set_option maxRecDepth 100000
namespace Mine
open Ev

noncomputable def vOk (x : PyData) : Prop := x.canLay0 = true ∧ x.depth ≤ 8
noncomputable def UC.good : UC → Prop
  | .no => True
  | .v _ h k x => ((h = 0 ∧ (k = 0 ∨ k = 1 ∨ k = 2 ∨ k = 4)) ∨ (h = 1 ∧ k = 2)) ∧ vOk x
structure Inv (L : List UC) : Prop where
  good : ∀ c ∈ L, c.good
  pair : ∀ (i : Nat) s x s' x', L[i]? = some (.v s 0 2 x) → L[i + 1]? = some (.v s' 1 2 x') → s = s'

theorem okU {c : UC} (h : c.good) : okD c.toU = true := by
  cases c with
  | no => rfl
  | v s hh k x =>
    have h1 := h.2.1
    have h2 := h.2.2
    simp only [okD, SeqAt.shaped, UC.toU, PyData.canLay0, PyData.canLayAll0, PyData.depth, PyData.depthAll, h1, Bool.and_true, Bool.true_and, decide_eq_true_eq]
    lia
theorem okD_tup2 (a b : Int) : okD (.tuple [.int a, .int b]) = true := rfl
theorem eqD_tup2 (a b c d : Int) : eqD (.tuple [.int a, .int b]) (.tuple [.int c, .int d]) = (decide (a = c) && decide (b = d)) := by
  show ((a == c) && ((b == d) && true)) = _
  rw [Bool.and_true]
  have key : ∀ x y : Int, (x == y) = decide (x = y) := fun x y => by
    by_cases h : x = y <;> simp [h]
  rw [key, key]
theorem okD_l23 : [PyData.int 2, PyData.int 3].all okD = true := rfl
theorem eqU_none (c : UC) : eqD c.toU .none = (match c with | .no => true | _ => false) := by cases c <;> rfl
theorem rowU1 {L : List UC} {a : Nat} (h : a < L.length) : cutL (L.map UC.toU) a (a + 1) = [(L[a]).toU] := by
  unfold cutL
  rw [← List.map_drop, List.drop_eq_getElem_cons h, show a + 1 - a = 1 by lia]
  rfl
theorem rowU2 {L : List UC} {a : Nat} (h : a + 1 < L.length) : cutL (L.map UC.toU) a (a + 2) = [(L[a]).toU, (L[a + 1]).toU] := by
  unfold cutL
  rw [← List.map_drop, List.drop_eq_getElem_cons (by omega), List.drop_eq_getElem_cons h, show a + 2 - a = 2 by lia]
  rfl
theorem sl13 (H : Hp) (a b c : Int) (x : PyData) : sliceD H (.d (.tuple [.int a, .int b, .int c, x])) 1 3 = some (.d (.tuple [.int b, .int c])) := rfl
theorem up2 (a b c : Int) (x : PyData) : uptoD (.d (.tuple [.int a, .int b, .int c, x])) 2 = some (.d (.tuple [.int a, .int b])) := rfl


theorem rd_iff {s h k tag : Int} {x : PyData} (hc : (UC.v s h k x).good) (ht : tag ≠ 6) : ((if h = 1 then 6 else k) = tag) ↔ (h = 0 ∧ k = tag) := by
  have := hc.1
  split <;> lia
theorem rd6_iff {s h k : Int} {x : PyData} (hc : (UC.v s h k x).good) : ((if h = 1 then 6 else k) = 6) ↔ h = 1 := by
  have := hc.1
  split <;> lia

theorem eqN_none : eqD .none .none = true := rfl
theorem eqT_none (l : List PyData) : eqD (.tuple l) .none = false := rfl
noncomputable def ownLo (kk at_ len : Int) (x y z : Option DV) : Lo := [some (.ml 2), some (.ml 3), some (.d (.int kk)), some (.d (.int at_)), some (.d (.int len)), x, y, z]
noncomputable def cB (b : Bool) : Int := if b then 2 else 1
theorem own_range (cf : CF) {H : Hp} {L : List UC} {T : List PyData} (S : StH H L T) (kk at_ len : Int) (b : Bool) (h5 : ¬ kk = 5) (hb : cmpD .inn (.int kk) (.list [.int 2, .int 3]) = some b) :
    evSs cf (d_lawOwn.body.take 3) (ownLo kk at_ len .none .none .none) H
      = if at_ < 0 ∨ (L.length : Int) < at_ + cB b then some (.ret (.d (.str (Str.ofString "storage"))) H) else some (.next (ownLo kk at_ len (some (.ml 2)) (some (.d (.int (cB b)))) .none) H) := by
  have hu := S.uni
  have hL := S.lenL
  have hLe : L.length ≤ 4096 := by lia
  have hc : binD .add (.int 1) (.bool b) = some (.int (cB b)) := by cases b <;> rfl
  by_cases h1 : at_ < 0
  · simp [d_lawOwn, ownLo, h5, hb, hc, h1]
  · by_cases h2 : (L.length : Int) < at_ + cB b <;> simp [d_lawOwn, ownLo, h5, hb, hc, h1, h2, hu, hLe]
theorem own_go (n : Nat) {H : Hp} {L : List UC} {T : List PyData} (S : StH H L T) (kk at_ len : Int) (b : Bool) (h5 : ¬ kk = 5) (hb : cmpD .inn (.int kk) (.list [.int 2, .int 3]) = some b) (R : PyData)
    (ho : at_ < 0 ∨ (L.length : Int) < at_ + cB b → R = .str (Str.ofString "storage"))
    (hi : ∀ a : Nat, at_ = (a : Int) → (a : Int) + cB b ≤ L.length → evSs (callN defs n) (d_lawOwn.body.drop 4) (ownLo kk a len (some (.ml 2)) (some (.d (.int (cB b)))) (some (.d (.list (cutL (L.map UC.toU) a (a + (cB b).toNat)))))) H = some (.ret (.d R) H)) :
    callN defs (n + 1) .lawOwn [.ml 2, .ml 3, .d (.int kk), .d (.int at_), .d (.int len)] H = some (.ok (.d R) H) := by
  have hr := own_range (callN defs n) S kk at_ len b h5 hb
  have hL := S.lenL
  have hc : cB b = 1 ∨ cB b = 2 := by cases b <;> simp [cB]
  rw [callN_succ]
  show fin (evSs (callN defs n) (d_lawOwn.body.take 3 ++ (.assign 7 (.slice (.var 5) (.var 3) (.bin .add (.var 3) (.var 6))) :: d_lawOwn.body.drop 4)) (ownLo kk at_ len .none .none .none) H) = _
  rw [evSs_app, hr]
  by_cases hx : at_ < 0 ∨ (L.length : Int) < at_ + cB b
  · rw [if_pos hx, ho hx]; rfl
  · rw [if_neg hx]
    obtain ⟨a, rfl⟩ : ∃ a : Nat, at_ = (a : Int) := ⟨at_.toNat, by lia⟩
    have ha : (a : Int) + cB b ≤ L.length := by lia
    have hs : evS (callN defs n) (.assign 7 (.slice (.var 5) (.var 3) (.bin .add (.var 3) (.var 6)))) (ownLo kk a len (some (.ml 2)) (some (.d (.int (cB b)))) .none) H
        = some (.next (ownLo kk a len (some (.ml 2)) (some (.d (.int (cB b)))) (some (.d (.list (cutL (L.map UC.toU) a (a + (cB b).toNat)))))) H) := by
      have h1 : (a : Int) ≤ 4096 := by lia
      have h2 : 0 ≤ (a : Int) + cB b ∧ (a : Int) + cB b ≤ 4096 := by lia
      have h3 : ((a : Int) + cB b).toNat = a + (cB b).toNat := by lia
      have hrow : sliceD H (.ml 2) a (a + (cB b).toNat) = some (.d (.list (cutL (L.map UC.toU) a (a + (cB b).toNat)))) := by
        show (H[2]?.join.bind _) = _
        rw [S.uni]
        exact if_pos ⟨Nat.le_add_right .., by rw [List.length_map]; lia, by rw [List.length_map]; lia⟩
      simp [ownLo, h1, h2, h3, hrow]
    show fin (evSs _ (_ :: _) _ _) = _
    rw [evSs_cons, hs]
    show fin (evSs _ _ _ _) = _
    rw [hi a rfl ha]; rfl
noncomputable def oneR : Option PyData → PyData
  | some x => .tuple [.str (Str.ofString "one"), x]
  | .none => .str (Str.ofString "undefined")
theorem own_no (cf : CF) {H : Hp} (kk a len u : Int) (r : List PyData) (ok : (r.all okD) = true) (hn : (r.any fun y => eqD y .none) = true) :
    evSs cf (d_lawOwn.body.drop 4) (ownLo kk a len (some (.ml 2)) (some (.d (.int u))) (some (.d (.list r)))) H = some (.ret (.d (.str (Str.ofString "undefined"))) H) := by
  have h : cmpD .inn .none (.list r) = some true := by rw [Ev.cmpD_85]; rw [okD_none, ok, hn]; rfl
  simp [d_lawOwn, ownLo, h]
theorem own_yes (cf : CF) {H : Hp} (kk a len u : Int) (r : List PyData) (h5 : ¬ kk = 5) (ok : (r.all okD) = true) (hn : (r.any fun y => eqD y .none) = false) :
    evSs cf (d_lawOwn.body.drop 4) (ownLo kk a len (some (.ml 2)) (some (.d (.int u))) (some (.d (.list r)))) H = evSs cf (d_lawOwn.body.drop 6) (ownLo kk a len (some (.ml 2)) (some (.d (.int u))) (some (.d (.list r)))) H := by
  have h : cmpD .inn .none (.list r) = some false := by rw [Ev.cmpD_85]; rw [okD_none, ok, hn]; rfl
  rw [show d_lawOwn.body.drop 4 = [.ife (.cmp .inn .none (.var 7)) [.ret (.str "undefined")] [], .ife (.cmp .eq (.var 2) (.int 5)) [.ret (.tup [.str "text", .join (.str "") (.var 7)])] []] ++ d_lawOwn.body.drop 6 from rfl, evSs_app]
  rw [show evSs cf [.ife (.cmp .inn .none (.var 7)) [.ret (.str "undefined")] [], .ife (.cmp .eq (.var 2) (.int 5)) [.ret (.tup [.str "text", .join (.str "") (.var 7)])] []] (ownLo kk a len (some (.ml 2)) (some (.d (.int u))) (some (.d (.list r)))) H = some (.next (ownLo kk a len (some (.ml 2)) (some (.d (.int u))) (some (.d (.list r)))) H) by simp [ownLo, h, h5]]
theorem any1 (c : UC) : ([c.toU].any fun y => eqD y .none) = (match c with | .no => true | _ => false) := by cases c <;> rfl
theorem any2 (c d : UC) : ([c.toU, d.toU].any fun y => eqD y .none) = (match c, d with | .no, _ => true | _, .no => true | _, _ => false) := by cases c <;> cases d <;> rfl
theorem ok1 {c : UC} (h : c.good) : ([c.toU].all okD) = true := by simp [okU h]
theorem ok2 {c d : UC} (h : c.good) (g : d.good) : ([c.toU, d.toU].all okD) = true := by simp [okU h, okU g]
theorem own_rest1 (cf : CF) (H : Hp) (kk a len : Int) (h2 : ¬ kk = 2) (h3 : ¬ kk = 3) (h5 : ¬ kk = 5) (h6 : ¬ kk = 6) (c : UC) (hg : c.good) :
    evSs cf (d_lawOwn.body.drop 4) (ownLo kk a len (some (.ml 2)) (some (.d (.int 1))) (some (.d (.list [c.toU])))) H = some (.ret (.d (oneR (rd (some c) kk))) H) := by
  cases hc : c with
  | no => exact own_no cf kk a len 1 _ (ok1 (c := .no) trivial) rfl
  | v s h k x =>
    rw [hc] at hg
    rw [own_yes cf kk a len 1 _ h5 (ok1 hg) (any1 _)]
    have he := rd_iff (tag := kk) hg h6
    simp only [rd]
    by_cases hq : h = 0 ∧ k = kk
    · obtain ⟨rfl, rfl⟩ := hq
      rw [if_pos (he.mpr ⟨rfl, rfl⟩)]
      simp [d_lawOwn, ownLo, UC.toU, h2, h3, sl13, okD_tup2, eqD_tup2, oneR]
    · rw [if_neg fun z => hq (he.mp z)]
      have hd : ¬ (h = 0 ∧ k = kk) := hq
      simp [d_lawOwn, ownLo, UC.toU, h2, h3, sl13, okD_tup2, eqD_tup2, oneR, show (decide (h = 0) && decide (k = kk)) = false by rw [← Bool.decide_and]; exact decide_eq_false hd]
theorem own_rest2 (cf : CF) (H : Hp) (a len : Int) (c d : UC) (hg : c.good) (hd : d.good) (hp : ∀ s x s' x', c = .v s 0 2 x → d = .v s' 1 2 x' → s = s') :
    evSs cf (d_lawOwn.body.drop 4) (ownLo 2 a len (some (.ml 2)) (some (.d (.int 2))) (some (.d (.list [c.toU, d.toU])))) H = some (.ret (.d (oneR (match rd (some d) 6 with | some _ => rd (some c) 2 | .none => .none))) H) := by
  cases hc : c with
  | no =>
    refine (own_no cf 2 a len 2 _ (ok2 (c := .no) trivial hd) (any2 _ _)).trans ?_
    cases rd (some d) 6 <;> rfl
  | v s h k x =>
    cases hc' : d with
    | no => rw [hc] at hg; exact own_no cf 2 a len 2 _ (ok2 hg (d := .no) trivial) rfl
    | v s1 h1 k1 x1 =>
      rw [hc] at hg
      rw [hc'] at hd
      rw [own_yes cf 2 a len 2 _ (by decide) (ok2 hg hd) rfl]
      have he := rd_iff (tag := 2) hg (by decide)
      have he1 := rd6_iff hd
      simp only [rd]
      by_cases hq : h = 0 ∧ k = 2
      · obtain ⟨rfl, rfl⟩ := hq
        rw [if_pos (he.mpr ⟨rfl, rfl⟩)]
        by_cases q1 : h1 = 1
        · have k2 : k1 = 2 := by have := hd.1; lia
          subst q1 k2
          have hs : s = s1 := hp s x s1 x1 hc hc'
          subst hs
          simp [d_lawOwn, ownLo, UC.toU, sl13, up2, okD_tup2, eqD_tup2, oneR]
        · rw [if_neg fun z => q1 (he1.mp z)]
          simp [d_lawOwn, ownLo, UC.toU, sl13, up2, okD_tup2, eqD_tup2, oneR, q1]
      · rw [if_neg fun z => hq (he.mp z)]
        have hz : (match (if (if h1 = 1 then 6 else k1) = 6 then some x1 else .none : Option PyData) with | some _ => (.none : Option PyData) | .none => .none) = .none := by split <;> rfl
        rw [hz]
        simp [d_lawOwn, ownLo, UC.toU, sl13, up2, okD_tup2, eqD_tup2, oneR, show (decide (h = 0) && decide (k = 2)) = false by rw [← Bool.decide_and]; exact decide_eq_false hq]
noncomputable def twoR : Option PyData → Option PyData → PyData
  | some x, some y => .tuple [x, y]
  | _, _ => .str (Str.ofString "undefined")
theorem own_rest3 (cf : CF) (H : Hp) (a len : Int) (c d : UC) (hg : c.good) (hd : d.good) :
    evSs cf (d_lawOwn.body.drop 4) (ownLo 3 a len (some (.ml 2)) (some (.d (.int 2))) (some (.d (.list [c.toU, d.toU])))) H = some (.ret (.d (twoR (rd (some c) 1) (rd (some d) 1))) H) := by
  cases hc : c with
  | no => exact own_no cf 3 a len 2 _ (ok2 (c := .no) trivial hd) (any2 _ _)
  | v s h k x =>
    cases hc' : d with
    | no =>
      rw [hc] at hg
      refine (own_no cf 3 a len 2 _ (ok2 hg (d := .no) trivial) rfl).trans ?_
      show _ = some (RS.ret (.d (twoR (rd (some (UC.v s h k x)) 1) .none)) H)
      cases rd (some (UC.v s h k x)) 1 <;> rfl
    | v s1 h1 k1 x1 =>
      rw [hc] at hg
      rw [hc'] at hd
      rw [own_yes cf 3 a len 2 _ (by decide) (ok2 hg hd) rfl]
      have he := rd_iff (tag := 1) hg (by decide)
      have he1 := rd_iff (tag := 1) hd (by decide)
      simp only [rd]
      by_cases hq : h = 0 ∧ k = 1
      · obtain ⟨rfl, rfl⟩ := hq
        rw [if_pos (he.mpr ⟨rfl, rfl⟩)]
        by_cases q1 : h1 = 0 ∧ k1 = 1
        · obtain ⟨rfl, rfl⟩ := q1
          rw [if_pos (he1.mpr ⟨rfl, rfl⟩)]
          simp [d_lawOwn, ownLo, UC.toU, sl13, okD_tup2, eqD_tup2, twoR]
        · rw [if_neg fun z => q1 (he1.mp z)]
          simp [d_lawOwn, ownLo, UC.toU, sl13, okD_tup2, eqD_tup2, twoR, show (decide (h1 = 0) && decide (k1 = 1)) = false by rw [← Bool.decide_and]; exact decide_eq_false q1]
      · rw [if_neg fun z => hq (he.mp z)]
        simp [d_lawOwn, ownLo, UC.toU, sl13, okD_tup2, eqD_tup2, twoR, show (decide (h = 0) && decide (k = 1)) = false by rw [← Bool.decide_and]; exact decide_eq_false hq]

theorem lawOwn_one (n : Nat) {H : Hp} {L : List UC} {T : List PyData} (S : StH H L T) (I : Inv L) (kk at_ len : Int) (h2 : ¬ kk = 2) (h3 : ¬ kk = 3) (h5 : ¬ kk = 5) (h6 : ¬ kk = 6) :
    callN defs (n + 1) .lawOwn [.ml 2, .ml 3, .d (.int kk), .d (.int at_), .d (.int len)] H = some (.ok (.d (resS kk (loadS L kk at_))) H) := by
  have hb : cmpD .inn (.int kk) (.list [.int 2, .int 3]) = some false := by rw [Ev.cmpD_85]; simp [Ne.symm h2, Ne.symm h3]
  have hz : ¬ (kk = 2 ∨ kk = 3) := fun z => z.elim h2 h3
  refine own_go n S kk at_ len false h5 hb _ (fun ho => ?_) fun a e ha => ?_
  · unfold loadS
    rw [if_neg hz]
    rw [if_pos (show at_ < 0 ∨ (L.length : Int) < at_ + 1 from ho)]; rfl
  · have ha' : (a : Int) + 1 ≤ L.length := ha
    have hal : a < L.length := by lia
    subst e
    show evSs _ _ (ownLo kk a len (some (.ml 2)) (some (.d (.int 1))) (some (.d (.list (cutL (L.map UC.toU) a (a + 1)))))) H = _
    rw [rowU1 hal, own_rest1 _ H kk a len h2 h3 h5 h6 _ (I.good _ (List.getElem_mem hal))]
    unfold loadS
    rw [if_neg hz, if_neg (show ¬ ((a : Int) < 0 ∨ (L.length : Int) < a + 1) by lia), if_neg h3, Int.toNat_natCast, List.getElem?_eq_getElem hal]
    cases rd (some L[a]) kk with
    | none => rfl
    | some x =>
      show some (RS.ret (.d (oneR (some x))) H) = some (RS.ret (.d (resS kk (if kk = 2 then _ else .inl x))) H)
      rw [if_neg h2]
      simp only [resS, if_neg h5, if_neg h3, oneR]
theorem lawOwn_2 (n : Nat) {H : Hp} {L : List UC} {T : List PyData} (S : StH H L T) (I : Inv L) (at_ len : Int) :
    callN defs (n + 1) .lawOwn [.ml 2, .ml 3, .d (.int 2), .d (.int at_), .d (.int len)] H = some (.ok (.d (resS 2 (loadS L 2 at_))) H) := by
  have hw : (if (2 : Int) = 2 ∨ (2 : Int) = 3 then (2 : Int) else 1) = 2 := rfl
  refine own_go n S 2 at_ len true (by decide) rfl _ (fun ho => ?_) fun a e ha => ?_
  · unfold loadS
    rw [hw, if_pos (show at_ < 0 ∨ (L.length : Int) < at_ + 2 from ho)]; rfl
  · have ha' : (a : Int) + 2 ≤ L.length := ha
    have hal : a < L.length := by lia
    have hal1 : a + 1 < L.length := by lia
    have hget : L[a]? = some L[a] := List.getElem?_eq_getElem hal
    have hget1 : L[a + 1]? = some L[a + 1] := List.getElem?_eq_getElem hal1
    subst e
    show evSs _ _ (ownLo 2 a len (some (.ml 2)) (some (.d (.int 2))) (some (.d (.list (cutL (L.map UC.toU) a (a + 2)))))) H = _
    rw [rowU2 hal1, own_rest2 _ H a len _ _ (I.good _ (List.getElem_mem hal)) (I.good _ (List.getElem_mem hal1)) fun s x s' x' e e' => I.pair a s x s' x' (hget.trans (congrArg some e)) (hget1.trans (congrArg some e'))]
    unfold loadS
    rw [hw, if_neg (show ¬ ((a : Int) < 0 ∨ (L.length : Int) < a + 2) by lia), Int.toNat_natCast, hget, hget1]
    cases rd (some L[a]) 2 <;> cases rd (some L[a + 1]) 6 <;> rfl
theorem lawOwn_3 (n : Nat) {H : Hp} {L : List UC} {T : List PyData} (S : StH H L T) (I : Inv L) (at_ len : Int) :
    callN defs (n + 1) .lawOwn [.ml 2, .ml 3, .d (.int 3), .d (.int at_), .d (.int len)] H = some (.ok (.d (resS 3 (loadS L 3 at_))) H) := by
  have hw : (if (3 : Int) = 2 ∨ (3 : Int) = 3 then (2 : Int) else 1) = 2 := rfl
  refine own_go n S 3 at_ len true (by decide) rfl _ (fun ho => ?_) fun a e ha => ?_
  · unfold loadS
    rw [hw, if_pos (show at_ < 0 ∨ (L.length : Int) < at_ + 2 from ho)]; rfl
  · have ha' : (a : Int) + 2 ≤ L.length := ha
    have hal : a < L.length := by lia
    have hal1 : a + 1 < L.length := by lia
    subst e
    show evSs _ _ (ownLo 3 a len (some (.ml 2)) (some (.d (.int 2))) (some (.d (.list (cutL (L.map UC.toU) a (a + 2)))))) H = _
    rw [rowU2 hal1, own_rest3 _ H a len _ _ (I.good _ (List.getElem_mem hal)) (I.good _ (List.getElem_mem hal1))]
    unfold loadS
    rw [hw, if_neg (show ¬ ((a : Int) < 0 ∨ (L.length : Int) < a + 2) by lia), Int.toNat_natCast, List.getElem?_eq_getElem hal, List.getElem?_eq_getElem hal1]
    cases rd (some L[a]) 1 <;> cases rd (some L[a + 1]) 1 <;> rfl

theorem five_cases {k : Int} (h : 0 ≤ k ∧ k ≤ 4) : k = 0 ∨ k = 1 ∨ k = 2 ∨ k = 3 ∨ k = 4 := by lia
theorem lawOwn_num (n : Nat) {H : Hp} {L : List UC} {T : List PyData} (S : StH H L T) (I : Inv L) (kind at_ len : Int) (hk : 0 ≤ kind ∧ kind ≤ 4) :
    callN defs (n + 1) .lawOwn [.ml 2, .ml 3, .d (.int kind), .d (.int at_), .d (.int len)] H = some (.ok (.d (resS kind (loadS L kind at_))) H) := by
  obtain rfl | rfl | rfl | rfl | rfl : kind = 0 ∨ kind = 1 ∨ kind = 2 ∨ kind = 3 ∨ kind = 4 := five_cases hk
  · exact lawOwn_one n S I 0 at_ len (by decide) (by decide) (by decide) (by decide)
  · exact lawOwn_one n S I 1 at_ len (by decide) (by decide) (by decide) (by decide)
  · exact lawOwn_2 n S I at_ len
  · exact lawOwn_3 n S I at_ len
  · exact lawOwn_one n S I 4 at_ len (by decide) (by decide) (by decide) (by decide)
end Mine
end

section
set_option autoImplicit false
set_option maxRecDepth 100000
namespace Mine
open Ev

theorem lawOwn_txt (n : Nat) {H : Hp} {L : List UC} {T : List PyData} (S : StH H L T) (at_ len : Int) (hl : 0 ≤ len ∧ len ≤ 16) :
    callN defs (n + 1) .lawOwn [.ml 2, .ml 3, .d (.int 5), .d (.int at_), .d (.int len)] H = some (.ok (.d (resS 5 (textS T at_ len))) H) := by
  have hu := S.txt
  have hL := S.lenT
  have hLe : T.length ≤ 4096 := by omega
  unfold textS
  by_cases hs1 : at_ < 0
  · simp [callN_succ, d_lawOwn, hu, hLe, resS, hs1]
  · by_cases hs2 : (T.length : Int) < at_ + len
    · simp [callN_succ, d_lawOwn, hu, hLe, resS, hs1, hs2]
    · rw [if_neg (by omega)]
      have e1 : 0 ≤ at_ ∧ at_ ≤ 4096 := ⟨by omega, by omega⟩
      have e2 : 0 ≤ at_ + len ∧ at_ + len ≤ 4096 := ⟨by omega, by omega⟩
      have e3 : at_.toNat ≤ (at_ + len).toNat ∧ (at_ + len).toNat ≤ T.length ∧ T.length ≤ 4096 := ⟨by omega, by omega, by omega⟩
      have hr := rowT_ok S.tok at_ len
      have hsl : sliceD H (.ml 3) at_.toNat (at_ + len).toNat = some (.d (.list (rowT T at_ len))) := by
        show (H[3]?.join.bind _) = _
        rw [hu]
        exact if_pos e3
      cases hn : (rowT T at_ len).any (fun y => eqD y .none) with
      | true => simp [callN_succ, d_lawOwn, hu, hLe, hsl, e1, e2, hr, hn, hs1, hs2, resS, -List.any_eq_true, -List.all_eq_true]
      | false =>
        obtain ⟨l, g1, g2⟩ := strsOf_some (fun d m => S.tok d (rowT_mem m)) hn
        have hz : (rowT T at_ len).length ≤ 4096 := by unfold rowT cutL; rw [List.length_take, List.length_drop]; omega
        have h0 : (Str.ofString "").length ≤ 16 := by decide
        simp [callN_succ, d_lawOwn, hu, hLe, hsl, e1, e2, hr, hn, hs1, hs2, g1, g2, hz, h0, resS, -List.any_eq_false, -List.all_eq_true]

/-- a store of a number -/
noncomputable def stN (L : List UC) (s kind : Int) (a : Nat) (x : PyData) : List UC :=
  if kind = 3 then match x with
    | .tuple [p, q] => (L.set a (.v s 0 1 p)).set (a + 1) (.v s 0 1 q)
    | _ => L
  else if kind = 2 then (L.set a (.v s 0 2 x)).set (a + 1) (.v s 1 2 x) else L.set a (.v s 0 kind x)
noncomputable def cnt (kind : Int) : Nat := if kind = 2 ∨ kind = 3 then 2 else 1

/-- the memory's lists after an error stand as they were -/
theorem storeNumber_fail (n : Nat) (H : Hp) (L : List UC) (kind at_ : Int) (x : PyData) (hi : H[0]? = some (some (L.map UC.toM))) (hL : L.length ≤ 2000) (hk : 0 ≤ kind ∧ kind < 5) (hs : at_ < 0 ∨ (L.length : Int) < at_ + cnt kind) :
    callN defs (n + 2) .storeNumber [.ml 0, .d (.int kind), .d (.int at_), .d x] H = some (.err (Str.ofString "storage") H) := by
  have hk5 : kind ≠ 5 := by omega
  have hU := unitsOf_eq n kind H
  simp only [hk5, if_false] at hU
  have hN := needUnits_eq n H 0 (L.map UC.toM) at_ (cnt kind) hi (by simp; omega)
  have hs' : at_ < 0 ∨ ((L.map UC.toM).length : Int) < at_ + cnt kind := by simpa using hs
  rw [if_pos hs'] at hN
  rw [callN_succ]
  unfold cnt at hN
  by_cases h23 : kind = 2 ∨ kind = 3
  · rw [if_pos h23] at hU hN
    have hN' : callN defs (n + 1) .needUnits [.ml 0, .d (.int at_), .d (.int 2)] H = _ := hN
    simp [d_storeNumber, hU, hN']
  · rw [if_neg h23] at hU hN
    have hN' : callN defs (n + 1) .needUnits [.ml 0, .d (.int at_), .d (.int 1)] H = _ := hN
    simp [d_storeNumber, hU, hN']
theorem storeNumber_ok (n : Nat) (H : Hp) (L : List UC) (s kind : Int) (a : Nat) (x : PyData) (hi : H[0]? = some (some (L.map UC.toM))) (hL : L.length ≤ 2000) (hk : kind = 0 ∨ kind = 1 ∨ kind = 2 ∨ kind = 4 ∨ (kind = 3 ∧ ∃ p q, x = .tuple [p, q])) (hs : a + cnt kind ≤ L.length) :
    callN defs (n + 2) .storeNumber [.ml 0, .d (.int kind), .d (.int a), .d x] H = some (.ok (.d .none) (H.set 0 (some ((stN L s kind a x).map UC.toM)))) := by
  have hlt : 0 < H.length := (List.getElem?_eq_some_iff.mp hi).1
  have hk5 : kind ≠ 5 := by lia
  have hU := unitsOf_eq n kind H
  simp only [hk5, if_false] at hU
  have hN := needUnits_eq n H 0 (L.map UC.toM) a (cnt kind) hi (by simp; omega)
  have hs' : ¬((a : Int) < 0 ∨ ((L.map UC.toM).length : Int) < a + cnt kind) := by simp; omega
  rw [if_neg hs'] at hN
  have b1 : (a : Int) ≤ 4096 := by omega
  have hget : ∀ l : List PyData, (H.set 0 (some l))[0]? = some (some l) := fun l => by rw [List.getElem?_set_self hlt]
  rw [callN_succ]
  rcases hk with rfl | rfl | rfl | rfl | ⟨rfl, p, q, rfl⟩
  · have hN' : callN defs (n + 1) .needUnits [.ml 0, .d (.int a), .d (.int 1)] H = some (.ok (.d .none) H) := hN
    have c1 : a < L.length := hs
    simp [d_storeNumber, hU, hN', hi, b1, c1, stN, UC.toM, List.map_set]
  · have hN' : callN defs (n + 1) .needUnits [.ml 0, .d (.int a), .d (.int 1)] H = some (.ok (.d .none) H) := hN
    have c1 : a < L.length := hs
    simp [d_storeNumber, hU, hN', hi, b1, c1, stN, UC.toM, List.map_set]
  · have hN' : callN defs (n + 1) .needUnits [.ml 0, .d (.int a), .d (.int 2)] H = some (.ok (.d .none) H) := hN
    have c1 : a + 1 < L.length := hs
    have c0 : a < L.length := by omega
    have b2 : (a : Int) + 1 ≤ 4096 := by omega
    have b3 : (0 : Int) ≤ (a : Int) + 1 := by omega
    have b4 : ((a : Int) + 1).toNat = a + 1 := by omega
    simp [d_storeNumber, hU, hN', hi, b1, b2, b3, b4, c0, c1, stN, UC.toM, List.map_set, hget]
  · have hN' : callN defs (n + 1) .needUnits [.ml 0, .d (.int a), .d (.int 1)] H = some (.ok (.d .none) H) := hN
    have c1 : a < L.length := hs
    simp [d_storeNumber, hU, hN', hi, b1, c1, stN, UC.toM, List.map_set]
  · have hN' : callN defs (n + 1) .needUnits [.ml 0, .d (.int a), .d (.int 2)] H = some (.ok (.d .none) H) := hN
    have c1 : a + 1 < L.length := hs
    have c0 : a < L.length := by omega
    have b2 : (a : Int) + 1 ≤ 4096 := by omega
    have b3 : (0 : Int) ≤ (a : Int) + 1 := by omega
    have b4 : ((a : Int) + 1).toNat = a + 1 := by omega
    simp [d_storeNumber, hU, hN', hi, b1, b2, b3, b4, c0, c1, stN, UC.toM, List.map_set, hget]
end Mine
end

section
set_option autoImplicit false
set_option maxRecDepth 100000
namespace Mine
open Ev

/-- signs laid one behind the other -/
noncomputable def stT (T : List PyData) (a : Nat) (f : Nat → Str) : Nat → List PyData
  | 0 => T
  | n + 1 => (stT T a f n).set (a + n) (.str (f n))
theorem stT_length (T : List PyData) (a : Nat) (f : Nat → Str) (n : Nat) : (stT T a f n).length = T.length := by
  induction n with
  | zero => rfl
  | succ n ih => simp [stT, ih]
theorem stT_congr (T : List PyData) (a : Nat) (f g : Nat → Str) (n : Nat) (h : ∀ k, k < n → f k = g k) : stT T a f n = stT T a g n := by
  induction n with
  | zero => rfl
  | succ n ih => simp only [stT]; rw [ih (fun k hk => h k (by lia)), h n (by lia)]
theorem stT_tok (T : List PyData) (a : Nat) (f : Nat → Str) (n : Nat) (hT : ∀ d ∈ T, tOk d) (hf : ∀ k, k < n → tOk (.str (f k))) : ∀ d ∈ stT T a f n, tOk d := by
  induction n with
  | zero => exact hT
  | succ n ih =>
    intro d hd
    rcases List.mem_or_eq_of_mem_set hd with h | h
    · exact ih (fun k hk => hf k (by lia)) d h
    · subst h; exact hf n (by lia)
theorem rng1 : rngI 0 1 = [0] := rfl
theorem rng2 : rngI 0 2 = [0, 1] := rfl
theorem rng3 : rngI 0 3 = [0, 1, 2] := rfl

theorem storeText_fail (n : Nat) (H : Hp) (T : List PyData) (at_ : Int) (t : Str) (hi : H[1]? = some (some T)) (hT : T.length ≤ 2000) (ht : t.length ≤ 16) (hs : at_ < 0 ∨ (T.length : Int) < at_ + t.length) :
    callN defs (n + 2) .storeText [.ml 1, .d (.int at_), .d (.str t)] H = some (.err (Str.ofString "storage") H) := by
  have hN := needUnits_eq n H 1 T at_ t.length hi (by lia)
  rw [if_pos hs] at hN
  have h1 : t.length ≤ 4096 := by lia
  rw [callN_succ]
  simp [d_storeText, hN, h1]

theorem storeText_ok (n : Nat) (H : Hp) (T : List PyData) (a : Nat) (t : Str) (len : Nat) (hi : H[1]? = some (some T)) (hT : T.length ≤ 2000) (ht : t.length = len) (hl : len = 1 ∨ len = 2 ∨ len = 3) (hs : a + len ≤ T.length) :
    callN defs (n + 2) .storeText [.ml 1, .d (.int a), .d (.str t)] H = some (.ok (.d .none) (H.set 1 (some (stT T a (fun k => Txt.item t k) len)))) := by
  have hlt : 1 < H.length := (List.getElem?_eq_some_iff.mp hi).1
  have hget : ∀ l : List PyData, (H.set 1 (some l))[1]? = some (some l) := fun l => by rw [List.getElem?_set_self hlt]
  have hN := needUnits_eq n H 1 T a t.length hi (by lia)
  have hs' : ¬((a : Int) < 0 ∨ (T.length : Int) < a + t.length) := by lia
  rw [if_neg hs'] at hN
  have b1 : (a : Int) ≤ 4096 := by lia
  rw [callN_succ]
  rcases hl with rfl | rfl | rfl
  · have c0 : a < T.length := by lia
    rw [ht] at hN
    have hN' : callN defs (n + 1) .needUnits [.ml 1, .d (.int a), .d (.int 1)] H = _ := hN
    simp [d_storeText, hN', ht, hi, b1, c0, stT, small, rng1, loopV]
  · have c0 : a < T.length := by lia
    have c1 : a + 1 < T.length := by lia
    have b2 : (a : Int) + 1 ≤ 4096 := by lia
    have b3 : (0 : Int) ≤ (a : Int) + 1 := by lia
    have b4 : ((a : Int) + 1).toNat = a + 1 := by lia
    rw [ht] at hN
    have hN' : callN defs (n + 1) .needUnits [.ml 1, .d (.int a), .d (.int 2)] H = _ := hN
    simp [d_storeText, hN', ht, hi, hget, b1, c0, b2, b3, b4, c1, stT, small, rng2, loopV]
  · have c0 : a < T.length := by lia
    have c1 : a + 1 < T.length := by lia
    have b2 : (a : Int) + 1 ≤ 4096 := by lia
    have b3 : (0 : Int) ≤ (a : Int) + 1 := by lia
    have b4 : ((a : Int) + 1).toNat = a + 1 := by lia
    have c2 : a + 2 < T.length := by lia
    have b5 : (a : Int) + 2 ≤ 4096 := by lia
    have b6 : (0 : Int) ≤ (a : Int) + 2 := by lia
    have b7 : ((a : Int) + 2).toNat = a + 2 := by lia
    rw [ht] at hN
    have hN' : callN defs (n + 1) .needUnits [.ml 1, .d (.int a), .d (.int 3)] H = _ := hN
    simp [d_storeText, hN', ht, hi, hget, b1, c0, b2, b3, b4, c1, b5, b6, b7, c2, stT, small, rng3, loopV]

noncomputable def blank (k : Int) : Str := Txt.mul (Str.ofString " ") k
noncomputable def padT (t : Str) (len : Nat) : Str := Txt.slice t .none (some (len : Int)) ++ blank (len - t.length)
theorem pad_eq (n : Nat) (H : Hp) (t : Str) (len : Nat) (ht : t.length ≤ 16) (hl : len ≤ 16) (hw : (Txt.slice t .none (some (len : Int))).length ≤ 4096 ∧ (blank (len - t.length)).length ≤ 4096) :
    callN defs (n + 1) .pad [.d (.str t), .d (.int len)] H = some (.ok (.d (.str (padT t len))) H) := by
  have h1 : t.length ≤ 4096 := by lia
  have h2 : (len : Int) ≤ 4096 := by lia
  have h3 : (-4096 : Int) ≤ (len : Int) - t.length ∧ (len : Int) - t.length ≤ 4096 := by lia
  have h4 : (Str.ofString " ").length ≤ 16 := by decide
  have h5 := hw.2
  unfold blank at h5
  simp [callN_succ, d_pad, h1, h2, h3, h4, h5, hw.1, uptoD, padT, blank]
end Mine
end

section
set_option autoImplicit false
set_option maxRecDepth 100000
namespace Mine
open Ev

theorem lawStore_num_fail (n : Nat) (H : Hp) (L : List UC) (kind at_ len : Int) (x : PyData) (hi : H[0]? = some (some (L.map UC.toM))) (hL : L.length ≤ 2000) (hk : 0 ≤ kind ∧ kind < 5) (hs : at_ < 0 ∨ (L.length : Int) < at_ + cnt kind) :
    callN defs (n + 4) .lawStore [.mem 0 1, .d (.int kind), .d (.int at_), .d (.int len), .d x] H = some (.ok (.d (.str (Str.ofString "storage"))) H) := by
  have h1 := storeNumber_fail n H L kind at_ x hi hL hk hs
  have h5 : kind ≠ 5 := by lia
  have h2 : callN defs (n + 3) .store [.mem 0 1, .d (.tuple [.int kind, .int at_, .int len, .tuple []]), .d x] H = some (.err (Str.ofString "storage") H) := by
    rw [callN_succ]
    simp [d_store, h1, h5]
  rw [callN_succ]
  simp [d_lawStore, h2]
theorem lawStore_num_ok (n : Nat) (H : Hp) (L : List UC) (s kind len : Int) (a : Nat) (x : PyData) (hi : H[0]? = some (some (L.map UC.toM))) (hL : L.length ≤ 2000) (hk : kind = 0 ∨ kind = 1 ∨ kind = 2 ∨ kind = 4 ∨ (kind = 3 ∧ ∃ p q, x = .tuple [p, q])) (hs : a + cnt kind ≤ L.length) :
    callN defs (n + 4) .lawStore [.mem 0 1, .d (.int kind), .d (.int a), .d (.int len), .d x] H = some (.ok (.d (.str (Str.ofString "stored"))) (H.set 0 (some ((stN L s kind a x).map UC.toM)))) := by
  have h1 := storeNumber_ok n H L s kind a x hi hL hk hs
  have h5 : kind ≠ 5 := by lia
  have h2 : callN defs (n + 3) .store [.mem 0 1, .d (.tuple [.int kind, .int a, .int len, .tuple []]), .d x] H = some (.ok (.d .none) (H.set 0 (some ((stN L s kind a x).map UC.toM)))) := by
    rw [callN_succ]
    simp [d_store, h1, h5]
  rw [callN_succ]
  simp [d_lawStore, h2]

/-- a text and a length as the deeds give them -/
structure TxOk (t : Str) (len : Nat) : Prop where
  llen : len = 1 ∨ len = 2 ∨ len = 3
  short : t.length ≤ 16
  cut : (Txt.slice t .none (some (len : Int))).length ≤ 4096 ∧ (blank (len - t.length)).length ≤ 4096
  pad : (padT t len).length = len
  bl : (blank len).length ≤ 4096
  lay : len ≤ (t ++ blank len).length ∧ (t ++ blank len).length ≤ 4096
  same : ∀ k, k < len → Txt.item (padT t len) k = Txt.item (t ++ blank len) k
  ok : ∀ k, k < len → tOk (.str (Txt.item (padT t len) k))

theorem store_txt (n : Nat) (H : Hp) (at_ : Int) (t : Str) (len : Nat) (X : TxOk t len) :
    callN defs (n + 3) .store [.mem 0 1, .d (.tuple [.int 5, .int at_, .int len, .tuple []]), .d (.str t)] H = 
     bnd (callN defs (n + 2) .storeText [.ml 1, .d (.int at_), .d (.str (padT t len))] H) fun _ H' => some (.ok (.d .none) H') := by
  have hp := pad_eq (n + 1) H t len X.short (by have := X.llen; lia) X.cut
  rw [callN_succ]
  cases h : callN defs (n + 2) .storeText [.ml 1, .d (.int at_), .d (.str (padT t len))] H with
  | none => simp [d_store, hp, h]
  | some r => cases r <;> simp [d_store, hp, h]
theorem lawStore_txt_fail (n : Nat) (H : Hp) (T : List PyData) (at_ : Int) (t : Str) (len : Nat) (X : TxOk t len) (hi : H[1]? = some (some T)) (hT : T.length ≤ 2000) (hs : at_ < 0 ∨ (T.length : Int) < at_ + len) :
    callN defs (n + 4) .lawStore [.mem 0 1, .d (.int 5), .d (.int at_), .d (.int len), .d (.str t)] H = some (.ok (.d (.str (Str.ofString "storage"))) H) := by
  have h1 := storeText_fail n H T at_ (padT t len) hi hT (by have := X.llen; have := X.pad; lia) (by rw [X.pad]; exact hs)
  have h2 := store_txt n H at_ t len X
  rw [h1] at h2
  simp only [bnd] at h2
  rw [callN_succ]
  simp [d_lawStore, h2]
theorem lawStore_txt_ok (n : Nat) (H : Hp) (T : List PyData) (a : Nat) (t : Str) (len : Nat) (X : TxOk t len) (hi : H[1]? = some (some T)) (hT : T.length ≤ 2000) (hs : a + len ≤ T.length) :
    callN defs (n + 4) .lawStore [.mem 0 1, .d (.int 5), .d (.int a), .d (.int len), .d (.str t)] H = some (.ok (.d (.str (Str.ofString "stored"))) (H.set 1 (some (stT T a (fun k => Txt.item (padT t len) k) len)))) := by
  have h1 := storeText_ok n H T a (padT t len) len hi hT X.pad X.llen hs
  have h2 := store_txt n H a t len X
  rw [h1] at h2
  simp only [bnd] at h2
  rw [callN_succ]
  simp [d_lawStore, h2]

theorem lawLay_num (n : Nat) (H : Hp) (L : List UC) (s kind len : Int) (a : Nat) (x : PyData) (hi : H[2]? = some (some (L.map UC.toU))) (hL : L.length ≤ 2000) (hk : kind = 0 ∨ kind = 1 ∨ kind = 2 ∨ kind = 4 ∨ (kind = 3 ∧ ∃ p q, x = .tuple [p, q])) (hs : a + cnt kind ≤ L.length) :
    callN defs (n + 1) .lawLay [.ml 2, .ml 3, .d (.int kind), .d (.int a), .d (.int len), .d x, .d (.int s)] H = some (.ok (.d .none) (H.set 2 (some ((stN L s kind a x).map UC.toU)))) := by
  have hlt : 2 < H.length := (List.getElem?_eq_some_iff.mp hi).1
  have hget : ∀ l : List PyData, (H.set 2 (some l))[2]? = some (some l) := fun l => by rw [List.getElem?_set_self hlt]
  have b1 : (a : Int) ≤ 4096 := by lia
  rw [callN_succ]
  rcases hk with rfl | rfl | rfl | rfl | ⟨rfl, p, q, rfl⟩
  · have c1 : a < L.length := hs
    simp [d_lawLay, hi, b1, c1, stN, UC.toU, List.map_set]
  · have c1 : a < L.length := hs
    simp [d_lawLay, hi, b1, c1, stN, UC.toU, List.map_set]
  · have c1 : a + 1 < L.length := hs
    have c0 : a < L.length := by lia
    have b2 : (a : Int) + 1 ≤ 4096 := by lia
    have b3 : (0 : Int) ≤ (a : Int) + 1 := by lia
    have b4 : ((a : Int) + 1).toNat = a + 1 := by lia
    simp [d_lawLay, hi, b1, b2, b3, b4, c0, c1, stN, UC.toU, List.map_set, hget]
  · have c1 : a < L.length := hs
    simp [d_lawLay, hi, b1, c1, stN, UC.toU, List.map_set]
  · have c1 : a + 1 < L.length := hs
    have c0 : a < L.length := by lia
    have b2 : (a : Int) + 1 ≤ 4096 := by lia
    have b3 : (0 : Int) ≤ (a : Int) + 1 := by lia
    have b4 : ((a : Int) + 1).toNat = a + 1 := by lia
    simp [d_lawLay, hi, b1, b2, b3, b4, c0, c1, stN, UC.toU, List.map_set, hget]

theorem lawLay_txt (n : Nat) (H : Hp) (T : List PyData) (s : Int) (a : Nat) (t : Str) (len : Nat) (X : TxOk t len) (hi : H[3]? = some (some T)) (hT : T.length ≤ 2000) (hs : a + len ≤ T.length) :
    callN defs (n + 1) .lawLay [.ml 2, .ml 3, .d (.int 5), .d (.int a), .d (.int len), .d (.str t), .d (.int s)] H = some (.ok (.d .none) (H.set 3 (some (stT T a (fun k => Txt.item (padT t len) k) len)))) := by
  rw [stT_congr T a (fun k => Txt.item (padT t len) k) (fun k => Txt.item (t ++ blank len) k) len X.same]
  have hlt : 3 < H.length := (List.getElem?_eq_some_iff.mp hi).1
  have hget : ∀ l : List PyData, (H.set 3 (some l))[3]? = some (some l) := fun l => by rw [List.getElem?_set_self hlt]
  have b1 : (a : Int) ≤ 4096 := by lia
  have t1 : t.length ≤ 4096 := by have := X.short; lia
  have t2 := X.bl
  have t3 := X.lay
  have h4 : (Str.ofString " ").length ≤ 16 := by decide
  rw [callN_succ]
  obtain ⟨hl, -, -, -, -, -, -, -⟩ := X
  generalize hw : t ++ blank len = w at *
  unfold blank at t2 hw
  rcases hl with rfl | rfl | rfl
  · have c0 : a < T.length := by lia
    have hw' : t ++ Txt.mul (Str.ofString " ") 1 = w := hw
    have t2' : (Txt.mul (Str.ofString " ") 1).length ≤ 4096 := t2
    have w0 : (0 : Int) < w.length := by lia
    have v0 : 0 < w.length := by lia
    simp [d_lawLay, h4, t1, t2', hw', t3.2, w0, v0, hi, b1, c0, stT, small, rng1, loopV, -List.append_eq]
  · have c0 : a < T.length := by lia
    have c1 : a + 1 < T.length := by lia
    have b2 : (a : Int) + 1 ≤ 4096 := by lia
    have b3 : (0 : Int) ≤ (a : Int) + 1 := by lia
    have b4 : ((a : Int) + 1).toNat = a + 1 := by lia
    have hw' : t ++ Txt.mul (Str.ofString " ") 2 = w := hw
    have t2' : (Txt.mul (Str.ofString " ") 2).length ≤ 4096 := t2
    have w0 : (0 : Int) < w.length := by lia
    have v0 : 0 < w.length := by lia
    have w1 : (1 : Int) < w.length := by lia
    have v1 : 1 < w.length := by lia
    simp [d_lawLay, h4, t1, t2', hw', t3.2, w0, v0, w1, v1, hi, hget, b1, c0, b2, b3, b4, c1, stT, small, rng2, loopV]
  · have c0 : a < T.length := by lia
    have c1 : a + 1 < T.length := by lia
    have b2 : (a : Int) + 1 ≤ 4096 := by lia
    have b3 : (0 : Int) ≤ (a : Int) + 1 := by lia
    have b4 : ((a : Int) + 1).toNat = a + 1 := by lia
    have c2 : a + 2 < T.length := by lia
    have b5 : (a : Int) + 2 ≤ 4096 := by lia
    have b6 : (0 : Int) ≤ (a : Int) + 2 := by lia
    have b7 : ((a : Int) + 2).toNat = a + 2 := by lia
    have hw' : t ++ Txt.mul (Str.ofString " ") 3 = w := hw
    have t2' : (Txt.mul (Str.ofString " ") 3).length ≤ 4096 := t2
    have w0 : (0 : Int) < w.length := by lia
    have v0 : 0 < w.length := by lia
    have w1 : (1 : Int) < w.length := by lia
    have v1 : 1 < w.length := by lia
    have w2 : (2 : Int) < w.length := by lia
    have v2 : 2 < w.length := by lia
    simp [d_lawLay, h4, t1, t2', hw', t3.2, w0, v0, w1, v1, w2, v2, hi, hget, b1, c0, b2, b3, b4, c1, b5, b6, b7, c2, stT, small, rng3, loopV]

/-- the deeds' texts -/
noncomputable def abc (m : Nat) : Str := Txt.slice (Str.ofString "ABCDE") .none (some (m : Int))
theorem abc_ok_1_1 : TxOk (abc 1) 1 := ⟨by decide +kernel, by decide +kernel, by decide +kernel, by decide +kernel, by decide +kernel, by decide +kernel, by decide +kernel, by
  intro k hk
  obtain rfl : k = 0 := by lia
  all_goals exact .inr ⟨_, rfl, by decide +kernel, by decide +kernel⟩⟩
theorem abc_ok_1_2 : TxOk (abc 1) 2 := ⟨by decide +kernel, by decide +kernel, by decide +kernel, by decide +kernel, by decide +kernel, by decide +kernel, by decide +kernel, by
  intro k hk
  obtain rfl | rfl : k = 0 ∨ k = 1 := by lia
  all_goals exact .inr ⟨_, rfl, by decide +kernel, by decide +kernel⟩⟩
theorem abc_ok_1_3 : TxOk (abc 1) 3 := ⟨by decide +kernel, by decide +kernel, by decide +kernel, by decide +kernel, by decide +kernel, by decide +kernel, by decide +kernel, by
  intro k hk
  obtain rfl | rfl | rfl : k = 0 ∨ k = 1 ∨ k = 2 := by lia
  all_goals exact .inr ⟨_, rfl, by decide +kernel, by decide +kernel⟩⟩
theorem abc_ok_2_1 : TxOk (abc 2) 1 := ⟨by decide +kernel, by decide +kernel, by decide +kernel, by decide +kernel, by decide +kernel, by decide +kernel, by decide +kernel, by
  intro k hk
  obtain rfl : k = 0 := by lia
  all_goals exact .inr ⟨_, rfl, by decide +kernel, by decide +kernel⟩⟩
theorem abc_ok_2_2 : TxOk (abc 2) 2 := ⟨by decide +kernel, by decide +kernel, by decide +kernel, by decide +kernel, by decide +kernel, by decide +kernel, by decide +kernel, by
  intro k hk
  obtain rfl | rfl : k = 0 ∨ k = 1 := by lia
  all_goals exact .inr ⟨_, rfl, by decide +kernel, by decide +kernel⟩⟩
theorem abc_ok_2_3 : TxOk (abc 2) 3 := ⟨by decide +kernel, by decide +kernel, by decide +kernel, by decide +kernel, by decide +kernel, by decide +kernel, by decide +kernel, by
  intro k hk
  obtain rfl | rfl | rfl : k = 0 ∨ k = 1 ∨ k = 2 := by lia
  all_goals exact .inr ⟨_, rfl, by decide +kernel, by decide +kernel⟩⟩
theorem abc_ok_3_1 : TxOk (abc 3) 1 := ⟨by decide +kernel, by decide +kernel, by decide +kernel, by decide +kernel, by decide +kernel, by decide +kernel, by decide +kernel, by
  intro k hk
  obtain rfl : k = 0 := by lia
  all_goals exact .inr ⟨_, rfl, by decide +kernel, by decide +kernel⟩⟩
theorem abc_ok_3_2 : TxOk (abc 3) 2 := ⟨by decide +kernel, by decide +kernel, by decide +kernel, by decide +kernel, by decide +kernel, by decide +kernel, by decide +kernel, by
  intro k hk
  obtain rfl | rfl : k = 0 ∨ k = 1 := by lia
  all_goals exact .inr ⟨_, rfl, by decide +kernel, by decide +kernel⟩⟩
theorem abc_ok_3_3 : TxOk (abc 3) 3 := ⟨by decide +kernel, by decide +kernel, by decide +kernel, by decide +kernel, by decide +kernel, by decide +kernel, by decide +kernel, by
  intro k hk
  obtain rfl | rfl | rfl : k = 0 ∨ k = 1 ∨ k = 2 := by lia
  all_goals exact .inr ⟨_, rfl, by decide +kernel, by decide +kernel⟩⟩
theorem abc_ok_4_1 : TxOk (abc 4) 1 := ⟨by decide +kernel, by decide +kernel, by decide +kernel, by decide +kernel, by decide +kernel, by decide +kernel, by decide +kernel, by
  intro k hk
  obtain rfl : k = 0 := by lia
  all_goals exact .inr ⟨_, rfl, by decide +kernel, by decide +kernel⟩⟩
theorem abc_ok_4_2 : TxOk (abc 4) 2 := ⟨by decide +kernel, by decide +kernel, by decide +kernel, by decide +kernel, by decide +kernel, by decide +kernel, by decide +kernel, by
  intro k hk
  obtain rfl | rfl : k = 0 ∨ k = 1 := by lia
  all_goals exact .inr ⟨_, rfl, by decide +kernel, by decide +kernel⟩⟩
theorem abc_ok_4_3 : TxOk (abc 4) 3 := ⟨by decide +kernel, by decide +kernel, by decide +kernel, by decide +kernel, by decide +kernel, by decide +kernel, by decide +kernel, by
  intro k hk
  obtain rfl | rfl | rfl : k = 0 ∨ k = 1 ∨ k = 2 := by lia
  all_goals exact .inr ⟨_, rfl, by decide +kernel, by decide +kernel⟩⟩
theorem abc_ok_5_1 : TxOk (abc 5) 1 := ⟨by decide +kernel, by decide +kernel, by decide +kernel, by decide +kernel, by decide +kernel, by decide +kernel, by decide +kernel, by
  intro k hk
  obtain rfl : k = 0 := by lia
  all_goals exact .inr ⟨_, rfl, by decide +kernel, by decide +kernel⟩⟩
theorem abc_ok_5_2 : TxOk (abc 5) 2 := ⟨by decide +kernel, by decide +kernel, by decide +kernel, by decide +kernel, by decide +kernel, by decide +kernel, by decide +kernel, by
  intro k hk
  obtain rfl | rfl : k = 0 ∨ k = 1 := by lia
  all_goals exact .inr ⟨_, rfl, by decide +kernel, by decide +kernel⟩⟩
theorem abc_ok_5_3 : TxOk (abc 5) 3 := ⟨by decide +kernel, by decide +kernel, by decide +kernel, by decide +kernel, by decide +kernel, by decide +kernel, by decide +kernel, by
  intro k hk
  obtain rfl | rfl | rfl : k = 0 ∨ k = 1 ∨ k = 2 := by lia
  all_goals exact .inr ⟨_, rfl, by decide +kernel, by decide +kernel⟩⟩
theorem abc_ok (m len : Nat) (hm : 1 ≤ m ∧ m ≤ 5) (hl : len = 1 ∨ len = 2 ∨ len = 3) : TxOk (abc m) len := by
  obtain ⟨h1, h2⟩ := hm
  obtain rfl | rfl | rfl | rfl | rfl : m = 1 ∨ m = 2 ∨ m = 3 ∨ m = 4 ∨ m = 5 := by lia
  · rcases hl with rfl | rfl | rfl
    · exact abc_ok_1_1
    · exact abc_ok_1_2
    · exact abc_ok_1_3
  · rcases hl with rfl | rfl | rfl
    · exact abc_ok_2_1
    · exact abc_ok_2_2
    · exact abc_ok_2_3
  · rcases hl with rfl | rfl | rfl
    · exact abc_ok_3_1
    · exact abc_ok_3_2
    · exact abc_ok_3_3
  · rcases hl with rfl | rfl | rfl
    · exact abc_ok_4_1
    · exact abc_ok_4_2
    · exact abc_ok_4_3
  · rcases hl with rfl | rfl | rfl
    · exact abc_ok_5_1
    · exact abc_ok_5_2
    · exact abc_ok_5_3
end Mine
end

section
set_option autoImplicit false
set_option maxRecDepth 100000
namespace Mine
open Ev

noncomputable def clr {α : Type} (l : List α) (a : Nat) (v : α) : Nat → List α
  | 0 => l
  | n + 1 => (clr l a v n).set (a + n) v
theorem clr_length {α : Type} (l : List α) (a : Nat) (v : α) (n : Nat) : (clr l a v n).length = l.length := by
  induction n with
  | zero => rfl
  | succ n ih => simp [clr, ih]
theorem clr_map {α β : Type} (f : α → β) (l : List α) (a : Nat) (v : α) (n : Nat) : (clr l a v n).map f = clr (l.map f) a (f v) n := by
  induction n with
  | zero => rfl
  | succ n ih => simp [clr, ih, List.map_set]
theorem clr_mem {α : Type} (l : List α) (a : Nat) (v : α) (n : Nat) {d : α} (h : d ∈ clr l a v n) : d ∈ l ∨ d = v := by
  induction n with
  | zero => exact .inl h
  | succ n ih =>
    rcases List.mem_or_eq_of_mem_set h with h | h
    · exact ih h
    · exact .inr h
theorem rngA1 (x : Int) : rngI x (x + 1) = [x] := by
  unfold rngI
  rw [show (x + 1 - x).toNat = 1 by lia]
  simp [List.range_succ]
theorem rngA2 (x : Int) : rngI x (x + 2) = [x, x + 1] := by
  unfold rngI
  rw [show (x + 2 - x).toNat = 2 by lia]
  simp [List.range_succ]
theorem rngA3 (x : Int) : rngI x (x + 3) = [x, x + 1, x + 2] := by
  unfold rngI
  rw [show (x + 3 - x).toNat = 3 by lia]
  simp [List.range_succ]

theorem undefineCells_true (n : Nat) (H : Hp) (ds : List PyData) (a k : Nat) (hi : H[1]? = some (some ds)) (hT : ds.length ≤ 2000) (hk : k = 1 ∨ k = 2 ∨ k = 3) (hs : a + k ≤ ds.length) :
    callN defs (n + 2) .undefineCells [.mem 0 1, .d (.bool true), .d (.int a), .d (.int (a + k))] H = some (.ok (.d .none) (H.set 1 (some (clr ds a .none k)))) := by
  have hlt : 1 < H.length := (List.getElem?_eq_some_iff.mp hi).1
  have hget : ∀ l : List PyData, (H.set 1 (some l))[1]? = some (some l) := fun l => by rw [List.getElem?_set_self hlt]
  have hN := needUnits_eq n H 1 ds a ((a : Int) + k - a) hi (by lia)
  rw [if_neg (by lia)] at hN
  have e : (a : Int) + k - a = k := by lia
  rw [e] at hN
  have b1 : (a : Int) ≤ 4096 := by lia
  have c0 : a < ds.length := by lia
  have s1 : small (a : Int) = true := by unfold small; exact decide_eq_true (by lia)
  rw [callN_succ]
  rcases hk with rfl | rfl | rfl
  · have hN' : callN defs (n + 1) .needUnits [.ml 1, .d (.int a), .d (.int 1)] H = _ := hN
    have s2 : small ((a : Int) + 1) = true := by unfold small; exact decide_eq_true (by lia)
    simp [d_undefineCells, hN', hi, hget, b1, c0, clr, s1, s2, rngA1, loopV, show (a : Int) + 1 - a = 1 by lia]
  · have hN' : callN defs (n + 1) .needUnits [.ml 1, .d (.int a), .d (.int 2)] H = _ := hN
    have s2 : small ((a : Int) + 2) = true := by unfold small; exact decide_eq_true (by lia)
    have p1 : (a : Int) + 1 ≤ 4096 := by lia
    have q1 : (0 : Int) ≤ (a : Int) + 1 := by lia
    have r1 : ((a : Int) + 1).toNat = a + 1 := by lia
    have c1 : a + 1 < ds.length := by lia
    simp [d_undefineCells, hN', hi, hget, b1, c0, p1, q1, r1, c1, clr, s1, s2, rngA2, loopV, show (a : Int) + 2 - a = 2 by lia]
  · have hN' : callN defs (n + 1) .needUnits [.ml 1, .d (.int a), .d (.int 3)] H = _ := hN
    have s2 : small ((a : Int) + 3) = true := by unfold small; exact decide_eq_true (by lia)
    have p1 : (a : Int) + 1 ≤ 4096 := by lia
    have q1 : (0 : Int) ≤ (a : Int) + 1 := by lia
    have r1 : ((a : Int) + 1).toNat = a + 1 := by lia
    have c1 : a + 1 < ds.length := by lia
    have p2 : (a : Int) + 2 ≤ 4096 := by lia
    have q2 : (0 : Int) ≤ (a : Int) + 2 := by lia
    have r2 : ((a : Int) + 2).toNat = a + 2 := by lia
    have c2 : a + 2 < ds.length := by lia
    simp [d_undefineCells, hN', hi, hget, b1, c0, p1, q1, r1, c1, p2, q2, r2, c2, clr, s1, s2, rngA3, loopV, show (a : Int) + 3 - a = 3 by lia]
theorem undefineCells_false (n : Nat) (H : Hp) (ds : List PyData) (a k : Nat) (hi : H[0]? = some (some ds)) (hT : ds.length ≤ 2000) (hk : k = 1 ∨ k = 2 ∨ k = 3) (hs : a + k ≤ ds.length) :
    callN defs (n + 2) .undefineCells [.mem 0 1, .d (.bool false), .d (.int a), .d (.int (a + k))] H = some (.ok (.d .none) (H.set 0 (some (clr ds a .none k)))) := by
  have hlt : 0 < H.length := (List.getElem?_eq_some_iff.mp hi).1
  have hget : ∀ l : List PyData, (H.set 0 (some l))[0]? = some (some l) := fun l => by rw [List.getElem?_set_self hlt]
  have hN := needUnits_eq n H 0 ds a ((a : Int) + k - a) hi (by lia)
  rw [if_neg (by lia)] at hN
  have e : (a : Int) + k - a = k := by lia
  rw [e] at hN
  have b1 : (a : Int) ≤ 4096 := by lia
  have c0 : a < ds.length := by lia
  have s1 : small (a : Int) = true := by unfold small; exact decide_eq_true (by lia)
  rw [callN_succ]
  rcases hk with rfl | rfl | rfl
  · have hN' : callN defs (n + 1) .needUnits [.ml 0, .d (.int a), .d (.int 1)] H = _ := hN
    have s2 : small ((a : Int) + 1) = true := by unfold small; exact decide_eq_true (by lia)
    simp [d_undefineCells, hN', hi, hget, b1, c0, clr, s1, s2, rngA1, loopV, show (a : Int) + 1 - a = 1 by lia]
  · have hN' : callN defs (n + 1) .needUnits [.ml 0, .d (.int a), .d (.int 2)] H = _ := hN
    have s2 : small ((a : Int) + 2) = true := by unfold small; exact decide_eq_true (by lia)
    have p1 : (a : Int) + 1 ≤ 4096 := by lia
    have q1 : (0 : Int) ≤ (a : Int) + 1 := by lia
    have r1 : ((a : Int) + 1).toNat = a + 1 := by lia
    have c1 : a + 1 < ds.length := by lia
    simp [d_undefineCells, hN', hi, hget, b1, c0, p1, q1, r1, c1, clr, s1, s2, rngA2, loopV, show (a : Int) + 2 - a = 2 by lia]
  · have hN' : callN defs (n + 1) .needUnits [.ml 0, .d (.int a), .d (.int 3)] H = _ := hN
    have s2 : small ((a : Int) + 3) = true := by unfold small; exact decide_eq_true (by lia)
    have p1 : (a : Int) + 1 ≤ 4096 := by lia
    have q1 : (0 : Int) ≤ (a : Int) + 1 := by lia
    have r1 : ((a : Int) + 1).toNat = a + 1 := by lia
    have c1 : a + 1 < ds.length := by lia
    have p2 : (a : Int) + 2 ≤ 4096 := by lia
    have q2 : (0 : Int) ≤ (a : Int) + 2 := by lia
    have r2 : ((a : Int) + 2).toNat = a + 2 := by lia
    have c2 : a + 2 < ds.length := by lia
    simp [d_undefineCells, hN', hi, hget, b1, c0, p1, q1, r1, c1, p2, q2, r2, c2, clr, s1, s2, rngA3, loopV, show (a : Int) + 3 - a = 3 by lia]
end Mine
end

section
set_option autoImplicit false
set_option maxRecDepth 100000
namespace Mine
open Ev

/-- units that one value takes -/
noncomputable def usz (kind : Int) (len : Nat) : Nat := if kind = 5 then len else cnt kind
theorem usz_cases (kind : Int) (len : Nat) (hl : len = 1 ∨ len = 2 ∨ len = 3) : usz kind len = 1 ∨ usz kind len = 2 ∨ usz kind len = 3 := by
  unfold usz cnt
  split
  · exact hl
  · split <;> simp
theorem unitSize_eq (n : Nat) (H : Hp) (kind : Int) (len : Nat) :
    callN defs (n + 2) .unitSize [.d (.int kind), .d (.int len)] H = some (.ok (.d (.int (usz kind len))) H) := by
  have hU := unitsOf_eq n kind H
  by_cases h5 : kind = 5
  · subst h5
    rw [callN_succ]
    simp [d_unitSize, usz]
  · rw [if_neg h5] at hU
    rw [callN_succ]
    unfold usz cnt
    rw [if_neg h5]
    by_cases h23 : kind = 2 ∨ kind = 3
    · rw [if_pos h23] at hU
      simp [d_unitSize, h5, hU, h23]
    · rw [if_neg h23] at hU
      simp [d_unitSize, h5, hU, h23]
theorem extent_nil (n : Nat) (H : Hp) : callN defs (n + 1) .extent [.d (.tuple [])] H = some (.ok (.d (.int 1)) H) := by
  simp [callN_succ, d_extent, seqItems, loopV]
theorem spanOf_eq (n : Nat) (H : Hp) (kind at_ : Int) (len : Nat) (hl : len ≤ 16) :
    callN defs (n + 3) .spanOf [.d (.tuple [.int kind, .int at_, .int len, .tuple []])] H = some (.ok (.d (.tuple [.bool (decide (kind = 5)), .int at_, .int (at_ + usz kind len)])) H) := by
  have h1 := unitSize_eq n H kind len
  have h2 := extent_nil (n + 1) H
  have hb : (usz kind len) ≤ big := by
    unfold usz cnt big
    split
    · lia
    · split <;> lia
  have hb1 : 1 ≤ big := by decide
  rw [callN_succ]
  simp [d_spanOf, tupItems, setAll, h1, h2, hb, hb1]
theorem undefine_txt (n : Nat) (H : Hp) (ds : List PyData) (a len : Nat) (hi : H[1]? = some (some ds)) (hT : ds.length ≤ 2000) (hl : len = 1 ∨ len = 2 ∨ len = 3) (hs : a + len ≤ ds.length) :
    callN defs (n + 4) .undefine [.mem 0 1, .d (.tuple [.int 5, .int a, .int len, .tuple []])] H = some (.ok (.d .none) (H.set 1 (some (clr ds a .none len)))) := by
  have h1 := spanOf_eq n H 5 a len (by lia)
  have h2 := undefineCells_true (n + 1) H ds a len hi hT hl hs
  have h3 : usz 5 len = len := by unfold usz; simp
  rw [h3] at h1
  have h1' : callN defs (n + 3) .spanOf [.d (.tuple [.int 5, .int a, .int len, .tuple []])] H = some (.ok (.d (.tuple [.bool true, .int a, .int (a + len)])) H) := h1
  rw [callN_succ]
  simp [d_undefine, tupItems, setAll, h1', h2]
theorem undefine_num (n : Nat) (H : Hp) (ds : List PyData) (kind : Int) (a len : Nat) (hk : kind ≠ 5) (hi : H[0]? = some (some ds)) (hT : ds.length ≤ 2000) (hl : len = 1 ∨ len = 2 ∨ len = 3) (hs : a + cnt kind ≤ ds.length) :
    callN defs (n + 4) .undefine [.mem 0 1, .d (.tuple [.int kind, .int a, .int len, .tuple []])] H = some (.ok (.d .none) (H.set 0 (some (clr ds a .none (cnt kind))))) := by
  have h1 := spanOf_eq n H kind a len (by lia)
  have h3 : usz kind len = cnt kind := by unfold usz; rw [if_neg hk]
  have h2 := undefineCells_false (n + 1) H ds a (cnt kind) hi hT (by rw [← h3]; exact usz_cases kind len hl) hs
  rw [h3, decide_eq_false hk] at h1
  rw [callN_succ]
  simp [d_undefine, tupItems, setAll, h1, h2]

theorem fresh_txt (n : Nat) (H : Hp) (ds : List PyData) (len : Nat) (hi : H[1]? = some (some ds)) (hT : ds.length ≤ 2000) (hl : len = 1 ∨ len = 2 ∨ len = 3) :
    callN defs (n + 3) .fresh [.mem 0 1, .d (.int 5), .d (.int len)] H = some (.ok (.d (.tuple [.int 5, .int ds.length, .int len, .tuple []])) (H.set 1 (some (ds ++ List.replicate len .none)))) := by
  have hlt : 1 < H.length := (List.getElem?_eq_some_iff.mp hi).1
  have hget : ∀ l : List PyData, (H.set 1 (some l))[1]? = some (some l) := fun l => by rw [List.getElem?_set_self hlt]
  have hU := unitSize_eq n H 5 len
  have hc := usz_cases 5 len hl
  have e : usz 5 len = len := by unfold usz; simp
  rw [e] at hU hc
  have c0 : ds.length ≤ 4096 := by lia
  have c1 : ds.length + 1 ≤ 4096 := by lia
  have c2 : ds.length + 1 + 1 ≤ 4096 := by lia
  have c3 : ds.length + 2 ≤ 4096 := by omega
  rw [callN_succ]
  clear hl e
  rcases hc with rfl | rfl | rfl
  · have hU' : callN defs (n + 2) .unitSize [.d (.int 5), .d (.int 1)] H = some (.ok (.d (.int 1)) H) := hU
    simp [d_fresh, hU', hi, hget, c0, c1, c2, c3, small, rng1, loopV, List.replicate]
  · have hU' : callN defs (n + 2) .unitSize [.d (.int 5), .d (.int 2)] H = some (.ok (.d (.int 2)) H) := hU
    simp [d_fresh, hU', hi, hget, c0, c1, c2, c3, small, rng2, loopV, List.replicate]
  · have hU' : callN defs (n + 2) .unitSize [.d (.int 5), .d (.int 3)] H = some (.ok (.d (.int 3)) H) := hU
    simp [d_fresh, hU', hi, hget, c0, c1, c2, c3, small, rng3, loopV, List.replicate]
theorem fresh_num (n : Nat) (H : Hp) (ds : List PyData) (kind : Int) (hk : kind ≠ 5) (len : Nat) (hi : H[0]? = some (some ds)) (hT : ds.length ≤ 2000) (hl : len = 1 ∨ len = 2 ∨ len = 3) :
    callN defs (n + 3) .fresh [.mem 0 1, .d (.int kind), .d (.int len)] H = some (.ok (.d (.tuple [.int kind, .int ds.length, .int len, .tuple []])) (H.set 0 (some (ds ++ List.replicate (cnt kind) .none)))) := by
  have hlt : 0 < H.length := (List.getElem?_eq_some_iff.mp hi).1
  have hget : ∀ l : List PyData, (H.set 0 (some l))[0]? = some (some l) := fun l => by rw [List.getElem?_set_self hlt]
  have hU := unitSize_eq n H kind len
  have hc := usz_cases kind len hl
  have e : usz kind len = (cnt kind) := by unfold usz; rw [if_neg hk]
  rw [e] at hU hc
  have c0 : ds.length ≤ 4096 := by lia
  have c1 : ds.length + 1 ≤ 4096 := by lia
  have c2 : ds.length + 1 + 1 ≤ 4096 := by lia
  have c3 : ds.length + 2 ≤ 4096 := by omega
  rw [callN_succ]
  clear hl e
  generalize cnt kind = u at *
  rcases hc with rfl | rfl | rfl
  · have hU' : callN defs (n + 2) .unitSize [.d (.int kind), .d (.int len)] H = some (.ok (.d (.int 1)) H) := hU
    simp [d_fresh, hU', hi, hget, c0, c1, c2, c3, small, rng1, loopV, List.replicate, hk]
  · have hU' : callN defs (n + 2) .unitSize [.d (.int kind), .d (.int len)] H = some (.ok (.d (.int 2)) H) := hU
    simp [d_fresh, hU', hi, hget, c0, c1, c2, c3, small, rng2, loopV, List.replicate, hk]
  · have hU' : callN defs (n + 2) .unitSize [.d (.int kind), .d (.int len)] H = some (.ok (.d (.int 3)) H) := hU
    simp [d_fresh, hU', hi, hget, c0, c1, c2, c3, small, rng3, loopV, List.replicate, hk]
end Mine
end

section
set_option autoImplicit false
set_option maxRecDepth 100000
namespace Mine
open Ev

theorem set_same {H : Hp} {i : Nat} {x : Option (List PyData)} (h : H[i]? = some x) : H.set i x = H := by
  apply List.ext_getElem?
  intro j
  rw [List.getElem?_set]
  split
  · subst_vars
    split
    · exact h.symm
    · have := (List.getElem?_eq_some_iff.mp h).1
      contradiction
  · rfl
theorem whileV_pop (c : Lo → Hp → Option (Rx Bool)) (f : Lo → Hp → Option RS) (lo : Lo) (i : Nat) (ds : List PyData)
    (hc : ∀ (H : Hp) (l : List PyData), H[i]? = some (some l) → l.length ≤ 2000 → c lo H = some (.ok (decide (ds.length < l.length)) H))
    (hf : ∀ (H : Hp) (l : List PyData), H[i]? = some (some l) → l ≠ [] → l.length ≤ 2000 → f lo H = some (.next lo (H.set i (some l.dropLast)))) :
    ∀ (k fuel : Nat) (H : Hp), k < fuel → H[i]? = some (some (ds ++ List.replicate k .none)) → ds.length + k ≤ 2000 → whileV c f fuel lo H = some (.next lo (H.set i (some ds))) := by
  intro k
  induction k with
  | zero =>
    intro fuel H hk hi hl
    obtain ⟨m, rfl⟩ : ∃ m, fuel = m + 1 := ⟨fuel - 1, by lia⟩
    rw [List.replicate_zero, List.append_nil] at hi
    rw [whileV, hc H ds hi (by omega), decide_eq_false (by lia), set_same hi]
  | succ k ih =>
    intro fuel H hk hi hl
    obtain ⟨m, rfl⟩ : ∃ m, fuel = m + 1 := ⟨fuel - 1, by lia⟩
    have hlt : i < H.length := (List.getElem?_eq_some_iff.mp hi).1
    rw [whileV, hc H _ hi (by simp; lia), decide_eq_true (by simp)]
    simp only []
    rw [hf H _ hi (by simp) (by simp; lia)]
    simp only []
    have e : (ds ++ List.replicate (k + 1) PyData.none).dropLast = ds ++ List.replicate k .none := by
      rw [List.replicate_succ', ← List.append_assoc, List.dropLast_concat]
    rw [e, ih m _ (by lia) (by rw [List.getElem?_set_self hlt]) (by lia), List.set_set]

theorem cut_eq (n : Nat) (H : Hp) (ds T : List PyData) (k k' : Nat) (h0 : H[0]? = some (some (ds ++ List.replicate k .none))) (h1 : H[1]? = some (some (T ++ List.replicate k' .none)))
    (hk : k ≤ 3 ∧ k' ≤ 3) (hd : ds.length ≤ 1900 ∧ T.length ≤ 1900) :
    callN defs (n + 1) .cutStorage [.mem 0 1, .d (.tuple [.int ds.length, .int T.length])] H = some (.ok (.d .none) ((H.set 0 (some ds)).set 1 (some T))) := by
  rw [callN_succ]
  have w0 := whileV_pop (fun lo H => evT (callN defs n) lo (.cmp .gt (.len (.numeric (.var 0))) (.sub (.var 1) (.int 0))) H) (fun lo H => evSs (callN defs n) [.pop (.numeric (.var 0))] lo H)
    [some (.mem 0 1), some (.d (.tuple [.int ds.length, .int T.length]))] 0 ds (fun H l hl hz => by
      have : l.length ≤ 4096 := by lia
      simp [hl, this]) (fun H l hl hz hy => by
      have : ¬4096 < l.length := by lia
      simp [hl, hz, this]) k 64 H (by lia) h0 (by lia)
  have hne : (H.set 0 (some ds))[1]? = some (some (T ++ List.replicate k' .none)) := by rw [List.getElem?_set_ne (by decide), h1]
  have w1 := whileV_pop (fun lo H => evT (callN defs n) lo (.cmp .gt (.len (.chars (.var 0))) (.sub (.var 1) (.int 1))) H) (fun lo H => evSs (callN defs n) [.pop (.chars (.var 0))] lo H)
    [some (.mem 0 1), some (.d (.tuple [.int ds.length, .int T.length]))] 1 T (fun H l hl hz => by
      have : l.length ≤ 4096 := by lia
      simp [hl, this]) (fun H l hl hz hy => by
      have : ¬4096 < l.length := by lia
      simp [hl, hz, this]) k' 64 (H.set 0 (some ds)) (by lia) hne (by lia)
  have hb : evSs (callN defs n) d_cutStorage.body [some (.mem 0 1), some (.d (.tuple [.int ds.length, .int T.length]))] H = some (.next [some (.mem 0 1), some (.d (.tuple [.int ds.length, .int T.length]))] ((H.set 0 (some ds)).set 1 (some T))) := by
    unfold d_cutStorage
    rw [evSs_cons, evS_whl, w0]
    simp only []
    rw [evSs_cons, evS_whl, w1]
    simp only []
    rw [evSs_nil]
  show (match evSs (callN defs n) d_cutStorage.body _ H with | some (.ret v H') => _ | some (.next _ H') => _ | some (.err _ t H') => _ | .none => _) = _
  rw [show initLo (defs .cutStorage) [.mem 0 1, .d (.tuple [.int ds.length, .int T.length])] = [some (.mem 0 1), some (.d (.tuple [.int ds.length, .int T.length]))] from rfl, hb]
theorem mark_eq (n : Nat) (H : Hp) (ds T : List PyData) (h0 : H[0]? = some (some ds)) (h1 : H[1]? = some (some T)) (hd : ds.length ≤ 2000 ∧ T.length ≤ 2000) :
    callN defs (n + 1) .markStorage [.mem 0 1] H = some (.ok (.d (.tuple [.int ds.length, .int T.length])) H) := by
  have c0 : ds.length ≤ 4096 := by lia
  have c1 : T.length ≤ 4096 := by lia
  simp [callN_succ, d_markStorage, h0, h1, c0, c1]
end Mine
end

section
set_option autoImplicit false
set_option maxRecDepth 100000
namespace Mine

noncomputable def UC.lone : UC → Prop
  | .no => True
  | .v _ _ k _ => k ≠ 2
theorem getset {α : Type} {L : List α} {a i : Nat} {c d : α} (h : (L.set a c)[i]? = some d) : (i = a ∧ d = c) ∨ (i ≠ a ∧ L[i]? = some d) := by
  rw [List.getElem?_set] at h
  split at h
  · rename_i e
    split at h
    · exact .inl ⟨e.symm, (Option.some.inj h).symm⟩
    · cases h
  · rename_i e
    exact .inr ⟨fun z => e z.symm, h⟩
theorem Inv.set {L : List UC} (I : Inv L) (a : Nat) (c : UC) (hg : c.good) (hl : c.lone) : Inv (L.set a c) where
  good := fun d hd => (List.mem_or_eq_of_mem_set hd).elim (I.good d) fun h => h ▸ hg
  pair := fun i s x s' x' h1 h2 => by
    rcases getset h1 with ⟨_, e⟩ | ⟨_, e⟩
    · subst e; exact absurd rfl hl
    · rcases getset h2 with ⟨_, e'⟩ | ⟨_, e'⟩
      · subst e'; exact absurd rfl hl
      · exact I.pair i s x s' x' e e'
theorem Inv.clr {L : List UC} (I : Inv L) (a n : Nat) : Inv (clr L a .no n) := by
  induction n with
  | zero => exact I
  | succ n ih => exact ih.set (a + n) .no trivial trivial
theorem Inv.append {L : List UC} (I : Inv L) (n : Nat) : Inv (L ++ List.replicate n .no) where
  good := fun d hd => (List.mem_append.mp hd).elim (I.good d) fun h => by rw [(List.mem_replicate.mp h).2]; trivial
  pair := fun i s x s' x' h1 h2 => by
    have key : ∀ (j : Nat) s h k x, (L ++ List.replicate n UC.no)[j]? = some (.v s h k x) → L[j]? = some (.v s h k x) := fun j s h k x e => by
      by_cases hj : j < L.length
      · rwa [List.getElem?_append_left hj] at e
      · rw [List.getElem?_append_right (by lia)] at e
        have := List.mem_of_getElem? e
        cases (List.mem_replicate.mp this).2
    exact I.pair i s x s' x' (key _ _ _ _ _ h1) (key _ _ _ _ _ h2)
theorem Inv.nil (n : Nat) : Inv (List.replicate n .no) where
  good := fun d hd => by rw [(List.mem_replicate.mp hd).2]; trivial
  pair := fun i s x s' x' h1 h2 => by
    have := List.mem_of_getElem? h1
    cases (List.mem_replicate.mp this).2
theorem Inv.dbl {L : List UC} (I : Inv L) (a : Nat) (s : Int) (x : PyData) (hx : vOk x) : Inv ((L.set a (.v s 0 2 x)).set (a + 1) (.v s 1 2 x)) where
  good := fun d hd => by
    rcases List.mem_or_eq_of_mem_set hd with h | rfl
    · rcases List.mem_or_eq_of_mem_set h with h | rfl
      · exact I.good d h
      · exact ⟨.inl ⟨rfl, .inr (.inr (.inl rfl))⟩, hx⟩
    · exact ⟨.inr ⟨rfl, rfl⟩, hx⟩
  pair := fun i s₁ x₁ s₂ x₂ h1 h2 => by
    rcases getset h1 with ⟨_, e⟩ | ⟨ne, e⟩
    · injection e with _ e2; exact absurd e2 (by decide)
    · rcases getset h2 with ⟨q, e'⟩ | ⟨ne', e'⟩
      · rcases getset e with ⟨_, f⟩ | ⟨nf, f⟩
        · injection e' with g1; injection f with g2; rw [g1, g2]
        · lia
      · rcases getset e' with ⟨_, f'⟩ | ⟨nf', f'⟩
        · injection f' with _ g2; exact absurd g2 (by decide)
        · rcases getset e with ⟨q', f⟩ | ⟨nf, f⟩
          · lia
          · exact I.pair i s₁ x₁ s₂ x₂ f f'
theorem Inv.stN {L : List UC} (I : Inv L) (s kind : Int) (a : Nat) (x : PyData) (hk : kind = 0 ∨ kind = 1 ∨ kind = 2 ∨ kind = 4 ∨ (kind = 3 ∧ ∃ p q, x = .tuple [p, q] ∧ vOk p ∧ vOk q)) (hx : vOk x) : Inv (stN L s kind a x) := by
  rcases hk with rfl | rfl | rfl | rfl | ⟨rfl, p, q, rfl, hp, hq⟩
  · exact I.set a (.v s 0 0 x) ⟨.inl ⟨rfl, by decide⟩, hx⟩ (by simp [UC.lone])
  · exact I.set a (.v s 0 1 x) ⟨.inl ⟨rfl, by decide⟩, hx⟩ (by simp [UC.lone])
  · exact I.dbl a s x hx
  · exact I.set a (.v s 0 4 x) ⟨.inl ⟨rfl, by decide⟩, hx⟩ (by simp [UC.lone])
  · exact (I.set a (.v s 0 1 p) ⟨.inl ⟨rfl, by decide⟩, hp⟩ (by simp [UC.lone])).set (a + 1) (.v s 0 1 q) ⟨.inl ⟨rfl, by decide⟩, hq⟩ (by simp [UC.lone])
theorem stN_length (L : List UC) (s kind : Int) (a : Nat) (x : PyData) : (stN L s kind a x).length = L.length := by
  unfold Mine.stN
  split
  · split <;> simp
  · split <;> simp
end Mine
end

section
set_option autoImplicit false
set_option maxRecDepth 100000
namespace Mine
open Ev

theorem fm_pos (a b : Int) (h : 0 < b) : 0 ≤ Int.fmod a b ∧ Int.fmod a b < b := ⟨Int.fmod_nonneg_of_pos a h, Int.fmod_lt_of_pos a h⟩

noncomputable def dVals : List PyData := [.int 7, .tuple [.int 5, .int (-1)], .tuple [.int 25, .int 2], .tuple [.tuple [.int 1, .int 0], .tuple [.int 5, .int (-1)]], .bool true, .str (Str.ofString "AB")]
theorem lawValues_eq (n : Nat) (H : Hp) : callN defs (n + 1) .lawValues [] H = some (.ok (.d (.list dVals)) H) := by
  rw [callN_succ]
  simp [callN_succ, d_lawValues, dVals]
noncomputable def kLen (c : Int) : Nat := (1 + Int.fmod (Int.fdiv c 24) 3).toNat
theorem n_cast {q : Int} (h : 0 ≤ q) : 1 + q = ((1 + q).toNat : Int) := by omega
theorem n_three {q : Int} (h : 0 ≤ q ∧ q < 3) : (1 + q).toNat = 1 ∨ (1 + q).toNat = 2 ∨ (1 + q).toNat = 3 := by omega
theorem kLen_cases (c : Int) : kLen c = 1 ∨ kLen c = 2 ∨ kLen c = 3 := by
  exact n_three (fm_pos (Int.fdiv c 24) 3 (by decide))
theorem kLen_int (c : Int) : 1 + Int.fmod (Int.fdiv c 24) 3 = (kLen c : Int) := by
  exact n_cast (fm_pos (Int.fdiv c 24) 3 (by decide)).1
noncomputable def kM (z : Int) : Nat := (1 + Int.fmod (Int.fdiv z 11) 5).toNat
theorem kM_le (z : Int) : 1 ≤ kM z ∧ kM z ≤ 5 := by
  have := fm_pos (Int.fdiv z 11) 5 (by decide)
  unfold kM
  omega
theorem kM_int (z : Int) : 1 + Int.fmod (Int.fdiv z 11) 5 = (kM z : Int) := by
  have := fm_pos (Int.fdiv z 11) 5 (by decide)
  unfold kM
  omega
noncomputable def dVal (k z : Int) : PyData := if k = 0 then .int z else if k = 5 then .str (abc (kM z)) else (dVals[k.toNat]?).getD .none
noncomputable def dLo (k c z s : Int) (at_ : Int) : Lo := [some (.mem 0 1), some (.ml 2), some (.ml 3), some (.d (.int c)), some (.d (.int z)), some (.d (.int s)), some (.d (.int k)), some (.d (.int (kLen c))), some (.d (.int at_)), some (.d (dVal k z)), some (.ml (if k = 5 then 3 else 2)), some (.d (.int (usz k (kLen c)))), .none, .none, .none, .none]
theorem deed_pre_0 (n : Nat) (H : Hp) (c z s : Int) (hk : Int.fmod (Int.fdiv c 4) 6 = 0) :
    evSs (callN defs (n + 1)) (d_lawDeed.body.take 7) [some (.mem 0 1), some (.ml 2), some (.ml 3), some (.d (.int c)), some (.d (.int z)), some (.d (.int s)), .none, .none, .none, .none, .none, .none, .none, .none, .none, .none] H
      = some (.next (dLo 0 c z s (Int.fmod z 11 - 1)) H) := by
  have hv := lawValues_eq n H
  have hl := kLen_int c
  have hm := kM_int z
  have hm1 : (kM z : Int) ≤ 4096 := by have := kM_le z; omega
  have h5 : (Str.ofString "ABCDE").length ≤ 4096 := by decide
  simp [d_lawDeed, hv, hl, hm, hm1, hk, h5, big, uptoD, dVals, dLo, dVal, usz, cnt, abc, List.any, List.all]
theorem deed_pre_1 (n : Nat) (H : Hp) (c z s : Int) (hk : Int.fmod (Int.fdiv c 4) 6 = 1) :
    evSs (callN defs (n + 1)) (d_lawDeed.body.take 7) [some (.mem 0 1), some (.ml 2), some (.ml 3), some (.d (.int c)), some (.d (.int z)), some (.d (.int s)), .none, .none, .none, .none, .none, .none, .none, .none, .none, .none] H
      = some (.next (dLo 1 c z s (Int.fmod z 11 - 1)) H) := by
  have hv := lawValues_eq n H
  have hl := kLen_int c
  have hm := kM_int z
  have hm1 : (kM z : Int) ≤ 4096 := by have := kM_le z; omega
  have h5 : (Str.ofString "ABCDE").length ≤ 4096 := by decide
  simp [d_lawDeed, hv, hl, hm, hm1, hk, h5, big, uptoD, dVals, dLo, dVal, usz, cnt, abc, List.any, List.all]
theorem deed_pre_2 (n : Nat) (H : Hp) (c z s : Int) (hk : Int.fmod (Int.fdiv c 4) 6 = 2) :
    evSs (callN defs (n + 1)) (d_lawDeed.body.take 7) [some (.mem 0 1), some (.ml 2), some (.ml 3), some (.d (.int c)), some (.d (.int z)), some (.d (.int s)), .none, .none, .none, .none, .none, .none, .none, .none, .none, .none] H
      = some (.next (dLo 2 c z s (Int.fmod z 11 - 1)) H) := by
  have hv := lawValues_eq n H
  have hl := kLen_int c
  have hm := kM_int z
  have hm1 : (kM z : Int) ≤ 4096 := by have := kM_le z; omega
  have h5 : (Str.ofString "ABCDE").length ≤ 4096 := by decide
  simp [d_lawDeed, hv, hl, hm, hm1, hk, h5, big, uptoD, dVals, dLo, dVal, usz, cnt, abc, List.any, List.all]
theorem deed_pre_3 (n : Nat) (H : Hp) (c z s : Int) (hk : Int.fmod (Int.fdiv c 4) 6 = 3) :
    evSs (callN defs (n + 1)) (d_lawDeed.body.take 7) [some (.mem 0 1), some (.ml 2), some (.ml 3), some (.d (.int c)), some (.d (.int z)), some (.d (.int s)), .none, .none, .none, .none, .none, .none, .none, .none, .none, .none] H
      = some (.next (dLo 3 c z s (Int.fmod z 11 - 1)) H) := by
  have hv := lawValues_eq n H
  have hl := kLen_int c
  have hm := kM_int z
  have hm1 : (kM z : Int) ≤ 4096 := by have := kM_le z; omega
  have h5 : (Str.ofString "ABCDE").length ≤ 4096 := by decide
  simp [d_lawDeed, hv, hl, hm, hm1, hk, h5, big, uptoD, dVals, dLo, dVal, usz, cnt, abc, List.any, List.all]
theorem deed_pre_4 (n : Nat) (H : Hp) (c z s : Int) (hk : Int.fmod (Int.fdiv c 4) 6 = 4) :
    evSs (callN defs (n + 1)) (d_lawDeed.body.take 7) [some (.mem 0 1), some (.ml 2), some (.ml 3), some (.d (.int c)), some (.d (.int z)), some (.d (.int s)), .none, .none, .none, .none, .none, .none, .none, .none, .none, .none] H
      = some (.next (dLo 4 c z s (Int.fmod z 11 - 1)) H) := by
  have hv := lawValues_eq n H
  have hl := kLen_int c
  have hm := kM_int z
  have hm1 : (kM z : Int) ≤ 4096 := by have := kM_le z; omega
  have h5 : (Str.ofString "ABCDE").length ≤ 4096 := by decide
  simp [d_lawDeed, hv, hl, hm, hm1, hk, h5, big, uptoD, dVals, dLo, dVal, usz, cnt, abc, List.any, List.all]
theorem deed_pre_5 (n : Nat) (H : Hp) (c z s : Int) (hk : Int.fmod (Int.fdiv c 4) 6 = 5) :
    evSs (callN defs (n + 1)) (d_lawDeed.body.take 7) [some (.mem 0 1), some (.ml 2), some (.ml 3), some (.d (.int c)), some (.d (.int z)), some (.d (.int s)), .none, .none, .none, .none, .none, .none, .none, .none, .none, .none] H
      = some (.next (dLo 5 c z s (Int.fmod z 11 - 1)) H) := by
  have hv := lawValues_eq n H
  have hl := kLen_int c
  have hm := kM_int z
  have hm1 : (kM z : Int) ≤ 4096 := by have := kM_le z; omega
  have h5 : (Str.ofString "ABCDE").length ≤ 4096 := by decide
  simp [d_lawDeed, hv, hl, hm, hm1, hk, h5, big, uptoD, dVals, dLo, dVal, usz, cnt, abc, List.any, List.all]
end Mine
end

section
set_option autoImplicit false
set_option maxRecDepth 100000
namespace Mine
open Ev

noncomputable def hp (L : List UC) (T : List PyData) : Hp := [some (L.map UC.toM), some T, some (L.map UC.toU), some T]
theorem okSS : okD (.str (Str.ofString "stored")) = true := by decide +kernel
theorem okGG : okD (.str (Str.ofString "storage")) = true := by decide +kernel
theorem eqSS : eqD (.str (Str.ofString "stored")) (.str (Str.ofString "stored")) = true := by decide +kernel
theorem eqGG : eqD (.str (Str.ofString "storage")) (.str (Str.ofString "storage")) = true := by decide +kernel
noncomputable def kOk (k : Int) (x : PyData) : Prop := k = 0 ∨ k = 1 ∨ k = 2 ∨ k = 4 ∨ (k = 3 ∧ ∃ p q, x = .tuple [p, q])
/-- the deed's end: a store -/
theorem deed_store_num (n : Nat) (L : List UC) (T : List PyData) (c z s k at_ len : Int) (x : PyData) (p q : Option DV) (hL : L.length ≤ 2000) (hk : kOk k x) :
    evSs (callN defs (n + 4)) (d_lawDeed.body.drop 9) [some (.mem 0 1), some (.ml 2), some (.ml 3), some (.d (.int c)), some (.d (.int z)), some (.d (.int s)), some (.d (.int k)), some (.d (.int len)), some (.d (.int at_)), some (.d x), some (.ml 2), some (.d (.int (cnt k))), .none, p, q, .none] (hp L T)
      = some (.ret (.d (.bool true)) (hp (if at_ < 0 ∨ (L.length : Int) < at_ + cnt k then L else stN L s k at_.toNat x) T)) := by
  have hL' : L.length ≤ 4096 := by lia
  have hk4 : 0 ≤ k ∧ k < 5 := by unfold kOk at hk; lia
  by_cases hs : at_ < 0 ∨ (L.length : Int) < at_ + cnt k
  · rw [if_pos hs]
    have h1 := lawStore_num_fail n (hp L T) L k at_ len x rfl hL hk4 hs
    simp only [hp] at h1 ⊢
    by_cases h0 : at_ < 0
    · simp [d_lawDeed, hL', h0, h1, okGG, eqGG]
    · have h0' : (L.length : Int) < at_ + cnt k := by lia
      simp [d_lawDeed, hL', h0, h0', h1, okGG, eqGG]
  · rw [if_neg hs]
    obtain ⟨a, rfl⟩ : ∃ a : Nat, at_ = (a : Int) := ⟨at_.toNat, by lia⟩
    have hsa : a + cnt k ≤ L.length := by lia
    have h1 := lawLay_num (n + 3) (hp L T) L s k len a x rfl hL hk hsa
    have h2 := lawStore_num_ok n ((hp L T).set 2 (some ((stN L s k a x).map UC.toU))) L s k len a x rfl hL hk hsa
    have h0 : ¬((a : Int) < 0) := by lia
    have h0' : ¬((L.length : Int) < (a : Int) + cnt k) := by lia
    simp only [hp, List.set] at h1 h2 ⊢
    simp [d_lawDeed, hL', h0, h0', h1, h2, okSS, eqSS]
theorem deed_store_txt (n : Nat) (L : List UC) (T : List PyData) (c z s at_ : Int) (len : Nat) (t : Str) (p q : Option DV) (hT : T.length ≤ 2000) (X : TxOk t len) :
    evSs (callN defs (n + 4)) (d_lawDeed.body.drop 9) [some (.mem 0 1), some (.ml 2), some (.ml 3), some (.d (.int c)), some (.d (.int z)), some (.d (.int s)), some (.d (.int 5)), some (.d (.int len)), some (.d (.int at_)), some (.d (.str t)), some (.ml 3), some (.d (.int len)), .none, p, q, .none] (hp L T)
      = some (.ret (.d (.bool true)) (hp L (if at_ < 0 ∨ (T.length : Int) < at_ + len then T else stT T at_.toNat (fun k => Txt.item (padT t len) k) len))) := by
  have hL' : T.length ≤ 4096 := by lia
  by_cases hs : at_ < 0 ∨ (T.length : Int) < at_ + len
  · rw [if_pos hs]
    have h1 := lawStore_txt_fail n (hp L T) T at_ t len X rfl hT hs
    simp only [hp] at h1 ⊢
    by_cases h0 : at_ < 0
    · simp [d_lawDeed, hL', h0, h1, okGG, eqGG]
    · have h0' : (T.length : Int) < at_ + len := by lia
      simp [d_lawDeed, hL', h0, h0', h1, okGG, eqGG]
  · rw [if_neg hs]
    obtain ⟨a, rfl⟩ : ∃ a : Nat, at_ = (a : Int) := ⟨at_.toNat, by lia⟩
    have hsa : a + len ≤ T.length := by lia
    have h1 := lawLay_txt (n + 3) (hp L T) T s a t len X rfl hT hsa
    have h2 := lawStore_txt_ok n ((hp L T).set 3 (some (stT T a (fun k => Txt.item (padT t len) k) len))) T a t len X rfl hT hsa
    have h0 : ¬((a : Int) < 0) := by lia
    have h0' : ¬((T.length : Int) < (a : Int) + len) := by lia
    simp only [hp, List.set] at h1 h2 ⊢
    simp [d_lawDeed, hL', h0, h0', h1, h2, okSS, eqSS]
end Mine
end

section
set_option autoImplicit false
set_option maxRecDepth 100000
namespace Mine
open Ev

theorem deed_clear_num (n : Nat) (L : List UC) (T : List PyData) (c z s at_ : Int) (len : Nat) (x : PyData) (k : Int) (hk : k ≠ 5) (h2 : Int.fmod c 4 = 2) (hL : L.length ≤ 2000) (hT : T.length ≤ 2000) (hl : len = 1 ∨ len = 2 ∨ len = 3) :
    evSs (callN defs (n + 5)) (d_lawDeed.body.drop 7) [some (.mem 0 1), some (.ml 2), some (.ml 3), some (.d (.int c)), some (.d (.int z)), some (.d (.int s)), some (.d (.int k)), some (.d (.int len)), some (.d (.int at_)), some (.d x), some (.ml 2), some (.d (.int ((cnt k) : Nat))), .none, .none, .none, .none] (hp L T)
      = some (.ret (.d (.bool true)) (hp (if 0 ≤ at_ ∧ at_ + (cnt k) ≤ L.length then clr L at_.toNat .no (cnt k) else L) T)) := by
  have hL' : L.length ≤ 4096 := by lia
  by_cases g0 : 0 ≤ at_
  · by_cases g1 : at_ + ((cnt k) : Nat) ≤ L.length
    · rw [if_pos ⟨g0, g1⟩]
      obtain ⟨a, rfl⟩ : ∃ a : Nat, at_ = (a : Int) := ⟨at_.toNat, by lia⟩
      have ha : ((a : Int)).toNat = a := rfl
      rw [ha]
      have hc := usz_cases k len hl
      rw [show usz k len = cnt k by unfold usz; rw [if_neg hk]] at hc
      have hu := undefine_num (n + 1) (hp L T) (L.map UC.toM) k a len hk rfl (by simp; lia) hl (by simp; lia)
      have e1 : clr (L.map UC.toM) a .none (cnt k) = (clr L a .no (cnt k)).map UC.toM := (clr_map UC.toM L a .no (cnt k)).symm
      have e2 : (clr L a .no (cnt k)).map UC.toU = clr (L.map UC.toU) a .none (cnt k) := clr_map UC.toU L a .no (cnt k)
      rw [e1] at hu
      simp only [hp, List.set] at hu ⊢
      rw [e2]
      clear e1 e2
      obtain ⟨ds, hds⟩ : ∃ ds, ds = L.map UC.toU := ⟨_, rfl⟩
      have hdl : ds.length = L.length := by rw [hds]; simp
      rw [← hds] at hu ⊢
      generalize (clr L a .no (cnt k)).map UC.toM = M' at *
      generalize cnt k = u at *
      rw [← hdl] at g1 hL'
      have b1 : (a : Int) ≤ 4096 := by lia
      have c0 : a < ds.length := by lia
      have s1 : small (a : Int) = true := by unfold small; exact decide_eq_true (by lia)
      rcases hc with rfl | rfl | rfl
      · have s2 : small ((a : Int) + 1) = true := by unfold small; exact decide_eq_true (by lia)
        have g1' : (a : Int) + 1 ≤ ds.length := g1
        simp [d_lawDeed, h2, g1', hL', hu, b1, c0, clr, s1, s2, rngA1, loopV]
      · have s2 : small ((a : Int) + 2) = true := by unfold small; exact decide_eq_true (by lia)
        have g1' : (a : Int) + 2 ≤ ds.length := g1
        have p1 : (a : Int) + 1 ≤ 4096 := by lia
        have q1 : (0 : Int) ≤ (a : Int) + 1 := by lia
        have r1 : ((a : Int) + 1).toNat = a + 1 := by lia
        have c1 : a + 1 < ds.length := by lia
        simp [d_lawDeed, h2, g1', hL', hu, b1, c0, p1, q1, r1, c1, clr, s1, s2, rngA2, loopV]
      · have s2 : small ((a : Int) + 3) = true := by unfold small; exact decide_eq_true (by lia)
        have g1' : (a : Int) + 3 ≤ ds.length := g1
        have p1 : (a : Int) + 1 ≤ 4096 := by lia
        have q1 : (0 : Int) ≤ (a : Int) + 1 := by lia
        have r1 : ((a : Int) + 1).toNat = a + 1 := by lia
        have c1 : a + 1 < ds.length := by lia
        have p2 : (a : Int) + 2 ≤ 4096 := by lia
        have q2 : (0 : Int) ≤ (a : Int) + 2 := by lia
        have r2 : ((a : Int) + 2).toNat = a + 2 := by lia
        have c2 : a + 2 < ds.length := by lia
        simp [d_lawDeed, h2, g1', hL', hu, b1, c0, p1, q1, r1, c1, p2, q2, r2, c2, clr, s1, s2, rngA3, loopV]
    · rw [if_neg (fun h => g1 h.2)]
      simp only [hp]
      simp [d_lawDeed, h2, g0, g1, hL']
  · rw [if_neg (fun h => g0 h.1)]
    simp only [hp]
    simp [d_lawDeed, h2, g0, hL']
theorem deed_clear_txt (n : Nat) (L : List UC) (T : List PyData) (c z s at_ : Int) (len : Nat) (x : PyData) (h2 : Int.fmod c 4 = 2) (hL : L.length ≤ 2000) (hT : T.length ≤ 2000) (hl : len = 1 ∨ len = 2 ∨ len = 3) :
    evSs (callN defs (n + 5)) (d_lawDeed.body.drop 7) [some (.mem 0 1), some (.ml 2), some (.ml 3), some (.d (.int c)), some (.d (.int z)), some (.d (.int s)), some (.d (.int 5)), some (.d (.int len)), some (.d (.int at_)), some (.d x), some (.ml 3), some (.d (.int (len : Nat))), .none, .none, .none, .none] (hp L T)
      = some (.ret (.d (.bool true)) (hp L (if 0 ≤ at_ ∧ at_ + len ≤ T.length then clr T at_.toNat .none len else T))) := by
  have hL' : T.length ≤ 4096 := by lia
  by_cases g0 : 0 ≤ at_
  · by_cases g1 : at_ + (len : Nat) ≤ T.length
    · rw [if_pos ⟨g0, g1⟩]
      obtain ⟨a, rfl⟩ : ∃ a : Nat, at_ = (a : Int) := ⟨at_.toNat, by lia⟩
      have ha : ((a : Int)).toNat = a := rfl
      rw [ha]
      have hc := hl
      have hu := undefine_txt (n + 1) (hp L T) T a len rfl hT hl (by lia)
      simp only [hp, List.set] at hu ⊢
      generalize hM : clr T a .none len = T' at *
      have b1 : (a : Int) ≤ 4096 := by lia
      have c0 : a < T.length := by lia
      have s1 : small (a : Int) = true := by unfold small; exact decide_eq_true (by lia)
      rcases hc with rfl | rfl | rfl
      · have s2 : small ((a : Int) + 1) = true := by unfold small; exact decide_eq_true (by lia)
        have g1' : (a : Int) + 1 ≤ T.length := g1
        simp only [clr] at hM
        have hu' : callN defs (n + 5) .undefine [.mem 0 1, .d (.tuple [.int 5, .int a, .int 1, .tuple []])] _ = _ := hu
        simp [d_lawDeed, h2, g1', hL', hu', b1, c0, clr, s1, s2, rngA1, loopV]
        exact hM
      · have s2 : small ((a : Int) + 2) = true := by unfold small; exact decide_eq_true (by lia)
        have g1' : (a : Int) + 2 ≤ T.length := g1
        simp only [clr] at hM
        have hu' : callN defs (n + 5) .undefine [.mem 0 1, .d (.tuple [.int 5, .int a, .int 2, .tuple []])] _ = _ := hu
        have p1 : (a : Int) + 1 ≤ 4096 := by lia
        have q1 : (0 : Int) ≤ (a : Int) + 1 := by lia
        have r1 : ((a : Int) + 1).toNat = a + 1 := by lia
        have c1 : a + 1 < T.length := by lia
        simp [d_lawDeed, h2, g1', hL', hu', b1, c0, p1, q1, r1, c1, clr, s1, s2, rngA2, loopV]
        exact hM
      · have s2 : small ((a : Int) + 3) = true := by unfold small; exact decide_eq_true (by lia)
        have g1' : (a : Int) + 3 ≤ T.length := g1
        simp only [clr] at hM
        have hu' : callN defs (n + 5) .undefine [.mem 0 1, .d (.tuple [.int 5, .int a, .int 3, .tuple []])] _ = _ := hu
        have p1 : (a : Int) + 1 ≤ 4096 := by lia
        have q1 : (0 : Int) ≤ (a : Int) + 1 := by lia
        have r1 : ((a : Int) + 1).toNat = a + 1 := by lia
        have c1 : a + 1 < T.length := by lia
        have p2 : (a : Int) + 2 ≤ 4096 := by lia
        have q2 : (0 : Int) ≤ (a : Int) + 2 := by lia
        have r2 : ((a : Int) + 2).toNat = a + 2 := by lia
        have c2 : a + 2 < T.length := by lia
        simp [d_lawDeed, h2, g1', hL', hu', b1, c0, p1, q1, r1, c1, p2, q2, r2, c2, clr, s1, s2, rngA3, loopV]
        exact hM
    · rw [if_neg (fun h => g1 h.2)]
      simp only [hp]
      simp [d_lawDeed, h2, g0, g1, hL']
  · rw [if_neg (fun h => g0 h.1)]
    simp only [hp]
    simp [d_lawDeed, h2, g0, hL']
end Mine
end

section
set_option autoImplicit false
set_option maxRecDepth 100000
namespace Mine
open Ev

theorem okD_tup4 (a b c : Int) : okD (.tuple [.int a, .int b, .int c, .tuple []]) = true := rfl
theorem eqD_tup4 (a b c d e f : Int) : eqD (.tuple [.int a, .int b, .int c, .tuple []]) (.tuple [.int d, .int e, .int f, .tuple []]) = (decide (a = d) && (decide (b = e) && decide (c = f))) := by
  show ((a == d) && ((b == e) && ((c == f) && (true && true)))) = _
  rw [Bool.and_true, Bool.and_true]
  have key : ∀ x y : Int, (x == y) = decide (x = y) := fun x y => by
    by_cases h : x = y <;> simp [h]
  rw [key, key, key]
theorem flat_rep (n : Nat) : (List.replicate n [PyData.none]).flatten = List.replicate n .none := by
  induction n with
  | zero => rfl
  | succ n ih => rw [List.replicate_succ, List.flatten_cons, ih]; rfl
/-- what the fresh place has laid into the row of slots -/
noncomputable def fLo (k c z s at_ : Int) (len : Nat) (x : PyData) (i u : Nat) (l0 l1 l : Nat) : Lo := [some (.mem 0 1), some (.ml 2), some (.ml 3), some (.d (.int c)), some (.d (.int z)), some (.d (.int s)), some (.d (.int k)), some (.d (.int len)), some (.d (.int at_)), some (.d x), some (.ml i), some (.d (.int u)), .none, some (.d (.tuple [.int l0, .int l1])), some (.d (.tuple [.int k, .int l, .int len, .tuple []])), .none]
theorem deed_fresh_num (n : Nat) (L : List UC) (T : List PyData) (c z s at_ : Int) (len : Nat) (x : PyData) (k : Int) (hk : k ≠ 5) (h3 : Int.fmod c 4 = 3) (hL : L.length ≤ 1900) (hT : T.length ≤ 1900) (hl : len = 1 ∨ len = 2 ∨ len = 3) :
    evSs (callN defs (n + 5)) ((d_lawDeed.body.drop 7).take 2) [some (.mem 0 1), some (.ml 2), some (.ml 3), some (.d (.int c)), some (.d (.int z)), some (.d (.int s)), some (.d (.int k)), some (.d (.int len)), some (.d (.int at_)), some (.d x), some (.ml 2), some (.d (.int ((cnt k) : Nat))), .none, .none, .none, .none] (hp L T)
      = if Int.fmod z 2 = 0 then some (.ret (.d (.bool true)) (hp L T)) else some (.next (fLo k c z s L.length len x 2 (cnt k) L.length T.length L.length) (hp (L ++ List.replicate (cnt k) .no) T)) := by
  have hc := usz_cases k len hl
  rw [show usz k len = cnt k by unfold usz; rw [if_neg hk]] at hc
  have hf := fresh_num (n + 2) (hp L T) (L.map UC.toM) k hk len rfl (by simp; lia) hl
  have hm := mark_eq (n + 4) (hp L T) (L.map UC.toM) T rfl rfl (by simp; lia)
  have hu := cut_eq (n + 4) ((hp L T).set 0 (some (L.map UC.toM ++ List.replicate (cnt k) .none))) (L.map UC.toM) T (cnt k) 0 rfl (by simp [hp]) (by lia) (by simp; lia)
  have e1 : (L ++ List.replicate (cnt k) UC.no).map UC.toM = L.map UC.toM ++ List.replicate (cnt k) .none := by simp [UC.toM]
  have e2 : (L ++ List.replicate (cnt k) UC.no).map UC.toU = L.map UC.toU ++ List.replicate (cnt k) .none := by simp [UC.toU]
  simp only [hp, List.set, fLo, e1, e2, List.length_map] at hf hm hu ⊢
  clear e1 e2
  generalize cnt k = u at *
  have b0 : L.length ≤ 4096 := by lia
  have b1 : L.length + u ≤ 4096 := by lia
  have b2 : u ≤ 256 := by lia
  have b3 : (-4096 : Int) ≤ (u : Int) ∧ (u : Int) ≤ 4096 := by lia
  have b4 : u ≤ 4096 := by lia
  have b5 : ((L.length : Int) + (u : Int)) - u = L.length := by lia
  by_cases hz : Int.fmod z 2 = 0
  · rw [if_pos hz]
    simp [d_lawDeed, h3, hz, hf, hm, hu, b0, okD_tup4, eqD_tup4]
  · rw [if_neg hz]
    simp [d_lawDeed, h3, hz, hf, hm, b0, b1, b2, b3, b4, b5, okD_tup4, eqD_tup4, flat_rep]
theorem deed_fresh_txt (n : Nat) (L : List UC) (T : List PyData) (c z s at_ : Int) (len : Nat) (x : PyData) (h3 : Int.fmod c 4 = 3) (hL : L.length ≤ 1900) (hT : T.length ≤ 1900) (hl : len = 1 ∨ len = 2 ∨ len = 3) :
    evSs (callN defs (n + 5)) ((d_lawDeed.body.drop 7).take 2) [some (.mem 0 1), some (.ml 2), some (.ml 3), some (.d (.int c)), some (.d (.int z)), some (.d (.int s)), some (.d (.int 5)), some (.d (.int len)), some (.d (.int at_)), some (.d x), some (.ml 3), some (.d (.int (len : Nat))), .none, .none, .none, .none] (hp L T)
      = if Int.fmod z 2 = 0 then some (.ret (.d (.bool true)) (hp L T)) else some (.next (fLo 5 c z s T.length len x 3 len L.length T.length T.length) (hp L (T ++ List.replicate len .none))) := by
  have hc := hl
  have hf := fresh_txt (n + 2) (hp L T) T len rfl (by lia) hl
  have hm := mark_eq (n + 4) (hp L T) (L.map UC.toM) T rfl rfl (by simp; lia)
  have hu := cut_eq (n + 4) ((hp L T).set 1 (some (T ++ List.replicate len .none))) (L.map UC.toM) T 0 len (by simp [hp]) rfl (by lia) (by simp; lia)
  simp only [hp, List.set, fLo, List.length_map] at hf hm hu ⊢
  have b0 : T.length ≤ 4096 := by lia
  have b1 : T.length + len ≤ 4096 := by lia
  have b2 : len ≤ 256 := by lia
  have b3 : (-4096 : Int) ≤ (len : Int) ∧ (len : Int) ≤ 4096 := by lia
  have b4 : len ≤ 4096 := by lia
  have b5 : ((T.length : Int) + (len : Int)) - len = T.length := by lia
  by_cases hz : Int.fmod z 2 = 0
  · rw [if_pos hz]
    simp [d_lawDeed, h3, hz, hf, hm, hu, b0, okD_tup4, eqD_tup4]
  · rw [if_neg hz]
    simp [d_lawDeed, h3, hz, hf, hm, b0, b1, b2, b3, b4, b5, okD_tup4, eqD_tup4, flat_rep]
end Mine
end

section
set_option autoImplicit false
set_option maxRecDepth 100000
namespace Mine

/-- what the law's storages keep -/
structure Gd2 (L : List UC) (T : List PyData) (m : Nat) : Prop where
  inv : Inv L
  tok : ∀ d ∈ T, tOk d
  lL : L.length ≤ m
  lT : T.length ≤ m
theorem Gd2.mono {L : List UC} {T : List PyData} {m m' : Nat} (g : Gd2 L T m) (h : m ≤ m') : Gd2 L T m' := ⟨g.inv, g.tok, by have := g.lL; lia, by have := g.lT; lia⟩
noncomputable def kV (k : Int) (x : PyData) : Prop := k = 0 ∨ k = 1 ∨ k = 2 ∨ k = 4 ∨ (k = 3 ∧ ∃ p q, x = .tuple [p, q] ∧ vOk p ∧ vOk q)
theorem kV.ok {k : Int} {x : PyData} (h : kV k x) : kOk k x := by
  rcases h with h | h | h | h | ⟨h, p, q, e, _⟩
  · exact .inl h
  · exact .inr (.inl h)
  · exact .inr (.inr (.inl h))
  · exact .inr (.inr (.inr (.inl h)))
  · exact .inr (.inr (.inr (.inr ⟨h, p, q, e⟩)))
theorem cnt_le (k : Int) : cnt k ≤ 2 := by unfold cnt; split <;> lia
theorem drop79 : d_lawDeed.body.drop 7 = (d_lawDeed.body.drop 7).take 2 ++ d_lawDeed.body.drop 9 := rfl
theorem take7 : d_lawDeed.body = d_lawDeed.body.take 7 ++ d_lawDeed.body.drop 7 := rfl

open Ev in
theorem deed_skip (n : Nat) (H : Hp) (c z s k len at_ u : Int) (x : PyData) (i : Nat) (h2 : Int.fmod c 4 ≠ 2) (h3 : Int.fmod c 4 ≠ 3) :
    evSs (callN defs n) ((d_lawDeed.body.drop 7).take 2) [some (.mem 0 1), some (.ml 2), some (.ml 3), some (.d (.int c)), some (.d (.int z)), some (.d (.int s)), some (.d (.int k)), some (.d (.int len)), some (.d (.int at_)), some (.d x), some (.ml i), some (.d (.int u)), .none, .none, .none, .none] H
      = some (.next [some (.mem 0 1), some (.ml 2), some (.ml 3), some (.d (.int c)), some (.d (.int z)), some (.d (.int s)), some (.d (.int k)), some (.d (.int len)), some (.d (.int at_)), some (.d x), some (.ml i), some (.d (.int u)), .none, .none, .none, .none] H) := by
  simp [d_lawDeed, h2, h3]

theorem deed_tail_num (L : List UC) (T : List PyData) (m : Nat) (g : Gd2 L T m) (hm : m ≤ 1800) (c z s at_ k : Int) (len : Nat) (x : PyData) (hk : kV k x) (hx : vOk x) (hl : len = 1 ∨ len = 2 ∨ len = 3) :
    ∃ L' T', evSs (callN defs 5) (d_lawDeed.body.drop 7) [some (.mem 0 1), some (.ml 2), some (.ml 3), some (.d (.int c)), some (.d (.int z)), some (.d (.int s)), some (.d (.int k)), some (.d (.int len)), some (.d (.int at_)), some (.d x), some (.ml 2), some (.d (.int (cnt k))), .none, .none, .none, .none] (hp L T)
      = some (.ret (.d (.bool true)) (hp L' T')) ∧ Gd2 L' T' (m + 3) := by
  have g1 := g.lL
  have g2 := g.lT
  have hk5 : k ≠ 5 := by unfold kV at hk; lia
  have hc := cnt_le k
  by_cases h2 : Int.fmod c 4 = 2
  · refine ⟨_, _, deed_clear_num 0 L T c z s at_ len x k hk5 h2 (by lia) (by lia) hl, ?_⟩
    split
    · exact ⟨g.inv.clr _ _, g.tok, by rw [clr_length]; lia, by lia⟩
    · exact g.mono (by lia)
  · rw [drop79, evSs_app]
    have store : ∀ (L₁ : List UC) (a₁ : Int) (p q : Option DV), Inv L₁ → L₁.length ≤ m + 3 → ∃ L' T', evSs (callN defs 5) (d_lawDeed.body.drop 9) [some (.mem 0 1), some (.ml 2), some (.ml 3), some (.d (.int c)), some (.d (.int z)), some (.d (.int s)), some (.d (.int k)), some (.d (.int len)), some (.d (.int a₁)), some (.d x), some (.ml 2), some (.d (.int (cnt k))), .none, p, q, .none] (hp L₁ T) = some (.ret (.d (.bool true)) (hp L' T')) ∧ Gd2 L' T' (m + 3) := fun L₁ a₁ p q I₁ l₁ => by
      refine ⟨_, _, deed_store_num 1 L₁ T c z s k a₁ len x p q (by lia) hk.ok, ?_⟩
      split
      · exact ⟨I₁, g.tok, l₁, by lia⟩
      · exact ⟨I₁.stN s k _ x hk hx, g.tok, by rw [stN_length]; exact l₁, by lia⟩
    by_cases h3 : Int.fmod c 4 = 3
    · have e := deed_fresh_num 0 L T c z s at_ len x k hk5 h3 (by lia) (by lia) hl
      rw [e]
      split
      · rename_i w h
        split at h
        · cases h
        · cases h
          exact store _ _ _ _ (g.inv.append _) (by simp; lia)
      · rename_i w
        split
        · exact ⟨_, _, rfl, g.mono (by lia)⟩
        · rename_i hz
          rw [if_neg hz] at w
          exact absurd rfl (w _ _)
    · rw [deed_skip 5 _ c z s k len at_ _ x 2 h2 h3]
      exact store L at_ _ _ g.inv (by lia)

theorem deed_tail_txt (L : List UC) (T : List PyData) (m : Nat) (g : Gd2 L T m) (hm : m ≤ 1800) (c z s at_ : Int) (len : Nat) (t : Str) (X : TxOk t len) :
    ∃ L' T', evSs (callN defs 5) (d_lawDeed.body.drop 7) [some (.mem 0 1), some (.ml 2), some (.ml 3), some (.d (.int c)), some (.d (.int z)), some (.d (.int s)), some (.d (.int 5)), some (.d (.int len)), some (.d (.int at_)), some (.d (.str t)), some (.ml 3), some (.d (.int len)), .none, .none, .none, .none] (hp L T)
      = some (.ret (.d (.bool true)) (hp L' T')) ∧ Gd2 L' T' (m + 3) := by
  have g1 := g.lL
  have g2 := g.lT
  have hl := X.llen
  by_cases h2 : Int.fmod c 4 = 2
  · refine ⟨_, _, deed_clear_txt 0 L T c z s at_ len (.str t) h2 (by lia) (by lia) hl, ?_⟩
    split
    · exact ⟨g.inv, fun d hd => (clr_mem _ _ _ _ hd).elim (g.tok d) fun h => .inl h, by lia, by rw [clr_length]; lia⟩
    · exact g.mono (by lia)
  · rw [drop79, evSs_app]
    have store : ∀ (T₁ : List PyData) (a₁ : Int) (p q : Option DV), (∀ d ∈ T₁, tOk d) → T₁.length ≤ m + 3 → ∃ L' T', evSs (callN defs 5) (d_lawDeed.body.drop 9) [some (.mem 0 1), some (.ml 2), some (.ml 3), some (.d (.int c)), some (.d (.int z)), some (.d (.int s)), some (.d (.int 5)), some (.d (.int len)), some (.d (.int a₁)), some (.d (.str t)), some (.ml 3), some (.d (.int len)), .none, p, q, .none] (hp L T₁) = some (.ret (.d (.bool true)) (hp L' T')) ∧ Gd2 L' T' (m + 3) := fun T₁ a₁ p q I₁ l₁ => by
      refine ⟨_, _, deed_store_txt 1 L T₁ c z s a₁ len t p q (by lia) X, ?_⟩
      split
      · exact ⟨g.inv, I₁, by lia, l₁⟩
      · exact ⟨g.inv, stT_tok _ _ _ _ I₁ X.ok, by lia, by rw [stT_length]; exact l₁⟩
    by_cases h3 : Int.fmod c 4 = 3
    · have e := deed_fresh_txt 0 L T c z s at_ len (.str t) h3 (by lia) (by lia) hl
      rw [e]
      split
      · rename_i w h
        split at h
        · cases h
        · cases h
          exact store _ _ _ _ (fun d hd => (List.mem_append.mp hd).elim (g.tok d) fun h => .inl (List.mem_replicate.mp h).2) (by simp; lia)
      · rename_i w
        split
        · exact ⟨_, _, rfl, g.mono (by lia)⟩
        · rename_i hz
          rw [if_neg hz] at w
          exact absurd rfl (w _ _)
    · rw [deed_skip 5 _ c z s 5 len at_ _ (.str t) 3 h2 h3]
      exact store T at_ _ _ g.tok (by lia)

theorem v_int (z : Int) : vOk (.int z) := ⟨rfl, by simp [PyData.depth]⟩
theorem v_bool (b : Bool) : vOk (.bool b) := by cases b <;> exact ⟨rfl, by decide⟩
theorem v_pair (a b : Int) : vOk (.tuple [.int a, .int b]) := ⟨rfl, by simp [PyData.depth, PyData.depthAll]⟩

theorem lawDeed_eq (L : List UC) (T : List PyData) (m : Nat) (g : Gd2 L T m) (hm : m ≤ 1800) (c z s : Int) :
    ∃ L' T', callN defs 6 .lawDeed [.mem 0 1, .ml 2, .ml 3, .d (.int c), .d (.int z), .d (.int s)] (hp L T) = some (.ok (.d (.bool true)) (hp L' T')) ∧ Gd2 L' T' (m + 3) := by
  have hlen := kLen_cases c
  have key : ∃ L' T', evSs (callN defs 5) d_lawDeed.body [some (.mem 0 1), some (.ml 2), some (.ml 3), some (.d (.int c)), some (.d (.int z)), some (.d (.int s)), .none, .none, .none, .none, .none, .none, .none, .none, .none, .none] (hp L T) = some (.ret (.d (.bool true)) (hp L' T')) ∧ Gd2 L' T' (m + 3) := by
    rw [take7, evSs_app]
    have hk := fm_pos (Int.fdiv c 4) 6 (by decide)
    obtain h | h | h | h | h | h : Int.fmod (Int.fdiv c 4) 6 = 0 ∨ Int.fmod (Int.fdiv c 4) 6 = 1 ∨ Int.fmod (Int.fdiv c 4) 6 = 2 ∨ Int.fmod (Int.fdiv c 4) 6 = 3 ∨ Int.fmod (Int.fdiv c 4) 6 = 4 ∨ Int.fmod (Int.fdiv c 4) 6 = 5 := six_cases hk
    · rw [deed_pre_0 4 (hp L T) c z s h]
      exact deed_tail_num L T m g hm c z s _ 0 (kLen c) (.int z) (.inl rfl) (v_int z) hlen
    · rw [deed_pre_1 4 (hp L T) c z s h]
      exact deed_tail_num L T m g hm c z s _ 1 (kLen c) (.tuple [.int 5, .int (-1)]) (.inr (.inl rfl)) (v_pair _ _) hlen
    · rw [deed_pre_2 4 (hp L T) c z s h]
      exact deed_tail_num L T m g hm c z s _ 2 (kLen c) (.tuple [.int 25, .int 2]) (.inr (.inr (.inl rfl))) (v_pair _ _) hlen
    · rw [deed_pre_3 4 (hp L T) c z s h]
      exact deed_tail_num L T m g hm c z s _ 3 (kLen c) (.tuple [.tuple [.int 1, .int 0], .tuple [.int 5, .int (-1)]]) (.inr (.inr (.inr (.inr ⟨rfl, _, _, rfl, v_pair _ _, v_pair _ _⟩)))) ⟨rfl, by decide⟩ hlen
    · rw [deed_pre_4 4 (hp L T) c z s h]
      exact deed_tail_num L T m g hm c z s _ 4 (kLen c) (.bool true) (.inr (.inr (.inr (.inl rfl)))) (v_bool _) hlen
    · rw [deed_pre_5 4 (hp L T) c z s h]
      exact deed_tail_txt L T m g hm c z s _ (kLen c) (abc (kM z)) (abc_ok (kM z) (kLen c) (kM_le z) hlen)
  obtain ⟨L', T', e, g'⟩ := key
  refine ⟨L', T', ?_, g'⟩
  rw [callN_succ]
  show (match evSs (callN defs 5) d_lawDeed.body _ (hp L T) with | some (.ret v H') => _ | some (.next _ H') => _ | some (.err _ t H') => _ | .none => _) = _
  rw [show initLo (defs .lawDeed) [.mem 0 1, .ml 2, .ml 3, .d (.int c), .d (.int z), .d (.int s)] = [some (.mem 0 1), some (.ml 2), some (.ml 3), some (.d (.int c)), some (.d (.int z)), some (.d (.int s)), .none, .none, .none, .none, .none, .none, .none, .none, .none, .none] from rfl, e]
end Mine
end

section
set_option autoImplicit false
set_option maxRecDepth 100000
namespace Mine

theorem eqD_refl {d : PyData} (h : okD d = true) : eqD d d = true := by
  simp only [okD, SeqAt.shaped, Bool.and_eq_true] at h
  exact SeqAt.eqv_refl d h.1
theorem fold_ok (g : Str) (hg : PyData.strOk g = true) : ∀ (r : List Str) (acc : Array Nat), acc.all (· < 0x110000) = true → (∀ x ∈ r, PyData.strOk x = true) →
    (r.foldl (fun acc p => acc ++ g.cps ++ p.cps) acc).all (· < 0x110000) = true
  | [], acc, h, _ => h
  | x :: r, acc, h, hr => by
    rw [List.foldl_cons]
    refine fold_ok g hg r _ ?_ (fun y hy => hr y (.tail _ hy))
    have h1 := hr x (.head _)
    unfold PyData.strOk at h1 hg
    rw [Array.all_append, Array.all_append, h, hg, h1]
    rfl
theorem join_ok (l : List Str) (h : ∀ x ∈ l, PyData.strOk x = true) : PyData.strOk (Txt.join (Str.ofString "") l) = true := by
  show (Array.all (List.foldl _ _ _) _) = true
  refine fold_ok _ (by decide +kernel) _ _ ?_ (fun x hx => h x (List.mem_of_mem_drop hx))
  cases l with
  | nil => simp [Str.empty]
  | cons a r => exact h a (.head _)
theorem strsOf_mem : ∀ {row : List PyData} {l : List Str}, strsOf row = some l → (∀ d ∈ row, tOk d) → ∀ x ∈ l, PyData.strOk x = true
  | [], l, h, _ => by cases h; exact fun x hx => nomatch hx
  | d :: r, l, h, ht => by
    cases d with
    | str s =>
      rw [strsOf] at h
      cases h' : strsOf r with
      | none => rw [h'] at h; cases h
      | some l' =>
        rw [h'] at h
        cases h
        intro x hx
        rcases List.mem_cons.mp hx with rfl | hx
        · rcases ht _ (.head _) with h0 | ⟨c, e, hc, _⟩
          · cases h0
          · cases e; exact hc
        · exact strsOf_mem h' (fun y hy => ht y (.tail _ hy)) x hx
    | _ => cases h
theorem textS_ok {T : List PyData} (hT : ∀ d ∈ T, tOk d) (at_ len : Int) : (∃ t, textS T at_ len = .inl (.str t) ∧ PyData.strOk t = true) ∨ textS T at_ len = .inr (Str.ofString "storage") ∨ textS T at_ len = .inr (Str.ofString "undefined") := by
  unfold textS
  split
  · exact .inr (.inl rfl)
  · split
    · exact .inr (.inr rfl)
    · refine .inl ⟨_, rfl, join_ok _ ?_⟩
      cases h : strsOf (rowT T at_ len) with
      | none => exact fun x hx => nomatch hx
      | some l => exact strsOf_mem h fun d hd => hT d (rowT_mem hd)
theorem rd_ok {L : List UC} (I : Inv L) {i : Nat} {tag : Int} {x : PyData} (h : rd L[i]? tag = some x) : vOk x := by
  cases hc : L[i]? with
  | none => rw [hc] at h; cases h
  | some c =>
    rw [hc] at h
    have hg := I.good c (List.mem_of_getElem? hc)
    cases c with
    | no => cases h
    | v s hh k y =>
      simp only [rd] at h
      by_cases q : (if hh = 1 then 6 else k) = tag
      · rw [if_pos q] at h
        cases h; exact hg.2
      · rw [if_neg q] at h
        cases h
theorem loadS_ok {L : List UC} (I : Inv L) (kind at_ : Int) : (∃ x, loadS L kind at_ = .inl x ∧ (x.canLay0 = true ∧ x.depth ≤ 9)) ∨ loadS L kind at_ = .inr (Str.ofString "storage") ∨ loadS L kind at_ = .inr (Str.ofString "undefined") := by
  unfold loadS
  by_cases c1 : at_ < 0 ∨ (L.length : Int) < at_ + (if kind = 2 ∨ kind = 3 then 2 else 1)
  · rw [if_pos c1]; exact .inr (.inl rfl)
  · rw [if_neg c1]
    by_cases c3 : kind = 3
    · rw [if_pos c3]
      split
      · rename_i a b ha hb
        have h1 := rd_ok I ha
        have h2 := rd_ok I hb
        refine .inl ⟨_, rfl, ?_, ?_⟩
        · simp [PyData.canLay0, PyData.canLayAll0, h1.1, h2.1]
        · have := h1.2
          have := h2.2
          simp only [PyData.depth, PyData.depthAll]
          lia
      · exact .inr (.inr rfl)
    · rw [if_neg c3]
      split
      · rename_i a ha
        have h1 := rd_ok I ha
        have h2 : a.canLay0 = true ∧ a.depth ≤ 9 := ⟨h1.1, by have := h1.2; lia⟩
        split
        · split
          · exact .inl ⟨_, rfl, h2⟩
          · exact .inr (.inr rfl)
        · exact .inl ⟨_, rfl, h2⟩
      · exact .inr (.inr rfl)
theorem ok_one : PyData.strOk (Str.ofString "one") = true := by decide +kernel
theorem ok_text : PyData.strOk (Str.ofString "text") = true := by decide +kernel
theorem ok_storage : PyData.strOk (Str.ofString "storage") = true := by decide +kernel
theorem ok_undefined : PyData.strOk (Str.ofString "undefined") = true := by decide +kernel
theorem resS_num {L : List UC} (I : Inv L) (kind at_ : Int) (hk : kind ≠ 5) : okD (resS kind (loadS L kind at_)) = true := by
  rcases loadS_ok I kind at_ with ⟨x, e, h1, h2⟩ | e | e <;> rw [e]
  · simp only [resS, if_neg hk]
    split
    · simp only [okD, SeqAt.shaped, h1, Bool.true_and, decide_eq_true_eq]; lia
    · simp [okD, SeqAt.shaped, PyData.canLay0, PyData.canLayAll0, PyData.depth, PyData.depthAll, h1, ok_one]; lia
  · simp [resS, okD, SeqAt.shaped, PyData.canLay0, PyData.depth, ok_storage]
  · simp [resS, okD, SeqAt.shaped, PyData.canLay0, PyData.depth, ok_undefined]
theorem resS_txt {T : List PyData} (hT : ∀ d ∈ T, tOk d) (at_ len : Int) : okD (resS 5 (textS T at_ len)) = true := by
  rcases textS_ok hT at_ len with ⟨t, e, h⟩ | e | e <;> rw [e]
  · simp [resS, okD, SeqAt.shaped, PyData.canLay0, PyData.canLayAll0, PyData.depth, PyData.depthAll, h, ok_text]
  · simp [resS, okD, SeqAt.shaped, PyData.canLay0, PyData.depth, ok_storage]
  · simp [resS, okD, SeqAt.shaped, PyData.canLay0, PyData.depth, ok_undefined]

theorem loopV_inv {f : DV → Lo → Hp → Option RS} {P : Nat → Lo → Hp → Prop} (N : Nat) :
    ∀ (ds : List DV) (j : Nat) (lo : Lo) (H : Hp), (∀ d ∈ ds, ∀ j lo H, j < N → P j lo H → ∃ lo' H', f d lo H = some (.next lo' H') ∧ P (j + 1) lo' H') → j + ds.length ≤ N → P j lo H →
      ∃ lo' H', loopV f ds lo H = some (.next lo' H') ∧ P (j + ds.length) lo' H'
  | [], j, lo, H, _, _, h => ⟨lo, H, rfl, h⟩
  | d :: ds, j, lo, H, hf, hN, h => by
    obtain ⟨lo', H', e, h'⟩ := hf d (.head _) j lo H (by simp at hN; lia) h
    obtain ⟨lo'', H'', e', h''⟩ := loopV_inv N ds (j + 1) lo' H' (fun x hx => hf x (.tail _ hx)) (by simp at hN; lia) h'
    refine ⟨lo'', H'', ?_, by rw [List.length_cons, Nat.add_comm ds.length 1, ← Nat.add_assoc]; exact h''⟩
    rw [loopV, e]
    exact e'
theorem hpSt {L : List UC} {T : List PyData} {m : Nat} (g : Gd2 L T m) (hm : m ≤ 2000) : StH (hp L T) L T :=
  ⟨rfl, rfl, rfl, rfl, by have := g.lL; lia, by have := g.lT; lia, g.tok⟩
end Mine
end

section
set_option autoImplicit false
set_option maxRecDepth 100000
namespace Mine
open Ev

theorem lawPick_ex (n : Nat) (H : Hp) (ns : List Int) (k : Int) (hk : 0 ≤ k ∧ k ≤ 100) (hn : ns.length ≤ 63) : ∃ v, callN defs (n + 1) .lawPick [.scr ns, .d (.int k)] H = some (.ok (.d (.int v)) H) := by
  have h1 : ns.length ≤ 4096 := by lia
  by_cases h : k < ns.length
  · obtain ⟨a, rfl⟩ : ∃ a : Nat, k = (a : Int) := ⟨k.toNat, by lia⟩
    have h2 : a < ns.length := by lia
    have h3 : (a : Int) ≤ 4096 := by lia
    refine ⟨ns[a], ?_⟩
    simp [callN_succ, d_lawPick, h1, h2, h3]
  · have h2 : k.natAbs ≤ big := by unfold big; lia
    refine ⟨k * k + 3, ?_⟩
    simp [callN_succ, d_lawPick, h1, h, h2]

theorem forR_eq (cf : CF) (x : Nat) (a : Option ME) (b : ME) (body : List MS) (lo : Lo) (H : Hp) (ka kb : Int) (av : Option DV) (hav : (match av with | some v => intOf v | .none => some 0) = some ka) (ha : evO cf lo a H = some (.ok av H))
    (hb : evE cf lo b H = some (.ok (.d (.int kb)) H)) (hs : (small ka && small kb) = true) :
    evS cf (.forR x a b body) lo H = loopV (fun v lo H => evSs cf body (lo.set x (some v)) H) ((rngI ka kb).map fun k => .d (.int k)) lo H := by
  rw [evS_forR, ha]
  show (bnS (evE cf lo b H) _) = _
  rw [hb]
  show ((match av with | some v => intOf v | .none => some 0).bind _) = _
  rw [hav]
  show (if (small ka && small kb) = true then _ else _) = _
  rw [if_pos hs]
theorem rngI_mem {a b k : Int} (h : k ∈ rngI a b) : a ≤ k ∧ k < b := by
  unfold rngI at h
  obtain ⟨i, hi, rfl⟩ := List.mem_map.mp h
  have := List.mem_range.mp hi
  lia
theorem law_rngI_len (a b : Int) : (rngI a b).length = (b - a).toNat := by simp [rngI]

noncomputable def lwLo (ns : List Int) (x y z w : Option DV) : Lo := [some (.scr ns), some (.mem 0 1), some (.ml 2), some (.ml 3), x, y, z, w]

theorem law_s1 (ns : List Int) (hn : ns.length ≤ 63) (L : List UC) (T : List PyData) (g : Gd2 L T 9) :
    ∃ x L' T', evSs (callN defs 6) (d_law.body.take 1) (lwLo ns .none .none .none .none) (hp L T) = some (.next (lwLo ns x .none .none .none) (hp L' T')) ∧ Gd2 L' T' 45 := by
  have hq : ∃ q : Int, 0 ≤ q ∧ q ≤ 9 ∧ evE (callN defs 6) (lwLo ns .none .none .none .none) (.bin .add (.int 3) (.min2 (.int 9) (.bin .fdiv (.len (.var 0)) (.int 2)))) (hp L T) = some (.ok (.d (.int (3 + q))) (hp L T)) := by
    have h0 : ns.length ≤ 4096 := by lia
    have h1 : ¬big < 2 := by decide
    have h3 := Int.fdiv_nonneg (a := (ns.length : Int)) (b := 2) (by lia) (by decide)
    refine ⟨if Int.fdiv ns.length 2 < 9 then Int.fdiv ns.length 2 else 9, ?_, ?_, ?_⟩
    · split <;> lia
    · split <;> lia
    · simp [lwLo, h0, h1]
  obtain ⟨q, q0, q9, hq⟩ := hq
  have hs : (small 0 && small (3 + q)) = true := by
    unfold small
    rw [decide_eq_true (by decide), decide_eq_true (by lia)]
    rfl
  let P : Nat → Lo → Hp → Prop := fun j lo H => ∃ x L T, lo = lwLo ns x .none .none .none ∧ H = hp L T ∧ Gd2 L T (9 + 3 * j)
  have e1 : d_law.body.take 1 = [.forR 4 .none (.bin .add (.int 3) (.min2 (.int 9) (.bin .fdiv (.len (.var 0)) (.int 2)))) [.ife (.not (.call .lawDeed [(.var 1), (.var 2), (.var 3), (.call .lawPick [(.var 0), (.bin .mul (.int 2) (.var 4))]), (.call .lawPick [(.var 0), (.bin .add (.bin .mul (.int 2) (.var 4)) (.int 1))]), (.var 4)])) [.ret (.bool false)] []]] := rfl
  have key := loopV_inv (f := fun v lo H => evSs (callN defs 6) [.ife (.not (.call .lawDeed [(.var 1), (.var 2), (.var 3), (.call .lawPick [(.var 0), (.bin .mul (.int 2) (.var 4))]), (.call .lawPick [(.var 0), (.bin .add (.bin .mul (.int 2) (.var 4)) (.int 1))]), (.var 4)])) [.ret (.bool false)] []] (lo.set 4 (some v)) H) (P := P) 12 ((rngI 0 (3 + q)).map fun k => .d (.int k)) 0 (lwLo ns .none .none .none .none) (hp L T)
    (fun d hd j lo H hj hP => by
      obtain ⟨k, hk, rfl⟩ := List.mem_map.mp hd
      have hk' := rngI_mem hk
      obtain ⟨x, L, T, rfl, rfl, g⟩ := hP
      obtain ⟨c, hc⟩ := lawPick_ex 5 (hp L T) ns (2 * k) (by lia) hn
      obtain ⟨z, hz⟩ := lawPick_ex 5 (hp L T) ns (2 * k + 1) (by lia) hn
      obtain ⟨L', T', hd, g'⟩ := lawDeed_eq L T _ g (by lia) c z k
      have hkb : k.natAbs ≤ big := by unfold big; lia
      have h2b : 2 ≤ big := by decide
      refine ⟨_, _, ?_, some (.d (.int k)), L', T', rfl, rfl, g'⟩
      simp [lwLo, hc, hz, hd, hkb, h2b])
    (by rw [List.length_map, law_rngI_len]; lia) ⟨_, _, _, rfl, rfl, g⟩
  obtain ⟨lo', H', e, x, L', T', rfl, rfl, g'⟩ := key
  refine ⟨x, L', T', ?_, g'.mono (by rw [List.length_map, law_rngI_len]; lia)⟩
  rw [e1, evSs_cons, forR_eq _ _ _ _ _ _ _ 0 (3 + q) .none rfl rfl hq hs, e]
  rfl
end Mine
end

section
set_option autoImplicit false
set_option maxRecDepth 100000
namespace Mine
open Ev

theorem law_s2 (ns : List Int) (L : List UC) (T : List PyData) (m : Nat) (g : Gd2 L T m) (hm : m ≤ 1800) (x : Option DV) :
    evSs (callN defs 6) ((d_law.body.drop 1).take 1) (lwLo ns x .none .none .none) (hp L T) = some (.next (lwLo ns x .none .none .none) (hp L T)) := by
  have h1 : L.length ≤ 4096 := by have := g.lL; lia
  have h2 : T.length ≤ 4096 := by have := g.lT; lia
  simp [d_law, lwLo, hp, h1, h2, okD_tup2, eqD_tup2]

theorem law_s3 (ns : List Int) (L : List UC) (T : List PyData) (m : Nat) (g : Gd2 L T m) (hm : m ≤ 1800) (x : Option DV) :
    ∃ y z, evSs (callN defs 6) ((d_law.body.drop 2).take 1) (lwLo ns x .none .none .none) (hp L T) = some (.next (lwLo ns x y z .none) (hp L T)) := by
  have h1 : L.length ≤ 1800 := by have := g.lL; lia
  have h1' : L.length ≤ 4096 := by lia
  have S := hpSt g (by lia)
  let body : List MS := [.ife (.cmp .ne (.call .lawLoad [(.var 1), (.var 6), (.var 5), (.int 0)]) (.call .lawOwn [(.var 2), (.var 3), (.var 6), (.var 5), (.int 0)])) [.ret (.bool false)] []]
  have e1 : (d_law.body.drop 2).take 1 = [.forR 5 (some (.neg 1)) (.bin .add (.len (.var 2)) (.int 1)) [.forR 6 .none (.int 5) body]] := rfl
  have inner : ∀ (a k : Int) (z : Option DV), 0 ≤ k ∧ k < 5 → evSs (callN defs 6) body (lwLo ns x (some (.d (.int a))) (some (.d (.int k))) .none) (hp L T) = some (.next (lwLo ns x (some (.d (.int a))) (some (.d (.int k))) .none) (hp L T)) := fun a k z hk => by
    have q1 := lawLoad_eq 2 S k a 0 (by lia) (by lia)
    have q2 := lawOwn_num 5 S g.inv k a 0 (by lia)
    have hk5 : k ≠ 5 := by lia
    simp only [memS, if_neg hk5] at q1
    have q3 := resS_num g.inv k a hk5
    have q4 := eqD_refl q3
    generalize resS k (loadS L k a) = r at *
    simp [body, lwLo, q1, q2, q3, q4]
  have mid : ∀ (a : Int) (y z : Option DV), ∃ z', evSs (callN defs 6) [.forR 6 .none (.int 5) body] (lwLo ns x (some (.d (.int a))) z .none) (hp L T) = some (.next (lwLo ns x (some (.d (.int a))) z' .none) (hp L T)) := fun a y z => by
    let P : Nat → Lo → Hp → Prop := fun _ lo H => ∃ z, lo = lwLo ns x (some (.d (.int a))) z .none ∧ H = hp L T
    have key := loopV_inv (f := fun v lo H => evSs (callN defs 6) body (lo.set 6 (some v)) H) (P := P) 5 ((rngI 0 5).map fun k => .d (.int k)) 0 (lwLo ns x (some (.d (.int a))) z .none) (hp L T)
      (fun d hd j lo H hj hP => by
        obtain ⟨k, hk, rfl⟩ := List.mem_map.mp hd
        have hk' := rngI_mem hk
        obtain ⟨z, rfl, rfl⟩ := hP
        exact ⟨_, _, inner a k z (by lia), _, rfl, rfl⟩)
      (by rw [List.length_map, law_rngI_len]; lia) ⟨_, rfl, rfl⟩
    obtain ⟨lo', H', e, z', rfl, rfl⟩ := key
    refine ⟨z', ?_⟩
    rw [evSs_cons, forR_eq _ _ _ _ _ _ _ 0 5 .none rfl rfl rfl rfl, e]
    rfl
  let P : Nat → Lo → Hp → Prop := fun _ lo H => ∃ y z, lo = lwLo ns x y z .none ∧ H = hp L T
  have key := loopV_inv (f := fun v lo H => evSs (callN defs 6) [.forR 6 .none (.int 5) body] (lo.set 5 (some v)) H) (P := P) 2000 ((rngI (-1) ((L.length : Int) + 1)).map fun k => .d (.int k)) 0 (lwLo ns x .none .none .none) (hp L T)
    (fun d hd j lo H hj hP => by
      obtain ⟨k, hk, rfl⟩ := List.mem_map.mp hd
      obtain ⟨y, z, rfl, rfl⟩ := hP
      obtain ⟨z', e⟩ := mid k y z
      exact ⟨_, _, e, _, _, rfl, rfl⟩)
    (by rw [List.length_map, law_rngI_len]; lia) ⟨_, _, rfl, rfl⟩
  obtain ⟨lo', H', e, y, z, rfl, rfl⟩ := key
  refine ⟨y, z, ?_⟩
  have hb : evE (callN defs 6) (lwLo ns x .none .none .none) (.bin .add (.len (.var 2)) (.int 1)) (hp L T) = some (.ok (.d (.int ((L.length : Int) + 1))) (hp L T)) := by
    simp [lwLo, hp, h1']
  have hs : (small (-1) && small ((L.length : Int) + 1)) = true := by
    unfold small
    rw [decide_eq_true (by decide), decide_eq_true (by lia)]
    rfl
  rw [e1, evSs_cons, forR_eq _ _ _ _ _ _ _ (-1) ((L.length : Int) + 1) (some (.d (.int (-1)))) rfl rfl hb hs, e]
  rfl

theorem law_s4 (ns : List Int) (L : List UC) (T : List PyData) (m : Nat) (g : Gd2 L T m) (hm : m ≤ 1800) (x y₀ z₀ : Option DV) :
    ∃ y w, evSs (callN defs 6) ((d_law.body.drop 3).take 1) (lwLo ns x y₀ z₀ .none) (hp L T) = some (.next (lwLo ns x y z₀ w) (hp L T)) := by
  have h1 : T.length ≤ 1800 := by have := g.lT; lia
  have h1' : T.length ≤ 4096 := by lia
  have S := hpSt g (by lia)
  let body : List MS := [.ife (.cmp .ne (.call .lawLoad [(.var 1), (.int 5), (.var 5), (.var 7)]) (.call .lawOwn [(.var 2), (.var 3), (.int 5), (.var 5), (.var 7)])) [.ret (.bool false)] []]
  have e1 : (d_law.body.drop 3).take 1 = [.forR 5 (some (.neg 1)) (.bin .add (.len (.var 3)) (.int 1)) [.forV 7 (.list [(.int 1), (.int 3)]) body]] := rfl
  have inner : ∀ (a k : Int), 0 ≤ k ∧ k ≤ 16 → evSs (callN defs 6) body (lwLo ns x (some (.d (.int a))) z₀ (some (.d (.int k)))) (hp L T) = some (.next (lwLo ns x (some (.d (.int a))) z₀ (some (.d (.int k)))) (hp L T)) := fun a k hk => by
    have q1 := lawLoad_eq 2 S 5 a k (by lia) hk
    have q2 := lawOwn_txt 5 S a k hk
    simp only [memS, if_pos] at q1
    have q3 := resS_txt g.tok a k
    have q4 := eqD_refl q3
    generalize resS 5 (textS T a k) = r at *
    simp [body, lwLo, q1, q2, q3, q4]
  have mid : ∀ (a : Int) (w : Option DV), ∃ w', evSs (callN defs 6) [.forV 7 (.list [(.int 1), (.int 3)]) body] (lwLo ns x (some (.d (.int a))) z₀ w) (hp L T) = some (.next (lwLo ns x (some (.d (.int a))) z₀ w') (hp L T)) := fun a w => by
    have i1 := inner a 1 (by lia)
    have i3 := inner a 3 (by lia)
    refine ⟨some (.d (.int 3)), ?_⟩
    have q : evS (callN defs 6) (.forV 7 (.list [(.int 1), (.int 3)]) body) (lwLo ns x (some (.d (.int a))) z₀ w) (hp L T) = loopV (fun v lo H => evSs (callN defs 6) body (lo.set 7 (some v)) H) [.d (.int 1), .d (.int 3)] (lwLo ns x (some (.d (.int a))) z₀ w) (hp L T) := rfl
    rw [evSs_cons, q, loopV]
    rw [show (lwLo ns x (some (.d (.int a))) z₀ w).set 7 (some (.d (.int 1))) = lwLo ns x (some (.d (.int a))) z₀ (some (.d (.int 1))) from rfl, i1]
    simp only []
    rw [loopV, show (lwLo ns x (some (.d (.int a))) z₀ (some (.d (.int 1)))).set 7 (some (.d (.int 3))) = lwLo ns x (some (.d (.int a))) z₀ (some (.d (.int 3))) from rfl, i3]
    rfl
  let P : Nat → Lo → Hp → Prop := fun _ lo H => ∃ y w, lo = lwLo ns x y z₀ w ∧ H = hp L T
  have key := loopV_inv (f := fun v lo H => evSs (callN defs 6) [.forV 7 (.list [(.int 1), (.int 3)]) body] (lo.set 5 (some v)) H) (P := P) 2000 ((rngI (-1) ((T.length : Int) + 1)).map fun k => .d (.int k)) 0 (lwLo ns x y₀ z₀ .none) (hp L T)
    (fun d hd j lo H hj hP => by
      obtain ⟨k, hk, rfl⟩ := List.mem_map.mp hd
      obtain ⟨y, w, rfl, rfl⟩ := hP
      obtain ⟨w', e⟩ := mid k w
      exact ⟨_, _, e, _, _, rfl, rfl⟩)
    (by rw [List.length_map, law_rngI_len]; lia) ⟨_, _, rfl, rfl⟩
  obtain ⟨lo', H', e, y, w, rfl, rfl⟩ := key
  refine ⟨y, w, ?_⟩
  have hb : evE (callN defs 6) (lwLo ns x y₀ z₀ .none) (.bin .add (.len (.var 3)) (.int 1)) (hp L T) = some (.ok (.d (.int ((T.length : Int) + 1))) (hp L T)) := by
    simp [lwLo, hp, h1']
  have hs : (small (-1) && small ((T.length : Int) + 1)) = true := by
    unfold small
    rw [decide_eq_true (by decide), decide_eq_true (by lia)]
    rfl
  rw [e1, evSs_cons, forR_eq _ _ _ _ _ _ _ (-1) ((T.length : Int) + 1) (some (.d (.int (-1)))) rfl rfl hb hs, e]
  rfl

theorem law_s5 (ns : List Int) (hn : ns.length ≤ 63) (arr : ∀ (H : Hp) (a b : Int), ∃ H', callN defs 6 .lawArrays [.d (.int a), .d (.int b)] H = some (.ok (.d (.bool true)) H')) (x y z w : Option DV) (H : Hp) :
    ∃ H', evSs (callN defs 6) (d_law.body.drop 4) (lwLo ns x y z w) H = some (.ret (.d (.bool true)) H') := by
  obtain ⟨a, ha⟩ := lawPick_ex 5 H ns 0 (by lia) hn
  obtain ⟨b, hb⟩ := lawPick_ex 5 H ns 1 (by lia) hn
  obtain ⟨H₁, e1⟩ := arr H a b
  obtain ⟨c, hc⟩ := lawPick_ex 5 H₁ ns 2 (by lia) hn
  obtain ⟨d, hd⟩ := lawPick_ex 5 H₁ ns 3 (by lia) hn
  obtain ⟨H₂, e2⟩ := arr H₁ c d
  exact ⟨H₂, by simp [d_law, lwLo, ha, hb, hc, hd, e1, e2]⟩

theorem law_pure (ns : List Int) (hn : ns.length ≤ 63) (arr : ∀ (H : Hp) (a b : Int), ∃ H', callN defs 6 .lawArrays [.d (.int a), .d (.int b)] H = some (.ok (.d (.bool true)) H')) :
    ∃ H', evSs (callN defs 6) d_law.body (lwLo ns .none .none .none .none) (hp (List.replicate 8 .no) (List.replicate 9 .none)) = some (.ret (.d (.bool true)) H') := by
  have g0 : Gd2 (List.replicate 8 .no) (List.replicate 9 .none) 9 := ⟨Inv.nil 8, fun d hd => .inl (List.mem_replicate.mp hd).2, by decide, by decide⟩
  obtain ⟨x, L, T, e1, g⟩ := law_s1 ns hn _ _ g0
  have e2 := law_s2 ns L T 45 g (by lia) x
  obtain ⟨y, z, e3⟩ := law_s3 ns L T 45 g (by lia) x
  obtain ⟨y', w, e4⟩ := law_s4 ns L T 45 g (by lia) x y z
  obtain ⟨H', e5⟩ := law_s5 ns hn arr x y' z w (hp L T)
  refine ⟨H', ?_⟩
  rw [show d_law.body = d_law.body.take 1 ++ ((d_law.body.drop 1).take 1 ++ ((d_law.body.drop 2).take 1 ++ ((d_law.body.drop 3).take 1 ++ d_law.body.drop 4))) from rfl]
  rw [evSs_app, e1]
  simp only []
  rw [evSs_app, e2]
  simp only []
  rw [evSs_app, e3]
  simp only []
  rw [evSs_app, e4]
  exact e5
end Mine
end

section
set_option autoImplicit false
set_option maxRecDepth 100000
namespace Mine
open Ev

noncomputable def dimD (d : Int × Nat) : PyData := .tuple [.int d.1, .int (d.1 + d.2)]
noncomputable def rowD (r : List Int) : PyData := .list (r.map .int)
noncomputable def blk (d : Int × Nat) (r : List Int) : List (List Int) := (rngI d.1 (d.1 + d.2 + 1)).map (· :: r)
noncomputable def cntR : List (Int × Nat) → List (List Int)
  | [] => [[]]
  | d :: D => (cntR D).flatMap (blk d)
noncomputable def cntN : List (Int × Nat) → Nat
  | [] => 1
  | d :: D => (d.2 + 1) * cntN D
theorem blk_len (d : Int × Nat) (r : List Int) : (blk d r).length = d.2 + 1 := by
  unfold blk
  rw [List.length_map, law_rngI_len]
  lia
theorem flatMap_len {α β : Type} (f : α → List β) (n : Nat) (h : ∀ a, (f a).length = n) : ∀ l : List α, (l.flatMap f).length = n * l.length
  | [] => by simp
  | a :: l => by
    rw [List.flatMap_cons, List.length_append, h, flatMap_len f n h l, List.length_cons, Nat.mul_add, Nat.mul_one, Nat.add_comm]
theorem cntR_len : ∀ D, (cntR D).length = cntN D
  | [] => rfl
  | d :: D => by
    rw [cntR, flatMap_len _ _ (blk_len d), cntR_len D, cntN]
theorem cntR_row : ∀ (D : List (Int × Nat)) (r : List Int), r ∈ cntR D → r.length = D.length
  | [], r, h => by rw [List.mem_singleton.mp h]; rfl
  | d :: D, r, h => by
    obtain ⟨q, hq, hr⟩ := List.mem_flatMap.mp h
    obtain ⟨k, _, rfl⟩ := List.mem_map.mp hr
    rw [List.length_cons, cntR_row D q hq, List.length_cons]

theorem law_getL {α : Type} (H : List α) (x : α) : (H ++ [x])[H.length]? = some x := by simp
theorem law_setL {α : Type} (H : List α) (x y : α) : (H ++ [x]).set H.length y = H ++ [y] := by simp

noncomputable def ctLo (a b c d e f g : Option DV) : Lo := [a, b, c, d, e, f, g]
theorem cnt_in (cf : CF) (a b c d : Option DV) (r : List Int) (hr : r.length ≤ 100) (H : Hp) :
    ∀ (ks : List Int) (acc : List PyData) (g : Option DV), acc.length + ks.length ≤ 4000 →
      ∃ g', loopV (fun v lo H => evSs cf [.append (.var 4) (.bin .add (.list [(.var 6)]) (.var 5))] (lo.set 6 (some v)) H) (ks.map fun k => .d (.int k)) (ctLo a b c d (some (.ml H.length)) (some (.d (rowD r))) g) (H ++ [some acc])
        = some (.next (ctLo a b c d (some (.ml H.length)) (some (.d (rowD r))) g') (H ++ [some (acc ++ ks.map fun k => rowD (k :: r))]))
  | [], acc, g, _ => ⟨g, by simp [loopV]⟩
  | k :: ks, acc, g, h => by
    obtain ⟨g', e⟩ := cnt_in cf a b c d r hr H ks (acc ++ [rowD (k :: r)]) (some (.d (.int k))) (by simp at h ⊢; lia)
    refine ⟨g', ?_⟩
    rw [List.map_cons, loopV]
    have h1 : acc.length ≤ 4096 := by simp at h; lia
    have h2 : r.length ≤ 4096 := by lia
    have s : evSs cf [.append (.var 4) (.bin .add (.list [(.var 6)]) (.var 5))] ((ctLo a b c d (some (.ml H.length)) (some (.d (rowD r))) g).set 6 (some (.d (.int k)))) (H ++ [some acc]) = some (.next (ctLo a b c d (some (.ml H.length)) (some (.d (rowD r))) (some (.d (.int k)))) (H ++ [some (acc ++ [rowD (k :: r)])])) := by
      simp [ctLo, rowD, h1, h2]
    rw [s]
    simp only []
    rw [e, List.append_assoc]
    rfl
theorem cnt_rows (cf : CF) (a b : Option DV) (d : Int × Nat) (hd : (small d.1 && small (d.1 + d.2 + 1)) = true) (H : Hp) :
    ∀ (rs : List (List Int)) (acc : List PyData) (f g : Option DV), (∀ r ∈ rs, r.length ≤ 100) → acc.length + (d.2 + 1) * rs.length ≤ 4000 →
      ∃ f' g', loopV (fun v lo H => evSs cf [.forR 6 (some (.var 2)) (.bin .add (.var 3) (.int 1)) [.append (.var 4) (.bin .add (.list [(.var 6)]) (.var 5))]] (lo.set 5 (some v)) H) (rs.map fun r => .d (rowD r)) (ctLo a b (some (.d (.int d.1))) (some (.d (.int (d.1 + d.2)))) (some (.ml H.length)) f g) (H ++ [some acc])
        = some (.next (ctLo a b (some (.d (.int d.1))) (some (.d (.int (d.1 + d.2)))) (some (.ml H.length)) f' g') (H ++ [some (acc ++ (rs.flatMap (blk d)).map rowD)]))
  | [], acc, f, g, _, _ => ⟨f, g, by simp [loopV]⟩
  | r :: rs, acc, f, g, hr, h => by
    rw [List.length_cons, Nat.mul_add, Nat.mul_one] at h
    have hlen : (rngI d.1 (d.1 + d.2 + 1)).length = d.2 + 1 := by rw [law_rngI_len]; lia
    obtain ⟨g₁, e₁⟩ := cnt_in cf a b (some (.d (.int d.1))) (some (.d (.int (d.1 + d.2)))) r (hr r (.head _)) H (rngI d.1 (d.1 + d.2 + 1)) acc g (by rw [hlen]; lia)
    have em : (rngI d.1 (d.1 + d.2 + 1)).map (fun k => rowD (k :: r)) = (blk d r).map rowD := by unfold blk; rw [List.map_map]; rfl
    rw [em] at e₁
    obtain ⟨f', g', e⟩ := cnt_rows cf a b d hd H rs (acc ++ (blk d r).map rowD) (some (.d (rowD r))) g₁ (fun q hq => hr q (.tail _ hq)) (by rw [List.length_append, List.length_map, blk_len]; lia)
    refine ⟨f', g', ?_⟩
    rw [List.map_cons, loopV]
    have s : evSs cf [.forR 6 (some (.var 2)) (.bin .add (.var 3) (.int 1)) [.append (.var 4) (.bin .add (.list [(.var 6)]) (.var 5))]] ((ctLo a b (some (.d (.int d.1))) (some (.d (.int (d.1 + d.2)))) (some (.ml H.length)) f g).set 5 (some (.d (rowD r)))) (H ++ [some acc]) = some (.next (ctLo a b (some (.d (.int d.1))) (some (.d (.int (d.1 + d.2)))) (some (.ml H.length)) (some (.d (rowD r))) g₁) (H ++ [some (acc ++ (blk d r).map rowD)])) := by
      rw [evSs_cons, forR_eq _ _ _ _ _ _ _ d.1 (d.1 + d.2 + 1) (some (.d (.int d.1))) rfl rfl rfl hd]
      rw [show (ctLo a b (some (.d (.int d.1))) (some (.d (.int (d.1 + d.2)))) (some (.ml H.length)) f g).set 5 (some (.d (rowD r))) = ctLo a b (some (.d (.int d.1))) (some (.d (.int (d.1 + d.2)))) (some (.ml H.length)) (some (.d (rowD r))) g from rfl, e₁]
      rfl
    rw [s]
    simp only []
    rw [e, List.append_assoc, List.flatMap_cons, List.map_append]

noncomputable def ctBody : List MS := [.assign 4 .mlist, .forV 5 (.var 1) [.forR 6 (some (.var 2)) (.bin .add (.var 3) (.int 1)) [.append (.var 4) (.bin .add (.list [(.var 6)]) (.var 5))]], .assign 1 (.freeze (.var 4))]
theorem cnt_dim (cf : CF) (a : Option DV) (d : Int × Nat) (hd : (small d.1 && small (d.1 + d.2 + 1)) = true) (H : Hp) (rs : List (List Int)) (hr : ∀ r ∈ rs, r.length ≤ 100) (h : (d.2 + 1) * rs.length ≤ 4000) (e f g : Option DV) :
    ∃ e' f' g', evSs cf ctBody (ctLo a (some (.d (.list (rs.map rowD)))) (some (.d (.int d.1))) (some (.d (.int (d.1 + d.2)))) e f g) H
      = some (.next (ctLo a (some (.d (.list ((rs.flatMap (blk d)).map rowD)))) (some (.d (.int d.1))) (some (.d (.int (d.1 + d.2)))) e' f' g') (H ++ [.none])) := by
  obtain ⟨f', g', q⟩ := cnt_rows cf a (some (.d (.list (rs.map rowD)))) d hd H rs [] f g hr (by simpa using h)
  refine ⟨some (.ml H.length), f', g', ?_⟩
  unfold ctBody
  have s1 : evS cf (.assign 4 .mlist) (ctLo a (some (.d (.list (rs.map rowD)))) (some (.d (.int d.1))) (some (.d (.int (d.1 + d.2)))) e f g) H = some (.next (ctLo a (some (.d (.list (rs.map rowD)))) (some (.d (.int d.1))) (some (.d (.int (d.1 + d.2)))) (some (.ml H.length)) f g) (H ++ [some []])) := rfl
  have s2 : evS cf (.forV 5 (.var 1) [.forR 6 (some (.var 2)) (.bin .add (.var 3) (.int 1)) [.append (.var 4) (.bin .add (.list [(.var 6)]) (.var 5))]]) (ctLo a (some (.d (.list (rs.map rowD)))) (some (.d (.int d.1))) (some (.d (.int (d.1 + d.2)))) (some (.ml H.length)) f g) (H ++ [some []]) = some (.next (ctLo a (some (.d (.list (rs.map rowD)))) (some (.d (.int d.1))) (some (.d (.int (d.1 + d.2)))) (some (.ml H.length)) f' g') (H ++ [some ([] ++ (rs.flatMap (blk d)).map rowD)])) := by
    rw [evS_forV]
    show (loopV _ ((rs.map rowD).map .d) _ _) = _
    rw [List.map_map]
    exact q
  rw [evSs_cons, s1]
  simp only []
  rw [evSs_cons, s2]
  simp only []
  rw [List.nil_append, evSs_cons]
  simp [ctLo]
theorem cnt_all (cf : CF) (a : Option DV) : ∀ (R D : List (Int × Nat)) (H : Hp) (c d e f g : Option DV), (∀ x ∈ R, (small x.1 && small (x.1 + x.2 + 1)) = true) → R.length + D.length ≤ 100 → (∀ A B, R.reverse ++ D = A ++ B → cntN B ≤ 4000) →
    ∃ k c' d' e' f' g', loopV (fun v lo H => (tupItems v).bind fun es => (setAll lo [2, 3] es).bind fun lo' => evSs cf ctBody lo' H) (R.map fun x => .d (dimD x)) (ctLo a (some (.d (.list ((cntR D).map rowD)))) c d e f g) H
      = some (.next (ctLo a (some (.d (.list ((cntR (R.reverse ++ D)).map rowD)))) c' d' e' f' g') (H ++ List.replicate k .none))
  | [], D, H, c, d, e, f, g, _, _, _ => ⟨0, c, d, e, f, g, by simp [loopV]⟩
  | x :: R, D, H, c, d, e, f, g, hR, hl, hB => by
    have hx := hR x (.head _)
    have hn : cntN (x :: D) ≤ 4000 := hB R.reverse (x :: D) (by simp)
    obtain ⟨e₁, f₁, g₁, s⟩ := cnt_dim cf a x hx H (cntR D) (fun r hr => by rw [cntR_row D r hr]; simp at hl; lia) (by rw [cntR_len]; exact hn) e f g
    obtain ⟨k, c', d', e', f', g', q⟩ := cnt_all cf a R (x :: D) (H ++ [.none]) (some (.d (.int x.1))) (some (.d (.int (x.1 + x.2)))) e₁ f₁ g₁ (fun y hy => hR y (.tail _ hy)) (by simp at hl ⊢; lia) (fun A B h => hB A B (by simpa using h))
    refine ⟨k + 1, c', d', e', f', g', ?_⟩
    rw [List.map_cons, loopV]
    have s' : ((tupItems (.d (dimD x))).bind fun es => (setAll (ctLo a (some (.d (.list ((cntR D).map rowD)))) c d e f g) [2, 3] es).bind fun lo' => evSs cf ctBody lo' H) = some (.next (ctLo a (some (.d (.list ((cntR (x :: D)).map rowD)))) (some (.d (.int x.1))) (some (.d (.int (x.1 + x.2)))) e₁ f₁ g₁) (H ++ [.none])) := s
    rw [s']
    simp only []
    rw [q, List.reverse_cons, List.append_assoc, List.append_assoc]
    rfl
theorem lawCounted_eq (n : Nat) (H : Hp) (D : List (Int × Nat)) (hD : ∀ x ∈ D, (small x.1 && small (x.1 + x.2 + 1)) = true) (hl : D.length ≤ 100) (hB : ∀ A B, D = A ++ B → cntN B ≤ 4000) :
    ∃ k, callN defs (n + 1) .lawCounted [.d (.tuple (D.map dimD))] H = some (.ok (.d (.list ((cntR D).map rowD))) (H ++ List.replicate k .none)) := by
  obtain ⟨k, c, d, e, f, g, q⟩ := cnt_all (callN defs n) (some (.d (.tuple (D.map dimD)))) D.reverse [] H .none .none .none .none .none (fun x hx => hD x (List.mem_reverse.mp hx)) (by simpa using hl) (fun A B h => hB A B (by simpa using h))
  refine ⟨k, ?_⟩
  have h1 : D.length ≤ 4096 := by lia
  have e0 : d_lawCounted.body = [.assign 1 (.list [(.list [])]), .forU [2, 3] (.rev (.var 0)) ctBody, .ret (.var 1)] := rfl
  have s1 : evS (callN defs n) (.assign 1 (.list [(.list [])])) (ctLo (some (.d (.tuple (D.map dimD)))) .none .none .none .none .none .none) H = some (.next (ctLo (some (.d (.tuple (D.map dimD)))) (some (.d (.list ((cntR []).map rowD)))) .none .none .none .none .none) H) := rfl
  have s2 : evS (callN defs n) (.forU [2, 3] (.rev (.var 0)) ctBody) (ctLo (some (.d (.tuple (D.map dimD)))) (some (.d (.list ((cntR []).map rowD)))) .none .none .none .none .none) H = some (.next (ctLo (some (.d (.tuple (D.map dimD)))) (some (.d (.list ((cntR D).map rowD)))) c d e f g) (H ++ List.replicate k .none)) := by
    rw [evS_forU]
    have r1 : evE (callN defs n) (ctLo (some (.d (.tuple (D.map dimD)))) (some (.d (.list ((cntR []).map rowD)))) .none .none .none .none .none) (.rev (.var 0)) H = some (.ok (.d (.tuple (D.map dimD).reverse)) H) := by
      simp [ctLo, h1]
    rw [r1]
    show (loopV _ ((D.map dimD).reverse.map .d) _ _) = _
    rw [← List.map_reverse, List.map_map]
    rw [List.reverse_reverse, List.append_nil] at q
    exact q
  rw [callN_succ]
  show (match evSs (callN defs n) d_lawCounted.body _ H with | some (.ret v H') => _ | some (.next _ H') => _ | some (.err _ t H') => _ | .none => _) = _
  rw [show initLo (defs .lawCounted) [.d (.tuple (D.map dimD))] = ctLo (some (.d (.tuple (D.map dimD)))) .none .none .none .none .none .none from rfl, e0, evSs_cons, s1]
  simp only []
  rw [evSs_cons, s2]
  simp only []
  rw [evSs_cons]
  rfl
end Mine
end

section
set_option autoImplicit false
set_option maxRecDepth 100000
namespace Mine

noncomputable def offs : List (Int × Nat) → List Int → Option Nat
  | [], [] => some 0
  | d :: D, a :: as => if d.1 ≤ a ∧ a ≤ d.1 + d.2 then (offs D as).map (fun j => (a - d.1).toNat + (d.2 + 1) * j) else .none
  | _, _ => .none
theorem blk_get (d : Int × Nat) (r : List Int) (i : Nat) (h : i < (blk d r).length) : (blk d r)[i] = (d.1 + (i : Int)) :: r := by
  simp [blk, rngI]
theorem idx_blk (d : Int × Nat) (r : List Int) (a : Int) (as : List Int) : (blk d r).findIdx? (fun y => decide (y = a :: as)) = if r = as ∧ d.1 ≤ a ∧ a ≤ d.1 + d.2 then some (a - d.1).toNat else .none := by
  split
  · rename_i h
    obtain ⟨rfl, h1, h2⟩ := h
    rw [List.findIdx?_eq_some_iff_getElem]
    refine ⟨by rw [blk_len]; omega, ?_, fun j hj => ?_⟩
    · rw [blk_get]
      simp
      omega
    · rw [blk_get]
      simp
      omega
  · rename_i h
    rw [List.findIdx?_eq_none_iff]
    intro y hy
    obtain ⟨k, hk, rfl⟩ := List.mem_map.mp hy
    have := rngI_mem hk
    refine decide_eq_false fun q => h ?_
    injection q with q1 q2
    exact ⟨q2, by omega⟩
theorem idx_flat (d : Int × Nat) (a : Int) (as : List Int) : ∀ rs : List (List Int), (rs.flatMap (blk d)).findIdx? (fun y => decide (y = a :: as)) = if d.1 ≤ a ∧ a ≤ d.1 + d.2 then (rs.findIdx? (fun y => decide (y = as))).map (fun j => (a - d.1).toNat + (d.2 + 1) * j) else .none
  | [] => by simp
  | r :: rs => by
    rw [List.flatMap_cons, List.findIdx?_append, idx_blk, idx_flat d a as rs, List.findIdx?_cons, blk_len]
    by_cases h : d.1 ≤ a ∧ a ≤ d.1 + d.2
    · by_cases q : r = as
      · simp [h, q]
      · simp only [h, q, false_and, and_self, if_true, if_false, decide_false, Option.none_or, Option.map_map]
        simp only [Bool.false_eq_true, if_false, Option.map_map]
        congr 1
        funext j
        simp only [Function.comp]
        rw [Nat.mul_add]
        omega
    · simp [h]
theorem idx_cnt : ∀ (D : List (Int × Nat)) (as : List Int), as.length = D.length → (cntR D).findIdx? (fun y => decide (y = as)) = offs D as
  | [], [], _ => by simp [cntR, offs]
  | d :: D, a :: as, h => by
    rw [cntR, idx_flat, offs, idx_cnt D as (by simpa using h)]
  | [], _ :: _, h => by cases h
  | _ :: _, [], h => by cases h
theorem eqv_rows : ∀ (a b : List Int), PyData.eqvAll (a.map .int) (b.map .int) = decide (a = b)
  | [], [] => rfl
  | x :: a, [] => by simp [PyData.eqvAll]
  | [], y :: b => by simp [PyData.eqvAll]
  | x :: a, y :: b => by
    rw [List.map_cons, List.map_cons, PyData.eqvAll, eqv_rows a b, show PyData.eqv (.int x) (.int y) = decide (x = y) from eqD_int x y]
    by_cases h : x = y <;> by_cases q : a = b <;> simp [h, q]
theorem eqD_rows (a b : List Int) : eqD (rowD a) (rowD b) = decide (a = b) := by
  rw [← eqv_rows a b]
  simp only [eqD, rowD, PyData.eqv]
theorem can_ints : ∀ a : List Int, PyData.canLayAll0 (a.map .int) = true ∧ PyData.depthAll (a.map .int) = 0
  | [] => ⟨rfl, rfl⟩
  | x :: a => by
    obtain ⟨h1, h2⟩ := can_ints a
    rw [List.map_cons, PyData.canLayAll0, PyData.depthAll, h1, h2]
    simp [PyData.canLay0, PyData.depth]
theorem okD_row (a : List Int) : okD (rowD a) = true := by
  obtain ⟨h1, h2⟩ := can_ints a
  simp [okD, SeqAt.shaped, rowD, PyData.canLay0, PyData.depth, h1, h2]
theorem any_cnt (D : List (Int × Nat)) (as : List Int) (h : as.length = D.length) : ((cntR D).map rowD).any (fun y => eqD y (rowD as)) = (offs D as).isSome := by
  rw [← idx_cnt D as h, List.findIdx?_isSome, List.any_map]
  congr 1
  funext y
  exact eqD_rows y as
theorem idxOf_cnt (D : List (Int × Nat)) (as : List Int) (h : as.length = D.length) : idxOf ((cntR D).map rowD) (rowD as) = offs D as := by
  unfold idxOf
  rw [← idx_cnt D as h, List.findIdx?_map]
  congr 1
  funext y
  exact eqD_rows y as
theorem okD_rows (D : List (Int × Nat)) : ((cntR D).map rowD).all okD = true := by
  rw [List.all_eq_true]
  intro x hx
  obtain ⟨r, _, rfl⟩ := List.mem_map.mp hx
  exact okD_row r
end Mine
end

section
set_option autoImplicit false
set_option maxRecDepth 100000
namespace Mine
open Ev

theorem cntN_pos : ∀ D, 0 < cntN D
  | [] => Nat.one_pos
  | d :: D => Nat.mul_pos (Nat.succ_pos _) (cntN_pos D)
noncomputable def epBody : List MS := [.unpack [9, 10] (.sub (.var 8) (.var 4)), .ife (.bools false [(.cmp .lt (.sub (.var 1) (.var 4)) (.var 9)), (.bools true [(.cmp .isNot (.var 10) .none), (.cmp .gt (.sub (.var 1) (.var 4)) (.var 10))])]) [.raise "subscript"] [], .aug 2 .add (.bin .mul (.bin .sub (.sub (.var 1) (.var 4)) (.var 9)) (.var 3)), .ife (.cmp .isNot (.var 10) .none) [.aug 3 .mul (.bin .add (.bin .sub (.var 10) (.var 9)) (.int 1))] []]
noncomputable def epLo (kind len : Int) (D : List (Int × Nat)) (A : List Int) (o s k lo hi : Option DV) : Lo := [some (.d (.tuple [.int kind, .int 5, .int len, .tuple (D.map dimD)])), some (.d (rowD A)), o, s, k, some (.d (.int kind)), some (.d (.int 5)), some (.d (.int len)), some (.d (.tuple (D.map dimD))), lo, hi]
theorem ep_step (cf : CF) (H : Hp) (kind len : Int) (D : List (Int × Nat)) (A : List Int) (i : Nat) (d : Int × Nat) (a : Int) (hd : D[i]? = some d) (ha : A[i]? = some a) (hi : i ≤ 4096)
    (o s : Int) (hs : s.natAbs ≤ big) (hb : (a - d.1).natAbs ≤ big) (he : (d.1 + (d.2 : Int) - d.1 + 1).natAbs ≤ big) (k lo hi' : Option DV) :
    evSs cf epBody ((epLo kind len D A (some (.d (.int o))) (some (.d (.int s))) k lo hi').set 4 (some (.d (.int (i : Int))))) H
      = if d.1 ≤ a ∧ a ≤ d.1 + d.2 then some (.next (epLo kind len D A (some (.d (.int (o + (a - d.1) * s)))) (some (.d (.int (s * (d.1 + (d.2 : Int) - d.1 + 1))))) (some (.d (.int (i : Int)))) (some (.d (.int d.1))) (some (.d (.int (d.1 + d.2))))) H)
        else some (.err .fresh (Str.ofString "subscript") H) := by
  have h1 : (i : Int) ≤ 4096 := by omega
  by_cases q1 : a < d.1
  · rw [if_neg (by omega)]
    simp [epBody, epLo, h1, hd, ha, rowD, dimD, tupItems, setAll, q1]
  · by_cases q2 : d.1 + (d.2 : Int) < a
    · rw [if_neg (by omega)]
      simp [epBody, epLo, h1, hd, ha, rowD, dimD, tupItems, setAll, q1, q2]
    · rw [if_pos (by omega)]
      simp [epBody, epLo, h1, hd, ha, rowD, dimD, tupItems, setAll, q1, q2, hs, hb, he]

theorem ep_loop (cf : CF) (H : Hp) (kind len : Int) (D : List (Int × Nat)) (A : List Int) : ∀ (D2 : List (Int × Nat)) (A2 : List Int) (i : Nat), D.drop i = D2 → A.drop i = A2 → A2.length = D2.length → i + D2.length ≤ 100 →
    (∀ d ∈ D2, d.1.natAbs ≤ 50 ∧ d.2 ≤ 50) → (∀ a ∈ A2, a.natAbs ≤ 50) → ∀ (o : Int) (s : Nat), s * cntN D2 ≤ 4000 → ∀ k lo hi,
    ∃ k' lo' hi', loopV (fun v lo H => evSs cf epBody (lo.set 4 (some v)) H) ((List.range' i D2.length).map fun (k : Nat) => .d (.int (k : Int))) (epLo kind len D A (some (.d (.int o))) (some (.d (.int (s : Int)))) k lo hi) H
      = match offs D2 A2 with
        | some j => some (.next (epLo kind len D A (some (.d (.int (o + s * j)))) (some (.d (.int ((s * cntN D2 : Nat) : Int)))) k' lo' hi') H)
        | .none => some (.err .held (Str.ofString "subscript") H)
  | [], [], i, _, _, _, _, _, _, o, s, _, k, lo, hi => ⟨k, lo, hi, by simp [loopV, offs, cntN]⟩
  | [], _ :: _, _, _, _, h, _, _, _, _, _, _, _, _, _ => by cases h
  | _ :: _, [], _, _, _, h, _, _, _, _, _, _, _, _, _ => by cases h
  | d :: D2, a :: A2, i, hD, hA, h, hl, bD, bA, o, s, hs, k, lo, hi => by
    have hd : D[i]? = some d := by
      have := congrArg (fun l => l[0]?) hD
      simpa using this
    have ha : A[i]? = some a := by
      have := congrArg (fun l => l[0]?) hA
      simpa using this
    have hD' : D.drop (i + 1) = D2 := by
      have := congrArg (List.drop 1) hD
      simpa [List.drop_drop] using this
    have hA' : A.drop (i + 1) = A2 := by
      have := congrArg (List.drop 1) hA
      simpa [List.drop_drop] using this
    have b1 := bD d (.head _)
    have b2 := bA a (.head _)
    have hp := cntN_pos (d :: D2)
    have hs0 : s ≤ 4000 := Nat.le_trans (Nat.le_mul_of_pos_right s hp) hs
    have st := ep_step cf H kind len D A i d a hd ha (by simp at hl; omega) o (s : Int) (by unfold big; omega) (by unfold big; omega) (by unfold big; omega) k lo hi
    rw [List.length_cons, List.range'_succ, List.map_cons, loopV, st]
    by_cases q : d.1 ≤ a ∧ a ≤ d.1 + d.2
    · rw [if_pos q]
      simp only []
      have hs2 : (s * (d.2 + 1)) * cntN D2 ≤ 4000 := by rw [Nat.mul_assoc]; exact hs
      have es : (s : Int) * (d.1 + (d.2 : Int) - d.1 + 1) = ((s * (d.2 + 1) : Nat) : Int) := by
        rw [Int.natCast_mul]
        congr 1
        omega
      obtain ⟨k', lo', hi', e⟩ := ep_loop cf H kind len D A D2 A2 (i + 1) hD' hA' (by simpa using h) (by simp at hl; omega) (fun x hx => bD x (.tail _ hx)) (fun x hx => bA x (.tail _ hx)) (o + (a - d.1) * s) (s * (d.2 + 1)) hs2 (some (.d (.int (i : Int)))) (some (.d (.int d.1))) (some (.d (.int (d.1 + d.2))))
      refine ⟨k', lo', hi', ?_⟩
      rw [es, e, offs, if_pos q]
      cases hj : offs D2 A2 with
      | none => rfl
      | some j =>
        show some (RS.next _ _) = some (RS.next _ _)
        have e1 : o + (a - d.1) * (s : Int) + ((s * (d.2 + 1) : Nat) : Int) * (j : Int) = o + (s : Int) * (((a - d.1).toNat + (d.2 + 1) * j : Nat) : Int) := by
          have : (((a - d.1).toNat : Nat) : Int) = a - d.1 := by omega
          rw [Int.natCast_add, this, Int.mul_add, Int.natCast_mul, Int.natCast_mul, Int.mul_comm (a - d.1), Int.mul_assoc, Int.add_assoc]
        rw [e1, show s * (d.2 + 1) * cntN D2 = s * cntN (d :: D2) by rw [cntN, Nat.mul_assoc]]
    · rw [if_neg q]
      simp only []
      refine ⟨k, lo, hi, ?_⟩
      rw [offs, if_neg q]
noncomputable def epRes (kind len : Int) (w : Nat) (r : Option Nat) (H : Hp) : Option (Rx DV) := match r with
  | some o => some (.ok (.d (.tuple [.int kind, .int (5 + o * w), .int len, .tuple []])) H)
  | .none => some (.err (Str.ofString "subscript") H)
theorem usz_le (kind : Int) (len : Nat) (hl : len ≤ 16) : usz kind len ≤ 16 := by
  unfold usz cnt
  split
  · exact hl
  · split <;> omega
theorem offs_lt : ∀ (D : List (Int × Nat)) (A : List Int) (o : Nat), offs D A = some o → o < cntN D
  | [], [], o, h => by cases h; exact Nat.one_pos
  | [], _ :: _, _, h => by cases h
  | _ :: _, [], _, h => by cases h
  | d :: D, a :: A, o, h => by
    rw [offs] at h
    split at h
    · rename_i q
      obtain ⟨j, hj, e⟩ := Option.map_eq_some_iff.mp h
      have := offs_lt D A j hj
      rw [cntN, ← e]
      have h1 : (d.2 + 1) * (j + 1) ≤ (d.2 + 1) * cntN D := Nat.mul_le_mul_left _ this
      rw [Nat.mul_add] at h1
      omega
    · cases h
theorem elementPlace_eq (n : Nat) (H : Hp) (kind : Int) (len : Nat) (hlen : len ≤ 16) (D : List (Int × Nat)) (A : List Int) (hD : D.length ≤ 100) (hA : A.length ≤ 100)
    (bA : ∀ a ∈ A, a.natAbs ≤ 50) (bD : ∀ d ∈ D, d.1.natAbs ≤ 50 ∧ d.2 ≤ 50) (hn : cntN D ≤ 4000) :
    callN defs (n + 3) .elementPlace [.d (.tuple [.int kind, .int 5, .int len, .tuple (D.map dimD)]), .d (rowD A)] H
      = if A.length = D.length then epRes kind len (usz kind len) (offs D A) H else some (.err (Str.ofString "subscript") H) := by
  have h1 : D.length ≤ 4096 := by omega
  have h2 : A.length ≤ 4096 := by omega
  by_cases hl : A.length = D.length
  · rw [if_pos hl]
    obtain ⟨k, lo, hi, e⟩ := ep_loop (callN defs (n + 2)) H kind len D A D A 0 rfl rfl hl (by omega) bD bA 0 1 (by omega) .none .none .none
    have e0 : d_elementPlace.body = [.unpack [5, 6, 7, 8] (.var 0), .ife (.cmp .ne (.len (.var 1)) (.len (.var 8))) [.raise "subscript"] [], .assign 2 (.int 0), .assign 3 (.int 1)] ++ [.forR 4 .none (.len (.var 8)) epBody, .ret (.tup [(.var 5), (.bin .add (.var 6) (.bin .mul (.var 2) (.call .unitSize [(.var 5), (.var 7)]))), (.var 7), (.tup [])])] := rfl
    have s1 : evSs (callN defs (n + 2)) [.unpack [5, 6, 7, 8] (.var 0), .ife (.cmp .ne (.len (.var 1)) (.len (.var 8))) [.raise "subscript"] [], .assign 2 (.int 0), .assign 3 (.int 1)] (initLo (defs .elementPlace) [.d (.tuple [.int kind, .int 5, .int len, .tuple (D.map dimD)]), .d (rowD A)]) H = some (.next (epLo kind len D A (some (.d (.int 0))) (some (.d (.int 1))) .none .none .none) H) := by
      simp [d_elementPlace, epLo, tupItems, setAll, rowD, h1, h2, hl]
    have s2 : evS (callN defs (n + 2)) (.forR 4 .none (.len (.var 8)) epBody) (epLo kind len D A (some (.d (.int 0))) (some (.d (.int 1))) .none .none .none) H = (match offs D A with | some j => some (.next (epLo kind len D A (some (.d (.int (0 + ((1 : Nat) : Int) * j)))) (some (.d (.int ((1 * cntN D : Nat) : Int)))) k lo hi) H) | .none => some (.err .held (Str.ofString "subscript") H)) := by
      rw [forR_eq _ _ _ _ _ _ _ 0 (D.length : Int) .none rfl rfl (by simp [epLo, h1]) (by unfold small; rw [decide_eq_true (by decide), decide_eq_true (by omega)]; rfl)]
      rw [show ((rngI 0 (D.length : Int)).map fun k => DV.d (.int k)) = (List.range' 0 D.length).map fun (k : Nat) => .d (.int (k : Int)) by
        unfold rngI; rw [List.map_map, ← List.range_eq_range', show ((D.length : Int) - 0).toNat = D.length by omega]; congr 1; funext k; simp]
      exact e
    have key : evSs (callN defs (n + 2)) d_elementPlace.body (initLo (defs .elementPlace) [.d (.tuple [.int kind, .int 5, .int len, .tuple (D.map dimD)]), .d (rowD A)]) H
        = match offs D A with
          | some j => some (.ret (.d (.tuple [.int kind, .int (5 + j * usz kind len), .int len, .tuple []])) H)
          | .none => some (.err .held (Str.ofString "subscript") H) := by
      rw [e0, evSs_app, s1]
      simp only []
      rw [evSs_cons, s2]
      cases ho : offs D A with
      | none => rfl
      | some j =>
        have hj := offs_lt D A j ho
        have hu := unitSize_eq n H kind len
        have hw := usz_le kind len hlen
        have b1 : j ≤ big := by unfold big; omega
        have b2 : usz kind len ≤ big := by unfold big; omega
        simp [epLo, hu, b1, b2]
    rw [callN_succ]
    show (match evSs (callN defs (n + 2)) d_elementPlace.body _ H with | some (.ret v H') => _ | some (.next _ H') => _ | some (.err _ t H') => _ | .none => _) = _
    rw [key]
    cases offs D A <;> rfl
  · rw [if_neg hl]
    have hl' : ¬ (A.length : Int) = D.length := by omega
    rw [callN_succ]
    simp [d_elementPlace, tupItems, setAll, rowD, h1, h2, hl']
end Mine
end

section
set_option autoImplicit false
set_option maxRecDepth 100000
namespace Mine
open Ev

noncomputable def shD (c : Int) (k : Nat) : Int × Nat := (Int.fmod (Int.fdiv (Int.fdiv c 4) (9 ^ k)) 3 - 1, (Int.fmod (Int.fdiv (Int.fdiv c 12) (9 ^ k)) 3).toNat)
theorem fmod3 (x : Int) : 0 ≤ Int.fmod x 3 ∧ Int.fmod x 3 < 3 := fm_pos x 3 (by decide)
theorem shD_b (c : Int) (k : Nat) : (shD c k).1.natAbs ≤ 1 ∧ (shD c k).2 ≤ 2 := by
  unfold shD
  have h1 := fmod3 (Int.fdiv (Int.fdiv c 4) (9 ^ k))
  have h2 := fmod3 (Int.fdiv (Int.fdiv c 12) (9 ^ k))
  constructor
  · show (Int.fmod _ 3 - 1).natAbs ≤ 1
    omega
  · show (Int.fmod _ 3).toNat ≤ 2
    omega
noncomputable def shBody : List MS := [.assign 3 (.bin .sub (.bin .mod (.bin .fdiv (.bin .fdiv (.var 0) (.int 4)) (.bin .pow (.int 9) (.var 2))) (.int 3)) (.int 1)), .append (.var 1) (.tup [(.var 3), (.bin .add (.var 3) (.bin .mod (.bin .fdiv (.bin .fdiv (.var 0) (.int 12)) (.bin .pow (.int 9) (.var 2))) (.int 3)))])]
theorem sh_step (cf : CF) (H : Hp) (c : Int) (k : Nat) (hk : k < 3) (acc : List PyData) (ha : acc.length ≤ 10) (x y : Option DV) :
    evSs cf shBody (([some (.d (.int c)), some (.ml H.length), x, y] : Lo).set 2 (some (.d (.int (k : Int))))) (H ++ [some acc])
      = some (.next [some (.d (.int c)), some (.ml H.length), some (.d (.int (k : Int))), some (.d (.int (shD c k).1))] (H ++ [some (acc ++ [dimD (shD c k)])])) := by
  have h1 : ¬ big < 4 := by decide
  have h2 : ¬ big < 12 := by decide
  have h3 : (k : Int) ≤ 8 := by omega
  have h4 : ¬ ((9 : Int) ^ k = 0) := by
    have : k = 0 ∨ k = 1 ∨ k = 2 := by omega
    rcases this with rfl | rfl | rfl <;> decide
  have h8 : ¬ (big < 9 ^ k) := by
    have : k = 0 ∨ k = 1 ∨ k = 2 := by omega
    rcases this with rfl | rfl | rfl <;> decide
  have h5 : acc.length ≤ 4096 := by omega
  have h6 := (fmod3 (Int.fdiv (Int.fdiv c 12) (9 ^ k))).1
  have h7 : max (Int.fmod (Int.fdiv (Int.fdiv c 12) (9 ^ k)) 3) 0 = Int.fmod (Int.fdiv (Int.fdiv c 12) (9 ^ k)) 3 := by omega
  simp [shBody, h1, h2, h3, h4, h8, h5, shD, dimD, h7]
theorem sh_loop (cf : CF) (H : Hp) (c : Int) : ∀ (m i : Nat) (acc : List PyData), i + m ≤ 3 → acc.length + m ≤ 10 → ∀ x y, ∃ x' y',
    loopV (fun v lo H => evSs cf shBody (lo.set 2 (some v)) H) ((List.range' i m).map fun (k : Nat) => .d (.int (k : Int))) [some (.d (.int c)), some (.ml H.length), x, y] (H ++ [some acc])
      = some (.next [some (.d (.int c)), some (.ml H.length), x', y'] (H ++ [some (acc ++ ((List.range' i m).map (shD c)).map dimD)]))
  | 0, i, acc, _, _, x, y => ⟨x, y, by simp [loopV]⟩
  | m + 1, i, acc, h, h', x, y => by
    obtain ⟨x', y', e⟩ := sh_loop cf H c m (i + 1) (acc ++ [dimD (shD c i)]) (by omega) (by simp; omega) (some (.d (.int (i : Int)))) (some (.d (.int (shD c i).1)))
    refine ⟨x', y', ?_⟩
    rw [List.range'_succ, List.map_cons, loopV, sh_step cf H c i (by omega) acc (by omega) x y]
    simp only []
    rw [e, List.append_assoc]
    rfl
theorem rng_nat (n : Nat) : ((rngI 0 (n : Int)).map fun k => DV.d (.int k)) = (List.range' 0 n).map fun (k : Nat) => .d (.int (k : Int)) := by
  unfold rngI
  rw [List.map_map, ← List.range_eq_range', show ((n : Int) - 0).toNat = n by omega]
  congr 1
  funext k
  simp
noncomputable def shDs (c : Int) : List (Int × Nat) := (List.range' 0 (Int.fmod c 4).toNat).map (shD c)
theorem shDs_len (c : Int) : (shDs c).length ≤ 3 := by
  unfold shDs
  rw [List.length_map, List.length_range']
  have := Int.fmod_lt_of_pos c (show (0 : Int) < 4 by decide)
  omega
theorem shDs_b {c : Int} {d : Int × Nat} (h : d ∈ shDs c) : d.1.natAbs ≤ 1 ∧ d.2 ≤ 2 := by
  obtain ⟨k, _, rfl⟩ := List.mem_map.mp h
  exact shD_b c k
theorem cntN_le : ∀ (D : List (Int × Nat)), (∀ d ∈ D, d.2 ≤ 2) → cntN D ≤ 3 ^ D.length
  | [], _ => Nat.le_refl _
  | d :: D, h => by
    have h1 := h d (.head _)
    have h2 := cntN_le D fun x hx => h x (.tail _ hx)
    rw [cntN, List.length_cons, Nat.pow_succ, Nat.mul_comm]
    exact Nat.mul_le_mul h2 (by omega)
theorem cntN_27 {D : List (Int × Nat)} (hl : D.length ≤ 3) (h : ∀ d ∈ D, d.2 ≤ 2) : cntN D ≤ 27 :=
  Nat.le_trans (cntN_le D h) (Nat.pow_le_pow_right (by decide) hl)
theorem lawShapes_eq (n : Nat) (H : Hp) (c : Int) : callN defs (n + 1) .lawShapes [.d (.int c)] H = some (.ok (.d (.tuple ((shDs c).map dimD))) (H ++ [.none])) := by
  have b0 := (fm_pos c 4 (by decide)).1
  have b1 := (fm_pos c 4 (by decide)).2
  have hl := shDs_len c
  obtain ⟨m, hm⟩ : ∃ m : Nat, Int.fmod c 4 = m := ⟨(Int.fmod c 4).toNat, by omega⟩
  obtain ⟨x, y, e⟩ := sh_loop (callN defs n) H c m 0 [] (by omega) (by simp; omega) .none .none
  have e0 : d_lawShapes.body = [.assign 1 .mlist] ++ [.forR 2 .none (.bin .mod (.var 0) (.int 4)) shBody, .ret (.tupOf (.freeze (.var 1)))] := rfl
  have ei : initLo (defs .lawShapes) [.d (.int c)] = [some (.d (.int c)), .none, .none, .none] := rfl
  have s1 : evSs (callN defs n) [.assign 1 .mlist] [some (.d (.int c)), .none, .none, .none] H = some (.next [some (.d (.int c)), some (.ml H.length), .none, .none] (H ++ [some []])) := by
    simp []
  have s2 : evS (callN defs n) (.forR 2 .none (.bin .mod (.var 0) (.int 4)) shBody) [some (.d (.int c)), some (.ml H.length), .none, .none] (H ++ [some []]) = some (.next [some (.d (.int c)), some (.ml H.length), x, y] (H ++ [some ([] ++ (shDs c).map dimD)])) := by
    rw [forR_eq _ _ _ _ _ _ _ 0 (m : Int) .none rfl rfl (by simp [hm]) (by unfold small; rw [decide_eq_true (by decide), decide_eq_true (by omega)]; rfl), rng_nat]
    rw [show shDs c = (List.range' 0 m).map (shD c) by unfold shDs; rw [hm]; rfl]
    exact e
  have hl' : (shDs c).length ≤ 4096 := by omega
  have key : evSs (callN defs n) d_lawShapes.body (initLo (defs .lawShapes) [.d (.int c)]) H = some (.ret (.d (.tuple ((shDs c).map dimD))) (H ++ [.none])) := by
    rw [e0, ei, evSs_app, s1]
    simp only []
    rw [evSs_cons, s2]
    simp [hl']
  rw [callN_succ]
  show (match evSs (callN defs n) d_lawShapes.body _ H with | some (.ret v H') => _ | some (.next _ H') => _ | some (.err _ t H') => _ | .none => _) = _
  rw [key]
end Mine
end

section
set_option autoImplicit false
set_option maxRecDepth 100000
namespace Mine
open Ev

noncomputable def exBody : List MS := [.ife (.cmp .is (.var 3) .none) [.ret .none] [], .aug 1 .mul (.bin .add (.bin .sub (.var 3) (.var 2)) (.int 1))]
theorem ex_step (cf : CF) (H : Hp) (x : Option DV) (d : Int × Nat) (s : Nat) (hs : s ≤ 4000) (hd : d.2 ≤ 50) (lo hi : Option DV) :
    ((tupItems (.d (dimD d))).bind fun es => (setAll [x, some (.d (.int (s : Int))), lo, hi] [2, 3] es).bind fun lo' => evSs cf exBody lo' H)
      = some (.next [x, some (.d (.int ((s * (d.2 + 1) : Nat) : Int))), some (.d (.int d.1)), some (.d (.int (d.1 + d.2)))] H) := by
  have b1 : s ≤ big := by unfold big; lia
  have b2 : (d.1 + (d.2 : Int) - d.1 + 1).natAbs ≤ big := by unfold big; lia
  have e : (s : Int) * (d.1 + (d.2 : Int) - d.1 + 1) = ((s * (d.2 + 1) : Nat) : Int) := by
    rw [Int.natCast_mul]
    congr 1
    lia
  rw [← e]
  simp [exBody, tupItems, dimD, setAll, b1, b2]
theorem ex_loop (cf : CF) (H : Hp) (x : Option DV) : ∀ (D : List (Int × Nat)) (s : Nat), (∀ d ∈ D, d.2 ≤ 50) → s * cntN D ≤ 4000 → ∀ lo hi, ∃ lo' hi',
    loopV (fun v lo H => (tupItems v).bind fun es => (setAll lo [2, 3] es).bind fun lo' => evSs cf exBody lo' H) (D.map fun d => .d (dimD d)) [x, some (.d (.int (s : Int))), lo, hi] H
      = some (.next [x, some (.d (.int ((s * cntN D : Nat) : Int))), lo', hi'] H)
  | [], s, _, _, lo, hi => ⟨lo, hi, by simp [loopV, cntN]⟩
  | d :: D, s, hd, hs, lo, hi => by
    have hs0 : s ≤ 4000 := Nat.le_trans (Nat.le_mul_of_pos_right s (cntN_pos (d :: D))) hs
    obtain ⟨lo', hi', e⟩ := ex_loop cf H x D (s * (d.2 + 1)) (fun y hy => hd y (.tail _ hy)) (by rw [Nat.mul_assoc]; exact hs) (some (.d (.int d.1))) (some (.d (.int (d.1 + d.2))))
    refine ⟨lo', hi', ?_⟩
    rw [List.map_cons, loopV]
    simp only [ex_step cf H x d s hs0 (hd d (.head _)) lo hi]
    rw [e, Nat.mul_assoc, cntN]
theorem extent_eq (n : Nat) (H : Hp) (D : List (Int × Nat)) (hd : ∀ d ∈ D, d.2 ≤ 50) (hn : cntN D ≤ 4000) : callN defs (n + 1) .extent [.d (.tuple (D.map dimD))] H = some (.ok (.d (.int (cntN D))) H) := by
  obtain ⟨lo, hi, e⟩ := ex_loop (callN defs n) H (some (.d (.tuple (D.map dimD)))) D 1 hd (by lia) .none .none
  have e0 : d_extent.body = [.assign 1 (.int 1), .forU [2, 3] (.var 0) exBody, .ret (.var 1)] := rfl
  have ei : initLo (defs .extent) [.d (.tuple (D.map dimD))] = [some (.d (.tuple (D.map dimD))), .none, .none, .none] := rfl
  have s1 : evS (callN defs n) (.assign 1 (.int 1)) [some (.d (.tuple (D.map dimD))), .none, .none, .none] H = some (.next [some (.d (.tuple (D.map dimD))), some (.d (.int 1)), .none, .none] H) := rfl
  have s2 : evS (callN defs n) (.forU [2, 3] (.var 0) exBody) [some (.d (.tuple (D.map dimD))), some (.d (.int 1)), .none, .none] H = some (.next [some (.d (.tuple (D.map dimD))), some (.d (.int ((1 * cntN D : Nat) : Int))), lo, hi] H) := by
    rw [evS_forU]
    show (loopV _ ((D.map dimD).map .d) _ _) = _
    rw [List.map_map]
    exact e
  rw [callN_succ]
  show (match evSs (callN defs n) d_extent.body _ H with | some (.ret v H') => _ | some (.next _ H') => _ | some (.err _ t H') => _ | .none => _) = _
  rw [e0, ei, evSs_cons, s1]
  simp only []
  rw [evSs_cons, s2]
  simp only [Nat.one_mul]
  rfl

theorem compL_map (f : DV → Hp → Option (Rx DV)) (g : Int → PyData) (H : Hp) : ∀ l : List Int, (∀ k ∈ l, f (.d (.int k)) H = some (.ok (.d (g k)) H)) → compL f l H = some (l.map g, H)
  | [], _ => rfl
  | k :: l, h => by
    rw [compL, h k (.head _)]
    simp only []
    rw [compL_map f g H l fun x hx => h x (.tail _ hx)]
    rfl
noncomputable def elL (kind len : Int) (w n : Nat) : List PyData := (rngI 0 n).map fun k => .tuple [.int kind, .int (5 + k * w), .int len, .tuple []]
theorem elL_len (kind len : Int) (w n : Nat) : (elL kind len w n).length = n := by
  unfold elL
  rw [List.length_map, law_rngI_len]
  lia
theorem ok_list : ∀ l : List PyData, (∀ x ∈ l, x.canLay0 = true ∧ x.depth ≤ 9) → PyData.canLayAll0 l = true ∧ PyData.depthAll l ≤ 9
  | [], _ => ⟨rfl, Nat.zero_le _⟩
  | x :: l, h => by
    obtain ⟨h1, h2⟩ := ok_list l fun y hy => h y (.tail _ hy)
    obtain ⟨h3, h4⟩ := h x (.head _)
    rw [PyData.canLayAll0, PyData.depthAll, h1, h3]
    exact ⟨rfl, by lia⟩
theorem okD_elL (kind len : Int) (w n : Nat) : okD (.list (elL kind len w n)) = true := by
  obtain ⟨h1, h2⟩ := ok_list (elL kind len w n) fun x hx => by
    obtain ⟨k, _, rfl⟩ := List.mem_map.mp hx
    exact ⟨rfl, by simp [PyData.depth, PyData.depthAll]⟩
  simp only [okD, SeqAt.shaped, PyData.canLay0, PyData.depth, h1, Bool.true_and]
  exact decide_eq_true (by lia)
theorem elementsOf_eq (n : Nat) (H : Hp) (kind : Int) (len : Nat) (hlen : len ≤ 16) (D : List (Int × Nat)) (hd : ∀ d ∈ D, d.2 ≤ 50) (hn : cntN D ≤ 4000) :
    callN defs (n + 3) .elementsOf [.d (.tuple [.int kind, .int 5, .int len, .tuple (D.map dimD)])] H = some (.ok (.d (.list (elL kind len (usz kind len) (cntN D)))) H) := by
  have h1 := extent_eq (n + 1) H D hd hn
  have h2 := unitSize_eq n H kind len
  have h3 : (cntN D : Int) ≤ 4096 := by lia
  have hw := usz_le kind len hlen
  have hb : usz kind len ≤ big := by unfold big; lia
  have hc : ∀ lo : Lo, lo = [some (.d (.tuple [.int kind, .int 5, .int len, .tuple (D.map dimD)])), some (.d (.int (cntN D))), some (.d (.int (usz kind len))), some (.d (.int kind)), some (.d (.int 5)), some (.d (.int len)), some (.d (.tuple (D.map dimD))), .none] →
      compL (fun v => evE (callN defs (n + 2)) ((keepOnly [3, 5, 4, 2] lo).set 7 (some v)) (.tup [(.var 3), (.bin .add (.var 4) (.bin .mul (.var 7) (.var 2))), (.var 5), (.tup [])])) (rngI 0 (cntN D)) H = some (elL kind len (usz kind len) (cntN D), H) := by
    intro lo hlo
    refine compL_map _ _ H _ fun k hk => ?_
    have hk' := rngI_mem hk
    have hkb : k.natAbs ≤ big := by unfold big; lia
    subst hlo
    simp [keepOnly, hkb, hb]
  have e0 : d_elementsOf.body = [.unpack [3, 4, 5, 6] (.var 0), .assign 1 (.call .extent [(.var 6)]), .ife (.cmp .is (.var 1) .none) [.raise "assumed size"] [], .assign 2 (.call .unitSize [(.var 3), (.var 5)])] ++ [.ret (.comp (.tup [(.var 3), (.bin .add (.var 4) (.bin .mul (.var 7) (.var 2))), (.var 5), (.tup [])]) 7 [3, 5, 4, 2] (.var 1))] := rfl
  have s1 : evSs (callN defs (n + 2)) [.unpack [3, 4, 5, 6] (.var 0), .assign 1 (.call .extent [(.var 6)]), .ife (.cmp .is (.var 1) .none) [.raise "assumed size"] [], .assign 2 (.call .unitSize [(.var 3), (.var 5)])] (initLo (defs .elementsOf) [.d (.tuple [.int kind, .int 5, .int len, .tuple (D.map dimD)])]) H
      = some (.next [some (.d (.tuple [.int kind, .int 5, .int len, .tuple (D.map dimD)])), some (.d (.int (cntN D))), some (.d (.int (usz kind len))), some (.d (.int kind)), some (.d (.int 5)), some (.d (.int len)), some (.d (.tuple (D.map dimD))), .none] H) := by
    simp [d_elementsOf, tupItems, setAll, h1, h2]
  rw [callN_succ]
  show (match evSs (callN defs (n + 2)) d_elementsOf.body _ H with | some (.ret v H') => _ | some (.next _ H') => _ | some (.err _ t H') => _ | .none => _) = _
  rw [e0, evSs_app, s1]
  simp only []
  rw [evSs_cons, evS_ret, evE_comp]
  have hv : ∀ (a b c d e f g h : Option DV) (k : Int), b = some (.d (.int k)) → evE (callN defs (n + 2)) [a, b, c, d, e, f, g, h] (.var 1) H = some (.ok (.d (.int k)) H) := by
    intro a b c d e f g h k hb
    subst hb
    simp []
  rw [hv _ _ _ _ _ _ _ _ _ rfl]
  have hnat : natOf (.d (.int (cntN D))) = some (cntN D) := by
    simp [natOf, h3]
  simp only [bnd, hnat, Option.bind_some, hc _ rfl, Option.map_some, bnS]
end Mine
end

section
set_option autoImplicit false
set_option maxRecDepth 100000
namespace Mine
open Ev

noncomputable def askRes (kind len : Int) (w : Nat) (r : Option Nat) : PyData := match r with
  | some o => .tuple [.int kind, .int (5 + o * w), .int len, .tuple []]
  | .none => .str (Str.ofString "subscript")
theorem lawAsked_elem (n : Nat) (H : Hp) (kind : Int) (len : Nat) (hlen : len ≤ 16) (D : List (Int × Nat)) (A : List Int) (hD : D.length ≤ 100) (hA : A.length ≤ 100)
    (bA : ∀ a ∈ A, a.natAbs ≤ 50) (bD : ∀ d ∈ D, d.1.natAbs ≤ 50 ∧ d.2 ≤ 50) (hn : cntN D ≤ 4000) :
    callN defs (n + 4) .lawAsked [.d (.int 0), .d (.tuple [.int kind, .int 5, .int len, .tuple (D.map dimD)]), .d (rowD A)] H
      = some (.ok (.d (if A.length = D.length then askRes kind len (usz kind len) (offs D A) else .str (Str.ofString "subscript"))) H) := by
  have h := elementPlace_eq n H kind len hlen D A hD hA bA bD hn
  rw [callN_succ]
  by_cases q : A.length = D.length
  · rw [if_pos q] at h
    cases ho : offs D A with
    | none =>
      rw [ho] at h
      simp only [epRes] at h
      simp [d_lawAsked, h, q, askRes]
    | some o =>
      rw [ho] at h
      simp only [epRes] at h
      simp [d_lawAsked, h, q, askRes]
  · rw [if_neg q] at h
    simp [d_lawAsked, h, q]

noncomputable def oD : Option Int → PyData
  | .none => .none
  | some i => .int i
noncomputable def subRes (len : Int) (lo hi : Option Int) : Option (Int × Int) :=
  if lo.getD 1 < 1 ∨ hi.getD len < lo.getD 1 ∨ len < hi.getD len then .none else some (lo.getD 1, hi.getD len)
theorem subPlace_eq (n : Nat) (H : Hp) (len : Nat) (lo hi : Option Int) :
    callN defs (n + 1) .subPlace [.d (.tuple [.int 5, .int 5, .int len, .tuple []]), .d (oD lo), .d (oD hi)] H
      = match subRes len lo hi with
        | .none => some (.err (Str.ofString "substring") H)
        | some (f, l) => some (.ok (.d (.tuple [.int 5, .int (5 + f - 1), .int (l - f + 1), .tuple []])) H) := by
  have key : ∀ f l : Int, lo.getD 1 = f → hi.getD len = l → subRes len lo hi = if f < 1 ∨ l < f ∨ (len : Int) < l then .none else some (f, l) := by
    intro f l hf hl
    unfold subRes
    rw [hf, hl]
  obtain ⟨f, hf⟩ : ∃ f, lo.getD 1 = f := ⟨_, rfl⟩
  obtain ⟨l, hl⟩ : ∃ l, hi.getD len = l := ⟨_, rfl⟩
  rw [key f l hf hl]
  have s1 : evSs (callN defs n) (d_subPlace.body.take 2) (initLo (defs .subPlace) [.d (.tuple [.int 5, .int 5, .int len, .tuple []]), .d (oD lo), .d (oD hi)]) H = some (.next [some (.d (.tuple [.int 5, .int 5, .int len, .tuple []])), some (.d (oD lo)), some (.d (oD hi)), some (.d (.int f)), some (.d (.int l))] H) := by
    cases lo <;> cases hi <;> simp at hf hl <;> subst hf <;> subst hl <;> simp [callN_succ, d_subPlace, oD]
  have e0 : d_subPlace.body = d_subPlace.body.take 2 ++ d_subPlace.body.drop 2 := rfl
  rw [callN_succ]
  show (match evSs (callN defs n) d_subPlace.body _ H with | some (.ret v H') => _ | some (.next _ H') => _ | some (.err _ t H') => _ | .none => _) = _
  rw [e0, evSs_app, s1]
  simp only []
  by_cases q1 : f < 1
  · simp [callN_succ, d_subPlace, q1]
  · by_cases q2 : l < f
    · simp [callN_succ, d_subPlace, q1, q2]
    · by_cases q3 : (len : Int) < l
      · simp [callN_succ, d_subPlace, q1, q2, q3]
      · simp [callN_succ, d_subPlace, q1, q2, q3]
theorem lawAsked_sub (n : Nat) (H : Hp) (len : Nat) (lo hi : Option Int) :
    callN defs (n + 2) .lawAsked [.d (.int 1), .d (.tuple [.int 5, .int 5, .int len, .tuple []]), .d (.list [oD lo, oD hi])] H
      = some (.ok (.d (match subRes len lo hi with
        | .none => .str (Str.ofString "substring")
        | some (f, l) => .tuple [.int 5, .int (5 + f - 1), .int (l - f + 1), .tuple []])) H) := by
  have h := subPlace_eq n H len lo hi
  rw [callN_succ]
  cases hr : subRes len lo hi with
  | none =>
    rw [hr] at h
    simp only [] at h
    simp [d_lawAsked, h]
  | some p =>
    obtain ⟨f, l⟩ := p
    rw [hr] at h
    simp only [] at h
    simp [d_lawAsked, h]
end Mine
end

section
set_option autoImplicit false
set_option maxRecDepth 100000
namespace Mine
open Ev

noncomputable def arN (z : Int) : Nat := (1 + Int.fmod (Int.fdiv z 6) 3).toNat
theorem arN_int (z : Int) : 1 + Int.fmod (Int.fdiv z 6) 3 = (arN z : Int) := by
  exact n_cast (fm_pos (Int.fdiv z 6) 3 (by decide)).1
theorem arN_b (z : Int) : 1 ≤ arN z ∧ arN z ≤ 3 := by
  have h : arN z = 1 ∨ arN z = 2 ∨ arN z = 3 := n_three (fm_pos (Int.fdiv z 6) 3 (by decide))
  omega
noncomputable def arPl (D : List (Int × Nat)) (kind : Int) (len : Nat) : PyData := .tuple [.int kind, .int 5, .int len, .tuple (D.map dimD)]
noncomputable def arLo (c z : Int) (D : List (Int × Nat)) (kind : Int) (len : Nat) (a b d e f g h : Option DV) : Lo :=
  [some (.d (.int c)), some (.d (.int z)), some (.d (.tuple (D.map dimD))), some (.d (.int kind)), some (.d (.int len)), some (.d (.int (usz kind len))), some (.d (.list ((cntR D).map rowD))), some (.d (arPl D kind len)), a, b, d, e, f, g, h, .none]

theorem ar_s1 (H : Hp) (c z : Int) : ∃ H', evSs (callN defs 5) (d_lawArrays.body.take 6) (initLo (defs .lawArrays) [.d (.int c), .d (.int z)]) H = some (.next (arLo c z (shDs c) (Int.fmod z 6) (arN z) .none .none .none .none .none .none .none) H') := by
  have hl := shDs_len c
  have hS := lawShapes_eq 4 H c
  obtain ⟨k, hC⟩ := lawCounted_eq 4 (H ++ [.none]) (shDs c) (fun x hx => by
    have h := shDs_b hx
    unfold small
    rw [decide_eq_true (by omega), decide_eq_true (by omega)]
    rfl) (by omega) (fun A B h => by
      have h1 := cntN_27 (D := B) (by rw [h, List.length_append] at hl; omega) (fun d hd => (shDs_b (by rw [h]; exact List.mem_append_right _ hd)).2)
      omega)
  refine ⟨H ++ [.none] ++ List.replicate k .none, ?_⟩
  have hn := arN_int z
  have h6 : ¬ big < 6 := by decide
  have hf := fm_pos z 6 (by decide)
  have hk : Int.fmod z 6 = 0 ∨ Int.fmod z 6 = 1 ∨ Int.fmod z 6 = 2 ∨ Int.fmod z 6 = 3 ∨ Int.fmod z 6 = 4 ∨ Int.fmod z 6 = 5 := six_cases hf
  rcases hk with hk | hk | hk | hk | hk | hk <;> simp [d_lawArrays, hS, hC, hn, h6, hk, arLo, arPl, usz, cnt]
end Mine
end

section
set_option autoImplicit false
set_option maxRecDepth 100000
namespace Mine
open Ev

theorem comp_eq (cf : CF) (lo : Lo) (elt : ME) (x : Nat) (fv : List Nat) (e : ME) (H : Hp) (n : Nat) (g : Int → PyData) (hn : n ≤ 4096) (he : evE cf lo e H = some (.ok (.d (.int (n : Int))) H))
    (hg : ∀ k ∈ rngI 0 n, evE cf ((keepOnly fv lo).set x (some (.d (.int k)))) elt H = some (.ok (.d (g k)) H)) : evE cf lo (.comp elt x fv e) H = some (.ok (.d (.list ((rngI 0 n).map g))) H) := by
  rw [evE_comp, he]
  have h3 : (n : Int) ≤ 4096 := by lia
  have hnat : natOf (.d (.int n)) = some n := by
    simp [natOf, h3]
  simp only [bnd, hnat, Option.bind_some, compL_map (fun v => evE cf ((keepOnly fv lo).set x (some v)) elt) g H _ hg, Option.map_some]

theorem tup4_eq (cf : CF) (lo : Lo) (a b c : ME) (H : Hp) (x y z : PyData) (ha : evE cf lo a H = some (.ok (.d x) H)) (hb : evE cf lo b H = some (.ok (.d y) H)) (hc : evE cf lo c H = some (.ok (.d z) H)) :
    evE cf lo (.tup [a, b, c, .tup []]) H = some (.ok (.d (.tuple [x, y, z, .tuple []])) H) := by
  simp [ha, hb, hc]
theorem ne_refl {d : PyData} (h : okD d = true) : cmpD .ne d d = some false := by
  simp [h, eqD_refl h]
theorem ar_s2 (H : Hp) (c z : Int) (D : List (Int × Nat)) (kind : Int) (len : Nat) (hlen : len ≤ 16) (hd : ∀ d ∈ D, d.2 ≤ 50) (hn : cntN D ≤ 4000) :
    evSs (callN defs 5) ((d_lawArrays.body.drop 6).take 1) (arLo c z D kind len .none .none .none .none .none .none .none) H = some (.next (arLo c z D kind len .none .none .none .none .none .none .none) H) := by
  have hE := elementsOf_eq 2 H kind len hlen D hd hn
  have hw := usz_le kind len hlen
  have hb : usz kind len ≤ big := by unfold big; lia
  have h0 : (cntR D).length ≤ 4096 := by rw [cntR_len]; lia
  have hc : evE (callN defs 5) (arLo c z D kind len .none .none .none .none .none .none .none) (.comp (.tup [(.var 3), (.bin .add (.int 5) (.bin .mul (.var 15) (.var 5))), (.var 4), (.tup [])]) 15 [3, 4, 5] (.len (.var 6))) H = some (.ok (.d (.list (elL kind len (usz kind len) (cntN D)))) H) := by
    refine comp_eq _ _ _ _ _ _ _ _ _ (by lia) (by simp [arLo, cntR_len, show cntN D ≤ 4096 by lia]) fun k hk => ?_
    have hk' := rngI_mem hk
    have hkb : k.natAbs ≤ big := by unfold big; lia
    simp [arLo, keepOnly, hkb, hb]
  have ha : evE (callN defs 5) (arLo c z D kind len .none .none .none .none .none .none .none) (.call .elementsOf [(.var 7)]) H = some (.ok (.d (.list (elL kind len (usz kind len) (cntN D)))) H) := by
    simp [arLo, arPl, hE]
  show evSs _ [.ife (.cmp .ne (.call .elementsOf [(.var 7)]) (.comp (.tup [(.var 3), (.bin .add (.int 5) (.bin .mul (.var 15) (.var 5))), (.var 4), (.tup [])]) 15 [3, 4, 5] (.len (.var 6)))) [.ret (.bool false)] []] _ _ = _
  rw [evSs_cons, evS_ife, evT_cmp, ha]
  simp only [bnd]
  rw [hc]
  simp only [bnd, datOf, Option.bind_some, ne_refl (okD_elL kind len (usz kind len) (cntN D))]
  rfl
noncomputable def arA (z : Int) (n : Nat) : List Int := (rngI 0 n).map fun k => Int.fmod (Int.fdiv (Int.fdiv z 18) (5 ^ k.toNat)) 5 - 2
theorem arA_len (z : Int) (n : Nat) : (arA z n).length = n := by
  unfold arA
  rw [List.length_map, law_rngI_len]
  lia
theorem n_abs {q : Int} (h : 0 ≤ q ∧ q < 5) : (q - 2).natAbs ≤ 2 := by omega
theorem arA_b {z : Int} {n : Nat} {a : Int} (h : a ∈ arA z n) : a.natAbs ≤ 2 := by
  obtain ⟨k, _, rfl⟩ := List.mem_map.mp h
  exact n_abs (fm_pos (Int.fdiv (Int.fdiv z 18) (5 ^ k.toNat)) 5 (by decide))
theorem ar_s3 (H : Hp) (c z : Int) (D : List (Int × Nat)) (hD : D.length ≤ 3) (kind : Int) (len : Nat) :
    evSs (callN defs 5) ((d_lawArrays.body.drop 7).take 2) (arLo c z D kind len .none .none .none .none .none .none .none) H = some (.next (arLo c z D kind len (some (.d (rowD (arA z D.length)))) (some (.d (.str (Str.ofString "subscript")))) .none .none .none .none .none) H) := by
  have h0 : D.length ≤ 4096 := by lia
  have hc : evE (callN defs 5) (arLo c z D kind len .none .none .none .none .none .none .none) (.comp (.bin .sub (.bin .mod (.bin .fdiv (.bin .fdiv (.var 1) (.int 18)) (.bin .pow (.int 5) (.var 15))) (.int 5)) (.int 2)) 15 [1] (.len (.var 2))) H
      = some (.ok (.d (.list ((rngI 0 D.length).map fun k => .int (Int.fmod (Int.fdiv (Int.fdiv z 18) (5 ^ k.toNat)) 5 - 2)))) H) := by
    refine comp_eq _ _ _ _ _ _ _ _ _ (by lia) (by simp [arLo, h0]) fun k hk => ?_
    have hk' := rngI_mem hk
    obtain ⟨j, rfl⟩ : ∃ j : Nat, k = (j : Int) := ⟨k.toNat, by lia⟩
    have hj : j = 0 ∨ j = 1 ∨ j = 2 := by lia
    have h1 : ¬ big < 18 := by decide
    have h2 : (j : Int) ≤ 8 := by lia
    have h4 : ¬ ((5 : Int) ^ j = 0) := by rcases hj with rfl | rfl | rfl <;> decide
    have h8 : ¬ (big < 5 ^ j) := by rcases hj with rfl | rfl | rfl <;> decide
    simp [arLo, keepOnly, h1, h2, h4, h8]
  have hr : rowD (arA z D.length) = .list ((rngI 0 D.length).map fun k => .int (Int.fmod (Int.fdiv (Int.fdiv z 18) (5 ^ k.toNat)) 5 - 2)) := by
    unfold rowD arA
    rw [List.map_map]
    rfl
  show evSs _ [.assignC 8 (.comp (.bin .sub (.bin .mod (.bin .fdiv (.bin .fdiv (.var 1) (.int 18)) (.bin .pow (.int 5) (.var 15))) (.int 5)) (.int 2)) 15 [1] (.len (.var 2))), .assign 9 (.str "subscript")] _ _ = _
  rw [evSs_cons, evS_assignC, hc, hr]
  rfl
theorem ar_s4 (H : Hp) (c z : Int) (D : List (Int × Nat)) (hn : cntN D ≤ 4000) (kind : Int) (len : Nat) (hlen : len ≤ 16) (A : List Int) (hA : A.length = D.length) :
    evSs (callN defs 5) ((d_lawArrays.body.drop 9).take 1) (arLo c z D kind len (some (.d (rowD A))) (some (.d (.str (Str.ofString "subscript")))) .none .none .none .none .none) H
      = some (.next (arLo c z D kind len (some (.d (rowD A))) (some (.d (askRes kind len (usz kind len) (offs D A)))) .none .none .none .none .none) H) := by
  have h0 : (cntR D).length ≤ 4096 := by rw [cntR_len]; lia
  have h1 := any_cnt D A hA
  have h2 := idxOf_cnt D A hA
  have h3 := okD_row A
  have h4 := okD_rows D
  have hi : cmpD .inn (rowD A) (.list ((cntR D).map rowD)) = some (offs D A).isSome := by
    show (if (okD (rowD A) && ((cntR D).map rowD).all okD) = true then _ else _) = _
    rw [h3, h4, h1]
    rfl
  have hc : evT (callN defs 5) (arLo c z D kind len (some (.d (rowD A))) (some (.d (.str (Str.ofString "subscript")))) .none .none .none .none .none) (.cmp .inn (.var 8) (.var 6)) H = some (.ok (offs D A).isSome H) := by
    show up (((datOf (.d (rowD A))).bind fun x => (datOf (.d (.list ((cntR D).map rowD)))).bind fun y => cmpD .inn x y)) H = _
    show up (cmpD .inn (rowD A) (.list ((cntR D).map rowD))) H = _
    rw [hi]
    rfl
  show evSs _ [.ife (.cmp .inn (.var 8) (.var 6)) [.assign 9 (.tup [(.var 3), (.bin .add (.int 5) (.bin .mul (.index (.var 6) (.var 8)) (.var 5))), (.var 4), (.tup [])])] []] _ _ = _
  rw [evSs_cons, evS_ife, hc]
  simp only [bnS]
  cases ho : offs D A with
  | none => rfl
  | some o =>
    have hj := offs_lt D A o ho
    have hw := usz_le kind len hlen
    have b1 : o ≤ big := by unfold big; lia
    have b2 : usz kind len ≤ big := by unfold big; lia
    rw [ho] at h2
    have hx : evE (callN defs 5) (arLo c z D kind len (some (.d (rowD A))) (some (.d (.str (Str.ofString "subscript")))) .none .none .none .none .none) (.index (.var 6) (.var 8)) H = some (.ok (.d (.int (o : Int))) H) := by
      show (if ((cntR D).map rowD).length ≤ 4096 then if (okD (rowD A) && ((cntR D).map rowD).all okD) = true then up ((idxOf ((cntR D).map rowD) (rowD A)).map fun (n : Nat) => DV.d (.int (n : Int))) H else .none else .none) = _
      rw [if_pos (by rw [List.length_map]; exact h0), h3, h4, h2]
      rfl
    have hx5 : evE (callN defs 5) (arLo c z D kind len (some (.d (rowD A))) (some (.d (.str (Str.ofString "subscript")))) .none .none .none .none .none) (.bin .add (.int 5) (.bin .mul (.index (.var 6) (.var 8)) (.var 5))) H = some (.ok (.d (.int (5 + o * usz kind len))) H) := by
      rw [evE_bin, evE_int]
      simp only [bnd]
      rw [evE_bin, hx]
      simp [arLo, b1, b2]
    simp only [Option.isSome_some, if_true]
    have ht : evE (callN defs 5) (arLo c z D kind len (some (.d (rowD A))) (some (.d (.str (Str.ofString "subscript")))) .none .none .none .none .none) (.tup [(.var 3), (.bin .add (.int 5) (.bin .mul (.index (.var 6) (.var 8)) (.var 5))), (.var 4), (.tup [])]) H = some (.ok (.d (.tuple [.int kind, .int (5 + o * usz kind len), .int len, .tuple []])) H) := by
      exact tup4_eq _ _ _ _ _ _ (.int kind) _ (.int len) rfl hx5 rfl
    rw [evSs_cons, evS_assign, ht]
    rfl
end Mine
end

section
set_option autoImplicit false
set_option maxRecDepth 100000
namespace Mine
open Ev

theorem evEs3 (cf : CF) (lo : Lo) (a b c : ME) (H : Hp) (x y z : DV) (ha : evE cf lo a H = some (.ok x H)) (hb : evE cf lo b H = some (.ok y H)) (hc : evE cf lo c H = some (.ok z H)) :
    evEs cf lo [a, b, c] H = some (.ok [x, y, z] H) := by
  simp [ha, hb, hc]
theorem ok_subscript : okD (.str (Str.ofString "subscript")) = true := by
  have : PyData.strOk (Str.ofString "subscript") = true := by decide +kernel
  simp [okD, SeqAt.shaped, PyData.canLay0, PyData.depth, this]
theorem ok_substring : okD (.str (Str.ofString "substring")) = true := by
  have : PyData.strOk (Str.ofString "substring") = true := by decide +kernel
  simp [okD, SeqAt.shaped, PyData.canLay0, PyData.depth, this]
theorem okD_ask (kind len : Int) (w : Nat) (r : Option Nat) : okD (askRes kind len w r) = true := by
  cases r with
  | none => exact ok_subscript
  | some o => exact okD_tup4 _ _ _
theorem ar_s5 (H : Hp) (c z : Int) (D : List (Int × Nat)) (hD : D.length ≤ 3) (hd : ∀ d ∈ D, d.1.natAbs ≤ 50 ∧ d.2 ≤ 50) (hn : cntN D ≤ 4000) (kind : Int) (len : Nat) (hlen : len ≤ 16) (A : List Int) (hA : A.length = D.length) (bA : ∀ a ∈ A, a.natAbs ≤ 2) :
    evSs (callN defs 5) ((d_lawArrays.body.drop 10).take 1) (arLo c z D kind len (some (.d (rowD A))) (some (.d (askRes kind len (usz kind len) (offs D A)))) .none .none .none .none .none) H
      = some (.next (arLo c z D kind len (some (.d (rowD A))) (some (.d (askRes kind len (usz kind len) (offs D A)))) .none .none .none .none .none) H) := by
  have h1 := lawAsked_elem 1 H kind len hlen D A (by lia) (by lia) (fun a h => by have := bA a h; lia) hd hn
  have h2 := lawAsked_elem 1 H kind len hlen D (A ++ [1]) (by lia) (by simp; lia) (fun a h => by
    rcases List.mem_append.mp h with h | h
    · have := bA a h; lia
    · rw [List.mem_singleton.mp h]; decide) hd hn
  rw [if_pos hA] at h1
  rw [if_neg (by simp; lia)] at h2
  have hz : A.length ≤ 4096 := by lia
  have e1 : evE (callN defs 5) (arLo c z D kind len (some (.d (rowD A))) (some (.d (askRes kind len (usz kind len) (offs D A)))) .none .none .none .none .none) (.call .lawAsked [(.int 0), (.var 7), (.var 8)]) H = some (.ok (.d (askRes kind len (usz kind len) (offs D A))) H) := by
    rw [evE_call]
    show (callN defs 5 .lawAsked [.d (.int 0), .d (arPl D kind len), .d (rowD A)] H) = _
    exact h1
  have e3 : evE (callN defs 5) (arLo c z D kind len (some (.d (rowD A))) (some (.d (askRes kind len (usz kind len) (offs D A)))) .none .none .none .none .none) (.bin .add (.var 8) (.list [(.int 1)])) H = some (.ok (.d (rowD (A ++ [1]))) H) := by
    simp [arLo, rowD, hz]
  have e2 : evE (callN defs 5) (arLo c z D kind len (some (.d (rowD A))) (some (.d (askRes kind len (usz kind len) (offs D A)))) .none .none .none .none .none) (.call .lawAsked [(.int 0), (.var 7), (.bin .add (.var 8) (.list [(.int 1)]))]) H = some (.ok (.d (.str (Str.ofString "subscript"))) H) := by
    rw [evE_call]
    have : evEs (callN defs 5) (arLo c z D kind len (some (.d (rowD A))) (some (.d (askRes kind len (usz kind len) (offs D A)))) .none .none .none .none .none) [(.int 0), (.var 7), (.bin .add (.var 8) (.list [(.int 1)]))] H = some (.ok [.d (.int 0), .d (arPl D kind len), .d (rowD (A ++ [1]))] H) := by
      exact evEs3 _ _ _ _ _ _ (.d (.int 0)) (.d (arPl D kind len)) _ rfl rfl e3
    rw [this]
    exact h2
  have t1 : evT (callN defs 5) (arLo c z D kind len (some (.d (rowD A))) (some (.d (askRes kind len (usz kind len) (offs D A)))) .none .none .none .none .none) (.cmp .ne (.call .lawAsked [(.int 0), (.var 7), (.var 8)]) (.var 9)) H = some (.ok false H) := by
    rw [evT_cmp, e1]
    show up (cmpD .ne (askRes kind len (usz kind len) (offs D A)) (askRes kind len (usz kind len) (offs D A))) H = _
    rw [ne_refl (okD_ask _ _ _ _)]
    rfl
  have t2 : evT (callN defs 5) (arLo c z D kind len (some (.d (rowD A))) (some (.d (askRes kind len (usz kind len) (offs D A)))) .none .none .none .none .none) (.cmp .ne (.call .lawAsked [(.int 0), (.var 7), (.bin .add (.var 8) (.list [(.int 1)]))]) (.str "subscript")) H = some (.ok false H) := by
    rw [evT_cmp, e2]
    show up (cmpD .ne (.str (Str.ofString "subscript")) (.str (Str.ofString "subscript"))) H = _
    rw [ne_refl ok_subscript]
    rfl
  show evSs _ [.ife (.bools false [(.cmp .ne (.call .lawAsked [(.int 0), (.var 7), (.var 8)]) (.var 9)), (.cmp .ne (.call .lawAsked [(.int 0), (.var 7), (.bin .add (.var 8) (.list [(.int 1)]))]) (.str "subscript"))]) [.ret (.bool false)] []] _ _ = _
  rw [evSs_cons, evS_ife, evT_boolsF, evAny_cons, t1]
  simp only [bnd]
  rw [evAny_cons, t2]
  rfl
theorem six (cf : CF) (lo : Lo) (H : Hp) (x : Nat) (k : Int) (hx : lo[x]? = some (some (.d (.int k)))) : ∃ o : Option Int, evE cf lo (.sub (.list [.none, (.int 0), (.int 1), (.int 2), (.int 3), (.int 4)]) (.bin .mod (.var x) (.int 6))) H = some (.ok (.d (oD o)) H) := by
  have hx : getLo lo x = some (.d (.int k)) := by unfold getLo; rw [hx]; rfl
  have hf := fm_pos k 6 (by decide)
  have hk : Int.fmod k 6 = 0 ∨ Int.fmod k 6 = 1 ∨ Int.fmod k 6 = 2 ∨ Int.fmod k 6 = 3 ∨ Int.fmod k 6 = 4 ∨ Int.fmod k 6 = 5 := six_cases hf
  rcases hk with hk | hk | hk | hk | hk | hk
  · exact ⟨.none, by simp [hx, hk, oD]⟩
  · exact ⟨some 0, by simp [hx, hk, oD]⟩
  · exact ⟨some 1, by simp [hx, hk, oD]⟩
  · exact ⟨some 2, by simp [hx, hk, oD]⟩
  · exact ⟨some 3, by simp [hx, hk, oD]⟩
  · exact ⟨some 4, by simp [hx, hk, oD]⟩
noncomputable def signs (len : Nat) : List PyData := (rngI 5 (5 + (len : Int))).map .int
theorem ar_s6 (H : Hp) (c z : Int) (D : List (Int × Nat)) (kind : Int) (len : Nat) (hlen : len ≤ 16) (a b : Option DV) : ∃ lo hi : Option Int,
    evSs (callN defs 5) ((d_lawArrays.body.drop 11).take 6) (arLo c z D kind len a b .none .none .none .none .none) H
      = some (.next (arLo c z D kind len a (some (.d (.str (Str.ofString "substring")))) (some (.d (oD lo))) (some (.d (oD hi))) (some (.d (.list (signs len)))) (some (.d (.int (lo.getD 1)))) (some (.d (.int (hi.getD len))))) H) := by
  obtain ⟨lo, h1⟩ := six (callN defs 5) (arLo c z D kind len a b .none .none .none .none .none) H 0 c rfl
  obtain ⟨hi, h2⟩ := six (callN defs 5) (arLo c z D kind len a b (some (.d (oD lo))) .none .none .none .none) H 1 z rfl
  refine ⟨lo, hi, ?_⟩
  have hs : small (5 + (len : Int)) = true := by unfold small; exact decide_eq_true (by lia)
  have hs5 : small 5 = true := by decide
  show evSs _ [.assign 10 (.sub (.list [.none, (.int 0), (.int 1), (.int 2), (.int 3), (.int 4)]) (.bin .mod (.var 0) (.int 6))), .assign 11 (.sub (.list [.none, (.int 0), (.int 1), (.int 2), (.int 3), (.int 4)]) (.bin .mod (.var 1) (.int 6))), .assign 12 (.lrange (.int 5) (.bin .add (.int 5) (.var 4))), .assign 13 (.ite (.cmp .is (.var 10) .none) (.int 1) (.var 10)), .assign 14 (.ite (.cmp .is (.var 11) .none) (.var 4) (.var 11)), .assign 9 (.str "substring")] _ _ = _
  rw [evSs_cons, evS_assign, h1]
  simp only [bnS]
  rw [show (arLo c z D kind len a b .none .none .none .none .none).set 10 (some (.d (oD lo))) = arLo c z D kind len a b (some (.d (oD lo))) .none .none .none .none from rfl, evSs_cons, evS_assign, h2]
  simp only [bnS]
  cases lo <;> cases hi <;> simp [arLo, oD, hs, hs5, signs]
theorem signs_len (len : Nat) : (signs len).length = len := by
  unfold signs
  rw [List.length_map, law_rngI_len]
  lia
theorem cut_get (len : Nat) (f l : Nat) (hf : f < l) (hl : l ≤ len) : (cutL (signs len) f l)[0]? = some (.int (5 + (f : Int))) := by
  unfold cutL signs rngI
  rw [List.getElem?_take, if_pos (by lia), List.getElem?_drop, List.getElem?_map, List.getElem?_map, List.getElem?_range (by lia)]
  rfl
theorem cut_len (len : Nat) (f l : Nat) (hl : l ≤ len) : (cutL (signs len) f l).length = l - f := by
  unfold cutL
  rw [List.length_take, List.length_drop, signs_len]
  lia
end Mine
end

section
set_option autoImplicit false
set_option maxRecDepth 100000
namespace Mine
open Ev

noncomputable def subDue (len : Int) (lo hi : Option Int) : PyData := match subRes len lo hi with
  | .none => .str (Str.ofString "substring")
  | some (f, l) => .tuple [.int 5, .int (5 + f - 1), .int (l - f + 1), .tuple []]
theorem okD_due (len : Int) (lo hi : Option Int) : okD (subDue len lo hi) = true := by
  unfold subDue
  cases subRes len lo hi with
  | none => exact ok_substring
  | some p => exact okD_tup4 _ _ _
theorem ar_s7 (H : Hp) (c z : Int) (D : List (Int × Nat)) (kind : Int) (len : Nat) (hlen : len ≤ 16) (a : Option DV) (lo hi : Option Int) : ∃ x,
    evSs (callN defs 5) ((d_lawArrays.body.drop 17).take 1) (arLo c z D kind len a (some (.d (.str (Str.ofString "substring")))) (some (.d (oD lo))) (some (.d (oD hi))) (some (.d (.list (signs len)))) (some (.d (.int (lo.getD 1)))) (some (.d (.int (hi.getD len))))) H
      = some (.next (arLo c z D kind len a (some (.d (subDue len lo hi))) (some (.d (oD lo))) (some (.d (oD hi))) x (some (.d (.int (lo.getD 1)))) (some (.d (.int (hi.getD len))))) H) := by
  unfold subDue subRes
  obtain ⟨f, hf⟩ : ∃ f, lo.getD 1 = f := ⟨_, rfl⟩
  obtain ⟨l, hl⟩ : ∃ l, hi.getD len = l := ⟨_, rfl⟩
  rw [hf, hl]
  by_cases q1 : f < 1
  · refine ⟨some (.d (.list (signs len))), ?_⟩
    have q1' : ¬ 1 ≤ f := by lia
    simp [d_lawArrays, arLo, q1, q1']
  · have q1' : 1 ≤ f := by lia
    by_cases q2 : l < f
    · refine ⟨some (.d (.list (signs len))), ?_⟩
      have q2' : ¬ f ≤ l := by lia
      simp [d_lawArrays, arLo, q1', q2, q2']
    · have q2' : f ≤ l := by lia
      by_cases q3 : (len : Int) < l
      · refine ⟨some (.d (.list (signs len))), ?_⟩
        have q3' : ¬ l ≤ (len : Int) := by lia
        simp [d_lawArrays, arLo, q1', q2', q3, q3']
      · have q3' : l ≤ (len : Int) := by lia
        rw [if_neg (by lia)]
        obtain ⟨g, rfl⟩ : ∃ g : Nat, f = (g : Int) + 1 := ⟨(f - 1).toNat, by lia⟩
        obtain ⟨m, rfl⟩ : ∃ m : Nat, l = (m : Int) := ⟨l.toNat, by lia⟩
        have b1 : (g : Int) ≤ 4096 := by lia
        have b2 : (m : Int) ≤ 4096 := by lia
        have b3 : g ≤ m ∧ m ≤ (signs len).length ∧ (signs len).length ≤ 4096 := by rw [signs_len]; lia
        have hc := cut_get len g m (by lia) (by lia)
        have hn := cut_len len g m (by lia)
        have b4 : (cutL (signs len) g m).length ≤ 4096 := by rw [hn]; lia
        have hs : sliceD H (.d (.list (signs len))) g m = some (.d (.list (cutL (signs len) g m))) := if_pos b3
        have b5 : m - g ≤ 4096 := by lia
        have b6 : ((m - g : Nat) : Int) = (m : Int) - (g + 1) + 1 := by lia
        have b7 : (5 : Int) + g = 5 + (g + 1) - 1 := by lia
        refine ⟨some (.d (.list (cutL (signs len) g m))), ?_⟩
        simp only []
        rw [← b6, ← b7]
        simp [d_lawArrays, arLo, q1', q2', q3', b1, b2, hs, hc, hn, b5]

theorem ar_s8 (H : Hp) (c z : Int) (D : List (Int × Nat)) (kind : Int) (len : Nat) (a x y w : Option DV) (lo hi : Option Int) :
    evSs (callN defs 5) (d_lawArrays.body.drop 18) (arLo c z D kind len a (some (.d (subDue len lo hi))) (some (.d (oD lo))) (some (.d (oD hi))) x y w) H = some (.ret (.d (.bool true)) H) := by
  have h1 : callN defs 5 .lawAsked [.d (.int 1), .d (.tuple [.int 5, .int 5, .int len, .tuple []]), .d (.list [oD lo, oD hi])] H = some (.ok (.d (subDue len lo hi)) H) := lawAsked_sub 3 H len lo hi
  have h2 := okD_due len lo hi
  have h3 := eqD_refl h2
  simp [d_lawArrays, arLo, h1, h2, h3]
theorem lawArrays_eq (H : Hp) (c z : Int) : ∃ H', callN defs 6 .lawArrays [.d (.int c), .d (.int z)] H = some (.ok (.d (.bool true)) H') := by
  obtain ⟨H', s1⟩ := ar_s1 H c z
  have hl := shDs_len c
  have hd : ∀ d ∈ shDs c, d.1.natAbs ≤ 50 ∧ d.2 ≤ 50 := fun d h => by have := shDs_b h; lia
  have hn : cntN (shDs c) ≤ 4000 := by
    have := cntN_27 hl fun d h => (shDs_b h).2
    lia
  have hN := arN_b z
  have s2 := ar_s2 H' c z (shDs c) (Int.fmod z 6) (arN z) (by lia) (fun d h => (hd d h).2) hn
  have s3 := ar_s3 H' c z (shDs c) hl (Int.fmod z 6) (arN z)
  have hA := arA_len z (shDs c).length
  have s4 := ar_s4 H' c z (shDs c) hn (Int.fmod z 6) (arN z) (by lia) (arA z (shDs c).length) hA
  have s5 := ar_s5 H' c z (shDs c) hl hd hn (Int.fmod z 6) (arN z) (by lia) (arA z (shDs c).length) hA fun a h => arA_b h
  obtain ⟨lo, hi, s6⟩ := ar_s6 H' c z (shDs c) (Int.fmod z 6) (arN z) (by lia) (some (.d (rowD (arA z (shDs c).length)))) (some (.d (askRes (Int.fmod z 6) (arN z) (usz (Int.fmod z 6) (arN z)) (offs (shDs c) (arA z (shDs c).length)))))
  obtain ⟨x, s7⟩ := ar_s7 H' c z (shDs c) (Int.fmod z 6) (arN z) (by lia) (some (.d (rowD (arA z (shDs c).length)))) lo hi
  have s8 := ar_s8 H' c z (shDs c) (Int.fmod z 6) (arN z) (some (.d (rowD (arA z (shDs c).length)))) x (some (.d (.int (lo.getD 1)))) (some (.d (.int (hi.getD (arN z))))) lo hi
  refine ⟨H', ?_⟩
  have e0 : d_lawArrays.body = d_lawArrays.body.take 6 ++ ((d_lawArrays.body.drop 6).take 1 ++ ((d_lawArrays.body.drop 7).take 2 ++ ((d_lawArrays.body.drop 9).take 1 ++ ((d_lawArrays.body.drop 10).take 1 ++ ((d_lawArrays.body.drop 11).take 6 ++ ((d_lawArrays.body.drop 17).take 1 ++ d_lawArrays.body.drop 18)))))) := rfl
  have key : evSs (callN defs 5) d_lawArrays.body (initLo (defs .lawArrays) [.d (.int c), .d (.int z)]) H = some (.ret (.d (.bool true)) H') := by
    rw [e0, evSs_app, s1]
    simp only []
    rw [evSs_app, s2]
    simp only []
    rw [evSs_app, s3]
    simp only []
    rw [evSs_app, s4]
    simp only []
    rw [evSs_app, s5]
    simp only []
    rw [evSs_app, s6]
    simp only []
    rw [evSs_app, s7]
    simp only []
    rw [s8]
  rw [callN_succ]
  show (match evSs (callN defs 5) d_lawArrays.body _ H with | some (.ret v H') => _ | some (.next _ H') => _ | some (.err _ t H') => _ | .none => _) = _
  rw [key]
theorem law_true (ns : List Int) (hn : ns.length ≤ 63) : ∃ H', evSs (callN defs 6) d_law.body (lwLo ns .none .none .none .none) (hp (List.replicate 8 .no) (List.replicate 9 .none)) = some (.ret (.d (.bool true)) H') :=
  law_pure ns hn lawArrays_eq
end Mine
end

section
set_option autoImplicit false
namespace Mine
noncomputable abbrev Led := List (Addr × Obj)

mutual
/-- the pool bears the datum at the value -/
inductive DIn (pool : Led) : Value → PyData → Prop where
  | none : DIn pool .none .none
  | bool (b : Bool) : DIn pool (.bool b) (.bool b)
  | int (i : Int) (t : Tok) : DIn pool (.int i t) (.int i)
  | str (x : Str) (t : Tok) : DIn pool (.str x t) (.str x)
  | tuple {a : Addr} {o : Obj} {vs : List Value} {n : Nat} {ds : List PyData} : (a, o) ∈ pool → o.cls = .type "tuple" → o.data = .seq vs.toArray n → DAll pool vs ds → DIn pool (.ref a) (.tuple ds)
  | list {a : Addr} {o : Obj} {vs : List Value} {n : Nat} {ds : List PyData} : (a, o) ∈ pool → o.cls = .type "list" → (o.data = .seq vs.toArray n ∧ o.dict = Option.none ∧ o.slots = #[]) → DAll pool vs ds → DIn pool (.ref a) (.list ds)
inductive DAll (pool : Led) : List Value → List PyData → Prop where
  | nil : DAll pool [] []
  | cons {v : Value} {vs : List Value} {d : PyData} {ds : List PyData} : DIn pool v d → DAll pool vs ds → DAll pool (v :: vs) (d :: ds)
end
mutual
theorem DIn.mono {p q : Led} (hs : ∀ x ∈ p, x ∈ q) : ∀ {v d}, DIn p v d → DIn q v d
  | _, _, .none => .none
  | _, _, .bool b => .bool b
  | _, _, .int i t => .int i t
  | _, _, .str x t => .str x t
  | _, _, .tuple m c e r => .tuple (hs _ m) c e (DAll.mono hs r)
  | _, _, .list m c e r => .list (hs _ m) c e (DAll.mono hs r)
theorem DAll.mono {p q : Led} (hs : ∀ x ∈ p, x ∈ q) : ∀ {vs ds}, DAll p vs ds → DAll q vs ds
  | _, _, .nil => .nil
  | _, _, .cons h r => .cons (DIn.mono hs h) (DAll.mono hs r)
end
mutual
theorem DIn.reads {p : Led} {h : Heap} (hp : ∀ x ∈ p, h.get? x.1 = some x.2) : ∀ {v d}, DIn p v d → ∃ as, Reads h v d as
  | _, _, .none => ⟨_, .none⟩
  | _, _, .bool b => ⟨_, .bool b⟩
  | _, _, .int i t => ⟨_, .int i t⟩
  | _, _, .str x t => ⟨_, .str x t⟩
  | _, _, .tuple m c e r => let ⟨_, q⟩ := DAll.reads hp r; ⟨_, .tuple (hp _ m) c e q⟩
  | _, _, .list m c e r => let ⟨_, q⟩ := DAll.reads hp r; ⟨_, .list (hp _ m) c e.1 q⟩
theorem DAll.reads {p : Led} {h : Heap} (hp : ∀ x ∈ p, h.get? x.1 = some x.2) : ∀ {vs ds}, DAll p vs ds → ∃ as, ReadsAll h vs ds as
  | _, _, .nil => ⟨_, .nil⟩
  | _, _, .cons d r => let ⟨_, q⟩ := DIn.reads hp d; let ⟨_, q'⟩ := DAll.reads hp r; ⟨_, .cons q q'⟩
end
theorem DAll.length {p : Led} : ∀ {vs ds}, DAll p vs ds → vs.length = ds.length
  | _, _, .nil => rfl
  | _, _, .cons _ r => congrArg (· + 1) r.length
theorem DAll.append {p : Led} : ∀ {vs ds ws es}, DAll p vs ds → DAll p ws es → DAll p (vs ++ ws) (ds ++ es)
  | _, _, _, _, .nil, k => k
  | _, _, _, _, .cons h r, k => .cons h (r.append k)
theorem DAll.get {p : Led} : ∀ {vs ds} {k : Nat} {d : PyData}, DAll p vs ds → ds[k]? = some d → ∃ v, vs[k]? = some v ∧ DIn p v d
  | _, _, 0, _, .cons h _, e => ⟨_, rfl, by cases e; exact h⟩
  | _, _, k + 1, _, .cons _ r, e => r.get (k := k) e
  | _, _, k, _, .nil, e => by simp at e
theorem DAll.drop {p : Led} : ∀ {vs ds} (n : Nat), DAll p vs ds → DAll p (vs.drop n) (ds.drop n)
  | _, _, 0, h => h
  | _, _, _ + 1, .nil => .nil
  | _, _, n + 1, .cons _ r => r.drop n
theorem DAll.take {p : Led} : ∀ {vs ds} (n : Nat), DAll p vs ds → DAll p (vs.take n) (ds.take n)
  | _, _, 0, _ => .nil
  | _, _, _ + 1, .nil => .nil
  | _, _, n + 1, .cons h r => .cons h (r.take n)
theorem DAll.set {p : Led} : ∀ {vs ds} (n : Nat) {v d}, DAll p vs ds → DIn p v d → DAll p (vs.set n v) (ds.set n d)
  | _, _, _, _, _, .nil, _ => .nil
  | _, _, 0, _, _, .cons _ r, k => .cons k r
  | _, _, n + 1, _, _, .cons h r, k => .cons h (r.set n k)
theorem DAll.reverse {p : Led} : ∀ {vs ds}, DAll p vs ds → DAll p vs.reverse ds.reverse
  | _, _, .nil => .nil
  | _, _, .cons h r => by simpa using r.reverse.append (.cons h .nil)
theorem DAll.dropLast {p : Led} {vs ds} (h : DAll p vs ds) : DAll p vs.dropLast ds.dropLast := by
  rw [List.dropLast_eq_take, List.dropLast_eq_take, h.length]; exact h.take _
theorem DAll.replicate {p : Led} : ∀ (n : Nat) {vs ds}, DAll p vs ds → DAll p (List.replicate n vs).flatten (List.replicate n ds).flatten
  | 0, _, _, _ => .nil
  | n + 1, _, _, h => by simpa [List.replicate_succ] using h.append (h.replicate n)

structure Wd where
  ρ : List Addr
  pool : Led

noncomputable def memCls : Addr := 91
noncomputable def memDict (h₁ h₂ : Int) (t₁ t₂ : Tok) (a b : Addr) : Obj := dictOf [⟨h₁, .str (Str.ofString "numeric") t₁, .ref a⟩, ⟨h₂, .str (Str.ofString "characters") t₂, .ref b⟩] 2

inductive VRel (base : Heap) (w : Wd) : Value → DV → Prop where
  | d {v : Value} {x : PyData} : DIn w.pool v x → VRel base w v (.d x)
  | ml {i : Nat} {a : Addr} : w.ρ[i]? = some a → VRel base w (.ref a) (.ml i)
  | mem {x dx a b : Addr} {i j : Nat} {h₁ h₂ : Int} {t₁ t₂ : Tok} : (x, instObj memCls dx) ∈ w.pool → (dx, memDict h₁ h₂ t₁ t₂ a b) ∈ w.pool → w.ρ[i]? = some a → w.ρ[j]? = some b → VRel base w (.ref x) (.mem i j)
  | scr {a : Addr} {vs : List Value} {ns : List Int} : base.IsList a vs.toArray → IntsAre vs ns → VRel base w (.ref a) (.scr ns)

inductive TupI (p : Led) (v : Value) (ds : List PyData) : Prop where
  | mk (a : Addr) (o : Obj) (vs : List Value) (n : Nat) (ev : v = .ref a) (m : (a, o) ∈ p) (c : o.cls = .type "tuple") (e : o.data = .seq (List.toArray vs) n) (r : DAll p vs ds) : TupI p v ds
inductive LstI (p : Led) (v : Value) (ds : List PyData) : Prop where
  | mk (a : Addr) (o : Obj) (vs : List Value) (n : Nat) (ev : v = .ref a) (m : (a, o) ∈ p) (c : o.cls = .type "list") (e : o.data = .seq (List.toArray vs) n ∧ o.dict = Option.none ∧ o.slots = #[]) (r : DAll p vs ds) : LstI p v ds
inductive MemI (w : Wd) (v : Value) (i j : Nat) : Prop where
  | mk (x dx a b : Addr) (h₁ h₂ : Int) (t₁ t₂ : Tok) (ev : v = .ref x) (m1 : (x, instObj memCls dx) ∈ w.pool) (m2 : (dx, memDict h₁ h₂ t₁ t₂ a b) ∈ w.pool) (r1 : w.ρ[i]? = some a) (r2 : w.ρ[j]? = some b) : MemI w v i j
noncomputable def DInv (p : Led) (v : Value) : PyData → Prop
  | .none => v = .none
  | .bool b => v = .bool b
  | .int i => ∃ t, v = .int i t
  | .str x => ∃ t, v = .str x t
  | .tuple ds => TupI p v ds
  | .list ds => LstI p v ds
  | _ => False
theorem DIn.inv {p : Led} {v : Value} {d : PyData} (h : DIn p v d) : DInv p v d := by
  cases h with
  | none => exact rfl
  | bool b => exact rfl
  | int i t => exact ⟨_, rfl⟩
  | str x t => exact ⟨_, rfl⟩
  | tuple m c e r => exact ⟨_, _, _, _, rfl, m, c, e, r⟩
  | list m c e r => exact ⟨_, _, _, _, rfl, m, c, e, r⟩
theorem DIn.none_inv {p : Led} {v : Value} (h : DIn p v .none) : v = .none := h.inv
theorem DIn.bool_inv {p : Led} {v : Value} {b : Bool} (h : DIn p v (.bool b)) : v = .bool b := h.inv
theorem DIn.int_inv {p : Led} {v : Value} {i : Int} (h : DIn p v (.int i)) : ∃ t, v = .int i t := h.inv
theorem DIn.str_inv {p : Led} {v : Value} {x : Str} (h : DIn p v (.str x)) : ∃ t, v = .str x t := h.inv
theorem DIn.tuple_inv {p : Led} {v : Value} {ds : List PyData} (h : DIn p v (.tuple ds)) : TupI p v ds := h.inv
theorem DIn.list_inv {p : Led} {v : Value} {ds : List PyData} (h : DIn p v (.list ds)) : LstI p v ds := h.inv
noncomputable def VInv (base : Heap) (w : Wd) (v : Value) : DV → Prop
  | .d x => DIn w.pool v x
  | .ml i => ∃ a, v = .ref a ∧ w.ρ[i]? = some a
  | .mem i j => MemI w v i j
  | .scr ns => ∃ a vs, v = .ref a ∧ base.IsList a (List.toArray vs) ∧ IntsAre vs ns
theorem VRel.inv {base : Heap} {w : Wd} {v : Value} {x : DV} (h : VRel base w v x) : VInv base w v x := by
  cases h with
  | d h => exact h
  | ml h => exact ⟨_, rfl, h⟩
  | mem m1 m2 r1 r2 => exact ⟨_, _, _, _, _, _, _, _, rfl, m1, m2, r1, r2⟩
  | scr l i => exact ⟨_, _, rfl, l, i⟩
theorem VRel.d_inv {base : Heap} {w : Wd} {v : Value} {x : PyData} (h : VRel base w v (.d x)) : DIn w.pool v x := h.inv
theorem VRel.ml_inv {base : Heap} {w : Wd} {v : Value} {i : Nat} (h : VRel base w v (.ml i)) : ∃ a, v = .ref a ∧ w.ρ[i]? = some a := h.inv
theorem VRel.mem_inv {base : Heap} {w : Wd} {v : Value} {i j : Nat} (h : VRel base w v (.mem i j)) : MemI w v i j := h.inv
theorem VRel.scr_inv {base : Heap} {w : Wd} {v : Value} {ns : List Int} (h : VRel base w v (.scr ns)) : ∃ a vs, v = .ref a ∧ base.IsList a (List.toArray vs) ∧ IntsAre vs ns := h.inv

/-- the world has grown: new lists at new places, more in the pool -/
structure Grow (w : Wd) (h : Heap) (w' : Wd) : Prop where
  ρ : ∃ t, w'.ρ = w.ρ ++ t ∧ ∀ a ∈ t, h.get? a = none
  pool : ∀ p ∈ w.pool, p ∈ w'.pool
theorem Grow.refl {w : Wd} {h : Heap} : Grow w h w := ⟨⟨[], by simp, fun _ m => nomatch m⟩, fun _ m => m⟩

structure Kept (ρ F : List Addr) (h h' : Heap) : Prop where
  ex : ∀ b o, h.get? b = some o → ∃ o', h'.get? b = some o'
  same : ∀ b o, h.get? b = some o → b ∉ ρ → b ∉ F → h'.get? b = some o
  nsk : ∀ b m, h.Ns b m → b ∉ ρ → b ∈ F → h'.Ns b m
theorem ns_some {h : Heap} {a : Addr} {m : Str → Option Value} (n : h.Ns a m) : ∃ o, h.get? a = some o := let ⟨o, _, _, e, _⟩ := n; ⟨o, e⟩
theorem ns_unique {h : Heap} {a : Addr} {m m' : Str → Option Value} (n : h.Ns a m) (n' : h.Ns a m') : m = m' := by
  obtain ⟨o, es, ep, e, d, _, f⟩ := n
  obtain ⟨o', es', ep', e', d', _, f'⟩ := n'
  rw [e] at e'; cases e'
  rw [d] at d'; cases d'
  funext x
  rw [← f x, ← f' x]
theorem Kept.none {ρ F : List Addr} {h h' : Heap} (k : Kept ρ F h h') {b : Addr} (e : h'.get? b = Option.none) : h.get? b = Option.none := by
  cases q : h.get? b with
  | none => rfl
  | some o => obtain ⟨o', q'⟩ := k.ex b o q; rw [e] at q'; cases q'
theorem Kept.of_all {ρ F : List Addr} {h h' : Heap} (k : ∀ b o, h.get? b = some o → h'.get? b = some o) : Kept ρ F h h' :=
  ⟨fun b o e => ⟨o, k b o e⟩, fun b o e _ _ => k b o e, fun _ _ n _ _ => n.keeps k⟩
theorem Kept.refl {ρ F : List Addr} {h : Heap} : Kept ρ F h h := .of_all fun _ _ e => e
theorem Kept.mono {ρ ρ' F : List Addr} {h h' : Heap} (k : Kept ρ F h h') (hs : ∀ a ∈ ρ, a ∈ ρ') : Kept ρ' F h h' :=
  ⟨k.ex, fun b o e n => k.same b o e fun m => n (hs _ m), fun b m e n => k.nsk b m e fun m => n (hs _ m)⟩
theorem Kept.trans {ρ ρ' F : List Addr} {h₁ h₂ h₃ : Heap} (k : Kept ρ F h₁ h₂) (k' : Kept ρ' F h₂ h₃) (hs : ∀ a ∈ ρ', a ∉ ρ → h₁.get? a = Option.none) : Kept ρ F h₁ h₃ := by
  have hn : ∀ b o, h₁.get? b = some o → b ∉ ρ → b ∉ ρ' := fun b o e n m => by have := hs b m n; rw [e] at this; cases this
  refine ⟨fun b o e => ?_, fun b o e n f => k'.same b o (k.same b o e n f) (hn b o e n) f, fun b m e n f => ?_⟩
  · obtain ⟨o', e'⟩ := k.ex b o e; exact k'.ex b o' e'
  · obtain ⟨o, ho⟩ := ns_some e
    exact k'.nsk b m (k.nsk b m e n f) (hn b o ho n) f
theorem Kept.ns {ρ F : List Addr} {h h' : Heap} {a : Addr} {m : Str → Option Value} (k : Kept ρ F h h') (n : a ∉ ρ) (hn : h.Ns a m) : h'.Ns a m := by
  by_cases f : a ∈ F
  · exact k.nsk a m hn n f
  · obtain ⟨o, es, ep, ho, hd, r⟩ := hn
    exact ⟨o, es, ep, k.same a o ho n f, hd, r⟩

inductive LiveI (w : Wd) (h : Heap) (i : Nat) (ds : List PyData) : Prop where
  | mk (a : Addr) (o : Obj) (vs : List Value) (n : Nat) (h1 : w.ρ[i]? = some a) (h2 : h.get? a = some o) (h3 : o.cls = .type "list") (h4 : o.data = .seq (List.toArray vs) n) (h5 : DAll w.pool vs ds) (h6 : ∀ p ∈ w.pool, p.1 ≠ a) (h7 : o = listOf (List.toArray vs) n) : LiveI w h i ds
/-- the lists and the pool, off the reserved places R -/
structure HpRel (base : Heap) (w : Wd) (H : Hp) (R : List Addr) (h : Heap) : Prop where
  len : w.ρ.length = H.length
  nodup : w.ρ.Nodup
  live : ∀ (i : Nat) (ds : List PyData), H[i]? = some (some ds) → LiveI w h i ds
  pool : ∀ p ∈ w.pool, h.get? p.1 = some p.2
  there : ∀ a ∈ w.ρ, ∃ o, h.get? a = some o
  offB : ∀ a ∈ w.ρ, base.get? a = none
  offR : ∀ a ∈ w.ρ, a ∉ R
  offP : ∀ p ∈ w.pool, p.1 ∉ R

/-- one step: X may be changed besides the lists; F may get other slots -/
structure Step (base : Heap) (R F X : List Addr) (w : Wd) (s : Shared) (w' : Wd) (H' : Hp) (s' : Shared) : Prop where
  grow : Grow w s.heap w'
  kept : Kept (X ++ w.ρ) F s.heap s'.heap
  hp : HpRel base w' H' R s'.heap
  same : ∃ tk, s' = { s with heap := s'.heap, toks := tk }

theorem Grow.trans {w w' w'' : Wd} {h h' : Heap} (g : Grow w h w') (g' : Grow w' h' w'') (k : ∀ b o, h.get? b = some o → ∃ o', h'.get? b = some o') : Grow w h w'' := by
  obtain ⟨⟨t, e, f⟩, p⟩ := g
  obtain ⟨⟨t', e', f'⟩, p'⟩ := g'
  refine ⟨⟨t ++ t', by rw [e', e, List.append_assoc], fun a m => ?_⟩, fun q m => p' q (p q m)⟩
  rcases List.mem_append.mp m with m | m
  · exact f a m
  · cases q : h.get? a with
    | none => rfl
    | some o => obtain ⟨o', q'⟩ := k a o q; rw [f' a m] at q'; cases q'
theorem Step.trans {base : Heap} {R F X : List Addr} {w w' w'' : Wd} {s s' s'' : Shared} {H' H'' : Hp} (a : Step base R F X w s w' H' s') (b : Step base R F X w' s' w'' H'' s'') : Step base R F X w s w'' H'' s'' := by
  refine ⟨a.grow.trans b.grow a.kept.ex, a.kept.trans b.kept fun x m n => ?_, b.hp, ?_⟩
  · obtain ⟨t, e, f⟩ := a.grow.ρ
    rcases List.mem_append.mp m with m | m
    · exact absurd (List.mem_append.mpr (.inl m)) n
    · rw [e] at m
      rcases List.mem_append.mp m with m | m
      · exact absurd (List.mem_append.mpr (.inr m)) n
      · exact f x m
  · obtain ⟨tk, e⟩ := a.same
    obtain ⟨tk', e'⟩ := b.same
    exact ⟨tk', by rw [e', e]⟩
theorem Step.mono {base : Heap} {R F X Y : List Addr} {w w' : Wd} {s s' : Shared} {H' : Hp} (a : Step base R F X w s w' H' s') (h : ∀ x ∈ X, x ∈ Y) : Step base R F Y w s w' H' s' :=
  ⟨a.grow, a.kept.mono fun x m => List.mem_append.mpr ((List.mem_append.mp m).imp (h x) id), a.hp, a.same⟩

theorem VRel.mono {base : Heap} {w w' : Wd} {h : Heap} {v : Value} {d : DV} (g : Grow w h w') (r : VRel base w v d) : VRel base w' v d := by
  obtain ⟨⟨t, e, f⟩, p⟩ := g
  have hr : ∀ {i a}, w.ρ[i]? = some a → w'.ρ[i]? = some a := fun {i a} q => by
    rw [e, List.getElem?_append_left (by exact (List.getElem?_eq_some_iff.mp q).1)]; exact q
  cases r with
  | d h => exact .d (h.mono p)
  | ml h => exact .ml (hr h)
  | mem a b c d => exact .mem (p _ a) (p _ b) (hr c) (hr d)
  | scr a b => exact .scr a b

/-- what does not turn a list or the pool -/
theorem HpRel.keeps {base : Heap} {w : Wd} {H : Hp} {R : List Addr} {h h' : Heap} (r : HpRel base w H R h) (k : ∀ b o, h.get? b = some o → b ∉ R → h'.get? b = some o) : HpRel base w H R h' := by
  refine ⟨r.len, r.nodup, fun i ds e => ?_, fun p m => k _ _ (r.pool p m) (r.offP p m), fun a m => ?_, r.offB, r.offR, r.offP⟩
  · obtain ⟨a, o, vs, n, h1, h2, h3, h4, h5, h6, h7⟩ := r.live i ds e
    exact ⟨a, o, vs, n, h1, k _ _ h2 (r.offR a (List.mem_of_getElem? h1)), h3, h4, h5, h6, h7⟩
  · obtain ⟨o, e⟩ := r.there a m
    exact ⟨o, k _ _ e (r.offR a m)⟩
end Mine
end

section
set_option autoImplicit false
namespace Mine

structure Cx where
  A : Around
  env : Env
  l : List Env
  L : Addr
  R : List Addr
  names : List Str
noncomputable abbrev Cx.F (cx : Cx) : List Addr := cx.l.filterMap (·.frame)

/-- the address of the class RunFault -/
noncomputable def rfCls : Addr := 44

/-- what stands under a name -/
noncomputable def Lk (env : Env) (h : Heap) (y : Str) (v : Value) : Prop :=
  (env.kindOf y = some .local ∧ ∃ m, h.Ns env.locals m ∧ m y = some v) ∨
  ((env.kindOf y = some .cell ∨ env.kindOf y = some .free) ∧ ∃ c, env.cells.lookup y = some c ∧ h.IsCell c (some v))

noncomputable def LoRel (base : Heap) (cx : Cx) (lo : Lo) (w : Wd) (h : Heap) : Prop :=
  ∀ (x : Nat) (d : DV), lo[x]? = some (some d) → ∃ y v, cx.names[x]? = some y ∧ Lk cx.env h y v ∧ VRel base w v d

/-- what holds of a context once for all; n: how deep calls may still go -/
structure CxOk (base : Heap) (cx : Cx) (n : Nat) : Prop where
  hh : cx.A.handled = none
  hf : cx.A.frames = some cx.l
  kind : cx.env.scope.kind = .function
  glob : cx.env.globals = mainGlobals
  blt : cx.env.builtins = builtinsNs
  FR : ∀ a ∈ cx.F, a ∈ cx.R
  LR : cx.env.locals ∈ cx.R
  CR : ∀ p ∈ cx.env.cells, p.2 ∈ cx.R ∧ p.2 ∉ cx.F
  LF : cx.L ∈ cx.F
  above : base.objs.size ≤ cx.L
  fro : ∀ env ∈ cx.l, env.scope.kind ≠ .module ∧ ∃ L, env.frame = some L ∧ base.get? L = none
  depth : cx.A.depth + 2 * n + 8 < recursionLimit
  units : cx.A.units + 16 * n + 200 < cLine
  cells : ∀ y, cx.env.kindOf y = some .cell → ∃ c, cx.env.cells.lookup y = some c

structure StE (base : Heap) (cx : Cx) (lo : Lo) (H : Hp) (w : Wd) (s : Shared) : Prop where
  hp : HpRel base w H cx.R s.heap
  rin : ∀ a ∈ cx.R, ∃ o, s.heap.get? a = some o
  stays : base.StaysIn s.heap
  fr : ∀ b ∈ cx.F, ∃ m, s.heap.Ns b m
  lo : LoRel base cx lo w s.heap

theorem funFrames_of {base h : Heap} : ∀ {l : List Env}, (∀ env ∈ l, env.scope.kind ≠ .module ∧ ∃ L, env.frame = some L ∧ base.get? L = none) → (∀ b ∈ l.filterMap (·.frame), ∃ m, h.Ns b m) → h.FunFrames base l
  | [], _, _ => trivial
  | env :: r, h1, h2 => by
    obtain ⟨hk, L, hf, hn⟩ := h1 env (.head _)
    obtain ⟨m, o, es, ep, ho, hd, _⟩ := h2 L (by rw [List.filterMap_cons, hf]; exact .head _)
    exact ⟨hk, ⟨L, o, hf, hn, ho, fun vs q => by rw [hd] at q; cases q⟩, funFrames_of (fun e m => h1 e (.tail _ m)) fun b m => h2 b (by rw [List.filterMap_cons, hf]; exact .tail _ m)⟩
theorem CxOk.offF {base : Heap} {cx : Cx} {n : Nat} (C : CxOk base cx n) {b : Addr} (m : b ∈ cx.F) : base.get? b = none := by
  obtain ⟨env, he, hf⟩ := List.mem_filterMap.mp m
  obtain ⟨_, L, hL, hn⟩ := C.fro env he
  rw [hL] at hf; cases hf; exact hn

structure Ext (w w' : Wd) : Prop where
  ρ : ∃ t, w'.ρ = w.ρ ++ t
  pool : ∀ p ∈ w.pool, p ∈ w'.pool
theorem Ext.refl {w : Wd} : Ext w w := ⟨⟨[], by simp⟩, fun _ m => m⟩
theorem Ext.trans {w w' w'' : Wd} (a : Ext w w') (b : Ext w' w'') : Ext w w'' := by
  obtain ⟨t, e⟩ := a.ρ
  obtain ⟨t', e'⟩ := b.ρ
  exact ⟨⟨t ++ t', by rw [e', e, List.append_assoc]⟩, fun p m => b.pool p (a.pool p m)⟩
theorem Grow.ext {w w' : Wd} {h : Heap} (g : Grow w h w') : Ext w w' := ⟨let ⟨t, e, _⟩ := g.ρ; ⟨t, e⟩, g.pool⟩
theorem Ext.grow {w w' : Wd} {h : Heap} (g : Ext w w') (hn : ∀ a ∈ w'.ρ, a ∉ w.ρ → h.get? a = none) (hd : w'.ρ.Nodup) : Grow w h w' := by
  obtain ⟨t, e⟩ := g.ρ
  refine ⟨⟨t, e, fun a m => hn a (by rw [e]; exact List.mem_append.mpr (.inr m)) fun m' => ?_⟩, g.pool⟩
  rw [e] at hd
  exact (List.nodup_append.mp hd).2.2 a m' a m rfl
theorem VRel.ext {base : Heap} {w w' : Wd} {v : Value} {d : DV} (g : Ext w w') (r : VRel base w v d) : VRel base w' v d :=
  r.mono (h := ⟨#[], {}⟩) ⟨let ⟨t, e⟩ := g.ρ; ⟨t, e, fun a _ => by simp [Heap.get?]⟩, g.pool⟩

theorem mem_of_lookup {c : Addr} {y : Str} : ∀ (l : List (Str × Addr)), l.lookup y = some c → (y, c) ∈ l
  | [], h => by cases h
  | (a, b) :: r, h => by
    rw [List.lookup_cons] at h
    split at h
    · rename_i q
      cases h
      rw [beq_iff_eq.mp q]; exact .head _
    · exact .tail _ (mem_of_lookup r h)
theorem StE.kept {base : Heap} {cx : Cx} {n : Nat} {lo : Lo} {H H' : Hp} {w w' : Wd} {s s' : Shared} (C : CxOk base cx n) (x : StE base cx lo H w s) (k : Kept w.ρ cx.F s.heap s'.heap) (g : Ext w w') (hp : HpRel base w' H' cx.R s'.heap) : StE base cx lo H' w' s' := by
  have nρ : ∀ a ∈ cx.R, a ∉ w.ρ := fun a m m' => x.hp.offR a m' m
  refine ⟨hp, fun a m => ?_, fun b o e => ?_, fun b m => ?_, fun i d e => ?_⟩
  · obtain ⟨o, e⟩ := x.rin a m; exact k.ex a o e
  · refine k.same b o (x.stays b o e) (fun m => ?_) fun m => ?_
    · have := x.hp.offB b m; rw [e] at this; cases this
    · have := C.offF m; rw [e] at this; cases this
  · obtain ⟨m', e⟩ := x.fr b m
    exact ⟨m', k.nsk b m' e (nρ b (C.FR b m)) m⟩
  · obtain ⟨y, v, hy, hl, hv⟩ := x.lo i d e
    refine ⟨y, v, hy, ?_, hv.ext g⟩
    rcases hl with ⟨hk, m, hn, hm⟩ | ⟨hk, c, hc, o, hco, hcd⟩
    · exact .inl ⟨hk, m, k.ns (nρ _ C.LR) hn, hm⟩
    · have hR := C.CR (y, c) (mem_of_lookup _ hc)
      exact .inr ⟨hk, c, hc, o, k.same c o hco (nρ _ hR.1) hR.2, hcd⟩
theorem StE.step {base : Heap} {cx : Cx} {n : Nat} {lo : Lo} {H H' : Hp} {w w' : Wd} {s s' : Shared} (C : CxOk base cx n) (x : StE base cx lo H w s) (k : Step base cx.R cx.F [] w s w' H' s') : StE base cx lo H' w' s' :=
  x.kept C k.kept k.grow.ext k.hp

/-- the dict of a RunFault -/
noncomputable def excDict (h : Int) (t₁ t₂ : Tok) (x : Str) : Obj := dictOf [⟨h, .str (Str.ofString "text") t₁, .str x t₂⟩] 1

/-- a RunFault of the text t comes out of a call -/
inductive Fly (base : Heap) (l : List Env) (R X : List Addr) (w : Wd) (s : Shared) (t : Str) (H' : Hp) (w' : Wd) (e : Addr) (s' : Shared) : Prop where
  | mk (B : Heap) (t0 dx : Addr) (oe : Obj) (kh : Int) (k₁ k₂ : Tok) (h1 : Heap.FlyingW B l e (.ref rfCls) (.ref t0) s'.heap) (h2 : s'.heap.get? e = some oe) (h3 : oe.dict = some dx) (h4 : B.get? dx = some (excDict kh k₁ k₂ t))
    (h5 : HpRel base w' H' R B) (h6 : base.StaysIn B) (h7 : ∀ b o, s.heap.get? b = some o → b ∉ X ++ w.ρ → b ∉ l.filterMap (·.frame) → B.get? b = some o) (h8 : ∀ b o, s.heap.get? b = some o → b ∉ l.filterMap (·.frame) → ∃ o', B.get? b = some o')
    (h9 : Step base R (l.filterMap (·.frame)) X w s w' H' s') : Fly base l R X w s t H' w' e s'

theorem Fly.pre {base : Heap} {l : List Env} {R X : List Addr} {w w₁ w₂ : Wd} {s s₁ s₂ : Shared} {H₁ H₂ : Hp} {t : Str} {e : Addr} (k : Step base R (l.filterMap (·.frame)) X w s w₁ H₁ s₁)
    (f : Fly base l R X w₁ s₁ t H₂ w₂ e s₂) : Fly base l R X w s t H₂ w₂ e s₂ := by
  obtain ⟨B, t0, dx, oe, kh, k₁, k₂, h1, h2, h3, h4, h5, h6, h7, h9, h8⟩ := f
  refine ⟨B, t0, dx, oe, kh, k₁, k₂, h1, h2, h3, h4, h5, h6, fun b o q n m => h7 b o (k.kept.same b o q n m) (fun q' => ?_) m, fun b o q m => let ⟨o', q'⟩ := k.kept.ex b o q; h9 b o' q' m, k.trans h8⟩
  obtain ⟨tt, e', f'⟩ := k.grow.ρ
  rcases List.mem_append.mp q' with q' | q'
  · exact n (List.mem_append.mpr (.inl q'))
  · rw [e'] at q'
    rcases List.mem_append.mp q' with q' | q'
    · exact n (List.mem_append.mpr (.inr q'))
    · have := f' b q'; rw [q] at this; cases this

noncomputable abbrev PT (β : Type) := (β → Shared → Prop) → (Value → Shared → Prop) → Shared → Prop

noncomputable def OkQ {α β : Type} (base : Heap) (cx : Cx) (w : Wd) (s : Shared) (V : Wd → β → α → Prop) (r : Option (Rx α)) (Q : β → Shared → Prop) : Prop :=
  ∀ a H', r = some (.ok a H') → ∀ v w' s', Step base cx.R cx.F [] w s w' H' s' → V w' v a → Q v s'
noncomputable def ErQ {α : Type} (base : Heap) (cx : Cx) (w : Wd) (s : Shared) (r : Option (Rx α)) (E : Value → Shared → Prop) : Prop :=
  ∀ t H', r = some (.err t H') → ∀ e w' s', Fly base cx.l cx.R [] w s t H' w' e s' → E (.ref e) s'

/-- T does what r says -/
noncomputable def SndW {α β : Type} (base : Heap) (cx : Cx) (V : Wd → β → α → Prop) (T : PT β) (lo : Lo) (H : Hp) (r : Option (Rx α)) (w : Wd) : Prop :=
  ∀ s Q E, StE base cx lo H w s → OkQ base cx w s V r Q → ErQ base cx w s r E → r ≠ none → T Q E s

section
variable {base : Heap} {cx : Cx} {n : Nat} {lo : Lo} {H : Hp} {w : Wd}

theorem SndW.bnd {α β γ δ : Type} {V₁ : Wd → β → α → Prop} {V₂ : Wd → γ → δ → Prop} {T : PT β} {f : β → PT γ} {r : Option (Rx α)} {k : α → Hp → Option (Rx δ)} (C : CxOk base cx n)
    (h₁ : SndW base cx V₁ T lo H r w) (h₂ : ∀ a H₁ v w', r = some (.ok a H₁) → Ext w w' → V₁ w' v a → SndW base cx V₂ (f v) lo H₁ (k a H₁) w') :
    SndW base cx V₂ (fun Q E s => T (fun v s₁ => f v Q E s₁) E s) lo H (bnd r k) w := by
  intro s Q E st ok er ne
  refine h₁ s _ E st (fun a H₁ e v w₁ s₁ k₁ hv => ?_) (fun t H₁ e x w₁ s₁ fl => er t H₁ (by rw [e]; rfl) x w₁ s₁ fl) (fun e => ne (by rw [e]; rfl))
  refine h₂ a H₁ v w₁ e k₁.grow.ext hv s₁ Q E (st.step C k₁) (fun a' H' e' v' w' s' k' hv' => ok a' H' (by rw [e]; exact e') v' w' s' (k₁.trans k') hv') (fun t H' e' x w' s' fl => er t H' (by rw [e]; exact e') x w' s' (fl.pre k₁)) fun e' => ne (by rw [e]; exact e')

/-- another tree, the same said of it -/
theorem SndW.of {α β : Type} {V : Wd → β → α → Prop} {T T' : PT β} {r : Option (Rx α)} (h : SndW base cx V T lo H r w) (ht : ∀ Q E s, StE base cx lo H w s → T Q E s → T' Q E s) : SndW base cx V T' lo H r w :=
  fun s Q E st ok er ne => ht Q E s st (h s Q E st ok er ne)
theorem SndW.eq {α β : Type} {V : Wd → β → α → Prop} {T : PT β} {r r' : Option (Rx α)} (h : SndW base cx V T lo H r w) (e : r = r') : SndW base cx V T lo H r' w := e ▸ h

theorem Step.here {R F X : List Addr} {w : Wd} {H : Hp} {s : Shared} {tk : Nat} (h : HpRel base w H R s.heap) : Step base R F X w s w H { s with toks := tk } :=
  ⟨.refl, .refl, h, tk, rfl⟩
theorem HpRel.kept {R F : List Addr} {w : Wd} {H : Hp} {h h' : Heap} (r : HpRel base w H R h) (k : Kept [] F h h') (FR : ∀ a ∈ F, a ∈ R) : HpRel base w H R h' :=
  r.keeps fun b o e n => k.same b o e (fun m => nomatch m) fun m => n (FR b m)
theorem step_of_kept {R F X : List Addr} {w : Wd} {H : Hp} {s : Shared} {h' : Heap} {tk : Nat} (h : HpRel base w H R s.heap) (k : Kept [] F s.heap h') (FR : ∀ a ∈ F, a ∈ R) : Step base R F X w s w H { s with heap := h', toks := tk } :=
  ⟨.refl, k.mono (fun _ m => nomatch m), h.kept k FR, tk, rfl⟩

/-- a new object for the pool -/
theorem step_pool {R F X : List Addr} {w : Wd} {H : Hp} {s : Shared} {h' : Heap} {tk : Nat} {a : Addr} {o : Obj} (h : HpRel base w H R s.heap) (rin : ∀ a ∈ R, ∃ o, s.heap.get? a = some o)
    (k : Kept [] F s.heap h') (FR : ∀ a ∈ F, a ∈ R) (hn : s.heap.get? a = none) (ha : h'.get? a = some o) : Step base R F X w s ⟨w.ρ, (a, o) :: w.pool⟩ H { s with heap := h', toks := tk } := by
  have h' := h.kept k FR
  refine ⟨⟨⟨[], by simp, fun _ m => nomatch m⟩, fun p m => .tail _ m⟩, k.mono (fun _ m => nomatch m), ⟨h'.len, h'.nodup, fun i ds e => ?_, fun p m => ?_, h'.there, h'.offB, h'.offR, fun p m => ?_⟩, tk, rfl⟩
  · obtain ⟨b, o', vs, n', h1, h2, h3, h4, h5, h6, h7⟩ := h'.live i ds e
    refine ⟨b, o', vs, n', h1, h2, h3, h4, h5.mono fun x m => .tail _ m, fun p m => ?_, h7⟩
    rcases List.mem_cons.mp m with rfl | m
    · intro q
      obtain ⟨o₂, e₂⟩ := h.there b (List.mem_of_getElem? h1)
      rw [← q, hn] at e₂; cases e₂
    · exact h6 p m
  · rcases List.mem_cons.mp m with rfl | m
    · exact ha
    · exact h'.pool p m
  · rcases List.mem_cons.mp m with rfl | m
    · intro q; obtain ⟨o', e⟩ := rin _ q; rw [hn] at e; cases e
    · exact h.offP p m

/-- a new list -/
theorem step_list {R F X : List Addr} {w : Wd} {H : Hp} {s : Shared} {h' : Heap} {tk n : Nat} {a : Addr} {o : Obj} {vs : List Value} {ds : List PyData} (h : HpRel base w H R s.heap) (rin : ∀ a ∈ R, ∃ o, s.heap.get? a = some o)
    (hb : base.StaysIn s.heap) (k : Kept [] F s.heap h') (FR : ∀ a ∈ F, a ∈ R) (hn : s.heap.get? a = none) (ha : h'.get? a = some o) (ho : o = listOf vs.toArray n) (hv : DAll w.pool vs ds) :
    Step base R F X w s ⟨w.ρ ++ [a], w.pool⟩ (H ++ [some ds]) { s with heap := h', toks := tk } := by
  have hna : a ∉ w.ρ := fun m => by obtain ⟨o', e⟩ := h.there a m; rw [hn] at e; cases e
  have h₁ := h.kept k FR
  refine ⟨⟨⟨[a], rfl, fun b m => by rw [List.mem_singleton.mp m]; exact hn⟩, fun p m => m⟩, k.mono (fun _ m => nomatch m), ⟨by simp [h.len], ?_, fun i ds' e => ?_, h₁.pool, fun b m => ?_, fun b m => ?_, fun b m => ?_, h.offP⟩, tk, rfl⟩
  · refine List.nodup_append.mpr ⟨h.nodup, by simp, fun x m y m' q => ?_⟩
    rw [List.mem_singleton.mp m'] at q
    exact hna (q ▸ m)
  · by_cases hi : i < H.length
    · rw [List.getElem?_append_left hi] at e
      obtain ⟨b, o', vs', n', h1, h2, h3, h4, h5, h6, h7⟩ := h₁.live i ds' e
      exact ⟨b, o', vs', n', by rw [List.getElem?_append_left (by rw [h.len]; exact hi)]; exact h1, h2, h3, h4, h5, h6, h7⟩
    · have hi' : i = H.length := by
        have := (List.getElem?_eq_some_iff.mp e).1
        simp at this; lia
      subst hi'
      simp at e
      subst e
      refine ⟨a, o, vs, n, ?_, ha, by rw [ho], by rw [ho], hv, fun p m q => ?_, ho⟩
      · rw [show H.length = w.ρ.length from h.len.symm]; simp
      · have := h.pool p m; rw [q, hn] at this; cases this
  · rcases List.mem_append.mp m with m | m
    · exact h₁.there b m
    · rw [List.mem_singleton.mp m]; exact ⟨o, ha⟩
  · rcases List.mem_append.mp m with m | m
    · exact h.offB b m
    · rw [List.mem_singleton.mp m]
      cases q : base.get? a with
      | none => rfl
      | some o' => have := hb a o' q; rw [hn] at this; cases this
  · rcases List.mem_append.mp m with m | m
    · exact h.offR b m
    · rw [List.mem_singleton.mp m]; intro q; obtain ⟨o', e⟩ := rin _ q; rw [hn] at e; cases e

/-- a list turned -/
theorem step_set {R F X : List Addr} {w : Wd} {H : Hp} {s : Shared} {h' : Heap} {tk n i : Nat} {a : Addr} {o : Obj} {vs : List Value} {ds ds₀ : List PyData} (h : HpRel base w H R s.heap) (hi : H[i]? = some (some ds₀)) (hr : w.ρ[i]? = some a)
    (kk : Kept [a] F s.heap h') (FR : ∀ a ∈ F, a ∈ R) (ha : h'.get? a = some o) (ho : o = listOf vs.toArray n) (hv : DAll w.pool vs ds) :
    Step base R F X w s w (H.set i (some ds)) { s with heap := h', toks := tk } := by
  have hm : a ∈ w.ρ := List.mem_of_getElem? hr
  have k : ∀ b o, s.heap.get? b = some o → b ∉ R → b ≠ a → h'.get? b = some o := fun b o e r q => kk.same b o e (fun m => q (List.mem_singleton.mp m)) fun m => r (FR b m)
  have hap : ∀ p ∈ w.pool, p.1 ≠ a := by
    obtain ⟨b, o', vs', n', h1, h2, h3, h4, h5, h6, h7⟩ := h.live i ds₀ hi
    rw [hr] at h1; cases h1; exact h6
  refine ⟨.refl, kk.mono fun b m => List.mem_append.mpr (.inr (List.mem_singleton.mp m ▸ hm)),
    ⟨by simp [h.len], h.nodup, fun j ds' e => ?_, fun p m => k _ _ (h.pool p m) (h.offP p m) (hap p m), fun b m => ?_, h.offB, h.offR, h.offP⟩, tk, rfl⟩
  · by_cases q : j = i
    · subst q
      have hl : j < H.length := (List.getElem?_eq_some_iff.mp hi).1
      rw [List.getElem?_set_self hl] at e
      cases e
      exact ⟨a, o, vs, n, hr, ha, by rw [ho], by rw [ho], hv, hap, ho⟩
    · rw [List.getElem?_set_ne (Ne.symm q)] at e
      obtain ⟨b, o', vs', n', h1, h2, h3, h4, h5, h6, h7⟩ := h.live j ds' e
      refine ⟨b, o', vs', n', h1, k _ _ h2 (h.offR b (List.mem_of_getElem? h1)) fun z => q ?_, h3, h4, h5, h6, h7⟩
      subst z
      exact (List.getElem?_inj (List.getElem?_eq_some_iff.mp h1).1 h.nodup).mp (h1.trans hr.symm)
  · by_cases q : b = a
    · exact ⟨o, q ▸ ha⟩
    · obtain ⟨o', e⟩ := h.there b m; exact ⟨o', k b o' e (h.offR b m) q⟩

noncomputable def allNews (base h : Heap) (L : Addr) : Led := (List.range h.objs.size).filterMap fun b => if b = L ∨ (base.get? b).isSome then none else (h.get? b).map fun o => (b, o)
theorem allNews_mem {base h : Heap} {L b : Addr} {o : Obj} (e : h.get? b = some o) (n : b ≠ L) (hb : base.get? b = none) : (b, o) ∈ allNews base h L :=
  List.mem_filterMap.mpr ⟨b, List.mem_range.mpr (Heap.lt_size e), by rw [if_neg (by simp [n, hb]), e]; rfl⟩
theorem allNews_news {base h : Heap} {L : Addr} : News base L h (allNews base h L) := fun p hp => by
  obtain ⟨b, _, e⟩ := List.mem_filterMap.mp hp
  split at e
  · cases e
  · rename_i n
    obtain ⟨o, ho, rfl⟩ := Option.map_eq_some_iff.mp e
    refine ⟨ho, fun q => n (.inl q), ?_⟩
    cases q : base.get? b with
    | none => rfl
    | some _ => exact absurd (.inr (by rw [q]; rfl)) n

inductive FrnI (base : Heap) (cx : Cx) (s : Shared) : Prop where
  | mk (m : Str → Option Value) (news : Led) (h1 : Fr base cx.L s.heap m) (h2 : News base cx.L s.heap news) (h3 : ∀ D, (∀ p ∈ news, p.1 ≠ D) → D ≠ cx.L → base.get? D = none → s.heap.get? D = none) (h4 : ∀ h', Fr base cx.L h' m → News base cx.L h' news → Kept [] cx.F s.heap h') : FrnI base cx s
/-- the library's frame and ledger: all that stands is in it -/
theorem StE.frn {s : Shared} (C : CxOk base cx n) (x : StE base cx lo H w s) : FrnI base cx s := by
  obtain ⟨m, hm⟩ := x.fr _ C.LF
  refine ⟨m, allNews base s.heap cx.L, ⟨hm, x.stays, C.above⟩, allNews_news, fun D hD hL hB => ?_, fun h' F N => ?_⟩
  · cases q : s.heap.get? D with
    | none => rfl
    | some o => exact absurd rfl (hD _ (allNews_mem q hL hB))
  have key : ∀ b o, s.heap.get? b = some o → b ≠ cx.L → h'.get? b = some o := fun b o e q => by
    cases hb : base.get? b with
    | none => exact (N _ (allNews_mem e q hb)).1
    | some o' =>
      have := x.stays b o' hb
      rw [e] at this; cases this
      exact F.keep b o hb
  refine ⟨fun b o e => ?_, fun b o e _ f => key b o e fun q => f (q ▸ C.LF), fun b m' e _ f => ?_⟩
  · by_cases q : b = cx.L
    · exact q ▸ ns_some F.ns
    · exact ⟨o, key b o e q⟩
  · by_cases q : b = cx.L
    · subst q
      rw [ns_unique e hm]; exact F.ns
    · obtain ⟨o, es, ep, ho, r⟩ := e
      exact ⟨o, es, ep, key b o ho q, r⟩
end
end Mine
end

section
set_option autoImplicit false
set_option maxRecDepth 100000
namespace Mine

noncomputable def opOf : Op → Operator
  | .add => .Add | .sub => .Sub | .mul => .Mult | .fdiv => .FloorDiv | .mod => .Mod | .pow => .Pow
noncomputable def cmOf : Cm → CmpOp
  | .eq => .Eq | .ne => .NotEq | .lt => .Lt | .gt => .Gt | .le => .LtE | .ge => .GtE | .is => .Is | .isNot => .IsNot | .inn => .In

section
variable {prog : Program} {wo : World} {base : Heap} {cx : Cx} {n : Nat} {lo : Lo} {H : Hp} {w : Wd}

theorem snd_up {α β : Type} {V : Wd → β → α → Prop} {T : PT β} {g : Option α}
    (h : ∀ a, g = some a → ∀ s Q E, StE base cx lo H w s → (∀ v w' s', Step base cx.R cx.F [] w s w' H s' → V w' v a → Q v s') → T Q E s) : SndW base cx V T lo H (up g H) w := by
  intro s Q E st ok er ne
  cases g with
  | none => exact absurd rfl ne
  | some a => exact h a rfl s Q E st fun v w' s' k hv => ok a H rfl v w' s' k hv

theorem gets_none {h : Heap} {a : Addr} (m : h.objs.size ≤ a) : h.get? a = none := Heap.get?_none_of_le m

theorem int2_inv {α : Type} {f : Int → Int → Option α} {x y : PyData} {r : α} {P : PyData → PyData → Prop} (h : ∀ i j, f i j = some r → P (.int i) (.int j)) (e : int2 f x y = some r) : P x y := by
  unfold int2 at e
  split at e
  · exact h _ _ e
  · cases e
theorem addD_inv {P : PyData → PyData → PyData → Prop} {x y z : PyData} (h1 : ∀ i j, P (.int i) (.int j) (.int (i + j))) (h2 : ∀ i b, P (.int i) (.bool b) (.int (i + if b then 1 else 0)))
    (h3 : ∀ a b, a.length ≤ 4096 ∧ b.length ≤ 4096 → P (.str a) (.str b) (.str (a ++ b))) (h4 : ∀ a b, a.length ≤ 4096 ∧ b.length ≤ 4096 → P (.list a) (.list b) (.list (a ++ b))) (e : addD x y = some z) : P x y z := by
  unfold addD at e
  split at e
  · cases e; exact h1 _ _
  · cases e; exact h2 _ _
  · split at e
    · cases e; exact h3 _ _ ‹_›
    · cases e
  · split at e
    · cases e; exact h4 _ _ ‹_›
    · cases e
  · cases e
theorem mulD_inv {P : PyData → PyData → PyData → Prop} {x y z : PyData} (h1 : ∀ i j, i.natAbs ≤ big ∧ j.natAbs ≤ big → P (.int i) (.int j) (.int (i * j)))
    (h2 : ∀ a j, a.length ≤ 16 ∧ -4096 ≤ j ∧ j ≤ 4096 → P (.str a) (.int j) (.str (Txt.mul a j))) (h3 : ∀ a j, a.length * j.toNat ≤ 256 ∧ -4096 ≤ j ∧ j ≤ 4096 → P (.list a) (.int j) (.list ((List.replicate j.toNat a).flatten))) (e : mulD x y = some z) : P x y z := by
  unfold mulD at e
  split at e
  · split at e
    · cases e; exact h1 _ _ ‹_›
    · cases e
  · split at e
    · cases e; exact h2 _ _ ‹_›
    · cases e
  · split at e
    · cases e; exact h3 _ _ ‹_›
    · cases e
  · cases e
theorem some_if {α : Type} {c : Prop} [Decidable c] {a z : α} (h : (if c then some a else none) = some z) : c ∧ a = z := by
  by_cases q : c
  · rw [if_pos q] at h; exact ⟨q, Option.some.inj h⟩
  · rw [if_neg q] at h; cases h
theorem some_unless {α : Type} {c : Prop} [Decidable c] {a z : α} (h : (if c then none else some a) = some z) : ¬ c ∧ a = z := by
  by_cases q : c
  · rw [if_pos q] at h; cases h
  · rw [if_neg q] at h; exact ⟨q, Option.some.inj h⟩

noncomputable def BinT (prog : Program) (wo : World) (base : Heap) (cx : Cx) (H : Hp) (w : Wd) (o : Operator) (a b : Value) (s : Shared) (Q E : Value → Shared → Prop) (x y z : PyData) : Prop :=
  DIn w.pool a x → DIn w.pool b y → (∀ v w' s', Step base cx.R cx.F [] w s w' H s' → DIn w'.pool v z → Q v s') → wpAny (model prog wo) cx.A (binaryOp o a b) Q E s
theorem bin_int {o : Operator} {a b : Value} {x y z : PyData} {s : Shared} {Q E : Value → Shared → Prop} {f : Int → Int → Option PyData} (e : int2 f x y = some z)
    (h : ∀ i j, f i j = some z → ∀ t u, a = .int i t → b = .int j u → (∀ v w' s', Step base cx.R cx.F [] w s w' H s' → DIn w'.pool v z → Q v s') → wpAny (model prog wo) cx.A (binaryOp o a b) Q E s) : BinT prog wo base cx H w o a b s Q E x y z :=
  int2_inv (P := fun x y => BinT prog wo base cx H w o a b s Q E x y z) (fun i j e ha hb k => by
    obtain ⟨t, ea⟩ := ha.int_inv
    obtain ⟨u, eb⟩ := hb.int_inv
    exact h i j e t u ea eb k) e
theorem bin_add {a b : Value} {x y z : PyData} {s : Shared} {Q E : Value → Shared → Prop} (C : CxOk base cx n) (st : StE base cx lo H w s) (e : addD x y = some z) : BinT prog wo base cx H w .Add a b s Q E x y z := by
  refine addD_inv (P := fun x y z => BinT prog wo base cx H w .Add a b s Q E x y z) (fun i j ha hb k => ?_) (fun i j ha hb k => ?_) (fun i j q ha hb k => ?_) (fun i j q ha hb k => ?_) e
  · obtain ⟨_, rfl⟩ := ha.int_inv
    obtain ⟨_, rfl⟩ := hb.int_inv
    exact add_int (k _ w _ (Step.here st.hp) (.int _ _))
  · obtain ⟨_, rfl⟩ := ha.int_inv
    obtain rfl := hb.bool_inv
    exact add_int_bool (k _ w _ (Step.here st.hp) (.int _ _))
  · obtain ⟨_, rfl⟩ := ha.str_inv
    obtain ⟨_, rfl⟩ := hb.str_inv
    exact add_str (fun t' tk => k _ w _ (Step.here st.hp) (.str _ _)) (by rw [sizeLine_eq]; lia)
  · obtain ⟨_, _, _, _, rfl, m, c, e, r⟩ := ha.list_inv
    obtain ⟨_, _, _, _, rfl, m', c', e', r'⟩ := hb.list_inv
    obtain ⟨m₀, nw, F, N, fs, kp⟩ := st.frn C
    refine add_arrays F N ⟨_, st.hp.pool _ m, c, _, e.1⟩ ⟨_, st.hp.pool _ m', c', _, e'.1⟩ (fun h' F' N' => ?_) ?_
    · have hk := kp h' F' fun p hp => N' p (.tail _ hp)
      have hnew := (N' _ (.head _)).1
      refine k _ _ _ (step_pool st.hp st.rin hk C.FR (gets_none (Nat.le_refl _)) hnew (tk := s.toks)) (.list (.head _) rfl ⟨rfl, rfl, rfl⟩ ?_)
      simpa using (r.append r').mono fun x hx => List.Mem.tail _ hx
    · have := r.length; have := r'.length; simp; rw [sizeLine_eq]; lia
theorem bin_mul {a b : Value} {x y z : PyData} {s : Shared} {Q E : Value → Shared → Prop} (C : CxOk base cx n) (st : StE base cx lo H w s) (e : mulD x y = some z) : BinT prog wo base cx H w .Mult a b s Q E x y z := by
  refine mulD_inv (P := fun x y z => BinT prog wo base cx H w .Mult a b s Q E x y z) (fun i j q ha hb k => ?_) (fun i j q ha hb k => ?_) (fun i j q ha hb k => ?_) e
  · obtain ⟨_, rfl⟩ := ha.int_inv
    obtain ⟨_, rfl⟩ := hb.int_inv
    exact mul_int (k _ w _ (Step.here st.hp) (.int _ _)) (IntMulOk.of_left (intBits_le_64 (by have := q.1; unfold big at this; lia) (by have := q.1; unfold big at this; lia)))
  · obtain ⟨_, rfl⟩ := ha.str_inv
    obtain ⟨_, rfl⟩ := hb.int_inv
    exact SB.mul (mulOk_of 16 4096 q.1 (by have := q.2.2; lia) (by have := q.2.1; lia) (by decide) (by decide)) (fun t' tk => k _ w _ (Step.here st.hp) (.str _ _))
  · obtain ⟨_, _, _, _, rfl, m, c, e, r⟩ := ha.list_inv
    obtain ⟨_, rfl⟩ := hb.int_inv
    obtain ⟨m₀, nw, F, N, fs, kp⟩ := st.frn C
    refine KMa.mul F N ⟨_, st.hp.pool _ m, c, _, e.1⟩ (by lia) (by lia) (by rw [r.length]; lia) rfl fun D h' F' N' l => ?_
    have hk := kp h' F' fun p hp => N' p (.tail _ hp)
    have hnew := (N' _ (.head _)).1
    have hn' := N' _ (.head _)
    refine k _ _ _ (step_pool st.hp st.rin hk C.FR (fs D (fun p hp q => Nat.lt_irrefl D (q ▸ l p hp)) hn'.2.1 hn'.2.2) hnew (tk := s.toks)) (.list (.head _) rfl ⟨rfl, rfl, rfl⟩ ?_)
    exact (r.replicate _).mono fun x hx => List.Mem.tail _ hx
theorem snd_bin {o : Op} {a b : Value} {x y : PyData} (C : CxOk base cx n) (ha : DIn w.pool a x) (hb : DIn w.pool b y) :
    SndW base cx (VRel base) (fun Q E s => wpAny (model prog wo) cx.A (binaryOp (opOf o) a b) Q E s) lo H (up ((binD o x y).map .d) H) w := by
  refine snd_up fun r hr s Q E st k => ?_
  obtain ⟨z, hz, rfl⟩ := Option.map_eq_some_iff.mp hr
  suffices g : BinT prog wo base cx H w (opOf o) a b s Q E x y z from g ha hb fun v w' s' h d => k v w' s' h (.d d)
  clear k hr ha hb
  cases o with
  | add => exact bin_add C st hz
  | mul => exact bin_mul C st hz
  | sub =>
    refine bin_int hz fun i j e t u ea eb k => ?_
    obtain rfl := Option.some.inj e
    subst ea eb
    exact sub_int (k _ w _ (Step.here st.hp) (.int _ _))
  | fdiv =>
    refine bin_int hz fun i j e t u ea eb k => ?_
    obtain ⟨q, rfl⟩ := some_unless e
    subst ea eb
    exact floordiv_int (fun e => q (.inl e)) (k _ w _ (Step.here st.hp) (.int _ _)) (.inl (PyProof.noPylong_small (by have : ¬ big < j.natAbs := fun e => q (.inr e); unfold big at this; lia)))
  | mod =>
    refine bin_int hz fun i j e t u ea eb k => ?_
    obtain ⟨q, rfl⟩ := some_unless e
    subst ea eb
    exact mod_int_or C.hh (fun e => absurd e q) fun _ => k _ w _ (Step.here st.hp) (.int _ _)
  | pow =>
    refine bin_int hz fun i j e t u ea eb k => ?_
    obtain ⟨q, rfl⟩ := some_if e
    subst ea eb
    exact pow_int_small q.1 (by lia) (by lia) (k _ w _ (Step.here st.hp) (.int _ _))

theorem okD_shape {d : PyData} (h : okD d = true) : d.canLay0 = true ∧ d.depth ≤ 64 := by
  unfold okD SeqAt.shaped at h
  simpa using h
theorem lay_all {xs : List PyData} (h : xs.all okD = true) : PyData.canLayAll0 xs = true := by
  induction xs with
  | nil => rfl
  | cons x xs ih =>
    simp only [List.all_cons, Bool.and_eq_true] at h
    simp only [PyData.canLayAll0, (okD_shape h.1).1, ih h.2, Bool.and_self]

theorem snd_cmp {c : Cm} {a b : Value} {x y : PyData} (C : CxOk base cx n) (ha : DIn w.pool a x) (hb : DIn w.pool b y) :
    SndW base cx (fun _ v r => v = .bool r) (fun Q E s => wpAny (model prog wo) cx.A (compareOp (cmOf c) a b) Q E s) lo H (up (cmpD c x y) H) w := by
  refine snd_up fun r hr s Q E st k => ?_
  have hu : cx.A.units + 64 < cLine := by have := C.units; lia
  obtain ⟨as, ra⟩ := ha.reads st.hp.pool
  obtain ⟨bs, rb⟩ := hb.reads st.hp.pool
  have fin : ∀ z, r = z → Q (.bool z) s := fun z e => e ▸ k _ w _ (Step.here (tk := s.toks) st.hp) rfl
  have two : ∀ {f : Int → Int → Option Bool}, int2 f x y = some r → ∃ i j t u, f i j = some r ∧ a = .int i t ∧ b = .int j u := fun {f} e =>
    int2_inv (P := fun x y => DIn w.pool a x → DIn w.pool b y → ∃ i j t u, f i j = some r ∧ a = .int i t ∧ b = .int j u) (fun i j e ha hb => by
      obtain ⟨t, ea⟩ := ha.int_inv
      obtain ⟨u, eb⟩ := hb.int_inv
      exact ⟨i, j, t, u, e, ea, eb⟩) e ha hb
  have isn : ∀ {z : Bool}, isD z y = some r → r = z ∧ b = .none := fun {z} e => by
    cases y <;> first | exact ⟨(Option.some.inj e).symm, hb.none_inv⟩ | cases e
  have isb : ∀ {v : Value}, DIn w.pool v x → noneD x = (v == Value.none) := fun h => by cases h <;> rfl
  cases c with
  | eq =>
    obtain ⟨q, rfl⟩ := some_if hr
    rw [Bool.and_eq_true] at q
    exact eq_dataH ra rb q.1 q.2 hu (fin _ rfl)
  | ne =>
    obtain ⟨q, rfl⟩ := some_if hr
    rw [Bool.and_eq_true] at q
    exact ne_dataH ra rb q.1 q.2 hu (fin _ rfl)
  | lt => obtain ⟨i, j, t, u, e, rfl, rfl⟩ := two hr; exact lt_int (fin _ (Option.some.inj e).symm)
  | gt => obtain ⟨i, j, t, u, e, rfl, rfl⟩ := two hr; exact gt_int (fin _ (Option.some.inj e).symm)
  | le => obtain ⟨i, j, t, u, e, rfl, rfl⟩ := two hr; exact le_int (fin _ (Option.some.inj e).symm)
  | ge => obtain ⟨i, j, t, u, e, rfl, rfl⟩ := two hr; exact ge_int (fin _ (Option.some.inj e).symm)
  | inn =>
    change inD x y = some r at hr
    unfold inD at hr
    split at hr
    · obtain ⟨q, rfl⟩ := some_if hr
      rw [Bool.and_eq_true] at q
      have h1 := okD_shape q.1
      exact SeqAt.in_list_reads rb ra (lay_all q.2) h1.1 (by have := C.units; have := Nat.min_le_right (PyData.depthAll ‹_›) x.depth; lia) (fin _ rfl)
    · cases hr
  | is =>
    obtain ⟨e, rfl⟩ := isn hr
    refine is_none (fin _ (e.trans ?_))
    exact isb ha
  | isNot =>
    obtain ⟨e, rfl⟩ := isn hr
    refine isNot_none (fin _ (e.trans ?_))
    rw [isb ha]

theorem snd_cmpV {c : Cm} {a b : Value} {x y : PyData} (C : CxOk base cx n) (ha : DIn w.pool a x) (hb : DIn w.pool b y) :
    SndW base cx (VRel base) (fun Q E s => wpAny (model prog wo) cx.A (compareOp (cmOf c) a b) Q E s) lo H (up ((cmpD c x y).map fun b => .d (.bool b)) H) w := by
  intro s Q E st ok er ne
  refine snd_cmp (prog := prog) (wo := wo) C ha hb s Q E st (fun r H' e v w' s' k hv => ?_) (fun t H' e => ?_) fun e => ne ?_
  · subst hv
    refine ok (.d (.bool r)) H' ?_ _ w' s' k (.d (.bool r))
    cases hc : cmpD c x y with
    | none => rw [hc] at e; cases e
    | some z => rw [hc] at e; cases e; rfl
  · cases hc : cmpD c x y <;> rw [hc] at e <;> cases e
  · cases hc : cmpD c x y with
    | none => rfl
    | some z => rw [hc] at e; cases e
end
end Mine
end

section
set_option autoImplicit false
set_option maxRecDepth 100000
namespace Mine

section
variable {prog : Program} {wo : World} {base : Heap} {cx : Cx} {n : Nat} {lo : Lo} {H : Hp} {w : Wd}

theorem push_all {h : Heap} {o : Obj} : ∀ b x, h.get? b = some x → (h.push o).get? b = some x := fun _ _ e => Heap.get?_push_of_some _ e

theorem seqIdx {j : Int} {m : Nat} (h0 : 0 ≤ j) (h1 : j < m) : seqIndex? j m = some j.toNat := by
  unfold seqIndex?
  simp only [if_neg (show ¬ j < 0 by lia)]
  rw [if_pos (by simp [h0, h1])]
theorem natOf_some {v : DV} {k : Nat} (h : natOf v = some k) : v = .d (.int (k : Int)) ∧ k ≤ 4096 := by
  unfold natOf at h
  split at h
  · split at h
    · rename_i i q
      cases h
      exact ⟨by rw [Int.toNat_of_nonneg q.1], by lia⟩
    · cases h
  · cases h
theorem intOf_some {v : DV} {k : Int} (h : intOf v = some k) : v = .d (.int k) := by
  unfold intOf at h
  split at h
  · cases h; rfl
  · cases h
theorem int_val {v : Value} {k : Int} (r : VRel base w v (.d (.int k))) : ∃ t, v = .int k t := by
  have h := r.d_inv
  cases h; exact ⟨_, rfl⟩

theorem intsAre_get {vs : List Value} {ns : List Int} (h : IntsAre vs ns) : ∀ {k : Nat} {i : Int}, ns[k]? = some i → ∃ t, vs[k]? = some (.int i t) := by
  induction h with
  | nil => intro k i e; simp at e
  | cons =>
    rename_i ih
    intro k i e
    cases k with
    | zero => cases e; exact ⟨_, rfl⟩
    | succ k => exact ih e

theorem snd_sub {value slice : Expr} {o i : Value} {x y : DV} (ho : VRel base w o x) (hi : VRel base w i y)
    (hs : ∀ o i, subscripted slice false o i = operate [o, i] (getItem o i)) :
    SndW base cx (VRel base) (fun Q E s => wpAny (model prog wo) cx.A (subscriptTail value slice o i) Q E s) lo H (up ((intOf y).bind fun k => subD H x k) H) w := by
  refine snd_up fun r hr₀ s Q E st k => ?_
  obtain ⟨j, hj, hr⟩ := Option.bind_eq_some_iff.mp hr₀
  obtain rfl := intOf_some hj
  obtain ⟨t, rfl⟩ := int_val hi
  unfold subD at hr
  split at hr
  · rename_i q
    have h63 : j < 2 ^ 63 := by lia
    split at hr
    · obtain ⟨d, hd, rfl⟩ := Option.map_eq_some_iff.mp hr
      replace ho := ho.d_inv
      obtain ⟨_, _, _, _, rfl, m, c, e, rr⟩ := ho.list_inv
      obtain ⟨v, hv, hvd⟩ := rr.get hd
      have hl : s.heap.IsList _ _ := ⟨_, st.hp.pool _ m, c, _, e.1⟩
      exact tail_any hl.typeIs slot_list_getitem.lookup (wpAny_getItem_list hl q.1 h63 (by simpa using hv) (k _ w _ (Step.here (tk := s.toks) st.hp) (.d hvd))) (hs _ _)
    · obtain ⟨d, hd, rfl⟩ := Option.map_eq_some_iff.mp hr
      replace ho := ho.d_inv
      obtain ⟨_, _, _, _, rfl, m, c, e, rr⟩ := ho.tuple_inv
      obtain ⟨v, hv, hvd⟩ := rr.get hd
      have hl : IsTup s.heap _ _ := ⟨_, st.hp.pool _ m, c, _, e⟩
      have hlt := (List.getElem?_eq_some_iff.mp hv).1
      exact item_tupleT hl (by lia) h63 (j := j.toNat) (seqIdx q.1 (by lia)) hv (k _ w _ (Step.here (tk := s.toks) st.hp) (.d hvd)) (hs _ _)
    · split at hr
      · rename_i x q2
        cases hr
        replace ho := ho.d_inv
        cases ho
        exact KXi.item rfl (by lia) q2.1 (by have := q2.2; lia) (fun _ => k _ w _ (Step.here st.hp) (.d (.str _ _))) (hs _ _) (fun r => by cases value <;> rfl)
      · cases hr
    · obtain ⟨d, hd, rfl⟩ := Option.map_eq_some_iff.mp hr
      obtain ⟨ds, hds, hd⟩ := Option.bind_eq_some_iff.mp hd
      have hds' := Option.join_eq_some_iff.mp hds
      have hoq := ho.ml_inv; clear ho; obtain ⟨_, rfl, ho⟩ := hoq
      obtain ⟨a, ob, vs, nn, h1, h2, h3, h4, h5, h6, h7⟩ := st.hp.live _ _ hds'
      rw [ho] at h1; cases h1
      obtain ⟨v, hv, hvd⟩ := h5.get hd
      have hl : s.heap.IsList _ _ := ⟨_, h2, h3, _, h4⟩
      exact tail_any hl.typeIs slot_list_getitem.lookup (wpAny_getItem_list hl q.1 h63 (by simpa using hv) (k _ w _ (Step.here (tk := s.toks) st.hp) (.d hvd))) (hs _ _)
    · obtain ⟨d, hd, rfl⟩ := Option.map_eq_some_iff.mp hr
      obtain ⟨_, _, rfl, ha, hn⟩ := ho.scr_inv
      obtain ⟨t, hv⟩ := intsAre_get hn hd
      obtain ⟨ob, h2, h3⟩ := ha
      have hl : s.heap.IsList _ _ := ⟨ob, st.stays _ _ h2, h3⟩
      exact tail_any hl.typeIs slot_list_getitem.lookup (wpAny_getItem_list hl q.1 h63 (by simpa using hv) (k _ w _ (Step.here (tk := s.toks) st.hp) (.d (.int _ _)))) (hs _ _)
    · cases hr
  · cases hr

/-- a tuple cut -/
theorem getItem_tuple_cut {A : Around} {s : Shared} {E : Value → Shared → Prop} {t sl : Addr} {items : Array Value} {vl vu vs : Value} {lo' hi' st' : Option Int} {Q : Value → Shared → Prop} (ht : IsTup s.heap t items)
    (hs : s.heap.IsSliceOf sl vl vu vs) (pl : IsPart vl lo') (pu : IsPart vu hi') (ps : IsPart vs st') (h0 : ¬ ((st'.getD 1 == 0) = true)) (a : Int) (c : Nat)
    (ha : (Builtin.Slice.sliceAdjust lo' hi' (st'.getD 1) (items.size : Int)).1 = a) (hc : Builtin.Slice.slicePlaces (Builtin.Slice.sliceAdjust lo' hi' (st'.getD 1) (items.size : Int)).1 (Builtin.Slice.sliceAdjust lo' hi' (st'.getD 1) (items.size : Int)).2 (st'.getD 1) = c)
    (q : ¬ (a == 0 && st'.getD 1 == 1 && c == items.size) = true)
    (h' : Q (.ref s.heap.objs.size) { s with heap := s.heap.push { cls := .type "tuple", data := .seq ((List.range c).filterMap fun (k : Nat) => items[(a + (k : Int) * st'.getD 1).toNat]?).toArray } })
    (hsz : c ≤ sizeLine) : wpAny (model prog wo) A (getItem (.ref t) (.ref sl)) Q E s := by
  obtain ⟨os, hos, hcs, hds⟩ := id hs
  have hTs : s.TypeIs (.ref sl) "slice" := ⟨os, hos, hcs⟩
  have part : ∀ {v : Value} {p : Option Int} {Q : Option Int → Shared → Prop}, IsPart v p → Q p s → wpAny (model prog wo) A.in1 (Builtin.Slice.slicePartIndex v) Q E s := fun hp hq => by
    cases hp with
    | none => exact slicePart_none hq
    | int i u => exact slicePart_int hq
  unfold getItem
  try with_reducible refine wpAny_holding ?_
  first | refine wpAny_bind (wpAny_pure ?_) | skip
  refine wpAny_bind (wpAny_sequenceKey ht.typeIs (by decide) ?_)
  refine wpAny_bind (wpAny_callSpecial?_slot (name := Str.ofString "__getitem__") ht.typeIs slot_tuple_getitem
    (wpAny_call_entry slot_tuple_getitem ht.typeIs entry_tuple_getitem ?_ (args_tuple_getitem _ _)))
  show wpAny _ _ (Builtin.Tuple.tupleItemsOf (.ref t) >>= _) _ _ s
  refine wpAny_bind (tupleItemsOf_ ht ?_)
  refine wpAny_bind (wpAny_typeOf hTs ?_)
  rw [if_pos (by decide)]
  have ap : ∀ {Q : Int × Int × Nat → Shared → Prop}, Q (a, st'.getD 1, c) s → wpAny (model prog wo) A.in1 (Builtin.Slice.sliceApplied (.ref sl) (pure (items.size : Int))) Q E s := fun {Q} hq => by
    unfold Builtin.Slice.sliceApplied Builtin.Slice.sliceFields
    refine wpAny_bind (wpAny_bind (wpAny_field hos hds (x := vl) rfl (wpAny_bind (wpAny_field hos hds (x := vu) rfl (wpAny_bind (wpAny_field hos hds (x := vs) rfl (wpAny_pure ?_)))))))
    refine wpAny_bind (part ps ?_)
    rw [if_neg h0]
    refine wpAny_bind (part pl (wpAny_bind (part pu (wpAny_bind (wpAny_pure ?_)))))
    have : (match Builtin.Slice.sliceAdjust lo' hi' (st'.getD 1) (items.size : Int) with | (lo, hi) => (pure (lo, st'.getD 1, Builtin.Slice.slicePlaces lo hi (st'.getD 1)) : Sem _)) = pure (a, st'.getD 1, c) := by
      rw [← ha, ← hc]
    exact wpAny_of_eq this hq
  refine wpAny_bind (ap ?_)
  show wpAny _ _ (if (a == 0 && st'.getD 1 == 1 && c == items.size) = true then _ else _) _ _ s
  rw [if_neg q]
  have hz : sizeOk (.seq ((List.range c).filterMap fun (k : Nat) => items[(a + (k : Int) * st'.getD 1).toNat]?).toArray) := by
    show ((List.range c).filterMap fun (k : Nat) => items[(a + (k : Int) * st'.getD 1).toNat]?).toArray.size ≤ sizeLine
    rw [List.size_toArray]
    exact Nat.le_trans (List.length_filterMap_le _ _) (by rw [List.length_range]; exact hsz)
  first
    | exact wpAny_bind (m := Builtin.Tuple.tupleExact _) (wpAny_newObj_type (wpAny_pure ⟨_, rfl, wpAny_pure h'⟩) hz)
    | exact wpAny_bind (m := Builtin.Tuple.tupleExact _) (wpAny_newObj_type (wpAny_bind (wpAny_pure (wpAny_pure ⟨_, rfl, wpAny_pure h'⟩))) hz)
    | exact wpAny_bind (wpAny_bind (m := Builtin.Tuple.tupleExact _) (wpAny_newObj_type (wpAny_pure (wpAny_pure ⟨_, rfl, wpAny_pure h'⟩)) hz))
    | exact wpAny_bind (wpAny_bind (m := Builtin.Tuple.tupleExact _) (wpAny_newObj_type (wpAny_pure ⟨_, rfl, wpAny_pure h'⟩) hz))

theorem adj_ab {a b n : Nat} (h1 : a ≤ b) (h2 : b ≤ n) : Builtin.Slice.sliceAdjust (some (a : Int)) (some (b : Int)) 1 (n : Int) = ((a : Int), (b : Int)) := by
  unfold Builtin.Slice.sliceAdjust
  simp only [show ¬ ((1 : Int) < 0) by lia, show ¬ ((a : Int) < 0) by lia, show ¬ ((b : Int) < 0) by lia, if_false]
  congr 1 <;> lia
theorem adj_b {b n : Nat} (h2 : b ≤ n) : Builtin.Slice.sliceAdjust none (some (b : Int)) 1 (n : Int) = (0, (b : Int)) := by
  unfold Builtin.Slice.sliceAdjust
  simp only [show ¬ ((1 : Int) < 0) by lia, show ¬ ((b : Int) < 0) by lia, if_false]
  congr 1; lia
theorem adj_rev {n : Nat} : Builtin.Slice.sliceAdjust none none (-1) (n : Int) = ((n : Int) - 1, -1) := by
  unfold Builtin.Slice.sliceAdjust
  simp
theorem places_ab {a b : Nat} (h1 : a ≤ b) : Builtin.Slice.slicePlaces (a : Int) (b : Int) 1 = b - a := by
  unfold Builtin.Slice.slicePlaces
  simp only [show (1 : Int) > 0 by lia, if_true, Int.ediv_one]
  split <;> lia
theorem places_rev {n : Nat} : Builtin.Slice.slicePlaces ((n : Int) - 1) (-1) (-1) = n := by
  unfold Builtin.Slice.slicePlaces
  simp only [show ¬ ((-1 : Int) > 0) by lia, if_false, Int.neg_neg, Int.ediv_one]
  split <;> lia
theorem pick_ab (xs : Array Value) (a c : Nat) : ((List.range c).filterMap fun (k : Nat) => xs[((a : Int) + (k : Int) * 1).toNat]?) = (xs.toList.drop a).take c := by
  have e : (fun (k : Nat) => xs[((a : Int) + (k : Int) * 1).toNat]?) = fun k => xs[a + k]? := by
    funext k
    rw [show ((a : Int) + (k : Int) * 1).toNat = a + k by lia]
  rw [e, ← pick_run xs a c, List.filterMap_map]; rfl
theorem pick_rev (xs : Array Value) : ((List.range xs.size).filterMap fun (k : Nat) => xs[((xs.size : Int) - 1 + (k : Int) * -1).toNat]?) = xs.toList.reverse := by
  have e : ((List.range xs.size).filterMap fun (k : Nat) => xs[((xs.size : Int) - 1 + (k : Int) * -1).toNat]?) = ((List.range xs.size).map fun k => xs.size - 1 - k).filterMap (xs[·]?) := by
    rw [List.filterMap_map]
    congr 1
    funext k
    show xs[((xs.size : Int) - 1 + (k : Int) * -1).toNat]? = xs[xs.size - 1 - k]?
    rw [show ((xs.size : Int) - 1 + (k : Int) * -1).toNat = xs.size - 1 - k by lia]
  have r : (List.range xs.size).filterMap (xs[·]?) = xs.toList := by
    have := pick_run xs 0 xs.size
    rw [show (List.range xs.size).map (0 + ·) = List.range xs.size by simp] at this
    rw [this, List.drop_zero, List.take_of_length_le (by simp)]
  rw [e, krv_range, List.filterMap_reverse, r]

noncomputable abbrev slObj (l u st : Value) : Obj := { cls := .type "slice", data := .fields #[l, u, st] }

theorem snd_slice {value : Expr} {le ue : Option Expr} {ps : Pos} {o l u : Value} {x y z : DV} (C : CxOk base cx n) (ho : VRel base w o x) (hl : VRel base w l y) (hu : VRel base w u z) :
    SndW base cx (VRel base) (fun Q E s => wpAny (model prog wo) cx.A (subscriptTail value (.Slice le ue none ps) o (.ref s.heap.objs.size)) Q E { s with heap := s.heap.push (slObj l u .none) })
      lo H (up ((natOf y).bind fun a => (natOf z).bind fun b => sliceD H x a b) H) w := by
  refine snd_up fun r hr₀ s Q E st k => ?_
  obtain ⟨a, hy, hr₁⟩ := Option.bind_eq_some_iff.mp hr₀
  obtain ⟨b, hz, hr⟩ := Option.bind_eq_some_iff.mp hr₁
  obtain ⟨rfl, ha1⟩ := natOf_some hy
  obtain ⟨rfl, hb1⟩ := natOf_some hz
  obtain ⟨t₁, rfl⟩ := int_val hl
  obtain ⟨t₂, rfl⟩ := int_val hu
  have kall : ∀ ob : Obj, ∀ c x, s.heap.get? c = some x → ((s.heap.push (slObj (.int a t₁) (.int b t₂) .none)).push ob).get? c = some x := fun ob c x e => push_all _ _ (push_all _ _ e)
  have nn : s.heap.get? (s.heap.objs.size + 1) = none := gets_none (Nat.le_succ _)
  have new : ∀ ob : Obj, ob.isFreed = false → ((s.heap.push (slObj (.int a t₁) (.int b t₂) .none)).push ob).get? (s.heap.objs.size + 1) = some ob := fun ob hf => Heap.get?_push_at (by rw [Heap.size_push]) hf
  have fin : ∀ (ob : Obj) (cls : String) (vs' : List Value) (d : PyData), ob = { cls := .type cls, data := .seq vs'.toArray } → (∀ p : Led, (s.heap.objs.size + 1, ob) ∈ p → DAll p vs' (match d with | .list ds => ds | .tuple ds => ds | _ => []) → DIn p (.ref (s.heap.objs.size + 1)) d) →
      DAll w.pool vs' (match d with | .list ds => ds | .tuple ds => ds | _ => []) → r = .d d → Q (.ref (s.heap.push (slObj (.int a t₁) (.int b t₂) .none)).objs.size) { s with heap := (s.heap.push (slObj (.int a t₁) (.int b t₂) .none)).push ob } := fun ob cls vs' d eo mk dd er => by
    rw [Heap.size_push]
    subst er
    refine k _ _ _ (step_pool st.hp st.rin (.of_all (kall ob)) C.FR nn (new ob (by rw [eo]; rfl)) (tk := s.toks)) (.d (mk _ (.head _) (dd.mono fun x hx => List.Mem.tail _ hx)))
  unfold sliceD at hr
  split at hr
  · split at hr
    · rename_i q
      cases hr
      replace ho := ho.d_inv
      obtain ⟨_, _, _, _, rfl, m, c, e, rr⟩ := ho.list_inv
      have hl : (s.heap.push (slObj (.int a t₁) (.int b t₂) .none)).IsList _ _ := ⟨_, push_all _ _ (st.hp.pool _ m), c, _, e.1⟩
      have hlen := rr.length
      refine tail_any (s := { s with heap := s.heap.push (slObj (.int a t₁) (.int b t₂) .none) }) hl.typeIs slot_list_getitem.lookup (wpAny_getItem_list_slice hl (Heap.IsSliceOf.new ..) (.int _ _) (.int _ _) .none (by simp) ?_ (by simp; rw [sizeLine_eq]; lia)) rfl
      rw [slicePick_run _ _ _ (by simp; lia) q.1]
      exact fin _ "list" _ (.list _) rfl (fun p hm hd => .list hm rfl ⟨rfl, rfl, rfl⟩ hd) (by simpa [cutL] using (rr.drop _).take _) rfl
    · cases hr
  · split at hr
    · rename_i q
      cases hr
      replace ho := ho.d_inv
      obtain ⟨_, _, _, _, rfl, m, c, e, rr⟩ := ho.tuple_inv
      have hl : IsTup (s.heap.push (slObj (.int a t₁) (.int b t₂) .none)) _ _ := ⟨_, push_all _ _ (st.hp.pool _ m), c, _, e⟩
      have hlen := rr.length
      have hsz : ∀ l : List Value, l.toArray.size = l.length := fun l => by simp
      refine tail_any (s := { s with heap := s.heap.push (slObj (.int a t₁) (.int b t₂) .none) }) hl.typeIs slot_tuple_getitem.lookup
        (getItem_tuple_cut hl (Heap.IsSliceOf.new ..) (.int _ _) (.int _ _) .none (by decide) (a : Int) (b - a) ?_ ?_ ?_ ?_ (by rw [sizeLine_eq]; lia)) rfl
      · show (Builtin.Slice.sliceAdjust (some (a : Int)) (some (b : Int)) 1 _).1 = _
        rw [adj_ab (by lia) (by simp; lia)]
      · show Builtin.Slice.slicePlaces (Builtin.Slice.sliceAdjust (some (a : Int)) (some (b : Int)) 1 _).1 (Builtin.Slice.sliceAdjust (some (a : Int)) (some (b : Int)) 1 _).2 1 = _
        rw [adj_ab (by lia) (by simp; lia), places_ab (by lia)]
      · simp only [Bool.and_eq_true, beq_iff_eq, hsz]
        lia
      · show Q _ _
        rw [show ((none : Option Int).getD 1) = 1 from rfl, pick_ab]
        exact fin _ "tuple" _ (.tuple _) rfl (fun p hm hd => .tuple hm rfl rfl hd) (by simpa [cutL] using (rr.drop _).take _) rfl
    · cases hr
  · obtain ⟨ds, hds, hr⟩ := Option.bind_eq_some_iff.mp hr
    have hds' := Option.join_eq_some_iff.mp hds
    split at hr
    · rename_i q
      cases hr
      have hoq := ho.ml_inv; clear ho; obtain ⟨_, rfl, ho⟩ := hoq
      obtain ⟨ad, ob, vs, nn', h1, h2, h3, h4, h5, h6, h7⟩ := st.hp.live _ _ hds'
      rw [ho] at h1; cases h1
      have hl : (s.heap.push (slObj (.int a t₁) (.int b t₂) .none)).IsList _ _ := ⟨_, push_all _ _ h2, h3, _, h4⟩
      have hlen := h5.length
      refine tail_any (s := { s with heap := s.heap.push (slObj (.int a t₁) (.int b t₂) .none) }) hl.typeIs slot_list_getitem.lookup (wpAny_getItem_list_slice hl (Heap.IsSliceOf.new ..) (.int _ _) (.int _ _) .none (by simp) ?_ (by simp; rw [sizeLine_eq]; lia)) rfl
      rw [slicePick_run _ _ _ (by simp; lia) q.1]
      exact fin _ "list" _ (.list _) rfl (fun p hm hd => .list hm rfl ⟨rfl, rfl, rfl⟩ hd) (by simpa [cutL] using (h5.drop _).take _) rfl
    · cases hr
  · cases hr

theorem snd_upto {value : Expr} {ue : Expr} {ps : Pos} {o u : Value} {x z : DV} (C : CxOk base cx n) (ho : VRel base w o x) (hu : VRel base w u z) :
    SndW base cx (VRel base) (fun Q E s => wpAny (model prog wo) cx.A (subscriptTail value (.Slice none (some ue) none ps) o (.ref s.heap.objs.size)) Q E { s with heap := s.heap.push (slObj .none u .none) })
      lo H (up ((natOf z).bind fun b => uptoD x b) H) w := by
  refine snd_up fun r hr₀ s Q E st k => ?_
  obtain ⟨b, hz, hr⟩ := Option.bind_eq_some_iff.mp hr₀
  obtain ⟨rfl, hb1⟩ := natOf_some hz
  obtain ⟨t₂, rfl⟩ := int_val hu
  have kall : ∀ ob : Obj, ∀ c x, s.heap.get? c = some x → ((s.heap.push (slObj .none (.int b t₂) .none)).push ob).get? c = some x := fun ob c x e => push_all _ _ (push_all _ _ e)
  have nn : s.heap.get? (s.heap.objs.size + 1) = none := gets_none (Nat.le_succ _)
  have new : ∀ ob : Obj, ob.isFreed = false → ((s.heap.push (slObj .none (.int b t₂) .none)).push ob).get? (s.heap.objs.size + 1) = some ob := fun ob hf => Heap.get?_push_at (by rw [Heap.size_push]) hf
  unfold uptoD at hr
  split at hr
  · split at hr
    · rename_i q
      cases hr
      replace ho := ho.d_inv
      obtain ⟨_, _, _, _, rfl, m, c, e, rr⟩ := ho.tuple_inv
      have hl : IsTup (s.heap.push (slObj .none (.int b t₂) .none)) _ _ := ⟨_, push_all _ _ (st.hp.pool _ m), c, _, e⟩
      have hlen := rr.length
      have hsz : ∀ l : List Value, l.toArray.size = l.length := fun l => by simp
      refine tail_any (s := { s with heap := s.heap.push (slObj .none (.int b t₂) .none) }) hl.typeIs slot_tuple_getitem.lookup
        (getItem_tuple_cut hl (Heap.IsSliceOf.new ..) .none (.int _ _) .none (by decide) (0 : Int) b ?_ ?_ ?_ ?_ (by rw [sizeLine_eq]; lia)) rfl
      · show (Builtin.Slice.sliceAdjust none (some (b : Int)) 1 _).1 = _
        rw [adj_b (by simp; lia)]
      · show Builtin.Slice.slicePlaces (Builtin.Slice.sliceAdjust none (some (b : Int)) 1 _).1 (Builtin.Slice.sliceAdjust none (some (b : Int)) 1 _).2 1 = _
        rw [adj_b (by simp; lia)]
        exact places_ab (a := 0) (Nat.zero_le _)
      · simp only [Bool.and_eq_true, beq_iff_eq, hsz]
        lia
      · show Q _ _
        rw [show ((none : Option Int).getD 1) = 1 from rfl]
        have e0 := pick_ab ‹List Value›.toArray 0 b
        rw [show ((0 : Nat) : Int) = 0 from rfl] at e0
        rw [e0, Heap.size_push]
        refine k _ _ _ (step_pool st.hp st.rin (.of_all (kall _)) C.FR nn (new _ rfl) (tk := s.toks)) (.d (.tuple (.head _) rfl rfl ?_))
        simpa using (rr.take b).mono fun x hx => List.Mem.tail _ hx
    · cases hr
  · split at hr
    · rename_i q
      cases hr
      replace ho := ho.d_inv
      cases ho
      obtain ⟨m₀, nw, F, N, fs, kp⟩ := st.frn C
      refine slice_strN_ns F N (fun h' t' tk F' N' => k _ w _ (step_of_kept st.hp (kp h' F' N') C.FR) (.d (.str _ _))) rfl (fun r => by cases value <;> rfl)
    · cases hr
  · cases hr

theorem snd_rev {value : Expr} {ke : Expr} {ps : Pos} {o u : Value} {ds : List PyData} {t₂ : Tok} (C : CxOk base cx n) (ho : VRel base w o (.d (.tuple ds))) (hz : ds.length ≤ 4096) (hu : u = .int (-1) t₂) :
    SndW base cx (VRel base) (fun Q E s => wpAny (model prog wo) cx.A (subscriptTail value (.Slice none none (some ke) ps) o (.ref s.heap.objs.size)) Q E { s with heap := s.heap.push (slObj .none .none u) })
      lo H (some (.ok (.d (.tuple ds.reverse)) H)) w := by
  intro s Q E st ok er ne
  subst hu
  have k := ok _ _ rfl
  have kall : ∀ ob : Obj, ∀ c x, s.heap.get? c = some x → ((s.heap.push (slObj .none .none (.int (-1) t₂))).push ob).get? c = some x := fun ob c x e => push_all _ _ (push_all _ _ e)
  have nn : s.heap.get? (s.heap.objs.size + 1) = none := gets_none (Nat.le_succ _)
  have new : ∀ ob : Obj, ob.isFreed = false → ((s.heap.push (slObj .none .none (.int (-1) t₂))).push ob).get? (s.heap.objs.size + 1) = some ob := fun ob hf => Heap.get?_push_at (by rw [Heap.size_push]) hf
  replace ho := ho.d_inv
  obtain ⟨_, _, _, _, rfl, m, c, e, rr⟩ := ho.tuple_inv
  rename_i vs nn'
  have hl : IsTup (s.heap.push (slObj .none .none (.int (-1) t₂))) _ _ := ⟨_, push_all _ _ (st.hp.pool _ m), c, _, e⟩
  have hlen := rr.length
  refine tail_any (s := { s with heap := s.heap.push (slObj .none .none (.int (-1) t₂)) }) hl.typeIs slot_tuple_getitem.lookup
    (getItem_tuple_cut hl (Heap.IsSliceOf.new ..) .none .none (.int _ _) (by decide) ((vs.toArray.size : Int) - 1) vs.toArray.size ?_ ?_ ?_ ?_ (by simp; rw [sizeLine_eq]; lia)) rfl
  · show (Builtin.Slice.sliceAdjust none none (-1) _).1 = _
    rw [adj_rev]
  · show Builtin.Slice.slicePlaces (Builtin.Slice.sliceAdjust none none (-1) _).1 (Builtin.Slice.sliceAdjust none none (-1) _).2 (-1) = _
    rw [adj_rev]; exact places_rev
  · simp
  · show Q _ _
    rw [show ((some (-1) : Option Int).getD 1) = -1 from rfl, pick_rev, Heap.size_push]
    refine k _ _ _ (step_pool st.hp st.rin (.of_all (kall _)) C.FR nn (new _ rfl) (tk := s.toks)) (.d (.tuple (.head _) rfl rfl ?_))
    simpa using rr.reverse.mono fun x hx => List.Mem.tail _ hx
end
end Mine
end

section
set_option autoImplicit false
set_option maxRecDepth 100000
namespace Mine

section
variable {prog : Program} {wo : World} {K : Frag} {base : Heap} {p : Program} {loose : List Str} {mean : ExcName → Option Value} {mg mb : Str → Option Value} {cx : Cx} {n : Nat} {lo : Lo} {H : Hp} {w : Wd}

/-- what the head says of the heap in which the law starts -/
structure Gd (K : Frag) (base : Heap) (p : Program) (loose : List Str) (mean : ExcName → Option Value) (mg mb : Str → Option Value) : Prop where
  X : K.In base
  T : Top p loose mean mg mb base

theorem StE.X {s : Shared} (G : Gd K base p loose mean mg mb) (st : StE base cx lo H w s) : K.In s.heap := G.X.keeps st.stays

theorem wp_glob {s : Shared} {y : Str} {pos : Pos} {v : Value} {Q : Value → Shared → Prop} {E : Value → Shared → Prop} (C : CxOk base cx n) (G : Gd K base p loose mean mg mb) (st : StE base cx lo H w s)
    (hk : cx.env.kindOf y = some .globalImplicit) (e : nsIn K mainGlobals y = some (some v)) (hd : (y == ("__debug__" : Str)) = false) (h : Q v s) : wpAny (model prog wo) cx.A (eval (.Name y pos) cx.env) Q E s :=
  Calls.Name_function_global C.kind hk (Calls.loadGlobal_global (by rw [C.glob]; exact G.T.g.keeps st.stays) (mg_of G.X G.T.g e) h) hd
theorem wp_boot {s : Shared} {y : Str} {pos : Pos} {v : Value} {Q : Value → Shared → Prop} {E : Value → Shared → Prop} (C : CxOk base cx n) (G : Gd K base p loose mean mg mb) (st : StE base cx lo H w s)
    (hk : cx.env.kindOf y = some .globalImplicit) (e : nsIn K mainGlobals y = some none) (hn : y ≠ "__name__") (hv : bootBuiltins y = some v) (hd : (y == ("__debug__" : Str)) = false) (h : Q v s) :
    wpAny (model prog wo) cx.A (eval (.Name y pos) cx.env) Q E s :=
  Calls.Name_function_global C.kind hk (Calls.loadGlobal_builtin (by rw [C.glob]; exact G.T.g.keeps st.stays) (mg_none_of G.X G.T.g e) (by rw [C.blt]; exact G.T.b.keeps st.stays) ((G.T.builtins y hn).trans hv) h) hd

/-- a name's value -/
theorem wp_var {s : Shared} {x : Nat} {y : Str} {d : DV} {Q : Value → Shared → Prop} {E : Value → Shared → Prop} (C : CxOk base cx n) (st : StE base cx lo H w s)
    (hx : cx.names[x]? = some y) (hl : lo[x]? = some (some d)) (hcd : (y == ("__classdict__" : Str)) = false) (h : ∀ v, VRel base w v d → Q v s) :
    wpAny (model prog wo) cx.A (loadName cx.env y) Q E s := by
  obtain ⟨y', v, hy, hk, hv⟩ := st.lo x d hl
  rw [hx] at hy; cases hy
  rcases hk with ⟨hk, m, hn, hm⟩ | ⟨hk | hk, c, hc, hcell⟩
  · exact wpAny_loadName_local C.kind hk hn hm (h v hv)
  · exact wpAny_loadName_cell C.kind hk hc hcell (h v hv)
  · exact wpAny_loadName_free C.kind hk hc hcell (h v hv) hcd
theorem snd_var {x : Nat} {y : Str} {pos : Pos} (C : CxOk base cx n) (hx : cx.names[x]? = some y) (hd : (y == ("__debug__" : Str)) = false) (hcd : (y == ("__classdict__" : Str)) = false) :
    SndW base cx (VRel base) (fun Q E s => wpAny (model prog wo) cx.A (eval (.Name y pos) cx.env) Q E s) lo H (up (lo[x]?.join) H) w := by
  refine snd_up fun d hl s Q E st k => wpAny_Name (wp_var C st hx (Option.join_eq_some_iff.mp hl) hcd fun v hv => k v w _ (Step.here (tk := s.toks) st.hp) hv) hd

theorem snd_pure {d : PyData} {T : PT Value} (h : ∀ s Q E, (∀ v tk, DIn w.pool v d → Q v { s with toks := tk }) → T Q E s) : SndW base cx (VRel base) T lo H (some (.ok (.d d) H)) w :=
  fun s Q E st ok _ _ => h s Q E fun v _ hv => ok _ _ rfl v w _ (Step.here st.hp) (.d hv)
theorem snd_int {i : Int} {k : Nat} {pos : Pos} : SndW base cx (VRel base) (fun Q E s => wpAny (model prog wo) cx.A (eval (.Constant (.int i) k pos) cx.env) Q E s) lo H (some (.ok (.d (.int i)) H)) w :=
  snd_pure fun _ _ _ h => wpAny_Constant_int (h _ _ (.int _ _))
theorem snd_none {k : Nat} {pos : Pos} : SndW base cx (VRel base) (fun Q E s => wpAny (model prog wo) cx.A (eval (.Constant .none k pos) cx.env) Q E s) lo H (some (.ok (.d .none) H)) w :=
  snd_pure fun s _ _ h => wpAny_Constant_none (h _ s.toks .none)
theorem snd_bool {b : Bool} {k : Nat} {pos : Pos} : SndW base cx (VRel base) (fun Q E s => wpAny (model prog wo) cx.A (eval (.Constant (.bool b) k pos) cx.env) Q E s) lo H (some (.ok (.d (.bool b)) H)) w :=
  snd_pure fun s _ _ h => wpAny_Constant_bool (h _ s.toks (.bool b))
theorem snd_str {x : Str} {k : Nat} {pos : Pos} : SndW base cx (VRel base) (fun Q E s => wpAny (model prog wo) cx.A (eval (.Constant (.str x) k pos) cx.env) Q E s) lo H (some (.ok (.d (.str x)) H)) w :=
  snd_pure fun _ _ _ h => wpAny_Constant_str (h _ _ (.str _ _))
theorem snd_neg {i : Int} {k : Nat} {pos pos' : Pos} : SndW base cx (VRel base) (fun Q E s => wpAny (model prog wo) cx.A (eval (.UnaryOp .USub (.Constant (.int i) k pos) pos') cx.env) Q E s) lo H (some (.ok (.d (.int (-i))) H)) w :=
  snd_pure fun _ _ _ h => wpAny_UnaryOp (wpAny_Constant_int (neg_int (h _ _ (.int _ _))))
theorem snd_gint {y : Str} {i : Int} {t : Tok} {pos : Pos} (C : CxOk base cx n) (G : Gd K base p loose mean mg mb) (hk : cx.env.kindOf y = some .globalImplicit) (e : nsIn K mainGlobals y = some (some (.int i t))) (hd : (y == ("__debug__" : Str)) = false) :
    SndW base cx (VRel base) (fun Q E s => wpAny (model prog wo) cx.A (eval (.Name y pos) cx.env) Q E s) lo H (some (.ok (.d (.int i)) H)) w :=
  fun s _ _ st ok _ _ => wp_glob C G st hk e hd (ok _ _ rfl _ w _ (Step.here (tk := s.toks) st.hp) (.d (.int _ _)))

/-- an argument list -/
inductive VAll (base : Heap) (w : Wd) : List Value → List DV → Prop where
  | nil : VAll base w [] []
  | cons {v : Value} {vs : List Value} {d : DV} {ds : List DV} : VRel base w v d → VAll base w vs ds → VAll base w (v :: vs) (d :: ds)
theorem VAll.ext {w' : Wd} (g : Ext w w') : ∀ {vs ds}, VAll base w vs ds → VAll base w' vs ds
  | _, _, .nil => .nil
  | _, _, .cons h r => .cons (h.ext g) (r.ext g)
theorem VAll.length : ∀ {vs ds}, VAll base w vs ds → vs.length = ds.length
  | _, _, .nil => rfl
  | _, _, .cons _ r => congrArg (· + 1) r.length
theorem datsOf_some : ∀ {vs : List Value} {ds : List DV} {xs : List PyData}, VAll base w vs ds → datsOf ds = some xs → DAll w.pool vs xs
  | _, _, _, .nil, h => by cases h; exact .nil
  | _, _, _, .cons (d := d) hv r, h => by
    cases d with
    | d x =>
      obtain ⟨ys, hy, rfl⟩ := Option.map_eq_some_iff.mp h
      replace hv := hv.d_inv
      exact .cons hv (datsOf_some r hy)
    | _ => cases h

noncomputable def notStar : Expr → Bool
  | .Starred _ _ => false
  | _ => true
theorem star_cons {e : Expr} {r : List Expr} {env : Env} (h : notStar e = true) : starEach (e :: r) env = (false, eval e env) :: starEach r env := by
  cases e <;> first | rfl | cases h
theorem star_any {env : Env} {pos : Pos} : ∀ {es : List Expr}, es.all notStar = true → (backTo pos (starEach es env)).any (·.1) = false
  | [], _ => rfl
  | e :: r, h => by
    rw [List.all_cons, Bool.and_eq_true] at h
    rw [star_cons h.1]
    show (false || (backTo pos (starEach r env)).any (·.1)) = false
    rw [star_any h.2]; rfl

theorem snd_nil {pos : Pos} : SndW base cx (VAll base) (fun Q E s => wpAny (model prog wo) cx.A (spliced (backTo pos (starEach [] cx.env))) Q E s) lo H (some (.ok [] H)) w :=
  fun s _ _ st ok _ _ => spliced_none (ok _ _ rfl [] w _ (Step.here (tk := s.toks) st.hp) .nil)
theorem snd_cons {pos : Pos} {e : Expr} {es : List Expr} {r : Option (Rx DV)} {k : Hp → Option (Rx (List DV))} (C : CxOk base cx n) (hs : notStar e = true)
    (h₁ : SndW base cx (VRel base) (fun Q E s => wpAny (model prog wo) cx.A (eval e cx.env) Q E s) lo H r w)
    (h₂ : ∀ H₁ w', SndW base cx (VAll base) (fun Q E s => wpAny (model prog wo) cx.A (spliced (backTo pos (starEach es cx.env))) Q E s) lo H₁ (k H₁) w') :
    SndW base cx (VAll base) (fun Q E s => wpAny (model prog wo) cx.A (spliced (backTo pos (starEach (e :: es) cx.env))) Q E s) lo H (bnd r fun v H₁ => bnd (k H₁) fun vs H₂ => some (.ok (v :: vs) H₂)) w := by
  refine SndW.of (SndW.bnd (V₂ := VAll base) (f := fun v Q E s => wpAny (model prog wo) cx.A (spliced (backTo pos (starEach es cx.env))) (fun vs s₁ => Q (v :: vs) s₁) E s) C h₁ fun a H₁ v w' _ _ hv => ?_) fun Q E s _ h => spliced_more h (star_cons hs)
  intro s Q E st ok er ne
  refine h₂ H₁ w' s _ E st (fun ds H₂ e vs w₂ s₂ k₂ hvs => ok (a :: ds) H₂ (by rw [e]; rfl) _ w₂ s₂ k₂ (.cons (hv.ext k₂.grow.ext) hvs)) (fun t H₂ e x w₂ s₂ fl => er t H₂ (by rw [e]; rfl) x w₂ s₂ fl) fun e => ne (by rw [e]; rfl)

theorem snd_tup {pos : Pos} {k : Nat} {es : List Expr} {r : Option (Rx (List DV))} (C : CxOk base cx n)
    (h : SndW base cx (VAll base) (fun Q E s => wpAny (model prog wo) cx.A (spliced (backTo pos (starEach es cx.env))) Q E s) lo H r w) (hz : es.length ≤ 4096) (hl : ∀ vs H', r = some (.ok vs H') → vs.length = es.length) :
    SndW base cx (VRel base) (fun Q E s => wpAny (model prog wo) cx.A (eval (.Tuple es k pos) cx.env) Q E s) lo H (bnd r fun vs H₁ => up ((datsOf vs).map fun ds => .d (.tuple ds)) H₁) w := by
  refine SndW.of (SndW.bnd (f := fun vs Q _ s => vs.length ≤ sizeLine ∧ Q (.ref s.heap.objs.size) { s with heap := s.heap.push { cls := .type "tuple", data := .seq vs.toArray } }) C h fun vs H₁ us w' e g hv => ?_) fun Q E s _ h => wpAny_Tuple_spliced h
  refine snd_up fun d hd s Q E st k => ?_
  obtain ⟨xs, hx, rfl⟩ := Option.map_eq_some_iff.mp hd
  refine ⟨by rw [hv.length, hl _ _ e, sizeLine_eq]; lia, k _ _ _ (step_pool st.hp st.rin (.of_all push_all) C.FR (gets_none (Nat.le_refl _)) (Heap.get?_push_size _ rfl) (tk := s.toks)) (.d (.tuple (.head _) rfl rfl ?_))⟩
  exact (datsOf_some hv hx).mono fun x hx => .tail _ hx
theorem snd_list {pos : Pos} {es : List Expr} {r : Option (Rx (List DV))} (C : CxOk base cx n)
    (h : SndW base cx (VAll base) (fun Q E s => wpAny (model prog wo) cx.A (spliced (backTo pos (starEach es cx.env))) Q E s) lo H r w) (hz : es.length ≤ 4096) (hl : ∀ vs H', r = some (.ok vs H') → vs.length = es.length) :
    SndW base cx (VRel base) (fun Q E s => wpAny (model prog wo) cx.A (eval (.List es pos) cx.env) Q E s) lo H (bnd r fun vs H₁ => up ((datsOf vs).map fun ds => .d (.list ds)) H₁) w := by
  refine SndW.of (SndW.bnd (f := fun vs Q _ s => vs.length ≤ sizeLine ∧ Q (.ref s.heap.objs.size) { s with heap := s.heap.push { cls := .type "list", data := .seq vs.toArray } }) C h fun vs H₁ us w' e g hv => ?_) fun Q E s _ h => wpAny_List_spliced h
  refine snd_up fun d hd s Q E st k => ?_
  obtain ⟨xs, hx, rfl⟩ := Option.map_eq_some_iff.mp hd
  refine ⟨by rw [hv.length, hl _ _ e, sizeLine_eq]; lia, k _ _ _ (step_pool st.hp st.rin (.of_all push_all) C.FR (gets_none (Nat.le_refl _)) (Heap.get?_push_size _ rfl) (tk := s.toks)) (.d (.list (.head _) rfl ⟨rfl, rfl, rfl⟩ ?_))⟩
  exact (datsOf_some hv hx).mono fun x hx => .tail _ hx
theorem snd_mlist {pos : Pos} (C : CxOk base cx n) :
    SndW base cx (VRel base) (fun Q E s => wpAny (model prog wo) cx.A (eval (.List [] pos) cx.env) Q E s) lo H (some (.ok (.ml H.length) (H ++ [some []]))) w := by
  intro s Q E st ok er ne
  refine wpAny_List_spliced (spliced_none ⟨Nat.zero_le _, ok _ _ rfl _ _ _ (step_list (n := 0) (vs := []) st.hp st.rin st.stays (.of_all push_all) C.FR (gets_none (Nat.le_refl _)) (Heap.get?_push_size _ rfl) rfl .nil (tk := s.toks)) (.ml ?_)⟩)
  rw [← st.hp.len]; simp

theorem snd_len {v : Value} {x : DV} (hv : VRel base w v x) :
    SndW base cx (VRel base) (fun Q E s => wpAny (model prog wo) cx.A (call (.builtin "len") [v]) Q E s) lo H (up ((lenD H x).map fun (n : Nat) => .d (.int (n : Int))) H) w := by
  refine snd_up fun d hd s Q E st k => ?_
  obtain ⟨m, hm, rfl⟩ := Option.map_eq_some_iff.mp hd
  unfold lenD at hm
  obtain ⟨m', hm', hq⟩ := Option.bind_eq_some_iff.mp hm
  split at hq
  · rename_i q
    cases hq
    have fin : ∀ (j : Nat) (t : Tok) (tk : Nat), j = m → Q (.int j t) { s with toks := tk } := fun j t tk e => e ▸ k _ w _ (Step.here st.hp) (.d (.int _ _))
    unfold lenR at hm'
    split at hm'
    · cases hm'
      replace hv := hv.d_inv
      obtain ⟨_, _, _, _, rfl, m, c, e, rr⟩ := hv.list_inv
      exact len_list ⟨_, st.hp.pool _ m, c, _, e.1⟩ (by have := rr.length; simp; lia) (by have := rr.length; exact fin _ _ _ (by simp; lia))
    · cases hm'
      replace hv := hv.d_inv
      obtain ⟨_, _, _, _, rfl, m, c, e, rr⟩ := hv.tuple_inv
      exact len_tuple ⟨_, st.hp.pool _ m, c, _, e⟩ (by have := rr.length; simp; lia) (by have := rr.length; exact fin _ _ _ (by simp; lia))
    · cases hm'
      replace hv := hv.d_inv
      cases hv
      exact len_str (by lia) (fin _ _ _ rfl)
    · obtain ⟨ds, hds, rfl⟩ := Option.map_eq_some_iff.mp hm'
      obtain ⟨_, rfl, ho⟩ := hv.ml_inv
      obtain ⟨ad, ob, vs, nn', h1, h2, h3, h4, h5, h6, h7⟩ := st.hp.live _ _ (Option.join_eq_some_iff.mp hds)
      rw [ho] at h1; cases h1
      exact len_list ⟨_, h2, h3, _, h4⟩ (by have := h5.length; simp; lia) (by have := h5.length; exact fin _ _ _ (by simp; lia))
    · cases hm'
      obtain ⟨_, _, rfl, ha, hn⟩ := hv.scr_inv
      obtain ⟨ob, h2, h3⟩ := ha
      exact len_list ⟨ob, st.stays _ _ h2, h3⟩ (by have := hn.length; simp; lia) (by have := hn.length; exact fin _ _ _ (by simp; lia))
    · cases hm'
  · cases hq

theorem snd_min2 {a b : Value} {x y : DV} (C : CxOk base cx n) (ha : VRel base w a x) (hb : VRel base w b y) :
    SndW base cx (VRel base) (fun Q E s => wpAny (model prog wo) cx.A (call (.builtin "min") [a, b]) Q E s) lo H (up ((intOf x).bind fun x => (intOf y).map fun y => .d (.int (if y < x then y else x))) H) w := by
  refine snd_up fun d hd s Q E st k => ?_
  obtain ⟨i, hi, hd⟩ := Option.bind_eq_some_iff.mp hd
  obtain ⟨j, hj, rfl⟩ := Option.map_eq_some_iff.mp hd
  obtain rfl := intOf_some hi
  obtain rfl := intOf_some hj
  obtain ⟨t, rfl⟩ := int_val ha
  obtain ⟨u, rfl⟩ := int_val hb
  refine min_two_ints C.hh fun h' tk hk => ?_
  by_cases q : j < i
  · rw [if_pos q] at k ⊢
    exact k _ w _ (step_of_kept st.hp (.of_all hk) C.FR) (.d (.int _ _))
  · rw [if_neg q] at k ⊢
    exact k _ w _ (step_of_kept st.hp (.of_all hk) C.FR) (.d (.int _ _))
end
end Mine
end

section
set_option autoImplicit false
set_option maxRecDepth 100000
namespace Mine

section
variable {prog : Program} {wo : World} {K : Frag} {base : Heap} {p : Program} {loose : List Str} {mean : ExcName → Option Value} {mg mb : Str → Option Value} {cx : Cx} {n : Nat} {lo : Lo} {H : Hp} {w : Wd}

theorem dall_items {pool : Led} {a : Int} : ∀ (m : Nat) (l : List Value), l.length = m → (∀ (j : Nat) v, l[j]? = some v → ∃ t, v = Value.int (a + (j : Int)) t) → DAll pool l ((List.range m).map fun (k : Nat) => PyData.int (a + (k : Int))) := by
  intro m
  induction m with
  | zero => intro l hl _; cases l with | nil => exact .nil | cons => cases hl
  | succ m ih =>
    intro l hl h
    have hne : l ≠ [] := fun e => by rw [e] at hl; cases hl
    rw [List.range_succ, List.map_append]
    have e : l = l.dropLast ++ [l.getLast hne] := (List.dropLast_concat_getLast hne).symm
    rw [e]
    refine DAll.append (ih _ (by rw [List.length_dropLast]; lia) fun j v hv => h j v ?_) (.cons ?_ .nil)
    · rw [e, List.getElem?_append_left (List.getElem?_eq_some_iff.mp hv).1]; exact hv
    · obtain ⟨t, ht⟩ := h m (l.getLast hne) (by rw [List.getLast_eq_getElem, show m = l.length - 1 by lia]; exact List.getElem?_eq_getElem _)
      rw [ht]; exact .int _ _

theorem rngI_eq (a b : Int) : (rngI a b).map PyData.int = (List.range (b - a).toNat).map fun (k : Nat) => PyData.int (a + (k : Int)) := by
  unfold rngI; rw [List.map_map]; rfl
theorem size_one (a b : Int) : Builtin.Range.rangeSize a b 1 = (((b - a).toNat : Nat) : Int) := by
  unfold Builtin.Range.rangeSize
  rw [if_pos (by decide)]
  split
  · rw [Int.ediv_one]; lia
  · lia
theorem small_some {i : Int} (h : small i = true) : -(4096 : Int) ≤ i ∧ i ≤ 4096 := by
  unfold small at h
  have := of_decide_eq_true h
  lia

/-- a range as a value: the next step's own -/
theorem snd_lrange {a b : Value} {x y : DV} (C : CxOk base cx n) (ha : VRel base w a x) (hb : VRel base w b y) :
    SndW base cx (VRel base) (fun Q E s => wpAny (model prog wo) cx.A (call (.type "range") [a, b]) (fun r s₁ => wpAny (model prog wo) cx.A (call (.type "list") [r]) Q E s₁) E s) lo H
      (up ((intOf x).bind fun x => (intOf y).bind fun y => if small x && small y then some (.d (.list ((rngI x y).map .int))) else .none) H) w := by
  refine snd_up fun d hd₀ s Q E st k => ?_
  obtain ⟨i, hi, hd₁⟩ := Option.bind_eq_some_iff.mp hd₀
  obtain ⟨j, hj, hd⟩ := Option.bind_eq_some_iff.mp hd₁
  obtain rfl := intOf_some hi
  obtain rfl := intOf_some hj
  obtain ⟨t, rfl⟩ := int_val ha
  obtain ⟨u, rfl⟩ := int_val hb
  split at hd
  · rename_i q
    cases hd
    rw [Bool.and_eq_true] at q
    have q1 := small_some q.1
    have q2 := small_some q.2
    obtain ⟨m₀, nw, F, N, fs, kp⟩ := st.frn C
    refine range2_rows F N fun h' tk t₁ u₁ v₁ hr _ _ hk => ?_
    refine call_list_range (s := { s with heap := h', toks := tk }) C.hh hr (small_one (by lia) (by lia) (by lia) (by lia)) (size_one _ _) (by lia) fun h'' tk' acc' c' hk' hD hI => ?_
    have hn : s.heap.get? h'.objs.size = none := (Kept.of_all hk (ρ := []) (F := [])).none (gets_none (Nat.le_refl _))
    refine k _ _ _ (step_pool st.hp st.rin (.of_all fun b o e => hk' b o (hk b o e)) C.FR hn hD (tk := tk')) (.d (.list (vs := acc'.toList) (.head _) rfl ⟨rfl, rfl, rfl⟩ ?_))
    rw [rngI_eq]
    refine dall_items _ _ hI.1 fun j' v hv => ?_
    obtain ⟨t', e⟩ := hI.2 j' v (by simpa using hv)
    exact ⟨t', by rw [e, Int.mul_one]⟩
  · cases hd

theorem snd_tupOf {v : Value} {ds : List PyData} (C : CxOk base cx n) (hv : VRel base w v (.d (.list ds))) (hz : ds.length ≤ 4096) :
    SndW base cx (VRel base) (fun Q E s => wpAny (model prog wo) cx.A (call (.type "tuple") [v]) Q E s) lo H (some (.ok (.d (.tuple ds)) H)) w := by
  intro s Q E st ok er ne
  replace hv := hv.d_inv
  obtain ⟨_, _, _, _, rfl, m, c, e, rr⟩ := hv.list_inv
  refine call_tuple_list ⟨_, st.hp.pool _ m, c, _, e.1⟩ (fun h' hk => ?_) (by have := rr.length; simp; rw [sizeLine_eq]; lia)
  have hn : s.heap.get? h'.objs.size = none := (Kept.of_all hk (ρ := []) (F := [])).none (gets_none (Nat.le_refl _))
  exact ok _ _ rfl _ _ _ (step_pool st.hp st.rin (.of_all fun b o e => push_all _ _ (hk b o e)) C.FR hn (Heap.get?_push_size _ rfl) (tk := s.toks)) (.d (.tuple (.head _) rfl rfl (rr.mono fun x hx => .tail _ hx)))

theorem snd_join {v u : Value} {x : Str} {ds : List PyData} (hv : VRel base w v (.d (.str x))) (hu : VRel base w u (.d (.list ds))) :
    SndW base cx (VRel base) (fun Q E s => wpAny (model prog wo) cx.A (call (.builtin "str.join") [v, u]) Q E s) lo H
      (if x.length ≤ 16 ∧ ds.length ≤ 4096 then (strsOf ds).bind fun l => if l.all (fun s => decide (s.length ≤ 16)) then some (.ok (.d (.str (Txt.join x l))) H) else .none else .none) w := by
  intro s Q E st ok er ne
  split at ne
  · rename_i q
    cases hl : strsOf ds with
    | none => rw [hl] at ne; exact absurd rfl ne
    | some l =>
      rw [hl, Option.bind_some] at ne
      split at ne
      · rename_i q2
        have k := ok (.d (.str (Txt.join x l))) H (by rw [if_pos q, hl, Option.bind_some, if_pos q2])
        replace hv := hv.d_inv
        cases hv
        replace hu := hu.d_inv
        obtain ⟨_, _, _, _, rfl, m, c, e, rr⟩ := hu.list_inv
        have key : ∀ {vs ds l}, DAll w.pool vs ds → strsOf ds = some l → StrsAre vs l ∧ l.length = ds.length := by
          intro vs ds
          induction ds generalizing vs with
          | nil => intro l h e; cases h; cases e; exact ⟨.nil, rfl⟩
          | cons d ds ih =>
            intro l h e
            cases h with
            | cons hd hr =>
              cases d with
              | str z =>
                obtain ⟨l', hl', rfl⟩ := Option.map_eq_some_iff.mp e
                cases hd
                obtain ⟨h1, h2⟩ := ih hr hl'
                exact ⟨.cons _ _ h1, by rw [List.length_cons, List.length_cons, h2]⟩
              | _ => cases e
        obtain ⟨hs, hlen⟩ := key rr hl
        have hsum : ∀ l : List Str, l.all (fun s => decide (s.length ≤ 16)) = true → (l.map (·.length)).sum ≤ 16 * l.length := by
          intro l
          induction l with
          | nil => intro _; simp
          | cons z l ih =>
            intro h
            rw [List.all_cons, Bool.and_eq_true] at h
            have := ih h.2
            have := of_decide_eq_true h.1
            simp only [List.map_cons, List.sum_cons, List.length_cons]
            lia
        have hw := hsum l q2
        exact join_listW ⟨_, st.hp.pool _ m, c, _, e.1⟩ (by simpa using hs) q.1 (by lia) fun t' tk => k _ w _ (Step.here st.hp) (.d (.str _ _))
      · exact absurd rfl ne
  · exact absurd rfl ne

open Classical in
theorem snd_index {v u : Value} {ds : List PyData} {a : PyData} (C : CxOk base cx n) (hv : VRel base w v (.d (.list ds))) (hu : VRel base w u (.d a)) (hz : ds.length ≤ 4096) :
    SndW base cx (VRel base) (fun Q E s => wpAny (model prog wo) cx.A (call (.builtin "list.index") [v, u]) Q E s) lo H
      (if okD a && ds.all okD then up ((idxOf ds a).map fun (n : Nat) => .d (.int (n : Int))) H else .none) w := by
  intro s Q E st ok er ne
  split at ne
  · rename_i q
    cases hj : idxOf ds a with
    | none => rw [hj] at ne; exact absurd rfl ne
    | some j =>
      have k := ok (.d (.int (j : Int))) H (by rw [if_pos q, hj]; rfl)
      rw [Bool.and_eq_true] at q
      replace hv := hv.d_inv
      replace hu := hu.d_inv
      obtain ⟨_, _, _, _, rfl, m, c, e, rr⟩ := hv.list_inv
      rename_i l ob vs nn
      obtain ⟨cls, dd, data, sl⟩ := ob
      obtain ⟨e1, e2, e3⟩ := e
      simp only at c e1 e2 e3
      subst c e1 e2 e3
      have hh := st.hp.pool _ m
      have hlen := rr.length
      obtain ⟨hj1, hj2, hj3⟩ := List.findIdx?_eq_some_iff_getElem.mp hj
      obtain ⟨as, ra⟩ := hu.reads st.hp.pool
      let ev : Value → Bool := fun y => decide (∃ d, DIn w.pool y d ∧ eqD d a = true)
      have hev : ∀ y d, DIn w.pool y d → ev y = eqD d a := fun y d hd => by
        by_cases h : eqD d a = true
        · rw [h]; exact decide_eq_true ⟨d, hd, h⟩
        · rw [Bool.eq_false_iff.mpr h]
          refine decide_eq_false ?_
          rintro ⟨d', hd', h'⟩
          obtain ⟨_, r1⟩ := hd.reads st.hp.pool
          obtain ⟨_, r2⟩ := hd'.reads st.hp.pool
          rw [(r1.unique _ _ r2).1] at h
          exact h h'
      have at_ : ∀ (i : Nat) (hi : i < vs.toArray.size), ∃ hd : i < ds.length, DIn w.pool vs.toArray[i] ds[i] := fun i hi => by
        have hd : i < ds.length := by simp at hi; lia
        obtain ⟨v, hv, hvd⟩ := rr.get (List.getElem?_eq_getElem hd)
        have hi' : i < vs.length := by simpa using hi
        rw [List.getElem?_eq_getElem hi'] at hv
        cases hv
        exact ⟨hd, by simpa using hvd⟩
      refine call_meets PySem.F.slot_list_index ⟨_, hh, rfl⟩ PySem.F.entry_list_index (PySem.F.args_list_index_2 _ _)
        (SeqAt.list_indexAt l vs.toArray nn none #[] u ev j (by simp; lia) (by lia) ?_ ?_) ⟨hh, fun y hy => ?_, k _ w _ (Step.here st.hp) (.d (.int _ _))⟩
      · obtain ⟨hd, hh'⟩ := at_ j (by simp; lia)
        rw [hev _ _ hh']; exact hj2
      · intro i hi hlt
        obtain ⟨hd, hh'⟩ := at_ i hi
        rw [hev _ _ hh']
        exact Bool.eq_false_iff.mpr (hj3 i hlt)
      · obtain ⟨i, hi, rfl⟩ := Array.mem_iff_getElem.mp hy
        obtain ⟨hd, hh'⟩ := at_ i hi
        rw [hev _ _ hh']
        obtain ⟨_, r1⟩ := hh'.reads st.hp.pool
        have s1 := okD_shape (List.all_eq_true.mp q.2 _ (List.getElem_mem hd))
        have s2 := okD_shape q.1
        refine SeqAt.eqAt_reads _ _ _ _ _ _ _ _ r1 ra s1.1 s2.1 ?_
        have := C.units
        have := Nat.min_le_right (ds[i]).depth a.depth
        show cx.A.in1.units + _ < _
        simp only [Around.in1_units]
        lia
  · exact absurd rfl ne
end
end Mine
end

section
set_option autoImplicit false
set_option maxRecDepth 100000
namespace Mine

noncomputable def fnName : Fn → String
  | .unitsOf => "units_of" | .load => "load" | .store => "store" | .undefine => "undefine" | .needUnits => "need_units" | .readCell => "read_cell" | .loadNumber => "load_number" | .storeNumber => "store_number"
  | .loadText => "load_text" | .storeText => "store_text" | .pad => "pad" | .unitSize => "unit_size" | .extent => "extent" | .elementPlace => "element_place" | .subPlace => "sub_place" | .elementsOf => "elements_of"
  | .spanOf => "span_of" | .undefineCells => "undefine_cells" | .fresh => "fresh" | .markStorage => "mark_storage" | .cutStorage => "cut_storage" | .lawValues => "_law_values" | .lawPick => "_law_pick" | .lawOwn => "_law_own"
  | .lawLay => "_law_lay" | .lawLoad => "_law_load" | .lawStore => "_law_store" | .lawDeed => "_law_deed" | .lawCounted => "_law_counted" | .lawShapes => "_law_shapes" | .lawAsked => "_law_asked" | .lawArrays => "_law_arrays"
noncomputable def isMeth : Fn → Bool
  | .load | .store | .undefine => true
  | _ => false

/-- what the written part must say of the names -/
structure KFacts (K : Frag) (fa : Fn → Addr) : Prop where
  glob : ∀ f, isMeth f = false → nsIn K mainGlobals (Str.ofString (fnName f)) = some (some (.ref (fa f)))
  meth : ∀ f, isMeth f = true → findIn K (.ref memCls) (Str.ofString (fnName f)) = some (some (.ref (fa f)))
  plain : ∀ f, isMeth f = true → plainGet K memCls (Str.ofString (fnName f)) = true
  isFn : ∀ f, isFn K (.ref (fa f)) = true
  keep : ∀ f, keepIn K (.ref (fa f)) = true
  getN : plainGet K memCls (Str.ofString "numeric") = true
  getC : plainGet K memCls (Str.ofString "characters") = true
  hasD : hasDictIn K memCls = true
  atN : ∃ a, findIn K (.ref memCls) (Str.ofString "numeric") = some a ∧ noGet K a = true
  atC : ∃ a, findIn K (.ref memCls) (Str.ofString "characters") = some a ∧ noGet K a = true

section
variable {prog : Program} {wo : World} {K : Frag} {base : Heap} {p : Program} {loose : List Str} {mean : ExcName → Option Value} {mg mb : Str → Option Value} {cx : Cx} {n : Nat} {lo : Lo} {H : Hp} {w : Wd} {fa : Fn → Addr}

/-- the calls are sound -/
noncomputable def CallOk (prog : Program) (wo : World) (base : Heap) (fa : Fn → Addr) (cf : CF) (n : Nat) : Prop :=
  ∀ (cx : Cx) (lo : Lo) (H : Hp) (w : Wd) (f : Fn) (us : List Value) (vs : List DV), CxOk base cx n → VAll base w us vs →
    SndW base cx (VRel base) (fun Q E s => wpAny (model prog wo) cx.A (call (.ref (fa f)) us) Q E s) lo H (cf f vs H) w

theorem snd_numeric {y : Str} {np pos : Pos} {r : Option (Rx DV)} (C : CxOk base cx n) (G : Gd K base p loose mean mg mb) (kf : KFacts K fa)
    (h : SndW base cx (VRel base) (fun Q E s => wpAny (model prog wo) cx.A (eval (.Name y np) cx.env) Q E s) lo H r w) :
    SndW base cx (VRel base) (fun Q E s => wpAny (model prog wo) cx.A (eval (.Attribute (.Name y np) (Str.ofString "numeric") pos) cx.env) Q E s) lo H
      (bnd r fun x H₁ => match x with | .mem i _ => some (.ok (.ml i) H₁) | _ => .none) w := by
  refine SndW.of (SndW.bnd (f := fun o Q E s => wpAny (model prog wo) cx.A (getAttr o (Str.ofString "numeric") true) Q E s) C h fun x H₁ v w' _ _ hv => ?_) fun Q E s _ h => Attribute_name h
  intro s Q E st ok er ne
  cases hv with
  | mem m1 m2 h1 h2 =>
    obtain ⟨m₀, nw, F, N, fs, kp⟩ := st.frn C
    obtain ⟨at_, e1, e2⟩ := kf.atN
    exact get_own F G.X ⟨st.hp.pool _ m1, rfl, rfl, st.hp.pool _ m2⟩ kf.getN kf.hasD e1 e2 (v := .ref _) rfl rfl (ok _ _ rfl _ w' _ (Step.here st.hp) (.ml h1))
  | _ => exact absurd rfl ne
theorem snd_chars {y : Str} {np pos : Pos} {r : Option (Rx DV)} (C : CxOk base cx n) (G : Gd K base p loose mean mg mb) (kf : KFacts K fa)
    (h : SndW base cx (VRel base) (fun Q E s => wpAny (model prog wo) cx.A (eval (.Name y np) cx.env) Q E s) lo H r w) :
    SndW base cx (VRel base) (fun Q E s => wpAny (model prog wo) cx.A (eval (.Attribute (.Name y np) (Str.ofString "characters") pos) cx.env) Q E s) lo H
      (bnd r fun x H₁ => match x with | .mem _ j => some (.ok (.ml j) H₁) | _ => .none) w := by
  refine SndW.of (SndW.bnd (f := fun o Q E s => wpAny (model prog wo) cx.A (getAttr o (Str.ofString "characters") true) Q E s) C h fun x H₁ v w' _ _ hv => ?_) fun Q E s _ h => Attribute_name h
  intro s Q E st ok er ne
  cases hv with
  | mem m1 m2 h1 h2 =>
    obtain ⟨m₀, nw, F, N, fs, kp⟩ := st.frn C
    obtain ⟨at_, e1, e2⟩ := kf.atC
    exact get_own F G.X ⟨st.hp.pool _ m1, rfl, rfl, st.hp.pool _ m2⟩ kf.getC kf.hasD e1 e2 (v := .ref _) rfl rfl (ok _ _ rfl _ w' _ (Step.here st.hp) (.ml h2))
  | _ => exact absurd rfl ne

theorem VAll.app {base : Heap} {w' : Wd} {us₁ us₂ : List Value} {vs₁ vs₂ : List DV} (h1 : VAll base w' us₁ vs₁) (h2 : VAll base w' us₂ vs₂) : VAll base w' (us₁ ++ us₂) (vs₁ ++ vs₂) := by
  induction us₁ generalizing vs₁ with
  | nil => cases h1; exact h2
  | cons u us ih => cases h1 with | cons a b => exact .cons a (ih b)
theorem snd_callWith {cf : CF} {f : Fn} {first : List Value} {fv : List DV} {es : List Expr} {pos : Pos} {r : Option (Rx (List DV))} (C : CxOk base cx n) (G : Gd K base p loose mean mg mb) (kf : KFacts K fa) (cok : CallOk prog wo base fa cf n) (hs : es.all notStar = true)
    (hf : VAll base w first fv) (hr : es = [] → r = some (.ok [] H))
    (h : SndW base cx (VAll base) (fun Q E s => wpAny (model prog wo) cx.A (spliced (backTo pos (starEach es cx.env))) Q E s) lo H r w) :
    SndW base cx (VRel base) (fun Q E s => wpAny (model prog wo) cx.A (callWith pos (.ref (fa f)) first (backTo pos (starEach es cx.env)) []) Q E s) lo H (bnd r fun vs H₂ => cf f (fv ++ vs) H₂) w := by
  cases es with
  | nil =>
    rw [hr rfl]
    intro s Q E st ok er ne
    exact callWith_K0 (st.X G) (kf.keep f) (cok cx lo H w f _ _ C (hf.app .nil) s Q E st ok er ne)
  | cons e rest =>
    rw [List.all_cons, Bool.and_eq_true] at hs
    refine SndW.of (SndW.bnd (f := fun us Q E s => K.In s.heap ∧ wpAny (model prog wo) cx.A (call (.ref (fa f)) (first ++ us)) Q E s) C h fun vs H₁ us w' _ g hv => ?_) fun Q E s st h => callWith_K (st.X G) (kf.keep f) h (star_cons hs.1) (star_any hs.2)
    intro s Q E st ok er ne
    exact ⟨st.X G, cok cx lo H₁ w' f _ _ C ((hf.ext g).app hv) s Q E st ok er ne⟩

/-- a def of the text's top called by its name -/
theorem snd_call {cf : CF} {f : Fn} {es : List Expr} {y : Str} {np pos : Pos} {r : Option (Rx (List DV))} (C : CxOk base cx n) (G : Gd K base p loose mean mg mb) (kf : KFacts K fa) (cok : CallOk prog wo base fa cf n) (hs : es.all notStar = true)
    (hm : isMeth f = false) (hy : y = Str.ofString (fnName f)) (hk : cx.env.kindOf y = some .globalImplicit) (hd : (y == ("__debug__" : Str)) = false) (hr : es = [] → r = some (.ok [] H))
    (h : SndW base cx (VAll base) (fun Q E s => wpAny (model prog wo) cx.A (spliced (backTo pos (starEach es cx.env))) Q E s) lo H r w) :
    SndW base cx (VRel base) (fun Q E s => wpAny (model prog wo) cx.A (eval (.Call (.Name y np) es [] pos) cx.env) Q E s) lo H (bnd r fun vs H₂ => cf f vs H₂) w := by
  intro s Q E st ok er ne
  refine Call_ (wp_glob C G st hk (by rw [hy]; exact kf.glob f hm) hd ?_)
  exact snd_callWith (fv := []) (first := []) C G kf cok hs .nil hr h s Q E st ok er ne

theorem method_he {o : Expr} {name : Str} {apos pos : Pos} {args : List Expr} {env : Env} (hb : ∀ whole, attributeBase o name env whole = whole) (hf : methodCallForm args.length (backTo pos (starEach args env)) [] = true) (hl : (apos.endLine == pos.line) = true) :
    eval (.Call (.Attribute o name apos) args [] pos) env = (do
      let ov ← eval o env
      standAt apos.atName
      let (f, first) ← holding [ov] (getMethod ov name (do return (← importBound o env).getD true))
      callWith pos f first (backTo pos (starEach args env)) []) := by
  show (do
    let ov ← attributeBase o name env (eval o env)
    standAt apos.atName
    methodCall o name apos pos env ov (args.length + 0) (backTo pos (starEach args env)) []) = _
  rw [hb]
  congr 1
  funext ov
  congr 1
  funext _
  unfold methodCall
  have hf' : methodCallForm (args.length + 0) (backTo pos (starEach args env)) [] = true := hf
  simp only [hf', calleeOf, if_true, methodCallPos, hl, Bool.not_true, Bool.false_or]
  congr 1
theorem star_form {env : Env} {pos : Pos} {es : List Expr} (h : es.all notStar = true) (hz : es.length < 20) : methodCallForm es.length (backTo pos (starEach es env)) [] = true := by
  have key : ∀ {es : List Expr}, es.all notStar = true → (backTo pos (starEach es env)).all (!·.1) = true := by
    intro es
    induction es with
    | nil => intro _; rfl
    | cons e r ih =>
      intro h
      rw [List.all_cons, Bool.and_eq_true] at h
      rw [star_cons h.1]
      show (!false && (backTo pos (starEach r env)).all (!·.1)) = true
      rw [ih h.2]; rfl
  unfold methodCallForm
  rw [key h]
  simp; omega

/-- a method of the Memory -/
theorem snd_mcall {cf : CF} {f : Fn} {es : List Expr} {y name : Str} {np apos pos : Pos} {r₀ : Option (Rx DV)} {k : Hp → Option (Rx (List DV))} (C : CxOk base cx n) (G : Gd K base p loose mean mg mb) (kf : KFacts K fa) (cok : CallOk prog wo base fa cf n) (hs : es.all notStar = true) (hz : es.length < 20)
    (hm : isMeth f = true) (hy : name = Str.ofString (fnName f)) (hl : (apos.endLine == pos.line) = true) (hr : es = [] → ∀ H, k H = some (.ok [] H)) (hg : ∀ h₁ h₂ t₁ t₂ a b, getL name [⟨h₁, .str (Str.ofString "numeric") t₁, .ref a⟩, ⟨h₂, .str (Str.ofString "characters") t₂, .ref b⟩] = some none)
    (h₀ : SndW base cx (VRel base) (fun Q E s => wpAny (model prog wo) cx.A (eval (.Name y np) cx.env) Q E s) lo H r₀ w)
    (h : ∀ H w, SndW base cx (VAll base) (fun Q E s => wpAny (model prog wo) cx.A (spliced (backTo pos (starEach es cx.env))) Q E s) lo H (k H) w) :
    SndW base cx (VRel base) (fun Q E s => wpAny (model prog wo) cx.A (eval (.Call (.Attribute (.Name y np) name apos) es [] pos) cx.env) Q E s) lo H
      (bnd r₀ fun x H₁ => match x with | .mem i j => bnd (k H₁) fun vs H₂ => cf f (.mem i j :: vs) H₂ | _ => .none) w := by
  refine SndW.of (SndW.bnd (f := fun ov Q E s => wpAny (model prog wo) cx.A (getMethod ov name (do return (← importBound (.Name y np) cx.env).getD true)) (fun fx s₂ => wpAny (model prog wo) cx.A (callWith pos fx.1 fx.2 (backTo pos (starEach es cx.env)) []) Q E s₂) E s) C h₀ fun x H₁ v w' _ _ hv => ?_)
    fun Q E s _ h => MethodCall_ h (method_he (fun _ => rfl) (star_form hs hz) hl)
  intro s Q E st ok er ne
  cases hv with
  | mem m1 m2 h1 h2 =>
    obtain ⟨m₀, nw, F, N, fs, kp⟩ := st.frn C
    subst hy
    refine method_inst F G.X ⟨st.hp.pool _ m1, rfl, rfl, st.hp.pool _ m2⟩ (kf.plain f hm) (kf.meth f hm) (kf.isFn f) (hg _ _ _ _ _ _) ?_
    exact snd_callWith (first := [.ref _]) (fv := [.mem _ _]) C G kf cok hs (.cons (.mem m1 m2 h1 h2) .nil) (fun e => hr e H₁) (h H₁ w') s Q E st ok er ne
  | _ => exact absurd rfl ne
end
end Mine
end

section
set_option autoImplicit false
set_option maxRecDepth 100000
namespace Mine

section
variable {prog : Program} {wo : World} {K : Frag} {base : Heap} {p : Program} {loose : List Str} {mean : ExcName → Option Value} {mg mb : Str → Option Value} {cx : Cx} {n : Nat} {lo : Lo} {H : Hp} {w : Wd} {fa : Fn → Addr}

theorem HpRel.sub {R R' : List Addr} {h : Heap} (x : HpRel base w H R' h) (hs : ∀ a ∈ R, a ∈ R') : HpRel base w H R h :=
  ⟨x.len, x.nodup, x.live, x.pool, x.there, x.offB, fun a m q => x.offR a m (hs a q), fun p m q => x.offP p m (hs _ q)⟩
theorem HpRel.more {R X : List Addr} {h : Heap} (x : HpRel base w H R h) (h1 : ∀ a ∈ X, a ∉ w.ρ) (h2 : ∀ a ∈ X, ∀ p ∈ w.pool, p.1 ≠ a) : HpRel base w H (X ++ R) h :=
  ⟨x.len, x.nodup, x.live, x.pool, x.there, x.offB, fun a m q => (List.mem_append.mp q).elim (fun q => h1 a q m) (x.offR a m), fun p m q => (List.mem_append.mp q).elim (fun q => h2 _ q p m rfl) (x.offP p m)⟩

theorem StE.keptX {X : List Addr} {H' : Hp} {w' : Wd} {s s' : Shared} (C : CxOk base cx n) (x : StE base cx lo H w s) (k : Kept (X ++ w.ρ) cx.F s.heap s'.heap) (hX : ∀ a ∈ X, a ∉ cx.R ∧ base.get? a = none) (g : Ext w w') (hp : HpRel base w' H' cx.R s'.heap) : StE base cx lo H' w' s' := by
  have nρ : ∀ a ∈ cx.R, a ∉ X ++ w.ρ := fun a m m' => (List.mem_append.mp m').elim (fun q => (hX a q).1 m) fun q => x.hp.offR a q m
  refine ⟨hp, fun a m => ?_, fun b o e => ?_, fun b m => ?_, fun i d e => ?_⟩
  · obtain ⟨o, e⟩ := x.rin a m; exact k.ex a o e
  · refine k.same b o (x.stays b o e) (fun m => ?_) fun m => ?_
    · rcases List.mem_append.mp m with m | m
      · have := (hX b m).2; rw [e] at this; cases this
      · have := x.hp.offB b m; rw [e] at this; cases this
    · have := C.offF m; rw [e] at this; cases this
  · obtain ⟨m', e⟩ := x.fr b m
    exact ⟨m', k.nsk b m' e (nρ b (C.FR b m)) m⟩
  · obtain ⟨y, v, hy, hl, hv⟩ := x.lo i d e
    refine ⟨y, v, hy, ?_, hv.ext g⟩
    rcases hl with ⟨hk, m, hn, hm⟩ | ⟨hk, c, hc, o, hco, hcd⟩
    · exact .inl ⟨hk, m, k.ns (nρ _ C.LR) hn, hm⟩
    · have hR := C.CR (y, c) (mem_of_lookup _ hc)
      exact .inr ⟨hk, c, hc, o, k.same c o hco (nρ _ hR.1) hR.2, hcd⟩

/-- the cells that a comprehension's block takes over -/
noncomputable def closOf (names : List (Str × NameKind)) (cells : List (Str × Addr)) : List (Str × Addr) :=
  names.foldl (fun cs y => if y.2 == .free then (y.1, (cells.lookup y.1).getD 0) :: cs else cs) []
theorem clos_eq {cs : Scope} {env : Env} (h : ∀ y ∈ cs.names, y.2 = .free → ∃ c, env.cells.lookup y.1 = some c) : closureFor cs env = pure (closOf cs.names env.cells) := by
  unfold closureFor closOf
  have key : ∀ (l : List (Str × NameKind)) (acc : List (Str × Addr)), (∀ y ∈ l, y.2 = .free → ∃ c, env.cells.lookup y.1 = some c) →
      (forIn l acc (fun (x : Str × NameKind) (r : List (Str × Addr)) => match x with | (name, kind) => (if (kind == NameKind.free) = true then do let c ← cellOf env name; pure (ForInStep.yield ((name, c) :: r)) else pure (ForInStep.yield r) : Sem (ForInStep (List (Str × Addr))))))
        = pure (l.foldl (fun cs y => if y.2 == .free then (y.1, (env.cells.lookup y.1).getD 0) :: cs else cs) acc) := by
    intro l
    induction l with
    | nil => intro acc _; rfl
    | cons y r ih =>
      intro acc h
      obtain ⟨nm, kd⟩ := y
      rw [List.forIn_cons, List.foldl_cons]
      by_cases q : (kd == NameKind.free) = true
      · obtain ⟨c, hc⟩ := h _ (.head _) (beq_iff_eq.mp q)
        simp only at hc
        simp only [q, if_true, cellOf, hc, Option.getD_some]
        exact ih _ fun y m => h y (.tail _ m)
      · simp only [q, if_false]
        exact ih _ fun y m => h y (.tail _ m)
  have := key cs.names [] h
  exact (bind_pure _).trans this
end
end Mine
end

section
set_option autoImplicit false
set_option maxRecDepth 100000
namespace Mine

section
variable {prog : Program} {wo : World} {K : Frag} {base : Heap} {p : Program} {loose : List Str} {mean : ExcName → Option Value} {mg mb : Str → Option Value} {cx : Cx} {n : Nat} {lo : Lo} {H : Hp} {w : Wd} {fa : Fn → Addr}

theorem HpRel.addPool {R : List Addr} {h : Heap} {D : Addr} {o : Obj} (x : HpRel base w H R h) (h1 : D ∉ w.ρ) (h2 : D ∉ R) (h3 : h.get? D = some o) : HpRel base ⟨w.ρ, (D, o) :: w.pool⟩ H R h := by
  refine ⟨x.len, x.nodup, fun i ds e => ?_, fun p m => ?_, x.there, x.offB, x.offR, fun p m => ?_⟩
  · obtain ⟨b, o', vs, n', a1, a2, a3, a4, a5, a6, a7⟩ := x.live i ds e
    refine ⟨b, o', vs, n', a1, a2, a3, a4, a5.mono fun y m => .tail _ m, fun p m => ?_, a7⟩
    rcases List.mem_cons.mp m with rfl | m
    · intro q; exact h1 (by rw [show D = b from q]; exact List.mem_of_getElem? a1)
    · exact a6 p m
  · rcases List.mem_cons.mp m with rfl | m
    · exact h3
    · exact x.pool p m
  · rcases List.mem_cons.mp m with rfl | m
    · exact h2
    · exact x.offP p m
theorem Step.addPool {R F X : List Addr} {w' : Wd} {H' : Hp} {s s' : Shared} {D : Addr} {o : Obj} (k : Step base R F X w s w' H' s') (h1 : D ∉ w'.ρ) (h2 : D ∉ R) (h3 : s'.heap.get? D = some o) : Step base R F X w s ⟨w'.ρ, (D, o) :: w'.pool⟩ H' s' :=
  ⟨⟨k.grow.ρ, fun p m => .tail _ (k.grow.pool p m)⟩, k.kept, k.hp.addPool h1 h2 h3, k.same⟩
theorem Step.transX {R F X : List Addr} {w₁ w₂ : Wd} {H₁ H₂ : Hp} {s s₁ s₂ : Shared} (a : Step base R F [] w s w₁ H₁ s₁) (b : Step base R F X w₁ s₁ w₂ H₂ s₂) (hX : ∀ a ∈ X, s.heap.get? a = none) : Step base R F [] w s w₂ H₂ s₂ := by
  refine ⟨a.grow.trans b.grow a.kept.ex, a.kept.trans b.kept fun x m n => ?_, b.hp, ?_⟩
  · rcases List.mem_append.mp m with m | m
    · exact hX x m
    · obtain ⟨t, e, f⟩ := a.grow.ρ
      rw [e] at m
      rcases List.mem_append.mp m with m | m
      · exact absurd (List.mem_append.mpr (.inr m)) n
      · exact f x m
  · obtain ⟨tk, e⟩ := a.same
    obtain ⟨tk', e'⟩ := b.same
    exact ⟨tk', by rw [e', e]⟩
/-- one place turned that is neither a list nor the pool's -/
theorem step_off {R F : List Addr} {s : Shared} {h' : Heap} {tk : Nat} {a : Addr} (x : HpRel base w H R s.heap) (k : Kept [a] F s.heap h') (FR : ∀ b ∈ F, b ∈ R) (h1 : a ∉ w.ρ) (h2 : ∀ p ∈ w.pool, p.1 ≠ a) : Step base R F [a] w s w H { s with heap := h', toks := tk } := by
  refine ⟨.refl, k.mono fun b m => List.mem_append.mpr (.inl m), ?_, tk, rfl⟩
  have kk : ∀ b o, s.heap.get? b = some o → b ∉ R → b ≠ a → h'.get? b = some o := fun b o e r q => k.same b o e (fun m => q (List.mem_singleton.mp m)) fun m => r (FR b m)
  refine ⟨x.len, x.nodup, fun i ds e => ?_, fun p m => kk _ _ (x.pool p m) (x.offP p m) (h2 p m), fun b m => ?_, x.offB, x.offR, x.offP⟩
  · obtain ⟨b, o', vs, n', a1, a2, a3, a4, a5, a6, a7⟩ := x.live i ds e
    exact ⟨b, o', vs, n', a1, kk _ _ a2 (x.offR b (List.mem_of_getElem? a1)) (fun q => h1 (q ▸ List.mem_of_getElem? a1)), a3, a4, a5, a6, a7⟩
  · obtain ⟨o, e⟩ := x.there b m; exact k.ex b o e
theorem kept_sameBut {F : List Addr} {a : Addr} {h h' : Heap} (k : Heap.SameBut a h h') (ha : ∀ o, h.get? a = some o → ∃ o', h'.get? a = some o') (hF : a ∉ F) : Kept [a] F h h' := by
  have key : ∀ b o, h.get? b = some o → b ≠ a → h'.get? b = some o := fun b o e q => by rw [k.2 b q]; exact e
  refine ⟨fun b o e => ?_, fun b o e n _ => key b o e fun q => n (List.mem_singleton.mpr q), fun b m e n f => (Heap.Ns.at' e) fun o e => key b o e fun q => hF (q ▸ f)⟩
  by_cases q : b = a
  · subst q; exact ha o e
  · exact ⟨o, key b o e q⟩
end

theorem clos_fold (cells : List (Str × Addr)) : ∀ (names : List (Str × NameKind)), (∀ y ∈ names, y.2 = .free → ∃ c, cells.lookup y.1 = some c) → ∀ acc : List (Str × Addr), (∀ y c, acc.lookup y = some c → cells.lookup y = some c) →
    (∀ p ∈ acc, p ∈ cells) →
    let r := names.foldl (fun cs y => if y.2 == .free then (y.1, (cells.lookup y.1).getD 0) :: cs else cs) acc
    (∀ y c, r.lookup y = some c → cells.lookup y = some c) ∧ (∀ y, ((∃ c, acc.lookup y = some c) ∨ (y, NameKind.free) ∈ names) → ∃ c, r.lookup y = some c) ∧ (∀ p ∈ r, p ∈ cells)
  | [], _, acc, h1, h2 => ⟨h1, fun y q => q.elim id (fun m => nomatch m), h2⟩
  | (nm, kd) :: r, h, acc, h1, h2 => by
    simp only [List.foldl_cons]
    by_cases q : (kd == NameKind.free) = true
    · simp only [q, if_true]
      obtain ⟨c, hc⟩ := h _ (.head _) (beq_iff_eq.mp q)
      simp only at hc
      simp only [hc, Option.getD_some]
      have ih := clos_fold cells r (fun y m => h y (.tail _ m)) ((nm, c) :: acc) (fun y c' e => ?_) (fun p m => ?_)
      · refine ⟨ih.1, fun y e => ih.2.1 y ?_, ih.2.2⟩
        rw [List.lookup_cons]
        split
        · exact .inl ⟨_, rfl⟩
        · rename_i q'
          rcases e with e | e
          · exact .inl e
          · rcases List.mem_cons.mp e with e | e
            · cases e; simp at q'
            · exact .inr e
      · rw [List.lookup_cons] at e
        split at e
        · rename_i q'
          cases e
          rw [beq_iff_eq.mp q']; exact hc
        · exact h1 _ _ e
      · rcases List.mem_cons.mp m with rfl | m
        · exact mem_of_lookup _ hc
        · exact h2 p m
    · have q' : (kd == NameKind.free) = false := Bool.eq_false_iff.mpr q
      simp only [q']
      have ih := clos_fold cells r (fun y m => h y (.tail _ m)) acc h1 h2
      refine ⟨ih.1, fun y e => ih.2.1 y (e.imp_right fun e => ?_), ih.2.2⟩
      rcases List.mem_cons.mp e with e | e
      · cases e; exact absurd rfl q
      · exact e

theorem keepOnly_some {lo : Lo} {i : Nat} {d : DV} {fv : List Nat} (h : (keepOnly fv lo)[i]? = some (some d)) : i ∈ fv ∧ lo[i]? = some (some d) := by
  unfold keepOnly at h
  have key : ∀ (fv : List Nat) (l : Lo) (S : List Nat), (∀ (i : Nat) d, l[i]? = some (some d) → i ∈ S ∧ lo[i]? = some (some d)) → ∀ (i : Nat) d, (fv.foldl (fun l i => l.set i (lo[i]?.join)) l)[i]? = some (some d) → (i ∈ S ∨ i ∈ fv) ∧ lo[i]? = some (some d) := by
    intro fv
    induction fv with
    | nil => intro l S h i d e; exact ⟨.inl (h i d e).1, (h i d e).2⟩
    | cons k fv ih =>
      intro l S h i d e
      have := ih (l.set k (lo[k]?.join)) (k :: S) (fun i d e => ?_) i d e
      · refine ⟨?_, this.2⟩
        rcases this.1 with q | q
        · rcases List.mem_cons.mp q with q | q
          · exact .inr (q ▸ .head _)
          · exact .inl q
        · exact .inr (.tail _ q)
      · by_cases q : k = i
        · subst q
          by_cases hl : k < l.length
          · rw [List.getElem?_set_self hl] at e
            cases e' : lo[k]? with
            | none => rw [e'] at e; cases e
            | some o => rw [e'] at e; cases o with
              | none => cases e
              | some d' => cases e; exact ⟨.head _, rfl⟩
          · rw [List.getElem?_eq_none (by simp; lia)] at e; cases e
        · rw [List.getElem?_set_ne q] at e
          exact ⟨.tail _ (h i d e).1, (h i d e).2⟩
  have := key fv (List.replicate lo.length .none) [] (fun i d e => by
    have := List.mem_of_getElem? e
    rw [List.mem_replicate] at this
    cases this.2) i d h
  exact ⟨this.1.elim (fun m => nomatch m) id, this.2⟩
theorem rngI_cons {a b : Int} (h : a < b) : rngI a b = a :: rngI (a + 1) b := by
  unfold rngI
  have e : (b - a).toNat = (b - (a + 1)).toNat + 1 := by lia
  rw [e, List.range_succ_eq_map, List.map_cons, List.map_map]
  congr 1
  · simp
  · refine List.map_congr_left fun k _ => ?_
    simp only [Function.comp, Nat.succ_eq_add_one]; lia
theorem rngI_nil {a b : Int} (h : b ≤ a) : rngI a b = [] := by
  unfold rngI
  rw [show (b - a).toNat = 0 by lia]; rfl
end Mine
end

section
set_option autoImplicit false
set_option maxRecDepth 100000
namespace Mine

/-- a comprehension's context -/
noncomputable def Cx.comp (cx : Cx) (cs : Scope) (Cd D It : Addr) : Cx := { A := cx.A, env := compEnvC cs (closOf cs.names cx.env.cells) Cd cx.env, l := cx.l, L := cx.L, R := It :: D :: Cd :: cx.R, names := cx.names }

/-- what is asked of a comprehension's scope -/
structure CompScope (cx : Cx) (cs : Scope) (x : Nat) (xs : Str) (fv : List Nat) : Prop where
  kind : cs.kind = .function
  cell : ∀ y ∈ cs.names, y.2 ≠ .cell
  names : ∀ y ∈ cs.names, y.2 = .local → cs.names.lookup y.1 = some .local
  loc : cs.names.lookup xs = some .local
  xn : cx.names[x]? = some xs
  free : ∀ y ∈ cs.names, y.2 = .free → cx.env.kindOf y.1 = some .cell
  fv : ∀ i ∈ fv, i ≠ x ∧ ∃ y, cx.names[i]? = some y ∧ cs.names.lookup y = some .free

theorem mem_lookup {β : Type} {y : Str} {k : β} : ∀ (l : List (Str × β)), l.lookup y = some k → (y, k) ∈ l
  | [], h => by cases h
  | (u, v) :: r, h => by
    cases hx : y == u with
    | true => simp only [List.lookup_cons, hx] at h; cases h; rw [beq_iff_eq.mp hx]; exact .head _
    | false => simp only [List.lookup_cons, hx] at h; exact .tail _ (mem_lookup r h)

theorem lookup_relabel_free {env : Env} {x : Str} : ∀ {names : List (Str × NameKind)}, names.lookup x = some .free → env.scope.kind = .function → env.kindOf x = some .cell →
    (names.map fun (n, k) => if (k == NameKind.free && env.scope.kind == .function && env.kindOf n == some .cell) then (n, NameKind.cell) else (n, k)).lookup x = some .cell
  | [], h, _, _ => by simp at h
  | (nm, k) :: r, h, hk, hc => by
    have ih := @lookup_relabel_free env x r
    show List.lookup x ((if (k == NameKind.free && env.scope.kind == .function && env.kindOf nm == some .cell) = true then (nm, NameKind.cell) else (nm, k)) :: _) = _
    cases hx : x == nm with
    | true =>
      simp only [List.lookup_cons, hx] at h
      cases h
      have := beq_iff_eq.mp hx
      subst this
      simp [hk, hc]
    | false =>
      simp only [List.lookup_cons, hx] at h
      by_cases q : (k == NameKind.free && env.scope.kind == .function && env.kindOf nm == some .cell) = true
      · rw [if_pos q]; simp only [List.lookup_cons, hx]; exact ih h hk hc
      · rw [if_neg q]; simp only [List.lookup_cons, hx]; exact ih h hk hc
theorem lookup_relabel_cell {env : Env} {x : Str} : ∀ {names : List (Str × NameKind)}, (∀ y ∈ names, y.2 ≠ .cell) →
    (names.map fun (n, k) => if (k == NameKind.free && env.scope.kind == .function && env.kindOf n == some .cell) then (n, NameKind.cell) else (n, k)).lookup x = some .cell → (x, NameKind.free) ∈ names
  | [], _, h => by simp at h
  | (nm, k) :: r, hn, h => by
    have ih := @lookup_relabel_cell env x r (fun y m => hn y (.tail _ m))
    by_cases q : (k == NameKind.free && env.scope.kind == .function && env.kindOf nm == some .cell) = true
    · replace h : List.lookup x ((nm, NameKind.cell) :: r.map fun (n, k) => if (k == NameKind.free && env.scope.kind == .function && env.kindOf n == some .cell) then (n, NameKind.cell) else (n, k)) = some .cell := by
        rw [List.map_cons] at h; simp only [q, if_true] at h; exact h
      cases hx : x == nm with
      | true =>
        have := beq_iff_eq.mp hx
        subst this
        rw [Bool.and_eq_true, Bool.and_eq_true] at q
        rw [beq_iff_eq.mp q.1.1]; exact .head _
      | false =>
        simp only [List.lookup_cons, hx] at h
        exact .tail _ (ih h)
    · replace h : List.lookup x ((nm, k) :: r.map fun (n, k) => if (k == NameKind.free && env.scope.kind == .function && env.kindOf n == some .cell) then (n, NameKind.cell) else (n, k)) = some .cell := by
        rw [List.map_cons] at h; simp only [q, if_false] at h; exact h
      cases hx : x == nm with
      | true =>
        simp only [List.lookup_cons, hx] at h
        cases h
        exact absurd rfl (hn _ (.head _))
      | false =>
        simp only [List.lookup_cons, hx] at h
        exact .tail _ (ih h)

section
variable {prog : Program} {wo : World} {K : Frag} {base : Heap} {p : Program} {loose : List Str} {mean : ExcName → Option Value} {mg mb : Str → Option Value} {cx : Cx} {n : Nat} {lo : Lo} {H : Hp} {w : Wd} {fa : Fn → Addr}

theorem CompScope.fold {cs : Scope} {x : Nat} {xs : Str} {fv : List Nat} (C : CxOk base cx n) (S : CompScope cx cs x xs fv) :
    (∀ y c, (closOf cs.names cx.env.cells).lookup y = some c → cx.env.cells.lookup y = some c) ∧ (∀ y, (y, NameKind.free) ∈ cs.names → ∃ c, (closOf cs.names cx.env.cells).lookup y = some c) ∧ (∀ p ∈ closOf cs.names cx.env.cells, p ∈ cx.env.cells) := by
  have := clos_fold cx.env.cells cs.names (fun y m e => C.cells _ (S.free y m e)) [] (fun _ _ e => by cases e) (fun _ m => nomatch m)
  exact ⟨this.1, fun y m => this.2.1 y (.inr m), this.2.2⟩

theorem CompScope.cxOk {cs : Scope} {x : Nat} {xs : Str} {fv : List Nat} {Cd D It : Addr} (C : CxOk base cx n) (S : CompScope cx cs x xs fv) : CxOk base (cx.comp cs Cd D It) n := by
  have hf := S.fold C
  have sub : ∀ a ∈ cx.R, a ∈ It :: D :: Cd :: cx.R := fun a m => .tail _ (.tail _ (.tail _ m))
  exact ⟨C.hh, C.hf, S.kind, C.glob, C.blt, fun a m => sub a (C.FR a m), .tail _ (.tail _ (.head _)), fun p m => ⟨sub _ (C.CR p (hf.2.2 p m)).1, (C.CR p (hf.2.2 p m)).2⟩, C.LF, C.above, C.fro, C.depth, C.units, fun y e => hf.2.1 y (lookup_relabel_cell S.cell e)⟩

theorem CompScope.loRel {cs : Scope} {x : Nat} {xs : Str} {fv : List Nat} {Cd D It : Addr} {h : Heap} (C : CxOk base cx n) (S : CompScope cx cs x xs fv) (l : LoRel base cx lo w h) : LoRel base (cx.comp cs Cd D It) ((keepOnly fv lo).set x .none) w h := by
  intro i d e
  have e' : (keepOnly fv lo)[i]? = some (some d) := by
    by_cases q : x = i
    · subst q
      by_cases hl : x < (keepOnly fv lo).length
      · rw [List.getElem?_set_self hl] at e; cases e
      · rw [List.getElem?_eq_none (by simp; lia)] at e; cases e
    · rwa [List.getElem?_set_ne q] at e
  obtain ⟨hm, hl⟩ := keepOnly_some e'
  obtain ⟨_, y, hy, hfree⟩ := S.fv i hm
  obtain ⟨y', v, hy', hk, hv⟩ := l i d hl
  rw [hy] at hy'; cases hy'
  refine ⟨y, v, hy, .inr ⟨.inl (lookup_relabel_free hfree C.kind (S.free _ (mem_lookup _ hfree) rfl)), ?_⟩, hv⟩
  have hcell := S.free _ (mem_lookup _ hfree) rfl
  rcases hk with ⟨hk, _⟩ | ⟨_, c, hc, hcc⟩
  · rw [hcell] at hk; cases hk
  · obtain ⟨c', hc'⟩ := (S.fold C).2.1 y (mem_lookup _ hfree)
    have := (S.fold C).1 _ _ hc'
    rw [hc] at this; cases this
    exact ⟨_, hc', hcc⟩

/-- the state within a comprehension: left items still to come -/
inductive CompI (base : Heap) (cx : Cx) (Cd D It : Addr) (f : DV → Hp → Option (Rx DV)) (w : Wd) (s : Shared) (nn : Int) (ds : List PyData) (H' : Hp) (left : Nat) (s₃ : Shared) : Prop where
  | mk (w₃ : Wd) (H₃ : Hp) (ds₁ ds₂ : List PyData) (vs : List Value) (cap : Nat) (h1 : (left : Int) ≤ nn) (h2 : compL f (rngI (nn - left) nn) H₃ = some (ds₂, H')) (h3 : ds = ds₁ ++ ds₂) (h4 : Step base cx.R cx.F [] w s w₃ H₃ s₃) (h5 : ∀ a ∈ [It, D, Cd], a ∉ w₃.ρ ∧ ∀ p ∈ w₃.pool, p.1 ≠ a)
    (h6 : IsRangeIter s₃.heap It (nn - left) left 1) (h7 : s₃.heap.get? D = some (listOf (List.toArray vs) cap)) (h8 : DAll w₃.pool vs ds₁) (h9 : ∃ m, s₃.heap.Ns Cd m) (h10 : (vs.length : Int) + left = nn) : CompI base cx Cd D It f w s nn ds H' left s₃

theorem Step.extBut {R F : List Addr} {w₁ : Wd} {H₁ : Hp} {s s₁ : Shared} {a : Addr} {h' : Heap} {tk : Nat} (k : Step base R F [] w s w₁ H₁ s₁) (he : Heap.ExtBut a s₁.heap h') (ha : s.heap.get? a = none) (h1 : a ∉ w₁.ρ) (h2 : ∀ p ∈ w₁.pool, p.1 ≠ a) (hF : ∀ b ∈ F, ∃ m, s.heap.Ns b m) :
    Step base R F [] w s w₁ H₁ { s₁ with heap := h', toks := tk } := by
  obtain ⟨tk', e⟩ := k.same
  have ne : ∀ b o, s.heap.get? b = some o → b ≠ a := fun b o q z => by rw [z, ha] at q; cases q
  refine ⟨k.grow, ⟨fun b o q => ?_, fun b o q n f => he _ _ (ne b o q) (k.kept.same b o q n f), fun b m q n f => ?_⟩, ⟨k.hp.len, k.hp.nodup, fun i ds e => ?_, fun p m => he _ _ (h2 p m) (k.hp.pool p m), fun b m => ?_, k.hp.offB, k.hp.offR, k.hp.offP⟩, tk, by rw [e]⟩
  · obtain ⟨o', q'⟩ := k.kept.ex b o q
    exact ⟨o', he _ _ (ne b o q) q'⟩
  · obtain ⟨o, ho⟩ := ns_some q
    exact (k.kept.nsk b m q n f).extBut he (ne b o ho)
  · obtain ⟨b, o, vs, n', a1, a2, a3, a4, a5, a6, a7⟩ := k.hp.live i ds e
    exact ⟨b, o, vs, n', a1, he _ _ (fun z => h1 (z ▸ List.mem_of_getElem? a1)) a2, a3, a4, a5, a6, a7⟩
  · obtain ⟨o, e⟩ := k.hp.there b m
    exact ⟨o, he _ _ (fun z => h1 (z ▸ m)) e⟩

theorem CompScope.inner {cs : Scope} {x : Nat} {xs : Str} {fv : List Nat} {Cd D It : Addr} {s : Shared} (C : CxOk base cx n) (S : CompScope cx cs x xs fv) (st : StE base cx lo H w s) (hex : ∀ a ∈ [It, D, Cd], ∃ o, s.heap.get? a = some o)
    (hoff : ∀ a ∈ [It, D, Cd], a ∉ w.ρ ∧ ∀ p ∈ w.pool, p.1 ≠ a) {lo' : Lo} (hl : LoRel base (cx.comp cs Cd D It) lo' w s.heap) : StE base (cx.comp cs Cd D It) lo' H w s := by
  have hm : ∀ a, a ∈ It :: D :: Cd :: cx.R ↔ a ∈ [It, D, Cd] ∨ a ∈ cx.R := fun a => by simp [or_assoc]
  refine ⟨st.hp.more (X := [It, D, Cd]) (fun a m => (hoff a m).1) fun a m => (hoff a m).2, fun a m => ?_, st.stays, st.fr, hl⟩
  rcases (hm a).mp m with m | m
  · exact hex a m
  · exact st.rin a m
theorem CompScope.loRelX {cs : Scope} {x : Nat} {xs : Str} {fv : List Nat} {Cd D It : Addr} {h : Heap} {m : Str → Option Value} {v : Value} {d : DV} (C : CxOk base cx n) (S : CompScope cx cs x xs fv) (l : LoRel base cx lo w h)
    (hn : h.Ns Cd m) (hm : m xs = some v) (hv : VRel base w v d) : LoRel base (cx.comp cs Cd D It) ((keepOnly fv lo).set x (some d)) w h := by
  intro i d' e
  by_cases q : x = i
  · subst q
    by_cases hl : x < (keepOnly fv lo).length
    · rw [List.getElem?_set_self hl] at e
      cases e
      exact ⟨xs, v, S.xn, .inl ⟨lookup_relabel_local S.loc, m, hn, hm⟩, hv⟩
    · rw [List.getElem?_eq_none (by simp; lia)] at e; cases e
  · refine S.loRel C l i d' ?_
    rw [List.getElem?_set_ne q] at e ⊢; exact e

theorem comp_loop {elt iter : Expr} {x : Nat} {xs : Str} {fv : List Nat} {px pos : Pos} {cs : Scope} {f : DV → Hp → Option (Rx DV)} {nn : Nat} {ds : List PyData} {H' : Hp} {s s₀ : Shared} {RR : Result → Shared → Prop} {Cd D It : Addr}
    (C : CxOk base cx n) (S : CompScope cx cs x xs fv) (st : StE base cx lo H w s) (hz : nn ≤ 4096)
    (helt : ∀ Cd D It v H w, SndW base (cx.comp cs Cd D It) (VRel base) (fun Q E s => wpAny (model prog wo) cx.A (eval elt (cx.comp cs Cd D It).env) Q E s) ((keepOnly fv lo).set x (some v)) H (f v H) w)
    (hRR : ∀ w' s' vs cap m, s'.heap.Ns Cd m → s'.heap.get? D = some (listOf (List.toArray vs) cap) → DAll w'.pool vs ds → Step base cx.R cx.F [] w s w' H' s' → D ∉ w'.ρ → Cd ∉ w'.ρ → (∀ p ∈ w'.pool, p.1 ≠ Cd) → RR (.ok .next) s')
    (nDI : D ≠ It) (nCI : Cd ≠ It) (nCD : Cd ≠ D) (fIt : s.heap.get? It = none) (fD : s.heap.get? D = none) (fCd : s.heap.get? Cd = none) (nF : ∀ a, s.heap.get? a = none → a ∉ cx.F)
    (h0 : CompI base cx Cd D It f w s nn ds H' nn s₀) :
    codeAny (model prog wo) cx.A (.compLoop (.ListComp elt [⟨.Name xs px, iter, [], 0⟩] cs pos) 0 (.ref It) (.ref D) (cx.comp cs Cd D It).env) RR s₀ := by
  have C' := S.cxOk C (Cd := Cd) (D := D) (It := It)
  refine codeAny_compLoop_list (CompI base cx Cd D It f w s nn ds H') (fun left s₃ hI => ?_) nn h0
  obtain ⟨w₃, H₃, ds₁, ds₂, vs, cap, i1, i2, i3, k3, i5, i6, i7, i8, ⟨m₃, i9⟩, i10⟩ := hI
  have o3 := st.step C k3
  by_cases q : left = 0
  · subst q
    rw [rngI_nil (by lia)] at i2
    cases i2
    rw [List.append_nil] at i3
    subst i3
    refine wpAny_pyNext_range_end C.hh i6 (by lia) fun h' he => ?_
    obtain ⟨oD, oI⟩ := (⟨i5 D (by simp), i5 It (by simp)⟩ : _ ∧ _)
    exact hRR w₃ _ vs cap m₃ (i9.extBut he nCI) (he _ _ nDI i7) i8 (k3.extBut he fIt oI.1 oI.2 st.fr (tk := s₃.toks)) oD.1 (i5 Cd (by simp)).1 (i5 Cd (by simp)).2
  · rw [rngI_cons (by lia)] at i2
    unfold compL at i2
    split at i2
    · rename_i v H₄ hfv
      obtain ⟨d, hd, i2⟩ := Option.bind_eq_some_iff.mp i2
      obtain ⟨⟨ds₃, H₅⟩, hc, he⟩ := Option.map_eq_some_iff.mp i2
      cases he
      have hv' : v = .d d := by cases v <;> first | (cases hd; rfl) | cases hd
      subst hv'
      refine wpAny_pyNext_range_item i6 (by lia) fun h₅ hit₅ hs₅ => ?_
      dsimp only
      have k5 := k3.extBut hs₅.extBut fIt (i5 It (by simp)).1 (i5 It (by simp)).2 st.fr (tk := s₃.toks + 1)
      refine wpAny_assign_Name (wpAny_storeName_local (lookup_relabel_local S.loc) (i9.sameBut hs₅ nCI) (fun h₆ hn₆ hs₆ => ?_) (by simp [Cx.comp, compEnvC, relabel, S.kind]))
      have k6 := k5.extBut hs₆.extBut fCd (i5 Cd (by simp)).1 (i5 Cd (by simp)).2 st.fr (tk := s₃.toks + 1 + 1)
      have o6 := st.step C k6
      have hex : ∀ a ∈ [It, D, Cd], ∃ o, h₆.get? a = some o := fun a m => by
        simp only [List.mem_cons, List.not_mem_nil, or_false] at m
        rcases m with rfl | rfl | rfl
        · exact ⟨_, hs₆.extBut _ _ nCI.symm hit₅⟩
        · exact ⟨_, hs₆.extBut _ _ nCD.symm (hs₅.extBut _ _ nDI i7)⟩
        · exact ns_some hn₆
      have in6 := S.inner C o6 hex i5 (S.loRelX C o6.lo hn₆ (if_pos rfl) (.d (.int (nn - left) s₃.toks)))
      refine helt Cd D It (.d (.int (nn - left))) H₃ w₃ _ _ _ in6 (fun a H₆ e vv w₇ s₇ k7 hv => ?_) (fun t H e => by rw [hfv] at e; cases e) (by rw [hfv]; intro z; cases z)
      rw [hfv] at e; cases e
      have o7 := in6.step C' k7
      have nfD : D ∉ cx.F := nF D fD
      have hD7 := k7.kept.same D _ (hs₆.extBut _ _ nCD.symm (hs₅.extBut _ _ nDI i7)) (fun m => (i5 D (by simp)).1 (by simpa using m)) nfD
      have hI7 := k7.kept.same It _ (hs₆.extBut _ _ nCI.symm hit₅) (fun m => (i5 It (by simp)).1 (by simpa using m)) (nF It fIt)
      have hC7 := k7.kept.ns (a := Cd) (fun m => (i5 Cd (by simp)).1 (by simpa using m)) hn₆
      have sub : ∀ a ∈ cx.R, a ∈ It :: D :: Cd :: cx.R := fun a m => .tail _ (.tail _ (.tail _ m))
      have k7' : Step base cx.R cx.F [] w₃ _ w₇ H₄ s₇ := ⟨k7.grow, k7.kept, k7.hp.sub sub, k7.same⟩
      have k67 := k6.trans k7'
      have off7 : ∀ a ∈ [It, D, Cd], a ∉ w₇.ρ ∧ ∀ p ∈ w₇.pool, p.1 ≠ a := fun a m => by
        have mm : a ∈ It :: D :: Cd :: cx.R := by
          simp only [List.mem_cons, List.not_mem_nil, or_false] at m
          rcases m with rfl | rfl | rfl <;> simp
        exact ⟨fun z => k7.hp.offR a z mm, fun p m z => k7.hp.offP p m (z ▸ mm)⟩
      refine wpAny_list_append_plain ⟨cap, hD7⟩ (fun h₈ hp₈ hs₈ => ?_) (by rw [sizeLine_eq]; have := i8.length; simp; lia)
      obtain ⟨cap', hp₈⟩ := hp₈
      have k8 := k67.extBut hs₈.extBut fD (off7 D (by simp)).1 (off7 D (by simp)).2 st.fr (tk := s₇.toks)
      refine ⟨left - 1, by lia, w₇, H₄, ds₁ ++ [d], ds₃, vs ++ [vv], cap', by lia, ?_, by simp [i3], k8, off7, ?_, by rw [hp₈]; simp, ?_, ⟨_, hC7.sameBut hs₈ nCD⟩, by simp; lia⟩
      · rw [show (nn : Int) - ((left - 1 : Nat) : Int) = nn - left + 1 by lia]; exact hc
      · have := hs₈.extBut _ _ nDI.symm hI7
        rw [show (nn : Int) - ((left - 1 : Nat) : Int) = nn - left + 1 by lia, show (((left - 1 : Nat) : Int)) = (left : Int) - 1 by lia]
        exact this
      · have hvv : DIn w₇.pool vv d := by cases hv; assumption
        exact (i8.mono fun y m => k7.grow.pool y m).append (.cons hvv .nil)
    · cases i2
theorem comp_block {elt iter : Expr} {x : Nat} {xs : Str} {fv : List Nat} {px pos : Pos} {cs : Scope} {f : DV → Hp → Option (Rx DV)} {nn : Nat} {t : Tok} {ds : List PyData} {H' : Hp} {s : Shared} {E : Value → Shared → Prop} {RR : Value → Addr → Result → Shared → Prop}
    (C : CxOk base cx n) (S : CompScope cx cs x xs fv) (st : StE base cx lo H w s) (hz : nn ≤ 4096)
    (helt : ∀ Cd D It v H w, SndW base (cx.comp cs Cd D It) (VRel base) (fun Q E s => wpAny (model prog wo) cx.A (eval elt (cx.comp cs Cd D It).env) Q E s) ((keepOnly fv lo).set x (some v)) H (f v H) w)
    (hf : compL f (rngI 0 nn) H = some (ds, H'))
    (hRR : ∀ D Cd w' s' vs cap m, s.heap.get? D = none → s.heap.get? Cd = none → D ≠ Cd → s'.heap.Ns Cd m → s'.heap.get? D = some (listOf (List.toArray vs) cap) → DAll w'.pool vs ds → Step base cx.R cx.F [] w s w' H' s' →
      D ∉ w'.ρ → Cd ∉ w'.ρ → (∀ p ∈ w'.pool, p.1 ≠ Cd) → RR (.ref D) Cd (.ok .next) s') :
    wpAny (model prog wo) cx.A (call (.type "range") [.int nn t]) (fun xv s₁ => wpAny (model prog wo) cx.A (pyIter xv) (fun it s₂ => wpAny (model prog wo) cx.A (newList []) (fun acc s₃ =>
      wpAny (model prog wo) cx.A (newFunctionEnv cs cx.env.globals (closOf cs.names cx.env.cells) [] cx.env.qual none .none (some cx.env)) (fun cenv s₄ =>
        codeAny (model prog wo) cx.A (.compStart (.ListComp elt [⟨.Name xs px, iter, [], 0⟩] cs pos) 0 it acc { cenv with scope := relabel cs cx.env }) (RR acc cenv.locals) s₄) E s₃) E s₂) E s₁) E s := by
  obtain ⟨m₀, nw, F, N, fs, kp⟩ := st.frn C
  refine range1_rows F N fun h₁ tk t₁ u₁ v₁ hr _ _ hk₁ => ?_
  refine wpAny_pyIter_range hr (small_one (by lia) (by lia) (by lia) (by lia)) ?_
  rw [size_one]
  refine wpAny_newObj_type (wpAny_newFunctionEnv S.cell (by intro y hy; simp at hy) (fun h₄ hns₄ hsb₄ => ?_) S.kind)
  dsimp only at hns₄ hsb₄ ⊢
  generalize eIt : h₁.objs.size = It at *
  generalize eh2 : h₁.push { cls := .type "range_iterator", data := .fields #[rawInt 0, rawInt (((((nn : Int)) - 0).toNat : Nat) : Int), rawInt 1] } = h₂ at *
  generalize eD : h₂.objs.size = D at *
  generalize eh3 : h₂.push { cls := .type "list", dict := none, data := .seq ([] : List Value).toArray } = h₃ at *
  generalize eCd : h₃.objs.size = Cd at *
  have z2 : D = It + 1 := by rw [← eD, ← eh2, Heap.size_push, eIt]
  have z3 : Cd = D + 1 := by rw [← eCd, ← eh3, Heap.size_push, eD]
  have nDI : D ≠ It := by lia
  have nCI : Cd ≠ It := by lia
  have nCD : Cd ≠ D := by lia
  have fresh : ∀ a, It ≤ a → s.heap.get? a = none := fun a ha => (Kept.of_all hk₁ (ρ := []) (F := [])).none (gets_none (by rw [eIt]; exact ha))
  have k12 : ∀ b o, h₁.get? b = some o → h₂.get? b = some o := fun b o e => eh2 ▸ Heap.get?_push_of_some _ e
  have k23 : ∀ b o, h₂.get? b = some o → h₃.get? b = some o := fun b o e => eh3 ▸ Heap.get?_push_of_some _ e
  have k34 : ∀ b o, h₃.get? b = some o → h₄.get? b = some o := fun b o e => hsb₄.extBut b o (fun q => by have := Heap.lt_size e; rw [eCd] at this; rw [q] at this; exact Nat.lt_irrefl _ this) (Heap.get?_push_of_some _ e)
  have k04 : ∀ b o, s.heap.get? b = some o → h₄.get? b = some o := fun b o e => k34 _ _ (k23 _ _ (k12 _ _ (hk₁ b o e)))
  have hIt : h₄.get? It = some { cls := .type "range_iterator", dict := none, data := .fields #[rawInt 0, rawInt (((((nn : Int)) - 0).toNat : Nat) : Int), rawInt 1], slots := #[] } := k34 _ _ (k23 _ _ (by rw [← eh2, ← eIt]; exact Heap.get?_push_size _ rfl))
  have hD : h₄.get? D = some (listOf [].toArray 0) := k34 _ _ (by rw [← eh3, ← eD]; exact Heap.get?_push_size _ rfl)
  have fIt := fresh It (Nat.le_refl _)
  have fD := fresh D (by lia)
  have fCd := fresh Cd (by lia)
  have notIn : ∀ a, s.heap.get? a = none → a ∉ w.ρ ∧ (∀ p ∈ w.pool, p.1 ≠ a) ∧ a ∉ cx.R ∧ base.get? a = none := fun a e => by
    refine ⟨fun m => ?_, fun p m q => ?_, fun m => ?_, ?_⟩
    · obtain ⟨o, e'⟩ := st.hp.there a m; rw [e] at e'; cases e'
    · have := st.hp.pool p m; rw [q, e] at this; cases this
    · obtain ⟨o, e'⟩ := st.rin a m; rw [e] at e'; cases e'
    · cases q : base.get? a with
      | none => rfl
      | some o => have := st.stays a o q; rw [e] at this; cases this
  have nF : ∀ a, s.heap.get? a = none → a ∉ cx.F := fun a e m => (notIn a e).2.2.1 (C.FR a m)
  have loop : codeAny (model prog wo) cx.A (.compLoop (.ListComp elt [⟨.Name xs px, iter, [], 0⟩] cs pos) 0 (.ref It) (.ref D) (cx.comp cs Cd D It).env) (RR (.ref D) Cd) { s with heap := h₄, toks := tk + ([] : List (Str × Value)).length } := by
    refine comp_loop C S st hz helt (fun w' s' vs cap m => hRR D Cd w' s' vs cap m fD fCd nCD.symm) nDI nCI nCD fIt fD fCd nF ?_
    · refine ⟨w, H, [], ds, [], 0, Int.le_refl _, by rw [Int.sub_self]; exact hf, rfl, step_of_kept st.hp (.of_all k04) C.FR, fun a m => ?_, ?_, hD, .nil, ⟨_, hns₄⟩, by simp⟩
      · simp only [List.mem_cons, List.not_mem_nil, or_false] at m
        rcases m with rfl | rfl | rfl
        · exact ⟨(notIn _ fIt).1, (notIn _ fIt).2.1⟩
        · exact ⟨(notIn _ fD).1, (notIn _ fD).2.1⟩
        · exact ⟨(notIn _ fCd).1, (notIn _ fCd).2.1⟩
      · rw [Int.sub_self]
        have e : ((((nn : Int) - 0).toNat : Nat) : Int) = nn := by lia
        rw [e] at hIt; exact hIt
  exact codeAny_compStart_list loop (wpAny_pyIter_rangeiter hIt loop)
end
end Mine
end

section
set_option autoImplicit false
set_option maxRecDepth 100000
namespace Mine

section
variable {prog : Program} {wo : World} {K : Frag} {base : Heap} {p : Program} {loose : List Str} {mean : ExcName → Option Value} {mg mb : Str → Option Value} {cx : Cx} {n : Nat} {lo : Lo} {H : Hp} {w : Wd} {fa : Fn → Addr}

noncomputable def isBT : Value → Bool
  | .builtin _ => true
  | .type _ => true
  | _ => false
theorem cw1 {M : Model} {A : Around} {Q : Value → Shared → Prop} {E : Value → Shared → Prop} {s : Shared} {pos : Pos} {fn : Value} {first : List Value} {t : Sem Value} (hfn : isBT fn = true)
    (h : wpAny M A t (fun v s₁ => wpAny M A (call fn (first ++ [v])) Q E s₁) E s) : wpAny M A (callWith pos fn first [(false, t)] []) Q E s := by
  match fn, hfn with
  | .builtin id, _ => exact Calls.callWith_builtin rfl (Calls.evalArgs_plain (Calls.spliced_cons (wpAny_mono h (fun _ _ h₁ => Calls.spliced_nil h₁) fun _ _ e => e)))
  | .type T, _ => exact PyProof.Rows.callWith_type rfl (Calls.evalArgs_plain (Calls.spliced_cons (wpAny_mono h (fun _ _ h₁ => Calls.spliced_nil h₁) fun _ _ e => e)))
theorem cw2 {M : Model} {A : Around} {Q : Value → Shared → Prop} {E : Value → Shared → Prop} {s : Shared} {pos : Pos} {fn : Value} {t₁ t₂ : Sem Value} (hfn : isBT fn = true)
    (h : wpAny M A t₁ (fun v s₁ => wpAny M A t₂ (fun u s₂ => wpAny M A (call fn [v, u]) Q E s₂) E s₁) E s) : wpAny M A (callWith pos fn [] [(false, t₁), (false, t₂)] []) Q E s := by
  match fn, hfn with
  | .builtin id, _ => exact Calls.callWith_builtin rfl (Calls.evalArgs_plain (Calls.spliced_cons (wpAny_mono h (fun _ _ h₁ => Calls.spliced_cons (wpAny_mono h₁ (fun _ _ h₂ => Calls.spliced_nil h₂) fun _ _ e => e)) fun _ _ e => e)))
  | .type T, _ => exact PyProof.Rows.callWith_type rfl (Calls.evalArgs_plain (Calls.spliced_cons (wpAny_mono h (fun _ _ h₁ => Calls.spliced_cons (wpAny_mono h₁ (fun _ _ h₂ => Calls.spliced_nil h₂) fun _ _ e => e)) fun _ _ e => e)))

/-- the call of a boot name -/
structure BootName (K : Frag) (cx : Cx) (y : Str) (fn : Value) : Prop where
  kind : cx.env.kindOf y = some .globalImplicit
  free : nsIn K mainGlobals y = some none
  nm : y ≠ "__name__"
  boot : bootBuiltins y = some fn
  dbg : (y == ("__debug__" : Str)) = false
  bt : isBT fn = true

theorem wp_call1 {s : Shared} {y : Str} {fn : Value} {e : Expr} {np pos : Pos} {Q E} (C : CxOk base cx n) (G : Gd K base p loose mean mg mb) (st : StE base cx lo H w s) (b : BootName K cx y fn) (hs : notStar e = true)
    (h : wpAny (model prog wo) cx.A (eval e cx.env) (fun v s₁ => wpAny (model prog wo) cx.A (call fn [v]) Q E s₁) E s) : wpAny (model prog wo) cx.A (eval (.Call (.Name y np) [e] [] pos) cx.env) Q E s :=
  Call_Name1 (wp_boot C G st b.kind b.free b.nm b.boot b.dbg (cw1 b.bt h)) (star_cons hs)
theorem wp_call2 {s : Shared} {y : Str} {fn : Value} {e₁ e₂ : Expr} {np pos : Pos} {Q E} (C : CxOk base cx n) (G : Gd K base p loose mean mg mb) (st : StE base cx lo H w s) (b : BootName K cx y fn) (hs₁ : notStar e₁ = true) (hs₂ : notStar e₂ = true)
    (h : wpAny (model prog wo) cx.A (eval e₁ cx.env) (fun v s₁ => wpAny (model prog wo) cx.A (eval e₂ cx.env) (fun u s₂ => wpAny (model prog wo) cx.A (call fn [v, u]) Q E s₂) E s₁) E s) : wpAny (model prog wo) cx.A (eval (.Call (.Name y np) [e₁, e₂] [] pos) cx.env) Q E s :=
  Call_Name2 (wp_boot C G st b.kind b.free b.nm b.boot b.dbg (cw2 b.bt h)) (by rw [star_cons hs₁, star_cons hs₂]; rfl)

/-- the tree of an expression -/
noncomputable abbrev ET (prog : Program) (wo : World) (cx : Cx) (e : Expr) : PT Value := fun Q E s => wpAny (model prog wo) cx.A (eval e cx.env) Q E s

theorem sndE_len {y : Str} {e : Expr} {np pos : Pos} {r : Option (Rx DV)} (C : CxOk base cx n) (G : Gd K base p loose mean mg mb) (b : BootName K cx y (.builtin "len")) (hs : notStar e = true) (h : SndW base cx (VRel base) (ET prog wo cx e) lo H r w) :
    SndW base cx (VRel base) (ET prog wo cx (.Call (.Name y np) [e] [] pos)) lo H (bnd r fun x H₁ => up ((lenD H₁ x).map fun (n : Nat) => .d (.int (n : Int))) H₁) w :=
  SndW.of (SndW.bnd (f := fun v Q E s => wpAny (model prog wo) cx.A (call (.builtin "len") [v]) Q E s) C h fun _ _ _ _ _ _ hv => snd_len hv) fun _ _ _ st h => wp_call1 C G st b hs h
theorem sndE_tupOf {y : Str} {e : Expr} {np pos : Pos} {r : Option (Rx DV)} (C : CxOk base cx n) (G : Gd K base p loose mean mg mb) (b : BootName K cx y (.type "tuple")) (hs : notStar e = true) (h : SndW base cx (VRel base) (ET prog wo cx e) lo H r w) :
    SndW base cx (VRel base) (ET prog wo cx (.Call (.Name y np) [e] [] pos)) lo H (bnd r fun x H₁ => match x with
      | .d (.list ds) => if ds.length ≤ 4096 then some (.ok (.d (.tuple ds)) H₁) else .none
      | _ => .none) w := by
  refine SndW.of (SndW.bnd (f := fun v Q E s => wpAny (model prog wo) cx.A (call (.type "tuple") [v]) Q E s) C h fun x H₁ v w' _ _ hv => ?_) fun _ _ _ st h => wp_call1 C G st b hs h
  split
  · split
    · rename_i q; exact snd_tupOf C hv q
    · exact fun _ _ _ _ _ _ ne => absurd rfl ne
  · exact fun _ _ _ _ _ _ ne => absurd rfl ne
theorem sndE_min2 {y : Str} {e₁ e₂ : Expr} {np pos : Pos} {r : Option (Rx DV)} {k : Hp → Option (Rx DV)} (C : CxOk base cx n) (G : Gd K base p loose mean mg mb) (b : BootName K cx y (.builtin "min")) (hs₁ : notStar e₁ = true) (hs₂ : notStar e₂ = true)
    (h₁ : SndW base cx (VRel base) (ET prog wo cx e₁) lo H r w) (h₂ : ∀ H w, SndW base cx (VRel base) (ET prog wo cx e₂) lo H (k H) w) :
    SndW base cx (VRel base) (ET prog wo cx (.Call (.Name y np) [e₁, e₂] [] pos)) lo H (bnd r fun x H₁ => bnd (k H₁) fun y H₂ => up ((intOf x).bind fun x => (intOf y).map fun y => .d (.int (if y < x then y else x))) H₂) w := by
  refine SndW.of (SndW.bnd (f := fun v Q E s => wpAny (model prog wo) cx.A (eval e₂ cx.env) (fun u s₂ => wpAny (model prog wo) cx.A (call (.builtin "min") [v, u]) Q E s₂) E s) C h₁ fun x H₁ v w' _ _ hv => ?_) fun _ _ _ st h => wp_call2 C G st b hs₁ hs₂ h
  exact SndW.bnd (f := fun u Q E s => wpAny (model prog wo) cx.A (call (.builtin "min") [v, u]) Q E s) C (h₂ H₁ w') fun y H₂ u w'' _ g hu => snd_min2 C (hv.ext g) hu
/-- list(range(a, b)) -/
theorem sndE_lrange {y z : Str} {e₁ e₂ : Expr} {np pos np' pos' : Pos} {r : Option (Rx DV)} {k : Hp → Option (Rx DV)} (C : CxOk base cx n) (G : Gd K base p loose mean mg mb) (b : BootName K cx y (.type "list")) (b' : BootName K cx z (.type "range")) (hs₁ : notStar e₁ = true) (hs₂ : notStar e₂ = true)
    (h₁ : SndW base cx (VRel base) (ET prog wo cx e₁) lo H r w) (h₂ : ∀ H w, SndW base cx (VRel base) (ET prog wo cx e₂) lo H (k H) w) :
    SndW base cx (VRel base) (ET prog wo cx (.Call (.Name y np) [.Call (.Name z np') [e₁, e₂] [] pos'] [] pos)) lo H
      (bnd r fun x H₁ => bnd (k H₁) fun y H₂ => up ((intOf x).bind fun x => (intOf y).bind fun y => if small x && small y then some (.d (.list ((rngI x y).map .int))) else .none) H₂) w := by
  refine SndW.of (SndW.bnd (f := fun v Q E s => wpAny (model prog wo) cx.A (eval e₂ cx.env) (fun u s₂ => wpAny (model prog wo) cx.A (call (.type "range") [v, u]) (fun r s₁ => wpAny (model prog wo) cx.A (call (.type "list") [r]) Q E s₁) E s₂) E s) C h₁ fun x H₁ v w' _ _ hv => ?_)
    fun _ _ _ st h => wp_call1 C G st b rfl (wp_call2 C G st b' hs₁ hs₂ h)
  exact SndW.bnd (f := fun u Q E s => wpAny (model prog wo) cx.A (call (.type "range") [v, u]) (fun r s₁ => wpAny (model prog wo) cx.A (call (.type "list") [r]) Q E s₁) E s) C (h₂ H₁ w') fun y H₂ u w'' _ g hu => snd_lrange C (hv.ext g) hu

/-- a method of a list or a str with one argument -/
theorem wp_meth1 {s : Shared} {o e : Expr} {name : Str} {apos pos : Pos} {Q E} (hb : ∀ whole, attributeBase o name cx.env whole = whole) (hs : notStar e = true) (hl : (apos.endLine == pos.line) = true)
    (h : wpAny (model prog wo) cx.A (eval o cx.env) (fun ov s₁ => wpAny (model prog wo) cx.A (getMethod ov name (do return (← importBound o cx.env).getD true)) (fun fx s₂ => isBT fx.1 = true ∧ wpAny (model prog wo) cx.A (eval e cx.env) (fun v s₃ => wpAny (model prog wo) cx.A (call fx.1 (fx.2 ++ [v])) Q E s₃) E s₂) E s₁) E s) :
    wpAny (model prog wo) cx.A (eval (.Call (.Attribute o name apos) [e] [] pos) cx.env) Q E s := by
  refine MethodCall_ (wpAny_mono h (fun ov s₁ h => wpAny_mono h (fun fx s₂ h => ?_) fun _ _ e => e) fun _ _ e => e) (method_he hb (star_form (by simp [hs]) (by simp)) hl)
  rw [star_cons hs]
  exact cw1 h.1 h.2
theorem wp_meth0 {s : Shared} {o : Expr} {name : Str} {apos pos : Pos} {Q E} (hb : ∀ whole, attributeBase o name cx.env whole = whole) (hl : (apos.endLine == pos.line) = true)
    (h : wpAny (model prog wo) cx.A (eval o cx.env) (fun ov s₁ => wpAny (model prog wo) cx.A (getMethod ov name (do return (← importBound o cx.env).getD true)) (fun fx s₂ => (∃ id, fx.1 = .builtin id) ∧ wpAny (model prog wo) cx.A (call fx.1 fx.2) Q E s₂) E s₁) E s) :
    wpAny (model prog wo) cx.A (eval (.Call (.Attribute o name apos) [] [] pos) cx.env) Q E s := by
  refine MethodCall_ (wpAny_mono h (fun ov s₁ h => wpAny_mono h (fun fx s₂ h => ?_) fun _ _ e => e) fun _ _ e => e) (method_he hb (star_form (by simp) (by simp)) hl)
  obtain ⟨⟨id, e⟩, h⟩ := h
  rw [e] at h ⊢
  exact callWith_method0 h

theorem sndE_join {x : Str} {k' : Nat} {e : Expr} {cp apos pos : Pos} {r : Option (Rx DV)} (C : CxOk base cx n) (hs : notStar e = true) (hl : (apos.endLine == pos.line) = true) (h : SndW base cx (VRel base) (ET prog wo cx e) lo H r w) :
    SndW base cx (VRel base) (ET prog wo cx (.Call (.Attribute (.Constant (.str x) k' cp) (Str.ofString "join") apos) [e] [] pos)) lo H (bnd r fun (y : DV) H₂ => match y with
      | .d (.list ds) => if x.length ≤ 16 ∧ ds.length ≤ 4096 then (strsOf ds).bind fun l => if l.all (fun s => decide (s.length ≤ 16)) then some (.ok (.d (.str (Txt.join x l))) H₂) else .none else .none
      | _ => .none) w := by
  intro s Q E st ok er ne
  refine wp_meth1 (fun _ => rfl) hs hl (wpAny_Constant_str ?_)
  refine GM.join ⟨rfl, ?_⟩
  have st' : StE base cx lo H w { s with toks := s.toks + 1 } := ⟨st.hp, st.rin, st.stays, st.fr, st.lo⟩
  refine SndW.bnd (f := fun u Q E s₁ => wpAny (model prog wo) cx.A (call (.builtin "str.join") [.str x s.toks, u]) Q E s₁) C h (fun y H₂ u w'' _ g hu => ?_) _ Q E st' (fun a H' e v w' s' kk hv => ok a H' e v w' s' ?_ hv) (fun t H' e v w' s' f => er t H' e v w' s' ?_) ne
  · split
    · exact snd_join (.d (.str _ _)) hu
    · exact fun _ _ _ _ _ _ ne => absurd rfl ne
  · exact (Step.here (tk := s.toks + 1) st.hp).trans kk
  · exact f.pre (Step.here (tk := s.toks + 1) st.hp)

theorem sndE_index {o e : Expr} {apos pos : Pos} {r : Option (Rx DV)} {k : Hp → Option (Rx DV)} (C : CxOk base cx n) (hb : ∀ whole, attributeBase o (Str.ofString "index") cx.env whole = whole) (hs : notStar e = true) (hl : (apos.endLine == pos.line) = true) (h : SndW base cx (VRel base) (ET prog wo cx o) lo H r w)
    (h₂ : ∀ H w, SndW base cx (VRel base) (ET prog wo cx e) lo H (k H) w) :
    SndW base cx (VRel base) (ET prog wo cx (.Call (.Attribute o (Str.ofString "index") apos) [e] [] pos)) lo H (bnd r fun (x : DV) H₁ => match x with
      | .d (.list ds) => bnd (k H₁) fun (y : DV) H₂ => match y with
        | .d a => if ds.length ≤ 4096 then if okD a && ds.all okD then up ((idxOf ds a).map fun (n : Nat) => .d (.int (n : Int))) H₂ else .none else .none
        | _ => .none
      | _ => .none) w := by
  refine SndW.of (SndW.bnd (f := fun ov Q E s => wpAny (model prog wo) cx.A (getMethod ov (Str.ofString "index") (do return (← importBound o cx.env).getD true)) (fun fx s₂ => isBT fx.1 = true ∧ wpAny (model prog wo) cx.A (eval e cx.env) (fun v s₃ => wpAny (model prog wo) cx.A (call fx.1 (fx.2 ++ [v])) Q E s₃) E s₂) E s) C h fun x H₁ v w' _ _ hv => ?_) fun _ _ _ _ h => wp_meth1 hb hs hl h
  intro s Q E st ok er ne
  split at ne
  · have hv' := hv
    replace hv := hv.d_inv
    obtain ⟨_, _, _, _, rfl, m, c, e, rr⟩ := hv.list_inv
    refine getMethod_list_of PySem.F.slot_list_index PySem.F.type_list_index ⟨_, st.hp.pool _ m, c, _, e.1⟩ ⟨_, st.hp.pool _ m, e.2.1⟩ ⟨rfl, ?_⟩
    refine SndW.bnd (f := fun u Q E s₁ => wpAny (model prog wo) cx.A (call (.builtin "list.index") [.ref _, u]) Q E s₁) C (h₂ H₁ w') (fun y H₂ u w'' _ g hu => ?_) s Q E st ok er ne
    split
    · split
      · rename_i q; exact snd_index C (hv'.ext g) hu q
      · exact fun _ _ _ _ _ _ ne => absurd rfl ne
    · exact fun _ _ _ _ _ _ ne => absurd rfl ne
  · exact absurd rfl ne
end
end Mine
end

section
set_option autoImplicit false
set_option maxRecDepth 100000
namespace Mine

section
variable {prog : Program} {wo : World} {K : Frag} {base : Heap} {p : Program} {loose : List Str} {mean : ExcName → Option Value} {mg mb : Str → Option Value} {cx : Cx} {n : Nat} {lo : Lo} {H : Hp} {w : Wd} {fa : Fn → Addr}

theorem snd_stuck {α β : Type} {V : Wd → β → α → Prop} {T : PT β} : SndW base cx V T lo H .none w := fun _ _ _ _ _ _ ne => absurd rfl ne
theorem datOf_some {v : DV} {x : PyData} (h : datOf v = some x) : v = .d x := by cases v <;> first | (cases h; rfl) | cases h
theorem VRel.dIn {v : Value} {x : PyData} (h : VRel base w v (.d x)) : DIn w.pool v x := by cases h; assumption

theorem sndE_bin {o : Op} {e₁ e₂ : Expr} {pos : Pos} {r : Option (Rx DV)} {k : Hp → Option (Rx DV)} (C : CxOk base cx n)
    (h₁ : SndW base cx (VRel base) (ET prog wo cx e₁) lo H r w) (h₂ : ∀ H w, SndW base cx (VRel base) (ET prog wo cx e₂) lo H (k H) w) :
    SndW base cx (VRel base) (ET prog wo cx (.BinOp e₁ (opOf o) e₂ pos)) lo H (bnd r fun x H₁ => bnd (k H₁) fun y H₂ => up ((datOf x).bind fun x => (datOf y).bind fun y => (binD o x y).map .d) H₂) w := by
  refine SndW.of (SndW.bnd (f := fun v Q E s => wpAny (model prog wo) cx.A (eval e₂ cx.env) (fun u s₂ => wpAny (model prog wo) cx.A (binaryOp (opOf o) v u) Q E s₂) E s) C h₁ fun x H₁ v w' _ _ hv => ?_) fun _ _ _ _ h => wpAny_BinOp h
  refine SndW.bnd (f := fun u Q E s => wpAny (model prog wo) cx.A (binaryOp (opOf o) v u) Q E s) C (h₂ H₁ w') fun y H₂ u w'' _ g hu => ?_
  cases hx : datOf x with
  | none => exact snd_stuck
  | some x' =>
    cases hy : datOf y with
    | none => exact snd_stuck
    | some y' =>
      obtain rfl := datOf_some hx
      obtain rfl := datOf_some hy
      exact snd_bin C (hv.ext g).dIn hu.dIn

theorem sndE_cmp {c : Cm} {e₁ e₂ : Expr} {pos : Pos} {r : Option (Rx DV)} {k : Hp → Option (Rx DV)} (C : CxOk base cx n) (hm : behindInMarks (cmOf c) e₂ = false)
    (h₁ : SndW base cx (VRel base) (ET prog wo cx e₁) lo H r w) (h₂ : ∀ H w, SndW base cx (VRel base) (ET prog wo cx e₂) lo H (k H) w) :
    SndW base cx (VRel base) (ET prog wo cx (.Compare e₁ [cmOf c] [e₂] pos)) lo H (bnd r fun x H₁ => bnd (k H₁) fun y H₂ => up ((datOf x).bind fun x => (datOf y).bind fun y => (cmpD c x y).map fun b => .d (.bool b)) H₂) w := by
  refine SndW.of (SndW.bnd (f := fun v Q E s => wpAny (model prog wo) cx.A (eval e₂ cx.env) (fun u s₂ => wpAny (model prog wo) cx.A (compareOp (cmOf c) v u) Q E s₂) E s) C h₁ fun x H₁ v w' _ _ hv => ?_) fun _ _ _ _ h => wpAny_Compare1 h hm
  refine SndW.bnd (f := fun u Q E s => wpAny (model prog wo) cx.A (compareOp (cmOf c) v u) Q E s) C (h₂ H₁ w') fun y H₂ u w'' _ g hu => ?_
  cases hx : datOf x with
  | none => exact snd_stuck
  | some x' =>
    cases hy : datOf y with
    | none => exact snd_stuck
    | some y' =>
      obtain rfl := datOf_some hx
      obtain rfl := datOf_some hy
      exact snd_cmpV C (hv.ext g).dIn hu.dIn

theorem sndE_sub {e₁ e₂ : Expr} {pos : Pos} {r : Option (Rx DV)} {k : Hp → Option (Rx DV)} (C : CxOk base cx n) (hs : ∀ o i, subscripted e₂ false o i = operate [o, i] (getItem o i))
    (h₁ : SndW base cx (VRel base) (ET prog wo cx e₁) lo H r w) (h₂ : ∀ H w, SndW base cx (VRel base) (ET prog wo cx e₂) lo H (k H) w) :
    SndW base cx (VRel base) (ET prog wo cx (.Subscript e₁ e₂ pos)) lo H (bnd r fun x H₁ => bnd (k H₁) fun y H₂ => up ((intOf y).bind fun k => subD H₂ x k) H₂) w := by
  refine SndW.of (SndW.bnd (f := fun v Q E s => wpAny (model prog wo) cx.A (eval e₂ cx.env) (fun u s₂ => wpAny (model prog wo) cx.A (subscriptTail e₁ e₂ v u) Q E s₂) E s) C h₁ fun x H₁ v w' _ _ hv => ?_) fun _ _ _ _ h => Subscript_ h
  exact SndW.bnd (f := fun u Q E s => wpAny (model prog wo) cx.A (subscriptTail e₁ e₂ v u) Q E s) C (h₂ H₁ w') fun y H₂ u w'' _ g hu => snd_sub (hv.ext g) hu hs

theorem sndE_slice {e₁ e₂ e₃ : Expr} {pos pos' : Pos} {r : Option (Rx DV)} {k k' : Hp → Option (Rx DV)} (C : CxOk base cx n)
    (h₁ : SndW base cx (VRel base) (ET prog wo cx e₁) lo H r w) (h₂ : ∀ H w, SndW base cx (VRel base) (ET prog wo cx e₂) lo H (k H) w) (h₃ : ∀ H w, SndW base cx (VRel base) (ET prog wo cx e₃) lo H (k' H) w) :
    SndW base cx (VRel base) (ET prog wo cx (.Subscript e₁ (.Slice (some e₂) (some e₃) none pos') pos)) lo H
      (bnd r fun x H₁ => bnd (k H₁) fun y H₂ => bnd (k' H₂) fun z H₃ => up ((natOf y).bind fun a => (natOf z).bind fun b => sliceD H₃ x a b) H₃) w := by
  let sl : Expr := .Slice (some e₂) (some e₃) none pos'
  refine SndW.of (SndW.bnd (f := fun v Q E s => wpAny (model prog wo) cx.A (eval e₂ cx.env) (fun l s₁ => wpAny (model prog wo) cx.A (eval e₃ cx.env) (fun u s₂ => wpAny (model prog wo) cx.A (subscriptTail e₁ sl v (.ref s₂.heap.objs.size)) Q E { s₂ with heap := s₂.heap.push (slObj l u .none) }) E s₁) E s) C h₁ fun x H₁ v w' _ _ hv => ?_)
    fun _ _ _ _ h => Subscript_ (wpAny_mono h (fun v s₁ h => wpAny_Slice (wpAny_mono h (fun l s₂ h => wpAny_mono h (fun u s₃ h => evalPart_none_step h) fun _ _ e => e) fun _ _ e => e)) fun _ _ e => e)
  refine SndW.bnd (f := fun l Q E s => wpAny (model prog wo) cx.A (eval e₃ cx.env) (fun u s₂ => wpAny (model prog wo) cx.A (subscriptTail e₁ sl v (.ref s₂.heap.objs.size)) Q E { s₂ with heap := s₂.heap.push (slObj l u .none) }) E s) C (h₂ H₁ w') fun y H₂ l w'' _ g hl => ?_
  exact SndW.bnd (f := fun u Q E s => wpAny (model prog wo) cx.A (subscriptTail e₁ sl v (.ref s.heap.objs.size)) Q E { s with heap := s.heap.push (slObj l u .none) }) C (h₃ H₂ w'') fun z H₃ u w3 _ g' hu => snd_slice C ((hv.ext g).ext g') (hl.ext g') hu
theorem sndE_upto {e₁ e₃ : Expr} {pos pos' : Pos} {r : Option (Rx DV)} {k' : Hp → Option (Rx DV)} (C : CxOk base cx n)
    (h₁ : SndW base cx (VRel base) (ET prog wo cx e₁) lo H r w) (h₃ : ∀ H w, SndW base cx (VRel base) (ET prog wo cx e₃) lo H (k' H) w) :
    SndW base cx (VRel base) (ET prog wo cx (.Subscript e₁ (.Slice none (some e₃) none pos') pos)) lo H
      (bnd r fun x H₁ => bnd (k' H₁) fun z H₃ => up ((natOf z).bind fun b => uptoD x b) H₃) w := by
  let sl : Expr := .Slice none (some e₃) none pos'
  refine SndW.of (SndW.bnd (f := fun v Q E s => wpAny (model prog wo) cx.A (eval e₃ cx.env) (fun u s₂ => wpAny (model prog wo) cx.A (subscriptTail e₁ sl v (.ref s₂.heap.objs.size)) Q E { s₂ with heap := s₂.heap.push (slObj .none u .none) }) E s) C h₁ fun x H₁ v w' _ _ hv => ?_)
    fun _ _ _ _ h => Subscript_ (wpAny_mono h (fun v s₁ h => wpAny_Slice (evalPart_none_step (wpAny_mono h (fun u s₃ h => evalPart_none_step h) fun _ _ e => e))) fun _ _ e => e)
  exact SndW.bnd (f := fun u Q E s => wpAny (model prog wo) cx.A (subscriptTail e₁ sl v (.ref s.heap.objs.size)) Q E { s with heap := s.heap.push (slObj .none u .none) }) C (h₃ H₁ w') fun z H₃ u w3 _ g' hu => snd_upto C (hv.ext g') hu
theorem sndE_rev {e₁ : Expr} {pos pos' p1 p2 : Pos} {k' : Nat} {r : Option (Rx DV)} (C : CxOk base cx n)
    (h₁ : SndW base cx (VRel base) (ET prog wo cx e₁) lo H r w) :
    SndW base cx (VRel base) (ET prog wo cx (.Subscript e₁ (.Slice none none (some (.UnaryOp .USub (.Constant (.int 1) k' p1) p2)) pos') pos)) lo H
      (bnd r fun x H₁ => match x with
      | .d (.tuple ds) => if ds.length ≤ 4096 then some (.ok (.d (.tuple ds.reverse)) H₁) else .none
      | _ => .none) w := by
  let sl : Expr := .Slice none none (some (.UnaryOp .USub (.Constant (.int 1) k' p1) p2)) pos'
  refine SndW.of (SndW.bnd (f := fun v Q E s => ∀ t tk, wpAny (model prog wo) cx.A (subscriptTail e₁ sl v (.ref s.heap.objs.size)) Q E { s with heap := s.heap.push (slObj .none .none (.int (-1) t)), toks := tk }) C h₁ fun x H₁ v w' _ _ hv => ?_)
    fun _ _ _ _ h => Subscript_ (wpAny_mono h (fun v s₁ h => wpAny_Slice (evalPart_none_step (evalPart_none_step (evalPart_some_step (wpAny_UnaryOp (wpAny_Constant_int (neg_int (h _ _)))))))) fun _ _ e => e)
  split
  · split
    · rename_i q
      intro s Q E st ok er ne t tk
      have st' : StE base cx lo H₁ w' { s with toks := tk } := ⟨st.hp, st.rin, st.stays, st.fr, st.lo⟩
      refine snd_rev C hv q rfl { s with toks := tk } Q E st' (fun a H' e v w' s' kk hv => ok a H' e v w' s' ?_ hv) (fun t H' e v w' s' f => er t H' e v w' s' ?_) ne
      · exact (Step.here (tk := tk) st.hp).trans kk
      · exact f.pre (Step.here (tk := tk) st.hp)
    · exact snd_stuck
  · exact snd_stuck

/-- the tree of a test -/
noncomputable abbrev TT (prog : Program) (wo : World) (cx : Cx) (e : Expr) : PT Bool := fun Q E s => wpAny (model prog wo) cx.A (isTrue e cx.env (eval e cx.env)) Q E s
noncomputable abbrev VB : Wd → Bool → Bool → Prop := fun _ a b => a = b

theorem boolOf_some {v : DV} {b : Bool} (h : boolOf v = some b) : v = .d (.bool b) := by
  unfold boolOf at h; split at h <;> first | (cases h; rfl) | cases h
theorem bool_val {v : Value} {b : Bool} (r : VRel base w v (.d (.bool b))) : v = .bool b := by
  cases r with | d h => cases h; rfl
theorem sndT_plain {e : Expr} {r : Option (Rx DV)} (C : CxOk base cx n) (he : ∀ whole, isTrue e cx.env whole = (do let v ← whole; standAt e.pos; holding [v] (truthy v))) (h : SndW base cx (VRel base) (ET prog wo cx e) lo H r w) :
    SndW base cx VB (TT prog wo cx e) lo H (bnd r fun v H₁ => up (boolOf v) H₁) w := by
  refine SndW.of (SndW.bnd (f := fun v Q E s => wpAny (model prog wo) cx.A (truthy v) Q E s) C h fun x H₁ v w' _ _ hv => ?_) fun _ _ _ _ h => isTrue_plain h (he _)
  refine snd_up fun b hb s Q E st k => ?_
  obtain rfl := boolOf_some hb
  obtain rfl := bool_val hv
  exact wpAny_truthy_bool (k _ w' _ (Step.here (tk := s.toks) st.hp) rfl)
theorem sndT_not {e : Expr} {pos : Pos} {r : Option (Rx Bool)} (C : CxOk base cx n) (h : SndW base cx VB (TT prog wo cx e) lo H r w) :
    SndW base cx VB (TT prog wo cx (.UnaryOp .Not e pos)) lo H (bnd r fun b H₁ => some (.ok (!b) H₁)) w := by
  refine SndW.of (SndW.bnd (f := fun c Q _ s => Q (!c) s) C h fun x H₁ v w' _ _ hv => ?_) fun _ _ _ _ h => isTrue_not h
  intro s Q E st ok _ _
  exact ok _ _ rfl _ w' _ (Step.here (tk := s.toks) st.hp) (by rw [show v = x from hv])
theorem sndT_true {pos : Pos} : SndW base cx VB (TT prog wo cx (.BoolOp .And [] pos)) lo H (some (.ok true H)) w :=
  fun s _ _ st ok _ _ => isTrue_and_nil (ok _ _ rfl _ w _ (Step.here (tk := s.toks) st.hp) rfl)
theorem sndT_false {pos : Pos} : SndW base cx VB (TT prog wo cx (.BoolOp .Or [] pos)) lo H (some (.ok false H)) w :=
  fun s _ _ st ok _ _ => isTrue_or_nil (ok _ _ rfl _ w _ (Step.here (tk := s.toks) st.hp) rfl)
theorem sndT_and {e : Expr} {es : List Expr} {pos : Pos} {r : Option (Rx Bool)} {k : Hp → Option (Rx Bool)} (C : CxOk base cx n) (h : SndW base cx VB (TT prog wo cx e) lo H r w)
    (h₂ : ∀ H w, SndW base cx VB (TT prog wo cx (.BoolOp .And es pos)) lo H (k H) w) :
    SndW base cx VB (TT prog wo cx (.BoolOp .And (e :: es) pos)) lo H (bnd r fun b H₁ => if b then k H₁ else some (.ok false H₁)) w := by
  refine SndW.of (SndW.bnd (f := fun c Q E s => if c then TT prog wo cx (.BoolOp .And es pos) Q E s else Q false s) C h fun x H₁ v w' _ _ hv => ?_) fun _ _ _ _ h => isTrue_and h
  obtain rfl : v = x := hv
  cases v with
  | true => exact h₂ H₁ w'
  | false => exact fun s _ _ st ok _ _ => ok _ _ rfl _ w' _ (Step.here (tk := s.toks) st.hp) rfl
theorem sndT_or {e : Expr} {es : List Expr} {pos : Pos} {r : Option (Rx Bool)} {k : Hp → Option (Rx Bool)} (C : CxOk base cx n) (h : SndW base cx VB (TT prog wo cx e) lo H r w)
    (h₂ : ∀ H w, SndW base cx VB (TT prog wo cx (.BoolOp .Or es pos)) lo H (k H) w) :
    SndW base cx VB (TT prog wo cx (.BoolOp .Or (e :: es) pos)) lo H (bnd r fun b H₁ => if b then some (.ok true H₁) else k H₁) w := by
  refine SndW.of (SndW.bnd (f := fun c Q E s => if c then Q true s else TT prog wo cx (.BoolOp .Or es pos) Q E s) C h fun x H₁ v w' _ _ hv => ?_) fun _ _ _ _ h => isTrue_or h
  obtain rfl : v = x := hv
  cases v with
  | false => exact h₂ H₁ w'
  | true => exact fun s _ _ st ok _ _ => ok _ _ rfl _ w' _ (Step.here (tk := s.toks) st.hp) rfl

/-- a comparison and its truth -/
theorem snd_cmpT {c : Cm} {a b : Value} {x y : DV} (C : CxOk base cx n) (ha : VRel base w a x) (hb : VRel base w b y) :
    SndW base cx VB (fun Q E s => wpAny (model prog wo) cx.A (compareOp (cmOf c) a b) (fun r s₁ => wpAny (model prog wo) cx.A (truthy r) Q E s₁) E s) lo H (up ((datOf x).bind fun x => (datOf y).bind fun y => cmpD c x y) H) w := by
  cases hx : datOf x with
  | none => exact snd_stuck
  | some x' =>
    cases hy : datOf y with
    | none => exact snd_stuck
    | some y' =>
      obtain rfl := datOf_some hx
      obtain rfl := datOf_some hy
      intro s Q E st ok er ne
      exact snd_cmp C ha.dIn hb.dIn s _ E st (fun a H' e v w' s' k hv => by
        obtain rfl : v = .bool a := hv
        exact wpAny_truthy_bool (ok _ _ e _ w' s' k rfl)) er ne
theorem sndT_cmp {c : Cm} {e₁ e₂ : Expr} {pos : Pos} {r : Option (Rx DV)} {k : Hp → Option (Rx DV)} (C : CxOk base cx n) (hm : behindInMarks (cmOf c) e₂ = false)
    (h₁ : SndW base cx (VRel base) (ET prog wo cx e₁) lo H r w) (h₂ : ∀ H w, SndW base cx (VRel base) (ET prog wo cx e₂) lo H (k H) w) :
    SndW base cx VB (TT prog wo cx (.Compare e₁ [cmOf c] [e₂] pos)) lo H (bnd r fun x H₁ => bnd (k H₁) fun y H₂ => up ((datOf x).bind fun x => (datOf y).bind fun y => cmpD c x y) H₂) w := by
  refine SndW.of (SndW.bnd (f := fun v Q E s => wpAny (model prog wo) cx.A (eval e₂ cx.env) (fun u s₂ => wpAny (model prog wo) cx.A (compareOp (cmOf c) v u) (fun r s₁ => wpAny (model prog wo) cx.A (truthy r) Q E s₁) E s₂) E s) C h₁ fun x H₁ v w' _ _ hv => ?_) fun _ _ _ _ h => wpAny_isTrue_Compare1 h hm
  exact SndW.bnd (f := fun u Q E s => wpAny (model prog wo) cx.A (compareOp (cmOf c) v u) (fun r s₁ => wpAny (model prog wo) cx.A (truthy r) Q E s₁) E s) C (h₂ H₁ w') fun y H₂ u w'' _ g hu => snd_cmpT C (hv.ext g) hu

theorem sndE_ite {e₁ e₂ e₃ : Expr} {pos : Pos} {r : Option (Rx Bool)} {k k' : Hp → Option (Rx DV)} (C : CxOk base cx n)
    (h₁ : SndW base cx VB (TT prog wo cx e₁) lo H r w) (h₂ : ∀ H w, SndW base cx (VRel base) (ET prog wo cx e₂) lo H (k H) w) (h₃ : ∀ H w, SndW base cx (VRel base) (ET prog wo cx e₃) lo H (k' H) w) :
    SndW base cx (VRel base) (ET prog wo cx (.IfExp e₁ e₂ e₃ pos)) lo H (bnd r fun x H₁ => if x then k H₁ else k' H₁) w := by
  refine SndW.of (SndW.bnd (f := fun c Q E s => if c then ET prog wo cx e₂ Q E s else ET prog wo cx e₃ Q E s) C h₁ fun x H₁ v w' _ _ hv => ?_) fun _ _ _ _ h => wpAny_IfExp h
  obtain rfl : v = x := hv
  cases v with
  | true => exact h₂ H₁ w'
  | false => exact h₃ H₁ w'
theorem sndE_andV {e₁ e₂ : Expr} {pos : Pos} {r : Option (Rx DV)} {k : Hp → Option (Rx DV)} (C : CxOk base cx n)
    (h₁ : SndW base cx (VRel base) (ET prog wo cx e₁) lo H r w) (h₂ : ∀ H w, SndW base cx (VRel base) (ET prog wo cx e₂) lo H (k H) w) :
    SndW base cx (VRel base) (ET prog wo cx (.BoolOp .And [e₁, e₂] pos)) lo H (bnd r fun x H₁ => match boolOf x with
      | some true => k H₁
      | some false => some (.ok (.d (.bool false)) H₁)
      | .none => .none) w := by
  refine SndW.of (SndW.bnd (f := fun v Q E s => wpAny (model prog wo) cx.A (truthy v) (fun c s₂ => if c then wpAny (model prog wo) cx.A (eval (.BoolOp .And [e₂] pos) cx.env) Q E s₂ else Q v s₂) E s) C h₁ fun x H₁ v w' _ _ hv => ?_) fun _ _ _ _ h => BoolOp_and h
  split
  · rename_i q
    obtain rfl := boolOf_some q
    obtain rfl := bool_val hv
    exact fun s Q E st ok er ne => wpAny_truthy_bool (BoolOp_one (h₂ H₁ w' s Q E st ok er ne))
  · rename_i q
    obtain rfl := boolOf_some q
    obtain rfl := bool_val hv
    exact fun s Q E st ok er ne => wpAny_truthy_bool (ok _ _ rfl _ w' _ (Step.here (tk := s.toks) st.hp) (.d (.bool _)))
  · exact snd_stuck

theorem test_link {M : Model} {A : Around} {s : Shared} {E : Value → Shared → Prop} {pos : Pos} {a : Value} {op op' : CmpOp} {ops : List CmpOp} {r r' : Sem Value} {rs : List (Sem Value)} {Q : Bool → Shared → Prop}
    (h : wpAny M A r (fun b s₁ => wpAny M A (compareOp op a b) (fun c s₂ => wpAny M A (truthy c)
      (fun t s₃ => if t then wpAny M A (testChain pos b (op' :: ops) (r' :: rs)) Q E s₃ else Q false s₃) E s₂) E s₁) E s) :
    wpAny M A (testChain pos a (op :: op' :: ops) (r :: r' :: rs)) Q E s := by
  show wpAny M A (do
    let rv ← holding [a] r
    standAt pos
    let c ← holding [a, rv] (compareOp op a rv)
    release [a, rv] [c]
    if ← holding [c, rv] (truthy c) then testChain pos rv (op' :: ops) (r' :: rs) else pure false) Q E s
  refine wpAny_bind (wpAny_holding (wpAny_mono h (fun b s₁ h₁ => wpAny_bind (wpAny_standAt (wpAny_bind (wpAny_holding (wpAny_mono h₁ (fun c s₂ h₂ =>
    wpAny_bind (wpAny_release' (wpAny_bind (wpAny_holding (wpAny_mono h₂ (fun t s₃ h₃ => ?_) fun _ _ x => x))))) fun _ _ x => x))))) fun _ _ x => x))
  cases t with
  | false => exact wpAny_pure h₃
  | true => exact h₃
theorem test_last {M : Model} {A : Around} {s : Shared} {E : Value → Shared → Prop} {pos : Pos} {a : Value} {op : CmpOp} {r : Sem Value} {Q : Bool → Shared → Prop}
    (h : wpAny M A r (fun b s₁ => wpAny M A (compareOp op a b) (fun c s₂ => wpAny M A (truthy c) Q E s₂) E s₁) E s) : wpAny M A (testChain pos a [op] [r]) Q E s := by
  show wpAny M A (do
    let rv ← holding [a] r
    standAt pos
    let c ← operate [a, rv] (compareOp op a rv)
    holding [c] (truthy c)) Q E s
  exact wpAny_bind (wpAny_holding (wpAny_mono h (fun b s₁ h₁ => wpAny_bind (wpAny_standAt (wpAny_bind (wpAny_operate' (wpAny_mono h₁ (fun c s₂ h₂ => wpAny_holding h₂) fun _ _ x => x))))) fun _ _ x => x))

/-- one link of a chain behind its left side -/
theorem sndT_link {c : Cm} {op' : CmpOp} {ops : List CmpOp} {e : Expr} {r' : Sem Value} {rs : List (Sem Value)} {pos : Pos} {v : Value} {x : DV} {k : Option (Rx DV)} {z : DV → Hp → Option (Rx Bool)} (C : CxOk base cx n) (hv : VRel base w v x)
    (h₂ : SndW base cx (VRel base) (ET prog wo cx e) lo H k w)
    (h₃ : ∀ u y H w, VRel base w u y → SndW base cx VB (fun Q E s => wpAny (model prog wo) cx.A (testChain pos u (op' :: ops) (r' :: rs)) Q E s) lo H (z y H) w) :
    SndW base cx VB (fun Q E s => wpAny (model prog wo) cx.A (testChain pos v (cmOf c :: op' :: ops) (eval e cx.env :: r' :: rs)) Q E s) lo H
      (bnd k fun y H₂ => match (datOf x).bind fun x => (datOf y).bind fun y => cmpD c x y with
        | some true => z y H₂
        | some false => some (.ok false H₂)
        | .none => .none) w := by
  refine SndW.of (SndW.bnd (f := fun u Q E s => wpAny (model prog wo) cx.A (compareOp (cmOf c) v u) (fun c s₂ => wpAny (model prog wo) cx.A (truthy c)
      (fun t s₃ => if t then wpAny (model prog wo) cx.A (testChain pos u (op' :: ops) (r' :: rs)) Q E s₃ else Q false s₃) E s₂) E s) C h₂ fun y H₂ u w' _ g hu => ?_) fun _ _ _ _ h => test_link h
  intro s Q E st ok er ne
  cases hc : (datOf x).bind fun x => (datOf y).bind fun y => cmpD c x y with
  | none => rw [hc] at ne; exact absurd rfl ne
  | some b =>
    refine snd_cmpT (c := c) C (hv.ext g) hu s (fun t s₃ => if t then wpAny (model prog wo) cx.A (testChain pos u (op' :: ops) (r' :: rs)) Q E s₃ else Q false s₃) E st (fun a H' e t w₂ s₂ kk ht => ?_) (fun t H' e => by rw [hc] at e; cases e) (by rw [hc]; intro q; cases q)
    rw [hc] at e
    obtain ⟨rfl, rfl⟩ : b = a ∧ H₂ = H' := by cases e; exact ⟨rfl, rfl⟩
    obtain rfl : t = b := ht
    cases t with
    | true =>
      rw [hc] at ok er ne
      exact h₃ u y H₂ w₂ (hu.ext kk.grow.ext) s₂ Q E (st.step C kk) (fun a H' e v w' s' k hv => ok a H' e v w' s' (kk.trans k) hv) (fun t H' e x w' s' f => er t H' e x w' s' (f.pre kk)) ne
    | false =>
      rw [hc] at ok
      exact ok _ _ rfl _ w₂ s₂ kk rfl
theorem sndT_last {c : Cm} {e : Expr} {pos : Pos} {v : Value} {x : DV} {k : Option (Rx DV)} (C : CxOk base cx n) (hv : VRel base w v x)
    (h₂ : SndW base cx (VRel base) (ET prog wo cx e) lo H k w) :
    SndW base cx VB (fun Q E s => wpAny (model prog wo) cx.A (testChain pos v [cmOf c] [eval e cx.env]) Q E s) lo H
      (bnd k fun y H₂ => up ((datOf x).bind fun x => (datOf y).bind fun y => cmpD c x y) H₂) w :=
  SndW.of (SndW.bnd (f := fun u Q E s => wpAny (model prog wo) cx.A (compareOp (cmOf c) v u) (fun r s₁ => wpAny (model prog wo) cx.A (truthy r) Q E s₁) E s) C h₂ fun y H₂ u w' _ g hu => snd_cmpT C (hv.ext g) hu) fun _ _ _ _ h => test_last h
end
end Mine
end

section
set_option autoImplicit false
set_option maxRecDepth 100000
namespace Mine

section
variable {prog : Program} {wo : World} {K : Frag} {base : Heap} {p : Program} {loose : List Str} {mean : ExcName → Option Value} {mg mb : Str → Option Value} {cx : Cx} {n : Nat} {lo : Lo} {H : Hp} {w : Wd} {fa : Fn → Addr}

theorem Step.sameBut {R F : List Addr} {w₁ : Wd} {H₁ : Hp} {s s₁ : Shared} {a : Addr} {h' : Heap} (k : Step base R F [] w s w₁ H₁ s₁) (he : Heap.SameBut a s₁.heap h') (ha : s.heap.get? a = none) (h1 : a ∉ w₁.ρ) (h2 : ∀ p ∈ w₁.pool, p.1 ≠ a) (hF : ∀ b ∈ F, ∃ m, s.heap.Ns b m) :
    Step base R F [] w s w₁ H₁ { s₁ with heap := h' } := k.extBut (tk := s₁.toks) he.extBut ha h1 h2 hF

theorem sndE_comp {elt e : Expr} {x : Nat} {xs y : Str} {fv : List Nat} {px pos np pos' : Pos} {cs : Scope} {f : DV → Hp → Option (Rx DV)} {r : Option (Rx DV)}
    (C : CxOk base cx n) (G : Gd K base p loose mean mg mb) (S : CompScope cx cs x xs fv) (b : BootName K cx y (.type "range")) (hs : notStar e = true)
    (he : SndW base cx (VRel base) (ET prog wo cx e) lo H r w)
    (helt : ∀ Cd D It v H w, SndW base (cx.comp cs Cd D It) (VRel base) (ET prog wo (cx.comp cs Cd D It) elt) ((keepOnly fv lo).set x (some v)) H (f v H) w) :
    SndW base cx (VRel base) (ET prog wo cx (.ListComp elt [⟨.Name xs px, .Call (.Name y np) [e] [] pos', [], 0⟩] cs pos)) lo H
      (bnd r fun n H₁ => (natOf n).bind fun n => (compL f (rngI 0 n) H₁).map fun p => .ok (.d (.list p.1)) p.2) w := by
  let blk (v : Value) (Q : Value → Shared → Prop) (E : Value → Shared → Prop) (s : Shared) : Prop :=
    wpAny (model prog wo) cx.A (call (.type "range") [v]) (fun xv s₁ => wpAny (model prog wo) cx.A (pyIter xv) (fun it s₂ => wpAny (model prog wo) cx.A (newList []) (fun acc s₃ =>
      wpAny (model prog wo) cx.A (newFunctionEnv cs cx.env.globals (closOf cs.names cx.env.cells) [] cx.env.qual none .none (some cx.env)) (fun cenv s₄ =>
        codeAny (model prog wo) cx.A (.compStart (.ListComp elt [⟨.Name xs px, .Call (.Name y np) [e] [] pos', [], 0⟩] cs pos) 0 it acc { cenv with scope := relabel cs cx.env }) (compPost (model prog wo) cx.A E none Q acc cenv.locals) s₄) E s₃) E s₂) E s₁) E s
  refine SndW.of (SndW.bnd (f := blk) C he fun nv H₁ v w' _ _ hv => ?_) fun Q E s st h => ?_
  · intro s Q E st ok er ne
    cases hn : natOf nv with
    | none => rw [hn] at ne; exact absurd rfl ne
    | some nn =>
      rw [hn, Option.bind_some] at ok ne
      cases hc : compL f (rngI 0 nn) H₁ with
      | none => rw [hc] at ne; exact absurd rfl ne
      | some p =>
        obtain ⟨ds, H'⟩ := p
        rw [hc] at ok
        obtain ⟨rfl, hz⟩ := natOf_some hn
        obtain ⟨t, rfl⟩ := int_val hv
        refine comp_block (RR := fun acc C => compPost (model prog wo) cx.A E none Q acc C) C S st hz (fun Cd D It => helt Cd D It) hc fun D Cd w₁ s₁ vs cap m fD fCd nDC hns hD hda k1 o1 o2 o3 => ?_
        refine ⟨m, hns, fun h₂ hs₂ => ?_⟩
        have nR : D ∉ cx.R := fun m => by obtain ⟨o, e⟩ := st.rin D m; rw [fD] at e; cases e
        refine ok _ _ rfl _ _ _ ((k1.sameBut hs₂ fCd o2 o3 st.fr).addPool o1 nR (hs₂.extBut _ _ nDC hD)) (.d (.list (.head _) rfl ⟨rfl, rfl, rfl⟩ (hda.mono fun x m => .tail _ m)))
  · show wpAny _ _ (eval (.ListComp _ _ _ _) _) _ _ _
    rw [eval_ListComp]
    have hcl := clos_eq (cs := cs) (env := cx.env) fun y m e => C.cells _ (S.free y m e)
    exact wpAny_comprehension_free (use := none) rfl (fun _ => rfl) hcl S.kind S.names (wp_call1 C G st b hs h)
end
end Mine
end

section
set_option autoImplicit false
set_option maxRecDepth 100000
namespace Mine

/-- what the checker knows of a block's names -/
structure Sc where
  names : List Str
  glob : Str → Bool
  cell : Str → Bool
  var : Str → Bool

noncomputable def plainIdx : Expr → Bool
  | .Slice _ _ _ _ => false
  | _ => true
noncomputable def isIntAt (K : Frag) (z : Str) (i : Int) : Bool := match nsIn K mainGlobals z with
  | some (some (.int j _)) => decide (i = j)
  | _ => false
noncomputable def okName (y : Str) : Bool := !(y == ("__debug__" : Str)) && !(y == ("__classdict__" : Str)) && !(y == ("__name__" : Str))
noncomputable def bootOk (sc : Sc) (K : Frag) (y : Str) (b : String) : Bool := (y == Str.ofString b) && sc.glob y && okName y && (match nsIn K mainGlobals y with | some none => true | _ => false)
noncomputable def compOk (sc : Sc) (cs : Scope) (x : Nat) (xs : Str) (fv : List Nat) : Bool :=
  (cs.kind == .function) && cs.names.all (fun y => !(y.2 == .cell) && (!(y.2 == .local) || (cs.names.lookup y.1 == some .local)) && (!(y.2 == .free) || sc.cell y.1)) && (cs.names.lookup xs == some .local) && (sc.names[x]? == some xs) &&
    fv.all fun i => !(i == x) && (match sc.names[i]? with | some y => cs.names.lookup y == some .free | .none => false)
noncomputable def isName : Expr → Bool
  | .Name _ _ => true
  | _ => false
noncomputable def opEq (o : Op) (op : Operator) : Bool := decide (op = opOf o)
noncomputable def cmEq (o : Cm) (op : CmpOp) : Bool := decide (op = cmOf o)
theorem opEq_eq {o : Op} {op : Operator} (h : opEq o op = true) : op = opOf o := of_decide_eq_true h
theorem cmEq_eq {o : Cm} {op : CmpOp} (h : cmEq o op = true) : op = cmOf o := of_decide_eq_true h
noncomputable def bopEq (b : Bool) (op : BoolOp) : Bool := match b, op with
  | true, .And => true | false, .Or => true | _, _ => false

noncomputable abbrev Pf (p : Prop) : Type := Option (PLift p)
noncomputable def ask (b : Bool) : Pf (b = true) := match b with
  | true => some ⟨rfl⟩
  | false => .none
noncomputable def askN (b : Bool) : Pf (b = false) := match b with
  | false => some ⟨rfl⟩
  | true => .none
noncomputable def yes : Pf True := some ⟨trivial⟩
noncomputable def both {p q : Prop} (x : Pf p) (y : Pf q) : Pf (p ∧ q) := match x with
  | .none => .none
  | some a => match y with
    | .none => .none
    | some b => some ⟨⟨a.down, b.down⟩⟩
noncomputable def mapP {p q : Prop} (f : p → q) (x : Pf p) : Pf q := match x with
  | .none => .none
  | some a => some ⟨f a.down⟩
theorem Pf.of {p : Prop} {x : Pf p} (h : x.isSome = true) : p := match x, h with
  | some a, _ => a.down
noncomputable def isStr (a : ME) (t : Str) : Bool := match a with
  | .str s => Str.ofString s == t
  | _ => false
theorem isStr_eq {a : ME} {t : Str} (h : isStr a t = true) : ∃ s, a = .str s ∧ Str.ofString s = t := by
  unfold isStr at h
  split at h
  · exact ⟨_, rfl, beq_iff_eq.mp h⟩
  · cases h

mutual
noncomputable def RE (K : Frag) (sc : Sc) : ME → Expr → Prop
  | .var x, e => ∃ y z1, e = .Name y z1 ∧ (((sc.names[x]? == some y)) = true ∧ (okName y) = true)
  | .none, e => ∃ z1 z2, e = .Constant .none z1 z2 ∧ (True)
  | .bool b, e => ∃ c z1 z2, e = .Constant (.bool c) z1 z2 ∧ ((b == c) = true)
  | .int i, e => ∃ j z1 z2, e = .Constant (.int j) z1 z2 ∧ ((decide (i = j)) = true)
  | .str s, e => ∃ t z1 z2, e = .Constant (.str t) z1 z2 ∧ ((Str.ofString s == t) = true)
  | .gint y i, e => ∃ z z1, e = .Name z z1 ∧ (((((z == Str.ofString y)) = true ∧ (sc.glob z) = true) ∧ (okName z) = true) ∧ (isIntAt K z i) = true)
  | .neg i, e => ∃ j z1 z2 z3, e = .UnaryOp .USub (.Constant (.int j) z1 z2) z3 ∧ ((decide (i = j)) = true)
  | .bin o a b, e => ∃ l op r z1, e = .BinOp l op r z1 ∧ (((opEq o op) = true ∧ RE K sc a l) ∧ RE K sc b r)
  | .cmp c a b, e => ∃ l op r z1, e = .Compare l [op] [r] z1 ∧ ((((cmEq c op) = true ∧ (behindInMarks op r) = false) ∧ RE K sc a l) ∧ RE K sc b r)
  | .ite c a b, e => ∃ t x y z1, e = .IfExp t x y z1 ∧ ((RT K sc c t ∧ RE K sc a x) ∧ RE K sc b y)
  | .andV a b, e => ∃ x y z1, e = .BoolOp .And [x, y] z1 ∧ (RE K sc a x ∧ RE K sc b y)
  | .call f es, e => ∃ y z1 args z2, e = .Call (.Name y z1) args [] z2 ∧ ((((((y == Str.ofString (fnName f))) = true ∧ (isMeth f) = false) ∧ (sc.glob y) = true) ∧ (okName y) = true) ∧ REs K sc es args)
  | .mcall f o es, e => ∃ y np name apos args pos, e = .Call (.Attribute (.Name y np) name apos) args [] pos ∧ (((((((name == Str.ofString (fnName f))) = true ∧ (isMeth f) = true) ∧ ((apos.endLine == pos.line)) = true) ∧ (decide (args.length < 20)) = true) ∧ RE K sc o (.Name y np)) ∧ REs K sc es args)
  | .len a, e => ∃ y z1 x z2, e = .Call (.Name y z1) [x] [] z2 ∧ (((bootOk sc K y "len") = true ∧ (notStar x) = true) ∧ RE K sc a x)
  | .tupOf a, e => ∃ y z1 x z2, e = .Call (.Name y z1) [x] [] z2 ∧ (((bootOk sc K y "tuple") = true ∧ (notStar x) = true) ∧ RE K sc a x)
  | .min2 a b, e => ∃ y z1 x z z2, e = .Call (.Name y z1) [x, z] [] z2 ∧ (((((bootOk sc K y "min") = true ∧ (notStar x) = true) ∧ (notStar z) = true) ∧ RE K sc a x) ∧ RE K sc b z)
  | .lrange a b, e => ∃ y z1 y' z2 x z z3 z4, e = .Call (.Name y z1) [.Call (.Name y' z2) [x, z] [] z3] [] z4 ∧ ((((((bootOk sc K y "list") = true ∧ (bootOk sc K y' "range") = true) ∧ (notStar x) = true) ∧ (notStar z) = true) ∧ RE K sc a x) ∧ RE K sc b z)
  | .index a b, e => ∃ y np name apos x pos, e = .Call (.Attribute (.Name y np) name apos) [x] [] pos ∧ ((((((name == Str.ofString "index")) = true ∧ ((apos.endLine == pos.line)) = true) ∧ (notStar x) = true) ∧ RE K sc a (.Name y np)) ∧ RE K sc b x)
  | .join a b, e => ∃ t z1 z2 name apos x pos, e = .Call (.Attribute (.Constant (.str t) z1 z2) name apos) [x] [] pos ∧ ((((((name == Str.ofString "join")) = true ∧ ((apos.endLine == pos.line)) = true) ∧ (notStar x) = true) ∧ (isStr a t) = true) ∧ RE K sc b x)
  | .numeric a, e => ∃ y np name z1, e = .Attribute (.Name y np) name z1 ∧ (((name == Str.ofString "numeric")) = true ∧ RE K sc a (.Name y np))
  | .chars a, e => ∃ y np name z1, e = .Attribute (.Name y np) name z1 ∧ (((name == Str.ofString "characters")) = true ∧ RE K sc a (.Name y np))
  | .sub a b, e => ∃ x i z1, e = .Subscript x i z1 ∧ (((plainIdx i) = true ∧ RE K sc a x) ∧ RE K sc b i)
  | .slice a b c, e => ∃ x l u z1 z2, e = .Subscript x (.Slice (some l) (some u) none z1) z2 ∧ ((RE K sc a x ∧ RE K sc b l) ∧ RE K sc c u)
  | .upto a c, e => ∃ x u z1 z2, e = .Subscript x (.Slice none (some u) none z1) z2 ∧ (RE K sc a x ∧ RE K sc c u)
  | .rev a, e => ∃ x z1 z2 z3 z4 z5, e = .Subscript x (.Slice none none (some (.UnaryOp .USub (.Constant (.int 1) z1 z2) z3)) z4) z5 ∧ (RE K sc a x)
  | .tup es, e => ∃ args z1 z2, e = .Tuple args z1 z2 ∧ ((decide (args.length ≤ 4096)) = true ∧ REs K sc es args)
  | .list es, e => ∃ args z1, e = .List args z1 ∧ ((decide (args.length ≤ 4096)) = true ∧ REs K sc es args)
  | .mlist, e => ∃ z1, e = .List [] z1 ∧ (True)
  | .freeze a, e => RE K sc a e
  | .comp elt x fv a, e => ∃ el xs z1 y z2 z z3 cs z4, e = .ListComp el [⟨.Name xs z1, .Call (.Name y z2) [z] [] z3, [], 0⟩] cs z4 ∧ (((((bootOk sc K y "range") = true ∧ (notStar z) = true) ∧ (compOk sc cs x xs fv) = true) ∧ RE K ⟨sc.names, fun _ => false, fun _ => false, fun _ => false⟩ elt el) ∧ RE K sc a z)
  | .chain2 .., _ => False
  | .chain3 .., _ => False
  | .not _, _ => False
  | .bools .., _ => False
noncomputable def REs (K : Frag) (sc : Sc) : List ME → List Expr → Prop
  | [], es => es = [] ∧ (True)
  | m :: ms, es => ∃ e es', es = e :: es' ∧ (((notStar e) = true ∧ RE K sc m e) ∧ REs K sc ms es')
noncomputable def RT (K : Frag) (sc : Sc) : ME → Expr → Prop
  | .not a, e => ∃ x z1, e = .UnaryOp .Not x z1 ∧ (RT K sc a x)
  | .bools b es, e => ∃ op args z1, e = .BoolOp op args z1 ∧ ((bopEq b op) = true ∧ RTs K sc es args)
  | .cmp c a b, e => ∃ l op r z1, e = .Compare l [op] [r] z1 ∧ ((((cmEq c op) = true ∧ (behindInMarks op r) = false) ∧ RE K sc a l) ∧ RE K sc b r)
  | .chain2 c₁ c₂ a b d, e => ∃ l o₁ o₂ x y z1, e = .Compare l [o₁, o₂] [x, y] z1 ∧ ((((((cmEq c₁ o₁) = true ∧ (cmEq c₂ o₂) = true) ∧ (lastMarks [o₁, o₂] [x, y]) = false) ∧ RE K sc a l) ∧ RE K sc b x) ∧ RE K sc d y)
  | .chain3 c₁ c₂ c₃ a b d f, e => ∃ l o₁ o₂ o₃ x y z z1, e = .Compare l [o₁, o₂, o₃] [x, y, z] z1 ∧ ((((((((cmEq c₁ o₁) = true ∧ (cmEq c₂ o₂) = true) ∧ (cmEq c₃ o₃) = true) ∧ (lastMarks [o₁, o₂, o₃] [x, y, z]) = false) ∧ RE K sc a l) ∧ RE K sc b x) ∧ RE K sc d y) ∧ RE K sc f z)
  | .var x, e => ∃ y z1, e = .Name y z1 ∧ (((sc.names[x]? == some y)) = true ∧ (okName y) = true)
  | .call f es, e => ∃ y z1 args z2, e = .Call (.Name y z1) args [] z2 ∧ ((((((y == Str.ofString (fnName f))) = true ∧ (isMeth f) = false) ∧ (sc.glob y) = true) ∧ (okName y) = true) ∧ REs K sc es args)
  | .none, _ => False
  | .bool _, _ => False
  | .int _, _ => False
  | .str _, _ => False
  | .gint .., _ => False
  | .neg _, _ => False
  | .bin .., _ => False
  | .andV .., _ => False
  | .ite .., _ => False
  | .mcall .., _ => False
  | .len _, _ => False
  | .min2 .., _ => False
  | .lrange .., _ => False
  | .tupOf _, _ => False
  | .index .., _ => False
  | .join .., _ => False
  | .numeric _, _ => False
  | .chars _, _ => False
  | .sub .., _ => False
  | .slice .., _ => False
  | .upto .., _ => False
  | .rev _, _ => False
  | .tup _, _ => False
  | .list _, _ => False
  | .mlist, _ => False
  | .freeze _, _ => False
  | .comp .., _ => False
noncomputable def RTs (K : Frag) (sc : Sc) : List ME → List Expr → Prop
  | [], es => es = [] ∧ (True)
  | m :: ms, es => ∃ e es', es = e :: es' ∧ (RT K sc m e ∧ RTs K sc ms es')
end
mutual
noncomputable def dE (K : Frag) (sc : Sc) : (m : ME) → (e : Expr) → Pf (RE K sc m e)
  | .var x, e => match e with | .Name y z1 => mapP (fun h => Exists.intro y <| Exists.intro z1 <| And.intro rfl h) (both (ask ((sc.names[x]? == some y))) (ask (okName y))) | _ => .none
  | .none, e => match e with | .Constant .none z1 z2 => mapP (fun h => Exists.intro z1 <| Exists.intro z2 <| And.intro rfl h) (yes) | _ => .none
  | .bool b, e => match e with | .Constant (.bool c) z1 z2 => mapP (fun h => Exists.intro c <| Exists.intro z1 <| Exists.intro z2 <| And.intro rfl h) (ask (b == c)) | _ => .none
  | .int i, e => match e with | .Constant (.int j) z1 z2 => mapP (fun h => Exists.intro j <| Exists.intro z1 <| Exists.intro z2 <| And.intro rfl h) (ask (decide (i = j))) | _ => .none
  | .str s, e => match e with | .Constant (.str t) z1 z2 => mapP (fun h => Exists.intro t <| Exists.intro z1 <| Exists.intro z2 <| And.intro rfl h) (ask (Str.ofString s == t)) | _ => .none
  | .gint y i, e => match e with | .Name z z1 => mapP (fun h => Exists.intro z <| Exists.intro z1 <| And.intro rfl h) (both (both (both (ask ((z == Str.ofString y))) (ask (sc.glob z))) (ask (okName z))) (ask (isIntAt K z i))) | _ => .none
  | .neg i, e => match e with | .UnaryOp .USub (.Constant (.int j) z1 z2) z3 => mapP (fun h => Exists.intro j <| Exists.intro z1 <| Exists.intro z2 <| Exists.intro z3 <| And.intro rfl h) (ask (decide (i = j))) | _ => .none
  | .bin o a b, e => match e with | .BinOp l op r z1 => mapP (fun h => Exists.intro l <| Exists.intro op <| Exists.intro r <| Exists.intro z1 <| And.intro rfl h) (both (both (ask (opEq o op)) (dE K sc a l)) (dE K sc b r)) | _ => .none
  | .cmp c a b, e => match e with | .Compare l [op] [r] z1 => mapP (fun h => Exists.intro l <| Exists.intro op <| Exists.intro r <| Exists.intro z1 <| And.intro rfl h) (both (both (both (ask (cmEq c op)) (askN (behindInMarks op r))) (dE K sc a l)) (dE K sc b r)) | _ => .none
  | .ite c a b, e => match e with | .IfExp t x y z1 => mapP (fun h => Exists.intro t <| Exists.intro x <| Exists.intro y <| Exists.intro z1 <| And.intro rfl h) (both (both (dT K sc c t) (dE K sc a x)) (dE K sc b y)) | _ => .none
  | .andV a b, e => match e with | .BoolOp .And [x, y] z1 => mapP (fun h => Exists.intro x <| Exists.intro y <| Exists.intro z1 <| And.intro rfl h) (both (dE K sc a x) (dE K sc b y)) | _ => .none
  | .call f es, e => match e with | .Call (.Name y z1) args [] z2 => mapP (fun h => Exists.intro y <| Exists.intro z1 <| Exists.intro args <| Exists.intro z2 <| And.intro rfl h) (both (both (both (both (ask ((y == Str.ofString (fnName f)))) (askN (isMeth f))) (ask (sc.glob y))) (ask (okName y))) (dEs K sc es args)) | _ => .none
  | .mcall f o es, e => match e with | .Call (.Attribute (.Name y np) name apos) args [] pos => mapP (fun h => Exists.intro y <| Exists.intro np <| Exists.intro name <| Exists.intro apos <| Exists.intro args <| Exists.intro pos <| And.intro rfl h) (both (both (both (both (both (ask ((name == Str.ofString (fnName f)))) (ask (isMeth f))) (ask ((apos.endLine == pos.line)))) (ask (decide (args.length < 20)))) (dE K sc o (.Name y np))) (dEs K sc es args)) | _ => .none
  | .len a, e => match e with | .Call (.Name y z1) [x] [] z2 => mapP (fun h => Exists.intro y <| Exists.intro z1 <| Exists.intro x <| Exists.intro z2 <| And.intro rfl h) (both (both (ask (bootOk sc K y "len")) (ask (notStar x))) (dE K sc a x)) | _ => .none
  | .tupOf a, e => match e with | .Call (.Name y z1) [x] [] z2 => mapP (fun h => Exists.intro y <| Exists.intro z1 <| Exists.intro x <| Exists.intro z2 <| And.intro rfl h) (both (both (ask (bootOk sc K y "tuple")) (ask (notStar x))) (dE K sc a x)) | _ => .none
  | .min2 a b, e => match e with | .Call (.Name y z1) [x, z] [] z2 => mapP (fun h => Exists.intro y <| Exists.intro z1 <| Exists.intro x <| Exists.intro z <| Exists.intro z2 <| And.intro rfl h) (both (both (both (both (ask (bootOk sc K y "min")) (ask (notStar x))) (ask (notStar z))) (dE K sc a x)) (dE K sc b z)) | _ => .none
  | .lrange a b, e => match e with | .Call (.Name y z1) [.Call (.Name y' z2) [x, z] [] z3] [] z4 => mapP (fun h => Exists.intro y <| Exists.intro z1 <| Exists.intro y' <| Exists.intro z2 <| Exists.intro x <| Exists.intro z <| Exists.intro z3 <| Exists.intro z4 <| And.intro rfl h) (both (both (both (both (both (ask (bootOk sc K y "list")) (ask (bootOk sc K y' "range"))) (ask (notStar x))) (ask (notStar z))) (dE K sc a x)) (dE K sc b z)) | _ => .none
  | .index a b, e => match e with | .Call (.Attribute (.Name y np) name apos) [x] [] pos => mapP (fun h => Exists.intro y <| Exists.intro np <| Exists.intro name <| Exists.intro apos <| Exists.intro x <| Exists.intro pos <| And.intro rfl h) (both (both (both (both (ask ((name == Str.ofString "index"))) (ask ((apos.endLine == pos.line)))) (ask (notStar x))) (dE K sc a (.Name y np))) (dE K sc b x)) | _ => .none
  | .join a b, e => match e with | .Call (.Attribute (.Constant (.str t) z1 z2) name apos) [x] [] pos => mapP (fun h => Exists.intro t <| Exists.intro z1 <| Exists.intro z2 <| Exists.intro name <| Exists.intro apos <| Exists.intro x <| Exists.intro pos <| And.intro rfl h) (both (both (both (both (ask ((name == Str.ofString "join"))) (ask ((apos.endLine == pos.line)))) (ask (notStar x))) (ask (isStr a t))) (dE K sc b x)) | _ => .none
  | .numeric a, e => match e with | .Attribute (.Name y np) name z1 => mapP (fun h => Exists.intro y <| Exists.intro np <| Exists.intro name <| Exists.intro z1 <| And.intro rfl h) (both (ask ((name == Str.ofString "numeric"))) (dE K sc a (.Name y np))) | _ => .none
  | .chars a, e => match e with | .Attribute (.Name y np) name z1 => mapP (fun h => Exists.intro y <| Exists.intro np <| Exists.intro name <| Exists.intro z1 <| And.intro rfl h) (both (ask ((name == Str.ofString "characters"))) (dE K sc a (.Name y np))) | _ => .none
  | .sub a b, e => match e with | .Subscript x i z1 => mapP (fun h => Exists.intro x <| Exists.intro i <| Exists.intro z1 <| And.intro rfl h) (both (both (ask (plainIdx i)) (dE K sc a x)) (dE K sc b i)) | _ => .none
  | .slice a b c, e => match e with | .Subscript x (.Slice (some l) (some u) none z1) z2 => mapP (fun h => Exists.intro x <| Exists.intro l <| Exists.intro u <| Exists.intro z1 <| Exists.intro z2 <| And.intro rfl h) (both (both (dE K sc a x) (dE K sc b l)) (dE K sc c u)) | _ => .none
  | .upto a c, e => match e with | .Subscript x (.Slice none (some u) none z1) z2 => mapP (fun h => Exists.intro x <| Exists.intro u <| Exists.intro z1 <| Exists.intro z2 <| And.intro rfl h) (both (dE K sc a x) (dE K sc c u)) | _ => .none
  | .rev a, e => match e with | .Subscript x (.Slice none none (some (.UnaryOp .USub (.Constant (.int 1) z1 z2) z3)) z4) z5 => mapP (fun h => Exists.intro x <| Exists.intro z1 <| Exists.intro z2 <| Exists.intro z3 <| Exists.intro z4 <| Exists.intro z5 <| And.intro rfl h) (dE K sc a x) | _ => .none
  | .tup es, e => match e with | .Tuple args z1 z2 => mapP (fun h => Exists.intro args <| Exists.intro z1 <| Exists.intro z2 <| And.intro rfl h) (both (ask (decide (args.length ≤ 4096))) (dEs K sc es args)) | _ => .none
  | .list es, e => match e with | .List args z1 => mapP (fun h => Exists.intro args <| Exists.intro z1 <| And.intro rfl h) (both (ask (decide (args.length ≤ 4096))) (dEs K sc es args)) | _ => .none
  | .mlist, e => match e with | .List [] z1 => mapP (fun h => Exists.intro z1 <| And.intro rfl h) (yes) | _ => .none
  | .freeze a, e => dE K sc a e
  | .comp elt x fv a, e => match e with | .ListComp el [⟨.Name xs z1, .Call (.Name y z2) [z] [] z3, [], 0⟩] cs z4 => mapP (fun h => Exists.intro el <| Exists.intro xs <| Exists.intro z1 <| Exists.intro y <| Exists.intro z2 <| Exists.intro z <| Exists.intro z3 <| Exists.intro cs <| Exists.intro z4 <| And.intro rfl h) (both (both (both (both (ask (bootOk sc K y "range")) (ask (notStar z))) (ask (compOk sc cs x xs fv))) (dE K ⟨sc.names, fun _ => false, fun _ => false, fun _ => false⟩ elt el)) (dE K sc a z)) | _ => .none
  | .chain2 .., _ => .none
  | .chain3 .., _ => .none
  | .not _, _ => .none
  | .bools .., _ => .none
noncomputable def dEs (K : Frag) (sc : Sc) : (m : List ME) → (e : List Expr) → Pf (REs K sc m e)
  | [], es => match es with | [] => mapP (fun h => And.intro rfl h) (yes) | _ => .none
  | m :: ms, es => match es with | e :: es' => mapP (fun h => Exists.intro e <| Exists.intro es' <| And.intro rfl h) (both (both (ask (notStar e)) (dE K sc m e)) (dEs K sc ms es')) | _ => .none
noncomputable def dT (K : Frag) (sc : Sc) : (m : ME) → (e : Expr) → Pf (RT K sc m e)
  | .not a, e => match e with | .UnaryOp .Not x z1 => mapP (fun h => Exists.intro x <| Exists.intro z1 <| And.intro rfl h) (dT K sc a x) | _ => .none
  | .bools b es, e => match e with | .BoolOp op args z1 => mapP (fun h => Exists.intro op <| Exists.intro args <| Exists.intro z1 <| And.intro rfl h) (both (ask (bopEq b op)) (dTs K sc es args)) | _ => .none
  | .cmp c a b, e => match e with | .Compare l [op] [r] z1 => mapP (fun h => Exists.intro l <| Exists.intro op <| Exists.intro r <| Exists.intro z1 <| And.intro rfl h) (both (both (both (ask (cmEq c op)) (askN (behindInMarks op r))) (dE K sc a l)) (dE K sc b r)) | _ => .none
  | .chain2 c₁ c₂ a b d, e => match e with | .Compare l [o₁, o₂] [x, y] z1 => mapP (fun h => Exists.intro l <| Exists.intro o₁ <| Exists.intro o₂ <| Exists.intro x <| Exists.intro y <| Exists.intro z1 <| And.intro rfl h) (both (both (both (both (both (ask (cmEq c₁ o₁)) (ask (cmEq c₂ o₂))) (askN (lastMarks [o₁, o₂] [x, y]))) (dE K sc a l)) (dE K sc b x)) (dE K sc d y)) | _ => .none
  | .chain3 c₁ c₂ c₃ a b d f, e => match e with | .Compare l [o₁, o₂, o₃] [x, y, z] z1 => mapP (fun h => Exists.intro l <| Exists.intro o₁ <| Exists.intro o₂ <| Exists.intro o₃ <| Exists.intro x <| Exists.intro y <| Exists.intro z <| Exists.intro z1 <| And.intro rfl h) (both (both (both (both (both (both (both (ask (cmEq c₁ o₁)) (ask (cmEq c₂ o₂))) (ask (cmEq c₃ o₃))) (askN (lastMarks [o₁, o₂, o₃] [x, y, z]))) (dE K sc a l)) (dE K sc b x)) (dE K sc d y)) (dE K sc f z)) | _ => .none
  | .var x, e => match e with | .Name y z1 => mapP (fun h => Exists.intro y <| Exists.intro z1 <| And.intro rfl h) (both (ask ((sc.names[x]? == some y))) (ask (okName y))) | _ => .none
  | .call f es, e => match e with | .Call (.Name y z1) args [] z2 => mapP (fun h => Exists.intro y <| Exists.intro z1 <| Exists.intro args <| Exists.intro z2 <| And.intro rfl h) (both (both (both (both (ask ((y == Str.ofString (fnName f)))) (askN (isMeth f))) (ask (sc.glob y))) (ask (okName y))) (dEs K sc es args)) | _ => .none
  | .none, _ => .none
  | .bool _, _ => .none
  | .int _, _ => .none
  | .str _, _ => .none
  | .gint .., _ => .none
  | .neg _, _ => .none
  | .bin .., _ => .none
  | .andV .., _ => .none
  | .ite .., _ => .none
  | .mcall .., _ => .none
  | .len _, _ => .none
  | .min2 .., _ => .none
  | .lrange .., _ => .none
  | .tupOf _, _ => .none
  | .index .., _ => .none
  | .join .., _ => .none
  | .numeric _, _ => .none
  | .chars _, _ => .none
  | .sub .., _ => .none
  | .slice .., _ => .none
  | .upto .., _ => .none
  | .rev _, _ => .none
  | .tup _, _ => .none
  | .list _, _ => .none
  | .mlist, _ => .none
  | .freeze _, _ => .none
  | .comp .., _ => .none
noncomputable def dTs (K : Frag) (sc : Sc) : (m : List ME) → (e : List Expr) → Pf (RTs K sc m e)
  | [], es => match es with | [] => mapP (fun h => And.intro rfl h) (yes) | _ => .none
  | m :: ms, es => match es with | e :: es' => mapP (fun h => Exists.intro e <| Exists.intro es' <| And.intro rfl h) (both (dT K sc m e) (dTs K sc ms es')) | _ => .none
end

structure ScOk (sc : Sc) (cx : Cx) : Prop where
  names : cx.names = sc.names
  glob : ∀ y, sc.glob y = true → cx.env.kindOf y = some .globalImplicit
  cell : ∀ y, sc.cell y = true → cx.env.kindOf y = some .cell
  var : ∀ y, sc.var y = true → cx.env.kindOf y = some .local ∨ cx.env.kindOf y = some .cell
end Mine
end

section
set_option autoImplicit false
set_option maxRecDepth 100000
namespace Mine

section
variable {prog : Program} {wo : World} {K : Frag} {base : Heap} {p : Program} {loose : List Str} {mean : ExcName → Option Value} {mg mb : Str → Option Value} {cx : Cx} {n : Nat} {lo : Lo} {H : Hp} {w : Wd} {fa : Fn → Addr} {sc : Sc} {cf : CF}

theorem okName_iff {y : Str} (h : okName y = true) : (y == ("__debug__" : Str)) = false ∧ (y == ("__classdict__" : Str)) = false ∧ y ≠ "__name__" := by
  unfold okName at h
  simp only [Bool.and_eq_true, Bool.not_eq_true'] at h
  exact ⟨h.1.1, h.1.2, fun e => by rw [e] at h; simp at h⟩

theorem boot_of {y : Str} {b : String} {fn : Value} (S : ScOk sc cx) (h : bootOk sc K y b = true) (hb : bootBuiltins (Str.ofString b) = some fn) (ht : isBT fn = true) : BootName K cx y fn := by
  unfold bootOk at h
  simp only [Bool.and_eq_true] at h
  obtain ⟨⟨⟨h1, h2⟩, h3⟩, h4⟩ := h
  have o := okName_iff h3
  have e := beq_iff_eq.mp h1
  refine ⟨S.glob _ h2, ?_, o.2.2, e ▸ hb, o.1, ht⟩
  split at h4
  · assumption
  · cases h4
theorem bn_len : bootBuiltins (Str.ofString "len") = some (.builtin "len") := by kernel_rfl
theorem bn_min : bootBuiltins (Str.ofString "min") = some (.builtin "min") := by kernel_rfl
theorem bn_tuple : bootBuiltins (Str.ofString "tuple") = some (.type "tuple") := by kernel_rfl
theorem bn_list : bootBuiltins (Str.ofString "list") = some (.type "list") := by kernel_rfl
theorem bn_range : bootBuiltins (Str.ofString "range") = some (.type "range") := by kernel_rfl

theorem getL_meth {f : Fn} (hf : isMeth f = true) (h₁ h₂ : Int) (t₁ t₂ : Tok) (a b : Addr) : getL (Str.ofString (fnName f)) [⟨h₁, .str (Str.ofString "numeric") t₁, .ref a⟩, ⟨h₂, .str (Str.ofString "characters") t₂, .ref b⟩] = some none := by
  cases f <;> first | cases hf; done | kernel_rfl

theorem compOk_iff {cs : Scope} {x : Nat} {xs : Str} {fv : List Nat} (S : ScOk sc cx) (h : compOk sc cs x xs fv = true) : CompScope cx cs x xs fv := by
  unfold compOk at h
  simp only [Bool.and_eq_true, List.all_eq_true, Bool.or_eq_true, Bool.not_eq_true', beq_iff_eq, beq_eq_false_iff_ne, ne_eq] at h
  obtain ⟨⟨⟨⟨h1, h2⟩, h3⟩, h4⟩, h5⟩ := h
  refine ⟨h1, fun y m => (h2 y m).1.1, fun y m e => ((h2 y m).1.2).resolve_left (fun q => q e), h3, S.names ▸ h4, fun y m e => S.cell _ (((h2 y m).2).resolve_left fun q => q e), fun i m => ⟨(h5 i m).1, ?_⟩⟩
  have := (h5 i m).2
  split at this
  · rename_i y hy
    exact ⟨y, S.names ▸ hy, beq_iff_eq.mp this⟩
  · cases this

theorem snd_freeze {T : PT Value} {r : Option (Rx DV)} (C : CxOk base cx n) (h : SndW base cx (VRel base) T lo H r w) :
    SndW base cx (VRel base) T lo H (bnd r fun (x : DV) H₁ => match x with
      | .ml i => (H₁[i]?.join).bind fun ds => some (.ok (.d (.list ds)) (H₁.set i .none))
      | _ => .none) w := by
  refine SndW.of (SndW.bnd (f := fun v Q _ s => Q v s) C h fun x H₁ v w' _ _ hv => ?_) fun _ _ _ _ h => h
  split
  · rename_i i _
    intro s Q E st ok er ne
    cases hd : H₁[i]?.join with
    | none => rw [hd] at ne; exact absurd rfl ne
    | some ds =>
      rw [hd] at ok
      obtain ⟨_, rfl, hr⟩ := hv.ml_inv
      obtain ⟨a, o, vs, nn, h1, h2, h3, h4, h5, h6, h7⟩ := st.hp.live i ds (Option.join_eq_some_iff.mp hd)
      rw [hr] at h1; cases h1
      have hm := List.mem_of_getElem? hr
      refine ok _ _ rfl _ ⟨w'.ρ, (_, o) :: w'.pool⟩ s ⟨⟨⟨[], by simp, fun _ m => nomatch m⟩, fun p m => .tail _ m⟩, .refl, ?_, s.toks, rfl⟩ (.d (.list (.head _) h3 ⟨h4, by rw [h7], by rw [h7]⟩ (h5.mono fun x m => .tail _ m)))
      refine ⟨by simp [st.hp.len], st.hp.nodup, fun j ds' e => ?_, fun p m => ?_, st.hp.there, st.hp.offB, st.hp.offR, fun p m => ?_⟩
      · by_cases q : i = j
        · subst q
          by_cases hl : i < H₁.length
          · rw [List.getElem?_set_self hl] at e; cases e
          · rw [List.getElem?_eq_none (by simp; lia)] at e; cases e
        · rw [List.getElem?_set_ne q] at e
          obtain ⟨b, o', vs', n', a1, a2, a3, a4, a5, a6, a7⟩ := st.hp.live j ds' e
          refine ⟨b, o', vs', n', a1, a2, a3, a4, a5.mono fun x m => .tail _ m, fun p m => ?_, a7⟩
          rcases List.mem_cons.mp m with rfl | m
          · intro z
            refine q ((List.getElem?_inj (List.getElem?_eq_some_iff.mp hr).1 st.hp.nodup).mp (hr.trans (a1.trans ?_).symm))
            rw [← z]
          · exact a6 p m
      · rcases List.mem_cons.mp m with rfl | m
        · exact h2
        · exact st.hp.pool p m
      · rcases List.mem_cons.mp m with rfl | m
        · exact st.hp.offR _ hm
        · exact st.hp.offP p m
  · exact snd_stuck

theorem evEs_len : ∀ {ms : List ME} {lo : Lo} {H : Hp} {vs : List DV} {H' : Hp}, evEs cf lo ms H = some (.ok vs H') → vs.length = ms.length
  | [], _, _, _, _, h => by change some (Rx.ok ([] : List DV) _) = _ at h; cases h; rfl
  | m :: ms, lo, H, vs, H', h => by
    change bnd (evE cf lo m H) _ = _ at h
    cases q1 : evE cf lo m H with
    | none => rw [q1] at h; cases h
    | some r =>
      cases r with
      | err t H₁ => rw [q1] at h; cases h
      | ok v H₁ =>
        rw [q1] at h
        change bnd (evEs cf lo ms H₁) _ = _ at h
        cases q2 : evEs cf lo ms H₁ with
        | none => rw [q2] at h; cases h
        | some r =>
          cases r with
          | err t H₂ => rw [q2] at h; cases h
          | ok us H₂ =>
            rw [q2] at h
            cases h
            rw [List.length_cons, List.length_cons, evEs_len q2]
theorem REs_len : ∀ {ms : List ME} {es : List Expr}, REs K sc ms es → ms.length = es.length
  | [], _, h => by obtain ⟨rfl, _⟩ := h; rfl
  | m :: ms, _, h => by
    obtain ⟨e, es', rfl, h⟩ := h
    rw [List.length_cons, List.length_cons, REs_len h.2]
theorem REs_star : ∀ {ms : List ME} {es : List Expr}, REs K sc ms es → es.all notStar = true
  | [], _, h => by obtain ⟨rfl, _⟩ := h; rfl
  | m :: ms, _, h => by
    obtain ⟨e, es', rfl, h⟩ := h
    rw [List.all_cons, h.1.1, REs_star h.2]; rfl

end
end Mine
end

section
set_option autoImplicit false
set_option maxRecDepth 100000
namespace Mine

section
variable {prog : Program} {wo : World} {K : Frag} {base : Heap} {p : Program} {loose : List Str} {mean : ExcName → Option Value} {mg mb : Str → Option Value} {n : Nat} {fa : Fn → Addr} {cf : CF}

theorem snd_callE {cx : Cx} {sc : Sc} {lo : Lo} {H : Hp} {w : Wd} {f : Fn} {es : List ME} {y : Str} {np pos : Pos} {args : List Expr} (C : CxOk base cx n) (S : ScOk sc cx) (G : Gd K base p loose mean mg mb) (kf : KFacts K fa) (cok : CallOk prog wo base fa cf n)
    (h : (((((y == Str.ofString (fnName f))) = true ∧ (isMeth f) = false) ∧ (sc.glob y) = true) ∧ (okName y) = true) ∧ REs K sc es args)
    (he : SndW base cx (VAll base) (fun Q E s => wpAny (model prog wo) cx.A (spliced (backTo pos (starEach args cx.env))) Q E s) lo H (evEs cf lo es H) w) :
    SndW base cx (VRel base) (ET prog wo cx (.Call (.Name y np) args [] pos)) lo H (bnd (evEs cf lo es H) fun vs H₁ => cf f vs H₁) w := by
  obtain ⟨⟨⟨⟨h1, h2⟩, h3⟩, h4⟩, h5⟩ := h
  refine snd_call C G kf cok (REs_star h5) h2 (beq_iff_eq.mp h1) (S.glob _ h3) (okName_iff h4).1 (fun e => ?_) he
  have := REs_len h5
  rw [e] at this
  cases es with
  | nil => rfl
  | cons => cases this

noncomputable def SE (prog : Program) (wo : World) (K : Frag) (base : Heap) (n : Nat) (cf : CF) (m : ME) : Prop := ∀ (sc : Sc) (cx : Cx) (e : Expr) (lo : Lo) (H : Hp) (w : Wd), RE K sc m e → ScOk sc cx → CxOk base cx n → SndW base cx (VRel base) (ET prog wo cx e) lo H (evE cf lo m H) w
noncomputable def SEs (prog : Program) (wo : World) (K : Frag) (base : Heap) (n : Nat) (cf : CF) (ms : List ME) : Prop := ∀ (sc : Sc) (cx : Cx) (es : List Expr) (lo : Lo) (H : Hp) (w : Wd) (pos : Pos), REs K sc ms es → ScOk sc cx → CxOk base cx n →
    SndW base cx (VAll base) (fun Q E s => wpAny (model prog wo) cx.A (spliced (backTo pos (starEach es cx.env))) Q E s) lo H (evEs cf lo ms H) w
noncomputable def ST (prog : Program) (wo : World) (K : Frag) (base : Heap) (n : Nat) (cf : CF) (m : ME) : Prop := ∀ (sc : Sc) (cx : Cx) (e : Expr) (lo : Lo) (H : Hp) (w : Wd), RT K sc m e → ScOk sc cx → CxOk base cx n → SndW base cx VB (TT prog wo cx e) lo H (evT cf lo m H) w
noncomputable def STs (prog : Program) (wo : World) (K : Frag) (base : Heap) (n : Nat) (cf : CF) (ms : List ME) : Prop := ∀ (sc : Sc) (cx : Cx) (es : List Expr) (lo : Lo) (H : Hp) (w : Wd) (pos : Pos), RTs K sc ms es → ScOk sc cx → CxOk base cx n →
    SndW base cx VB (TT prog wo cx (.BoolOp .And es pos)) lo H (evAll cf lo ms H) w ∧ SndW base cx VB (TT prog wo cx (.BoolOp .Or es pos)) lo H (evAny cf lo ms H) w

mutual
theorem sndE (G : Gd K base p loose mean mg mb) (kf : KFacts K fa) (cok : CallOk prog wo base fa cf n) : ∀ (m : ME), SE prog wo K base n cf m
  | .var x => fun sc cx e lo H w h S C => by
    obtain ⟨y, z1, rfl, h⟩ := h
    have o := okName_iff h.2
    exact snd_var C (S.names ▸ beq_iff_eq.mp h.1) o.1 o.2.1
  | .none => fun sc cx e lo H w h S C => by
    obtain ⟨z1, z2, rfl, h⟩ := h
    exact snd_none
  | .bool b => fun sc cx e lo H w h S C => by
    obtain ⟨c, z1, z2, rfl, h⟩ := h
    rw [beq_iff_eq.mp h]; exact snd_bool
  | .int i => fun sc cx e lo H w h S C => by
    obtain ⟨j, z1, z2, rfl, h⟩ := h
    rw [of_decide_eq_true h]; exact snd_int
  | .str s => fun sc cx e lo H w h S C => by
    obtain ⟨t, z1, z2, rfl, h⟩ := h
    obtain rfl := beq_iff_eq.mp h; exact snd_str
  | .gint y i => fun sc cx e lo H w h S C => by
    obtain ⟨z, z1, rfl, h⟩ := h
    obtain ⟨⟨⟨h1, h2⟩, h3⟩, h4⟩ := h
    unfold isIntAt at h4
    split at h4
    · rename_i q
      rw [of_decide_eq_true h4]; exact snd_gint C G (S.glob _ h2) q (okName_iff h3).1
    · cases h4
  | .neg i => fun sc cx e lo H w h S C => by
    obtain ⟨j, z1, z2, z3, rfl, h⟩ := h
    rw [of_decide_eq_true h]; exact snd_neg
  | .bin o a b => fun sc cx e lo H w h S C => by
    obtain ⟨l, op, r, z1, rfl, h⟩ := h
    obtain ⟨⟨h1, h2⟩, h3⟩ := h
    rw [opEq_eq h1]
    exact sndE_bin C (sndE G kf cok a sc cx _ lo H w h2 S C) fun H w => sndE G kf cok b sc cx _ lo H w h3 S C
  | .cmp c a b => fun sc cx e lo H w h S C => by
    obtain ⟨l, op, r, z1, rfl, h⟩ := h
    obtain ⟨⟨⟨h1, h2⟩, h3⟩, h4⟩ := h
    obtain rfl := cmEq_eq h1
    exact sndE_cmp C h2 (sndE G kf cok a sc cx _ lo H w h3 S C) fun H w => sndE G kf cok b sc cx _ lo H w h4 S C
  | .ite c a b => fun sc cx e lo H w h S C => by
    obtain ⟨t, x, y, z1, rfl, h⟩ := h
    obtain ⟨⟨h1, h2⟩, h3⟩ := h
    exact sndE_ite C (sndT G kf cok c sc cx _ lo H w h1 S C) (fun H w => sndE G kf cok a sc cx _ lo H w h2 S C) fun H w => sndE G kf cok b sc cx _ lo H w h3 S C
  | .andV a b => fun sc cx e lo H w h S C => by
    obtain ⟨x, y, z1, rfl, h⟩ := h
    exact sndE_andV C (sndE G kf cok a sc cx _ lo H w h.1 S C) fun H w => sndE G kf cok b sc cx _ lo H w h.2 S C
  | .call f es => fun sc cx e lo H w h S C => by
    obtain ⟨y, z1, args, z2, rfl, h⟩ := h
    refine snd_callE C S G kf cok h (sndEs G kf cok es sc cx _ lo H w _ ?_ S C)
    exact h.2
  | .mcall f o es => fun sc cx e lo H w h S C => by
    obtain ⟨y, np, name, apos, args, pos, rfl, h⟩ := h
    obtain ⟨⟨⟨⟨⟨h1, h2⟩, h3⟩, h4⟩, h5⟩, h6⟩ := h
    refine snd_mcall C G kf cok (REs_star h6) (of_decide_eq_true h4) h2 (beq_iff_eq.mp h1) h3 (fun e H => ?_) (fun _ _ _ _ _ _ => by rw [beq_iff_eq.mp h1]; exact getL_meth h2 _ _ _ _ _ _) (sndE G kf cok o sc cx _ lo H w h5 S C) fun H w => sndEs G kf cok es sc cx _ lo H w _ h6 S C
    have := REs_len h6
    rw [e] at this
    cases es with
    | nil => rfl
    | cons => cases this
  | .len a => fun sc cx e lo H w h S C => by
    obtain ⟨y, z1, x, z2, rfl, h⟩ := h
    obtain ⟨⟨h1, h2⟩, h3⟩ := h
    exact sndE_len C G (boot_of S h1 bn_len rfl) h2 (sndE G kf cok a sc cx _ lo H w h3 S C)
  | .tupOf a => fun sc cx e lo H w h S C => by
    obtain ⟨y, z1, x, z2, rfl, h⟩ := h
    obtain ⟨⟨h1, h2⟩, h3⟩ := h
    exact sndE_tupOf C G (boot_of S h1 bn_tuple rfl) h2 (sndE G kf cok a sc cx _ lo H w h3 S C)
  | .min2 a b => fun sc cx e lo H w h S C => by
    obtain ⟨y, z1, x, z, z2, rfl, h⟩ := h
    obtain ⟨⟨⟨⟨h1, h2⟩, h3⟩, h4⟩, h5⟩ := h
    exact sndE_min2 C G (boot_of S h1 bn_min rfl) h2 h3 (sndE G kf cok a sc cx _ lo H w h4 S C) fun H w => sndE G kf cok b sc cx _ lo H w h5 S C
  | .lrange a b => fun sc cx e lo H w h S C => by
    obtain ⟨y, z1, y', z2, x, z, z3, z4, rfl, h⟩ := h
    obtain ⟨⟨⟨⟨⟨h1, h1'⟩, h2⟩, h3⟩, h4⟩, h5⟩ := h
    exact sndE_lrange C G (boot_of S h1 bn_list rfl) (boot_of S h1' bn_range rfl) h2 h3 (sndE G kf cok a sc cx _ lo H w h4 S C) fun H w => sndE G kf cok b sc cx _ lo H w h5 S C
  | .index a b => fun sc cx e lo H w h S C => by
    obtain ⟨y, np, name, apos, x, pos, rfl, h⟩ := h
    obtain ⟨⟨⟨⟨h1, h2⟩, h3⟩, h4⟩, h5⟩ := h
    obtain rfl := beq_iff_eq.mp h1
    exact sndE_index C (fun _ => rfl) h3 h2 (sndE G kf cok a sc cx _ lo H w h4 S C) fun H w => sndE G kf cok b sc cx _ lo H w h5 S C
  | .join a b => fun sc cx e lo H w h S C => by
    obtain ⟨t, z1, z2, name, apos, x, pos, rfl, h⟩ := h
    obtain ⟨⟨⟨⟨h1, h2⟩, h3⟩, h4⟩, h5⟩ := h
    obtain rfl := beq_iff_eq.mp h1
    obtain ⟨s, rfl, rfl⟩ := isStr_eq h4
    exact sndE_join C h3 h2 (sndE G kf cok b sc cx _ lo H w h5 S C)
  | .numeric a => fun sc cx e lo H w h S C => by
    obtain ⟨y, np, name, z1, rfl, h⟩ := h
    obtain rfl := beq_iff_eq.mp h.1
    exact snd_numeric C G kf (sndE G kf cok a sc cx _ lo H w h.2 S C)
  | .chars a => fun sc cx e lo H w h S C => by
    obtain ⟨y, np, name, z1, rfl, h⟩ := h
    obtain rfl := beq_iff_eq.mp h.1
    exact snd_chars C G kf (sndE G kf cok a sc cx _ lo H w h.2 S C)
  | .sub a b => fun sc cx e lo H w h S C => by
    obtain ⟨x, i, z1, rfl, h⟩ := h
    obtain ⟨⟨h1, h2⟩, h3⟩ := h
    refine sndE_sub C (fun _ _ => ?_) (sndE G kf cok a sc cx _ lo H w h2 S C) fun H w => sndE G kf cok b sc cx _ lo H w h3 S C
    cases i <;> first | rfl | cases h1
  | .slice a b c => fun sc cx e lo H w h S C => by
    obtain ⟨x, l, u, z1, z2, rfl, h⟩ := h
    obtain ⟨⟨h1, h2⟩, h3⟩ := h
    exact sndE_slice C (sndE G kf cok a sc cx _ lo H w h1 S C) (fun H w => sndE G kf cok b sc cx _ lo H w h2 S C) fun H w => sndE G kf cok c sc cx _ lo H w h3 S C
  | .upto a c => fun sc cx e lo H w h S C => by
    obtain ⟨x, u, z1, z2, rfl, h⟩ := h
    exact sndE_upto C (sndE G kf cok a sc cx _ lo H w h.1 S C) fun H w => sndE G kf cok c sc cx _ lo H w h.2 S C
  | .rev a => fun sc cx e lo H w h S C => by
    obtain ⟨x, z1, z2, z3, z4, z5, rfl, h⟩ := h
    exact sndE_rev C (sndE G kf cok a sc cx _ lo H w h S C)
  | .tup es => fun sc cx e lo H w h S C => by
    obtain ⟨args, z1, z2, rfl, h⟩ := h
    exact snd_tup C (sndEs G kf cok es sc cx _ lo H w _ h.2 S C) (of_decide_eq_true h.1) fun vs H' e => (evEs_len e).trans (REs_len h.2)
  | .list es => fun sc cx e lo H w h S C => by
    obtain ⟨args, z1, rfl, h⟩ := h
    exact snd_list C (sndEs G kf cok es sc cx _ lo H w _ h.2 S C) (of_decide_eq_true h.1) fun vs H' e => (evEs_len e).trans (REs_len h.2)
  | .mlist => fun sc cx e lo H w h S C => by
    obtain ⟨z1, rfl, h⟩ := h
    exact snd_mlist C
  | .freeze a => fun sc cx e lo H w h S C => by
    change RE K sc a e at h
    exact snd_freeze C (sndE G kf cok a sc cx _ lo H w h S C)
  | .comp elt x fv a => fun sc cx e lo H w h S C => by
    obtain ⟨el, xs, z1, y, z2, z, z3, cs, z4, rfl, h⟩ := h
    obtain ⟨⟨⟨⟨h1, h2⟩, h3⟩, h4⟩, h5⟩ := h
    have Sc := compOk_iff S h3
    refine sndE_comp C G Sc (boot_of S h1 bn_range rfl) h2 (sndE G kf cok a sc cx _ lo H w h5 S C) fun Cd D It v H w => ?_
    exact sndE G kf cok elt _ _ _ _ H w h4 ⟨S.names, (fun _ e => by cases e), (fun _ e => by cases e), (fun _ e => by cases e)⟩ (Sc.cxOk C)
  | .chain2 .. => fun sc cx e lo H w h S C => by exact False.elim h
  | .chain3 .. => fun sc cx e lo H w h S C => by exact False.elim h
  | .not .. => fun sc cx e lo H w h S C => by exact False.elim h
  | .bools .. => fun sc cx e lo H w h S C => by exact False.elim h
theorem sndEs (G : Gd K base p loose mean mg mb) (kf : KFacts K fa) (cok : CallOk prog wo base fa cf n) : ∀ (ms : List ME), SEs prog wo K base n cf ms
  | [] => fun sc cx es lo H w pos h S C => by
    obtain ⟨rfl, h⟩ := h
    exact snd_nil
  | m :: ms => fun sc cx es lo H w pos h S C => by
    obtain ⟨e, es', rfl, h⟩ := h
    obtain ⟨⟨h1, h2⟩, h3⟩ := h
    exact snd_cons (k := fun H₁ => evEs cf lo ms H₁) C h1 (sndE G kf cok m sc cx _ lo H w h2 S C) fun H w => sndEs G kf cok ms sc cx _ lo H w _ h3 S C
theorem sndT (G : Gd K base p loose mean mg mb) (kf : KFacts K fa) (cok : CallOk prog wo base fa cf n) : ∀ (m : ME), ST prog wo K base n cf m
  | .not a => fun sc cx e lo H w h S C => by
    obtain ⟨x, z1, rfl, h⟩ := h
    exact sndT_not C (sndT G kf cok a sc cx _ lo H w h S C)
  | .bools b es => fun sc cx e lo H w h S C => by
    obtain ⟨op, args, z1, rfl, h⟩ := h
    cases b with
    | true =>
      cases op with
      | And => exact (sndTs G kf cok es sc cx args lo H w z1 h.2 S C).1
      | Or => cases h.1
    | false =>
      cases op with
      | Or => exact (sndTs G kf cok es sc cx args lo H w z1 h.2 S C).2
      | And => cases h.1
  | .cmp c a b => fun sc cx e lo H w h S C => by
    obtain ⟨l, op, r, z1, rfl, h⟩ := h
    obtain ⟨⟨⟨h1, h2⟩, h3⟩, h4⟩ := h
    obtain rfl := cmEq_eq h1
    exact sndT_cmp C h2 (sndE G kf cok a sc cx _ lo H w h3 S C) fun H w => sndE G kf cok b sc cx _ lo H w h4 S C
  | .chain2 c₁ c₂ a b d => fun sc cx e lo H w h S C => by
    obtain ⟨l, o₁, o₂, x, y, z1, rfl, h⟩ := h
    obtain ⟨⟨⟨⟨⟨h1, h2⟩, h3⟩, h4⟩, h5⟩, h6⟩ := h
    obtain rfl := cmEq_eq h1
    obtain rfl := cmEq_eq h2
    refine SndW.of (SndW.bnd (f := fun v Q E s => wpAny (model prog wo) cx.A (testChain z1 v [cmOf c₁, cmOf c₂] [eval x cx.env, eval y cx.env]) Q E s) C (sndE G kf cok a sc cx _ lo H w h4 S C) fun xv H₁ v w' _ _ hv => ?_) fun _ _ _ _ h => isTrue_chain h h3
    exact sndT_link (z := fun y' H₂ => bnd (evE cf lo d H₂) fun z H₃ => up ((datOf y').bind fun y => (datOf z).bind fun z => cmpD c₂ y z) H₃) C hv (sndE G kf cok b sc cx _ lo H₁ w' h5 S C) fun u yv H w hu => sndT_last C hu (sndE G kf cok d sc cx _ lo H w h6 S C)
  | .chain3 c₁ c₂ c₃ a b d f => fun sc cx e lo H w h S C => by
    obtain ⟨l, o₁, o₂, o₃, x, y, z, z1, rfl, h⟩ := h
    obtain ⟨⟨⟨⟨⟨⟨⟨h1, h2⟩, h2'⟩, h3⟩, h4⟩, h5⟩, h6⟩, h7⟩ := h
    obtain rfl := cmEq_eq h1
    obtain rfl := cmEq_eq h2
    obtain rfl := cmEq_eq h2'
    refine SndW.of (SndW.bnd (f := fun v Q E s => wpAny (model prog wo) cx.A (testChain z1 v [cmOf c₁, cmOf c₂, cmOf c₃] [eval x cx.env, eval y cx.env, eval z cx.env]) Q E s) C (sndE G kf cok a sc cx _ lo H w h4 S C) fun xv H₁ v w' _ _ hv => ?_) fun _ _ _ _ h => isTrue_chain h h3
    refine sndT_link (z := fun y' H₂ => bnd (evE cf lo d H₂) fun z H₃ => match (datOf y').bind fun y => (datOf z).bind fun z => cmpD c₂ y z with
      | some true => bnd (evE cf lo f H₃) fun u H₄ => up ((datOf z).bind fun z => (datOf u).bind fun u => cmpD c₃ z u) H₄
      | some false => some (.ok false H₃)
      | .none => .none) C hv (sndE G kf cok b sc cx _ lo H₁ w' h5 S C) fun u yv H w hu => ?_
    exact sndT_link (z := fun y' H₂ => bnd (evE cf lo f H₂) fun z H₃ => up ((datOf y').bind fun y => (datOf z).bind fun z => cmpD c₃ y z) H₃) C hu (sndE G kf cok d sc cx _ lo H w h6 S C) fun u yv H w hu => sndT_last C hu (sndE G kf cok f sc cx _ lo H w h7 S C)
  | .var x => fun sc cx e lo H w h S C => by
    obtain ⟨y, z1, rfl, h⟩ := h
    have o := okName_iff h.2
    refine SndW.eq (sndT_plain C (fun _ => rfl) (snd_var C (S.names ▸ beq_iff_eq.mp h.1) o.1 o.2.1)) ?_
    show _ = up ((lo[x]?.join).bind boolOf) H
    cases lo[x]?.join <;> rfl
  | .call f es => fun sc cx e lo H w h S C => by
    obtain ⟨y, z1, args, z2, rfl, h⟩ := h
    refine sndT_plain C (fun _ => rfl) (snd_callE C S G kf cok h (sndEs G kf cok es sc cx _ lo H w _ ?_ S C))
    exact h.2
  | .none => fun sc cx e lo H w h S C => by exact False.elim h
  | .bool .. => fun sc cx e lo H w h S C => by exact False.elim h
  | .int .. => fun sc cx e lo H w h S C => by exact False.elim h
  | .str .. => fun sc cx e lo H w h S C => by exact False.elim h
  | .gint .. => fun sc cx e lo H w h S C => by exact False.elim h
  | .neg .. => fun sc cx e lo H w h S C => by exact False.elim h
  | .bin .. => fun sc cx e lo H w h S C => by exact False.elim h
  | .andV .. => fun sc cx e lo H w h S C => by exact False.elim h
  | .ite .. => fun sc cx e lo H w h S C => by exact False.elim h
  | .mcall .. => fun sc cx e lo H w h S C => by exact False.elim h
  | .len .. => fun sc cx e lo H w h S C => by exact False.elim h
  | .min2 .. => fun sc cx e lo H w h S C => by exact False.elim h
  | .lrange .. => fun sc cx e lo H w h S C => by exact False.elim h
  | .tupOf .. => fun sc cx e lo H w h S C => by exact False.elim h
  | .index .. => fun sc cx e lo H w h S C => by exact False.elim h
  | .join .. => fun sc cx e lo H w h S C => by exact False.elim h
  | .numeric .. => fun sc cx e lo H w h S C => by exact False.elim h
  | .chars .. => fun sc cx e lo H w h S C => by exact False.elim h
  | .sub .. => fun sc cx e lo H w h S C => by exact False.elim h
  | .slice .. => fun sc cx e lo H w h S C => by exact False.elim h
  | .upto .. => fun sc cx e lo H w h S C => by exact False.elim h
  | .rev .. => fun sc cx e lo H w h S C => by exact False.elim h
  | .tup .. => fun sc cx e lo H w h S C => by exact False.elim h
  | .list .. => fun sc cx e lo H w h S C => by exact False.elim h
  | .mlist => fun sc cx e lo H w h S C => by exact False.elim h
  | .freeze .. => fun sc cx e lo H w h S C => by exact False.elim h
  | .comp .. => fun sc cx e lo H w h S C => by exact False.elim h
theorem sndTs (G : Gd K base p loose mean mg mb) (kf : KFacts K fa) (cok : CallOk prog wo base fa cf n) : ∀ (ms : List ME), STs prog wo K base n cf ms
  | [] => fun sc cx es lo H w pos h S C => by
    obtain ⟨rfl, h⟩ := h
    exact ⟨sndT_true, sndT_false⟩
  | m :: ms => fun sc cx es lo H w pos h S C => by
    obtain ⟨e, es', rfl, h⟩ := h
    have h1 := sndT G kf cok m sc cx _ lo H w h.1 S C
    exact ⟨sndT_and C h1 fun H w => (sndTs G kf cok ms sc cx _ lo H w pos h.2 S C).1, sndT_or C h1 fun H w => (sndTs G kf cok ms sc cx _ lo H w pos h.2 S C).2⟩
end
end
end Mine
end

section
set_option autoImplicit false
set_option maxRecDepth 100000
namespace Mine

/-- an exception of the class RunFault on its way: fresh, noted, or out of a call -/
noncomputable def Core (m : Md) (B : Heap) (l : List Env) (L : Addr) (e : Addr) (a0 : Value) (h : Heap) : Prop :=
  match m with
  | .fly => Heap.FlyingW B l e (.ref rfCls) a0 h
  | .held => Heap.HeldW B l e (.ref rfCls) a0 L h
  | .fresh => B.StaysIn h ∧ B.get? e = none ∧ h.FunFrames B l ∧ ∃ oe vs, h.get? e = some oe ∧ oe.cls = .ref rfCls ∧ oe.data = .fields vs ∧ vs[0]? = some a0 ∧ vs[1]? = some .none

inductive FlyM (m : Md) (base : Heap) (l : List Env) (L : Addr) (R X : List Addr) (w : Wd) (s : Shared) (t : Str) (H' : Hp) (w' : Wd) (e : Addr) (s' : Shared) : Prop where
  | mk (B : Heap) (t0 dx : Addr) (oe : Obj) (kh : Int) (k₁ k₂ : Tok) (h1 : Core m B l L e (.ref t0) s'.heap) (h2 : s'.heap.get? e = some oe) (h3 : oe.dict = some dx) (h4 : B.get? dx = some (excDict kh k₁ k₂ t))
    (h5 : HpRel base w' H' R B) (h6 : base.StaysIn B) (h7 : ∀ b o, s.heap.get? b = some o → b ∉ X ++ w.ρ → b ∉ l.filterMap (·.frame) → B.get? b = some o) (h8 : ∀ b o, s.heap.get? b = some o → b ∉ l.filterMap (·.frame) → ∃ o', B.get? b = some o')
    (h9 : ∀ b ∈ l.filterMap (·.frame), ∃ m, s'.heap.Ns b m) (h10 : Step base R (l.filterMap (·.frame)) X w s w' H' s') : FlyM m base l L R X w s t H' w' e s'

/-- the places that are the block's own -/
noncomputable def Cx.own (cx : Cx) : List Addr := cx.env.locals :: cx.env.cells.map (·.2)

structure StS (base : Heap) (cx : Cx) (lo : Lo) (H : Hp) (w : Wd) (s : Shared) : Prop extends StE base cx lo H w s where
  cells : ∀ p ∈ cx.env.cells, ∃ v, s.heap.IsCell p.2 v

/-- a def's body, not a comprehension -/
structure FnOk (base : Heap) (cx : Cx) (n : Nat) : Prop extends CxOk base cx n where
  top : ∃ outer, cx.l = cx.env :: outer
  frame : cx.env.frame = some cx.env.locals
  dist : (cx.env.cells.map (·.2)).Nodup
  nd : cx.names.Nodup
  fresh : ∀ p ∈ cx.env.cells, base.get? p.2 = none

section
variable {prog : Program} {wo : World} {K : Frag} {base : Heap} {p : Program} {loose : List Str} {mean : ExcName → Option Value} {mg mb : Str → Option Value} {cx : Cx} {n : Nat} {lo : Lo} {H : Hp} {w : Wd} {fa : Fn → Addr} {sc : Sc} {cf : CF}

theorem FlyM.pre {m : Md} {l : List Env} {L : Addr} {R X : List Addr} {w w₁ w₂ : Wd} {s s₁ s₂ : Shared} {H₁ H₂ : Hp} {t : Str} {e : Addr} (k : Step base R (l.filterMap (·.frame)) X w s w₁ H₁ s₁)
    (f : FlyM m base l L R X w₁ s₁ t H₂ w₂ e s₂) : FlyM m base l L R X w s t H₂ w₂ e s₂ := by
  obtain ⟨B, t0, dx, oe, kh, k₁, k₂, h1, h2, h3, h4, h5, h6, h7, h9, h10, h8⟩ := f
  refine ⟨B, t0, dx, oe, kh, k₁, k₂, h1, h2, h3, h4, h5, h6, fun b o q n m => h7 b o (k.kept.same b o q n m) (fun q' => ?_) m, fun b o q m => let ⟨o', q'⟩ := k.kept.ex b o q; h9 b o' q' m, h10, k.trans h8⟩
  obtain ⟨tt, e', f'⟩ := k.grow.ρ
  rcases List.mem_append.mp q' with q' | q'
  · exact n (List.mem_append.mpr (.inl q'))
  · rw [e'] at q'
    rcases List.mem_append.mp q' with q' | q'
    · exact n (List.mem_append.mpr (.inr q'))
    · have := f' b q'; rw [q] at this; cases this
theorem Fly.toM {l : List Env} {L : Addr} {R X : List Addr} {w w' : Wd} {s s' : Shared} {H' : Hp} {t : Str} {e : Addr} (f : Fly base l R [] w s t H' w' e s') (hF : ∀ b ∈ l.filterMap (·.frame), (∃ m, s.heap.Ns b m) ∧ b ∉ w.ρ) : FlyM .fly base l L R X w s t H' w' e s' := by
  obtain ⟨B, t0, dx, oe, kh, k₁, k₂, h1, h2, h3, h4, h5, h6, h7, h9, h8⟩ := f
  exact ⟨B, t0, dx, oe, kh, k₁, k₂, h1, h2, h3, h4, h5, h6, fun b o q n m => h7 b o q (fun z => n (List.mem_append.mpr (.inr (by simpa using z)))) m, h9, fun b m => let ⟨⟨m', e⟩, hρ⟩ := hF b m; ⟨m', h8.kept.nsk b m' e (by simpa using hρ) m⟩, h8.mono fun _ m => nomatch m⟩

/-- T does, as a statement, what r says -/
noncomputable def SndS (base : Heap) (cx : Cx) (T : PT Flow) (lo : Lo) (H : Hp) (r : Option RS) (w : Wd) : Prop :=
  ∀ s Q E, StS base cx lo H w s →
    (∀ lo' H', r = some (.next lo' H') → ∀ w' s', Step base cx.R cx.F cx.own w s w' H' s' → StS base cx lo' H' w' s' → Q .next s') →
    (∀ d H', r = some (.ret d H') → ∀ v w' s', Step base cx.R cx.F cx.own w s w' H' s' → VRel base w' v d → Q (.ret v) s') →
    (∀ m t H', r = some (.err m t H') → ∀ e w' s', FlyM m base cx.l cx.env.locals cx.R cx.own w s t H' w' e s' → E (.ref e) s') → r ≠ none → T Q E s

theorem StS.stepE {H' : Hp} {w' : Wd} {s s' : Shared} (C : CxOk base cx n) (x : StS base cx lo H w s) (k : Step base cx.R cx.F [] w s w' H' s') : StS base cx lo H' w' s' :=
  ⟨x.toStE.step C k, fun p m => by
    obtain ⟨v, o, ho, hd⟩ := x.cells p m
    have hR := C.CR p m
    exact ⟨v, o, k.kept.same _ o ho (fun q => x.hp.offR _ (by simpa using q) hR.1) hR.2, hd⟩⟩

theorem SndS.stuck {T : PT Flow} : SndS base cx T lo H none w := fun _ _ _ _ _ _ _ ne => absurd rfl ne

theorem SndS.bnd {α β : Type} {V : Wd → β → α → Prop} {T : PT β} {f : β → PT Flow} {r : Option (Rx α)} {k : α → Hp → Option RS} (C : CxOk base cx n)
    (h₁ : SndW base cx V T lo H r w) (h₂ : ∀ a H₁ v w', r = some (.ok a H₁) → Ext w w' → V w' v a → SndS base cx (f v) lo H₁ (k a H₁) w') :
    SndS base cx (fun Q E s => T (fun v s₁ => f v Q E s₁) E s) lo H (bnS r k) w := by
  intro s Q E st nx rt er ne
  refine h₁ s _ E st.toStE (fun a H₁ e v w₁ s₁ k₁ hv => ?_) (fun t H₁ e x w₁ s₁ fl => er .fly t H₁ (by rw [e]; rfl) x w₁ s₁ (fl.toM fun b m => ⟨st.fr b m, fun q => st.hp.offR b q (C.FR b m)⟩)) (fun e => ne (by rw [e]; rfl))
  have km : Step base cx.R cx.F cx.own w s w₁ H₁ s₁ := k₁.mono fun _ m => nomatch m
  refine h₂ a H₁ v w₁ e k₁.grow.ext hv s₁ Q E (st.stepE C k₁) (fun lo' H' e' w' s' k' st' => nx lo' H' (by rw [e]; exact e') w' s' (km.trans k') st') (fun d H' e' v w' s' k' hv => rt d H' (by rw [e]; exact e') v w' s' (km.trans k') hv)
    (fun m t H' e' x w' s' fl => er m t H' (by rw [e]; exact e') x w' s' (fl.pre km)) fun e' => ne (by rw [e]; exact e')
theorem SndS.of {T T' : PT Flow} {r : Option RS} (h : SndS base cx T lo H r w) (ht : ∀ Q E s, StS base cx lo H w s → T Q E s → T' Q E s) : SndS base cx T' lo H r w :=
  fun s Q E st nx rt er ne => ht Q E s st (h s Q E st nx rt er ne)
noncomputable def seqR (r : Option RS) (k : Lo → Hp → Option RS) : Option RS := match r with
  | some (.next lo' H') => k lo' H'
  | x => x
theorem SndS.seq {T : PT Flow} {T₂ : PT Flow} {r : Option RS} {k : Lo → Hp → Option RS} 
    (h₁ : SndS base cx T lo H r w) (h₂ : ∀ lo' H₁ w', SndS base cx T₂ lo' H₁ (k lo' H₁) w') :
    SndS base cx (fun Q E s => T (fun fl s₁ => match fl with | .next => T₂ Q E s₁ | fl => Q fl s₁) E s) lo H (seqR r k) w := by
  intro s Q E st nx rt er ne
  refine h₁ s _ E st (fun lo' H₁ e w₁ s₁ k₁ st₁ => ?_) (fun d H' e v w' s' k' hv => rt d H' (by subst e; rfl) v w' s' k' hv) (fun m t H' e x w' s' fl => er m t H' (by subst e; rfl) x w' s' fl) (fun e => ne (by subst e; rfl))
  subst e
  exact h₂ lo' H₁ w₁ s₁ Q E st₁ (fun lo' H' e' w' s' k' st' => nx lo' H' e' w' s' (k₁.trans k') st') (fun d H' e' v w' s' k' hv => rt d H' e' v w' s' (k₁.trans k') hv)
    (fun m t H' e' x w' s' fl => er m t H' e' x w' s' (fl.pre k₁)) ne

/-- a name written -/
theorem wp_store {s : Shared} {x : Nat} {y : Str} {v : Value} {d : DV} {Q : Unit → Shared → Prop} {E : Value → Shared → Prop} (C : FnOk base cx n) (st : StS base cx lo H w s) (hx : cx.names[x]? = some y) (hk : cx.env.kindOf y = some .local ∨ cx.env.kindOf y = some .cell) (hv : VRel base w v d)
    (h : ∀ s', Step base cx.R cx.F cx.own w s w H s' → StS base cx (lo.set x (some d)) H w s' → Q () s') : wpAny (model prog wo) cx.A (storeName cx.env y v) Q E s := by
  have hL : cx.env.locals ∈ cx.F := by
    obtain ⟨outer, e⟩ := C.top
    exact List.mem_filterMap.mpr ⟨cx.env, by rw [e]; exact .head _, C.frame⟩
  have yi : ∀ i yi, cx.names[i]? = some yi → i ≠ x → yi ≠ y := fun i yi hi ne q => ne ((List.getElem?_inj (List.getElem?_eq_some_iff.mp hi).1 C.nd).mp (hi.trans (q ▸ hx.symm)))
  have lo_ne : ∀ i d', (lo.set x (some d))[i]? = some (some d') → i ≠ x → lo[i]? = some (some d') := fun i d' e ne => by rwa [List.getElem?_set_ne (Ne.symm ne)] at e
  have lo_eq : ∀ d', (lo.set x (some d))[x]? = some (some d') → d' = d := fun d' e => by
    by_cases hl : x < lo.length
    · rw [List.getElem?_set_self hl] at e; cases e; rfl
    · rw [List.getElem?_eq_none (by simp; lia)] at e; cases e
  have ex_of : ∀ a, (∃ o, s.heap.get? a = some o) → ∀ h' : Heap, Heap.SameBut a s.heap h' → (∃ o, h'.get? a = some o) → ∀ b o, s.heap.get? b = some o → ∃ o', h'.get? b = some o' := fun a _ h' hs ha b o e => by
    by_cases q : b = a
    · exact q ▸ ha
    · exact ⟨o, hs.extBut b o q e⟩
  rcases hk with hk | hk
  · obtain ⟨m, hm⟩ := st.fr _ hL
    refine wpAny_storeName_local hk hm (fun h' hn hs => ?_) (by simp [C.kind])
    have keep : ∀ b o, s.heap.get? b = some o → b ∉ cx.R → h'.get? b = some o := fun b o e r => hs.extBut b o (fun q => r (q ▸ C.LR)) e
    have cellk : ∀ p ∈ cx.env.cells, ∀ c, s.heap.IsCell p.2 c → h'.IsCell p.2 c := fun p m c hc => hc.sameBut hs fun q => (C.CR p m).2 (q ▸ hL)
    have hex := ex_of _ (ns_some hm) h' hs (ns_some hn)
    refine h _ ⟨.refl, ⟨hex, fun b o e n _ => hs.extBut b o (fun q => n (List.mem_append.mpr (.inl (q ▸ .head _)))) e, fun b m' e n _ => e.sameBut hs fun q => n (List.mem_append.mpr (.inl (q ▸ .head _)))⟩, st.hp.keeps keep, _, rfl⟩
      ⟨⟨st.hp.keeps keep, fun a m => let ⟨o, e⟩ := st.rin a m; hex a o e, fun b o e => hs.extBut b o (fun q => by have := C.offF hL; rw [← q, e] at this; cases this) (st.stays b o e), fun b m' => ?_, fun i d' e => ?_⟩, fun p m => let ⟨v, hc⟩ := st.cells p m; ⟨v, cellk p m v hc⟩⟩
    · by_cases q : b = cx.env.locals
      · exact ⟨_, q ▸ hn⟩
      · obtain ⟨m2, e2⟩ := st.fr b m'
        exact ⟨m2, e2.sameBut hs q⟩
    · by_cases q : i = x
      · subst q
        obtain rfl := lo_eq d' e
        exact ⟨y, v, hx, .inl ⟨hk, _, hn, if_pos rfl⟩, hv⟩
      · obtain ⟨y', v', hy', hl, hv'⟩ := st.lo i d' (lo_ne i d' e q)
        refine ⟨y', v', hy', ?_, hv'⟩
        rcases hl with ⟨hk', m2, hn2, hm2⟩ | ⟨hk', c, hc, hcc⟩
        · refine .inl ⟨hk', _, hn, ?_⟩
          rw [if_neg (yi i y' hy' q), ns_unique hm hn2]; exact hm2
        · exact .inr ⟨hk', c, hc, cellk _ (mem_of_lookup _ hc) _ hcc⟩
  · obtain ⟨c, hc⟩ := C.cells y hk
    have hm := mem_of_lookup _ hc
    obtain ⟨v₀, hcc⟩ := st.cells _ hm
    have hcO : c ∈ cx.own := .tail _ (List.mem_map.mpr ⟨_, hm, rfl⟩)
    refine wpAny_storeName_cell C.kind hk hc hcc fun h' hn hs => ?_
    have keep : ∀ b o, s.heap.get? b = some o → b ∉ cx.R → h'.get? b = some o := fun b o e r => hs.extBut b o (fun q => r (q ▸ (C.CR _ hm).1)) e
    have hcF : c ∉ cx.F := (C.CR _ hm).2
    have hex := ex_of c (let ⟨o, e, _⟩ := hcc; ⟨o, e⟩) h' hs (let ⟨o, e, _⟩ := hn; ⟨o, e⟩)
    refine h { s with heap := h' } ⟨.refl, ⟨hex, fun b o e n _ => hs.extBut b o (fun q => n (List.mem_append.mpr (.inl (q ▸ hcO)))) e, fun b m' e n _ => e.sameBut hs fun q => n (List.mem_append.mpr (.inl (q ▸ hcO)))⟩, st.hp.keeps keep, s.toks, rfl⟩
      ⟨⟨st.hp.keeps keep, fun a m => let ⟨o, e⟩ := st.rin a m; hex a o e, fun b o e => hs.extBut b o (fun q => ?_) (st.stays b o e), fun b m' => let ⟨m2, e2⟩ := st.fr b m'; ⟨m2, e2.sameBut hs fun q => hcF (q ▸ m')⟩, fun i d' e => ?_⟩, fun p m => ?_⟩
    · have := C.fresh _ hm; rw [← q, e] at this; cases this
    · by_cases q : i = x
      · subst q
        obtain rfl := lo_eq d' e
        exact ⟨y, v, hx, .inr ⟨.inl hk, c, hc, hn⟩, hv⟩
      · obtain ⟨y', v', hy', hl, hv'⟩ := st.lo i d' (lo_ne i d' e q)
        refine ⟨y', v', hy', ?_, hv'⟩
        rcases hl with ⟨hk', m2, hn2, hm2⟩ | ⟨hk', c', hc', hcc'⟩
        · exact .inl ⟨hk', m2, hn2.sameBut hs fun q => hcF (q ▸ hL), hm2⟩
        · refine .inr ⟨hk', c', hc', hcc'.sameBut hs fun q' => yi i y' hy' q ?_⟩
          subst q'
          obtain ⟨i1, e1⟩ := List.mem_iff_getElem?.mp hm
          obtain ⟨i2, e2⟩ := List.mem_iff_getElem?.mp (mem_of_lookup _ hc')
          have f1 : (cx.env.cells.map (·.2))[i1]? = some c' := by rw [List.getElem?_map, e1]; rfl
          have f2 : (cx.env.cells.map (·.2))[i2]? = some c' := by rw [List.getElem?_map, e2]; rfl
          have := (List.getElem?_inj (List.getElem?_eq_some_iff.mp f1).1 C.dist).mp (f1.trans f2.symm)
          subst this
          rw [e1] at e2; cases e2; rfl
    · by_cases q : p.2 = c
      · exact ⟨some v, q ▸ hn⟩
      · obtain ⟨v', hc'⟩ := st.cells p m
        exact ⟨v', hc'.sameBut hs q⟩
end
end Mine
end

section
set_option autoImplicit false
set_option maxRecDepth 100000
namespace Mine

section
variable {prog : Program} {wo : World} {K : Frag} {base : Heap} {p : Program} {loose : List Str} {mean : ExcName → Option Value} {mg mb : Str → Option Value} {cx : Cx} {n : Nat} {lo : Lo} {H : Hp} {w : Wd} {fa : Fn → Addr} {sc : Sc} {cf : CF}

/-- the tree of a statement -/
noncomputable abbrev XT (prog : Program) (wo : World) (cx : Cx) (t : Stmt) : PT Flow := fun Q E s => wpAny (model prog wo) cx.A (exec t cx.env) Q E s
noncomputable abbrev XTs (prog : Program) (wo : World) (cx : Cx) (ts : List Stmt) : PT Flow := fun Q E s => wpAny (model prog wo) cx.A (execs ts cx.env) Q E s

theorem ext_all {h h' : Heap} (e : Heap.ExtBut h.objs.size h h') : ∀ b o, h.get? b = some o → h'.get? b = some o := fun b o q => e b o (fun z => by have := Heap.lt_size q; rw [z] at this; exact Nat.lt_irrefl _ this) q

/-- a list turned by a function -/
theorem step_upd {s : Shared} {f : Array Value → Array Value} {i m tk : Nat} {a : Addr} {vs₀ vs : List Value} {ds₀ ds : List PyData} (C : CxOk base cx n) (st : StE base cx lo H w s) (hi : H[i]? = some (some ds₀)) (hr : w.ρ[i]? = some a)
    (hg : s.heap.get? a = some (listOf vs₀.toArray m)) (hv : DAll w.pool vs ds) (he : f vs₀.toArray = vs.toArray) :
    Step base cx.R cx.F [] w s w (H.set i (some ds)) { s with heap := s.heap.update a (Obj.mapSeq f), toks := tk } := by
  have hm : a ∈ w.ρ := List.mem_of_getElem? hr
  have q := PySem.IsL.update hg f
  rw [he] at q
  exact step_set st.hp hi hr (kept_sameBut (Heap.SameBut.update ..) (fun _ _ => ⟨_, q⟩) fun m => st.hp.offR a hm (C.FR a m)) C.FR q rfl hv

theorem StS.leaf {T : PT Flow} {H' : Hp} (C : CxOk base cx n) (h : ∀ s Q E, StS base cx lo H w s → (∀ w' s', Step base cx.R cx.F [] w s w' H' s' → Q .next s') → T Q E s) : SndS base cx T lo H (some (.next lo H')) w :=
  fun s Q E st nx _ _ _ => h s Q E st fun w' s' k => nx lo H' rfl w' s' (k.mono fun _ m => nomatch m) (st.stepE C k)

theorem live_of {s : Shared} {i : Nat} {a : Addr} {ds : List PyData} (st : StE base cx lo H w s) (hd : H[i]?.join = some ds) (hr : w.ρ[i]? = some a) : H[i]? = some (some ds) ∧ ∃ vs m, s.heap.get? a = some (listOf (List.toArray vs) m) ∧ DAll w.pool vs ds := by
  have hi := Option.join_eq_some_iff.mp hd
  obtain ⟨a', o, vs, nn, h1, h2, h3, h4, h5, h6, h7⟩ := st.hp.live i ds hi
  rw [hr] at h1; cases h1
  exact ⟨hi, vs, nn, by rw [h2, h7], h5⟩

noncomputable def isComp : Expr → Bool
  | .ListComp _ _ _ _ => true
  | .SetComp _ _ _ _ => true
  | .DictComp _ _ _ _ _ => true
  | _ => false
theorem swaps_no {e : Expr} {t : Option Expr} {l : Nat} {env : Env} (h : isComp e = false) : swapsWith e t l env = pure false := by
  cases e <;> first | rfl | cases h

theorem sndX_assign {e : Expr} {x : Nat} {y : Str} {np pos : Pos} {r : Option (Rx DV)} (C : FnOk base cx n) (hx : cx.names[x]? = some y) (hk : cx.env.kindOf y = some .local ∨ cx.env.kindOf y = some .cell) (hc : isComp e = false) (h : SndW base cx (VRel base) (ET prog wo cx e) lo H r w) :
    SndS base cx (XT prog wo cx (.Assign [.Name y np] e pos)) lo H (bnS r fun v H₁ => some (.next (lo.set x (some v)) H₁)) w := by
  refine SndS.of (SndS.bnd (f := fun v Q E s => wpAny (model prog wo) cx.A (storeName cx.env y v) (fun _ => Q .next) E s) C.toCxOk h fun d H₁ v w' _ _ hv => ?_) fun _ _ _ _ h => wpAny_Assign_Name h (swaps_no hc)
  exact fun s Q E st nx _ _ _ => wp_store C st hx hk hv fun s' k st' => nx _ _ rfl w' s' k st'

theorem sndX_ret {e : Expr} {pos : Pos} {r : Option (Rx DV)} (C : CxOk base cx n) (h : SndW base cx (VRel base) (ET prog wo cx e) lo H r w) :
    SndS base cx (XT prog wo cx (.Return (some e) pos)) lo H (bnS r fun v H₁ => some (.ret v H₁)) w := by
  refine SndS.of (SndS.bnd (f := fun v Q _ s => Q (.ret v) s) C h fun d H₁ v w' _ _ hv => ?_) fun _ _ _ _ h => wpAny_Return_some h
  exact fun s Q E st _ rt _ _ => rt _ _ rfl v w' _ (Step.here (tk := s.toks) st.hp) hv
theorem sndX_retN {pos : Pos} : SndS base cx (XT prog wo cx (.Return none pos)) lo H (some (.ret (.d .none) H)) w :=
  fun s _ _ st _ rt _ _ => wpAny_Return_none (rt _ _ rfl .none w _ (Step.here (tk := s.toks) st.hp) (.d .none))
theorem sndX_ex {e : Expr} {pos : Pos} {r : Option (Rx DV)} (C : CxOk base cx n) (hc : isComp e = false) (h : SndW base cx (VRel base) (ET prog wo cx e) lo H r w) :
    SndS base cx (XT prog wo cx (.Expr e pos)) lo H (bnS r fun _ H₁ => some (.next lo H₁)) w := by
  refine SndS.of (SndS.bnd (f := fun _ Q _ s => Q .next s) C h fun d H₁ v w' _ _ hv => ?_) fun _ _ _ _ h => wpAny_Expr_any h (by simp [interactive, C.kind]) (swaps_no hc)
  exact StS.leaf C fun s Q E st k => k w' _ (Step.here (tk := s.toks) st.hp)
theorem sndX_ife {e : Expr} {b₁ b₂ : List Stmt} {pos : Pos} {r : Option (Rx Bool)} {k k' : Hp → Option RS} (C : CxOk base cx n) (h : SndW base cx VB (TT prog wo cx e) lo H r w)
    (h₁ : ∀ H w, SndS base cx (XTs prog wo cx b₁) lo H (k H) w) (h₂ : ∀ H w, SndS base cx (XTs prog wo cx b₂) lo H (k' H) w) :
    SndS base cx (XT prog wo cx (.If e b₁ b₂ pos)) lo H (bnS r fun b H₁ => if b then k H₁ else k' H₁) w := by
  refine SndS.of (SndS.bnd (f := fun c Q E s => if c then XTs prog wo cx b₁ Q E s else XTs prog wo cx b₂ Q E s) C h fun x H₁ v w' _ _ hv => ?_) fun _ _ _ _ h => wpAny_If h
  obtain rfl : v = x := hv
  cases v with
  | true => exact h₁ H₁ w'
  | false => exact h₂ H₁ w'

theorem sndX_nil : SndS base cx (XTs prog wo cx []) lo H (some (.next lo H)) w :=
  fun s Q E st nx _ _ _ => wpAny_execs_nil (nx lo H rfl w _ (Step.here (tk := s.toks) st.hp) st)
theorem sndX_cons {t : Stmt} {ts : List Stmt} {r : Option RS} {k : Lo → Hp → Option RS} (h₁ : SndS base cx (XT prog wo cx t) lo H r w) (h₂ : ∀ lo H w, SndS base cx (XTs prog wo cx ts) lo H (k lo H) w) :
    SndS base cx (XTs prog wo cx (t :: ts)) lo H (seqR r k) w := by
  refine SndS.of (SndS.seq h₁ fun lo' H₁ w' => h₂ lo' H₁ w') fun Q E s _ h => ?_
  show wpAny _ _ _ _ _ _
  rw [execs_cons]
  refine wpAny_bind (wpAny_mono h (fun fl s₁ h₁ => ?_) fun _ _ e => e)
  cases fl <;> first | exact h₁ | exact wpAny_pure h₁

theorem sndX_asub {e o i : Expr} {sp pos : Pos} {r : Option (Rx DV)} {k k' : Hp → Option (Rx DV)} (C : CxOk base cx n) (hc : isComp e = false) (h : SndW base cx (VRel base) (ET prog wo cx e) lo H r w)
    (h₁ : ∀ H w, SndW base cx (VRel base) (ET prog wo cx o) lo H (k H) w) (h₂ : ∀ H w, SndW base cx (VRel base) (ET prog wo cx i) lo H (k' H) w) :
    SndS base cx (XT prog wo cx (.Assign [.Subscript o i sp] e pos)) lo H (bnS r fun v H₁ => bnS (k H₁) fun ov H₂ => bnS (k' H₂) fun iv H₃ => match v, ov with
      | .d x, .ml n => (H₃[n]?.join).bind fun ds => (natOf iv).bind fun k => if k < ds.length then some (.next lo (H₃.set n (some (ds.set k x)))) else .none
      | _, _ => .none) w := by
  refine SndS.of (SndS.bnd (f := fun v Q E s => wpAny (model prog wo) cx.A (eval o cx.env) (fun ov s₂ => wpAny (model prog wo) cx.A (eval i cx.env) (fun iv s₃ => wpAny (model prog wo) cx.A (setItem ov iv v) (fun _ => Q .next) E s₃) E s₂) E s) C h fun d H₁ v w₁ _ _ hv => ?_) fun _ _ _ _ h => wpAny_Assign_Subscript h (swaps_no hc)
  refine SndS.bnd (f := fun ov Q E s => wpAny (model prog wo) cx.A (eval i cx.env) (fun iv s₃ => wpAny (model prog wo) cx.A (setItem ov iv v) (fun _ => Q .next) E s₃) E s) C (h₁ H₁ w₁) fun od H₂ ov w₂ _ g ho => ?_
  refine SndS.bnd (f := fun iv Q E s => wpAny (model prog wo) cx.A (setItem ov iv v) (fun _ => Q .next) E s) C (h₂ H₂ w₂) fun id H₃ iv w₃ _ g' hi => ?_
  split
  · rename_i x m _ _
    intro s Q E st nx rt er ne
    cases hd : H₃[m]?.join with
    | none => rw [hd] at ne; exact absurd rfl ne
    | some ds =>
      rw [hd, Option.bind_some] at nx ne
      cases hk : natOf id with
      | none => rw [hk] at ne; exact absurd rfl ne
      | some k =>
        rw [hk, Option.bind_some] at nx ne
        split at ne
        · rename_i q
          rw [if_pos q] at nx
          obtain ⟨rfl, hz⟩ := natOf_some hk
          obtain ⟨t, rfl⟩ := int_val hi
          cases (ho.ext g') with
          | ml hr =>
            obtain ⟨hi', vs, mm, hg, hda⟩ := live_of st.toStE hd hr
            have hl := hda.length
            have key := step_upd (tk := s.toks) (f := (·.setIfInBounds ((k : Int)).toNat v)) C st.toStE hi' hr hg (hda.set k ((hv.ext g).ext g').dIn) (by simp)
            exact ki_setAt hg (by lia) (by lia) (by simp; lia) (nx _ _ rfl _ _ (key.mono fun _ m => nomatch m) (st.stepE C key))
        · exact absurd rfl ne
  · exact SndS.stuck

theorem aug_some {o : Op} {a b c : PyData} (h : augD o a b = some c) : (∃ i j, a = .int i ∧ b = .int j ∧ ((o = .add ∧ c = .int (i + j)) ∨ (o = .mul ∧ i.natAbs ≤ big ∧ j.natAbs ≤ big ∧ c = .int (i * j)))) := by
  unfold augD at h
  split at h
  · cases h; exact ⟨_, _, rfl, rfl, .inl ⟨rfl, rfl⟩⟩
  · split at h
    · rename_i q; cases h; exact ⟨_, _, rfl, rfl, .inr ⟨rfl, q.1, q.2, rfl⟩⟩
    · cases h
  · cases h
theorem sndX_aug {e : Expr} {x : Nat} {y : Str} {o : Op} {np pos : Pos} {k : Hp → Option (Rx DV)} (C : FnOk base cx n) (hx : cx.names[x]? = some y) (hky : cx.env.kindOf y = some .local ∨ cx.env.kindOf y = some .cell) (hcd : (y == ("__classdict__" : Str)) = false) (h : ∀ H w, SndW base cx (VRel base) (ET prog wo cx e) lo H (k H) w) :
    SndS base cx (XT prog wo cx (.AugAssign (.Name y np) (opOf o) e pos)) lo H (bnS (up (lo[x]?.join) H) fun old H₀ => bnS (k H₀) fun v H₁ => (datOf old).bind fun a => (datOf v).bind fun b => (augD o a b).map fun r => .next (lo.set x (some (.d r))) H₁) w := by
  have h₀ : SndW base cx (VRel base) (fun Q E s => wpAny (model prog wo) cx.A (loadName cx.env y) Q E s) lo H (up (lo[x]?.join) H) w :=
    snd_up fun d hl s Q E st k => wp_var C.toCxOk st hx (Option.join_eq_some_iff.mp hl) hcd fun v hv => k v w _ (Step.here (tk := s.toks) st.hp) hv
  refine SndS.of (SndS.bnd (f := fun old Q E s => wpAny (model prog wo) cx.A (eval e cx.env) (fun v s₂ => wpAny (model prog wo) cx.A (inplaceOp (opOf o) old v) (fun r s₃ => wpAny (model prog wo) cx.A (storeName cx.env y r) (fun _ => Q .next) E s₃) E s₂) E s) C.toCxOk h₀ fun d H₁ old w₁ _ _ hold => ?_) fun _ _ _ _ h => wpAny_AugAssign_Name h
  refine SndS.bnd (f := fun v Q E s => wpAny (model prog wo) cx.A (inplaceOp (opOf o) old v) (fun r s₃ => wpAny (model prog wo) cx.A (storeName cx.env y r) (fun _ => Q .next) E s₃) E s) C.toCxOk (h H₁ w₁) fun d' H₂ v w₂ _ g hv => ?_
  intro s Q E st nx rt er ne
  cases ha : datOf d with
  | none => rw [ha] at ne; exact absurd rfl ne
  | some a =>
    cases hb : datOf d' with
    | none => rw [ha, hb] at ne; exact absurd rfl ne
    | some b =>
      rw [ha, hb, Option.bind_some, Option.bind_some] at nx ne
      cases hr : augD o a b with
      | none => rw [hr] at ne; exact absurd rfl ne
      | some c =>
        rw [hr] at nx
        obtain rfl := datOf_some ha
        obtain rfl := datOf_some hb
        obtain ⟨i, j, rfl, rfl, hcase⟩ := aug_some hr
        obtain ⟨t, rfl⟩ := int_val hold
        obtain ⟨u, rfl⟩ := int_val hv
        have fin : ∀ tk t', wpAny (model prog wo) cx.A (storeName cx.env y (.int (match c with | .int z => z | _ => 0) t')) (fun _ => Q .next) E { s with toks := tk } := fun tk t' => by
          have kk : Step base cx.R cx.F [] w₂ s w₂ H₂ { s with toks := tk } := Step.here st.hp
          have hc : ∃ z, c = .int z := by rcases hcase with ⟨_, rfl⟩ | ⟨_, _, _, rfl⟩ <;> exact ⟨_, rfl⟩
          obtain ⟨z, rfl⟩ := hc
          exact wp_store C (st.stepE C.toCxOk kk) hx hky (.d (.int z t')) fun s' k' st' => nx _ _ rfl w₂ s' ((kk.mono fun _ m => nomatch m).trans k') st'
        rcases hcase with ⟨rfl, rfl⟩ | ⟨rfl, q1, q2, rfl⟩
        · exact PyProof.Rows.iadd_int (fin _ _)
        · exact PyProof.Rows.imul_int (fin _ _) (IntMulOk.of_left (intBits_le_64 (by unfold big at q1; lia) (by unfold big at q1; lia)))

theorem sndX_append {o e : Expr} {apos pos pos' : Pos} {r : Option (Rx DV)} {k : Hp → Option (Rx DV)} (C : CxOk base cx n) (hb : ∀ whole, attributeBase o (Str.ofString "append") cx.env whole = whole) (hs : notStar e = true) (hl : (apos.endLine == pos.line) = true)
    (h : SndW base cx (VRel base) (ET prog wo cx o) lo H r w) (h₂ : ∀ H w, SndW base cx (VRel base) (ET prog wo cx e) lo H (k H) w) :
    SndS base cx (XT prog wo cx (.Expr (.Call (.Attribute o (Str.ofString "append") apos) [e] [] pos) pos')) lo H (bnS r fun ov H₁ => match ov with
      | .ml n => if (H₁[n]?.join).isSome then bnS (k H₁) fun v H₂ => (datOf v).bind fun x => (H₂[n]?.join).bind fun ds => if ds.length ≤ 4096 then some (.next lo (H₂.set n (some (ds ++ [x])))) else .none else .none
      | _ => .none) w := by
  refine SndS.of (SndS.bnd (f := fun ov Q E s => wpAny (model prog wo) cx.A (getMethod ov (Str.ofString "append") (do return (← importBound o cx.env).getD true)) (fun fx s₂ => isBT fx.1 = true ∧ wpAny (model prog wo) cx.A (eval e cx.env) (fun v s₃ => wpAny (model prog wo) cx.A (call fx.1 (fx.2 ++ [v])) (fun _ => Q .next) E s₃) E s₂) E s) C h fun d H₁ ov w₁ _ _ ho => ?_) fun _ _ _ _ h => wpAny_Expr_any (wp_meth1 hb hs hl h) (by simp [interactive, C.kind]) (swaps_no rfl)
  split
  · rename_i m _
    split
    · rename_i hsome
      intro s Q E st nx rt er ne
      obtain ⟨a, rfl, hr⟩ : ∃ a, ov = .ref a ∧ w₁.ρ[m]? = some a := by cases ho with | ml hr => exact ⟨_, rfl, hr⟩
      · obtain ⟨ds, hd⟩ := Option.isSome_iff_exists.mp hsome
        obtain ⟨hi, vs, mm, hg, hda⟩ := live_of st.toStE hd hr
        refine getMethod_list_of PySem.F.slot_list_append PySem.F.type_list_append ⟨_, hg, rfl, _, rfl⟩ ⟨_, hg, rfl⟩ ⟨rfl, ?_⟩
        refine SndS.bnd (f := fun v Q E s => wpAny (model prog wo) cx.A (call (.builtin "list.append") [.ref a, v]) (fun _ => Q .next) E s) C (h₂ H₁ w₁) (fun d H₂ v w₂ _ g hv => ?_) s Q E st nx rt er ne
        intro s Q E st nx rt er ne
        cases hx : datOf d with
        | none => rw [hx] at ne; exact absurd rfl ne
        | some x =>
          rw [hx, Option.bind_some] at nx ne
          cases hd' : H₂[m]?.join with
          | none => rw [hd'] at ne; exact absurd rfl ne
          | some ds' =>
            rw [hd', Option.bind_some] at nx ne
            split at ne
            · rename_i q
              rw [if_pos q] at nx
              obtain rfl := datOf_some hx
              obtain ⟨t, et⟩ := g.ρ
              have hr' : w₂.ρ[m]? = some a := by rw [et, List.getElem?_append_left (List.getElem?_eq_some_iff.mp hr).1]; exact hr
              obtain ⟨hi', vs', mm', hg', hda'⟩ := live_of st.toStE hd' hr'
              have hl' := hda'.length
              refine wpAny_list_append_plain ⟨mm', hg'⟩ (fun h' hp hs => ?_) (by rw [sizeLine_eq]; simp; lia)
              obtain ⟨cap, hp⟩ := hp
              have hm := List.mem_of_getElem? hr'
              have key : Step base cx.R cx.F [] w₂ s w₂ (H₂.set m (some (ds' ++ [x]))) { s with heap := h' } :=
                step_set (tk := s.toks) (vs := vs' ++ [v]) st.hp hi' hr' (kept_sameBut hs (fun _ _ => ⟨_, hp⟩) fun q => st.hp.offR _ hm (C.FR _ q)) C.FR hp (by simp; rfl) (hda'.append (.cons hv.dIn .nil))
              exact nx _ _ rfl _ _ (key.mono fun _ m => nomatch m) (st.stepE C key)
            · exact absurd rfl ne
    · exact SndS.stuck
  · exact SndS.stuck

theorem sndX_extend {o e : Expr} {apos pos pos' : Pos} {r : Option (Rx DV)} {k : Hp → Option (Rx DV)} (C : CxOk base cx n) (hb : ∀ whole, attributeBase o (Str.ofString "extend") cx.env whole = whole) (hs : notStar e = true) (hl : (apos.endLine == pos.line) = true)
    (h : SndW base cx (VRel base) (ET prog wo cx o) lo H r w) (h₂ : ∀ H w, SndW base cx (VRel base) (ET prog wo cx e) lo H (k H) w) :
    SndS base cx (XT prog wo cx (.Expr (.Call (.Attribute o (Str.ofString "extend") apos) [e] [] pos) pos')) lo H (bnS r fun ov H₁ => match ov with
      | .ml n => if (H₁[n]?.join).isSome then bnS (k H₁) fun v H₂ => match v with
        | .d (.list es) => (H₂[n]?.join).bind fun ds => if ds.length ≤ 4096 ∧ es.length ≤ 4096 then some (.next lo (H₂.set n (some (ds ++ es)))) else .none
        | _ => .none else .none
      | _ => .none) w := by
  refine SndS.of (SndS.bnd (f := fun ov Q E s => wpAny (model prog wo) cx.A (getMethod ov (Str.ofString "extend") (do return (← importBound o cx.env).getD true)) (fun fx s₂ => isBT fx.1 = true ∧ wpAny (model prog wo) cx.A (eval e cx.env) (fun v s₃ => wpAny (model prog wo) cx.A (call fx.1 (fx.2 ++ [v])) (fun _ => Q .next) E s₃) E s₂) E s) C h fun d H₁ ov w₁ _ _ ho => ?_) fun _ _ _ _ h => wpAny_Expr_any (wp_meth1 hb hs hl h) (by simp [interactive, C.kind]) (swaps_no rfl)
  split
  · rename_i m _
    split
    · rename_i hsome
      intro s Q E st nx rt er ne
      obtain ⟨a, rfl, hr⟩ : ∃ a, ov = .ref a ∧ w₁.ρ[m]? = some a := by cases ho with | ml hr => exact ⟨_, rfl, hr⟩
      · obtain ⟨ds, hd⟩ := Option.isSome_iff_exists.mp hsome
        obtain ⟨hi, vs, mm, hg, hda⟩ := live_of st.toStE hd hr
        refine getMethod_list_of PySem.F.slot_list_extend PySem.F.type_list_extend ⟨_, hg, rfl, _, rfl⟩ ⟨_, hg, rfl⟩ ⟨rfl, ?_⟩
        refine SndS.bnd (f := fun v Q E s => wpAny (model prog wo) cx.A (call (.builtin "list.extend") [.ref a, v]) (fun _ => Q .next) E s) C (h₂ H₁ w₁) (fun d H₂ v w₂ _ g hv => ?_) s Q E st nx rt er ne
        split
        · rename_i es _
          intro s Q E st nx rt er ne
          cases hd' : H₂[m]?.join with
          | none => rw [hd'] at ne; exact absurd rfl ne
          | some ds' =>
            rw [hd', Option.bind_some] at nx ne
            split at ne
            · rename_i q
              rw [if_pos q] at nx
              obtain ⟨t, et⟩ := g.ρ
              have hr' : w₂.ρ[m]? = some a := by rw [et, List.getElem?_append_left (List.getElem?_eq_some_iff.mp hr).1]; exact hr
              obtain ⟨hi', vs', mm', hg', hda'⟩ := live_of st.toStE hd' hr'
              have hl' := hda'.length
              replace hv := hv.d_inv
              obtain ⟨_, _, _, _, rfl, mp, c, e, rr⟩ := hv.list_inv
              rename_i l ob us nn
              obtain ⟨cls, dd, data, sl⟩ := ob
              obtain ⟨e1, e2, e3⟩ := e
              simp only at c e1 e2 e3
              subst c e1 e2 e3
              have hb' := st.hp.pool _ mp
              have hlen := rr.length
              have hm := List.mem_of_getElem? hr'
              refine call_meets PySem.F.slot_list_extend ⟨_, hg', rfl⟩ PySem.F.entry_list_extend (PySem.F.args_list_extend_2 _ _) (PySem.AutoSeq1.list_extend_list_list_0 _ vs'.toArray mm' _ us.toArray nn (extend_door (by simp; rw [sizeLine_eq]; lia)) (by simp; rw [sizeLine_eq]; lia) (by simp; rw [sizeLine_eq]; lia)) ⟨hg', hb', ?_⟩
              have key := step_upd (tk := s.toks) (f := fun x => x ++ us.toArray) C st.toStE hi' hr' hg' (hda'.append rr) (by simp)
              exact nx _ _ rfl _ _ (key.mono fun _ m => nomatch m) (st.stepE C key)
            · exact absurd rfl ne
        · exact SndS.stuck
    · exact SndS.stuck
  · exact SndS.stuck

theorem sndX_pop {o : Expr} {apos pos pos' : Pos} {r : Option (Rx DV)} (C : CxOk base cx n) (hb : ∀ whole, attributeBase o (Str.ofString "pop") cx.env whole = whole) (hl : (apos.endLine == pos.line) = true)
    (h : SndW base cx (VRel base) (ET prog wo cx o) lo H r w) :
    SndS base cx (XT prog wo cx (.Expr (.Call (.Attribute o (Str.ofString "pop") apos) [] [] pos) pos')) lo H (bnS r fun ov H₁ => match ov with
      | .ml n => (H₁[n]?.join).bind fun ds => if ds = [] ∨ 4096 < ds.length then .none else some (.next lo (H₁.set n (some ds.dropLast)))
      | _ => .none) w := by
  refine SndS.of (SndS.bnd (f := fun ov Q E s => wpAny (model prog wo) cx.A (getMethod ov (Str.ofString "pop") (do return (← importBound o cx.env).getD true)) (fun fx s₂ => (∃ id, fx.1 = .builtin id) ∧ wpAny (model prog wo) cx.A (call fx.1 fx.2) (fun _ => Q .next) E s₂) E s) C h fun d H₁ ov w₁ _ _ ho => ?_) fun _ _ _ _ h => wpAny_Expr_any (wp_meth0 hb hl h) (by simp [interactive, C.kind]) (swaps_no rfl)
  split
  · rename_i m _
    intro s Q E st nx rt er ne
    cases hd : H₁[m]?.join with
    | none => rw [hd] at ne; exact absurd rfl ne
    | some ds =>
      rw [hd, Option.bind_some] at nx ne
      split at ne
      · exact absurd rfl ne
      · rename_i q
        rw [if_neg q] at nx
        obtain ⟨_, rfl, hr⟩ := ho.ml_inv
        obtain ⟨hi, vs, mm, hg, hda⟩ := live_of st.toStE hd hr
        have hlen := hda.length
        have q1 : ds ≠ [] := fun z => q (.inl z)
        have q2 : ds.length ≤ 4096 := by have := fun z => q (.inr z); lia
        have q3 : vs ≠ [] := fun z => by rw [z] at hlen; exact q1 (List.length_eq_zero_iff.mp hlen.symm)
        refine getMethod_list_of PySem.F.slot_list_pop PySem.F.type_list_pop ⟨_, hg, rfl, _, rfl⟩ ⟨_, hg, rfl⟩ ⟨⟨_, rfl⟩, ?_⟩
        refine call_meets PySem.F.slot_list_pop ⟨_, hg, rfl⟩ PySem.F.entry_list_pop (PySem.F.args_list_pop_1 _) (PySem.MeetsSeq.list_pop_last _ vs.toArray mm (vs.getLast q3) (by simp [List.getLast_eq_getElem]) (by simp; rw [sizeLine_eq]; lia)) ⟨hg, ?_⟩
        have key := step_upd (tk := s.toks) (f := fun xs => xs.eraseIdxIfInBounds (vs.toArray.size - 1)) C st.toStE hi hr hg hda.dropLast (by
          have e : vs = vs.dropLast ++ vs.getLast q3 :: [] := (List.dropLast_concat_getLast q3).symm
          have hk : vs.toArray.size - 1 = vs.dropLast.length := by simp
          rw [hk]
          conv => lhs; rw [show vs.toArray = (vs.dropLast ++ vs.getLast q3 :: []).toArray by rw [← e]]
          rw [kl_erase, List.append_nil])
        exact nx _ _ rfl _ _ (key.mono fun _ m => nomatch m) (st.stepE C key)
  · exact SndS.stuck

/-- names for the targets of an unpacking -/
noncomputable def tgtOk (sc : Sc) : List Nat → List Expr → Bool
  | [], es => match es with | [] => true | _ => false
  | x :: xs, es => match es with | .Name y _ :: es => (sc.names[x]? == some y) && sc.var y && tgtOk sc xs es | _ => false
theorem tgt_len : ∀ {xs : List Nat} {es : List Expr} {env : Env}, tgtOk sc xs es = true → (assignEach es env).length = xs.length ∧ (assignEach es env).findIdx? (·.1) = none
  | [], es, env, h => by
    unfold tgtOk at h; split at h
    · exact ⟨rfl, rfl⟩
    · cases h
  | x :: xs, es, env, h => by
    unfold tgtOk at h; split at h
    · rw [Bool.and_eq_true, Bool.and_eq_true] at h
      obtain ⟨a, b⟩ := tgt_len (env := env) h.2
      refine ⟨congrArg (· + 1) a, ?_⟩
      show List.findIdx? _ ((false, _) :: assignEach _ env) = none
      rw [List.findIdx?_cons, b]; rfl
    · cases h
theorem setAll_len : ∀ {xs : List Nat} {ds : List PyData} {lo lo' : Lo}, setAll lo xs ds = some lo' → xs.length = ds.length
  | [], [], _, _, _ => rfl
  | [], _ :: _, _, _, h => by cases h
  | _ :: _, [], _, _, h => by cases h
  | x :: xs, d :: ds, lo, lo', h => congrArg (· + 1) (setAll_len (xs := xs) (ds := ds) h)
theorem wp_setAll (C : FnOk base cx n) (S : ScOk sc cx) {H : Hp} {w : Wd} {Q : Unit → Shared → Prop} {E : Value → Shared → Prop} : ∀ (xs : List Nat) (es : List Expr) (vs : List Value) (ds : List PyData) (lo lo' : Lo) (s : Shared), tgtOk sc xs es = true → DAll w.pool vs ds → setAll lo xs ds = some lo' → StS base cx lo H w s →
    (∀ s', Step base cx.R cx.F cx.own w s w H s' → StS base cx lo' H w s' → Q () s') → wpAny (model prog wo) cx.A (assignInOrder ((assignEach es cx.env).map (·.2)) vs) Q E s
  | [], es, vs, ds, lo, lo', s, h, hd, hs, st, k => by
    unfold tgtOk at h; split at h
    · cases ds with
      | nil => cases hs; exact assignInOrder_nil (k _ (Step.here (tk := s.toks) st.hp) st)
      | cons => cases hs
    · cases h
  | x :: xs, es, vs, ds, lo, lo', s, h, hd, hs, st, k => by
    unfold tgtOk at h; split at h
    · rename_i y yp es
      rw [Bool.and_eq_true, Bool.and_eq_true] at h
      cases hd with
      | nil => cases hs
      | cons hv hr =>
        refine assignInOrder_cons (t := assign (.Name y yp) cx.env) (PyProof.Rows.assign_Name (wp_store C st (S.names ▸ beq_iff_eq.mp h.1.1) (S.var _ h.1.2) (.d hv) fun s₁ k₁ st₁ => ?_))
        exact wp_setAll C S xs es _ _ _ lo' s₁ h.2 hr hs st₁ fun s' k' st' => k s' (k₁.trans k') st'
    · cases h
/-- an unpacking of a tuple -/
theorem wp_unpack {xs : List Nat} {es : List Expr} {kk : Nat} {tp : Pos} {v : Value} {ds : List PyData} {lo' : Lo} {s : Shared} {Q : Unit → Shared → Prop} {E : Value → Shared → Prop} (C : FnOk base cx n) (S : ScOk sc cx) (h : tgtOk sc xs es = true) (hv : VRel base w v (.d (.tuple ds))) (hs : setAll lo xs ds = some lo') (st : StS base cx lo H w s)
    (k : ∀ s', Step base cx.R cx.F cx.own w s w H s' → StS base cx lo' H w s' → Q () s') : wpAny (model prog wo) cx.A (assign (.Tuple es kk tp) cx.env v) Q E s := by
  replace hv := hv.d_inv
  obtain ⟨_, _, _, _, rfl, m, c, e, rr⟩ := hv.tuple_inv
  obtain ⟨a, b⟩ := tgt_len (env := cx.env) h
  have l1 := setAll_len hs
  have l2 := rr.length
  refine assign_Tuple_tuple C.hh ⟨_, st.hp.pool _ m, c, _, e⟩ (by rw [a]; simp; lia) b fun h' he => ?_
  have kk : Step base cx.R cx.F [] w s w H { s with heap := h' } := step_of_kept (tk := s.toks) st.hp (.of_all (ext_all he)) C.FR
  exact wp_setAll C S xs es _ ds lo lo' _ h rr hs (st.stepE C.toCxOk kk) fun s' k' st' => k s' ((kk.mono fun _ m => nomatch m).trans k') st'
noncomputable def isNS : Expr → Bool
  | .Name _ _ => true
  | .Subscript _ _ _ => true
  | .Call _ _ _ _ => true
  | _ => false
theorem sndX_unpack {e : Expr} {xs : List Nat} {es : List Expr} {kk : Nat} {tp pos : Pos} {r : Option (Rx DV)} (C : FnOk base cx n) (S : ScOk sc cx) (ht : tgtOk sc xs es = true) (hn : isNS e = true) (h : SndW base cx (VRel base) (ET prog wo cx e) lo H r w) :
    SndS base cx (XT prog wo cx (.Assign [.Tuple es kk tp] e pos)) lo H (bnS r fun v H₁ => (tupItems v).bind fun ds => (setAll lo xs ds).map fun lo' => .next lo' H₁) w := by
  refine SndS.of (SndS.bnd (f := fun v Q E s => wpAny (model prog wo) cx.A (assign (.Tuple es kk tp) cx.env v) (fun _ => Q .next) E s) C.toCxOk h fun d H₁ v w' _ _ hv => ?_) fun _ _ _ _ h => PyProof.Rows.Assign_Tuple h (by cases e <;> first | rfl | cases hn) (by cases e <;> first | rfl | cases hn)
  intro s Q E st nx rt er ne
  cases hd : tupItems d with
  | none => rw [hd] at ne; exact absurd rfl ne
  | some ds =>
    rw [hd, Option.bind_some] at nx ne
    cases hl : setAll lo xs ds with
    | none => rw [hl] at ne; exact absurd rfl ne
    | some lo' =>
      rw [hl] at nx
      have hd' : d = .d (.tuple ds) := by
        unfold tupItems at hd; split at hd <;> first | (cases hd; rfl) | cases hd
      subst hd'
      exact wp_unpack C S ht hv hl st fun s' k st' => nx _ _ rfl w' s' k st'
end
end Mine
end

section
set_option autoImplicit false
set_option maxRecDepth 100000
namespace Mine

/-- a tree that only looks and that leaves each object its dict -/
noncomputable def DK {α : Type} : Sem α → Prop
  | .pure _ => True
  | .raise _ => True
  | .unsupported _ => True
  | .finish _ => True
  | .rule _ k => DK (k ())
  | .at _ k => DK (k ())
  | .load _ _ k => ∀ o, DK (k o)
  | .update _ _ f k => (∀ o, (f o).dict = o.dict ∧ (f o).isFreed = o.isFreed) ∧ DK (k ())
  | .alloc _ k => ∀ a, DK (k a)
  | .loadIfAlive _ k => ∀ x, DK (k x)
  | .point _ k => DK (k ())
  | .fresh k => ∀ t, DK (k t)
  | .ask k => ∀ x, DK (k x)
  | .handled _ k => ∀ x, DK (k x)
  | .stack k => ∀ x, DK (k x)
  | _ => False

theorem DK.bind {α β : Type} {k : α → Sem β} (hk : ∀ a, DK (k a)) : ∀ {m : Sem α}, DK m → DK (m >>= k)
  | .pure a, _ => hk a
  | .raise _, _ => trivial
  | .unsupported _, _ => trivial
  | .finish _, _ => trivial
  | .rule _ k', h => DK.bind hk (m := k' ()) h
  | .at _ k', h => DK.bind hk (m := k' ()) h
  | .load _ _ k', h => fun o => DK.bind hk (m := k' o) (h o)
  | .update _ _ f k', h => ⟨h.1, DK.bind hk (m := k' ()) h.2⟩
  | .alloc _ k', h => fun o => DK.bind hk (m := k' o) (h o)
  | .loadIfAlive _ k', h => fun o => DK.bind hk (m := k' o) (h o)
  | .point _ k', h => DK.bind hk (m := k' ()) h
  | .fresh k', h => fun o => DK.bind hk (m := k' o) (h o)
  | .ask k', h => fun o => DK.bind hk (m := k' o) (h o)
  | .handled _ k', h => fun o => DK.bind hk (m := k' o) (h o)
  | .stack k', h => fun o => DK.bind hk (m := k' o) (h o)
  | .register .., h => h.elim
  | .choose .., h => h.elim
  | .os .., h => h.elim
  | .call .., h => h.elim
  | .newGen .., h => h.elim
  | .genState .., h => h.elim
  | .resume .., h => h.elim
  | .yield .., h => h.elim
  | .fork .., h => h.elim
  | .thread .., h => h.elim
  | .await .., h => h.elim

/-- the dict that an object bears -/
noncomputable def HasD (e : Addr) (d : Option Addr) (h : Heap) : Prop := ∃ o, h.get? e = some o ∧ o.dict = d

theorem live_unfreed {h : Heap} {a : Addr} {o : Obj} (e : h.get? a = some o) : o.isFreed = false := (Heap.get?_some_iff.mp e).2
theorem DK.wp {α : Type} {M : Model} {Γ : Ctx} {E : Value → Pos → Shared → Prop} {e : Addr} {d : Option Addr} : ∀ {m : Sem α} {Q : α → Pos → Shared → Prop} {p : Pos} {s : Shared}, DK m → HasD e d s.heap → Sem.wp M Γ m Q E p s → Sem.wp M Γ m (fun a p' s' => Q a p' s' ∧ HasD e d s'.heap) E p s := by
  intro m
  induction m with
  | pure a => intro Q p s _ hd h; exact ⟨h, hd⟩
  | raise _ => intro Q p s _ hd h; exact h
  | unsupported _ => intro Q p s _ hd h; exact h
  | finish _ => intro Q p s _ hd h; exact h
  | rule _ k ih => intro Q p s hk hd h; exact ih () hk hd h
  | «at» _ k ih => intro Q p s hk hd h; exact ih () hk hd h
  | load _ _ k ih => intro Q p s hk hd h; obtain ⟨o, ho, h⟩ := h; exact ⟨o, ho, ih o (hk o) hd h⟩
  | update a _ f k ih =>
    intro Q p s hk hd h
    refine ⟨h.1, ih () hk.2 ?_ h.2⟩
    obtain ⟨o, ho, hd⟩ := hd
    show HasD e d (s.heap.update a f)
    by_cases q : a = e
    · subst q
      have hf : (f o).isFreed = false := by
        rw [(hk.1 o).2]
        exact live_unfreed ho
      exact ⟨f o, Heap.get?_update_self f ho hf, (hk.1 o).1.trans hd⟩
    · exact ⟨o, (Heap.get?_update_other _ f q).trans ho, hd⟩
  | alloc o k ih => intro Q p s hk hd h; obtain ⟨o', ho, hd⟩ := hd; exact ih _ (hk _) ⟨o', Heap.get?_push_of_some _ ho, hd⟩ h
  | loadIfAlive _ k ih => intro Q p s hk hd h; exact ih _ (hk _) hd h
  | point _ k ih => intro Q p s hk hd h; exact ih () hk hd h
  | fresh k ih => intro Q p s hk hd h; exact ih _ (hk _) hd h
  | ask k ih => intro Q p s hk hd h; exact ih _ (hk _) hd h
  | handled _ k ih => intro Q p s hk hd h; exact ih _ (hk _) hd h
  | stack k ih => intro Q p s hk hd h; exact ih _ (hk _) hd h
  | register => intro Q p s hk; exact hk.elim
  | choose => intro Q p s hk; exact hk.elim
  | os => intro Q p s hk; exact hk.elim
  | call => intro Q p s hk; exact hk.elim
  | newGen => intro Q p s hk; exact hk.elim
  | genState => intro Q p s hk; exact hk.elim
  | resume => intro Q p s hk; exact hk.elim
  | yield => intro Q p s hk; exact hk.elim
  | fork => intro Q p s hk; exact hk.elim
  | thread => intro Q p s hk; exact hk.elim
  | await => intro Q p s hk; exact hk.elim

theorem DK.pure {α : Type} (a : α) : DK (Pure.pure a : Sem α) := trivial
theorem DK.unsup {α : Type} (a : String) : DK (PySem.unsupported a : Sem α) := trivial
theorem DK.load (a : Addr) : DK (PySem.load a) := fun _ => trivial
theorem DK.stack : DK PySem.stack := fun _ => trivial
theorem dk_fields (f : Array Value → Array Value) (o : Obj) : (Obj.mapFields f o).dict = o.dict ∧ (Obj.mapFields f o).isFreed = o.isFreed := by
  obtain ⟨c, d, dt, sl⟩ := o
  cases dt <;> exact ⟨rfl, rfl⟩
theorem dk_fieldsOf (v : Value) : DK (fieldsOf v) := by
  unfold fieldsOf
  split
  · refine DK.bind (fun o => ?_) (DK.load _)
    split <;> trivial
  · trivial
theorem dk_field (v : Value) (i : Nat) : DK (field v i) := by
  unfold field
  refine DK.bind (fun vs => ?_) (dk_fieldsOf v)
  split <;> trivial
theorem dk_setField (v : Value) (i : Nat) (x : Value) : DK (setField v i x) := by
  unfold setField
  split
  · unfold updateField
    refine DK.bind (fun o => ?_) (DK.load _)
    split
    · split
      · exact ⟨dk_fields _, trivial⟩
      · trivial
    · trivial
  · trivial
theorem dk_setFlight (v : Value) (f : Option Addr) : DK (setFlight v f) := by
  unfold setFlight
  refine DK.bind (fun tb => ?_) (dk_field _ _)
  split
  · exact dk_setField _ _ _
  · trivial
theorem dk_frameOf (env : Env) : DK (PySem.frameOf env) := by
  have k1 : DK underTheClaimsCaller := DK.bind (fun _ => DK.pure _) DK.stack
  have k2 : ∀ env l, DK (behindIsImport env l) := fun env l => by
    unfold behindIsImport
    split
    · trivial
    · split
      · trivial
      · exact DK.bind (fun _ => DK.pure _) (dk_field _ _)
  have k3 : ∀ env b l, DK (keptBack env b l) := fun env b l => by
    unfold keptBack
    split
    · split
      · trivial
      · exact DK.bind (fun _ => DK.pure _) k1
    · trivial
  have k4 : ∀ l, DK (readyFrames l) := by
    intro l
    induction l with
    | nil => trivial
    | cons env outer ih =>
      unfold readyFrames
      split
      · refine DK.bind (fun o => ?_) (DK.load _)
        split
        · trivial
        · refine DK.bind (fun b => DK.bind (fun v => DK.bind (fun _ => ih) ?_) (k3 _ _ _)) (k2 _ _)
          exact ⟨fun o => ⟨rfl, by obtain ⟨c, d, dt, sl⟩ := o; cases dt <;> rfl⟩, trivial⟩
      · trivial
  unfold PySem.frameOf
  refine DK.bind (fun l => DK.bind (fun f => ?_) ?_) (DK.bind (fun _ => DK.pure _) DK.stack)
  · split <;> trivial
  · unfold frameObject
    split
    · trivial
    · exact DK.bind (fun _ => DK.pure _) (k4 _)
theorem dk_entryPlaceOf (f : Addr) (b : Bool) : DK (entryPlaceOf f b) := by
  unfold entryPlaceOf
  refine DK.bind (fun acts => ?_) DK.stack
  split <;> trivial
theorem dk_newEntry (a b c d e : Value) (l : List Value) : DK (EntryCells.newEntry a b c d e l) := by
  have key : ∀ dt, DK (newObjAsIs (.type "traceback") dt) := fun _ _ => trivial
  unfold EntryCells.newEntry newFields newObj
  dsimp only
  split <;> split <;> first | exact key _ | trivial
theorem dk_noteFrame (v : Value) (env : Env) : DK (noteFrame v env) := by
  unfold noteFrame
  split
  · refine DK.bind (fun head => ?_) (dk_field _ _)
    have fin : ∀ x, DK (do setField v 1 (← EntryCells.newEntry head (← PySem.frameOf env) .none (rawInt x) .none (← entryPlaceOf x (head != .none))) : Sem Unit) := fun x =>
      DK.bind (fun _ => DK.bind (fun _ => DK.bind (fun _ => dk_setField _ _ _) (dk_newEntry _ _ _ _ _ _)) (dk_entryPlaceOf _ _)) (dk_frameOf _)
    split
    · refine DK.bind (fun fl => ?_) (dk_field _ _)
      split
      · trivial
      · exact DK.bind (fun _ => fin _) (dk_setField _ _ _)
    · exact fin _
  · trivial
theorem dk_leaving (v : Value) (env : Env) : DK (leaving env v) := DK.bind (fun _ => dk_setFlight _ _) (dk_noteFrame _ _)

/-- what is shown of such a tree holds with the dict kept -/
theorem wpAny_dk {α : Type} {M : Model} {A : Around} {m : Sem α} {e : Addr} {d : Option Addr} {Q : α → Shared → Prop} {E : Value → Shared → Prop} {s : Shared} (hm : DK m) (hd : HasD e d s.heap) (h : wpAny M A m Q E s) :
    wpAny M A m (fun a s' => Q a s' ∧ HasD e d s'.heap) E s := fun Γ p hΓ => DK.wp hm hd (h Γ p hΓ)
end Mine
end

section
set_option autoImplicit false
set_option maxRecDepth 100000
namespace Mine

section
variable {M : Model} {A : Around} {E : Value → Shared → Prop} {s : Shared} {B : Heap} {env : Env} {outer : List Env} {L e : Addr} {a0 : Value}

theorem hasD_of {e : Addr} {h : Heap} {oe : Obj} {d : Option Addr} (a : h.get? e = some oe) (b : oe.dict = d) : HasD e d h := ⟨oe, a, b⟩

/-- a fresh one is noted -/
theorem note_fresh {Q : Unit → Shared → Prop} (hfr : A.frames = some (env :: outer)) (hf : env.frame = some L) (hc : Core .fresh B (env :: outer) L e a0 s.heap)
    (h : ∀ h', Core .held B (env :: outer) L e a0 h' → s.heap.UpToSlots h' → Q () { s with heap := h' }) : wpAny M A (noteFrame (.ref e) env) Q E s := by
  obtain ⟨c1, c2, c3, oe, vs, c4, c5, c6, c7, c8⟩ := hc
  unfold noteFrame
  simp only [hf]
  refine wpAny_bind (wpAny_field c4 c6 c8 ?_)
  rw [if_neg (by decide)]
  refine wpAny_entryW hfr c3 hf c4 c1 c2 c6 (Array.getElem?_eq_some_iff.mp c8).1 c7 fun h' hN => ?_
  obtain ⟨k1, k2, k3, k4⟩ := hN
  rw [c5] at k3
  exact h h' ⟨k1, c2, k2, k3⟩ k4

/-- the tree by which an exception comes back to its frame -/
noncomputable def backTree (env : Env) (x : Value) : Sem Unit := do
  if (← field x 1) == .none then unsupported "frame.own-activation:exception-without-traceback"
  setFlight x env.frame
theorem cameBack_eq (x : Value) : cameBackBy M A env E x s = wpAny M A (backTree env x) (fun _ s'' => E x s'') E s := rfl
theorem dk_back (env : Env) (x : Value) : DK (backTree env x) := by
  unfold backTree
  refine DK.bind (fun v => ?_) (dk_field _ _)
  split
  · exact DK.bind (fun _ => dk_setFlight _ _) (DK.unsup _)
  · exact dk_setFlight _ _

/-- noted once more, and back in its own frame -/
theorem held_again {Q : Unit → Shared → Prop} (hf : env.frame = some L) (hc : Core .held B (env :: outer) L e a0 s.heap) (h : ∀ h', Core .held B (env :: outer) L e a0 h' → s.heap.UpToSlots h' → Q () { s with heap := h' }) : wpAny M A (backTree env (.ref e)) Q E s := by
  obtain ⟨c1, c2, c3, oe, vs, T, oT, ts, d1, d2, d3, d4, d5, d6, d7, d8, d9⟩ := hc
  unfold backTree
  refine wpAny_bind (wpAny_field d1 d3 d4 ?_)
  rw [if_neg (by simp)]
  have hsz3 : 3 < ts.size := (Array.getElem?_eq_some_iff.mp d9).1
  unfold setFlight
  refine wpAny_bind (wpAny_field d1 d3 d4 ?_)
  rw [if_pos (by simp)]
  have other : ∀ b, b ≠ T → (s.heap.update T (Obj.mapFields (·.setIfInBounds 3 (env.frame.elim Value.none fun f => rawInt f)))).get? b = s.heap.get? b := fun b hb => Heap.get?_update_other _ _ (Ne.symm hb)
  have nf : ∀ b o, s.heap.get? b = some o → (∀ vs, o.data ≠ .fields vs) → b ≠ T := fun b o hb hn q => by
    rw [q, d7] at hb; cases hb; exact hn ts d8
  refine wpAny_setField d7 d8 hsz3 (h _ ⟨fun b o hbo => (other b fun q => by rw [q, d5] at hbo; cases hbo).trans (c1 b o hbo), c2, c3.of_keeps fun b o hb hn => ⟨o, (other b (nf b o hb hn)).trans hb, rfl⟩, ?_⟩ fun b o hb hn => ⟨o.slots, (other b (nf b o hb hn)).trans hb⟩)
  refine ⟨oe, vs, T, _, _, (other e (Ne.symm d6)).trans d1, d2, d3, d4, d5, d6, Heap.get?_update_self _ d7 (Obj.isFreed_of_fields (Obj.data_mapFields d8 _)), Obj.data_mapFields d8 _, ?_⟩
  rw [hf]
  simp [hsz3]

/-- it leaves the frame -/
theorem leave_any {m : Md} {Q : Unit → Shared → Prop} (hfr : A.frames = some (env :: outer)) (hf : env.frame = some L) (hc : Core m B (env :: outer) L e a0 s.heap)
    (h : ∀ h', Core .fly B outer L e a0 h' → s.heap.UpToSlots h' → Q () { s with heap := h' }) : wpAny M A (leaving env (.ref e)) Q E s := by
  cases m with
  | fresh =>
    obtain ⟨c1, c2, c3, oe, vs, c4, c5, c6, c7, c8⟩ := hc
    refine wpAny_leaving_firstW hfr c3 hf c4 c1 c2 c6 c8 c7 fun h' hL => ?_
    obtain ⟨k1, ⟨_, _, k2⟩, k3, k4⟩ := hL
    rw [c5] at k3
    exact h h' ⟨k1, c2, k2, k3⟩ k4
  | held =>
    unfold leaving
    refine wpAny_bind (wpAny_noteFrame_againW hf hc.2.2.2 (wpAny_landsW hc fun h' hfl ku => ?_))
    obtain ⟨k1, k2, ⟨_, _, k3⟩, k4⟩ := hfl
    exact h h' ⟨k1, k2, k3, k4⟩ ku
  | fly => exact wpAny_leaves_onW hfr hf hc h
end

section
variable {base : Heap} {w w' : Wd} {H' : Hp} {s s' : Shared} {R X : List Addr} {l : List Env}

theorem frames_ex {B h : Heap} : ∀ {l : List Env}, h.FunFrames B l → ∀ b ∈ l.filterMap (·.frame), ∃ o, h.get? b = some o := fun hl b m => let ⟨_, o, ho, _⟩ := hl.mem m; ⟨o, ho⟩

/-- the step out of what B keeps -/
theorem step_of_B {B h' : Heap} {tk : Nat} (grow : Grow w s.heap w') (hl : ∀ b ∈ l.filterMap (·.frame), ∃ o, h'.get? b = some o) (st : B.StaysIn h') (hp : HpRel base w' H' R B) (inB : ∀ b o, s.heap.get? b = some o → b ∉ X ++ w.ρ → b ∉ l.filterMap (·.frame) → B.get? b = some o)
    (exB : ∀ b o, s.heap.get? b = some o → b ∉ l.filterMap (·.frame) → ∃ o', B.get? b = some o') (nsk : ∀ b m, s.heap.Ns b m → b ∉ X ++ w.ρ → b ∈ l.filterMap (·.frame) → h'.Ns b m) (e : s' = { s with heap := h', toks := tk }) :
    Step base R (l.filterMap (·.frame)) X w s w' H' s' := by
  subst e
  refine ⟨grow, ⟨fun b o q => ?_, fun b o q n f => st _ _ (inB b o q n f), nsk⟩, hp.keeps fun b o q _ => st b o q, tk, rfl⟩
  by_cases f : b ∈ l.filterMap (·.frame)
  · exact hl b f
  · obtain ⟨o', q'⟩ := exB b o q f
    exact ⟨o', st _ _ q'⟩

/-- on its way, the same over another heap -/
theorem FlyM.turn {m m' : Md} {l : List Env} {L : Addr} {t : Str} {e : Addr} (f : FlyM m base l L R X w s t H' w' e s') :
    ∃ (B : Heap) (t0 dx : Addr), Core m B l L e (.ref t0) s'.heap ∧ HasD e (some dx) s'.heap ∧ ∀ h', Core m' B l L e (.ref t0) h' → HasD e (some dx) h' → s'.heap.UpToSlots h' → FlyM m' base l L R X w s t H' w' e { s' with heap := h' } := by
  obtain ⟨B, t0, dx, oe, kh, k₁, k₂, h1, h2, h3, h4, h5, h6, h7, h9, h10, h8⟩ := f
  refine ⟨B, t0, dx, h1, ⟨oe, h2, h3⟩, fun h' c hd ku => ?_⟩
  obtain ⟨oe', e1, e2⟩ := hd
  have hst : B.StaysIn h' := by cases m' <;> exact c.1
  have hfl : h'.FunFrames B l := by
    cases m' with
    | fresh => exact c.2.2.1
    | held => exact c.2.2.1
    | fly => exact c.2.2.1
  obtain ⟨tk, es⟩ := h8.same
  refine ⟨B, t0, dx, oe', kh, k₁, k₂, c, e1, e2, h4, h5, h6, h7, h9, fun b m => let ⟨m', q⟩ := h10 b m; ⟨m', ku.ns q⟩, step_of_B (tk := tk) h8.grow (frames_ex hfl) hst h5 h7 h9 (fun b m q n f => ku.ns (h8.kept.nsk b m q n f)) (by rw [es])⟩

section
variable {M : Model} {A : Around} {E : Value → Shared → Prop} {env : Env} {outer : List Env} {L : Addr}
theorem noted_back {t : Str} {e : Addr} {s₁ : Shared} (hfr : A.frames = some (env :: outer)) (hf : env.frame = some L) (f : FlyM .fresh base (env :: outer) L R X w s t H' w' e s₁)
    (k : ∀ s₂, FlyM .held base (env :: outer) L R X w s t H' w' e s₂ → E (.ref e) s₂) : notedBy M A env (fun x s' => cameBackBy M A env E x s') (.ref e) s₁ := by
  obtain ⟨B, t0, dx, hc, hd, turn⟩ := f.turn (m' := .held)
  unfold notedBy
  refine wpAny_mono (wpAny_dk (dk_noteFrame _ _) hd (note_fresh (Q := fun _ s' => ∃ h', s' = { s₁ with heap := h' } ∧ Core .held B (env :: outer) L e (.ref t0) h' ∧ s₁.heap.UpToSlots h') (E := fun x s' => cameBackBy M A env E x s') hfr hf hc fun h' c u => ⟨h', rfl, c, u⟩)) (fun _ s₂ hs => ?_) (fun _ _ e => e)
  obtain ⟨⟨h', rfl, c, u⟩, hd'⟩ := hs
  obtain ⟨B', t0', dx', hc', hd'', turn'⟩ := (turn h' c hd' u).turn (m' := .held)
  rw [cameBack_eq]
  refine wpAny_mono (wpAny_dk (dk_back _ _) hd'' (held_again (Q := fun _ s' => ∃ h'', s' = { s₁ with heap := h'' } ∧ Core .held B' (env :: outer) L e (.ref t0') h'' ∧ h'.UpToSlots h'') (E := E) hf hc' fun h' c u => ⟨h', rfl, c, u⟩)) (fun _ s₃ hs => ?_) (fun _ _ e => e)
  obtain ⟨⟨h'', rfl, c', u'⟩, hd3⟩ := hs
  exact k _ (turn' h'' c' hd3 u')
end
end
end Mine
end

section
set_option autoImplicit false
set_option maxRecDepth 100000
namespace Mine

/-- a context with one more place kept apart -/
noncomputable def Cx.res (cx : Cx) (It : Addr) : Cx := { cx with R := It :: cx.R }

/-- an iterator: what it will still give -/
structure ItOk (prog : Program) (wo : World) (base : Heap) (cx : Cx) (It : Addr) (IS : Wd → List DV → Heap → Prop) : Prop where
  keep : ∀ w w' rem h h', IS w rem h → Ext w w' → (∀ o, h.get? It = some o → h'.get? It = some o) → IS w' rem h'
  there : ∀ w rem h, IS w rem h → ∃ o, h.get? It = some o
  own : ∀ w rem h, IS w rem h → ∀ target v (Q : Unit → Shared → Prop) E s, s.heap = h → Q () s → wpAny (model prog wo) cx.A (letOwnedTupleGo target (.ref It) v) Q E s
  next : ∀ d rem (w : Wd) (s : Shared) (Q : Option Value → Shared → Prop) E, (∀ p ∈ w.pool, s.heap.get? p.1 = some p.2 ∧ p.1 ≠ It) → IS w (d :: rem) s.heap →
    (∀ v h' tk, VRel base w v d → Heap.SameBut It s.heap h' → IS w rem h' → Q (some v) { s with heap := h', toks := tk }) → wpAny (model prog wo) cx.A (pyNext (.ref It)) Q E s
  fin : ∀ (w : Wd) (s : Shared) (Q : Option Value → Shared → Prop) E, (∀ p ∈ w.pool, s.heap.get? p.1 = some p.2 ∧ p.1 ≠ It) → IS w [] s.heap → (∀ h', Heap.ExtBut It s.heap h' → Q none { s with heap := h' }) → wpAny (model prog wo) cx.A (pyNext (.ref It)) Q E s

section
variable {prog : Program} {wo : World} {K : Frag} {base : Heap} {p : Program} {loose : List Str} {mean : ExcName → Option Value} {mg mb : Str → Option Value} {cx : Cx} {n : Nat} {lo : Lo} {H : Hp} {w : Wd} {fa : Fn → Addr} {sc : Sc} {cf : CF}

theorem FnOk.res {It : Addr} (C : FnOk base cx n) : FnOk base (cx.res It) n := 
  ⟨⟨C.hh, C.hf, C.kind, C.glob, C.blt, fun a m => .tail _ (C.FR a m), .tail _ C.LR, fun p m => ⟨.tail _ (C.CR p m).1, (C.CR p m).2⟩, C.LF, C.above, C.fro, C.depth, C.units, C.cells⟩, C.top, C.frame, C.dist, C.nd, C.fresh⟩

theorem StS.res {It : Addr} {s : Shared} (st : StS base cx lo H w s) (h1 : It ∉ w.ρ) (h2 : ∀ p ∈ w.pool, p.1 ≠ It) (h3 : ∃ o, s.heap.get? It = some o) : StS base (cx.res It) lo H w s :=
  ⟨⟨st.hp.more (X := [It]) (fun a m => by rw [List.mem_singleton.mp m]; exact h1) (fun a m => by rw [List.mem_singleton.mp m]; exact h2), fun a m => by
    rcases List.mem_cons.mp m with rfl | m
    · exact h3
    · exact st.rin a m, st.stays, st.fr, st.lo⟩, st.cells⟩
theorem StS.unres {It : Addr} {s : Shared} (st : StS base (cx.res It) lo H w s) : StS base cx lo H w s :=
  ⟨⟨st.hp.sub fun a m => .tail _ m, fun a m => st.rin a (.tail _ m), st.stays, st.fr, st.lo⟩, st.cells⟩
theorem Step.unres {It : Addr} {F X : List Addr} {R : List Addr} {w w' : Wd} {s s' : Shared} {H' : Hp} (k : Step base (It :: R) F X w s w' H' s') : Step base R F X w s w' H' s' :=
  ⟨k.grow, k.kept, k.hp.sub fun a m => .tail _ m, k.same⟩
theorem FlyM.unres {m : Md} {It : Addr} {l : List Env} {L : Addr} {X R : List Addr} {w w' : Wd} {s s' : Shared} {H' : Hp} {t : Str} {e : Addr} (f : FlyM m base l L (It :: R) X w s t H' w' e s') : FlyM m base l L R X w s t H' w' e s' := by
  obtain ⟨B, t0, dx, oe, kh, k₁, k₂, h1, h2, h3, h4, h5, h6, h7, h9, h10, h8⟩ := f
  exact ⟨B, t0, dx, oe, kh, k₁, k₂, h1, h2, h3, h4, h5.sub (fun a m => .tail _ m), h6, h7, h9, h10, h8.unres⟩

/-- one fresh place changed: the statement's step and state go on -/
theorem StS.extBut {X : List Addr} {w₀ : Wd} {s₀ s : Shared} {It : Addr} {h' : Heap} {tk : Nat} (C : FnOk base cx n) (k : Step base cx.R cx.F X w₀ s₀ w H s) (st : StS base cx lo H w s) (he : Heap.ExtBut It s.heap h') (h0 : s₀.heap.get? It = none) (hR : It ∉ cx.R) (hB : base.get? It = none) (h1 : It ∉ w.ρ) (h2 : ∀ p ∈ w.pool, p.1 ≠ It)
    (hfr : ∀ b ∈ cx.F, ∃ m, s₀.heap.Ns b m) :
    Step base cx.R cx.F X w₀ s₀ w H { s with heap := h', toks := tk } ∧ StS base cx lo H w { s with heap := h', toks := tk } := by
  obtain ⟨tk', e⟩ := k.same
  have hp : HpRel base w H cx.R h' := ⟨st.hp.len, st.hp.nodup, fun i ds e => by
      obtain ⟨b, o, vs, n', a1, a2, a3, a4, a5, a6, a7⟩ := st.hp.live i ds e
      exact ⟨b, o, vs, n', a1, he _ _ (fun z => h1 (z ▸ List.mem_of_getElem? a1)) a2, a3, a4, a5, a6, a7⟩,
    fun p m => he _ _ (h2 p m) (st.hp.pool p m), fun b m => by
      obtain ⟨o, e⟩ := st.hp.there b m
      exact ⟨o, he _ _ (fun z => h1 (z ▸ m)) e⟩, st.hp.offB, st.hp.offR, st.hp.offP⟩
  have ne : ∀ b o, s₀.heap.get? b = some o → b ≠ It := fun b o q z => by rw [z, h0] at q; cases q
  refine ⟨⟨k.grow, ⟨fun b o q => ?_, fun b o q n f => he _ _ (ne b o q) (k.kept.same b o q n f), fun b m q n f => ?_⟩, hp, tk, by rw [e]⟩, ⟨⟨hp, fun a m => ?_, fun b o e => ?_, fun b m => ?_, fun i d e => ?_⟩, fun p m => ?_⟩⟩
  · obtain ⟨o', q'⟩ := k.kept.ex b o q
    exact ⟨o', he _ _ (ne b o q) q'⟩
  · obtain ⟨o, ho⟩ := ns_some q
    exact (k.kept.nsk b m q n f).extBut he (ne b o ho)
  · obtain ⟨o, e⟩ := st.rin a m; exact ⟨o, he _ _ (fun z => hR (z ▸ m)) e⟩
  · exact he _ _ (fun z => by rw [z, hB] at e; cases e) (st.stays b o e)
  · obtain ⟨m', e⟩ := st.fr b m; exact ⟨m', e.extBut he fun z => hR (z ▸ C.FR b m)⟩
  · obtain ⟨y, v, hy, hl, hv⟩ := st.lo i d e
    refine ⟨y, v, hy, ?_, hv⟩
    rcases hl with ⟨hk, m, hn, hm⟩ | ⟨hk, c, hc, o, hco, hcd⟩
    · exact .inl ⟨hk, m, hn.extBut he fun z => hR (z ▸ C.LR), hm⟩
    · exact .inr ⟨hk, c, hc, o, he _ _ (fun z => hR (z ▸ (C.CR (y, c) (mem_of_lookup _ hc)).1)) hco, hcd⟩
  · obtain ⟨v, o, ho, hd⟩ := st.cells p m
    exact ⟨v, o, he _ _ (fun z => hR (z ▸ (C.CR p m).1)) ho, hd⟩

theorem loopV_next {f : DV → Lo → Hp → Option RS} {d : DV} {ds : List DV} {lo lo' : Lo} {H H' : Hp} (e : f d lo H = some (.next lo' H')) : loopV f (d :: ds) lo H = loopV f ds lo' H' := by
  rw [loopV, e]
/-- the loop over what is still to come -/
theorem loop_snd {target : Expr} {body : List Stmt} {f : DV → Lo → Hp → Option RS} {It : Addr} {IS : Wd → List DV → Heap → Prop} {w₀ : Wd} {s₀ : Shared} {Q : Flow → Shared → Prop} {E : Value → Shared → Prop} {r : Option RS} {ds : List DV} {s : Shared}
    (C : FnOk base cx n) (I : ItOk prog wo base cx It IS) (h0 : s₀.heap.get? It = none) (hR : It ∉ cx.R) (hB : base.get? It = none) (hfr : ∀ b ∈ cx.F, ∃ m, s₀.heap.Ns b m) (hX : It ∉ cx.own)
    (hturn : ∀ d v lo H w, VRel base w v d → SndS base (cx.res It) (fun Q E s => wpAny (model prog wo) cx.A (assign target cx.env v) (fun _ s₂ => wpAny (model prog wo) cx.A (execs body cx.env) Q E s₂) E s) lo H (f d lo H) w)
    (st : StS base cx lo H w s) (k : Step base cx.R cx.F cx.own w₀ s₀ w H s) (hi : IS w ds s.heap) (h1 : It ∉ w.ρ) (h2 : ∀ p ∈ w.pool, p.1 ≠ It) (hr : r = loopV f ds lo H)
    (nx : ∀ lo' H', r = some (.next lo' H') → ∀ w' s', Step base cx.R cx.F cx.own w₀ s₀ w' H' s' → StS base cx lo' H' w' s' → Q .next s')
    (rt : ∀ d H', r = some (.ret d H') → ∀ v w' s', Step base cx.R cx.F cx.own w₀ s₀ w' H' s' → VRel base w' v d → Q (.ret v) s')
    (er : ∀ m t H', r = some (.err m t H') → ∀ e w' s', FlyM m base cx.l cx.env.locals cx.R cx.own w₀ s₀ t H' w' e s' → E (.ref e) s') (ne : r ≠ none) :
    codeAny (model prog wo) cx.A (.forLoop target (.ref It) body [] cx.env) (fun r s' => match r with | .ok f => Q f s' | .error e => cameBackBy (model prog wo) cx.A cx.env E e s') s := by
  obtain ⟨outer, hl⟩ := C.top
  refine codeAny_forLoop_any (fun left s => ∃ (lo : Lo) (H : Hp) (w : Wd) (ds : List DV), ds.length = left ∧ StS base cx lo H w s ∧ Step base cx.R cx.F cx.own w₀ s₀ w H s ∧ IS w ds s.heap ∧ It ∉ w.ρ ∧ (∀ p ∈ w.pool, p.1 ≠ It) ∧ r = loopV f ds lo H) (fun left s hI => ?_) ds.length ⟨lo, H, w, ds, rfl, st, k, hi, h1, h2, hr⟩
  obtain ⟨lo, H, w, ds, hlen, st, k, hi, h1, h2, hr⟩ := hI
  have hpool : ∀ p ∈ w.pool, s.heap.get? p.1 = some p.2 ∧ p.1 ≠ It := fun p m => ⟨st.hp.pool p m, h2 p m⟩
  cases ds with
  | nil =>
    refine I.fin w s _ _ hpool hi fun h' he => ?_
    obtain ⟨k', st'⟩ := StS.extBut (tk := s.toks) C k st he h0 hR hB h1 h2 hfr
    exact wpAny_execs_nil (nx lo H (by rw [hr]; rfl) w _ k' st')
  | cons d rem =>
    refine I.next d rem w s _ _ hpool hi fun v h' tk hv hs hi' => ?_
    obtain ⟨k', st'⟩ := StS.extBut (tk := tk) C k st hs.extBut h0 hR hB h1 h2 hfr
    refine I.own w rem h' hi' target v _ _ _ rfl ?_
    have hne : f d lo H ≠ none := fun q => ne (by rw [hr]; unfold loopV; rw [q])
    refine hturn d v lo H w hv _ _ _ (st'.res h1 h2 (I.there _ _ _ hi')) (fun lo' H' e w' s' k₁ st₁ => ?_) (fun d' H' e v' w' s' k₁ hv' => ?_) (fun m t H' e x w' s' fl => ?_) hne
    · have ho := st₁.hp.offR
      have hp' := st₁.hp.offP
      refine ⟨rem.length, by rw [← hlen]; exact Nat.lt_succ_self _, lo', H', w', rem, rfl, st₁.unres, k'.trans k₁.unres, ?_, fun m => ho It m (.head _), fun p m q => hp' p m (q ▸ .head _), ?_⟩
      · refine I.keep w w' rem _ _ hi' k₁.grow.ext fun o ho => k₁.kept.same It o ho (fun m => ?_) fun m => hR (C.FR It m)
        rcases List.mem_append.mp m with m | m
        · exact hX m
        · exact h1 m
      · rw [hr]; exact loopV_next e
    · exact rt d' H' (by rw [hr]; unfold loopV; rw [e]) v' w' s' (k'.trans k₁.unres) hv'
    · have hm : m = .fresh := by
        cases m <;> first | rfl | (exact absurd (by rw [hr]; unfold loopV; rw [e]) ne)
      subst hm
      have fl' : FlyM .fresh base (cx.env :: outer) cx.env.locals cx.R cx.own w₀ s₀ t H' w' x s' := by
        have := fl.unres
        rw [show (cx.res It).l = cx.env :: outer from hl] at this
        refine FlyM.pre (by rw [← hl]; exact k') this
      refine noted_back (by rw [C.hf, hl]) C.frame fl' fun s₂ f₂ => er .held t H' (by rw [hr]; unfold loopV; rw [e]) x w' s₂ (by rw [hl]; exact f₂)
end
end Mine
end

section
set_option autoImplicit false
set_option maxRecDepth 100000
namespace Mine

section
variable {prog : Program} {wo : World} {K : Frag} {base : Heap} {p : Program} {loose : List Str} {mean : ExcName → Option Value} {mg mb : Str → Option Value} {cx : Cx} {n : Nat} {lo : Lo} {H : Hp} {w : Wd} {fa : Fn → Addr} {sc : Sc} {cf : CF}

theorem letGo_plain {M : Model} {A : Around} {s : Shared} {It : Addr} {o : Obj} {T : String} {target : Expr} {v : Value} {Q : Unit → Shared → Prop} {E : Value → Shared → Prop} (ho : s.heap.get? It = some o) (hc : o.cls = .type T)
    (hT : ["enumerate", "zip", "dict_itemiterator", "dict_reverseitemiterator", "odict_iterator", "itertools.zip_longest", "itertools.pairwise"].contains T = false) (h : Q () s) : wpAny M A (letOwnedTupleGo target (.ref It) v) Q E s := by
  unfold letOwnedTupleGo
  split
  all_goals first
    | exact wpAny_pure h
    | (cases v <;> first
        | exact wpAny_pure h
        | (refine wpAny_bind (wpAny_load ho ?_)
           rw [hc]
           split
           · rename_i T' vs q1 q2
             cases q1
             rw [hT, Bool.false_and, if_neg Bool.false_ne_true]
             exact wpAny_pure h
           · exact wpAny_pure h))

theorem rngI_len (a b : Int) : rngI a b = rngI a (a + (((b - a).toNat : Nat) : Int)) := by
  unfold rngI
  congr 2
  lia

noncomputable def RangeIS (It : Addr) : Wd → List DV → Heap → Prop := fun _ rem h => ∃ a left : Int, rem = (rngI a (a + left)).map (fun k => DV.d (.int k)) ∧ 0 ≤ left ∧ IsRangeIter h It a left 1
theorem itOk_range {It : Addr} (C : CxOk base cx n) : ItOk prog wo base cx It (RangeIS It) := by
  refine ⟨fun w w' rem h h' hi _ k => ?_, fun w rem h hi => ?_, fun w rem h hi target v Q E s hs hq => ?_, fun d rem w s Q E _ hi k => ?_, fun w s Q E _ hi k => ?_⟩
  · obtain ⟨a, left, e, l, hit⟩ := hi; exact ⟨a, left, e, l, k _ hit⟩
  · obtain ⟨a, left, e, l, hit⟩ := hi; exact ⟨_, hit⟩
  · obtain ⟨a, left, e, l, hit⟩ := hi
    exact letGo_plain (by rw [hs]; exact hit) rfl (by decide) hq
  · obtain ⟨a, left, e, l, hit⟩ := hi
    have hpos : 0 < left := by
      by_cases q : 0 < left
      · exact q
      · rw [rngI_nil (by lia)] at e; cases e
    rw [rngI_cons (by lia), List.map_cons] at e
    cases e
    exact wpAny_pyNext_range_item hit hpos fun h' hit' hs => k _ h' _ (.d (.int _ _)) hs ⟨a + 1, left - 1, by rw [show a + 1 + (left - 1) = a + left by lia], by lia, hit'⟩
  · obtain ⟨a, left, e, l, hit⟩ := hi
    refine wpAny_pyNext_range_end C.hh hit ?_ k
    by_cases q : 0 < left
    · rw [rngI_cons (by lia)] at e; cases e
    · lia

noncomputable def ListIS (It : Addr) : Wd → List DV → Heap → Prop := fun w rem h => ∃ l o vs m i ds, (l, o) ∈ w.pool ∧ o.cls = .type "list" ∧ o.data = .seq (List.toArray vs) m ∧ DAll w.pool vs ds ∧ h.IsListIter It l i ∧ rem = (ds.drop i).map DV.d
theorem drop_head {α : Type} {l : List α} {i : Nat} {x : α} {r : List α} (h : l.drop i = x :: r) : l[i]? = some x ∧ l.drop (i + 1) = r := by
  have h1 : (l.drop i)[0]? = some x := by rw [h]; rfl
  rw [List.getElem?_drop, Nat.add_zero] at h1
  refine ⟨h1, ?_⟩
  rw [← List.tail_drop, h]; rfl
theorem drop_none {α : Type} {l : List α} {i : Nat} (h : l.drop i = []) : l.length ≤ i := List.drop_eq_nil_iff.mp h
theorem itOk_list {It : Addr} (C : CxOk base cx n) : ItOk prog wo base cx It (ListIS It) := by
  refine ⟨fun w w' rem h h' hi g k => ?_, fun w rem h hi => ?_, fun w rem h hi target v Q E s hs hq => ?_, fun d rem w s Q E hp hi k => ?_, fun w s Q E hp hi k => ?_⟩
  · obtain ⟨l, o, vs, m, i, ds, h1, h2, h3, h4, ⟨oi, h5, h6⟩, h7⟩ := hi
    exact ⟨l, o, vs, m, i, ds, g.pool _ h1, h2, h3, h4.mono g.pool, ⟨oi, k _ h5, h6⟩, h7⟩
  · obtain ⟨l, o, vs, m, i, ds, h1, h2, h3, h4, ⟨oi, h5, h6⟩, h7⟩ := hi; exact ⟨oi, h5⟩
  · obtain ⟨l, o, vs, m, i, ds, h1, h2, h3, h4, ⟨oi, h5, h6, _⟩, h7⟩ := hi
    exact letGo_plain (by rw [hs]; exact h5) h6 (by decide) hq
  · obtain ⟨l, o, vs, m, i, ds, h1, h2, h3, h4, h5, h7⟩ := hi
    obtain ⟨d', rem', e1, e2, e3⟩ : ∃ d' rem', ds.drop i = d' :: rem' ∧ d = .d d' ∧ rem = rem'.map DV.d := by
      cases hd : ds.drop i with
      | nil => rw [hd] at h7; cases h7
      | cons d' rem' => rw [hd] at h7; cases h7; exact ⟨_, _, rfl, rfl, rfl⟩
    subst e2 e3
    obtain ⟨f1, f2⟩ := drop_head e1
    obtain ⟨x, hx, hxd⟩ := h4.get f1
    exact wpAny_pyNext_list_item h5 ⟨o, (hp _ h1).1, h2, _, h3⟩ (by simpa using hx) fun h' hit' hs => k x h' s.toks (.d hxd) hs ⟨l, o, vs, m, i + 1, ds, h1, h2, h3, h4, hit', by rw [f2]⟩
  · obtain ⟨l, o, vs, m, i, ds, h1, h2, h3, h4, h5, h7⟩ := hi
    have hz := drop_none (List.map_eq_nil_iff.mp h7.symm)
    have := h4.length
    exact wpAny_pyNext_list_end C.hh h5 ⟨o, (hp _ h1).1, h2, _, h3⟩ (by simp; lia) k

noncomputable def TupIS (It : Addr) : Wd → List DV → Heap → Prop := fun w rem h => ∃ l o vs m i ds, (l, o) ∈ w.pool ∧ o.cls = .type "tuple" ∧ o.data = .seq (List.toArray vs) m ∧ DAll w.pool vs ds ∧ IsTupIter h It l i ∧ rem = (ds.drop i).map DV.d
theorem itOk_tup {It : Addr} (C : CxOk base cx n) : ItOk prog wo base cx It (TupIS It) := by
  refine ⟨fun w w' rem h h' hi g k => ?_, fun w rem h hi => ?_, fun w rem h hi target v Q E s hs hq => ?_, fun d rem w s Q E hp hi k => ?_, fun w s Q E hp hi k => ?_⟩
  · obtain ⟨l, o, vs, m, i, ds, h1, h2, h3, h4, ⟨oi, h5, h6⟩, h7⟩ := hi
    exact ⟨l, o, vs, m, i, ds, g.pool _ h1, h2, h3, h4.mono g.pool, ⟨oi, k _ h5, h6⟩, h7⟩
  · obtain ⟨l, o, vs, m, i, ds, h1, h2, h3, h4, ⟨oi, h5, h6⟩, h7⟩ := hi; exact ⟨oi, h5⟩
  · obtain ⟨l, o, vs, m, i, ds, h1, h2, h3, h4, ⟨oi, h5, h6, _⟩, h7⟩ := hi
    exact letGo_plain (by rw [hs]; exact h5) h6 (by decide) hq
  · obtain ⟨l, o, vs, m, i, ds, h1, h2, h3, h4, h5, h7⟩ := hi
    obtain ⟨d', rem', e1, e2, e3⟩ : ∃ d' rem', ds.drop i = d' :: rem' ∧ d = .d d' ∧ rem = rem'.map DV.d := by
      cases hd : ds.drop i with
      | nil => rw [hd] at h7; cases h7
      | cons d' rem' => rw [hd] at h7; cases h7; exact ⟨_, _, rfl, rfl, rfl⟩
    subst e2 e3
    obtain ⟨f1, f2⟩ := drop_head e1
    obtain ⟨x, hx, hxd⟩ := h4.get f1
    exact next_tuple_item h5 ⟨o, (hp _ h1).1, h2, _, h3⟩ (by simpa using hx) fun h' hit' hs => k x h' s.toks (.d hxd) hs ⟨l, o, vs, m, i + 1, ds, h1, h2, h3, h4, hit', by rw [f2]⟩
  · obtain ⟨l, o, vs, m, i, ds, h1, h2, h3, h4, h5, h7⟩ := hi
    have hz := drop_none (List.map_eq_nil_iff.mp h7.symm)
    have := h4.length
    exact next_tuple_end C.hh h5 ⟨o, (hp _ h1).1, h2, _, h3⟩ (by simp; lia) k

/-- a loop begun -/
theorem for_run {target : Expr} {body : List Stmt} {f : DV → Lo → Hp → Option RS} {It : Addr} {IS : Wd → List DV → Heap → Prop} {h' : Heap} {tk : Nat} {s : Shared} {Q : Flow → Shared → Prop} {E : Value → Shared → Prop} {ds : List DV}
    (C : FnOk base cx n) (I : ItOk prog wo base cx It IS) (st : StS base cx lo H w s) (k : ∀ b o, s.heap.get? b = some o → h'.get? b = some o) (h0 : s.heap.get? It = none) (hi : IS w ds h')
    (hturn : ∀ d v lo H w, VRel base w v d → SndS base (cx.res It) (fun Q E s => wpAny (model prog wo) cx.A (assign target cx.env v) (fun _ s₂ => wpAny (model prog wo) cx.A (execs body cx.env) Q E s₂) E s) lo H (f d lo H) w)
    (nx : ∀ lo' H', loopV f ds lo H = some (.next lo' H') → ∀ w' s', Step base cx.R cx.F cx.own w s w' H' s' → StS base cx lo' H' w' s' → Q .next s')
    (rt : ∀ d H', loopV f ds lo H = some (.ret d H') → ∀ v w' s', Step base cx.R cx.F cx.own w s w' H' s' → VRel base w' v d → Q (.ret v) s')
    (er : ∀ m t H', loopV f ds lo H = some (.err m t H') → ∀ e w' s', FlyM m base cx.l cx.env.locals cx.R cx.own w s t H' w' e s' → E (.ref e) s') (ne : loopV f ds lo H ≠ none) :
    codeAny (model prog wo) cx.A (.forLoop target (.ref It) body [] cx.env) (fun r s' => match r with | .ok f => Q f s' | .error e => cameBackBy (model prog wo) cx.A cx.env E e s') { s with heap := h', toks := tk } := by
  have hR : It ∉ cx.R := fun m => by obtain ⟨o, e⟩ := st.rin It m; rw [h0] at e; cases e
  have hB : base.get? It = none := by
    cases q : base.get? It with
    | none => rfl
    | some o => have := st.stays It o q; rw [h0] at this; cases this
  have kk : Step base cx.R cx.F [] w s w H { s with heap := h', toks := tk } := step_of_kept st.hp (.of_all k) C.FR
  refine loop_snd C I h0 hR hB st.fr (fun m => ?_) hturn (st.stepE C.toCxOk kk) (kk.mono fun _ m => nomatch m) hi (fun m => ?_) (fun p m q => ?_) rfl nx rt er ne
  · rcases List.mem_cons.mp m with rfl | m
    · exact hR C.LR
    · obtain ⟨p, hp, e⟩ := List.mem_map.mp m
      exact hR (e ▸ (C.CR p hp).1)
  · obtain ⟨o, e⟩ := st.hp.there It m; rw [h0] at e; cases e
  · have := st.hp.pool p m; rw [q, h0] at this; cases this

/-- one turn with a name -/
theorem turnN {It : Addr} {body : List Stmt} {x : Nat} {y : Str} {np : Pos} {g : Lo → Hp → Option RS} (C : FnOk base cx n) (hx : cx.names[x]? = some y) (hk : cx.env.kindOf y = some .local ∨ cx.env.kindOf y = some .cell) (hb : ∀ lo H w, SndS base (cx.res It) (XTs prog wo (cx.res It) body) lo H (g lo H) w) (d : DV) (v : Value) (lo : Lo) (H : Hp) (w : Wd) (hv : VRel base w v d) :
    SndS base (cx.res It) (fun Q E s => wpAny (model prog wo) cx.A (assign (.Name y np) cx.env v) (fun _ s₂ => wpAny (model prog wo) cx.A (execs body cx.env) Q E s₂) E s) lo H (g (lo.set x (some d)) H) w := by
  intro s Q E st nx rt er ne
  refine PyProof.Rows.assign_Name (wp_store (cx := cx.res It) C.res st hx hk hv fun s₁ k₁ st₁ => ?_)
  exact hb _ _ w s₁ Q E st₁ (fun lo' H' e w' s' k st' => nx lo' H' e w' s' (k₁.trans k) st') (fun d H' e v w' s' k hv => rt d H' e v w' s' (k₁.trans k) hv) (fun m t H' e x w' s' f => er m t H' e x w' s' (f.pre k₁)) ne
/-- one turn with names -/
theorem turnU {It : Addr} {body : List Stmt} {xs : List Nat} {es : List Expr} {kk : Nat} {tp : Pos} {g : Lo → Hp → Option RS} (C : FnOk base cx n) (S : ScOk sc cx) (ht : tgtOk sc xs es = true) (hb : ∀ lo H w, SndS base (cx.res It) (XTs prog wo (cx.res It) body) lo H (g lo H) w) (d : DV) (v : Value) (lo : Lo) (H : Hp) (w : Wd) (hv : VRel base w v d) :
    SndS base (cx.res It) (fun Q E s => wpAny (model prog wo) cx.A (assign (.Tuple es kk tp) cx.env v) (fun _ s₂ => wpAny (model prog wo) cx.A (execs body cx.env) Q E s₂) E s) lo H ((tupItems d).bind fun es => (setAll lo xs es).bind fun lo' => g lo' H) w := by
  intro s Q E st nx rt er ne
  cases hd : tupItems d with
  | none => rw [hd] at ne; exact absurd rfl ne
  | some ds =>
    rw [hd, Option.bind_some] at nx rt er ne
    cases hl : setAll lo xs ds with
    | none => rw [hl] at ne; exact absurd rfl ne
    | some lo' =>
      rw [hl, Option.bind_some] at nx rt er ne
      have hd' : d = .d (.tuple ds) := by
        unfold tupItems at hd; split at hd <;> first | (cases hd; rfl) | cases hd
      subst hd'
      refine wp_unpack (cx := cx.res It) C.res ⟨S.names, S.glob, S.cell, S.var⟩ ht hv hl st fun s₁ k₁ st₁ => ?_
      exact hb _ _ w s₁ Q E st₁ (fun lo' H' e w' s' k st' => nx lo' H' e w' s' (k₁.trans k) st') (fun d H' e v w' s' k hv => rt d H' e v w' s' (k₁.trans k) hv) (fun m t H' e x w' s' f => er m t H' e x w' s' (f.pre k₁)) ne
end
end Mine
end

section
set_option autoImplicit false
set_option maxRecDepth 100000
namespace Mine

section
variable {prog : Program} {wo : World} {K : Frag} {base : Heap} {p : Program} {loose : List Str} {mean : ExcName → Option Value} {mg mb : Str → Option Value} {cx : Cx} {n : Nat} {lo : Lo} {H : Hp} {w : Wd} {fa : Fn → Addr} {sc : Sc} {cf : CF}

/-- what a loop does behind its iterator -/
noncomputable abbrev LT (prog : Program) (wo : World) (cx : Cx) (target : Expr) (body : List Stmt) (Q : Flow → Shared → Prop) (E : Value → Shared → Prop) (it : Value) (s : Shared) : Prop :=
  codeAny (model prog wo) cx.A (.forLoop target it body [] cx.env) (fun r s' => match r with | .ok f => Q f s' | .error e => cameBackBy (model prog wo) cx.A cx.env E e s') s

/-- the loop over a range, behind its ends -/
theorem range_run {target : Expr} {body : List Stmt} {f : DV → Lo → Hp → Option RS} {a b : Int} {args : List Value} (C : FnOk base cx n) (ha : small a = true) (hb : small b = true) 
    (hargs : (∃ t, a = 0 ∧ args = [.int b t]) ∨ (∃ t u, args = [.int a t, .int b u]))
    (hturn : ∀ It d v lo H w, VRel base w v d → SndS base (cx.res It) (fun Q E s => wpAny (model prog wo) cx.A (assign target cx.env v) (fun _ s₂ => wpAny (model prog wo) cx.A (execs body cx.env) Q E s₂) E s) lo H (f d lo H) w) :
    SndS base cx (fun Q E s => wpAny (model prog wo) cx.A (call (.type "range") args) (fun xv s₁ => wpAny (model prog wo) cx.A (pyIter xv) (fun it s₂ => LT prog wo cx target body Q E it s₂) E s₁) E s) lo H
      (loopV f ((rngI a b).map fun k => .d (.int k)) lo H) w := by
  intro s Q E st nx rt er ne
  obtain ⟨m₀, nw, F, N, fs, kp⟩ := st.frn C.toCxOk
  have a1 := small_some ha
  have b1 := small_some hb
  have main : ∀ h' tk t₁ u₁ v₁, IsRange h' s.heap.objs.size a b 1 t₁ u₁ v₁ → (∀ b o, s.heap.get? b = some o → h'.get? b = some o) →
      wpAny (model prog wo) cx.A (pyIter (.ref s.heap.objs.size)) (fun it s₂ => LT prog wo cx target body Q E it s₂) E { s with heap := h', toks := tk } := by
    intro h' tk t₁ u₁ v₁ hr hk
    refine wpAny_pyIter_range hr (small_one (by lia) (by lia) (by lia) (by lia)) ?_
    rw [size_one]
    have h0 : s.heap.get? h'.objs.size = none := (Kept.of_all hk (ρ := []) (F := [])).none (gets_none (Nat.le_refl _))
    refine for_run (s := s) (tk := tk) (IS := RangeIS h'.objs.size) C (itOk_range C.toCxOk) st (fun b o e => Heap.get?_push_of_some _ (hk b o e)) h0 ⟨a, (((b - a).toNat : Nat) : Int), by rw [← rngI_len], by lia, Heap.get?_push_size _ rfl⟩ (hturn _) nx rt er ne
  rcases hargs with ⟨t, rfl, rfl⟩ | ⟨t, u, rfl⟩
  · exact range1_rows F N fun h' tk t₁ u₁ v₁ hr _ _ hk => main h' tk t₁ u₁ v₁ hr hk
  · exact range2_rows F N fun h' tk t₁ u₁ v₁ hr _ _ hk => main h' tk t₁ u₁ v₁ hr hk

theorem sndX_forR1 {e : Expr} {target : Expr} {y : Str} {np pos' pos : Pos} {body : List Stmt} {f : DV → Lo → Hp → Option RS} {r : Option (Rx DV)} (C : FnOk base cx n) (G : Gd K base p loose mean mg mb) (b : BootName K cx y (.type "range")) (hs : notStar e = true)
    (h : SndW base cx (VRel base) (ET prog wo cx e) lo H r w)
    (hturn : ∀ It d v lo H w, VRel base w v d → SndS base (cx.res It) (fun Q E s => wpAny (model prog wo) cx.A (assign target cx.env v) (fun _ s₂ => wpAny (model prog wo) cx.A (execs body cx.env) Q E s₂) E s) lo H (f d lo H) w) :
    SndS base cx (XT prog wo cx (.For target (.Call (.Name y np) [e] [] pos') body [] pos)) lo H (bnS r fun bv H₂ => (intOf bv).bind fun b => if small 0 && small b then loopV f ((rngI 0 b).map fun k => .d (.int k)) lo H₂ else .none) w := by
  refine SndS.of (SndS.bnd (f := fun bv Q E s => wpAny (model prog wo) cx.A (call (.type "range") [bv]) (fun xv s₁ => wpAny (model prog wo) cx.A (pyIter xv) (fun it s₂ => LT prog wo cx target body Q E it s₂) E s₁) E s) C.toCxOk h fun d H₁ v w' _ _ hv => ?_)
    fun Q E s st h => wpAny_For (wp_call1 C.toCxOk G st.toStE b hs h)
  cases hi : intOf d with
  | none => exact SndS.stuck
  | some bb =>
    rw [Option.bind_some]
    obtain rfl := intOf_some hi
    obtain ⟨t, rfl⟩ := int_val hv
    split
    · rename_i q
      rw [Bool.and_eq_true] at q
      exact range_run C q.1 q.2 (.inl ⟨t, rfl, rfl⟩) hturn
    · exact SndS.stuck
theorem sndX_forR2 {e₁ e₂ : Expr} {target : Expr} {y : Str} {np pos' pos : Pos} {body : List Stmt} {f : DV → Lo → Hp → Option RS} {r : Option (Rx DV)} {k : Hp → Option (Rx DV)} (C : FnOk base cx n) (G : Gd K base p loose mean mg mb) (b : BootName K cx y (.type "range")) (hs₁ : notStar e₁ = true) (hs₂ : notStar e₂ = true)
    (h₁ : SndW base cx (VRel base) (ET prog wo cx e₁) lo H r w) (h₂ : ∀ H w, SndW base cx (VRel base) (ET prog wo cx e₂) lo H (k H) w)
    (hturn : ∀ It d v lo H w, VRel base w v d → SndS base (cx.res It) (fun Q E s => wpAny (model prog wo) cx.A (assign target cx.env v) (fun _ s₂ => wpAny (model prog wo) cx.A (execs body cx.env) Q E s₂) E s) lo H (f d lo H) w) :
    SndS base cx (XT prog wo cx (.For target (.Call (.Name y np) [e₁, e₂] [] pos') body [] pos)) lo H (bnS r fun av H₁ => bnS (k H₁) fun bv H₂ => (intOf av).bind fun a => (intOf bv).bind fun b => if small a && small b then loopV f ((rngI a b).map fun k => .d (.int k)) lo H₂ else .none) w := by
  refine SndS.of (SndS.bnd (f := fun av Q E s => wpAny (model prog wo) cx.A (eval e₂ cx.env) (fun bv s => wpAny (model prog wo) cx.A (call (.type "range") [av, bv]) (fun xv s₁ => wpAny (model prog wo) cx.A (pyIter xv) (fun it s₂ => LT prog wo cx target body Q E it s₂) E s₁) E s) E s) C.toCxOk h₁ fun d H₁ av w₁ _ _ hav => ?_)
    fun Q E s st h => wpAny_For (wp_call2 C.toCxOk G st.toStE b hs₁ hs₂ h)
  refine SndS.bnd (f := fun bv Q E s => wpAny (model prog wo) cx.A (call (.type "range") [av, bv]) (fun xv s₁ => wpAny (model prog wo) cx.A (pyIter xv) (fun it s₂ => LT prog wo cx target body Q E it s₂) E s₁) E s) C.toCxOk (h₂ H₁ w₁) fun d' H₂ bv w₂ _ g hbv => ?_
  cases hi : intOf d with
  | none => exact SndS.stuck
  | some aa =>
    cases hj : intOf d' with
    | none => exact SndS.stuck
    | some bb =>
      rw [Option.bind_some, Option.bind_some]
      obtain rfl := intOf_some hi
      obtain rfl := intOf_some hj
      obtain ⟨t, rfl⟩ := int_val hav
      obtain ⟨u, rfl⟩ := int_val hbv
      split
      · rename_i q
        rw [Bool.and_eq_true] at q
        exact range_run C q.1 q.2 (.inr ⟨t, u, rfl⟩) hturn
      · exact SndS.stuck

/-- a loop over a list or a tuple -/
theorem sndX_forS {e : Expr} {target : Expr} {pos : Pos} {body : List Stmt} {f : DV → Lo → Hp → Option RS} {r : Option (Rx DV)} (C : FnOk base cx n) (hf : ∀ x, foldedSetIterable e cx.env x = pure x) (h : SndW base cx (VRel base) (ET prog wo cx e) lo H r w)
    (hturn : ∀ It d v lo H w, VRel base w v d → SndS base (cx.res It) (fun Q E s => wpAny (model prog wo) cx.A (assign target cx.env v) (fun _ s₂ => wpAny (model prog wo) cx.A (execs body cx.env) Q E s₂) E s) lo H (f d lo H) w) :
    SndS base cx (XT prog wo cx (.For target e body [] pos)) lo H (bnS r fun v H₁ => (seqItems v).bind fun ds => loopV f (ds.map .d) lo H₁) w := by
  refine SndS.of (SndS.bnd (f := fun xv Q E s => wpAny (model prog wo) cx.A (pyIter xv) (fun it s₂ => LT prog wo cx target body Q E it s₂) E s) C.toCxOk h fun d H₁ v w' _ _ hv => ?_) fun Q E s st h => wpAny_For h hf
  intro s Q E st nx rt er ne
  cases hd : seqItems d with
  | none => rw [hd] at ne; exact absurd rfl ne
  | some ds =>
    rw [hd, Option.bind_some] at nx rt er ne
    have h0 : s.heap.get? s.heap.objs.size = none := gets_none (Nat.le_refl _)
    unfold seqItems at hd
    split at hd
    · cases hd
      replace hv := hv.d_inv
      obtain ⟨_, _, _, _, rfl, m, c, e, rr⟩ := hv.tuple_inv
      exact iter_tuple ⟨_, st.hp.pool _ m, c, _, e⟩ (for_run (IS := TupIS s.heap.objs.size) (tk := s.toks) C (itOk_tup C.toCxOk) st (fun b o e => Heap.get?_push_of_some _ e) h0 ⟨_, _, _, _, 0, _, m, c, e, rr, ⟨_, Heap.get?_push_size _ rfl, rfl, rfl⟩, rfl⟩ (hturn _) nx rt er ne)
    · cases hd
      replace hv := hv.d_inv
      obtain ⟨_, _, _, _, rfl, m, c, e, rr⟩ := hv.list_inv
      exact wpAny_pyIter_list ⟨_, st.hp.pool _ m, c, _, e.1⟩ (for_run (IS := ListIS s.heap.objs.size) (tk := s.toks) C (itOk_list C.toCxOk) st (fun b o e => Heap.get?_push_of_some _ e) h0 ⟨_, _, _, _, 0, _, m, c, e.1, rr, ⟨_, Heap.get?_push_size _ rfl, rfl, rfl⟩, rfl⟩ (hturn _) nx rt er ne)
    · cases hd

/-- while: no exception within -/
theorem sndX_whl {e : Expr} {pos : Pos} {body : List Stmt} {c : Lo → Hp → Option (Rx Bool)} {f : Lo → Hp → Option RS} (C : FnOk base cx n) (h : ∀ lo H w, SndW base cx VB (TT prog wo cx e) lo H (c lo H) w) (hb : ∀ lo H w, SndS base cx (XTs prog wo cx body) lo H (f lo H) w) (fuel : Nat) :
    SndS base cx (XT prog wo cx (.While e body [] pos)) lo H (whileV c f fuel lo H) w := by
  intro s Q E st nx rt er ne
  refine wpAny_While (codeAny_whileLoop (fun left s' => ∃ lo' H' w', StS base cx lo' H' w' s' ∧ Step base cx.R cx.F cx.own w s w' H' s' ∧ whileV c f left lo' H' = whileV c f fuel lo H) (fun left s' hI => ?_) fuel ⟨lo, H, w, st, Step.here (tk := s.toks) st.hp, rfl⟩)
  obtain ⟨lo', H', w', st', k', hr⟩ := hI
  cases left with
  | zero => exact absurd hr.symm (by rw [whileV]; exact ne)
  | succ left =>
    rw [whileV] at hr
    refine h lo' H' w' s' _ _ st'.toStE (fun b H₁ e b' w₁ s₁ k₁ hb' => ?_) (fun t H₁ e => ?_) (fun e => ?_)
    · obtain rfl : b' = b := hb'
      rw [e] at hr
      have st₁ := st'.stepE C.toCxOk k₁
      have kk := k'.trans (k₁.mono (Y := cx.own) fun _ m => nomatch m)
      cases b' with
      | true =>
        have hne : f lo' H₁ ≠ none := fun q => ne (by rw [← hr]; simp only [q])
        refine hb lo' H₁ w₁ s₁ _ _ st₁ (fun lo₂ H₂ e₂ w₂ s₂ k₂ st₂ => ?_) (fun d H₂ e₂ => ?_) (fun m t H₂ e₂ => ?_) hne
        · exact ⟨left, Nat.lt_succ_self _, lo₂, H₂, w₂, st₂, kk.trans k₂, by rw [← hr]; simp only [e₂]⟩
        · exact absurd (by rw [← hr]; simp only [e₂]) ne
        · exact absurd (by rw [← hr]; simp only [e₂]) ne
      | false => exact wpAny_execs_nil (nx lo' H₁ hr.symm w₁ s₁ kk st₁)
    · rw [e] at hr; exact absurd hr.symm ne
    · rw [e] at hr; exact absurd hr.symm ne
end
end Mine
end

section
set_option autoImplicit false
set_option maxRecDepth 100000
namespace Mine

section
variable {prog : Program} {w : World} {A : Around} {E : Value → Shared → Prop} {K : Frag} {s : Shared} {C e : Addr} {oe od : Obj} {name : Str} {v : Value} {expr : Bool}

/-- what is got of an exception out of its own dict -/
theorem get_exc {Q : Value → Shared → Prop} (X : K.In s.heap) (I : PySem.W.InstAt s.heap e oe C (some od)) (hga : findIn K (.ref C) "__getattribute__" = some (some (.builtin "BaseException.__getattribute__"))) (hgt : findIn K (.ref C) "__getattr__" = some none)
    (hm : mroIn K C (.type "BaseException") = some true) (hf : findObj K C (some od) name = some (.value v)) (hh : handedIn v = true) (h : Q v { s with toks := s.toks + 1 }) : wpAny (model prog w) A (getAttr (.ref e) name expr) Q E s := by
  have slot : Slot "Exception" "__getattribute__" "BaseException.__getattribute__" := PySem.F.attr_Exception.ga
  have L0 := I.type (M := model prog w)
  have L1 := looks_findIn (M := model prog w) X hga
  have L2 := looks_findIn (M := model prog w) X hgt
  have L3 := looks_find (M := model prog w) X I hf
  have hk : ∀ b o, s.heap.get? b = some o → ({ s with toks := s.toks + 1 } : Shared).heap.get? b = some o := fun _ _ e => e
  unfold getAttr getAttrBy
  refine wpAny_bind (wpAny_mkText (wpAny_holding (wpAny_bind (L0 _ _ _ _ hk (wpAny_bind (L1 _ _ _ _ hk ?_))))))
  show wpAny _ _ (getAttrByItsOwn _ _ _ _ _ _) _ _ _
  unfold getAttrByItsOwn
  refine wpAny_bind (m := hookBefore (.ref C)) (L2 _ _ _ _ hk ?_)
  refine wpAny_bind (wpAny_attempt (wpAny_holding ?_))
  have hc : callGetattribute (.ref e) (.str name s.toks) (.builtin "BaseException.__getattribute__") expr = boundAndCalled (.builtin "BaseException.__getattribute__") (.ref e) (.str name s.toks) := by
    unfold callGetattribute
    cases expr <;> rfl
  rw [hc]
  unfold boundAndCalled
  rw [slot.bind]
  refine wpAny_bind (wpAny_pure ?_)
  have hsub : Looks (model prog w) s.heap (isInstance (.ref e) (.type "BaseException")) true := I.type.andThen (looks_mroIn X hm)
  refine wpAny_call (codeAny_call_builtin slot.plain PySem.F.entry_bexc_ga (@check_slot (model prog w) _ _ { s with toks := s.toks + 1 } "BaseException.__getattribute__" "BaseException" "__getattribute__" (.ref e) [.str name s.toks] [] _ (by decide +kernel) (by decide +kernel) hsub (PySem.F.args_bexc_ga _ _) ?_))
  unfold Builtin.«object.__getattribute__»
  refine wpAny_bind (wpAny_pure (wpAny_bind (wpAny_pure (wpAny_bind (L0 _ _ _ _ hk (wpAny_bind (L3 _ _ _ _ hk ?_)))))))
  refine wpAny_pure ?_
  show wpAny _ _ (handedOut v) _ _ _
  rw [handedOut_of hh]; exact wpAny_pure h
end
end Mine
end

section
set_option autoImplicit false
set_option maxRecDepth 100000
namespace Mine

/-- what the written part says of the class of the exceptions -/
structure XFacts (K : Frag) : Prop where
  name : nsIn K mainGlobals (Str.ofString "RunFault") = some (some (.ref rfCls))
  kts : ktsIn K rfCls "BaseException" = true
  hasD : hasDictIn K rfCls = true
  ga : findIn K (.ref rfCls) "__getattribute__" = some (some (.builtin "BaseException.__getattribute__"))
  gt : findIn K (.ref rfCls) "__getattr__" = some none
  sup : mroIn K rfCls (.type "BaseException") = some true
  txt : findIn K (.ref rfCls) (Str.ofString "text") = some none

section
variable {prog : Program} {wo : World} {K : Frag} {base : Heap} {p : Program} {loose : List Str} {mean : ExcName → Option Value} {mg mb : Str → Option Value} {cx : Cx} {n : Nat} {lo : Lo} {H : Hp} {w : Wd} {fa : Fn → Addr} {sc : Sc} {cf : CF}

/-- the state with nothing said of the names -/
theorem FlyM.stE {m : Md} {L : Addr} {t : Str} {e : Addr} {X : List Addr} {w' : Wd} {H' : Hp} {s s' : Shared} (st : StE base cx lo H w s) (f : FlyM m base cx.l L cx.R X w s t H' w' e s') : StE base cx [] H' w' s' := by
  obtain ⟨B, t0, dx, oe, kh, k₁, k₂, h1, h2, h3, h4, h5, h6, h7, h9, h10, h8⟩ := f
  have hB : B.StaysIn s'.heap := by cases m <;> exact h1.1
  exact ⟨h8.hp, fun a m => let ⟨o, e⟩ := st.rin a m; h8.kept.ex a o e, fun b o e => hB _ _ (h6 b o e), h10, fun i d e => by cases e⟩

/-- a local written, nothing said of the names -/
theorem wp_raw {M : Model} {A : Around} {s : Shared} {y : Str} {v : Value} {Q : Unit → Shared → Prop} {E : Value → Shared → Prop} (C : FnOk base cx n) (st : StE base cx [] H w s) (hk : cx.env.kindOf y = some .local)
    (h : ∀ (h' : Heap) (m : Str → Option Value), h'.Ns cx.env.locals (fun x => if x = y then some v else m x) → Heap.SameBut cx.env.locals s.heap h' → Step base cx.R cx.F cx.own w s w H { s with heap := h', toks := s.toks + 1 } → StE base cx [] H w { s with heap := h', toks := s.toks + 1 } → Q () { s with heap := h', toks := s.toks + 1 }) :
    wpAny M A (storeName cx.env y v) Q E s := by
  have hL : cx.env.locals ∈ cx.F := by
    obtain ⟨outer, e⟩ := C.top
    exact List.mem_filterMap.mpr ⟨cx.env, by rw [e]; exact .head _, C.frame⟩
  obtain ⟨m, hm⟩ := st.fr _ hL
  refine wpAny_storeName_local hk hm (fun h' hn hs => ?_) (by simp [C.kind])
  have keep : ∀ b o, s.heap.get? b = some o → b ∉ cx.R → h'.get? b = some o := fun b o e r => hs.extBut b o (fun q => r (q ▸ C.LR)) e
  have hex : ∀ b o, s.heap.get? b = some o → ∃ o', h'.get? b = some o' := fun b o e => by
    by_cases q : b = cx.env.locals
    · exact q ▸ ns_some hn
    · exact ⟨o, hs.extBut b o q e⟩
  refine h h' m hn hs ⟨.refl, ⟨hex, fun b o e n _ => hs.extBut b o (fun q => n (List.mem_append.mpr (.inl (q ▸ .head _)))) e, fun b m' e n _ => e.sameBut hs fun q => n (List.mem_append.mpr (.inl (q ▸ .head _)))⟩, st.hp.keeps keep, _, rfl⟩
    ⟨st.hp.keeps keep, fun a m => let ⟨o, e⟩ := st.rin a m; hex a o e, fun b o e => hs.extBut b o (fun q => by have := C.offF hL; rw [← q, e] at this; cases this) (st.stays b o e), fun b m' => ?_, fun i d e => by cases e⟩
  by_cases q : b = cx.env.locals
  · exact ⟨_, q ▸ hn⟩
  · obtain ⟨m2, e2⟩ := st.fr b m'
    exact ⟨m2, e2.sameBut hs q⟩

inductive KtsI (h : Heap) (C : Addr) (T : String) : Prop where
  | mk (nm qn : Str) (N : Addr) (bs bm : List Value) (hdct : Bool) (sn : List Str) (sub : List Value) (ab : Bool) (col : Option Bool) (dd : Option Addr) (k0 k1 k2 k3 k5 : Option Value) (newId : String)
    (h1 : h.get? C = some (excClassObj nm qn C N bs bm hdct sn sub ab col dd k0 k1 k2 k3 k5 newId)) (h2 : bm.contains (.type "BaseException") = true) (h3 : bm.contains (.type T) = true) : KtsI h C T
theorem kts_I {K : Frag} {h : Heap} {C : Addr} {T : String} (X : K.In h) (q : ktsIn K C T = true) : KtsI h C T := by
  obtain ⟨nm, q', N, bs, bm, hdct, sn, sub, ab, col, dd, k0, k1, k2, k3, k5, newId, hC, hbase, hbT⟩ := kts_cls X q
  exact ⟨nm, q', N, bs, bm, hdct, sn, sub, ab, col, dd, k0, k1, k2, k3, k5, newId, hC, hbase, hbT⟩

/-- the handler's own lines -/
theorem caught_suite {f : Str} {fp ap rp : Pos} {L : Addr} {t : Str} {e : Addr} {w' : Wd} {H' : Hp} {s s₄ : Shared} {A' : Around} {Q2 : Flow → Shared → Prop} {E1 E2 : Value → Shared → Prop} (C : FnOk base cx n) (G : Gd K base p loose mean mg mb) (xf : XFacts K) (st₄ : StE base cx [] H' w' s₄)
    (f₄ : FlyM .fly base cx.l L cx.R cx.own w s t H' w' e s₄) (hf : cx.env.kindOf f = some .local) (hfd : (f == ("__debug__" : Str)) = false) (h : ∀ u s', StE base cx [] H' w' s' → Step base cx.R cx.F cx.own w s w' H' s' → Q2 (.ret (.str t u)) s') :
    wpAny (model prog wo) A' (storeName cx.env f (.ref e)) (fun _ s₂ => wpAny (model prog wo) A' (execs [.Return (some (.Attribute (.Name f fp) (Str.ofString "text") ap)) rp] cx.env) Q2 E2 s₂) E1 s₄ := by
  obtain ⟨outer, hl⟩ := C.top
  obtain ⟨B₄, t₄, dx₄, oe, kh, j₁, j₂, b1, b2, b3, b4, b5, b6, b7, b9, b10, b8⟩ := f₄
  have hBs : B₄.StaysIn s₄.heap := b1.1
  refine wp_raw C st₄ hf fun h₅ m₅ hn₅ hs₅ k₅ st₅ => ?_
  obtain ⟨m₀, nw, Fr₅, N₅, fs, kp⟩ := st₅.frn C.toCxOk
  have hL' : cx.env.locals ∈ cx.F := List.mem_filterMap.mpr ⟨cx.env, by rw [hl]; exact .head _, C.frame⟩
  have eL : e ≠ cx.env.locals := fun q => by
    obtain ⟨m', o', es, ep, ho, hdd, _⟩ := b10 _ hL'
    obtain ⟨oe', vs', ho', _, hd', _⟩ := Heap.FlyingW.first b1
    have ho'' : s₄.heap.get? cx.env.locals = some o' := ho
    rw [← q, ho'] at ho''
    cases ho''
    rw [hd'] at hdd; cases hdd
  have dL : dx₄ ≠ cx.env.locals := fun q => by
    have := (b1.2.2.1.mem hL').1
    rw [← q, b4] at this; cases this
  have I₅ : InstAt h₅ e oe rfCls (some (excDict kh j₁ j₂ t)) := by
    obtain ⟨oe', vs', ho', hcc', hd', _⟩ := Heap.FlyingW.first b1
    have hoe : oe' = oe := Option.some.inj (ho'.symm.trans b2)
    subst hoe
    refine ⟨hs₅.extBut _ _ eL b2, hcc', by unfold notCls; rw [hd'], ?_⟩
    rw [b3]
    exact hs₅.extBut _ _ dL (hBs _ _ b4)
  refine wpAny_execs_cons ?_
  refine wpAny_Return_some (Attribute_name (wpAny_Name (wpAny_loadName_local C.kind hf hn₅ (if_pos rfl) ?_) hfd))
  refine get_exc (G.X.keeps st₅.stays) I₅ xf.ga xf.gt xf.sup (findObj_own xf.hasD xf.txt rfl (v := .str t j₂) rfl) rfl ?_
  have st₆ : StE base cx [] H' w' { s₄ with heap := h₅, toks := s₄.toks + 1 + 1 } := ⟨st₅.hp, st₅.rin, st₅.stays, st₅.fr, st₅.lo⟩
  exact h j₂ _ st₆ ((b8.trans k₅).trans (Step.here (tk := s₄.toks + 1 + 1) st₅.hp))

/-- the handler that gives back the text -/
theorem caught {f : Str} {np fp ap rp hp : Pos} {L : Addr} {t : Str} {e : Addr} {w' : Wd} {H' : Hp} {s s₁ : Shared} {Q : Flow → Shared → Prop} {E : Value → Shared → Prop} (C : FnOk base cx n) (G : Gd K base p loose mean mg mb) (xf : XFacts K) (st : StE base cx lo H w s) (hL : cx.env.frame = some L)
    (fl : FlyM .fly base cx.l L cx.R cx.own w s t H' w' e s₁) (hy : cx.env.kindOf (Str.ofString "RunFault") = some .globalImplicit) (hf : cx.env.kindOf f = some .local) (hfd : (f == ("__debug__" : Str)) = false)
    (h : ∀ u s', Step base cx.R cx.F cx.own w s w' H' s' → Q (.ret (.str t u)) s') :
    wpAny (model prog wo) cx.A (noteFrame (.ref e) cx.env) (fun _ s₂ => wpAny (model prog wo) cx.A (setFlight (.ref e) none) (fun _ s₃ =>
      wpAny (model prog wo) cx.A (handleBy (.ref e) cx.env [.ExceptHandler (some (.Name (Str.ofString "RunFault") np)) (some f) [.Return (some (.Attribute (.Name f fp) (Str.ofString "text") ap)) rp] hp]) Q E s₃) E s₂) E s₁ := by
  obtain ⟨outer, hl⟩ := C.top
  obtain ⟨B, t0, dx, hc, hd, turn⟩ := fl.turn (m' := .held)
  rw [hl] at hc
  refine wpAny_mono (wpAny_dk (dk_noteFrame _ _) hd (wpAny_looks_onW (Q := fun _ s' => ∃ h', s' = { s₁ with heap := h' } ∧ Core .held B (cx.env :: outer) L e (.ref t0) h' ∧ s₁.heap.UpToSlots h') (E := E) (by rw [C.hf, hl]) hL hc fun h' c u => ⟨h', rfl, c, u⟩)) (fun _ s₂ hs => ?_) (fun _ _ e => e)
  obtain ⟨⟨h₂, rfl, c₂, u₂⟩, hd₂⟩ := hs
  have f₂ := turn h₂ (by rw [hl]; exact c₂) hd₂ u₂
  obtain ⟨B₂, t₂, dx₂, hc₂, hd₂', turn₂⟩ := f₂.turn (m' := .fly)
  refine wpAny_mono (wpAny_dk (dk_setFlight _ _) hd₂' (wpAny_landsW (Q := fun _ s' => ∃ h', s' = { s₁ with heap := h' } ∧ Core .fly B₂ cx.l L e (.ref t₂) h' ∧ h₂.UpToSlots h') (E := E) hc₂ fun h' c u => ⟨h', rfl, c, u⟩)) (fun _ s₃ hs => ?_) (fun _ _ e => e)
  obtain ⟨⟨h₃, rfl, c₃, u₃⟩, hd₃⟩ := hs
  have f₃ := turn₂ h₃ c₃ hd₃ u₃
  have st₃ := f₃.stE st
  obtain ⟨B₃, t₃, dx₃, hc₃, hd₃', turn₃⟩ := f₃.turn (m' := .fly)
  have X₃ := G.X.keeps st₃.stays
  obtain ⟨nm, q', N, bs, bm, hdct, sn, sub, ab, col, dd, k0, k1, k2, k3, k5, newId, hC, hbase, hbT⟩ := kts_I X₃ xf.kts
  refine wpAny_handleBy_cons (codeAny_handlers_test ?_) (by intro q; cases q)
  refine Calls.Name_function_global C.kind hy (Calls.loadGlobal_global (by rw [C.glob]; exact G.T.g.keeps st₃.stays) (mg_of G.X G.T.g xf.name) ?_) (by decide)
  obtain ⟨ob, hob, hobc⟩ := Heap.FlyingW.there hc₃
  refine wpAny_excMatches_sub_self hC hob hobc hbase (codeAny_handlers_suite_as ?_)
  refine wpAny_mono (wpAny_dk (dk_setFlight _ _) hd₃' (lands_againW (Q := fun _ s' => ∃ h', s' = { s₁ with heap := h' } ∧ Core .fly B₃ cx.l L e (.ref t₃) h' ∧ h₃.UpToSlots h') hc₃ fun h' c u => ⟨h', rfl, c, u⟩)) (fun _ s₄ hs => ?_) (fun _ _ e => e)
  obtain ⟨⟨h₄, rfl, c₄, u₄⟩, hd₄⟩ := hs
  have f₄ := turn₃ h₄ c₄ hd₄ u₄
  have st₄ := f₄.stE st
  refine caught_suite C G xf st₄ f₄ hf hfd fun u s₅ st₅ k₅ => ?_
  dsimp only
  refine wpAny_bind (wpAny_bindName ?_)
  refine wp_raw C st₅ hf fun h₇ m₇ hn₇ hs₇ k₇ st₇ => ?_
  refine wpAny_onRaise ?_
  refine wpAny_unbindName_local hf hn₇ (if_pos rfl) (by simp [C.kind]) fun h₈ v hn₈ hs₈ => ?_
  have k₈ : Step base cx.R cx.F cx.own w' { s₅ with heap := h₇, toks := s₅.toks + 1 } w' H' { s₅ with heap := h₈, toks := s₅.toks + 1 } := by
    refine ⟨.refl, ⟨fun b o e => ?_, fun b o e n _ => hs₈.extBut b o (fun q => n (List.mem_append.mpr (.inl (q ▸ .head _)))) e, fun b m' e n _ => e.sameBut hs₈ fun q => n (List.mem_append.mpr (.inl (q ▸ .head _)))⟩, st₇.hp.keeps fun b o e r => hs₈.extBut b o (fun q => r (q ▸ C.LR)) e, _, rfl⟩
    by_cases q : b = cx.env.locals
    · exact q ▸ ns_some hn₈
    · exact ⟨o, hs₈.extBut b o q e⟩
  exact h u _ ((k₅.trans k₇).trans k₈)
end
end Mine
end

section
set_option autoImplicit false
set_option maxRecDepth 100000
namespace Mine

section
variable {prog : Program} {wo : World} {K : Frag} {base : Heap} {p : Program} {loose : List Str} {mean : ExcName → Option Value} {mg mb : Str → Option Value} {cx : Cx} {n : Nat} {lo : Lo} {H : Hp} {w : Wd} {fa : Fn → Addr} {sc : Sc} {cf : CF}

theorem SndS.eq {T : PT Flow} {r r' : Option RS} (h : SndS base cx T lo H r w) (e : r = r') : SndS base cx T lo H r' w := e ▸ h
theorem bnS_bnd {α β : Type} (r : Option (Rx α)) (k : α → Hp → Option (Rx β)) (g : β → Hp → Option RS) : bnS (bnd r k) g = bnS r fun a H => bnS (k a H) g := by
  cases r with
  | none => rfl
  | some r => cases r <;> rfl
noncomputable def tryR (r : Option RS) : Option RS := match r with
  | some (.err .fly t H₁) => some (.ret (.d (.str t)) H₁)
  | some (.err _ _ _) => .none
  | r => r
theorem sndX_try {f : Str} {np fp ap rp hp pos : Pos} {body : List Stmt} {r : Option RS} (C : FnOk base cx n) (G : Gd K base p loose mean mg mb) (xf : XFacts K)
    (hy : cx.env.kindOf (Str.ofString "RunFault") = some .globalImplicit) (hf : cx.env.kindOf f = some .local) (hfd : (f == ("__debug__" : Str)) = false) (h : SndS base cx (XTs prog wo cx body) lo H r w) :
    SndS base cx (XT prog wo cx (.Try body [.ExceptHandler (some (.Name (Str.ofString "RunFault") np)) (some f) [.Return (some (.Attribute (.Name f fp) (Str.ofString "text") ap)) rp] hp] [] [] pos)) lo H (tryR r) w := by
  intro s Q E st nx rt er ne
  refine wpAny_Try_except (h s _ _ st (fun lo' H' e w' s' k st' => ?_) (fun d H' e v w' s' k hv => ?_) (fun m t H' e x w' s' fl => ?_) fun e => ne (by rw [e]; rfl))
  · exact wpAny_execs_nil (nx lo' H' (by rw [e]; rfl) w' s' k st')
  · exact rt d H' (by rw [e]; rfl) v w' s' k hv
  · cases m with
    | fresh => exact absurd (by rw [e]; rfl) ne
    | held => exact absurd (by rw [e]; rfl) ne
    | fly => exact caught C G xf st.toStE C.frame fl hy hf hfd fun u s' k => rt (.d (.str t)) H' (by rw [e]; rfl) _ w' s' k (.d (.str t u))

theorem sndX_assignC {elt e : Expr} {x j : Nat} {xs y ny : Str} {fv : List Nat} {px pos np pos' py spos : Pos} {cs : Scope} {f : DV → Hp → Option (Rx DV)} {r : Option (Rx DV)}
    (C : FnOk base cx n) (G : Gd K base p loose mean mg mb) (S : CompScope cx cs x xs fv) (b : BootName K cx y (.type "range")) (hs : notStar e = true) (hj : cx.names[j]? = some ny) (hky : cx.env.kindOf ny = some .local)
    (hsw : swapsWith (.ListComp elt [⟨.Name xs px, .Call (.Name y np) [e] [] pos', [], 0⟩] cs pos) (some (.Name ny py)) spos.line cx.env = pure true)
    (he : SndW base cx (VRel base) (ET prog wo cx e) lo H r w)
    (helt : ∀ Cd D It v H w, SndW base (cx.comp cs Cd D It) (VRel base) (ET prog wo (cx.comp cs Cd D It) elt) ((keepOnly fv lo).set x (some v)) H (f v H) w) :
    SndS base cx (XT prog wo cx (.Assign [.Name ny py] (.ListComp elt [⟨.Name xs px, .Call (.Name y np) [e] [] pos', [], 0⟩] cs pos) spos)) lo H
      (bnS (bnd r fun n H₁ => (natOf n).bind fun n => (compL f (rngI 0 n) H₁).map fun p => .ok (.d (.list p.1)) p.2) fun v H₁ => some (.next (lo.set j (some v)) H₁)) w := by
  let u : Option (Value → Sem Unit) := some (assign (.Name ny py) cx.env)
  let blk (v : Value) (Q : Flow → Shared → Prop) (E : Value → Shared → Prop) (s : Shared) : Prop :=
    wpAny (model prog wo) cx.A (call (.type "range") [v]) (fun xv s₁ => wpAny (model prog wo) cx.A (pyIter xv) (fun it s₂ => wpAny (model prog wo) cx.A (newList []) (fun acc s₃ =>
      wpAny (model prog wo) cx.A (newFunctionEnv cs cx.env.globals (closOf cs.names cx.env.cells) [] cx.env.qual none .none (some cx.env)) (fun cenv s₄ =>
        codeAny (model prog wo) cx.A (.compStart (.ListComp elt [⟨.Name xs px, .Call (.Name y np) [e] [] pos', [], 0⟩] cs pos) 0 it acc { cenv with scope := relabel cs cx.env }) (compPost (model prog wo) cx.A E u (fun _ s => Q .next s) acc cenv.locals) s₄) E s₃) E s₂) E s₁) E s
  have key : SndS base cx (fun Q E s => ET prog wo cx e (fun v s₁ => blk v Q E s₁) E s) lo H (bnS r fun nv H₁ => bnS ((natOf nv).bind fun n => (compL f (rngI 0 n) H₁).map fun p => .ok (.d (.list p.1)) p.2) fun v H₁ => some (.next (lo.set j (some v)) H₁)) w := by
    refine SndS.bnd (f := blk) C.toCxOk he fun nv H₁ v w' _ _ hv => ?_
    intro s Q E st nx rt er ne
    cases hn : natOf nv with
    | none => rw [hn] at ne; exact absurd rfl ne
    | some nn =>
      rw [hn, Option.bind_some] at nx ne
      cases hc : compL f (rngI 0 nn) H₁ with
      | none => rw [hc] at ne; exact absurd rfl ne
      | some p =>
        obtain ⟨ds, H'⟩ := p
        rw [hc] at nx
        obtain ⟨rfl, hz⟩ := natOf_some hn
        obtain ⟨t, rfl⟩ := int_val hv
        refine comp_block (RR := fun acc Cd => compPost (model prog wo) cx.A E u (fun _ s => Q .next s) acc Cd) C.toCxOk S st.toStE hz (fun Cd D It => helt Cd D It) hc fun D Cd w₁ s₁ vs cap m fD fCd nDC hns hD hda k1 o1 o2 o3 => ?_
        have nR : ∀ a, s.heap.get? a = none → a ∉ cx.R := fun a fa m => by obtain ⟨o, e⟩ := st.rin a m; rw [fa] at e; cases e
        have k2 := k1.addPool o1 (nR D fD) hD
        have st₂ := st.stepE C.toCxOk k2
        refine PyProof.Rows.assign_Name (wp_store C st₂ hj (.inl hky) (.d (.list (.head _) rfl ⟨rfl, rfl, rfl⟩ (hda.mono fun x m => .tail _ m))) fun s₃ k₃ st₃ => ?_)
        have kk := (k2.mono (Y := cx.own) fun _ m => nomatch m).trans k₃
        have hX : Cd ∉ cx.own := fun m => by
          rcases List.mem_cons.mp m with rfl | m
          · exact nR _ fCd C.LR
          · obtain ⟨q, hq, e⟩ := List.mem_map.mp m
            exact nR _ fCd (e ▸ (C.CR q hq).1)
        have hB : base.get? Cd = none := by
          cases q : base.get? Cd with
          | none => rfl
          | some o => have := st.stays Cd o q; rw [fCd] at this; cases this
        have hp : ∀ p ∈ (D, listOf (List.toArray vs) cap) :: w₁.pool, p.1 ≠ Cd := fun p m => by
          rcases List.mem_cons.mp m with rfl | m
          · exact nDC
          · exact o3 p m
        refine ⟨m, k₃.kept.ns (fun q => (List.mem_append.mp q).elim hX o2) hns, fun h₄ hs₄ => ?_⟩
        obtain ⟨k₄, st₄⟩ := StS.extBut (tk := s₃.toks) C kk st₃ hs₄.extBut fCd (nR _ fCd) hB o2 hp st.fr
        exact nx _ _ rfl _ _ k₄ st₄
  refine SndS.of (T := fun Q E s => ET prog wo cx e (fun v s₁ => blk v Q E s₁) E s) ?_ fun Q E s st h => ?_
  · exact key.eq (bnS_bnd _ _ _).symm
  · show wpAny _ _ (exec _ _) _ _ _
    rw [exec_Assign_Name_used _ _ _ _ hsw]
    refine wpAny_bind (wpAny_standAt (wpAny_bind ?_))
    show wpAny _ _ (do let _ ← comprehension (.ListComp elt [⟨.Name xs px, .Call (.Name y np) [e] [] pos', [], 0⟩] cs pos) cs cx.env _ (newList []) false (eval (.Call (.Name y np) [e] [] pos') cx.env) u) _ _ s
    have hcl := clos_eq (cs := cs) (env := cx.env) fun y m e => C.cells _ (S.free y m e)
    exact wpAny_bind (wpAny_mono (wpAny_comprehension_free (use := u) (Q := fun _ s' => Q .next s') rfl (fun _ => rfl) hcl S.kind S.names (wp_call1 C.toCxOk G st.toStE b hs h)) (fun _ s' hq => wpAny_pure (wpAny_pure hq)) fun _ _ e => e)
end
end Mine
end

section
set_option autoImplicit false
set_option maxRecDepth 100000
namespace Mine

structure Sf where
  sc : Sc
  loc : Str → Bool

noncomputable def noSet : Expr → Bool
  | .Name _ _ => true
  | .Call _ _ _ _ => true
  | .Subscript _ _ _ => true
  | .List _ _ => true
  | _ => false
noncomputable def attrOk : Expr → Bool
  | .Name _ _ => true
  | .Attribute (.Name _ _) _ _ => true
  | _ => false

noncomputable def RC (K : Frag) (sf : Sf) (x : Nat) (y : Str) (py : Pos) : ME → Expr → Prop
  | .comp elt x' fv a, e => ∃ el xs px r np z pos' cs lp, e = .ListComp el [⟨.Name xs px, .Call (.Name r np) [z] [] pos', [], 0⟩] cs lp ∧ (((((((py.line == lp.line) = true ∧ (cs.names.any fun (n, k) => n == y && (k == .local || k == .cell)) = false) ∧ (bootOk sf.sc K r "range") = true) ∧ (notStar z) = true) ∧ (compOk sf.sc cs x' xs fv) = true) ∧ RE K ⟨sf.sc.names, fun _ => false, fun _ => false, fun _ => false⟩ elt el) ∧ RE K sf.sc a z)
  | _, _ => False
noncomputable def dC (K : Frag) (sf : Sf) (x : Nat) (y : Str) (py : Pos) (m : ME) (e : Expr) : Pf (RC K sf x y py m e) := match m with
  | .comp elt x' fv a => match e with
    | .ListComp el [⟨.Name xs px, .Call (.Name r np) [z] [] pos', [], 0⟩] cs lp => mapP (fun h => Exists.intro el <| Exists.intro xs <| Exists.intro px <| Exists.intro r <| Exists.intro np <| Exists.intro z <| Exists.intro pos' <| Exists.intro cs <| Exists.intro lp <| And.intro rfl h)
        (both (both (both (both (both (both (ask (py.line == lp.line)) (askN (cs.names.any fun (n, k) => n == y && (k == .local || k == .cell)))) (ask (bootOk sf.sc K r "range"))) (ask (notStar z))) (ask (compOk sf.sc cs x' xs fv))) (dE K ⟨sf.sc.names, fun _ => false, fun _ => false, fun _ => false⟩ elt el)) (dE K sf.sc a z))
    | _ => .none
  | _ => .none
noncomputable def RA (K : Frag) (sf : Sf) (a : Option ME) (b : ME) (args : List Expr) : Prop := match a with
  | .none => ∃ e, args = [e] ∧ ((notStar e) = true ∧ RE K sf.sc b e)
  | some a => ∃ e₁ e₂, args = [e₁, e₂] ∧ ((((notStar e₁) = true ∧ (notStar e₂) = true) ∧ RE K sf.sc a e₁) ∧ RE K sf.sc b e₂)
noncomputable def dA (K : Frag) (sf : Sf) (a : Option ME) (b : ME) (args : List Expr) : Pf (RA K sf a b args) := match a with
  | .none => match args with
    | [e] => mapP (fun h => Exists.intro e <| And.intro rfl h) (both (ask (notStar e)) (dE K sf.sc b e))
    | _ => .none
  | some a => match args with
    | [e₁, e₂] => mapP (fun h => Exists.intro e₁ <| Exists.intro e₂ <| And.intro rfl h) (both (both (both (ask (notStar e₁)) (ask (notStar e₂))) (dE K sf.sc a e₁)) (dE K sf.sc b e₂))
    | _ => .none
mutual
noncomputable def RSt (K : Frag) (sf : Sf) : MS → Stmt → Prop
  | .assign x e, t => ∃ y z1 v z2, t = .Assign [.Name y z1] v z2 ∧ (((((sf.sc.names[x]? == some y)) = true ∧ (sf.sc.var y) = true) ∧ (isComp v) = false) ∧ RE K sf.sc e v)
  | .assignC x e, t => ∃ y py v z1, t = .Assign [.Name y py] v z1 ∧ (((sf.sc.names[x]? == some y) = true ∧ (sf.loc y) = true) ∧ RC K sf x y py e v)
  | .asub o i e, t => ∃ a b z1 v z2, t = .Assign [.Subscript a b z1] v z2 ∧ ((((isComp v) = false ∧ RE K sf.sc o a) ∧ RE K sf.sc i b) ∧ RE K sf.sc e v)
  | .unpack xs e, t => ∃ es z1 z2 v z3, t = .Assign [.Tuple es z1 z2] v z3 ∧ (((isNS v) = true ∧ (tgtOk sf.sc xs es) = true) ∧ RE K sf.sc e v)
  | .aug x o e, t => ∃ y z1 op v z2, t = .AugAssign (.Name y z1) op v z2 ∧ ((((((sf.sc.names[x]? == some y)) = true ∧ (sf.sc.var y) = true) ∧ (okName y) = true) ∧ (opEq o op) = true) ∧ RE K sf.sc e v)
  | .ife c a b, t => ∃ e x y z1, t = .If e x y z1 ∧ ((RT K sf.sc c e ∧ RSts K sf a x) ∧ RSts K sf b y)
  | .forR x a b body, t => ∃ y z1 r z2 args z3 bd z4, t = .For (.Name y z1) (.Call (.Name r z2) args [] z3) bd [] z4 ∧ (((((sf.sc.names[x]? == some y) = true ∧ (sf.sc.var y) = true) ∧ (bootOk sf.sc K r "range") = true) ∧ RA K sf a b args) ∧ RSts K sf body bd)
  | .forV x e body, t => ∃ y z1 v bd z2, t = .For (.Name y z1) v bd [] z2 ∧ ((((((sf.sc.names[x]? == some y)) = true ∧ (sf.sc.var y) = true) ∧ (noSet v) = true) ∧ RE K sf.sc e v) ∧ RSts K sf body bd)
  | .forU xs e body, t => ∃ es z1 z2 v bd z3, t = .For (.Tuple es z1 z2) v bd [] z3 ∧ ((((tgtOk sf.sc xs es) = true ∧ (noSet v) = true) ∧ RE K sf.sc e v) ∧ RSts K sf body bd)
  | .whl c body, t => ∃ e bd z1, t = .While e bd [] z1 ∧ (RT K sf.sc c e ∧ RSts K sf body bd)
  | .ret e, t => ∃ v z1, t = .Return (some v) z1 ∧ (RE K sf.sc e v)
  | .retN, t => ∃ z1, t = .Return none z1 ∧ (True)
  | .raise s, t => ∃ y z1 x z2 z3 z4 z5, t = .Raise (some (.Call (.Name y z1) [.Constant (.str x) z2 z3] [] z4)) none z5 ∧ ((((y == Str.ofString "RunFault")) = true ∧ (sf.sc.glob y) = true) ∧ ((x == Str.ofString s)) = true)
  | .tryT body, t => ∃ bd y z1 f f' z2 at_ z3 z4 z5 z6, t = .Try bd [.ExceptHandler (some (.Name y z1)) (some f) [.Return (some (.Attribute (.Name f' z2) at_ z3)) z4] z5] [] [] z6 ∧ ((((((((y == Str.ofString "RunFault")) = true ∧ (sf.sc.glob y) = true) ∧ ((f' == f)) = true) ∧ (sf.loc f) = true) ∧ (okName f) = true) ∧ ((at_ == Str.ofString "text")) = true) ∧ RSts K sf body bd)
  | .ex e, t => ∃ v z1, t = .Expr v z1 ∧ ((isComp v) = false ∧ RE K sf.sc e v)
  | .append o e, t => ∃ v name apos a pos z1, t = .Expr (.Call (.Attribute v name apos) [a] [] pos) z1 ∧ (((((((name == Str.ofString "append")) = true ∧ ((apos.endLine == pos.line)) = true) ∧ (notStar a) = true) ∧ (attrOk v) = true) ∧ RE K sf.sc o v) ∧ RE K sf.sc e a)
  | .extend o e, t => ∃ v name apos a pos z1, t = .Expr (.Call (.Attribute v name apos) [a] [] pos) z1 ∧ (((((((name == Str.ofString "extend")) = true ∧ ((apos.endLine == pos.line)) = true) ∧ (notStar a) = true) ∧ (attrOk v) = true) ∧ RE K sf.sc o v) ∧ RE K sf.sc e a)
  | .pop o, t => ∃ v name apos pos z1, t = .Expr (.Call (.Attribute v name apos) [] [] pos) z1 ∧ (((((name == Str.ofString "pop")) = true ∧ ((apos.endLine == pos.line)) = true) ∧ (attrOk v) = true) ∧ RE K sf.sc o v)
noncomputable def RSts (K : Frag) (sf : Sf) : List MS → List Stmt → Prop
  | [], ts => ts = [] ∧ (True)
  | m :: ms, ts => ∃ t ts', ts = t :: ts' ∧ (RSt K sf m t ∧ RSts K sf ms ts')
end
mutual
noncomputable def dS (K : Frag) (sf : Sf) : (m : MS) → (t : Stmt) → Pf (RSt K sf m t)
  | .assign x e, t => match t with | .Assign [.Name y z1] v z2 => mapP (fun h => Exists.intro y <| Exists.intro z1 <| Exists.intro v <| Exists.intro z2 <| And.intro rfl h) (both (both (both (ask ((sf.sc.names[x]? == some y))) (ask (sf.sc.var y))) (askN (isComp v))) (dE K sf.sc e v)) | _ => .none
  | .assignC x e, t => match t with | .Assign [.Name y py] v z1 => mapP (fun h => Exists.intro y <| Exists.intro py <| Exists.intro v <| Exists.intro z1 <| And.intro rfl h) (both (both (ask (sf.sc.names[x]? == some y)) (ask (sf.loc y))) (dC K sf x y py e v)) | _ => .none
  | .asub o i e, t => match t with | .Assign [.Subscript a b z1] v z2 => mapP (fun h => Exists.intro a <| Exists.intro b <| Exists.intro z1 <| Exists.intro v <| Exists.intro z2 <| And.intro rfl h) (both (both (both (askN (isComp v)) (dE K sf.sc o a)) (dE K sf.sc i b)) (dE K sf.sc e v)) | _ => .none
  | .unpack xs e, t => match t with | .Assign [.Tuple es z1 z2] v z3 => mapP (fun h => Exists.intro es <| Exists.intro z1 <| Exists.intro z2 <| Exists.intro v <| Exists.intro z3 <| And.intro rfl h) (both (both (ask (isNS v)) (ask (tgtOk sf.sc xs es))) (dE K sf.sc e v)) | _ => .none
  | .aug x o e, t => match t with | .AugAssign (.Name y z1) op v z2 => mapP (fun h => Exists.intro y <| Exists.intro z1 <| Exists.intro op <| Exists.intro v <| Exists.intro z2 <| And.intro rfl h) (both (both (both (both (ask ((sf.sc.names[x]? == some y))) (ask (sf.sc.var y))) (ask (okName y))) (ask (opEq o op))) (dE K sf.sc e v)) | _ => .none
  | .ife c a b, t => match t with | .If e x y z1 => mapP (fun h => Exists.intro e <| Exists.intro x <| Exists.intro y <| Exists.intro z1 <| And.intro rfl h) (both (both (dT K sf.sc c e) (dSs K sf a x)) (dSs K sf b y)) | _ => .none
  | .forR x a b body, t => match t with | .For (.Name y z1) (.Call (.Name r z2) args [] z3) bd [] z4 => mapP (fun h => Exists.intro y <| Exists.intro z1 <| Exists.intro r <| Exists.intro z2 <| Exists.intro args <| Exists.intro z3 <| Exists.intro bd <| Exists.intro z4 <| And.intro rfl h) (both (both (both (both (ask (sf.sc.names[x]? == some y)) (ask (sf.sc.var y))) (ask (bootOk sf.sc K r "range"))) (dA K sf a b args)) (dSs K sf body bd)) | _ => .none
  | .forV x e body, t => match t with | .For (.Name y z1) v bd [] z2 => mapP (fun h => Exists.intro y <| Exists.intro z1 <| Exists.intro v <| Exists.intro bd <| Exists.intro z2 <| And.intro rfl h) (both (both (both (both (ask ((sf.sc.names[x]? == some y))) (ask (sf.sc.var y))) (ask (noSet v))) (dE K sf.sc e v)) (dSs K sf body bd)) | _ => .none
  | .forU xs e body, t => match t with | .For (.Tuple es z1 z2) v bd [] z3 => mapP (fun h => Exists.intro es <| Exists.intro z1 <| Exists.intro z2 <| Exists.intro v <| Exists.intro bd <| Exists.intro z3 <| And.intro rfl h) (both (both (both (ask (tgtOk sf.sc xs es)) (ask (noSet v))) (dE K sf.sc e v)) (dSs K sf body bd)) | _ => .none
  | .whl c body, t => match t with | .While e bd [] z1 => mapP (fun h => Exists.intro e <| Exists.intro bd <| Exists.intro z1 <| And.intro rfl h) (both (dT K sf.sc c e) (dSs K sf body bd)) | _ => .none
  | .ret e, t => match t with | .Return (some v) z1 => mapP (fun h => Exists.intro v <| Exists.intro z1 <| And.intro rfl h) (dE K sf.sc e v) | _ => .none
  | .retN, t => match t with | .Return none z1 => mapP (fun h => Exists.intro z1 <| And.intro rfl h) (yes) | _ => .none
  | .raise s, t => match t with | .Raise (some (.Call (.Name y z1) [.Constant (.str x) z2 z3] [] z4)) none z5 => mapP (fun h => Exists.intro y <| Exists.intro z1 <| Exists.intro x <| Exists.intro z2 <| Exists.intro z3 <| Exists.intro z4 <| Exists.intro z5 <| And.intro rfl h) (both (both (ask ((y == Str.ofString "RunFault"))) (ask (sf.sc.glob y))) (ask ((x == Str.ofString s)))) | _ => .none
  | .tryT body, t => match t with | .Try bd [.ExceptHandler (some (.Name y z1)) (some f) [.Return (some (.Attribute (.Name f' z2) at_ z3)) z4] z5] [] [] z6 => mapP (fun h => Exists.intro bd <| Exists.intro y <| Exists.intro z1 <| Exists.intro f <| Exists.intro f' <| Exists.intro z2 <| Exists.intro at_ <| Exists.intro z3 <| Exists.intro z4 <| Exists.intro z5 <| Exists.intro z6 <| And.intro rfl h) (both (both (both (both (both (both (ask ((y == Str.ofString "RunFault"))) (ask (sf.sc.glob y))) (ask ((f' == f)))) (ask (sf.loc f))) (ask (okName f))) (ask ((at_ == Str.ofString "text")))) (dSs K sf body bd)) | _ => .none
  | .ex e, t => match t with | .Expr v z1 => mapP (fun h => Exists.intro v <| Exists.intro z1 <| And.intro rfl h) (both (askN (isComp v)) (dE K sf.sc e v)) | _ => .none
  | .append o e, t => match t with | .Expr (.Call (.Attribute v name apos) [a] [] pos) z1 => mapP (fun h => Exists.intro v <| Exists.intro name <| Exists.intro apos <| Exists.intro a <| Exists.intro pos <| Exists.intro z1 <| And.intro rfl h) (both (both (both (both (both (ask ((name == Str.ofString "append"))) (ask ((apos.endLine == pos.line)))) (ask (notStar a))) (ask (attrOk v))) (dE K sf.sc o v)) (dE K sf.sc e a)) | _ => .none
  | .extend o e, t => match t with | .Expr (.Call (.Attribute v name apos) [a] [] pos) z1 => mapP (fun h => Exists.intro v <| Exists.intro name <| Exists.intro apos <| Exists.intro a <| Exists.intro pos <| Exists.intro z1 <| And.intro rfl h) (both (both (both (both (both (ask ((name == Str.ofString "extend"))) (ask ((apos.endLine == pos.line)))) (ask (notStar a))) (ask (attrOk v))) (dE K sf.sc o v)) (dE K sf.sc e a)) | _ => .none
  | .pop o, t => match t with | .Expr (.Call (.Attribute v name apos) [] [] pos) z1 => mapP (fun h => Exists.intro v <| Exists.intro name <| Exists.intro apos <| Exists.intro pos <| Exists.intro z1 <| And.intro rfl h) (both (both (both (ask ((name == Str.ofString "pop"))) (ask ((apos.endLine == pos.line)))) (ask (attrOk v))) (dE K sf.sc o v)) | _ => .none
noncomputable def dSs (K : Frag) (sf : Sf) : (m : List MS) → (t : List Stmt) → Pf (RSts K sf m t)
  | [], ts => match ts with | [] => mapP (fun h => And.intro rfl h) (yes) | _ => .none
  | m :: ms, ts => match ts with | t :: ts' => mapP (fun h => Exists.intro t <| Exists.intro ts' <| And.intro rfl h) (both (dS K sf m t) (dSs K sf ms ts')) | _ => .none
end

structure SfOk (sf : Sf) (cx : Cx) : Prop where
  sc : ScOk sf.sc cx
  loc : ∀ y, sf.loc y = true → cx.env.kindOf y = some .local

/-- a raise of a RunFault does what the evaluator says -/
noncomputable def RaiseOk (prog : Program) (wo : World) (base : Heap) (n : Nat) : Prop :=
  ∀ (cx : Cx) (lo : Lo) (H : Hp) (w : Wd) (x : Str) (np cp' cp pos : Pos) (k' : Nat), FnOk base cx n → cx.env.kindOf (Str.ofString "RunFault") = some .globalImplicit →
    SndS base cx (XT prog wo cx (.Raise (some (.Call (.Name (Str.ofString "RunFault") np) [.Constant (.str x) k' cp'] [] cp)) none pos)) lo H (some (.err .fresh x H)) w

section
variable {prog : Program} {wo : World} {K : Frag} {base : Heap} {p : Program} {loose : List Str} {mean : ExcName → Option Value} {mg mb : Str → Option Value} {n : Nat} {fa : Fn → Addr} {cf : CF}

theorem SfOk.res {sf : Sf} {cx : Cx} {It : Addr} (S : SfOk sf cx) : SfOk sf (cx.res It) := ⟨⟨S.sc.names, S.sc.glob, S.sc.cell, S.sc.var⟩, S.loc⟩
theorem noSet_fold {v : Expr} {env : Env} (h : noSet v = true) : ∀ x, foldedSetIterable v env x = pure x := by
  intro x; cases v <;> first | rfl | cases h
theorem attr_base {v : Expr} {nm : Str} {env : Env} (h : attrOk v = true) : ∀ whole, attributeBase v nm env whole = whole := by
  intro whole
  cases v with
  | Name y p => rfl
  | Attribute e n p => cases e <;> first | rfl | exact absurd h Bool.false_ne_true
  | _ => exact absurd h Bool.false_ne_true
theorem evSs_cons {s : MS} {r : List MS} {lo : Lo} {H : Hp} : seqR (evS cf s lo H) (fun lo H => evSs cf r lo H) = evSs cf (s :: r) lo H := by
  unfold seqR; rfl
theorem evS_try {b : List MS} {lo : Lo} {H : Hp} : tryR (evSs cf b lo H) = evS cf (.tryT b) lo H := by
  unfold tryR; rfl

noncomputable def SX (prog : Program) (wo : World) (K : Frag) (base : Heap) (n : Nat) (cf : CF) (m : MS) : Prop := ∀ (sf : Sf) (cx : Cx) (t : Stmt) (lo : Lo) (H : Hp) (w : Wd), RSt K sf m t → SfOk sf cx → FnOk base cx n → SndS base cx (XT prog wo cx t) lo H (evS cf m lo H) w
noncomputable def SXs (prog : Program) (wo : World) (K : Frag) (base : Heap) (n : Nat) (cf : CF) (ms : List MS) : Prop := ∀ (sf : Sf) (cx : Cx) (ts : List Stmt) (lo : Lo) (H : Hp) (w : Wd), RSts K sf ms ts → SfOk sf cx → FnOk base cx n → SndS base cx (XTs prog wo cx ts) lo H (evSs cf ms lo H) w

mutual
theorem sndX (G : Gd K base p loose mean mg mb) (kf : KFacts K fa) (xf : XFacts K) (cok : CallOk prog wo base fa cf n) (rok : RaiseOk prog wo base n) : ∀ m : MS, SX prog wo K base n cf m
  | .assign x e => fun sf cx t lo H w h S C => by
    obtain ⟨y, z1, v, z2, rfl, h⟩ := h
    obtain ⟨⟨⟨h1, h2⟩, h3⟩, h4⟩ := h
    exact sndX_assign C (S.sc.names ▸ beq_iff_eq.mp h1) (S.sc.var _ h2) h3 (sndE G kf cok e sf.sc cx _ lo H w h4 S.sc C.toCxOk)
  | .assignC x e => fun sf cx t lo H w h S C => by
    obtain ⟨y, py, v, z1, rfl, h⟩ := h
    obtain ⟨⟨h1, h2⟩, h⟩ := h
    cases e with
    | comp elt x' fv a =>
      obtain ⟨el, xs, px, r, np, z, pos', cs, lp, rfl, h⟩ := h
      obtain ⟨⟨⟨⟨⟨⟨g1, g2⟩, g3⟩, g4⟩, g5⟩, g6⟩, g7⟩ := h
      have Sc := compOk_iff S.sc g5
      have hk := S.loc _ h2
      refine sndX_assignC C G Sc (boot_of S.sc g3 bn_range rfl) g4 (S.sc.names ▸ beq_iff_eq.mp h1) hk ?_ (sndE G kf cok a sf.sc cx _ lo H w g7 S.sc C.toCxOk) fun Cd D It v H w => ?_
      · show (pure (cx.env.blockKind == .function && cx.env.kindOf y == some .local && py.line == lp.line && !(cs.names.any fun (n, k) => n == y && (k == .local || k == .cell))) : Sem Bool) = pure true
        rw [g1, g2, hk]
        have hb : cx.env.blockKind = .function := by unfold Env.blockKind; rw [C.kind]; rfl
        rw [hb]; rfl
      · exact sndE G kf cok elt _ _ _ _ H w g6 ⟨S.sc.names, (fun _ e => by cases e), (fun _ e => by cases e), (fun _ e => by cases e)⟩ (Sc.cxOk C.toCxOk)
    | _ => exact False.elim h
  | .asub o i e => fun sf cx t lo H w h S C => by
    obtain ⟨a, b, z1, v, z2, rfl, h⟩ := h
    obtain ⟨⟨⟨h1, h2⟩, h3⟩, h4⟩ := h
    exact sndX_asub C.toCxOk h1 (sndE G kf cok e sf.sc cx _ lo H w h4 S.sc C.toCxOk) (fun H w => sndE G kf cok o sf.sc cx _ lo H w h2 S.sc C.toCxOk) fun H w => sndE G kf cok i sf.sc cx _ lo H w h3 S.sc C.toCxOk
  | .unpack xs e => fun sf cx t lo H w h S C => by
    obtain ⟨es, z1, z2, v, z3, rfl, h⟩ := h
    obtain ⟨⟨h1, h2⟩, h3⟩ := h
    exact sndX_unpack C S.sc h2 h1 (sndE G kf cok e sf.sc cx _ lo H w h3 S.sc C.toCxOk)
  | .aug x o e => fun sf cx t lo H w h S C => by
    obtain ⟨y, z1, op, v, z2, rfl, h⟩ := h
    obtain ⟨⟨⟨⟨h1, h2⟩, h3⟩, h4⟩, h5⟩ := h
    rw [opEq_eq h4]
    exact sndX_aug C (S.sc.names ▸ beq_iff_eq.mp h1) (S.sc.var _ h2) (okName_iff h3).2.1 fun H w => sndE G kf cok e sf.sc cx _ lo H w h5 S.sc C.toCxOk
  | .ife c a b => fun sf cx t lo H w h S C => by
    obtain ⟨e, x, y, z1, rfl, h⟩ := h
    obtain ⟨⟨h1, h2⟩, h3⟩ := h
    exact sndX_ife C.toCxOk (sndT G kf cok c sf.sc cx _ lo H w h1 S.sc C.toCxOk) (fun H w => sndXs G kf xf cok rok a sf cx _ lo H w h2 S C) fun H w => sndXs G kf xf cok rok b sf cx _ lo H w h3 S C
  | .forR x a b body => fun sf cx t lo H w h S C => by
    obtain ⟨y, z1, r, z2, args, z3, bd, z4, rfl, h⟩ := h
    obtain ⟨⟨⟨⟨h1, h2⟩, h3⟩, h4⟩, h5⟩ := h
    have turn := fun It d v lo H w hv => turnN (It := It) (np := z1) (g := fun lo H => evSs cf body lo H) C (S.sc.names ▸ beq_iff_eq.mp h1) (S.sc.var _ h2) (fun lo H w => sndXs G kf xf cok rok body sf (cx.res It) bd lo H w h5 S.res C.res) d v lo H w hv
    cases a with
    | none =>
      obtain ⟨e, rfl, h4⟩ := h4
      exact sndX_forR1 C G (boot_of S.sc h3 bn_range rfl) h4.1 (sndE G kf cok b sf.sc cx _ lo H w h4.2 S.sc C.toCxOk) turn
    | some a' =>
      obtain ⟨e₁, e₂, rfl, h4⟩ := h4
      refine SndS.eq (sndX_forR2 C G (boot_of S.sc h3 bn_range rfl) h4.1.1.1 h4.1.1.2 (sndE G kf cok a' sf.sc cx _ lo H w h4.1.2 S.sc C.toCxOk) (fun H w => sndE G kf cok b sf.sc cx _ lo H w h4.2 S.sc C.toCxOk) turn) ?_
      show _ = bnS (bnd (evE cf lo a' H) _) _
      cases evE cf lo a' H with
      | none => rfl
      | some r => cases r <;> rfl
  | .forV x e body => fun sf cx t lo H w h S C => by
    obtain ⟨y, z1, v, bd, z2, rfl, h⟩ := h
    obtain ⟨⟨⟨⟨h1, h2⟩, h3⟩, h4⟩, h5⟩ := h
    exact sndX_forS C (noSet_fold h3) (sndE G kf cok e sf.sc cx _ lo H w h4 S.sc C.toCxOk) fun It d v lo H w hv => turnN (It := It) (np := z1) (g := fun lo H => evSs cf body lo H) C (S.sc.names ▸ beq_iff_eq.mp h1) (S.sc.var _ h2) (fun lo H w => sndXs G kf xf cok rok body sf (cx.res It) bd lo H w h5 S.res C.res) d v lo H w hv
  | .forU xs e body => fun sf cx t lo H w h S C => by
    obtain ⟨es, z1, z2, v, bd, z3, rfl, h⟩ := h
    obtain ⟨⟨⟨h1, h3⟩, h4⟩, h5⟩ := h
    exact sndX_forS C (noSet_fold h3) (sndE G kf cok e sf.sc cx _ lo H w h4 S.sc C.toCxOk) fun It d v lo H w hv => turnU (It := It) (kk := z1) (tp := z2) (g := fun lo H => evSs cf body lo H) C S.sc h1 (fun lo H w => sndXs G kf xf cok rok body sf (cx.res It) bd lo H w h5 S.res C.res) d v lo H w hv
  | .whl c body => fun sf cx t lo H w h S C => by
    obtain ⟨e, bd, z1, rfl, h⟩ := h
    exact sndX_whl C (fun lo H w => sndT G kf cok c sf.sc cx _ lo H w h.1 S.sc C.toCxOk) (fun lo H w => sndXs G kf xf cok rok body sf cx _ lo H w h.2 S C) 64
  | .ret e => fun sf cx t lo H w h S C => by
    obtain ⟨v, z1, rfl, h⟩ := h
    exact sndX_ret C.toCxOk (sndE G kf cok e sf.sc cx _ lo H w h S.sc C.toCxOk)
  | .retN => fun sf cx t lo H w h S C => by
    obtain ⟨z1, rfl, h⟩ := h
    exact sndX_retN
  | .raise s => fun sf cx t lo H w h S C => by
    obtain ⟨y, z1, x, z2, z3, z4, z5, rfl, h⟩ := h
    obtain ⟨⟨h1, h2⟩, h3⟩ := h
    obtain rfl := beq_iff_eq.mp h1
    obtain rfl := beq_iff_eq.mp h3
    exact rok cx lo H w _ _ _ _ _ _ C (S.sc.glob _ h2)
  | .tryT body => fun sf cx t lo H w h S C => by
    obtain ⟨bd, y, z1, f, f', z2, at_, z3, z4, z5, z6, rfl, h⟩ := h
    obtain ⟨⟨⟨⟨⟨⟨h1, h2⟩, h3⟩, h4⟩, h5⟩, h6⟩, h7⟩ := h
    obtain rfl := beq_iff_eq.mp h1
    obtain rfl := beq_iff_eq.mp h3
    obtain rfl := beq_iff_eq.mp h6
    rw [← evS_try]
    exact sndX_try C G xf (S.sc.glob _ h2) (S.loc _ h4) (okName_iff h5).1 (sndXs G kf xf cok rok body sf cx _ lo H w h7 S C)
  | .ex e => fun sf cx t lo H w h S C => by
    obtain ⟨v, z1, rfl, h⟩ := h
    exact sndX_ex C.toCxOk h.1 (sndE G kf cok e sf.sc cx _ lo H w h.2 S.sc C.toCxOk)
  | .append o e => fun sf cx t lo H w h S C => by
    obtain ⟨v, name, apos, a, pos, z1, rfl, h⟩ := h
    obtain ⟨⟨⟨⟨⟨h1, h2⟩, h3⟩, h4⟩, h5⟩, h6⟩ := h
    obtain rfl := beq_iff_eq.mp h1
    exact sndX_append C.toCxOk (attr_base h4) h3 h2 (sndE G kf cok o sf.sc cx _ lo H w h5 S.sc C.toCxOk) fun H w => sndE G kf cok e sf.sc cx _ lo H w h6 S.sc C.toCxOk
  | .extend o e => fun sf cx t lo H w h S C => by
    obtain ⟨v, name, apos, a, pos, z1, rfl, h⟩ := h
    obtain ⟨⟨⟨⟨⟨h1, h2⟩, h3⟩, h4⟩, h5⟩, h6⟩ := h
    obtain rfl := beq_iff_eq.mp h1
    exact sndX_extend C.toCxOk (attr_base h4) h3 h2 (sndE G kf cok o sf.sc cx _ lo H w h5 S.sc C.toCxOk) fun H w => sndE G kf cok e sf.sc cx _ lo H w h6 S.sc C.toCxOk
  | .pop o => fun sf cx t lo H w h S C => by
    obtain ⟨v, name, apos, pos, z1, rfl, h⟩ := h
    obtain ⟨⟨⟨h1, h2⟩, h4⟩, h5⟩ := h
    obtain rfl := beq_iff_eq.mp h1
    exact sndX_pop C.toCxOk (attr_base h4) h2 (sndE G kf cok o sf.sc cx _ lo H w h5 S.sc C.toCxOk)
theorem sndXs (G : Gd K base p loose mean mg mb) (kf : KFacts K fa) (xf : XFacts K) (cok : CallOk prog wo base fa cf n) (rok : RaiseOk prog wo base n) : ∀ ms : List MS, SXs prog wo K base n cf ms
  | [] => fun sf cx ts lo H w h S C => by
    obtain ⟨rfl, h⟩ := h
    exact sndX_nil
  | m :: ms => fun sf cx ts lo H w h S C => by
    obtain ⟨t, ts', rfl, h⟩ := h
    rw [← evSs_cons]
    exact sndX_cons (sndX G kf xf cok rok m sf cx _ lo H w h.1 S C) fun lo H w => sndXs G kf xf cok rok ms sf cx _ lo H w h.2 S C
end
end
end Mine
end

section
set_option autoImplicit false
set_option maxRecDepth 100000
namespace Mine

noncomputable def fnNames (fd : FnDef) : List Str := fd.names.map Str.ofString
noncomputable def fnParams (fd : FnDef) : List Str := (fnNames fd).take fd.params
noncomputable def sfOf (scope : Scope) (names : List Str) : Sf where
  sc := { names, glob := fun y => scope.names.lookup y == some .globalImplicit, cell := fun y => scope.names.lookup y == some .cell, var := fun y => scope.names.lookup y == some .local || scope.names.lookup y == some .cell }
  loc := fun y => scope.names.lookup y == some .local

inductive TabI (K : Frag) (a : Addr) (fd : FnDef) : Prop where
  | mk (oc : Value) (od : Option Addr) (D : FuncData) (osl : Array (Option Value)) (body : List Stmt) (h1 : K.lookup a = some ⟨oc, od, .func D, osl⟩) (h2 : D.body = .stmts body) (h3 : D.globals = mainGlobals) (h4 : D.closure = []) (h5 : D.builtins = builtinsNs) (h6 : D.scope.isCoroutine = false) (h7 : D.scope.isGenerator = false)
    (h8 : D.scope.kind = .function) (h9 : codeIn K D.code D.qualname = true) (h10 : ∀ us : List Value, us.length = fd.params → bindArgs D ⟨us, []⟩ = pure ((fnParams fd).zip us))
    (h11 : ∀ y ∈ fnParams fd, D.scope.names.lookup y = some .local ∨ D.scope.names.lookup y = some .cell) (h12 : ((cellsFrom 0 D.scope.names []).map (·.1)).Nodup) (h13 : (dSs K (sfOf D.scope (fnNames fd)) fd.body body).isSome = true) : TabI K a fd
/-- what the written part says of one def -/
structure FnTab (K : Frag) (a : Addr) (fd : FnDef) : Prop where
  tab : TabI K a fd
  nd : (fnNames fd).Nodup
  len : fd.params ≤ fd.names.length

theorem cellsFrom_some {y : Str} : ∀ (names : List (Str × NameKind)) (n : Nat) (acc : List (Str × Addr)), ((y, NameKind.cell) ∈ names ∨ (acc.lookup y).isSome = true) → ((cellsFrom n names acc).lookup y).isSome = true
  | [], _, _, h => h.elim (fun m => nomatch m) id
  | (nm, k) :: r, n, acc, h => by
    unfold cellsFrom
    split
    · refine cellsFrom_some r _ _ ?_
      rw [List.lookup_cons]
      rcases h with h | h
      · rcases List.mem_cons.mp h with h | h
        · cases h; right; simp
        · exact .inl h
      · right; split <;> first | rfl | exact h
    · rename_i q
      refine cellsFrom_some r _ _ (h.imp_left fun h => ?_)
      rcases List.mem_cons.mp h with h | h
      · cases h; exact absurd rfl q
      · exact h

theorem bindL_other {kindOf : Str → Option NameKind} {y : Str} : ∀ (b : List (Str × Value)) (m : Str → Option Value), y ∉ b.map (·.1) → bindL kindOf b m y = m y
  | [], _, _ => rfl
  | (n, v) :: r, m, h => by
    unfold bindL
    rw [List.map_cons, List.mem_cons, not_or] at h
    rw [bindL_other r _ h.2]
    split
    · exact if_neg h.1
    · rfl
theorem bindC_other {kindOf : Str → Option NameKind} {y : Str} : ∀ (b : List (Str × Value)) (m : Str → Option Value), y ∉ b.map (·.1) → bindC kindOf b m y = m y
  | [], _, _ => rfl
  | (n, v) :: r, m, h => by
    unfold bindC
    rw [List.map_cons, List.mem_cons, not_or] at h
    rw [bindC_other r _ h.2]
    split
    · rfl
    · exact if_neg h.1
theorem bindL_at {kindOf : Str → Option NameKind} {y : Str} {v : Value} : ∀ (b : List (Str × Value)) (m : Str → Option Value), (b.map (·.1)).Nodup → (y, v) ∈ b → kindOf y = some .local → bindL kindOf b m y = some v
  | (n, u) :: r, m, hn, h, hk => by
    rw [List.map_cons, List.nodup_cons] at hn
    unfold bindL
    rcases List.mem_cons.mp h with h | h
    · cases h
      rw [bindL_other r _ hn.1, if_pos hk]; exact if_pos rfl
    · exact bindL_at r _ hn.2 h hk
theorem bindC_at {kindOf : Str → Option NameKind} {y : Str} {v : Value} : ∀ (b : List (Str × Value)) (m : Str → Option Value), (b.map (·.1)).Nodup → (y, v) ∈ b → kindOf y = some .cell → bindC kindOf b m y = some v
  | (n, u) :: r, m, hn, h, hk => by
    rw [List.map_cons, List.nodup_cons] at hn
    unfold bindC
    rcases List.mem_cons.mp h with h | h
    · cases h
      rw [bindC_other r _ hn.1, if_neg (by rw [hk]; decide)]; exact if_pos rfl
    · exact bindC_at r _ hn.2 h hk
theorem vall_get {base : Heap} {w : Wd} : ∀ {us : List Value} {vs : List DV} {i : Nat} {d : DV}, VAll base w us vs → vs[i]? = some d → ∃ u, us[i]? = some u ∧ VRel base w u d
  | _, _, 0, _, .cons h _, e => ⟨_, rfl, by cases e; exact h⟩
  | _, _, i + 1, _, .cons _ r, e => vall_get (i := i) r e
  | _, _, _, _, .nil, e => by simp at e
theorem zip_get {α β : Type} : ∀ {l : List α} {l' : List β} {i : Nat} {a : α} {b : β}, l[i]? = some a → l'[i]? = some b → (a, b) ∈ l.zip l'
  | _ :: _, _ :: _, 0, _, _, h, h' => by cases h; cases h'; exact .head _
  | _ :: _, _ :: _, i + 1, _, _, h, h' => .tail _ (zip_get (i := i) h h')
  | [], _, _, _, _, h, _ => by simp at h
  | _ :: _, [], _, _, _, _, h => by simp at h
theorem zip_fst {α β : Type} : ∀ {l : List α} {l' : List β}, l.length = l'.length → (l.zip l').map (·.1) = l
  | [], [], _ => rfl
  | [], _ :: _, h => by cases h
  | _ :: _, [], h => by cases h
  | a :: l, _ :: l', h => by rw [List.zip_cons_cons, List.map_cons, zip_fst (Nat.succ.inj h)]
theorem initLo_some {fd : FnDef} {vs : List DV} {i : Nat} {d : DV} (h : (initLo fd vs)[i]? = some (some d)) : vs[i]? = some d := by
  unfold initLo at h
  by_cases q : i < (vs.map some).length
  · rw [List.getElem?_append_left q, List.getElem?_map] at h
    cases e : vs[i]? with
    | none => rw [e] at h; cases h
    | some d' => rw [e] at h; cases h; rfl
  · rw [List.getElem?_append_right (by lia)] at h
    have := List.mem_of_getElem? h
    rw [List.mem_replicate] at this
    cases this.2

section
variable {prog : Program} {wo : World} {K : Frag} {base : Heap} {p : Program} {loose : List Str} {mean : ExcName → Option Value} {mg mb : Str → Option Value} {fa : Fn → Addr} {defs : Fn → FnDef}

theorem callOk (G : Gd K base p loose mean mg mb) (kf : KFacts K fa) (xf : XFacts K) (rok : ∀ n, RaiseOk prog wo base n) (tab : ∀ f, FnTab K (fa f) (defs f)) : ∀ n, CallOk prog wo base fa (callN defs n) n
  | 0 => fun cx lo H w f us vs C hv s Q E st ok er ne => absurd rfl ne
  | n + 1 => by
    intro cx lo H w f us vs C hv s Q E st ok er ne
    have ih := callOk G kf xf rok tab n
    obtain ⟨⟨oc, od, D, osl, body, ho, hbody, hglob, hclo, hblt, hco, hgen, hkind, hcode, hbind, hpar, hcnd, hms⟩, hnd, hplen⟩ := tab f
    have hsem : callN defs (n + 1) f vs H = callWithBody (callN defs n) (defs f) vs H := rfl
    rw [hsem] at ok er ne
    unfold callWithBody at ok er ne
    by_cases hlen : vs.length = (defs f).params
    · rw [if_pos hlen] at ok er ne
      have hus : us.length = (defs f).params := hv.length.trans hlen
      have hpl : (fnParams (defs f)).length = (defs f).params := by unfold fnParams fnNames; rw [List.length_take, List.length_map]; lia
      have hpn : (fnParams (defs f)).Nodup := hnd.sublist (List.take_sublist _ _)
      have hX := G.X.keeps st.stays
      refine wpAny_call (codeAny_call_function (by have := C.depth; lia) (hX _ _ ho) rfl hco hgen hbody (codeRec_of hX hcode) ?_)
      rw [hbind us hus, hglob, hclo, hblt]
      refine wpAny_pure (wpAny_newFunctionEnv_cells hkind (fun y hy => ?_) fun env he s₁ x => ?_)
      · have hm : y.1 ∈ fnParams (defs f) := by
          have : y.1 ∈ ((fnParams (defs f)).zip us).map (·.1) := List.mem_map.mpr ⟨y, hy, rfl⟩
          rwa [zip_fst (hpl.trans hus.symm)] at this
        rcases hpar y.1 hm with q | q
        · exact .inl q
        · exact .inr ⟨q, cellsFrom_some _ _ _ (.inl (mem_lookup _ q))⟩
      refine ⟨(G.T.nolimit.keeps st.stays).keeps x.toInCall.keep, codeAny_func ?_⟩
      subst he
      dsimp only [newEnv] at x ⊢
      generalize hL : s.heap.objs.size = L' at *
      generalize hcs : cellsFrom (L' + 1) D.scope.names [] = cs at *
      let env' : Env := { scope := D.scope, locals := L', globals := mainGlobals, cells := cs, qual := D.qualname ++ ".<locals>.", func := some (fa f), code := D.code, frame := some L', builtins := builtinsNs }
      let cx' : Cx := { A := cx.A.deeper env', env := env', l := env' :: cx.l, L := cx.L, R := (L' :: cs.map (·.2)) ++ cx.R, names := fnNames (defs f) }
      obtain ⟨⟨⟨h₁, tk₁, hs₁⟩, xns, xkeep, xfresh⟩, xcell, xapart, xabove⟩ := x
      have hcn : (cs.map (·.1)).Nodup := by rw [← hcs, cellsFrom_names D.scope.names (L' + 1) 0 [] [] rfl]; exact hcnd
      have fresh : ∀ a, L' ≤ a → s.heap.get? a = none := fun a ha => gets_none (by rw [hL]; exact ha)
      have xab : ∀ q ∈ cs, L' < q.2 := fun q m => xabove q.1 q.2 m
      have hcsf : ∀ q ∈ cs, s.heap.get? q.2 = none := fun q m => fresh _ (Nat.le_of_lt (xab q m))
      have notR : ∀ a, s.heap.get? a = none → a ∉ cx.R := fun a e m => by obtain ⟨o, e'⟩ := st.rin a m; rw [e] at e'; cases e'
      have notF : ∀ a, s.heap.get? a = none → a ∉ cx.F := fun a e m => notR a e (C.FR a m)
      have notρ : ∀ a, s.heap.get? a = none → a ∉ w.ρ := fun a e m => by obtain ⟨o, e'⟩ := st.hp.there a m; rw [e] at e'; cases e'
      have notP : ∀ a, s.heap.get? a = none → ∀ q ∈ w.pool, q.1 ≠ a := fun a e q m z => by have := st.hp.pool q m; rw [z, e] at this; cases this
      have notB : ∀ a, s.heap.get? a = none → base.get? a = none := fun a e => by
        cases q : base.get? a with
        | none => rfl
        | some o => have := st.stays a o q; rw [e] at this; cases this
      have fL := fresh L' (Nat.le_refl _)
      have ownf : ∀ a ∈ cx'.own, s.heap.get? a = none := fun a m => by
        rcases List.mem_cons.mp m with rfl | m
        · exact fL
        · obtain ⟨q, hq, e⟩ := List.mem_map.mp m
          exact e ▸ hcsf q hq
      have hF' : cx'.F = L' :: cx.F := rfl
      have C' : FnOk base cx' n := by
        refine ⟨⟨C.hh, ?_, hkind, rfl, rfl, fun a m => ?_, List.mem_append.mpr (.inl (.head _)), fun q m => ⟨List.mem_append.mpr (.inl (.tail _ (List.mem_map.mpr ⟨q, m, rfl⟩))), fun m' => ?_⟩, .tail _ C.LF, C.above, fun env he => ?_, ?_, ?_, fun y hy => ?_⟩, ⟨cx.l, rfl⟩, rfl, ?_, hnd, fun q m => notB _ (hcsf q m)⟩
        · show (cx.A.frames.map (env' :: ·)) = some (env' :: cx.l)
          rw [C.hf]; rfl
        · rw [hF'] at m
          rcases List.mem_cons.mp m with rfl | m
          · exact List.mem_append.mpr (.inl (.head _))
          · exact List.mem_append.mpr (.inr (C.FR a m))
        · rw [hF'] at m'
          rcases List.mem_cons.mp m' with e | m'
          · have := xab q m; rw [e] at this; exact Nat.lt_irrefl _ this
          · exact notF _ (hcsf q m) m'
        · rcases List.mem_cons.mp he with rfl | he
          · exact ⟨by rw [show env'.scope.kind = .function from hkind]; decide, L', rfl, notB _ fL⟩
          · exact C.fro env he
        · show cx.A.depth + 1 + 2 * n + 8 < recursionLimit
          have := C.depth; lia
        · show cx.A.units + 3 + 16 * n + 200 < cLine
          have := C.units; lia
        · exact Option.isSome_iff_exists.mp (by show (cs.lookup y).isSome = true; rw [← hcs]; exact cellsFrom_some _ _ _ (.inl (mem_lookup _ hy)))
        · exact List.pairwise_map.mpr xapart
      have st' : StS base cx' (initLo (defs f) vs) H w s₁ := by
        have hex : ∀ q ∈ cs, ∃ v, s₁.heap.IsCell q.2 v := fun q m => ⟨_, xcell q.1 q.2 (lookup_of_mem_nodup hcn m)⟩
        refine ⟨⟨(st.hp.keeps fun b o e _ => xkeep b o e).more (X := L' :: cs.map (·.2)) (fun a m => ?_) (fun a m => ?_), fun a m => ?_, fun b o e => xkeep b o (st.stays b o e), fun b m => ?_, fun i d e => ?_⟩, hex⟩
        · exact notρ a (ownf a m)
        · exact notP a (ownf a m)
        · rcases List.mem_append.mp m with m | m
          · rcases List.mem_cons.mp m with rfl | m
            · exact ns_some xns
            · obtain ⟨q, hq, e⟩ := List.mem_map.mp m
              obtain ⟨v, o, ho, _⟩ := hex q hq
              exact ⟨o, e ▸ ho⟩
          · obtain ⟨o, e⟩ := st.rin a m; exact ⟨o, xkeep a o e⟩
        · rw [hF'] at m
          rcases List.mem_cons.mp m with rfl | m
          · exact ⟨_, xns⟩
          · obtain ⟨m', e⟩ := st.fr b m; exact ⟨m', e.keeps xkeep⟩
        · have hvi := initLo_some e
          obtain ⟨u, hu, hr⟩ := vall_get hv hvi
          have hi : i < vs.length := (List.getElem?_eq_some_iff.mp hvi).1
          have hpi : ∃ y, (fnParams (defs f))[i]? = some y := ⟨_, List.getElem?_eq_getElem (by rw [hpl]; lia)⟩
          obtain ⟨y, hy⟩ := hpi
          have hy' : (fnNames (defs f))[i]? = some y := by
            unfold fnParams at hy
            rw [List.getElem?_take] at hy
            split at hy
            · exact hy
            · cases hy
          have hz := zip_get hy hu
          have hzn : (((fnParams (defs f)).zip us).map (·.1)).Nodup := by rw [zip_fst (hpl.trans hus.symm)]; exact hpn
          refine ⟨y, u, hy', ?_, hr⟩
          rcases hpar y (List.mem_of_getElem? hy) with q | q
          · exact .inl ⟨q, _, xns, bindL_at _ _ hzn hz q⟩
          · obtain ⟨c, hc⟩ := C'.cells y q
            exact .inr ⟨.inl q, c, hc, by have := xcell y c hc; rwa [bindC_at _ _ hzn hz q] at this⟩
      have S' : SfOk (sfOf D.scope (fnNames (defs f))) cx' := by
        refine ⟨⟨rfl, fun y e => beq_iff_eq.mp e, fun y e => beq_iff_eq.mp e, fun y e => ?_⟩, fun y e => beq_iff_eq.mp e⟩
        rcases Bool.or_eq_true _ _ ▸ e with e | e
        · exact .inl (beq_iff_eq.mp e)
        · exact .inr (beq_iff_eq.mp e)
      have conv : ∀ {w' H' s₂}, Step base cx'.R cx'.F cx'.own w s₁ w' H' s₂ → Step base cx.R cx.F [] w s w' H' s₂ := by
        intro w' H' s₂ k
        obtain ⟨tk₂, es₂⟩ := k.same
        refine ⟨⟨let ⟨t, e, hf⟩ := k.grow.ρ; ⟨t, e, fun a m => ?_⟩, k.grow.pool⟩, ⟨fun b o e => k.kept.ex b o (xkeep b o e), fun b o e q q' => k.kept.same b o (xkeep b o e) (fun m => ?_) (fun m => ?_), fun b m e q q' => k.kept.nsk b m (e.keeps xkeep) (fun z => ?_) (by rw [hF']; exact .tail _ q')⟩, k.hp.sub fun a m => List.mem_append.mpr (.inr m), tk₂, by rw [es₂, hs₁]⟩
        · cases q : s.heap.get? a with
          | none => rfl
          | some o => have := xkeep a o q; rw [hf a m] at this; cases this
        · rcases List.mem_append.mp m with m | m
          · rw [ownf b m] at e; cases e
          · exact q (by simpa using m)
        · rw [hF'] at m
          rcases List.mem_cons.mp m with rfl | m
          · rw [fL] at e; cases e
          · exact q' m
        · rcases List.mem_append.mp z with z | z
          · exact notF b (ownf b z) q'
          · exact q (by simpa using z)
      have hne : evSs (callN defs n) (defs f).body (initLo (defs f) vs) H ≠ none := fun q => ne (by rw [q])
      refine sndXs G kf xf ih (rok n) (defs f).body _ cx' body _ H w (Pf.of hms) S' C' s₁ _ _ st' (fun lo' H' e w' s₂ k _ => ?_) (fun d H' e v w' s₂ k hv' => ?_) (fun m t H' e ea w' s₂ fl => ?_) hne
      · exact ok (.d .none) H' (by rw [e]) .none w' s₂ (conv k) (.d .none)
      · exact ok d H' (by rw [e]) v w' s₂ (conv k) hv'
      · obtain ⟨B, t0, dx, oe, kh, k₁, k₂, b1, b2, b3, b4, b5, b6, b7, b9, b10, b8⟩ := fl
        refine wpAny_mono (wpAny_dk (dk_leaving _ _) (hasD_of b2 b3) (leave_any (A := cx.A.deeper env') (env := env') (outer := cx.l) (L := L') (B := B) (Q := fun _ s' => ∃ h', s' = { s₂ with heap := h' } ∧ Core .fly B cx.l L' ea (.ref t0) h' ∧ s₂.heap.UpToSlots h') (by show (cx.A.frames.map (env' :: ·)) = some (env' :: cx.l); rw [C.hf]; rfl) rfl b1 fun h' c u => ⟨h', rfl, c, u⟩)) (fun _ s₃ hs => ?_) (fun _ s₃ hs => hs)
        obtain ⟨⟨h₃, rfl, c₃, u₃⟩, oe₃, hd₃, hd₃'⟩ := hs
        obtain ⟨tk₂, es₂⟩ := b8.same
        have ck := conv b8
        refine er t H' (by rw [e]) ea w' _ ⟨B, t0, dx, oe₃, kh, k₁, k₂, c₃, hd₃, hd₃', b4, b5.sub (fun a m => List.mem_append.mpr (.inr m)), b6, fun b o q n m => b7 b o (xkeep b o q) (fun z => ?_) (fun z => ?_), fun b o q m => b9 b o (xkeep b o q) fun z => ?_, ?_⟩
        · rcases List.mem_append.mp z with z | z
          · rw [ownf b z] at q; cases q
          · exact n (by simpa using z)
        · rcases List.mem_cons.mp (show b ∈ L' :: cx.F from z) with rfl | z
          · rw [fL] at q; cases q
          · exact m z
        · rcases List.mem_cons.mp (show b ∈ L' :: cx.F from z) with rfl | z
          · rw [fL] at q; cases q
          · exact m z
        · refine step_of_B (tk := tk₂) ck.grow (frames_ex c₃.2.2.1) c₃.1 (b5.sub fun a m => List.mem_append.mpr (.inr m)) (fun b o q n m => b7 b o (xkeep b o q) (fun z => ?_) (fun z => ?_)) (fun b o q m => b9 b o (xkeep b o q) fun z => ?_) (fun b m q n z => u₃.ns (ck.kept.nsk b m q n z)) (by rw [es₂, hs₁])
          · rcases List.mem_append.mp z with z | z
            · rw [ownf b z] at q; cases q
            · exact n (by simpa using z)
          · rcases List.mem_cons.mp (show b ∈ L' :: cx.F from z) with rfl | z
            · rw [fL] at q; cases q
            · exact m z
          · rcases List.mem_cons.mp (show b ∈ L' :: cx.F from z) with rfl | z
            · rw [fL] at q; cases q
            · exact m z
    · rw [if_neg hlen] at ne; exact absurd rfl ne
end
end Mine
end

section
set_option autoImplicit false
set_option maxRecDepth 100000
namespace Mine

/-- an exception's record -/
noncomputable abbrev excObj (C : Addr) (d : Option Addr) (t : Addr) : Obj := { cls := .ref C, dict := d, data := .fields #[.ref t, .none, .none, .none, .bool false, .none] }

section
variable {M : Model} {A : Around} {E : Value → Shared → Prop} {env : Env}
variable {nm q : Str} {C N : Addr} {bs bm : List Value} {hdct : Bool} {sn : List Str} {sub : List Value} {ab : Bool} {col : Option Bool} {dd : Option Addr} {k0 k1 k2 k3 k5 : Option Value} {newId : String}

theorem raise_made {s : Shared} {x : Sem Value} {Q : Flow → Shared → Prop} (hbase : bm.contains (.type "BaseException") = true) (hh : A.handled = none)
    (h : wpAny M A x (fun v s₁ => ∃ e t d, v = .ref e ∧ s₁.heap.get? C = some (excClassObj nm q C N bs bm hdct sn sub ab col dd k0 k1 k2 k3 k5 newId) ∧ s₁.heap.get? e = some (excObj C d t) ∧ E (.ref e) s₁) E s) :
    wpAny M A (raiseStmt env (some x) none) Q E s := by
  have hcB : (Value.ref C :: bm).contains (.type "BaseException") = true := by rw [List.contains_cons, hbase, Bool.or_true]
  unfold raiseStmt
  refine wpAny_bind (wpAny_mono h (fun v s₁ h₁ => ?_) fun _ _ x => x)
  obtain ⟨e, t, d, rfl, hC, he, hE⟩ := h₁
  obtain ⟨hp, g, dr, tk, os⟩ := s₁
  repeat (first | with_reducible refine wpAny_loadPart_at he ?_ | with_reducible refine wpAny_loadPart_at hC ?_ | (with_reducible refine wpAny_isSubtype_exc hC ?_; rw [hcB]) | wp_step)
  exact wpAny_raiseNew_none hh hE
end

section
variable {M : Model} {A : Around} {E : Value → Shared → Prop} {h : Heap} {g : Array GenState} {d : Drawn} {t : Nat} {os : OsState}
variable {nm q : Str} {C N : Addr} {bs bm bmB : List Value} {hdct : Bool} {sn : List Str} {sub : List Value} {ab : Bool} {col : Option Bool} {dd : Option Addr} {k0 k1 k2 k3 k5 : Option Value} {B newId initId : String}

theorem new_checked (F : ExcBaseFacts B newId initId bmB) (hB : bm.contains (.type B) = true) {rest : List Value} {Q : Unit → Shared → Prop} (hC : h.get? C = some (excClassObj nm q C N bs bm hdct sn sub ab col dd k0 k1 k2 k3 k5 newId))
    (hq : Q () ⟨h, g, d, t, os⟩) : wpAny M A (checkBuiltinCall newId ⟨.ref C :: rest, []⟩) Q E ⟨h, g, d, t, os⟩ := by
  have hc : (Value.ref C :: bm).contains (.type B) = true := by rw [List.contains_cons, hB, Bool.or_true]
  have hstar := F.noStar
  simp only [checkBuiltinCall, F.newKind, F.newSplit, F.newRow]
  repeat (first | refine wpAny_loadPart_at hC ?_ | (refine wpAny_isSubtype_exc hC ?_; rw [hc]) | refine wpAny_staticBase_exc hC ?_ | refine wpAny_madeBy_exc hC ?_ | simp only [bne_self_eq_false, Bool.false_eq_true, if_false] | wp_step)
  exact hq

theorem init_checked (F : ExcBaseFacts B newId initId bmB) (hB : bm.contains (.type B) = true) {e : Addr} {oe : Obj} {rest : List Value} {newId' : String} {Q : Unit → Shared → Prop}
    (hC : h.get? C = some (excClassObj nm q C N bs bm hdct sn sub ab col dd k0 k1 k2 k3 k5 newId')) (he : h.get? e = some oe) (hcls : oe.cls = .ref C) (hq : Q () ⟨h, g, d, t, os⟩) :
    wpAny M A (checkBuiltinCall initId ⟨.ref e :: rest, []⟩) Q E ⟨h, g, d, t, os⟩ := by
  have hc : (Value.ref C :: bm).contains (.type B) = true := by rw [List.contains_cons, hB, Bool.or_true]
  have hshort := F.noStar
  simp only [checkBuiltinCall, F.initKind, F.initSplit, F.initRow]
  repeat (first | (with_reducible refine wpAny_loadPart_at he ?_; rw [hcls]) | with_reducible refine wpAny_loadPart_at hC ?_ | (with_reducible refine wpAny_isSubtype_exc hC ?_; rw [hc]) | wp_step)
  refine wpAny_onRaise ?_
  rw [show ∀ (a b : String) (n : Nat), Bind.check ⟨.positional, "*", B, .self, [⟨"args", .varPos, false⟩]⟩ a b n (List.map (fun x => x.fst) ({ pos := Value.ref e :: rest } : Args).kw) = pure () from
    fun a b n => check_star_args _ _ _ _ _ _]
  exact wpAny_pure hq
end

section
variable {prog : Program} {w : World} {A : Around} {h : Heap} {g : Array GenState} {d : Drawn} {t : Nat} {os : OsState}
variable {nm q : Str} {C N : Addr} {bs bm bmB : List Value} {hdct : Bool} {sn : List Str} {sub : List Value} {ab : Bool} {col : Option Bool} {dd : Option Addr} {k0 k1 k2 k3 k5 : Option Value} {B newId initId : String}

/-- the record is made -/
theorem new_made {R : Result → Shared → Prop} (F : ExcBaseFacts B newId initId bmB) (hB : bm.contains (.type B) = true) (hA' : bm.contains (.type "AttributeError") = false) (hN' : bm.contains (.type "NameError") = false) {rest : List Value}
    (hC : h.get? C = some (excClassObj nm q C N bs bm hdct sn sub ab col dd k0 k1 k2 k3 k5 newId))
    (hq : R (.ok (.ret (.ref (h.objs.size + 1)))) ⟨(h.push { cls := .type "tuple", data := .seq rest.toArray }).push (excObj C none h.objs.size), g, d, t, os⟩) (hrest : rest.length ≤ sizeLine) :
    codeAny (model prog w) A (.builtin newId ⟨.ref C :: rest, []⟩) R ⟨h, g, d, t, os⟩ := by
  have hends := F.ends
  have c1 : (Value.ref C :: bm).contains (.type B) = true := by rw [List.contains_cons, hB, Bool.or_true]
  have c2 : (Value.ref C :: bm).contains (.type "AttributeError") = false := by rw [List.contains_cons, hA']; rfl
  have c3 : (Value.ref C :: bm).contains (.type "NameError") = false := by rw [List.contains_cons, hN']; rfl
  refine codeAny_builtinAt F.entry ?_
  unfold Builtin.«BaseException.__new__»
  refine PySem.wpAt_bind ?_
  show PySem.wpAt _ _ _ (stack >>= _) _ _ _
  refine PySem.wpAt_bind (PySem.wpAt_stack fun p below => PySem.wpAt_of_wpAny ?_)
  wp_walk
  refine PySem.wpAt_of_wpAny ?_
  rw [F.owner]
  repeat (first | with_reducible refine wpAny_madeHere_exc F.canon hC ?_ | with_reducible refine wpAny_loadPart_at hC ?_ | (with_reducible refine wpAny_isSubtype_exc hC ?_; first | rw [c1] | rw [c2] | rw [c3]) | wp_step)
  show R _ _
  rw [Heap.size_push]
  exact hq

/-- the class called: the record, then the own __init__ found along the classes -/
theorem class_called {K : Frag} {E : Value → Shared → Prop} {rest : List Value} {fI : Addr} {Q : Value → Shared → Prop} (X : K.In h) (F : ExcBaseFacts B newId initId bmB) (hB : bm.contains (.type B) = true) (hA' : bm.contains (.type "AttributeError") = false) (hN' : bm.contains (.type "NameError") = false)
    (hC : h.get? C = some (excClassObj nm q C N bs bm hdct sn sub ab col dd k0 k1 k2 k3 k5 newId)) (hi : findIn K (.ref C) "__init__" = some (some (.ref fI))) (hf : typeIn K (.ref fI) = some (.type "function")) (hrest : rest.length ≤ sizeLine)
    (hq : wpAny (model prog w) (A.under (.builtin "type.__call__" ⟨.ref C :: rest, []⟩)) (call (.ref fI) (.ref (h.objs.size + 1) :: rest)) (fun r s' => r = .none ∧ Q (.ref (h.objs.size + 1)) s') E
      ⟨(h.push { cls := .type "tuple", data := .seq rest.toArray }).push (excObj C none h.objs.size), g, d, t, os⟩) :
    wpAny (model prog w) A (call (.ref C) rest) Q E ⟨h, g, d, t, os⟩ := by
  have f1 := tc_lookup
  have f2 := tc_bind (.ref C)
  have hT : (⟨h, g, d, t, os⟩ : Shared).TypeIs (.ref C) "type" := ⟨_, hC, rfl⟩
  refine wpAny_call (codeAny_of_tree ?_)
  show wpAny _ _ (callAny (.ref C) _) _ _ _
  repeat (any_goals (first | assumption | with_reducible refine wpAny_loadPart_at hC ?_ | wp_step))
  refine ⟨rfl, ?_⟩
  refine codeAny_call_builtin_at (Code.quiet_builtin _ (by decide +kernel)) entry_typeCall (wpAny_check_type_call_sub hC ?_)
  repeat (first | with_reducible refine wpAny_loadPart_at hC ?_ | with_reducible refine wpAny_madeBy_exc hC ?_ | wp_step)
  refine codeAny_call_builtin_code (Code.quiet_builtin _ F.quiet) (new_checked F hB hC ?_)
  refine new_made (rest := rest) F hB hA' hN' hC ?_ hrest
  show wpAny _ _ _ _ _ _
  have kk : ∀ b o, h.get? b = some o → ((h.push { cls := .type "tuple", data := .seq rest.toArray }).push (excObj C none h.objs.size)).get? b = some o := fun b o e => Heap.get?_push_of_some _ (Heap.get?_push_of_some _ e)
  have hC₁ := kk _ _ hC
  have hget : ((h.push { cls := .type "tuple", data := .seq rest.toArray }).push (excObj C none h.objs.size)).get? (h.objs.size + 1) = some { cls := .ref C, data := .fields #[.ref h.objs.size, .none, .none, .none, .bool false, .none] } := Heap.get?_push_at (by rw [Heap.size_push]) rfl
  have hcC : (Value.ref C :: bm).contains (.ref C) = true := by simp
  unfold isInstance
  dsimp only [excObj] at hC₁ hget ⊢
  repeat (first | with_reducible refine wpAny_loadPart_at hget ?_ | (with_reducible refine wpAny_isSubtype_exc hC₁ ?_; rw [hcC]) | wp_step)
  show wpAny _ _ (typeLookup (.ref C) _) _ _ _
  have X₁ : K.In ((h.push { cls := .type "tuple", data := .seq rest.toArray }).push (excObj C none h.objs.size)) := X.keeps kk
  refine (looks_findIn X₁ hi).here ?_
  refine wpAny_holding (wpAny_bind ((bind_fn X₁ _ hf).here ?_))
  refine wpAny_bind (wpAny_mono hq (fun r s' hr => ?_) fun _ _ x => x)
  obtain ⟨rfl, hQ⟩ := hr
  wp_walk
  exact hQ
end
end Mine
end

section
set_option autoImplicit false
set_option maxRecDepth 100000
namespace Mine

section
variable {prog : Program} {w : World} {A : Around} {E : Value → Shared → Prop} {K : Frag} {s : Shared} {C F e t1 : Addr} {cd : ClassData} {v : Value}

/-- the first attribute written: the dict is made -/
theorem set_text {Q : Unit → Shared → Prop} (X : K.In s.heap) (hs : findIn K (.ref C) "__setattr__" = some (some (.builtin "object.__setattr__"))) (hn : findIn K (.ref C) (Str.ofString "text") = some none)
    (hc : clsIn K C = some cd) (hcd : cd.hasDict = true) (hm : cd.mro = [.ref C, .ref F, .type "Exception", .type "BaseException", .type "object"]) (he : s.heap.get? e = some (excObj C none t1))
    (h : ∀ h' k₁, (∀ b o, b ≠ e → s.heap.get? b = some o → h'.get? b = some o) → h'.get? e = some (excObj C (some s.heap.objs.size) t1) → h'.get? s.heap.objs.size = some (dictOf [⟨PyData.keyHash w.params (Str.ofString "text"), .str (Str.ofString "text") k₁, v⟩] 1) → 
      Q () { s with heap := h', toks := s.toks + 2 }) :
    wpAny (model prog w) A (setAttr (.ref e) (Str.ofString "text") v) Q E s := by
  have I : PySem.W.InstAt s.heap e (excObj C none t1) C none := ⟨he, rfl, rfl, trivial⟩
  refine set_plain X I hs ?_
  have SF := PySem.F.store_object
  have I' : PySem.W.InstAt ({ s with toks := s.toks + 1 } : Shared).heap e (excObj C none t1) C none := I
  have hmro : Looks (model prog w) s.heap (mroOf (.ref C)) cd.mro := (looks_clsIn X hc).andThen .now
  have hsub : Looks (model prog w) s.heap (isInstance (.ref e) (.type "object")) true := I.type.andThen (looks_mroIn X (by unfold mroIn; rw [hc, Option.bind_some, hm]; rfl))
  refine codeAny_call_builtin SF.slot.plain SF.entry (@check_slot (model prog w) _ _ { s with toks := s.toks + 1 } "object.__setattr__" "object" "__setattr__" (.ref e) [.str (Str.ofString "text") s.toks, v] [] _ SF.kind SF.split hsub (SF.args (.ref e) (.str (Str.ofString "text") s.toks) v) ?_)
  rw [osa_eq, refuse_eq]
  have hk : ∀ b o, s.heap.get? b = some o → ({ s with toks := s.toks + 1 } : Shared).heap.get? b = some o := fun _ _ e => e
  refine wpAny_bind (wpAny_bind (I'.type.here (wpAny_bind (hmro _ _ _ _ hk ?_))))
  rw [hm, refuseLoop_ref, refuseLoop_ref, PySem.F.store_Exception.passes]
  refine wpAny_pure (wpAny_bind (I'.type.here (wpAny_bind (looks_findIn X hn _ _ _ _ hk (wpAny_bind (wpAny_pure ?_))))))
  refine wpAny_bind (wpAny_pure (wpAny_bind (wpAny_bind (wpAny_loadPart he (wpAny_bind (looks_clsIn X hc _ _ _ _ hk ?_))))))
  rw [hcd]
  show wpAny _ _ (alloc _ >>= fun d => update e _ >>= fun _ => dictMade _ e d) _ _ _
  refine wpAny_bind (wpAny_alloc ?_)
  have he1 : (s.heap.push { cls := .type "dict", data := .dict #[] }).get? e = some (excObj C none t1) := Heap.get?_push_of_some _ he
  have hne : e ≠ s.heap.objs.size := Nat.ne_of_lt (Heap.lt_size he)
  refine wpAny_bind (wpAny_update he1 ?_)
  refine wpAny_pure ?_
  dsimp only
  generalize hh2 : ((s.heap.push { cls := .type "dict", data := .dict #[] }).update e fun o => { cls := o.cls, dict := some s.heap.objs.size, data := o.data, slots := o.slots }) = h2
  have D : h2.get? s.heap.objs.size = some (dictOf [] 0) := by
    rw [← hh2]; exact (Heap.get?_update_other _ _ hne).trans (Heap.get?_push_size _ rfl)
  have he2 : h2.get? e = some (excObj C (some s.heap.objs.size) t1) := by
    rw [← hh2]; exact Heap.get?_update_self _ he1 rfl
  have old2 : ∀ b o, b ≠ e → s.heap.get? b = some o → h2.get? b = some o := fun b o q hb => by
    rw [← hh2]; exact (Heap.get?_update_other _ _ (Ne.symm q)).trans (Heap.get?_push_of_some _ hb)
  show wpAny _ _ (pure () >>= fun _ => nsSet s.heap.objs.size (Str.ofString "text") v >>= fun _ => lookBehind s.heap.objs.size (some (.str (Str.ofString "text") 0)) >>= fun _ => ret .none) _ _ _
  refine wpAny_bind (wpAny_pure (wpAny_bind ?_))
  unfold nsSet
  refine wpAny_bind (wpAny_bind (wpAny_askSetting (wpAny_pure (wpAny_bind (wpAny_mkText (wpAny_bind (wpAny_loadPart D ?_)))))))
  dsimp only
  rw [aRefKeyMayBeTheName_at, show (!([] : List DictEntry).toArray.any (·.key.isStr (Str.ofString "text")) && ([] : List DictEntry).toArray.any (·.refKey)) = false from by simp]
  refine wpAny_updatePart D ?_
  have D' := Heap.get?_update_self (Obj.putName (Str.ofString "text") (PyData.keyHash w.params (Str.ofString "text")) (.str (Str.ofString "text") (s.toks + 1)) v) D (by rw [putName_dict]; rfl)
  rw [putName_dict] at D'
  refine wpAny_bind (wpAny_lookBehind D' rfl ?_)
  refine wpAny_pure ?_
  refine h _ (s.toks + 1) (fun b o q hb => (Heap.get?_update_other _ _ (Nat.ne_of_gt (Heap.lt_size hb))).trans (old2 b o q hb)) ((Heap.get?_update_other _ _ (Ne.symm hne)).trans he2) D'
end
end Mine
end

section
set_option autoImplicit false
set_option maxRecDepth 100000
namespace Mine

inductive ClsI (K : Frag) : Prop where
  | mk (F N : Addr) (nm q : Str) (bs : List Value) (sn : List Str) (sub : List Value) (ab : Bool) (col : Option Bool) (dd : Option Addr) (k0 k1 k2 k3 k5 : Option Value)
    (h : K.lookup rfCls = some (excClassObj nm q rfCls N bs [.ref F, .type "Exception", .type "BaseException", .type "object"] true sn sub ab col dd k0 k1 k2 k3 k5 "Exception.__new__")) : ClsI K
inductive InitI (K : Frag) : Prop where
  | mk (fI : Addr) (oc : Value) (od : Option Addr) (D : FuncData) (osl : Array (Option Value)) (p1 p2 p3 p4 p5 p6 q1 q2 q3 q4 : Pos) (h1 : findIn K (.ref rfCls) "__init__" = some (some (.ref fI))) (h2 : typeIn K (.ref fI) = some (.type "function")) (h3 : K.lookup fI = some ⟨oc, od, .func D, osl⟩)
    (h4 : D.body = .stmts [.Expr (.Call (.Attribute (.Name (Str.ofString "Exception") p1) (Str.ofString "__init__") p2) [.Name (Str.ofString "self") p3, .Name (Str.ofString "text") p4] [] p5) p6,
      .Assign [.Attribute (.Name (Str.ofString "self") q1) (Str.ofString "text") q2] (.Name (Str.ofString "text") q3) q4]) (h5 : (p2.endLine == p5.line) = true)
    (h6 : D.globals = mainGlobals) (h7 : D.builtins = builtinsNs) (h8 : D.scope.isCoroutine = false) (h9 : D.scope.isGenerator = false) (h10 : D.scope.kind = .function) (h11 : codeIn K D.code D.qualname = true)
    (h12 : ∀ a b : Value, bindArgs D ⟨[a, b], []⟩ = pure [(Str.ofString "self", a), (Str.ofString "text", b)]) (h13 : ∀ x ∈ D.scope.names, x.2 ≠ .cell)
    (h14 : D.scope.names.lookup (Str.ofString "self") = some .local) (h15 : D.scope.names.lookup (Str.ofString "text") = some .local) (h16 : D.scope.names.lookup (Str.ofString "Exception") = some .globalImplicit) : InitI K
/-- what the written part says for a raise -/
structure RFacts (K : Frag) : Prop where
  keep : keepIn K (.ref rfCls) = true
  cls : ClsI K
  set : findIn K (.ref rfCls) "__setattr__" = some (some (.builtin "object.__setattr__"))
  txt : findIn K (.ref rfCls) (Str.ofString "text") = some none
  exc : nsIn K mainGlobals (Str.ofString "Exception") = some none
  meth : findCls K (.type "Exception") (.type "type") (Str.ofString "__init__") = some (.val (.builtin "Exception.__init__"))
  init : InitI K

section
variable {prog : Program} {w : World} {A : Around} {E : Value → Shared → Prop} {h : Heap} {g : Array GenState} {d : Drawn} {t : Nat} {os : OsState}
variable {nm q : Str} {C N : Addr} {bs bm bmB : List Value} {hdct : Bool} {sn : List Str} {sub : List Value} {ab : Bool} {col : Option Bool} {dd : Option Addr} {k0 k1 k2 k3 k5 : Option Value} {B newId newId' initId : String}
theorem exc_init {e t0 : Addr} {rest : List Value} {Q : Value → Shared → Prop} (F : ExcBaseFacts B newId initId bmB) (hB : bm.contains (.type B) = true)
    (hC : h.get? C = some (excClassObj nm q C N bs bm hdct sn sub ab col dd k0 k1 k2 k3 k5 newId')) (he : h.get? e = some { cls := .ref C, data := .fields #[.ref t0, .none, .none, .none, .bool false, .none] }) (hrest : rest.length ≤ sizeLine)
    (hq : ∀ h', (∀ b o, b ≠ e → h.get? b = some o → h'.get? b = some o) → h'.get? e = some (excObj C none h.objs.size) → h'.objs.size = h.objs.size + 1 → Q .none ⟨h', g, d, t, os⟩) :
    wpAny (model prog w) A (call (.builtin initId) (.ref e :: rest)) Q E ⟨h, g, d, t, os⟩ := by
  refine wpAny_call (codeAny_call_builtin F.init.plain F.initEntry (init_checked F hB hC he rfl ?_))
  unfold Builtin.«BaseException.__init__»
  wp_walk
  refine hq _ (fun b o q hb => (Heap.get?_update_other _ _ (Ne.symm q)).trans (Heap.get?_push_of_some _ hb)) ?_ (by simp)
  rw [Heap.get?_update_self _ (Heap.get?_push_of_some _ he) rfl]
  rfl
end

section
variable {prog : Program} {w : World} {A : Around} {E : Value → Shared → Prop} {K : Frag} {s : Shared} {e t0 : Addr} {x : Str} {t : Tok} {p : Program} {loose : List Str} {mean : ExcName → Option Value} {mg mb : Str → Option Value}

theorem init_run {Q : Value → Shared → Prop} (X : K.In s.heap) (T : Top p loose mean mg mb s.heap) (rf : RFacts K) (hroom : A.depth < recursionLimit) (he : s.heap.get? e = some (excObj rfCls none t0)) (hK : K.lookup e = none) {fI : Addr} (hfI : findIn K (.ref rfCls) "__init__" = some (some (.ref fI)))
    (h : ∀ h' tk t1 dx kh k₁, (∀ b o, b ≠ e → s.heap.get? b = some o → h'.get? b = some o) → h'.get? e = some (excObj rfCls (some dx) t1) → h'.get? dx = some (excDict kh k₁ t x) → s.heap.get? dx = none → Q .none { s with heap := h', toks := tk }) :
    wpAny (model prog w) A (call (.ref fI) [.ref e, .str x t]) Q E s := by
  obtain ⟨fI', oc, od, D, osl, p1, p2, p3, p4, p5, p6, q1, q2, q3, q4, g1, g2, ho, hbody, hl, hglob, hblt, hco, hgen, hkind, hcode, hbind, hcell, ls, lt, lex⟩ := rf.init
  rw [hfI] at g1
  cases g1
  obtain ⟨F, N, nm, q, bs, sn, sub, ab, col, dd, k0, k1, k2, k3, k5, hCK⟩ := rf.cls
  refine wpAny_call (codeAny_call_def (binds := [(Str.ofString "self", .ref e), (Str.ofString "text", .str x t)]) hroom (X _ _ ho) rfl T.nolimit (codeRec_of X hcode) hbody (.of_eq (hbind _ _)) hcell (fun y hy => ?_) (fun h₀ hns hk => ?_) hco hgen hkind)
  · simp only [List.mem_cons, List.not_mem_nil, or_false] at hy
    rcases hy with rfl | rfl
    · exact ls
    · exact lt
  generalize henv : callEnv D s.heap.objs.size fI = env at *
  have ek : env.scope.kind = .function := by rw [← henv]; exact hkind
  have es : env.scope = D.scope := by rw [← henv]; rfl
  have eg : env.globals = mainGlobals := by rw [← henv]; exact hglob
  have eb : env.builtins = builtinsNs := by rw [← henv]; exact hblt
  have el : env.locals = s.heap.objs.size := by rw [← henv]; rfl
  have hself : env.kindOf (Str.ofString "self") = some .local := by unfold Env.kindOf; rw [es]; exact ls
  have htext : env.kindOf (Str.ofString "text") = some .local := by unfold Env.kindOf; rw [es]; exact lt
  have hex : env.kindOf (Str.ofString "Exception") = some .globalImplicit := by unfold Env.kindOf; rw [es]; exact lex
  have X₀ : K.In h₀ := X.keeps hk
  have Fr₀ : Fr s.heap s.heap.objs.size h₀ _ := ⟨hns, hk, Nat.le_refl _⟩
  have hC₀ := X₀ _ _ hCK
  have he₀ := hk _ _ he
  have neL : e ≠ s.heap.objs.size := Nat.ne_of_lt (Heap.lt_size he)
  refine wpAny_execs_cons (wpAny_Expr_any (MethodCall_ ?_ (method_he (fun _ => rfl) (star_form rfl (by simp)) hl)) (by simp [interactive, ek]) (swaps_no rfl))
  refine Calls.Name_function_global ek hex (Calls.loadGlobal_builtin (by rw [eg]; exact T.g.keeps hk) (mg_none_of X T.g rf.exc) (by rw [eb]; exact T.b.keeps hk) ((T.builtins (Str.ofString "Exception") (by decide +kernel)).trans (show bootBuiltins (Str.ofString "Exception") = some (.type "Exception") by kernel_rfl)) ?_) (by decide)
  refine method_type Fr₀ X (by kernel_rfl) (by decide +kernel) rf.meth (by decide +kernel) ?_
  refine cw2 rfl (wpAny_Name (wpAny_loadName_local ek hself (by rw [el]; exact hns) rfl (wpAny_Name (wpAny_loadName_local ek htext (by rw [el]; exact hns) rfl ?_) (by decide))) (by decide))
  refine exc_init PySem.F.excBase_Exception (by simp) hC₀ he₀ (by simp [sizeLine_eq]) fun h₁ old₁ he₁ sz₁ => ?_
  dsimp only
  have old : ∀ b o, b ≠ e → s.heap.get? b = some o → h₁.get? b = some o := fun b o q hb => old₁ b o q (hk b o hb)
  have hns₁ : h₁.Ns s.heap.objs.size (fun y => [(Str.ofString "self", Value.ref e), (Str.ofString "text", Value.str x t)].reverse.lookup y) := hns.at' fun o q => old₁ _ o (Ne.symm neL) q
  have X₁ : K.In h₁ := fun a o ha => by
    have := X a o ha
    exact old a o (fun z => by rw [z, hK] at ha; cases ha) this
  refine wpAny_execs_cons (plainObj_wpAny_Assign_Attribute (wpAny_Name (wpAny_loadName_local ek htext (by rw [el]; exact hns₁) rfl (wpAny_Name (wpAny_loadName_local ek hself (by rw [el]; exact hns₁) rfl ?_) (by decide))) (by decide)))
  obtain ⟨cd, hcd1, hcd2, hcd3⟩ : ∃ cd : ClassData, clsIn K rfCls = some cd ∧ cd.hasDict = true ∧ cd.mro = [.ref rfCls, .ref F, .type "Exception", .type "BaseException", .type "object"] := ⟨_, by unfold clsIn; rw [hCK], rfl, rfl⟩
  refine set_text X₁ rf.set rf.txt hcd1 hcd2 hcd3 he₁ fun h₂ k₁ old₂ he₂ hd₂ => ?_
  refine wpAny_execs_nil ?_
  refine h h₂ _ _ h₁.objs.size _ k₁ (fun b o q hb => old₂ b o q (old b o q hb)) he₂ hd₂ (gets_none (Nat.le_of_lt hns₁.lt))
end
end Mine
end

section
set_option autoImplicit false
set_option maxRecDepth 100000
namespace Mine

section
variable {prog : Program} {wo : World} {K : Frag} {base : Heap} {p : Program} {loose : List Str} {mean : ExcName → Option Value} {mg mb : Str → Option Value}

theorem raiseOk (G : Gd K base p loose mean mg mb) (xf : XFacts K) (rf : RFacts K) (n : Nat) : RaiseOk prog wo base n := by
  intro cx lo H w x np cp' cp pos k' C hk s Q E st nx rt er ne
  obtain ⟨F, N, nm, q, bs, sn, sub, ab, col, dd, k0, k1, k2, k3, k5, hCK⟩ := rf.cls
  obtain ⟨fI, oc, od, D, osl, p1, p2, p3, p4, p5, p6, q1, q2, q3, q4, hi, hf, _, _, _, _, _, _, _, _, _, _, _, _, _, _⟩ := rf.init
  have X := G.X.keeps st.stays
  have T := G.T.keeps st.stays
  show wpAny _ _ (exec _ _) _ _ _
  rw [arm_exec_Raise]
  refine wpAny_bind (wpAny_standAt (raise_made (C := rfCls) (nm := nm) (q := q) (N := N) (bs := bs) (bm := [.ref F, .type "Exception", .type "BaseException", .type "object"]) (hdct := true) (sn := sn) (sub := sub) (ab := ab) (col := col) (dd := dd) (k0 := k0) (k1 := k1) (k2 := k2) (k3 := k3) (k5 := k5) (newId := "Exception.__new__") (by simp) C.hh ?_))
  refine wpAny_bind (wpAny_mono (?_ : wpAny (model prog wo) cx.A (eval (.Call (.Name (Str.ofString "RunFault") np) [.Constant (.str x) k' cp'] [] cp) cx.env) _ E s) (fun v s₃ h₃ => wpAny_bind (wpAny_standAt (wpAny_pure h₃))) fun _ _ e => e)
  refine Call_ (wp_glob C.toCxOk G st.toStE hk xf.name (by decide) (callWith_K X rf.keep (spliced_more (wpAny_Constant_str (spliced_none ⟨X, ?_⟩)) rfl) rfl rfl))
  obtain ⟨h, g, d, tk, os⟩ := s
  dsimp only at X T ⊢
  have hC := X _ _ hCK
  have kk : ∀ b o, h.get? b = some o → ((h.push { cls := .type "tuple", data := .seq [Value.str x tk].toArray }).push (excObj rfCls none h.objs.size)).get? b = some o := fun b o e => Heap.get?_push_of_some _ (Heap.get?_push_of_some _ e)
  have hget : ((h.push { cls := .type "tuple", data := .seq [Value.str x tk].toArray }).push (excObj rfCls none h.objs.size)).get? (h.objs.size + 1) = some (excObj rfCls none h.objs.size) := Heap.get?_push_at (by rw [Heap.size_push]) rfl
  have fe : h.get? (h.objs.size + 1) = none := gets_none (Nat.le_succ _)
  have hKe : K.lookup (h.objs.size + 1) = none := by
    cases z : K.lookup (h.objs.size + 1) with
    | none => rfl
    | some o => have := X _ _ z; rw [fe] at this; cases this
  refine class_called X PySem.F.excBase_Exception (by simp) (by simp) (by simp) hC hi hf (by simp [sizeLine_eq]) ?_
  refine init_run (X.keeps kk) (T.keeps kk) rf (by
    have := C.depth
    show cx.A.depth + (Code.builtin "type.__call__" ⟨Value.ref rfCls :: ([] ++ [Value.str x tk]), []⟩).weight < recursionLimit
    have hw : (Code.builtin "type.__call__" ⟨Value.ref rfCls :: ([] ++ [Value.str x tk]), []⟩).weight ≤ 1 := by
      first
        | exact Nat.le_of_eq (show _ = 1 by kernel_rfl)
        | exact Nat.le_of_lt (Nat.lt_of_le_of_lt (Nat.le_of_eq (show _ = 0 by kernel_rfl)) (by decide))
    lia) hget hKe hi fun h' tk' t1 dx kh j₁ old he hd hdx => ⟨rfl, ?_⟩
  have all : ∀ b o, h.get? b = some o → h'.get? b = some o := fun b o e => old b o (fun z => by rw [z, fe] at e; cases e) (kk b o e)
  have fdx : h.get? dx = none := by
    cases z : h.get? dx with
    | none => rfl
    | some o => have := hdx.symm.trans (kk _ _ z); cases this
  refine ⟨h.objs.size + 1, t1, some dx, rfl, all _ _ hC, he, ?_⟩
  have nF : ∀ b o, h.get? b = some o → b ≠ h.objs.size + 1 := fun b o e z => by rw [z, fe] at e; cases e
  have notF : ∀ a, h.get? a = none → a ∉ cx.F := fun a e m => by obtain ⟨o, e'⟩ := st.rin a (C.FR a m); rw [show ({ heap := h, gens := g, drawn := d, toks := tk, os := os } : Shared).heap = h from rfl, e] at e'; cases e'
  have dxe : dx ≠ h.objs.size + 1 := fun z => by rw [z, he] at hd; cases hd
  have inB : ∀ b o, h.get? b = some o → b ∉ cx.F → (hideAll h' ((h.objs.size + 1) :: cx.F)).get? b = some o := fun b o e f => hideAll_get _ (all b o e) (by simp only [List.mem_cons, not_or]; exact ⟨nF b o e, f⟩)
  have frs : ∀ b ∈ cx.F, ∃ m, h'.Ns b m := fun b m => let ⟨m', e⟩ := st.fr b m; ⟨m', e.keeps all⟩
  refine er .fresh x H rfl (h.objs.size + 1) w _ ⟨hideAll h' ((h.objs.size + 1) :: cx.F), t1, dx, _, kh, j₁, _, ⟨fun b o e => of_hideAll _ e, hideAll_none _ (.head _), funFrames_hide (funFrames_of C.fro frs) fun env he a ha => .tail _ (List.mem_filterMap.mpr ⟨env, he, ha⟩), _, _, he, rfl, rfl, rfl, rfl⟩, he, rfl, hideAll_get _ hd (by simp only [List.mem_cons, not_or]; exact ⟨dxe, notF dx fdx⟩), ?_, fun b o e => inB b o (st.stays b o e) (fun m => by have := C.offF m; rw [e] at this; cases this), fun b o e _ f => inB b o e f, fun b o e f => ⟨o, inB b o e f⟩, frs, ?_⟩
  · exact st.hp.keeps fun b o e r => inB b o e fun m => r (C.FR b m)
  · exact ⟨.refl, .of_all all, st.hp.keeps fun b o e _ => all b o e, tk', rfl⟩
end
end Mine
end

section
set_option autoImplicit false
set_option maxRecDepth 100000
namespace Mine

noncomputable def lawLo (ns : List Int) : Lo := [some (.scr ns), some (.mem 0 1), some (.ml 2), some (.ml 3), .none, .none, .none, .none]
noncomputable def lawH : Hp := [some (List.replicate 8 .none), some (List.replicate 9 .none), some (List.replicate 8 .none), some (List.replicate 9 .none)]

theorem dall_nones {pool : Led} : ∀ n : Nat, DAll pool (List.replicate n Value.none) (List.replicate n PyData.none)
  | 0 => .nil
  | n + 1 => .cons .none (dall_nones n)

section
variable {prog : Program} {wo : World} {K : Frag} {base : Heap} {p : Program} {loose : List Str} {mean : ExcName → Option Value} {mg mb : Str → Option Value} {fa : Fn → Addr}

theorem law_join (G : Gd K base p loose mean mg mb) (kf : KFacts K fa) (xf : XFacts K) (rf : RFacts K) (tab : ∀ f, FnTab K (fa f) (defs f)) {ns : List Int} {a : Addr} {vs : List Value} (hL : base.IsList a vs.toArray) (hI : IntsAre vs ns)
    {L f : Addr} {cd : Value} {name : Str} {scope : Scope} {A₀ : Around} (hA : A₀.frames = some []) (hh : A₀.handled = none) (hdep : A₀.depth + 40 < recursionLimit) (hun : A₀.units + 400 < cLine)
    {h : Heap} {m : Str → Option Value} {news : List (Addr × Obj)} (F : Fr base L h m) (N : News base L h news) {x d u v y z : Addr} {k1 k2 : Int} {t1 t2 : Tok} {n1 n2 n3 n4 : Nat}
    (m1 : m (Str.ofString "script") = some (.ref a)) (m2 : m (Str.ofString "memory") = some (.ref x)) (m3 : m (Str.ofString "units") = some (.ref u)) (m4 : m (Str.ofString "texts") = some (.ref v))
    (e1 : (x, instObj 91 d) ∈ news) (e2 : (d, memDict k1 k2 t1 t2 y z) ∈ news) (e3 : (y, listOf (List.replicate 8 Value.none).toArray n1) ∈ news) (e4 : (z, listOf (List.replicate 9 Value.none).toArray n2) ∈ news)
    (e5 : (u, listOf (List.replicate 8 Value.none).toArray n3) ∈ news) (e6 : (v, listOf (List.replicate 9 Value.none).toArray n4) ∈ news) (nd : [y, z, u, v].Nodup)
    {R : List Stmt} (hms : (dSs K (sfOf scope (fnNames d_law)) d_law.body R).isSome = true) (hk : scope.kind = .function) (hnc : ∀ y ∈ scope.names, y.2 ≠ .cell) (hloc : ∀ y ∈ [Str.ofString "script", Str.ofString "memory", Str.ofString "units", Str.ofString "texts"], scope.names.lookup y = some .local)
    (hlaw : ∃ H', evSs (callN defs 6) d_law.body (lawLo ns) lawH = some (.ret (.d (.bool true)) H')) {Q : Flow → Shared → Prop} {E : Value → Shared → Prop} {s : Shared} (hs : s.heap = h)
    (hQ : ∀ h' tk, (∀ b o, base.get? b = some o → h'.get? b = some o) → Q (.ret (.bool true)) { s with heap := h', toks := tk }) :
    wpAny (model prog wo) (A₀.deeper (envOf name scope L f cd)) (execs R (envOf name scope L f cd)) Q E s := by
  subst hs
  obtain ⟨H', hlaw⟩ := hlaw
  have hBL : base.get? L = none := by
    cases q : base.get? L with
    | none => rfl
    | some o => exact absurd (Nat.lt_of_lt_of_le (Heap.lt_size q) F.above) (Nat.lt_irrefl _)
  let env := envOf name scope L f cd
  let cx : Cx := { A := A₀.deeper env, env := env, l := [env], L := L, R := [L], names := fnNames d_law }
  let w : Wd := ⟨[y, z, u, v], [(x, instObj 91 d), (d, memDict k1 k2 t1 t2 y z)]⟩
  have hF : cx.F = [L] := rfl
  have C : FnOk base cx 6 := by
    refine ⟨⟨hh, ?_, hk, rfl, rfl, fun b m => m, .head _, (fun q m => nomatch m), .head _, F.above, fun env' he => ?_, ?_, ?_, fun y e => ?_⟩, ⟨[], rfl⟩, rfl, List.nodup_nil, (show (fnNames d_law).Nodup by decide +kernel), (fun q m => nomatch m)⟩
    · show (A₀.frames.map (env :: ·)) = some [env]
      rw [hA]; rfl
    · rw [List.mem_singleton.mp he]
      exact ⟨by rw [show env.scope.kind = .function from hk]; decide, L, rfl, hBL⟩
    · show A₀.depth + 1 + 2 * 6 + 8 < recursionLimit
      lia
    · show A₀.units + 3 + 16 * 6 + 200 < cLine
      lia
    · exact absurd rfl (hnc _ (mem_lookup _ e))
  have ne_of : ∀ {b c : Addr} {o o' : Obj}, (b, o) ∈ news → (c, o') ∈ news → o ≠ o' → b ≠ c := fun hb hc n q => n (by
    subst q
    exact Option.some.inj ((N _ hb).1.symm.trans (N _ hc).1))
  have offl : ∀ {b : Addr} {its : Array Value} {k : Nat}, (b, listOf its k) ∈ news → ∀ q ∈ w.pool, q.1 ≠ b := fun hb q hq => by
    simp only [w, List.mem_cons, List.not_mem_nil, or_false] at hq
    rcases hq with rfl | rfl
    · exact ne_of e1 hb (by intro z; cases z)
    · exact ne_of e2 hb (by intro z; have zz := congrArg Obj.cls z; injection zz with q; exact absurd q (by decide))
  have ρn : ∀ b ∈ w.ρ, ∃ o, (b, o) ∈ news := fun b m => by
    simp only [w, List.mem_cons, List.not_mem_nil, or_false] at m
    rcases m with rfl | rfl | rfl | rfl
    · exact ⟨_, e3⟩
    · exact ⟨_, e4⟩
    · exact ⟨_, e5⟩
    · exact ⟨_, e6⟩
  have pn : ∀ q ∈ w.pool, q ∈ news := fun q m => by
    simp only [w, List.mem_cons, List.not_mem_nil, or_false] at m
    rcases m with rfl | rfl
    · exact e1
    · exact e2
  have hp : HpRel base w lawH cx.R s.heap := by
    refine ⟨rfl, nd, fun i ds e => ?_, fun q m => (N _ (pn q m)).1, fun b m => let ⟨o, ho⟩ := ρn b m; ⟨o, (N _ ho).1⟩, fun b m => let ⟨o, ho⟩ := ρn b m; (N _ ho).2.2, fun b m q => let ⟨o, ho⟩ := ρn b m; (N _ ho).2.1 (List.mem_singleton.mp q), fun q m q' => (N _ (pn q m)).2.1 (List.mem_singleton.mp q')⟩
    match i, e with
    | 0, e => cases e; exact ⟨y, _, _, _, rfl, (N _ e3).1, rfl, rfl, dall_nones 8, offl e3, rfl⟩
    | 1, e => cases e; exact ⟨z, _, _, _, rfl, (N _ e4).1, rfl, rfl, dall_nones 9, offl e4, rfl⟩
    | 2, e => cases e; exact ⟨u, _, _, _, rfl, (N _ e5).1, rfl, rfl, dall_nones 8, offl e5, rfl⟩
    | 3, e => cases e; exact ⟨v, _, _, _, rfl, (N _ e6).1, rfl, rfl, dall_nones 9, offl e6, rfl⟩
    | _ + 4, e => cases e
  have lk : ∀ {yy : Str} {vv : Value}, yy ∈ [Str.ofString "script", Str.ofString "memory", Str.ofString "units", Str.ofString "texts"] → m yy = some vv → Lk cx.env s.heap yy vv := fun hy hv => .inl ⟨hloc _ hy, m, F.ns, hv⟩
  have st : StS base cx (lawLo ns) lawH w s := by
    refine ⟨⟨hp, fun b m => ?_, F.keep, fun b m => ?_, fun i dd e => ?_⟩, (fun q m => nomatch m)⟩
    · rw [List.mem_singleton.mp m]; exact ns_some F.ns
    · rw [List.mem_singleton.mp (show b ∈ [L] from m)]; exact ⟨_, F.ns⟩
    · match i, e with
      | 0, e => cases e; exact ⟨_, _, rfl, lk (by simp) m1, .scr hL hI⟩
      | 1, e => cases e; exact ⟨_, _, rfl, lk (by simp) m2, .mem (.head _) (.tail _ (.head _)) rfl rfl⟩
      | 2, e => cases e; exact ⟨_, _, rfl, lk (by simp) m3, .ml rfl⟩
      | 3, e => cases e; exact ⟨_, _, rfl, lk (by simp) m4, .ml rfl⟩
      | 4, e => cases e
      | 5, e => cases e
      | 6, e => cases e
      | 7, e => cases e
      | _ + 8, e => cases e
  have S : SfOk (sfOf scope (fnNames d_law)) cx := by
    refine ⟨⟨rfl, fun y e => beq_iff_eq.mp e, fun y e => beq_iff_eq.mp e, fun y e => ?_⟩, fun y e => beq_iff_eq.mp e⟩
    rcases Bool.or_eq_true _ _ ▸ e with e | e
    · exact .inl (beq_iff_eq.mp e)
    · exact .inr (beq_iff_eq.mp e)
  refine sndXs G kf xf (callOk G kf xf (fun n => raiseOk G xf rf n) tab 6) (raiseOk G xf rf 6) d_law.body _ cx R (lawLo ns) lawH w (Pf.of hms) S C s Q E st (fun lo' H' e => by rw [hlaw] at e; cases e) (fun dd H₂ e vv w' s' k hv => ?_) (fun m t H₂ e => by rw [hlaw] at e; cases e) (by rw [hlaw]; intro q; cases q)
  rw [hlaw] at e
  cases e
  obtain rfl := bool_val hv
  obtain ⟨tk, es⟩ := k.same
  rw [es]
  refine hQ _ _ fun b o hb => k.kept.same b o (F.keep b o hb) (fun q => ?_) fun q => ?_
  · rcases List.mem_append.mp q with q | q
    · have : b = L := List.mem_singleton.mp (show b ∈ [L] from q)
      rw [this, hBL] at hb; cases hb
    · have := hp.offB b q; rw [hb] at this; cases this
  · rw [List.mem_singleton.mp (show b ∈ [L] from q), hBL] at hb; cases hb
end
end Mine
end

section
set_option autoImplicit false
set_option maxRecDepth 100000
namespace Mine
noncomputable abbrev kSt (i : Nat) : Stmt := PySem.Challenge.pw_no0237_01.main.body.getD i default
@[reducible] noncomputable def kIn : Stmt → Nat → Stmt
  | .ClassDef _ _ _ b _ _ _ _ _ _ _, j => b.getD j default
  | s, _ => s
@[reducible] noncomputable def kArgs : Stmt → Arguments
  | .FunctionDef _ a _ _ _ _ _ _ _ _ => a
  | _ => default
@[reducible] noncomputable def kBody : Stmt → List Stmt
  | .FunctionDef _ _ b _ _ _ _ _ _ _ => b
  | _ => []
@[reducible] noncomputable def kScope : Stmt → Scope
  | .FunctionDef _ _ _ _ _ _ s _ _ _ => s
  | _ => default
@[reducible] noncomputable def kS (s : String) (t : Nat) : Value := .str (Str.ofString s) t
@[reducible] noncomputable def kE (P : Params) (s : String) (t : Nat) (v : Value) : DictEntry := { hash := PyData.keyHash P (Str.ofString s), key := .str (Str.ofString s) t, val := v }
noncomputable def kFrag (P : Params) : Frag :=
  (nat_lit 2, { cls := .none, data := Data.dict #[kE P "type.__subclasses__.Exception.0" 214 (.int 31 0), kE P "type.__subclasses__.Exception.n" 215 (.int 1 0)] 2 }) ::
  (nat_lit 3, { cls := .type "dict", data := Data.dict #[kE P "__name__" 165 (kS "law_no0237_01" 484), kE P "__doc__" 166 .none, kE P "__package__" 167 .none, kE P "__loader__" 168 (.builtin "__main__.__loader__#opaque"), kE P "__spec__" 169 .none, kE P "__annotations__" 170 (.ref 6), kE P "__builtins__" 171 (.ref 4), kE P "__file__" 173 (kS "/claim/cut.py" 172), kE P "__cached__" 174 .none, kE P "F77Error" 217 (.ref 31), kE P "RunFault" 233 (.ref 44), kE P "REAL" 237 (.int 1 236), kE P "DOUBLE" 239 (.int 2 238), kE P "COMPLEX" 241 (.int 3 240), kE P "CHARACTER" 243 (.int 5 242), kE P "units_of" 250 (.ref 53), kE P "SECOND" 254 (.int 6 253), kE P "Memory" 313 (.ref 91), kE P "need_units" 322 (.ref 102), kE P "read_cell" 332 (.ref 109), kE P "load_number" 342 (.ref 116), kE P "store_number" 352 (.ref 123), kE P "load_text" 362 (.ref 130), kE P "store_text" 372 (.ref 137), kE P "pad" 380 (.ref 144), kE P "unit_size" 388 (.ref 151), kE P "extent" 398 (.ref 158), kE P "element_place" 415 (.ref 165), kE P "sub_place" 426 (.ref 172), kE P "elements_of" 432 (.ref 177), kE P "span_of" 444 (.ref 184), kE P "undefine_cells" 456 (.ref 191), kE P "fresh" 468 (.ref 198), kE P "mark_storage" 475 (.ref 205), kE P "cut_storage" 483 (.ref 212), kE P "_law_values" 491 (.ref 219), kE P "_law_pick" 499 (.ref 226), kE P "_law_own" 513 (.ref 233), kE P "_law_lay" 527 (.ref 240), kE P "_law_load" 539 (.ref 247), kE P "_law_store" 551 (.ref 254), kE P "_law_deed" 573 (.ref 261), kE P "_law_counted" 586 (.ref 268), kE P "_law_shapes" 596 (.ref 275), kE P "_law_asked" 606 (.ref 282), kE P "_law_arrays" 612 (.ref 287), kE P "law" 626 (.ref 294)] 47 }) ::
  (nat_lit 15, { cls := .type "tuple", data := Data.seq #[.type "Exception"] }) ::
  (nat_lit 22, { cls := .type "tuple", data := Data.seq #[] }) ::
  (nat_lit 24, { cls := .type "tuple", data := Data.seq #[kS "self" 204, kS "text" 205] }) ::
  (nat_lit 25, { cls := .type "tuple", data := Data.seq #[] }) ::
  (nat_lit 27, { cls := .type "code", data := Data.fields #[kS "__init__" 201, kS "F77Error.__init__" 202, kS "/claim/cut.py" 203, .int 4 0, .int 2 0, .int 0 0, .int 0 0, .int 3 0, .ref 22, .bool true, .int 181 0, .ref 23, .none, .ref 24, .ref 25, .ref 26, .int 206 0, .int 4 0, kS "/claim/cut.py" 207] }) ::
  (nat_lit 28, { cls := .type "function", data := Data.func { name := Str.ofString "__init__", qualname := Str.ofString "F77Error.__init__", params := kArgs (kIn (kSt 1) 0), body := .stmts (kBody (kIn (kSt 1) 0)), scope := kScope (kIn (kSt 1) 0), globals := 3, closure := [], defaults := .none, kwdefaults := .none, pyModule := kS "f77.errors" 187, code := .ref 27 } }) ::
  (nat_lit 29, { cls := .type "tuple", data := Data.seq #[kS "text" 209] }) ::
  (nat_lit 30, { cls := .type "dict", data := Data.dict #[kE P "__module__" 196 (kS "f77.errors" 187), kE P "__firstlineno__" 200 (.int 2 199), kE P "__init__" 208 (.ref 28), kE P "__static_attributes__" 210 (.ref 29), kE P "__weakref__" 212 (.ref 32), kE P "__doc__" 213 .none] 3 }) ::
  (nat_lit 31, { cls := .type "type", data := Data.cls { name := Str.ofString "F77Error", bases := [.type "Exception"], mro := [.ref 31, .type "Exception", .type "BaseException", .type "object"], ns := 30, qualname := Str.ofString "F77Error", subclasses := [.ref 44] }, slots := #[some (.ref 15), none, some (kS "F77Error" 189), some (kS "F77Error" 197), some (.builtin "Exception.__new__"), some (.bool true)] }) ::
  (nat_lit 32, { cls := .type "getset_descriptor", data := Data.fields #[kS "__weakref__" 211, .ref 31, .builtin "ExceptionGroup.__weakref__", .none] }) ::
  (nat_lit 35, { cls := .type "tuple", data := Data.seq #[.ref 31] }) ::
  (nat_lit 42, { cls := .type "tuple", data := Data.seq #[] }) ::
  (nat_lit 43, { cls := .type "dict", data := Data.dict #[kE P "__module__" 225 (kS "f77.errors" 187), kE P "__firstlineno__" 229 (.int 7 228), kE P "__static_attributes__" 230 (.ref 42), kE P "__doc__" 231 .none] 2 }) ::
  (nat_lit 44, { cls := .type "type", data := Data.cls { name := Str.ofString "RunFault", bases := [.ref 31], mro := [.ref 44, .ref 31, .type "Exception", .type "BaseException", .type "object"], ns := 43, qualname := Str.ofString "RunFault" }, slots := #[some (.ref 35), none, some (kS "RunFault" 218), some (kS "RunFault" 226), some (.builtin "Exception.__new__"), some (.bool true)] }) ::
  (nat_lit 47, { cls := .type "tuple", data := Data.seq #[] }) ::
  (nat_lit 49, { cls := .type "tuple", data := Data.seq #[kS "kind" 247] }) ::
  (nat_lit 50, { cls := .type "tuple", data := Data.seq #[] }) ::
  (nat_lit 52, { cls := .type "code", data := Data.fields #[kS "units_of" 244, kS "units_of" 245, kS "/claim/cut.py" 246, .int 14 0, .int 1 0, .int 0 0, .int 0 0, .int 3 0, .ref 47, .bool true, .int 181 0, .ref 48, .none, .ref 49, .ref 50, .ref 51, .int 248 0, .int 14 0, kS "/claim/cut.py" 249] }) ::
  (nat_lit 53, { cls := .type "function", data := Data.func { name := Str.ofString "units_of", qualname := Str.ofString "units_of", params := kArgs (kSt 8), body := .stmts (kBody (kSt 8)), scope := kScope (kSt 8), globals := 3, closure := [], defaults := .none, kwdefaults := .none, pyModule := kS "f77.kinds" 234, code := .ref 52 } }) ::
  (nat_lit 61, { cls := .type "tuple", data := Data.seq #[] }) ::
  (nat_lit 63, { cls := .type "tuple", data := Data.seq #[kS "self" 270, kS "numeric" 271, kS "characters" 272] }) ::
  (nat_lit 64, { cls := .type "tuple", data := Data.seq #[] }) ::
  (nat_lit 66, { cls := .type "code", data := Data.fields #[kS "__init__" 267, kS "Memory.__init__" 268, kS "/claim/cut.py" 269, .int 24 0, .int 3 0, .int 0 0, .int 0 0, .int 3 0, .ref 61, .bool true, .int 181 0, .ref 62, .none, .ref 63, .ref 64, .ref 65, .int 273 0, .int 24 0, kS "/claim/cut.py" 274] }) ::
  (nat_lit 67, { cls := .type "function", data := Data.func { name := Str.ofString "__init__", qualname := Str.ofString "Memory.__init__", params := kArgs (kIn (kSt 11) 0), body := .stmts (kBody (kIn (kSt 11) 0)), scope := kScope (kIn (kSt 11) 0), globals := 3, closure := [], defaults := .none, kwdefaults := .none, pyModule := kS "f77.memory" 251, code := .ref 66 } }) ::
  (nat_lit 68, { cls := .type "tuple", data := Data.seq #[] }) ::
  (nat_lit 70, { cls := .type "tuple", data := Data.seq #[kS "self" 279, kS "place" 280] }) ::
  (nat_lit 71, { cls := .type "tuple", data := Data.seq #[] }) ::
  (nat_lit 73, { cls := .type "code", data := Data.fields #[kS "load" 276, kS "Memory.load" 277, kS "/claim/cut.py" 278, .int 28 0, .int 2 0, .int 0 0, .int 0 0, .int 3 0, .ref 68, .bool true, .int 181 0, .ref 69, .none, .ref 70, .ref 71, .ref 72, .int 281 0, .int 28 0, kS "/claim/cut.py" 282] }) ::
  (nat_lit 74, { cls := .type "function", data := Data.func { name := Str.ofString "load", qualname := Str.ofString "Memory.load", params := kArgs (kIn (kSt 11) 1), body := .stmts (kBody (kIn (kSt 11) 1)), scope := kScope (kIn (kSt 11) 1), globals := 3, closure := [], defaults := .none, kwdefaults := .none, pyModule := kS "f77.memory" 251, code := .ref 73 } }) ::
  (nat_lit 75, { cls := .type "tuple", data := Data.seq #[] }) ::
  (nat_lit 77, { cls := .type "tuple", data := Data.seq #[kS "self" 287, kS "place" 288, kS "value" 289] }) ::
  (nat_lit 78, { cls := .type "tuple", data := Data.seq #[] }) ::
  (nat_lit 80, { cls := .type "code", data := Data.fields #[kS "store" 284, kS "Memory.store" 285, kS "/claim/cut.py" 286, .int 33 0, .int 3 0, .int 0 0, .int 0 0, .int 3 0, .ref 75, .bool true, .int 181 0, .ref 76, .none, .ref 77, .ref 78, .ref 79, .int 290 0, .int 33 0, kS "/claim/cut.py" 291] }) ::
  (nat_lit 81, { cls := .type "function", data := Data.func { name := Str.ofString "store", qualname := Str.ofString "Memory.store", params := kArgs (kIn (kSt 11) 2), body := .stmts (kBody (kIn (kSt 11) 2)), scope := kScope (kIn (kSt 11) 2), globals := 3, closure := [], defaults := .none, kwdefaults := .none, pyModule := kS "f77.memory" 251, code := .ref 80 } }) ::
  (nat_lit 82, { cls := .type "tuple", data := Data.seq #[] }) ::
  (nat_lit 84, { cls := .type "tuple", data := Data.seq #[kS "self" 296, kS "place" 297, kS "is_character" 298, kS "low" 299, kS "high" 300] }) ::
  (nat_lit 85, { cls := .type "tuple", data := Data.seq #[] }) ::
  (nat_lit 87, { cls := .type "code", data := Data.fields #[kS "undefine" 293, kS "Memory.undefine" 294, kS "/claim/cut.py" 295, .int 39 0, .int 2 0, .int 0 0, .int 0 0, .int 3 0, .ref 82, .bool true, .int 181 0, .ref 83, .none, .ref 84, .ref 85, .ref 86, .int 301 0, .int 39 0, kS "/claim/cut.py" 302] }) ::
  (nat_lit 88, { cls := .type "function", data := Data.func { name := Str.ofString "undefine", qualname := Str.ofString "Memory.undefine", params := kArgs (kIn (kSt 11) 3), body := .stmts (kBody (kIn (kSt 11) 3)), scope := kScope (kIn (kSt 11) 3), globals := 3, closure := [], defaults := .none, kwdefaults := .none, pyModule := kS "f77.memory" 251, code := .ref 87 } }) ::
  (nat_lit 89, { cls := .type "tuple", data := Data.seq #[kS "characters" 304, kS "numeric" 305] }) ::
  (nat_lit 90, { cls := .type "dict", data := Data.dict #[kE P "__module__" 262 (kS "f77.memory" 251), kE P "__firstlineno__" 266 (.int 22 265), kE P "__init__" 275 (.ref 67), kE P "load" 283 (.ref 74), kE P "store" 292 (.ref 81), kE P "undefine" 303 (.ref 88), kE P "__static_attributes__" 306 (.ref 89), kE P "__dict__" 308 (.ref 92), kE P "__weakref__" 310 (.ref 93), kE P "__doc__" 311 .none] 4 }) ::
  (nat_lit 91, { cls := .type "type", data := Data.cls { name := Str.ofString "Memory", bases := [.type "object"], mro := [.ref 91, .type "object"], ns := 90, qualname := Str.ofString "Memory" }, slots := #[none, none, some (kS "Memory" 255), some (kS "Memory" 263), some (.builtin "object.__new__"), some (.bool true)] }) ::
  (nat_lit 92, { cls := .type "getset_descriptor", data := Data.fields #[kS "__dict__" 307, .ref 91, .builtin "function.__dict__", .builtin "function.__dict__#set"] }) ::
  (nat_lit 93, { cls := .type "getset_descriptor", data := Data.fields #[kS "__weakref__" 309, .ref 91, .builtin "ExceptionGroup.__weakref__", .none] }) ::
  (nat_lit 96, { cls := .type "tuple", data := Data.seq #[] }) ::
  (nat_lit 98, { cls := .type "tuple", data := Data.seq #[kS "cells" 317, kS "address" 318, kS "count" 319] }) ::
  (nat_lit 99, { cls := .type "tuple", data := Data.seq #[] }) ::
  (nat_lit 101, { cls := .type "code", data := Data.fields #[kS "need_units" 314, kS "need_units" 315, kS "/claim/cut.py" 316, .int 42 0, .int 3 0, .int 0 0, .int 0 0, .int 3 0, .ref 96, .bool true, .int 181 0, .ref 97, .none, .ref 98, .ref 99, .ref 100, .int 320 0, .int 42 0, kS "/claim/cut.py" 321] }) ::
  (nat_lit 102, { cls := .type "function", data := Data.func { name := Str.ofString "need_units", qualname := Str.ofString "need_units", params := kArgs (kSt 12), body := .stmts (kBody (kSt 12)), scope := kScope (kSt 12), globals := 3, closure := [], defaults := .none, kwdefaults := .none, pyModule := kS "f77.memory" 251, code := .ref 101 } }) ::
  (nat_lit 103, { cls := .type "tuple", data := Data.seq #[] }) ::
  (nat_lit 105, { cls := .type "tuple", data := Data.seq #[kS "cells" 326, kS "address" 327, kS "tag" 328, kS "cell" 329] }) ::
  (nat_lit 106, { cls := .type "tuple", data := Data.seq #[] }) ::
  (nat_lit 108, { cls := .type "code", data := Data.fields #[kS "read_cell" 323, kS "read_cell" 324, kS "/claim/cut.py" 325, .int 45 0, .int 3 0, .int 0 0, .int 0 0, .int 3 0, .ref 103, .bool true, .int 181 0, .ref 104, .none, .ref 105, .ref 106, .ref 107, .int 330 0, .int 45 0, kS "/claim/cut.py" 331] }) ::
  (nat_lit 109, { cls := .type "function", data := Data.func { name := Str.ofString "read_cell", qualname := Str.ofString "read_cell", params := kArgs (kSt 13), body := .stmts (kBody (kSt 13)), scope := kScope (kSt 13), globals := 3, closure := [], defaults := .none, kwdefaults := .none, pyModule := kS "f77.memory" 251, code := .ref 108 } }) ::
  (nat_lit 110, { cls := .type "tuple", data := Data.seq #[] }) ::
  (nat_lit 112, { cls := .type "tuple", data := Data.seq #[kS "cells" 336, kS "kind" 337, kS "address" 338, kS "value" 339] }) ::
  (nat_lit 113, { cls := .type "tuple", data := Data.seq #[] }) ::
  (nat_lit 115, { cls := .type "code", data := Data.fields #[kS "load_number" 333, kS "load_number" 334, kS "/claim/cut.py" 335, .int 50 0, .int 3 0, .int 0 0, .int 0 0, .int 3 0, .ref 110, .bool true, .int 181 0, .ref 111, .none, .ref 112, .ref 113, .ref 114, .int 340 0, .int 50 0, kS "/claim/cut.py" 341] }) ::
  (nat_lit 116, { cls := .type "function", data := Data.func { name := Str.ofString "load_number", qualname := Str.ofString "load_number", params := kArgs (kSt 14), body := .stmts (kBody (kSt 14)), scope := kScope (kSt 14), globals := 3, closure := [], defaults := .none, kwdefaults := .none, pyModule := kS "f77.memory" 251, code := .ref 115 } }) ::
  (nat_lit 117, { cls := .type "tuple", data := Data.seq #[] }) ::
  (nat_lit 119, { cls := .type "tuple", data := Data.seq #[kS "cells" 346, kS "kind" 347, kS "address" 348, kS "value" 349] }) ::
  (nat_lit 120, { cls := .type "tuple", data := Data.seq #[] }) ::
  (nat_lit 122, { cls := .type "code", data := Data.fields #[kS "store_number" 343, kS "store_number" 344, kS "/claim/cut.py" 345, .int 58 0, .int 4 0, .int 0 0, .int 0 0, .int 3 0, .ref 117, .bool true, .int 181 0, .ref 118, .none, .ref 119, .ref 120, .ref 121, .int 350 0, .int 58 0, kS "/claim/cut.py" 351] }) ::
  (nat_lit 123, { cls := .type "function", data := Data.func { name := Str.ofString "store_number", qualname := Str.ofString "store_number", params := kArgs (kSt 15), body := .stmts (kBody (kSt 15)), scope := kScope (kSt 15), globals := 3, closure := [], defaults := .none, kwdefaults := .none, pyModule := kS "f77.memory" 251, code := .ref 122 } }) ::
  (nat_lit 124, { cls := .type "tuple", data := Data.seq #[] }) ::
  (nat_lit 126, { cls := .type "tuple", data := Data.seq #[kS "cells" 356, kS "address" 357, kS "length" 358, kS "signs" 359] }) ::
  (nat_lit 127, { cls := .type "tuple", data := Data.seq #[] }) ::
  (nat_lit 129, { cls := .type "code", data := Data.fields #[kS "load_text" 353, kS "load_text" 354, kS "/claim/cut.py" 355, .int 67 0, .int 3 0, .int 0 0, .int 0 0, .int 3 0, .ref 124, .bool true, .int 181 0, .ref 125, .none, .ref 126, .ref 127, .ref 128, .int 360 0, .int 67 0, kS "/claim/cut.py" 361] }) ::
  (nat_lit 130, { cls := .type "function", data := Data.func { name := Str.ofString "load_text", qualname := Str.ofString "load_text", params := kArgs (kSt 16), body := .stmts (kBody (kSt 16)), scope := kScope (kSt 16), globals := 3, closure := [], defaults := .none, kwdefaults := .none, pyModule := kS "f77.memory" 251, code := .ref 129 } }) ::
  (nat_lit 131, { cls := .type "tuple", data := Data.seq #[] }) ::
  (nat_lit 133, { cls := .type "tuple", data := Data.seq #[kS "cells" 366, kS "address" 367, kS "text" 368, kS "k" 369] }) ::
  (nat_lit 134, { cls := .type "tuple", data := Data.seq #[] }) ::
  (nat_lit 136, { cls := .type "code", data := Data.fields #[kS "store_text" 363, kS "store_text" 364, kS "/claim/cut.py" 365, .int 73 0, .int 3 0, .int 0 0, .int 0 0, .int 3 0, .ref 131, .bool true, .int 181 0, .ref 132, .none, .ref 133, .ref 134, .ref 135, .int 370 0, .int 73 0, kS "/claim/cut.py" 371] }) ::
  (nat_lit 137, { cls := .type "function", data := Data.func { name := Str.ofString "store_text", qualname := Str.ofString "store_text", params := kArgs (kSt 17), body := .stmts (kBody (kSt 17)), scope := kScope (kSt 17), globals := 3, closure := [], defaults := .none, kwdefaults := .none, pyModule := kS "f77.memory" 251, code := .ref 136 } }) ::
  (nat_lit 138, { cls := .type "tuple", data := Data.seq #[] }) ::
  (nat_lit 140, { cls := .type "tuple", data := Data.seq #[kS "text" 376, kS "length" 377] }) ::
  (nat_lit 141, { cls := .type "tuple", data := Data.seq #[] }) ::
  (nat_lit 143, { cls := .type "code", data := Data.fields #[kS "pad" 373, kS "pad" 374, kS "/claim/cut.py" 375, .int 77 0, .int 2 0, .int 0 0, .int 0 0, .int 3 0, .ref 138, .bool true, .int 181 0, .ref 139, .none, .ref 140, .ref 141, .ref 142, .int 378 0, .int 77 0, kS "/claim/cut.py" 379] }) ::
  (nat_lit 144, { cls := .type "function", data := Data.func { name := Str.ofString "pad", qualname := Str.ofString "pad", params := kArgs (kSt 18), body := .stmts (kBody (kSt 18)), scope := kScope (kSt 18), globals := 3, closure := [], defaults := .none, kwdefaults := .none, pyModule := kS "f77.memory" 251, code := .ref 143 } }) ::
  (nat_lit 145, { cls := .type "tuple", data := Data.seq #[] }) ::
  (nat_lit 147, { cls := .type "tuple", data := Data.seq #[kS "kind" 384, kS "length" 385] }) ::
  (nat_lit 148, { cls := .type "tuple", data := Data.seq #[] }) ::
  (nat_lit 150, { cls := .type "code", data := Data.fields #[kS "unit_size" 381, kS "unit_size" 382, kS "/claim/cut.py" 383, .int 79 0, .int 2 0, .int 0 0, .int 0 0, .int 3 0, .ref 145, .bool true, .int 181 0, .ref 146, .none, .ref 147, .ref 148, .ref 149, .int 386 0, .int 79 0, kS "/claim/cut.py" 387] }) ::
  (nat_lit 151, { cls := .type "function", data := Data.func { name := Str.ofString "unit_size", qualname := Str.ofString "unit_size", params := kArgs (kSt 19), body := .stmts (kBody (kSt 19)), scope := kScope (kSt 19), globals := 3, closure := [], defaults := .none, kwdefaults := .none, pyModule := kS "f77.memory" 251, code := .ref 150 } }) ::
  (nat_lit 152, { cls := .type "tuple", data := Data.seq #[] }) ::
  (nat_lit 154, { cls := .type "tuple", data := Data.seq #[kS "dims" 392, kS "count" 393, kS "low" 394, kS "high" 395] }) ::
  (nat_lit 155, { cls := .type "tuple", data := Data.seq #[] }) ::
  (nat_lit 157, { cls := .type "code", data := Data.fields #[kS "extent" 389, kS "extent" 390, kS "/claim/cut.py" 391, .int 83 0, .int 1 0, .int 0 0, .int 0 0, .int 3 0, .ref 152, .bool true, .int 181 0, .ref 153, .none, .ref 154, .ref 155, .ref 156, .int 396 0, .int 83 0, kS "/claim/cut.py" 397] }) ::
  (nat_lit 158, { cls := .type "function", data := Data.func { name := Str.ofString "extent", qualname := Str.ofString "extent", params := kArgs (kSt 20), body := .stmts (kBody (kSt 20)), scope := kScope (kSt 20), globals := 3, closure := [], defaults := .none, kwdefaults := .none, pyModule := kS "f77.memory" 251, code := .ref 157 } }) ::
  (nat_lit 159, { cls := .type "tuple", data := Data.seq #[] }) ::
  (nat_lit 161, { cls := .type "tuple", data := Data.seq #[kS "place" 402, kS "subscripts" 403, kS "kind" 404, kS "address" 405, kS "length" 406, kS "dims" 407, kS "offset" 408, kS "stride" 409, kS "k" 410, kS "low" 411, kS "high" 412] }) ::
  (nat_lit 162, { cls := .type "tuple", data := Data.seq #[] }) ::
  (nat_lit 164, { cls := .type "code", data := Data.fields #[kS "element_place" 399, kS "element_place" 400, kS "/claim/cut.py" 401, .int 90 0, .int 2 0, .int 0 0, .int 0 0, .int 3 0, .ref 159, .bool true, .int 181 0, .ref 160, .none, .ref 161, .ref 162, .ref 163, .int 413 0, .int 90 0, kS "/claim/cut.py" 414] }) ::
  (nat_lit 165, { cls := .type "function", data := Data.func { name := Str.ofString "element_place", qualname := Str.ofString "element_place", params := kArgs (kSt 21), body := .stmts (kBody (kSt 21)), scope := kScope (kSt 21), globals := 3, closure := [], defaults := .none, kwdefaults := .none, pyModule := kS "f77.memory" 251, code := .ref 164 } }) ::
  (nat_lit 166, { cls := .type "tuple", data := Data.seq #[] }) ::
  (nat_lit 168, { cls := .type "tuple", data := Data.seq #[kS "place" 419, kS "lo" 420, kS "hi" 421, kS "first" 422, kS "last" 423] }) ::
  (nat_lit 169, { cls := .type "tuple", data := Data.seq #[] }) ::
  (nat_lit 171, { cls := .type "code", data := Data.fields #[kS "sub_place" 416, kS "sub_place" 417, kS "/claim/cut.py" 418, .int 104 0, .int 3 0, .int 0 0, .int 0 0, .int 3 0, .ref 166, .bool true, .int 181 0, .ref 167, .none, .ref 168, .ref 169, .ref 170, .int 424 0, .int 104 0, kS "/claim/cut.py" 425] }) ::
  (nat_lit 172, { cls := .type "function", data := Data.func { name := Str.ofString "sub_place", qualname := Str.ofString "sub_place", params := kArgs (kSt 22), body := .stmts (kBody (kSt 22)), scope := kScope (kSt 22), globals := 3, closure := [], defaults := .none, kwdefaults := .none, pyModule := kS "f77.memory" 251, code := .ref 171 } }) ::
  (nat_lit 173, { cls := .type "tuple", data := Data.seq #[] }) ::
  (nat_lit 176, { cls := .type "code", data := Data.fields #[kS "elements_of" 427, kS "elements_of" 428, kS "/claim/cut.py" 429, .int 110 0, .int 1 0, .int 0 0, .int 0 0, .int 3 0, .ref 173, .bool true, .int 181 0, .ref 174, .none, .none, .none, .ref 175, .int 430 0, .int 110 0, kS "/claim/cut.py" 431] }) ::
  (nat_lit 177, { cls := .type "function", data := Data.func { name := Str.ofString "elements_of", qualname := Str.ofString "elements_of", params := kArgs (kSt 23), body := .stmts (kBody (kSt 23)), scope := kScope (kSt 23), globals := 3, closure := [], defaults := .none, kwdefaults := .none, pyModule := kS "f77.memory" 251, code := .ref 176 } }) ::
  (nat_lit 178, { cls := .type "tuple", data := Data.seq #[] }) ::
  (nat_lit 180, { cls := .type "tuple", data := Data.seq #[kS "place" 436, kS "kind" 437, kS "address" 438, kS "length" 439, kS "dims" 440, kS "count" 441] }) ::
  (nat_lit 181, { cls := .type "tuple", data := Data.seq #[] }) ::
  (nat_lit 183, { cls := .type "code", data := Data.fields #[kS "span_of" 433, kS "span_of" 434, kS "/claim/cut.py" 435, .int 117 0, .int 1 0, .int 0 0, .int 0 0, .int 3 0, .ref 178, .bool true, .int 181 0, .ref 179, .none, .ref 180, .ref 181, .ref 182, .int 442 0, .int 117 0, kS "/claim/cut.py" 443] }) ::
  (nat_lit 184, { cls := .type "function", data := Data.func { name := Str.ofString "span_of", qualname := Str.ofString "span_of", params := kArgs (kSt 24), body := .stmts (kBody (kSt 24)), scope := kScope (kSt 24), globals := 3, closure := [], defaults := .none, kwdefaults := .none, pyModule := kS "f77.memory" 251, code := .ref 183 } }) ::
  (nat_lit 185, { cls := .type "tuple", data := Data.seq #[] }) ::
  (nat_lit 187, { cls := .type "tuple", data := Data.seq #[kS "memory" 448, kS "is_character" 449, kS "low" 450, kS "high" 451, kS "cells" 452, kS "k" 453] }) ::
  (nat_lit 188, { cls := .type "tuple", data := Data.seq #[] }) ::
  (nat_lit 190, { cls := .type "code", data := Data.fields #[kS "undefine_cells" 445, kS "undefine_cells" 446, kS "/claim/cut.py" 447, .int 123 0, .int 4 0, .int 0 0, .int 0 0, .int 3 0, .ref 185, .bool true, .int 181 0, .ref 186, .none, .ref 187, .ref 188, .ref 189, .int 454 0, .int 123 0, kS "/claim/cut.py" 455] }) ::
  (nat_lit 191, { cls := .type "function", data := Data.func { name := Str.ofString "undefine_cells", qualname := Str.ofString "undefine_cells", params := kArgs (kSt 25), body := .stmts (kBody (kSt 25)), scope := kScope (kSt 25), globals := 3, closure := [], defaults := .none, kwdefaults := .none, pyModule := kS "f77.memory" 251, code := .ref 190 } }) ::
  (nat_lit 192, { cls := .type "tuple", data := Data.seq #[] }) ::
  (nat_lit 194, { cls := .type "tuple", data := Data.seq #[kS "memory" 460, kS "kind" 461, kS "length" 462, kS "cells" 463, kS "address" 464, kS "k" 465] }) ::
  (nat_lit 195, { cls := .type "tuple", data := Data.seq #[] }) ::
  (nat_lit 197, { cls := .type "code", data := Data.fields #[kS "fresh" 457, kS "fresh" 458, kS "/claim/cut.py" 459, .int 128 0, .int 3 0, .int 0 0, .int 0 0, .int 3 0, .ref 192, .bool true, .int 181 0, .ref 193, .none, .ref 194, .ref 195, .ref 196, .int 466 0, .int 128 0, kS "/claim/cut.py" 467] }) ::
  (nat_lit 198, { cls := .type "function", data := Data.func { name := Str.ofString "fresh", qualname := Str.ofString "fresh", params := kArgs (kSt 26), body := .stmts (kBody (kSt 26)), scope := kScope (kSt 26), globals := 3, closure := [], defaults := .none, kwdefaults := .none, pyModule := kS "f77.memory" 251, code := .ref 197 } }) ::
  (nat_lit 199, { cls := .type "tuple", data := Data.seq #[] }) ::
  (nat_lit 201, { cls := .type "tuple", data := Data.seq #[kS "memory" 472] }) ::
  (nat_lit 202, { cls := .type "tuple", data := Data.seq #[] }) ::
  (nat_lit 204, { cls := .type "code", data := Data.fields #[kS "mark_storage" 469, kS "mark_storage" 470, kS "/claim/cut.py" 471, .int 134 0, .int 1 0, .int 0 0, .int 0 0, .int 3 0, .ref 199, .bool true, .int 181 0, .ref 200, .none, .ref 201, .ref 202, .ref 203, .int 473 0, .int 134 0, kS "/claim/cut.py" 474] }) ::
  (nat_lit 205, { cls := .type "function", data := Data.func { name := Str.ofString "mark_storage", qualname := Str.ofString "mark_storage", params := kArgs (kSt 27), body := .stmts (kBody (kSt 27)), scope := kScope (kSt 27), globals := 3, closure := [], defaults := .none, kwdefaults := .none, pyModule := kS "f77.memory" 251, code := .ref 204 } }) ::
  (nat_lit 206, { cls := .type "tuple", data := Data.seq #[] }) ::
  (nat_lit 208, { cls := .type "tuple", data := Data.seq #[kS "memory" 479, kS "marked" 480] }) ::
  (nat_lit 209, { cls := .type "tuple", data := Data.seq #[] }) ::
  (nat_lit 211, { cls := .type "code", data := Data.fields #[kS "cut_storage" 476, kS "cut_storage" 477, kS "/claim/cut.py" 478, .int 136 0, .int 2 0, .int 0 0, .int 0 0, .int 3 0, .ref 206, .bool true, .int 181 0, .ref 207, .none, .ref 208, .ref 209, .ref 210, .int 481 0, .int 136 0, kS "/claim/cut.py" 482] }) ::
  (nat_lit 212, { cls := .type "function", data := Data.func { name := Str.ofString "cut_storage", qualname := Str.ofString "cut_storage", params := kArgs (kSt 28), body := .stmts (kBody (kSt 28)), scope := kScope (kSt 28), globals := 3, closure := [], defaults := .none, kwdefaults := .none, pyModule := kS "f77.memory" 251, code := .ref 211 } }) ::
  (nat_lit 213, { cls := .type "tuple", data := Data.seq #[] }) ::
  (nat_lit 215, { cls := .type "tuple", data := Data.seq #[] }) ::
  (nat_lit 216, { cls := .type "tuple", data := Data.seq #[] }) ::
  (nat_lit 218, { cls := .type "code", data := Data.fields #[kS "_law_values" 486, kS "_law_values" 487, kS "/claim/cut.py" 488, .int 142 0, .int 0 0, .int 0 0, .int 0 0, .int 3 0, .ref 213, .bool true, .int 181 0, .ref 214, .none, .ref 215, .ref 216, .ref 217, .int 489 0, .int 142 0, kS "/claim/cut.py" 490] }) ::
  (nat_lit 219, { cls := .type "function", data := Data.func { name := Str.ofString "_law_values", qualname := Str.ofString "_law_values", params := kArgs (kSt 30), body := .stmts (kBody (kSt 30)), scope := kScope (kSt 30), globals := 3, closure := [], defaults := .none, kwdefaults := .none, pyModule := kS "law_no0237_01" 484, code := .ref 218 } }) ::
  (nat_lit 220, { cls := .type "tuple", data := Data.seq #[] }) ::
  (nat_lit 222, { cls := .type "tuple", data := Data.seq #[kS "script" 495, kS "place" 496] }) ::
  (nat_lit 223, { cls := .type "tuple", data := Data.seq #[] }) ::
  (nat_lit 225, { cls := .type "code", data := Data.fields #[kS "_law_pick" 492, kS "_law_pick" 493, kS "/claim/cut.py" 494, .int 144 0, .int 2 0, .int 0 0, .int 0 0, .int 3 0, .ref 220, .bool true, .int 181 0, .ref 221, .none, .ref 222, .ref 223, .ref 224, .int 497 0, .int 144 0, kS "/claim/cut.py" 498] }) ::
  (nat_lit 226, { cls := .type "function", data := Data.func { name := Str.ofString "_law_pick", qualname := Str.ofString "_law_pick", params := kArgs (kSt 31), body := .stmts (kBody (kSt 31)), scope := kScope (kSt 31), globals := 3, closure := [], defaults := .none, kwdefaults := .none, pyModule := kS "law_no0237_01" 484, code := .ref 225 } }) ::
  (nat_lit 227, { cls := .type "tuple", data := Data.seq #[] }) ::
  (nat_lit 229, { cls := .type "tuple", data := Data.seq #[kS "units" 503, kS "texts" 504, kS "kind" 505, kS "at" 506, kS "length" 507, kS "cells" 508, kS "count" 509, kS "row" 510] }) ::
  (nat_lit 230, { cls := .type "tuple", data := Data.seq #[] }) ::
  (nat_lit 232, { cls := .type "code", data := Data.fields #[kS "_law_own" 500, kS "_law_own" 501, kS "/claim/cut.py" 502, .int 148 0, .int 5 0, .int 0 0, .int 0 0, .int 3 0, .ref 227, .bool true, .int 181 0, .ref 228, .none, .ref 229, .ref 230, .ref 231, .int 511 0, .int 148 0, kS "/claim/cut.py" 512] }) ::
  (nat_lit 233, { cls := .type "function", data := Data.func { name := Str.ofString "_law_own", qualname := Str.ofString "_law_own", params := kArgs (kSt 32), body := .stmts (kBody (kSt 32)), scope := kScope (kSt 32), globals := 3, closure := [], defaults := .none, kwdefaults := .none, pyModule := kS "law_no0237_01" 484, code := .ref 232 } }) ::
  (nat_lit 234, { cls := .type "tuple", data := Data.seq #[] }) ::
  (nat_lit 236, { cls := .type "tuple", data := Data.seq #[kS "units" 517, kS "texts" 518, kS "kind" 519, kS "at" 520, kS "length" 521, kS "value" 522, kS "serial" 523, kS "k" 524] }) ::
  (nat_lit 237, { cls := .type "tuple", data := Data.seq #[] }) ::
  (nat_lit 239, { cls := .type "code", data := Data.fields #[kS "_law_lay" 514, kS "_law_lay" 515, kS "/claim/cut.py" 516, .int 165 0, .int 7 0, .int 0 0, .int 0 0, .int 3 0, .ref 234, .bool true, .int 181 0, .ref 235, .none, .ref 236, .ref 237, .ref 238, .int 525 0, .int 165 0, kS "/claim/cut.py" 526] }) ::
  (nat_lit 240, { cls := .type "function", data := Data.func { name := Str.ofString "_law_lay", qualname := Str.ofString "_law_lay", params := kArgs (kSt 33), body := .stmts (kBody (kSt 33)), scope := kScope (kSt 33), globals := 3, closure := [], defaults := .none, kwdefaults := .none, pyModule := kS "law_no0237_01" 484, code := .ref 239 } }) ::
  (nat_lit 241, { cls := .type "tuple", data := Data.seq #[] }) ::
  (nat_lit 243, { cls := .type "tuple", data := Data.seq #[kS "memory" 531, kS "kind" 532, kS "at" 533, kS "length" 534, kS "heard" 535, kS "fault" 536] }) ::
  (nat_lit 244, { cls := .type "tuple", data := Data.seq #[] }) ::
  (nat_lit 246, { cls := .type "code", data := Data.fields #[kS "_law_load" 528, kS "_law_load" 529, kS "/claim/cut.py" 530, .int 176 0, .int 4 0, .int 0 0, .int 0 0, .int 3 0, .ref 241, .bool true, .int 181 0, .ref 242, .none, .ref 243, .ref 244, .ref 245, .int 537 0, .int 176 0, kS "/claim/cut.py" 538] }) ::
  (nat_lit 247, { cls := .type "function", data := Data.func { name := Str.ofString "_law_load", qualname := Str.ofString "_law_load", params := kArgs (kSt 34), body := .stmts (kBody (kSt 34)), scope := kScope (kSt 34), globals := 3, closure := [], defaults := .none, kwdefaults := .none, pyModule := kS "law_no0237_01" 484, code := .ref 246 } }) ::
  (nat_lit 248, { cls := .type "tuple", data := Data.seq #[] }) ::
  (nat_lit 250, { cls := .type "tuple", data := Data.seq #[kS "memory" 543, kS "kind" 544, kS "at" 545, kS "length" 546, kS "value" 547, kS "fault" 548] }) ::
  (nat_lit 251, { cls := .type "tuple", data := Data.seq #[] }) ::
  (nat_lit 253, { cls := .type "code", data := Data.fields #[kS "_law_store" 540, kS "_law_store" 541, kS "/claim/cut.py" 542, .int 187 0, .int 5 0, .int 0 0, .int 0 0, .int 3 0, .ref 248, .bool true, .int 181 0, .ref 249, .none, .ref 250, .ref 251, .ref 252, .int 549 0, .int 187 0, kS "/claim/cut.py" 550] }) ::
  (nat_lit 254, { cls := .type "function", data := Data.func { name := Str.ofString "_law_store", qualname := Str.ofString "_law_store", params := kArgs (kSt 35), body := .stmts (kBody (kSt 35)), scope := kScope (kSt 35), globals := 3, closure := [], defaults := .none, kwdefaults := .none, pyModule := kS "law_no0237_01" 484, code := .ref 253 } }) ::
  (nat_lit 255, { cls := .type "tuple", data := Data.seq #[] }) ::
  (nat_lit 257, { cls := .type "tuple", data := Data.seq #[kS "memory" 555, kS "units" 556, kS "texts" 557, kS "code" 558, kS "number" 559, kS "serial" 560, kS "kind" 561, kS "length" 562, kS "at" 563, kS "value" 564, kS "cells" 565, kS "count" 566, kS "k" 567, kS "before" 568, kS "place" 569, kS "due" 570] }) ::
  (nat_lit 258, { cls := .type "tuple", data := Data.seq #[] }) ::
  (nat_lit 260, { cls := .type "code", data := Data.fields #[kS "_law_deed" 552, kS "_law_deed" 553, kS "/claim/cut.py" 554, .int 193 0, .int 6 0, .int 0 0, .int 0 0, .int 3 0, .ref 255, .bool true, .int 181 0, .ref 256, .none, .ref 257, .ref 258, .ref 259, .int 571 0, .int 193 0, kS "/claim/cut.py" 572] }) ::
  (nat_lit 261, { cls := .type "function", data := Data.func { name := Str.ofString "_law_deed", qualname := Str.ofString "_law_deed", params := kArgs (kSt 36), body := .stmts (kBody (kSt 36)), scope := kScope (kSt 36), globals := 3, closure := [], defaults := .none, kwdefaults := .none, pyModule := kS "law_no0237_01" 484, code := .ref 260 } }) ::
  (nat_lit 262, { cls := .type "tuple", data := Data.seq #[] }) ::
  (nat_lit 264, { cls := .type "tuple", data := Data.seq #[kS "dims" 577, kS "rows" 578, kS "low" 579, kS "high" 580, kS "later" 581, kS "row" 582, kS "at" 583] }) ::
  (nat_lit 265, { cls := .type "tuple", data := Data.seq #[] }) ::
  (nat_lit 267, { cls := .type "code", data := Data.fields #[kS "_law_counted" 574, kS "_law_counted" 575, kS "/claim/cut.py" 576, .int 224 0, .int 1 0, .int 0 0, .int 0 0, .int 3 0, .ref 262, .bool true, .int 181 0, .ref 263, .none, .ref 264, .ref 265, .ref 266, .int 584 0, .int 224 0, kS "/claim/cut.py" 585] }) ::
  (nat_lit 268, { cls := .type "function", data := Data.func { name := Str.ofString "_law_counted", qualname := Str.ofString "_law_counted", params := kArgs (kSt 37), body := .stmts (kBody (kSt 37)), scope := kScope (kSt 37), globals := 3, closure := [], defaults := .none, kwdefaults := .none, pyModule := kS "law_no0237_01" 484, code := .ref 267 } }) ::
  (nat_lit 269, { cls := .type "tuple", data := Data.seq #[] }) ::
  (nat_lit 271, { cls := .type "tuple", data := Data.seq #[kS "code" 590, kS "dims" 591, kS "k" 592, kS "low" 593] }) ::
  (nat_lit 272, { cls := .type "tuple", data := Data.seq #[] }) ::
  (nat_lit 274, { cls := .type "code", data := Data.fields #[kS "_law_shapes" 587, kS "_law_shapes" 588, kS "/claim/cut.py" 589, .int 233 0, .int 1 0, .int 0 0, .int 0 0, .int 3 0, .ref 269, .bool true, .int 181 0, .ref 270, .none, .ref 271, .ref 272, .ref 273, .int 594 0, .int 233 0, kS "/claim/cut.py" 595] }) ::
  (nat_lit 275, { cls := .type "function", data := Data.func { name := Str.ofString "_law_shapes", qualname := Str.ofString "_law_shapes", params := kArgs (kSt 38), body := .stmts (kBody (kSt 38)), scope := kScope (kSt 38), globals := 3, closure := [], defaults := .none, kwdefaults := .none, pyModule := kS "law_no0237_01" 484, code := .ref 274 } }) ::
  (nat_lit 276, { cls := .type "tuple", data := Data.seq #[] }) ::
  (nat_lit 278, { cls := .type "tuple", data := Data.seq #[kS "ask" 600, kS "place" 601, kS "given" 602, kS "fault" 603] }) ::
  (nat_lit 279, { cls := .type "tuple", data := Data.seq #[] }) ::
  (nat_lit 281, { cls := .type "code", data := Data.fields #[kS "_law_asked" 597, kS "_law_asked" 598, kS "/claim/cut.py" 599, .int 239 0, .int 3 0, .int 0 0, .int 0 0, .int 3 0, .ref 276, .bool true, .int 181 0, .ref 277, .none, .ref 278, .ref 279, .ref 280, .int 604 0, .int 239 0, kS "/claim/cut.py" 605] }) ::
  (nat_lit 282, { cls := .type "function", data := Data.func { name := Str.ofString "_law_asked", qualname := Str.ofString "_law_asked", params := kArgs (kSt 39), body := .stmts (kBody (kSt 39)), scope := kScope (kSt 39), globals := 3, closure := [], defaults := .none, kwdefaults := .none, pyModule := kS "law_no0237_01" 484, code := .ref 281 } }) ::
  (nat_lit 283, { cls := .type "tuple", data := Data.seq #[] }) ::
  (nat_lit 286, { cls := .type "code", data := Data.fields #[kS "_law_arrays" 607, kS "_law_arrays" 608, kS "/claim/cut.py" 609, .int 246 0, .int 2 0, .int 0 0, .int 0 0, .int 3 0, .ref 283, .bool true, .int 181 0, .ref 284, .none, .none, .none, .ref 285, .int 610 0, .int 246 0, kS "/claim/cut.py" 611] }) ::
  (nat_lit 287, { cls := .type "function", data := Data.func { name := Str.ofString "_law_arrays", qualname := Str.ofString "_law_arrays", params := kArgs (kSt 40), body := .stmts (kBody (kSt 40)), scope := kScope (kSt 40), globals := 3, closure := [], defaults := .none, kwdefaults := .none, pyModule := kS "law_no0237_01" 484, code := .ref 286 } }) ::
  (nat_lit 288, { cls := .type "tuple", data := Data.seq #[] }) ::
  (nat_lit 290, { cls := .type "tuple", data := Data.seq #[kS "script" 616, kS "memory" 617, kS "units" 618, kS "texts" 619, kS "turn" 620, kS "at" 621, kS "kind" 622, kS "length" 623] }) ::
  (nat_lit 291, { cls := .type "tuple", data := Data.seq #[] }) ::
  (nat_lit 293, { cls := .type "code", data := Data.fields #[kS "law" 613, kS "law" 614, kS "/claim/cut.py" 615, .int 271 0, .int 1 0, .int 0 0, .int 0 0, .int 3 0, .ref 288, .bool true, .int 181 0, .ref 289, .none, .ref 290, .ref 291, .ref 292, .int 624 0, .int 271 0, kS "/claim/cut.py" 625] }) ::
  (nat_lit 294, { cls := .type "function", data := Data.func { name := Str.ofString "law", qualname := Str.ofString "law", params := kArgs (kSt 41), body := .stmts (kBody (kSt 41)), scope := kScope (kSt 41), globals := 3, closure := [], defaults := .none, kwdefaults := .none, pyModule := kS "law_no0237_01" 484, code := .ref 293 } }) :: []
noncomputable def kView : Program := { PySem.Challenge.pw_no0237_01 with main := { PySem.Challenge.pw_no0237_01.main with body := [kSt 1, kSt 2, kSt 4, kSt 5, kSt 6, kSt 7, kSt 8, kSt 10, kSt 11, kSt 12, kSt 13, kSt 14, kSt 15, kSt 16, kSt 17, kSt 18, kSt 19, kSt 20, kSt 21, kSt 22, kSt 23, kSt 24, kSt 25, kSt 26, kSt 27, kSt 28, kSt 30, kSt 31, kSt 32, kSt 33, kSt 34, kSt 35, kSt 36, kSt 37, kSt 38, kSt 39, kSt 40, kSt 41] } }
end Mine
end

section
set_option maxRecDepth 100000
set_option maxHeartbeats 0
set_option linter.all false
namespace Mine
namespace Pc
noncomputable def o_43 (P : Params) : Obj := { cls := .type "tuple", data := Data.seq #[] }
noncomputable def o_44 (P : Params) : Obj := { cls := .none, data := Data.fields #[] }
noncomputable def o_45 (P : Params) : Obj := { cls := .type "code", data := Data.fields #[kS "<module>" 182, kS "<module>" 183, kS "/claim/cut.py" 184, .int 1 0, .int 0 0, .int 0 0, .int 0 0, .int 0 0, .ref 11, .bool false, .int 181 0, .ref 12, .none, .none, .none, .none, .int 185 0, .int 1 0, kS "/claim/cut.py" 186] }
noncomputable def o_46 (P : Params) : Obj := { cls := .type "frame", slots := #[some (.ref 13), some (.ref 3), some (.ref 3), none, some (kS "__main__" 164), none, some (.ref 0)] }
noncomputable def heap_46 (P : Params) : Heap := { objs := { toList := [boot_o_0 P, boot_o_1 P, boot_o_2 P, boot_o_3 P, boot_o_4 P, boot_o_5 P, boot_o_6 P, boot_o_7 P, boot_o_8 P, boot_o_9 P, boot_o_10 P, o_43 P, o_44 P, o_45 P, o_46 P] } }
open PySem.W.BT renaming node → N, nil → Z in
noncomputable def tree_47 (P : Params) : BT := N (boot_o_0 P) (N (boot_o_1 P) (N (boot_o_3 P) (N (boot_o_7 P) Z Z) (N (o_43 P) Z Z)) (N (boot_o_5 P) (N (boot_o_9 P) Z Z) (N (o_45 P) Z Z))) (N (boot_o_2 P) (N (boot_o_4 P) (N (boot_o_8 P) Z Z) (N (o_44 P) Z Z)) (N (boot_o_6 P) (N (boot_o_10 P) Z Z) (N (o_46 P) Z Z)))
noncomputable def o_49 (P : Params) : Obj := { cls := .none, data := Data.dict #[kE P "type.__subclasses__.Exception.0" 214 (.int 31 0), kE P "type.__subclasses__.Exception.n" 215 (.int 1 0)] 2 }
noncomputable def o_50 (P : Params) : Obj := { cls := .type "dict", data := Data.dict #[kE P "__name__" 165 (kS "f77.errors" 187), kE P "__doc__" 166 .none, kE P "__package__" 167 .none, kE P "__loader__" 168 (.builtin "__main__.__loader__#opaque"), kE P "__spec__" 169 .none, kE P "__annotations__" 170 (.ref 6), kE P "__builtins__" 171 (.ref 4), kE P "__file__" 173 (kS "/claim/cut.py" 172), kE P "__cached__" 174 .none, kE P "F77Error" 217 (.ref 31)] 10 }
noncomputable def o_51 (P : Params) : Obj := { cls := .none, data := Data.fields #[.int 2 0, .int 0 0, .ref 20] }
noncomputable def o_52 (P : Params) : Obj := { cls := .type "tuple", data := Data.seq #[.type "Exception"] }
noncomputable def o_53 (P : Params) : Obj := { cls := .type "builtin_function_or_method", data := Data.fields #[.builtin "type.__prepare__", .type "type"] }
noncomputable def o_54 (P : Params) : Obj := { cls := .type "dict", data := Data.dict #[kE P "__module__" 196 (kS "f77.errors" 187), kE P "__qualname__" 198 (kS "F77Error" 197), kE P "__firstlineno__" 200 (.int 2 199), kE P "__init__" 208 (.ref 28), kE P "__static_attributes__" 210 (.ref 29)] 5 }
noncomputable def o_55 (P : Params) : Obj := { cls := .type "tuple", data := Data.seq #[] }
noncomputable def o_56 (P : Params) : Obj := { cls := .none, data := Data.fields #[.int 4 0, .int 4 0, .ref 27] }
noncomputable def o_57 (P : Params) : Obj := { cls := .type "code", data := Data.fields #[kS "F77Error" 191, kS "F77Error" 192, kS "/claim/cut.py" 193, .int 2 0, .int 0 0, .int 0 0, .int 0 0, .int 0 0, .ref 18, .bool false, .int 181 0, .ref 19, .none, .none, .none, .none, .int 194 0, .int 2 0, kS "/claim/cut.py" 195] }
noncomputable def o_58 (P : Params) : Obj := { cls := .type "frame", slots := #[some (.ref 20), some (.ref 3), some (.ref 17), none, some (kS "f77.errors" 187), none, some (.ref 0)] }
noncomputable def o_59 (P : Params) : Obj := { cls := .type "tuple", data := Data.seq #[] }
noncomputable def o_60 (P : Params) : Obj := { cls := .none, data := Data.fields #[] }
noncomputable def o_61 (P : Params) : Obj := { cls := .type "tuple", data := Data.seq #[kS "self" 204, kS "text" 205] }
noncomputable def o_62 (P : Params) : Obj := { cls := .type "tuple", data := Data.seq #[] }
noncomputable def o_63 (P : Params) : Obj := { cls := .none, data := Data.func { name := Str.ofString "__init__", qualname := Str.ofString "F77Error.__init__", params := kArgs (kIn (kSt 1) 0), body := .stmts (kBody (kIn (kSt 1) 0)), scope := kScope (kIn (kSt 1) 0), globals := 0, closure := [], defaults := .none, kwdefaults := .none } }
noncomputable def o_64 (P : Params) : Obj := { cls := .type "code", data := Data.fields #[kS "__init__" 201, kS "F77Error.__init__" 202, kS "/claim/cut.py" 203, .int 4 0, .int 2 0, .int 0 0, .int 0 0, .int 3 0, .ref 22, .bool true, .int 181 0, .ref 23, .none, .ref 24, .ref 25, .ref 26, .int 206 0, .int 4 0, kS "/claim/cut.py" 207] }
noncomputable def o_65 (P : Params) : Obj := { cls := .type "function", data := Data.func { name := Str.ofString "__init__", qualname := Str.ofString "F77Error.__init__", params := kArgs (kIn (kSt 1) 0), body := .stmts (kBody (kIn (kSt 1) 0)), scope := kScope (kIn (kSt 1) 0), globals := 3, closure := [], defaults := .none, kwdefaults := .none, pyModule := kS "f77.errors" 187, code := .ref 27 } }
noncomputable def o_66 (P : Params) : Obj := { cls := .type "tuple", data := Data.seq #[kS "text" 209] }
noncomputable def o_67 (P : Params) : Obj := { cls := .type "dict", data := Data.dict #[kE P "__module__" 196 (kS "f77.errors" 187), kE P "__firstlineno__" 200 (.int 2 199), kE P "__init__" 208 (.ref 28), kE P "__static_attributes__" 210 (.ref 29), kE P "__weakref__" 212 (.ref 32), kE P "__doc__" 213 .none] 3 }
noncomputable def o_68 (P : Params) : Obj := { cls := .type "type", data := Data.cls { name := Str.ofString "F77Error", bases := [.type "Exception"], mro := [.ref 31, .type "Exception", .type "BaseException", .type "object"], ns := 30, qualname := Str.ofString "F77Error" }, slots := #[some (.ref 15), none, some (kS "F77Error" 189), some (kS "F77Error" 197), some (.builtin "Exception.__new__"), some (.bool true)] }
noncomputable def o_69 (P : Params) : Obj := { cls := .type "getset_descriptor", data := Data.fields #[kS "__weakref__" 211, .ref 31, .builtin "ExceptionGroup.__weakref__", .none] }
noncomputable def o_70 (P : Params) : Obj := { cls := .type "super", data := Data.fields #[.ref 31, .ref 31, .ref 31] }
noncomputable def o_71 (P : Params) : Obj := { cls := .type "builtin_function_or_method", data := Data.fields #[.builtin "object.__init_subclass__", .ref 31] }
open PySem.W.BT renaming node → N, nil → Z in
noncomputable def tree_71 (P : Params) : BT := N (boot_o_0 P) (N (boot_o_1 P) (N (o_50 P) (N (boot_o_7 P) (N (o_52 P) (N (o_68 P) Z Z) Z) (N (o_60 P) Z Z)) (N (o_43 P) (N (o_56 P) Z Z) (N (o_64 P) Z Z))) (N (boot_o_5 P) (N (boot_o_9 P) (N (o_54 P) (N (o_70 P) Z Z) Z) (N (o_62 P) Z Z)) (N (o_45 P) (N (o_58 P) Z Z) (N (o_66 P) Z Z)))) (N (o_49 P) (N (boot_o_4 P) (N (boot_o_8 P) (N (o_53 P) (N (o_69 P) Z Z) Z) (N (o_61 P) Z Z)) (N (o_51 P) (N (o_57 P) Z Z) (N (o_65 P) Z Z))) (N (boot_o_6 P) (N (boot_o_10 P) (N (o_55 P) (N (o_71 P) Z Z) Z) (N (o_63 P) Z Z)) (N (o_46 P) (N (o_59 P) Z Z) (N (o_67 P) Z Z))))
noncomputable def o_72 (P : Params) : Obj := { cls := .type "dict", data := Data.dict #[kE P "__name__" 165 (kS "f77.memory" 251), kE P "__doc__" 166 .none, kE P "__package__" 167 .none, kE P "__loader__" 168 (.builtin "__main__.__loader__#opaque"), kE P "__spec__" 169 .none, kE P "__annotations__" 170 (.ref 6), kE P "__builtins__" 171 (.ref 4), kE P "__file__" 173 (kS "/claim/cut.py" 172), kE P "__cached__" 174 .none, kE P "F77Error" 217 (.ref 31), kE P "RunFault" 233 (.ref 44), kE P "REAL" 237 (.int 1 236), kE P "DOUBLE" 239 (.int 2 238), kE P "COMPLEX" 241 (.int 3 240), kE P "CHARACTER" 243 (.int 5 242), kE P "units_of" 250 (.ref 53), kE P "SECOND" 254 (.int 6 253)] 17 }
noncomputable def o_73 (P : Params) : Obj := { cls := .none, data := Data.fields #[.int 2 0, .int 0 0, .ref 20, .int 7 0, .int 0 0, .ref 40, .int 14 0, .int 0 0, .ref 52] }
noncomputable def o_74 (P : Params) : Obj := { cls := .type "type", data := Data.cls { name := Str.ofString "F77Error", bases := [.type "Exception"], mro := [.ref 31, .type "Exception", .type "BaseException", .type "object"], ns := 30, qualname := Str.ofString "F77Error", subclasses := [.ref 44] }, slots := #[some (.ref 15), none, some (kS "F77Error" 189), some (kS "F77Error" 197), some (.builtin "Exception.__new__"), some (.bool true)] }
noncomputable def o_75 (P : Params) : Obj := { cls := .type "tuple", data := Data.seq #[.ref 31] }
noncomputable def o_76 (P : Params) : Obj := { cls := .type "builtin_function_or_method", data := Data.fields #[.builtin "type.__prepare__", .type "type"] }
noncomputable def o_77 (P : Params) : Obj := { cls := .type "dict", data := Data.dict #[kE P "__module__" 225 (kS "f77.errors" 187), kE P "__qualname__" 227 (kS "RunFault" 226), kE P "__firstlineno__" 229 (.int 7 228), kE P "__static_attributes__" 230 (.ref 42)] 4 }
noncomputable def o_78 (P : Params) : Obj := { cls := .type "tuple", data := Data.seq #[] }
noncomputable def o_79 (P : Params) : Obj := { cls := .none, data := Data.fields #[] }
noncomputable def o_80 (P : Params) : Obj := { cls := .type "code", data := Data.fields #[kS "RunFault" 220, kS "RunFault" 221, kS "/claim/cut.py" 222, .int 7 0, .int 0 0, .int 0 0, .int 0 0, .int 0 0, .ref 38, .bool false, .int 181 0, .ref 39, .none, .none, .none, .none, .int 223 0, .int 7 0, kS "/claim/cut.py" 224] }
noncomputable def o_81 (P : Params) : Obj := { cls := .type "frame", slots := #[some (.ref 40), some (.ref 3), some (.ref 37), none, some (kS "f77.errors" 187), none, some (.ref 0)] }
noncomputable def o_82 (P : Params) : Obj := { cls := .type "tuple", data := Data.seq #[] }
noncomputable def o_83 (P : Params) : Obj := { cls := .type "dict", data := Data.dict #[kE P "__module__" 225 (kS "f77.errors" 187), kE P "__firstlineno__" 229 (.int 7 228), kE P "__static_attributes__" 230 (.ref 42), kE P "__doc__" 231 .none] 2 }
noncomputable def o_84 (P : Params) : Obj := { cls := .type "type", data := Data.cls { name := Str.ofString "RunFault", bases := [.ref 31], mro := [.ref 44, .ref 31, .type "Exception", .type "BaseException", .type "object"], ns := 43, qualname := Str.ofString "RunFault" }, slots := #[some (.ref 35), none, some (kS "RunFault" 218), some (kS "RunFault" 226), some (.builtin "Exception.__new__"), some (.bool true)] }
noncomputable def o_85 (P : Params) : Obj := { cls := .type "super", data := Data.fields #[.ref 44, .ref 44, .ref 44] }
noncomputable def o_86 (P : Params) : Obj := { cls := .type "builtin_function_or_method", data := Data.fields #[.builtin "object.__init_subclass__", .ref 44] }
noncomputable def o_87 (P : Params) : Obj := { cls := .type "tuple", data := Data.seq #[] }
noncomputable def o_88 (P : Params) : Obj := { cls := .none, data := Data.fields #[] }
noncomputable def o_89 (P : Params) : Obj := { cls := .type "tuple", data := Data.seq #[kS "kind" 247] }
noncomputable def o_90 (P : Params) : Obj := { cls := .type "tuple", data := Data.seq #[] }
noncomputable def o_91 (P : Params) : Obj := { cls := .none, data := Data.func { name := Str.ofString "units_of", qualname := Str.ofString "units_of", params := kArgs (kSt 8), body := .stmts (kBody (kSt 8)), scope := kScope (kSt 8), globals := 0, closure := [], defaults := .none, kwdefaults := .none } }
noncomputable def o_92 (P : Params) : Obj := { cls := .type "code", data := Data.fields #[kS "units_of" 244, kS "units_of" 245, kS "/claim/cut.py" 246, .int 14 0, .int 1 0, .int 0 0, .int 0 0, .int 3 0, .ref 47, .bool true, .int 181 0, .ref 48, .none, .ref 49, .ref 50, .ref 51, .int 248 0, .int 14 0, kS "/claim/cut.py" 249] }
noncomputable def o_93 (P : Params) : Obj := { cls := .type "function", data := Data.func { name := Str.ofString "units_of", qualname := Str.ofString "units_of", params := kArgs (kSt 8), body := .stmts (kBody (kSt 8)), scope := kScope (kSt 8), globals := 3, closure := [], defaults := .none, kwdefaults := .none, pyModule := kS "f77.kinds" 234, code := .ref 52 } }
open PySem.W.BT renaming node → N, nil → Z in
noncomputable def tree_93 (P : Params) : BT := N (boot_o_0 P) (N (boot_o_1 P) (N (o_72 P) (N (boot_o_7 P) (N (o_52 P) (N (o_74 P) Z Z) (N (o_87 P) Z Z)) (N (o_60 P) (N (o_79 P) Z Z) Z)) (N (o_43 P) (N (o_56 P) (N (o_75 P) Z Z) (N (o_91 P) Z Z)) (N (o_64 P) (N (o_83 P) Z Z) Z))) (N (boot_o_5 P) (N (boot_o_9 P) (N (o_54 P) (N (o_70 P) Z Z) (N (o_89 P) Z Z)) (N (o_62 P) (N (o_81 P) Z Z) Z)) (N (o_45 P) (N (o_58 P) (N (o_77 P) Z Z) (N (o_93 P) Z Z)) (N (o_66 P) (N (o_85 P) Z Z) Z)))) (N (o_49 P) (N (boot_o_4 P) (N (boot_o_8 P) (N (o_53 P) (N (o_69 P) Z Z) (N (o_88 P) Z Z)) (N (o_61 P) (N (o_80 P) Z Z) Z)) (N (o_73 P) (N (o_57 P) (N (o_76 P) Z Z) (N (o_92 P) Z Z)) (N (o_65 P) (N (o_84 P) Z Z) Z))) (N (boot_o_6 P) (N (boot_o_10 P) (N (o_55 P) (N (o_71 P) Z Z) (N (o_90 P) Z Z)) (N (o_63 P) (N (o_82 P) Z Z) Z)) (N (o_46 P) (N (o_59 P) (N (o_78 P) Z Z) Z) (N (o_67 P) (N (o_86 P) Z Z) Z))))
noncomputable def o_94 (P : Params) : Obj := { cls := .type "dict", data := Data.dict #[kE P "__name__" 165 (kS "f77.memory" 251), kE P "__doc__" 166 .none, kE P "__package__" 167 .none, kE P "__loader__" 168 (.builtin "__main__.__loader__#opaque"), kE P "__spec__" 169 .none, kE P "__annotations__" 170 (.ref 6), kE P "__builtins__" 171 (.ref 4), kE P "__file__" 173 (kS "/claim/cut.py" 172), kE P "__cached__" 174 .none, kE P "F77Error" 217 (.ref 31), kE P "RunFault" 233 (.ref 44), kE P "REAL" 237 (.int 1 236), kE P "DOUBLE" 239 (.int 2 238), kE P "COMPLEX" 241 (.int 3 240), kE P "CHARACTER" 243 (.int 5 242), kE P "units_of" 250 (.ref 53), kE P "SECOND" 254 (.int 6 253), kE P "Memory" 313 (.ref 91), kE P "need_units" 322 (.ref 102), kE P "read_cell" 332 (.ref 109)] 20 }
noncomputable def o_95 (P : Params) : Obj := { cls := .none, data := Data.fields #[.int 2 0, .int 0 0, .ref 20, .int 7 0, .int 0 0, .ref 40, .int 14 0, .int 0 0, .ref 52, .int 22 0, .int 0 0, .ref 59, .int 42 0, .int 0 0, .ref 101, .int 45 0, .int 0 0, .ref 108] }
noncomputable def o_96 (P : Params) : Obj := { cls := .type "tuple", data := Data.seq #[] }
noncomputable def o_97 (P : Params) : Obj := { cls := .type "builtin_function_or_method", data := Data.fields #[.builtin "type.__prepare__", .type "type"] }
noncomputable def o_98 (P : Params) : Obj := { cls := .type "dict", data := Data.dict #[kE P "__module__" 262 (kS "f77.memory" 251), kE P "__qualname__" 264 (kS "Memory" 263), kE P "__firstlineno__" 266 (.int 22 265), kE P "__init__" 275 (.ref 67), kE P "load" 283 (.ref 74), kE P "store" 292 (.ref 81), kE P "undefine" 303 (.ref 88), kE P "__static_attributes__" 306 (.ref 89)] 8 }
noncomputable def o_99 (P : Params) : Obj := { cls := .type "tuple", data := Data.seq #[] }
noncomputable def o_100 (P : Params) : Obj := { cls := .none, data := Data.fields #[.int 24 0, .int 4 0, .ref 66, .int 28 0, .int 4 0, .ref 73, .int 33 0, .int 4 0, .ref 80, .int 39 0, .int 4 0, .ref 87] }
noncomputable def o_101 (P : Params) : Obj := { cls := .type "code", data := Data.fields #[kS "Memory" 257, kS "Memory" 258, kS "/claim/cut.py" 259, .int 22 0, .int 0 0, .int 0 0, .int 0 0, .int 0 0, .ref 57, .bool false, .int 181 0, .ref 58, .none, .none, .none, .none, .int 260 0, .int 22 0, kS "/claim/cut.py" 261] }
noncomputable def o_102 (P : Params) : Obj := { cls := .type "frame", slots := #[some (.ref 59), some (.ref 3), some (.ref 56), none, some (kS "f77.memory" 251), none, some (.ref 0)] }
noncomputable def o_103 (P : Params) : Obj := { cls := .type "tuple", data := Data.seq #[] }
noncomputable def o_104 (P : Params) : Obj := { cls := .none, data := Data.fields #[] }
noncomputable def o_105 (P : Params) : Obj := { cls := .type "tuple", data := Data.seq #[kS "self" 270, kS "numeric" 271, kS "characters" 272] }
noncomputable def o_106 (P : Params) : Obj := { cls := .type "tuple", data := Data.seq #[] }
noncomputable def o_107 (P : Params) : Obj := { cls := .none, data := Data.func { name := Str.ofString "__init__", qualname := Str.ofString "Memory.__init__", params := kArgs (kIn (kSt 11) 0), body := .stmts (kBody (kIn (kSt 11) 0)), scope := kScope (kIn (kSt 11) 0), globals := 0, closure := [], defaults := .none, kwdefaults := .none } }
noncomputable def o_108 (P : Params) : Obj := { cls := .type "code", data := Data.fields #[kS "__init__" 267, kS "Memory.__init__" 268, kS "/claim/cut.py" 269, .int 24 0, .int 3 0, .int 0 0, .int 0 0, .int 3 0, .ref 61, .bool true, .int 181 0, .ref 62, .none, .ref 63, .ref 64, .ref 65, .int 273 0, .int 24 0, kS "/claim/cut.py" 274] }
noncomputable def o_109 (P : Params) : Obj := { cls := .type "function", data := Data.func { name := Str.ofString "__init__", qualname := Str.ofString "Memory.__init__", params := kArgs (kIn (kSt 11) 0), body := .stmts (kBody (kIn (kSt 11) 0)), scope := kScope (kIn (kSt 11) 0), globals := 3, closure := [], defaults := .none, kwdefaults := .none, pyModule := kS "f77.memory" 251, code := .ref 66 } }
noncomputable def o_110 (P : Params) : Obj := { cls := .type "tuple", data := Data.seq #[] }
noncomputable def o_111 (P : Params) : Obj := { cls := .none, data := Data.fields #[] }
noncomputable def o_112 (P : Params) : Obj := { cls := .type "tuple", data := Data.seq #[kS "self" 279, kS "place" 280] }
noncomputable def o_113 (P : Params) : Obj := { cls := .type "tuple", data := Data.seq #[] }
noncomputable def o_114 (P : Params) : Obj := { cls := .none, data := Data.func { name := Str.ofString "load", qualname := Str.ofString "Memory.load", params := kArgs (kIn (kSt 11) 1), body := .stmts (kBody (kIn (kSt 11) 1)), scope := kScope (kIn (kSt 11) 1), globals := 0, closure := [], defaults := .none, kwdefaults := .none } }
noncomputable def o_115 (P : Params) : Obj := { cls := .type "code", data := Data.fields #[kS "load" 276, kS "Memory.load" 277, kS "/claim/cut.py" 278, .int 28 0, .int 2 0, .int 0 0, .int 0 0, .int 3 0, .ref 68, .bool true, .int 181 0, .ref 69, .none, .ref 70, .ref 71, .ref 72, .int 281 0, .int 28 0, kS "/claim/cut.py" 282] }
noncomputable def o_116 (P : Params) : Obj := { cls := .type "function", data := Data.func { name := Str.ofString "load", qualname := Str.ofString "Memory.load", params := kArgs (kIn (kSt 11) 1), body := .stmts (kBody (kIn (kSt 11) 1)), scope := kScope (kIn (kSt 11) 1), globals := 3, closure := [], defaults := .none, kwdefaults := .none, pyModule := kS "f77.memory" 251, code := .ref 73 } }
noncomputable def o_117 (P : Params) : Obj := { cls := .type "tuple", data := Data.seq #[] }
noncomputable def o_118 (P : Params) : Obj := { cls := .none, data := Data.fields #[] }
noncomputable def o_119 (P : Params) : Obj := { cls := .type "tuple", data := Data.seq #[kS "self" 287, kS "place" 288, kS "value" 289] }
noncomputable def o_120 (P : Params) : Obj := { cls := .type "tuple", data := Data.seq #[] }
noncomputable def o_121 (P : Params) : Obj := { cls := .none, data := Data.func { name := Str.ofString "store", qualname := Str.ofString "Memory.store", params := kArgs (kIn (kSt 11) 2), body := .stmts (kBody (kIn (kSt 11) 2)), scope := kScope (kIn (kSt 11) 2), globals := 0, closure := [], defaults := .none, kwdefaults := .none } }
noncomputable def o_122 (P : Params) : Obj := { cls := .type "code", data := Data.fields #[kS "store" 284, kS "Memory.store" 285, kS "/claim/cut.py" 286, .int 33 0, .int 3 0, .int 0 0, .int 0 0, .int 3 0, .ref 75, .bool true, .int 181 0, .ref 76, .none, .ref 77, .ref 78, .ref 79, .int 290 0, .int 33 0, kS "/claim/cut.py" 291] }
noncomputable def o_123 (P : Params) : Obj := { cls := .type "function", data := Data.func { name := Str.ofString "store", qualname := Str.ofString "Memory.store", params := kArgs (kIn (kSt 11) 2), body := .stmts (kBody (kIn (kSt 11) 2)), scope := kScope (kIn (kSt 11) 2), globals := 3, closure := [], defaults := .none, kwdefaults := .none, pyModule := kS "f77.memory" 251, code := .ref 80 } }
noncomputable def o_124 (P : Params) : Obj := { cls := .type "tuple", data := Data.seq #[] }
noncomputable def o_125 (P : Params) : Obj := { cls := .none, data := Data.fields #[] }
noncomputable def o_126 (P : Params) : Obj := { cls := .type "tuple", data := Data.seq #[kS "self" 296, kS "place" 297, kS "is_character" 298, kS "low" 299, kS "high" 300] }
noncomputable def o_127 (P : Params) : Obj := { cls := .type "tuple", data := Data.seq #[] }
noncomputable def o_128 (P : Params) : Obj := { cls := .none, data := Data.func { name := Str.ofString "undefine", qualname := Str.ofString "Memory.undefine", params := kArgs (kIn (kSt 11) 3), body := .stmts (kBody (kIn (kSt 11) 3)), scope := kScope (kIn (kSt 11) 3), globals := 0, closure := [], defaults := .none, kwdefaults := .none } }
noncomputable def o_129 (P : Params) : Obj := { cls := .type "code", data := Data.fields #[kS "undefine" 293, kS "Memory.undefine" 294, kS "/claim/cut.py" 295, .int 39 0, .int 2 0, .int 0 0, .int 0 0, .int 3 0, .ref 82, .bool true, .int 181 0, .ref 83, .none, .ref 84, .ref 85, .ref 86, .int 301 0, .int 39 0, kS "/claim/cut.py" 302] }
noncomputable def o_130 (P : Params) : Obj := { cls := .type "function", data := Data.func { name := Str.ofString "undefine", qualname := Str.ofString "Memory.undefine", params := kArgs (kIn (kSt 11) 3), body := .stmts (kBody (kIn (kSt 11) 3)), scope := kScope (kIn (kSt 11) 3), globals := 3, closure := [], defaults := .none, kwdefaults := .none, pyModule := kS "f77.memory" 251, code := .ref 87 } }
noncomputable def o_131 (P : Params) : Obj := { cls := .type "tuple", data := Data.seq #[kS "characters" 304, kS "numeric" 305] }
noncomputable def o_132 (P : Params) : Obj := { cls := .type "dict", data := Data.dict #[kE P "__module__" 262 (kS "f77.memory" 251), kE P "__firstlineno__" 266 (.int 22 265), kE P "__init__" 275 (.ref 67), kE P "load" 283 (.ref 74), kE P "store" 292 (.ref 81), kE P "undefine" 303 (.ref 88), kE P "__static_attributes__" 306 (.ref 89), kE P "__dict__" 308 (.ref 92), kE P "__weakref__" 310 (.ref 93), kE P "__doc__" 311 .none] 4 }
noncomputable def o_133 (P : Params) : Obj := { cls := .type "type", data := Data.cls { name := Str.ofString "Memory", bases := [.type "object"], mro := [.ref 91, .type "object"], ns := 90, qualname := Str.ofString "Memory" }, slots := #[none, none, some (kS "Memory" 255), some (kS "Memory" 263), some (.builtin "object.__new__"), some (.bool true)] }
noncomputable def o_134 (P : Params) : Obj := { cls := .type "getset_descriptor", data := Data.fields #[kS "__dict__" 307, .ref 91, .builtin "function.__dict__", .builtin "function.__dict__#set"] }
noncomputable def o_135 (P : Params) : Obj := { cls := .type "getset_descriptor", data := Data.fields #[kS "__weakref__" 309, .ref 91, .builtin "ExceptionGroup.__weakref__", .none] }
noncomputable def o_136 (P : Params) : Obj := { cls := .type "super", data := Data.fields #[.ref 91, .ref 91, .ref 91] }
noncomputable def o_137 (P : Params) : Obj := { cls := .type "builtin_function_or_method", data := Data.fields #[.builtin "object.__init_subclass__", .ref 91] }
noncomputable def o_138 (P : Params) : Obj := { cls := .type "tuple", data := Data.seq #[] }
noncomputable def o_139 (P : Params) : Obj := { cls := .none, data := Data.fields #[] }
noncomputable def o_140 (P : Params) : Obj := { cls := .type "tuple", data := Data.seq #[kS "cells" 317, kS "address" 318, kS "count" 319] }
noncomputable def o_141 (P : Params) : Obj := { cls := .type "tuple", data := Data.seq #[] }
noncomputable def o_142 (P : Params) : Obj := { cls := .none, data := Data.func { name := Str.ofString "need_units", qualname := Str.ofString "need_units", params := kArgs (kSt 12), body := .stmts (kBody (kSt 12)), scope := kScope (kSt 12), globals := 0, closure := [], defaults := .none, kwdefaults := .none } }
noncomputable def o_143 (P : Params) : Obj := { cls := .type "code", data := Data.fields #[kS "need_units" 314, kS "need_units" 315, kS "/claim/cut.py" 316, .int 42 0, .int 3 0, .int 0 0, .int 0 0, .int 3 0, .ref 96, .bool true, .int 181 0, .ref 97, .none, .ref 98, .ref 99, .ref 100, .int 320 0, .int 42 0, kS "/claim/cut.py" 321] }
noncomputable def o_144 (P : Params) : Obj := { cls := .type "function", data := Data.func { name := Str.ofString "need_units", qualname := Str.ofString "need_units", params := kArgs (kSt 12), body := .stmts (kBody (kSt 12)), scope := kScope (kSt 12), globals := 3, closure := [], defaults := .none, kwdefaults := .none, pyModule := kS "f77.memory" 251, code := .ref 101 } }
noncomputable def o_145 (P : Params) : Obj := { cls := .type "tuple", data := Data.seq #[] }
noncomputable def o_146 (P : Params) : Obj := { cls := .none, data := Data.fields #[] }
noncomputable def o_147 (P : Params) : Obj := { cls := .type "tuple", data := Data.seq #[kS "cells" 326, kS "address" 327, kS "tag" 328, kS "cell" 329] }
noncomputable def o_148 (P : Params) : Obj := { cls := .type "tuple", data := Data.seq #[] }
noncomputable def o_149 (P : Params) : Obj := { cls := .none, data := Data.func { name := Str.ofString "read_cell", qualname := Str.ofString "read_cell", params := kArgs (kSt 13), body := .stmts (kBody (kSt 13)), scope := kScope (kSt 13), globals := 0, closure := [], defaults := .none, kwdefaults := .none } }
noncomputable def o_150 (P : Params) : Obj := { cls := .type "code", data := Data.fields #[kS "read_cell" 323, kS "read_cell" 324, kS "/claim/cut.py" 325, .int 45 0, .int 3 0, .int 0 0, .int 0 0, .int 3 0, .ref 103, .bool true, .int 181 0, .ref 104, .none, .ref 105, .ref 106, .ref 107, .int 330 0, .int 45 0, kS "/claim/cut.py" 331] }
noncomputable def o_151 (P : Params) : Obj := { cls := .type "function", data := Data.func { name := Str.ofString "read_cell", qualname := Str.ofString "read_cell", params := kArgs (kSt 13), body := .stmts (kBody (kSt 13)), scope := kScope (kSt 13), globals := 3, closure := [], defaults := .none, kwdefaults := .none, pyModule := kS "f77.memory" 251, code := .ref 108 } }
open PySem.W.BT renaming node → N, nil → Z in
noncomputable def tree_151 (P : Params) : BT := N (boot_o_0 P) (N (boot_o_1 P) (N (o_94 P) (N (boot_o_7 P) (N (o_52 P) (N (o_74 P) (N (o_105 P) Z Z) (N (o_137 P) Z Z)) (N (o_87 P) (N (o_121 P) Z Z) Z)) (N (o_60 P) (N (o_79 P) (N (o_113 P) Z Z) (N (o_145 P) Z Z)) (N (o_97 P) (N (o_129 P) Z Z) Z))) (N (o_43 P) (N (o_56 P) (N (o_75 P) (N (o_109 P) Z Z) (N (o_141 P) Z Z)) (N (o_91 P) (N (o_125 P) Z Z) Z)) (N (o_64 P) (N (o_83 P) (N (o_117 P) Z Z) (N (o_149 P) Z Z)) (N (o_101 P) (N (o_133 P) Z Z) Z)))) (N (boot_o_5 P) (N (boot_o_9 P) (N (o_54 P) (N (o_70 P) (N (o_107 P) Z Z) (N (o_139 P) Z Z)) (N (o_89 P) (N (o_123 P) Z Z) Z)) (N (o_62 P) (N (o_81 P) (N (o_115 P) Z Z) (N (o_147 P) Z Z)) (N (o_99 P) (N (o_131 P) Z Z) Z))) (N (o_45 P) (N (o_58 P) (N (o_77 P) (N (o_111 P) Z Z) (N (o_143 P) Z Z)) (N (o_93 P) (N (o_127 P) Z Z) Z)) (N (o_66 P) (N (o_85 P) (N (o_119 P) Z Z) (N (o_151 P) Z Z)) (N (o_103 P) (N (o_135 P) Z Z) Z))))) (N (o_49 P) (N (boot_o_4 P) (N (boot_o_8 P) (N (o_53 P) (N (o_69 P) (N (o_106 P) Z Z) (N (o_138 P) Z Z)) (N (o_88 P) (N (o_122 P) Z Z) Z)) (N (o_61 P) (N (o_80 P) (N (o_114 P) Z Z) (N (o_146 P) Z Z)) (N (o_98 P) (N (o_130 P) Z Z) Z))) (N (o_95 P) (N (o_57 P) (N (o_76 P) (N (o_110 P) Z Z) (N (o_142 P) Z Z)) (N (o_92 P) (N (o_126 P) Z Z) Z)) (N (o_65 P) (N (o_84 P) (N (o_118 P) Z Z) (N (o_150 P) Z Z)) (N (o_102 P) (N (o_134 P) Z Z) Z)))) (N (boot_o_6 P) (N (boot_o_10 P) (N (o_55 P) (N (o_71 P) (N (o_108 P) Z Z) (N (o_140 P) Z Z)) (N (o_90 P) (N (o_124 P) Z Z) Z)) (N (o_63 P) (N (o_82 P) (N (o_116 P) Z Z) (N (o_148 P) Z Z)) (N (o_100 P) (N (o_132 P) Z Z) Z))) (N (o_46 P) (N (o_59 P) (N (o_78 P) (N (o_112 P) Z Z) (N (o_144 P) Z Z)) (N (o_96 P) (N (o_128 P) Z Z) Z)) (N (o_67 P) (N (o_86 P) (N (o_120 P) Z Z) Z) (N (o_104 P) (N (o_136 P) Z Z) Z)))))
noncomputable def o_152 (P : Params) : Obj := { cls := .type "dict", data := Data.dict #[kE P "__name__" 165 (kS "f77.memory" 251), kE P "__doc__" 166 .none, kE P "__package__" 167 .none, kE P "__loader__" 168 (.builtin "__main__.__loader__#opaque"), kE P "__spec__" 169 .none, kE P "__annotations__" 170 (.ref 6), kE P "__builtins__" 171 (.ref 4), kE P "__file__" 173 (kS "/claim/cut.py" 172), kE P "__cached__" 174 .none, kE P "F77Error" 217 (.ref 31), kE P "RunFault" 233 (.ref 44), kE P "REAL" 237 (.int 1 236), kE P "DOUBLE" 239 (.int 2 238), kE P "COMPLEX" 241 (.int 3 240), kE P "CHARACTER" 243 (.int 5 242), kE P "units_of" 250 (.ref 53), kE P "SECOND" 254 (.int 6 253), kE P "Memory" 313 (.ref 91), kE P "need_units" 322 (.ref 102), kE P "read_cell" 332 (.ref 109), kE P "load_number" 342 (.ref 116), kE P "store_number" 352 (.ref 123), kE P "load_text" 362 (.ref 130), kE P "store_text" 372 (.ref 137), kE P "pad" 380 (.ref 144), kE P "unit_size" 388 (.ref 151), kE P "extent" 398 (.ref 158), kE P "element_place" 415 (.ref 165), kE P "sub_place" 426 (.ref 172), kE P "elements_of" 432 (.ref 177), kE P "span_of" 444 (.ref 184), kE P "undefine_cells" 456 (.ref 191)] 32 }
noncomputable def o_153 (P : Params) : Obj := { cls := .none, data := Data.fields #[.int 2 0, .int 0 0, .ref 20, .int 7 0, .int 0 0, .ref 40, .int 14 0, .int 0 0, .ref 52, .int 22 0, .int 0 0, .ref 59, .int 42 0, .int 0 0, .ref 101, .int 45 0, .int 0 0, .ref 108, .int 50 0, .int 0 0, .ref 115, .int 58 0, .int 0 0, .ref 122, .int 67 0, .int 0 0, .ref 129, .int 73 0, .int 0 0, .ref 136, .int 77 0, .int 0 0, .ref 143, .int 79 0, .int 0 0, .ref 150, .int 83 0, .int 0 0, .ref 157, .int 90 0, .int 0 0, .ref 164, .int 104 0, .int 0 0, .ref 171, .int 110 0, .int 0 0, .ref 176, .int 117 0, .int 0 0, .ref 183, .int 123 0, .int 0 0, .ref 190] }
noncomputable def o_154 (P : Params) : Obj := { cls := .type "tuple", data := Data.seq #[] }
noncomputable def o_155 (P : Params) : Obj := { cls := .none, data := Data.fields #[] }
noncomputable def o_156 (P : Params) : Obj := { cls := .type "tuple", data := Data.seq #[kS "cells" 336, kS "kind" 337, kS "address" 338, kS "value" 339] }
noncomputable def o_157 (P : Params) : Obj := { cls := .type "tuple", data := Data.seq #[] }
noncomputable def o_158 (P : Params) : Obj := { cls := .none, data := Data.func { name := Str.ofString "load_number", qualname := Str.ofString "load_number", params := kArgs (kSt 14), body := .stmts (kBody (kSt 14)), scope := kScope (kSt 14), globals := 0, closure := [], defaults := .none, kwdefaults := .none } }
noncomputable def o_159 (P : Params) : Obj := { cls := .type "code", data := Data.fields #[kS "load_number" 333, kS "load_number" 334, kS "/claim/cut.py" 335, .int 50 0, .int 3 0, .int 0 0, .int 0 0, .int 3 0, .ref 110, .bool true, .int 181 0, .ref 111, .none, .ref 112, .ref 113, .ref 114, .int 340 0, .int 50 0, kS "/claim/cut.py" 341] }
noncomputable def o_160 (P : Params) : Obj := { cls := .type "function", data := Data.func { name := Str.ofString "load_number", qualname := Str.ofString "load_number", params := kArgs (kSt 14), body := .stmts (kBody (kSt 14)), scope := kScope (kSt 14), globals := 3, closure := [], defaults := .none, kwdefaults := .none, pyModule := kS "f77.memory" 251, code := .ref 115 } }
noncomputable def o_161 (P : Params) : Obj := { cls := .type "tuple", data := Data.seq #[] }
noncomputable def o_162 (P : Params) : Obj := { cls := .none, data := Data.fields #[] }
noncomputable def o_163 (P : Params) : Obj := { cls := .type "tuple", data := Data.seq #[kS "cells" 346, kS "kind" 347, kS "address" 348, kS "value" 349] }
noncomputable def o_164 (P : Params) : Obj := { cls := .type "tuple", data := Data.seq #[] }
noncomputable def o_165 (P : Params) : Obj := { cls := .none, data := Data.func { name := Str.ofString "store_number", qualname := Str.ofString "store_number", params := kArgs (kSt 15), body := .stmts (kBody (kSt 15)), scope := kScope (kSt 15), globals := 0, closure := [], defaults := .none, kwdefaults := .none } }
noncomputable def o_166 (P : Params) : Obj := { cls := .type "code", data := Data.fields #[kS "store_number" 343, kS "store_number" 344, kS "/claim/cut.py" 345, .int 58 0, .int 4 0, .int 0 0, .int 0 0, .int 3 0, .ref 117, .bool true, .int 181 0, .ref 118, .none, .ref 119, .ref 120, .ref 121, .int 350 0, .int 58 0, kS "/claim/cut.py" 351] }
noncomputable def o_167 (P : Params) : Obj := { cls := .type "function", data := Data.func { name := Str.ofString "store_number", qualname := Str.ofString "store_number", params := kArgs (kSt 15), body := .stmts (kBody (kSt 15)), scope := kScope (kSt 15), globals := 3, closure := [], defaults := .none, kwdefaults := .none, pyModule := kS "f77.memory" 251, code := .ref 122 } }
noncomputable def o_168 (P : Params) : Obj := { cls := .type "tuple", data := Data.seq #[] }
noncomputable def o_169 (P : Params) : Obj := { cls := .none, data := Data.fields #[] }
noncomputable def o_170 (P : Params) : Obj := { cls := .type "tuple", data := Data.seq #[kS "cells" 356, kS "address" 357, kS "length" 358, kS "signs" 359] }
noncomputable def o_171 (P : Params) : Obj := { cls := .type "tuple", data := Data.seq #[] }
noncomputable def o_172 (P : Params) : Obj := { cls := .none, data := Data.func { name := Str.ofString "load_text", qualname := Str.ofString "load_text", params := kArgs (kSt 16), body := .stmts (kBody (kSt 16)), scope := kScope (kSt 16), globals := 0, closure := [], defaults := .none, kwdefaults := .none } }
noncomputable def o_173 (P : Params) : Obj := { cls := .type "code", data := Data.fields #[kS "load_text" 353, kS "load_text" 354, kS "/claim/cut.py" 355, .int 67 0, .int 3 0, .int 0 0, .int 0 0, .int 3 0, .ref 124, .bool true, .int 181 0, .ref 125, .none, .ref 126, .ref 127, .ref 128, .int 360 0, .int 67 0, kS "/claim/cut.py" 361] }
noncomputable def o_174 (P : Params) : Obj := { cls := .type "function", data := Data.func { name := Str.ofString "load_text", qualname := Str.ofString "load_text", params := kArgs (kSt 16), body := .stmts (kBody (kSt 16)), scope := kScope (kSt 16), globals := 3, closure := [], defaults := .none, kwdefaults := .none, pyModule := kS "f77.memory" 251, code := .ref 129 } }
noncomputable def o_175 (P : Params) : Obj := { cls := .type "tuple", data := Data.seq #[] }
noncomputable def o_176 (P : Params) : Obj := { cls := .none, data := Data.fields #[] }
noncomputable def o_177 (P : Params) : Obj := { cls := .type "tuple", data := Data.seq #[kS "cells" 366, kS "address" 367, kS "text" 368, kS "k" 369] }
noncomputable def o_178 (P : Params) : Obj := { cls := .type "tuple", data := Data.seq #[] }
noncomputable def o_179 (P : Params) : Obj := { cls := .none, data := Data.func { name := Str.ofString "store_text", qualname := Str.ofString "store_text", params := kArgs (kSt 17), body := .stmts (kBody (kSt 17)), scope := kScope (kSt 17), globals := 0, closure := [], defaults := .none, kwdefaults := .none } }
noncomputable def o_180 (P : Params) : Obj := { cls := .type "code", data := Data.fields #[kS "store_text" 363, kS "store_text" 364, kS "/claim/cut.py" 365, .int 73 0, .int 3 0, .int 0 0, .int 0 0, .int 3 0, .ref 131, .bool true, .int 181 0, .ref 132, .none, .ref 133, .ref 134, .ref 135, .int 370 0, .int 73 0, kS "/claim/cut.py" 371] }
noncomputable def o_181 (P : Params) : Obj := { cls := .type "function", data := Data.func { name := Str.ofString "store_text", qualname := Str.ofString "store_text", params := kArgs (kSt 17), body := .stmts (kBody (kSt 17)), scope := kScope (kSt 17), globals := 3, closure := [], defaults := .none, kwdefaults := .none, pyModule := kS "f77.memory" 251, code := .ref 136 } }
noncomputable def o_182 (P : Params) : Obj := { cls := .type "tuple", data := Data.seq #[] }
noncomputable def o_183 (P : Params) : Obj := { cls := .none, data := Data.fields #[] }
noncomputable def o_184 (P : Params) : Obj := { cls := .type "tuple", data := Data.seq #[kS "text" 376, kS "length" 377] }
noncomputable def o_185 (P : Params) : Obj := { cls := .type "tuple", data := Data.seq #[] }
noncomputable def o_186 (P : Params) : Obj := { cls := .none, data := Data.func { name := Str.ofString "pad", qualname := Str.ofString "pad", params := kArgs (kSt 18), body := .stmts (kBody (kSt 18)), scope := kScope (kSt 18), globals := 0, closure := [], defaults := .none, kwdefaults := .none } }
noncomputable def o_187 (P : Params) : Obj := { cls := .type "code", data := Data.fields #[kS "pad" 373, kS "pad" 374, kS "/claim/cut.py" 375, .int 77 0, .int 2 0, .int 0 0, .int 0 0, .int 3 0, .ref 138, .bool true, .int 181 0, .ref 139, .none, .ref 140, .ref 141, .ref 142, .int 378 0, .int 77 0, kS "/claim/cut.py" 379] }
noncomputable def o_188 (P : Params) : Obj := { cls := .type "function", data := Data.func { name := Str.ofString "pad", qualname := Str.ofString "pad", params := kArgs (kSt 18), body := .stmts (kBody (kSt 18)), scope := kScope (kSt 18), globals := 3, closure := [], defaults := .none, kwdefaults := .none, pyModule := kS "f77.memory" 251, code := .ref 143 } }
noncomputable def o_189 (P : Params) : Obj := { cls := .type "tuple", data := Data.seq #[] }
noncomputable def o_190 (P : Params) : Obj := { cls := .none, data := Data.fields #[] }
noncomputable def o_191 (P : Params) : Obj := { cls := .type "tuple", data := Data.seq #[kS "kind" 384, kS "length" 385] }
noncomputable def o_192 (P : Params) : Obj := { cls := .type "tuple", data := Data.seq #[] }
noncomputable def o_193 (P : Params) : Obj := { cls := .none, data := Data.func { name := Str.ofString "unit_size", qualname := Str.ofString "unit_size", params := kArgs (kSt 19), body := .stmts (kBody (kSt 19)), scope := kScope (kSt 19), globals := 0, closure := [], defaults := .none, kwdefaults := .none } }
noncomputable def o_194 (P : Params) : Obj := { cls := .type "code", data := Data.fields #[kS "unit_size" 381, kS "unit_size" 382, kS "/claim/cut.py" 383, .int 79 0, .int 2 0, .int 0 0, .int 0 0, .int 3 0, .ref 145, .bool true, .int 181 0, .ref 146, .none, .ref 147, .ref 148, .ref 149, .int 386 0, .int 79 0, kS "/claim/cut.py" 387] }
noncomputable def o_195 (P : Params) : Obj := { cls := .type "function", data := Data.func { name := Str.ofString "unit_size", qualname := Str.ofString "unit_size", params := kArgs (kSt 19), body := .stmts (kBody (kSt 19)), scope := kScope (kSt 19), globals := 3, closure := [], defaults := .none, kwdefaults := .none, pyModule := kS "f77.memory" 251, code := .ref 150 } }
noncomputable def o_196 (P : Params) : Obj := { cls := .type "tuple", data := Data.seq #[] }
noncomputable def o_197 (P : Params) : Obj := { cls := .none, data := Data.fields #[] }
noncomputable def o_198 (P : Params) : Obj := { cls := .type "tuple", data := Data.seq #[kS "dims" 392, kS "count" 393, kS "low" 394, kS "high" 395] }
noncomputable def o_199 (P : Params) : Obj := { cls := .type "tuple", data := Data.seq #[] }
noncomputable def o_200 (P : Params) : Obj := { cls := .none, data := Data.func { name := Str.ofString "extent", qualname := Str.ofString "extent", params := kArgs (kSt 20), body := .stmts (kBody (kSt 20)), scope := kScope (kSt 20), globals := 0, closure := [], defaults := .none, kwdefaults := .none } }
noncomputable def o_201 (P : Params) : Obj := { cls := .type "code", data := Data.fields #[kS "extent" 389, kS "extent" 390, kS "/claim/cut.py" 391, .int 83 0, .int 1 0, .int 0 0, .int 0 0, .int 3 0, .ref 152, .bool true, .int 181 0, .ref 153, .none, .ref 154, .ref 155, .ref 156, .int 396 0, .int 83 0, kS "/claim/cut.py" 397] }
noncomputable def o_202 (P : Params) : Obj := { cls := .type "function", data := Data.func { name := Str.ofString "extent", qualname := Str.ofString "extent", params := kArgs (kSt 20), body := .stmts (kBody (kSt 20)), scope := kScope (kSt 20), globals := 3, closure := [], defaults := .none, kwdefaults := .none, pyModule := kS "f77.memory" 251, code := .ref 157 } }
noncomputable def o_203 (P : Params) : Obj := { cls := .type "tuple", data := Data.seq #[] }
noncomputable def o_204 (P : Params) : Obj := { cls := .none, data := Data.fields #[] }
noncomputable def o_205 (P : Params) : Obj := { cls := .type "tuple", data := Data.seq #[kS "place" 402, kS "subscripts" 403, kS "kind" 404, kS "address" 405, kS "length" 406, kS "dims" 407, kS "offset" 408, kS "stride" 409, kS "k" 410, kS "low" 411, kS "high" 412] }
noncomputable def o_206 (P : Params) : Obj := { cls := .type "tuple", data := Data.seq #[] }
noncomputable def o_207 (P : Params) : Obj := { cls := .none, data := Data.func { name := Str.ofString "element_place", qualname := Str.ofString "element_place", params := kArgs (kSt 21), body := .stmts (kBody (kSt 21)), scope := kScope (kSt 21), globals := 0, closure := [], defaults := .none, kwdefaults := .none } }
noncomputable def o_208 (P : Params) : Obj := { cls := .type "code", data := Data.fields #[kS "element_place" 399, kS "element_place" 400, kS "/claim/cut.py" 401, .int 90 0, .int 2 0, .int 0 0, .int 0 0, .int 3 0, .ref 159, .bool true, .int 181 0, .ref 160, .none, .ref 161, .ref 162, .ref 163, .int 413 0, .int 90 0, kS "/claim/cut.py" 414] }
noncomputable def o_209 (P : Params) : Obj := { cls := .type "function", data := Data.func { name := Str.ofString "element_place", qualname := Str.ofString "element_place", params := kArgs (kSt 21), body := .stmts (kBody (kSt 21)), scope := kScope (kSt 21), globals := 3, closure := [], defaults := .none, kwdefaults := .none, pyModule := kS "f77.memory" 251, code := .ref 164 } }
noncomputable def o_210 (P : Params) : Obj := { cls := .type "tuple", data := Data.seq #[] }
noncomputable def o_211 (P : Params) : Obj := { cls := .none, data := Data.fields #[] }
noncomputable def o_212 (P : Params) : Obj := { cls := .type "tuple", data := Data.seq #[kS "place" 419, kS "lo" 420, kS "hi" 421, kS "first" 422, kS "last" 423] }
noncomputable def o_213 (P : Params) : Obj := { cls := .type "tuple", data := Data.seq #[] }
noncomputable def o_214 (P : Params) : Obj := { cls := .none, data := Data.func { name := Str.ofString "sub_place", qualname := Str.ofString "sub_place", params := kArgs (kSt 22), body := .stmts (kBody (kSt 22)), scope := kScope (kSt 22), globals := 0, closure := [], defaults := .none, kwdefaults := .none } }
noncomputable def o_215 (P : Params) : Obj := { cls := .type "code", data := Data.fields #[kS "sub_place" 416, kS "sub_place" 417, kS "/claim/cut.py" 418, .int 104 0, .int 3 0, .int 0 0, .int 0 0, .int 3 0, .ref 166, .bool true, .int 181 0, .ref 167, .none, .ref 168, .ref 169, .ref 170, .int 424 0, .int 104 0, kS "/claim/cut.py" 425] }
noncomputable def o_216 (P : Params) : Obj := { cls := .type "function", data := Data.func { name := Str.ofString "sub_place", qualname := Str.ofString "sub_place", params := kArgs (kSt 22), body := .stmts (kBody (kSt 22)), scope := kScope (kSt 22), globals := 3, closure := [], defaults := .none, kwdefaults := .none, pyModule := kS "f77.memory" 251, code := .ref 171 } }
noncomputable def o_217 (P : Params) : Obj := { cls := .type "tuple", data := Data.seq #[] }
noncomputable def o_218 (P : Params) : Obj := { cls := .none, data := Data.fields #[] }
noncomputable def o_219 (P : Params) : Obj := { cls := .none, data := Data.func { name := Str.ofString "elements_of", qualname := Str.ofString "elements_of", params := kArgs (kSt 23), body := .stmts (kBody (kSt 23)), scope := kScope (kSt 23), globals := 0, closure := [], defaults := .none, kwdefaults := .none } }
noncomputable def o_220 (P : Params) : Obj := { cls := .type "code", data := Data.fields #[kS "elements_of" 427, kS "elements_of" 428, kS "/claim/cut.py" 429, .int 110 0, .int 1 0, .int 0 0, .int 0 0, .int 3 0, .ref 173, .bool true, .int 181 0, .ref 174, .none, .none, .none, .ref 175, .int 430 0, .int 110 0, kS "/claim/cut.py" 431] }
noncomputable def o_221 (P : Params) : Obj := { cls := .type "function", data := Data.func { name := Str.ofString "elements_of", qualname := Str.ofString "elements_of", params := kArgs (kSt 23), body := .stmts (kBody (kSt 23)), scope := kScope (kSt 23), globals := 3, closure := [], defaults := .none, kwdefaults := .none, pyModule := kS "f77.memory" 251, code := .ref 176 } }
noncomputable def o_222 (P : Params) : Obj := { cls := .type "tuple", data := Data.seq #[] }
noncomputable def o_223 (P : Params) : Obj := { cls := .none, data := Data.fields #[] }
noncomputable def o_224 (P : Params) : Obj := { cls := .type "tuple", data := Data.seq #[kS "place" 436, kS "kind" 437, kS "address" 438, kS "length" 439, kS "dims" 440, kS "count" 441] }
noncomputable def o_225 (P : Params) : Obj := { cls := .type "tuple", data := Data.seq #[] }
noncomputable def o_226 (P : Params) : Obj := { cls := .none, data := Data.func { name := Str.ofString "span_of", qualname := Str.ofString "span_of", params := kArgs (kSt 24), body := .stmts (kBody (kSt 24)), scope := kScope (kSt 24), globals := 0, closure := [], defaults := .none, kwdefaults := .none } }
noncomputable def o_227 (P : Params) : Obj := { cls := .type "code", data := Data.fields #[kS "span_of" 433, kS "span_of" 434, kS "/claim/cut.py" 435, .int 117 0, .int 1 0, .int 0 0, .int 0 0, .int 3 0, .ref 178, .bool true, .int 181 0, .ref 179, .none, .ref 180, .ref 181, .ref 182, .int 442 0, .int 117 0, kS "/claim/cut.py" 443] }
noncomputable def o_228 (P : Params) : Obj := { cls := .type "function", data := Data.func { name := Str.ofString "span_of", qualname := Str.ofString "span_of", params := kArgs (kSt 24), body := .stmts (kBody (kSt 24)), scope := kScope (kSt 24), globals := 3, closure := [], defaults := .none, kwdefaults := .none, pyModule := kS "f77.memory" 251, code := .ref 183 } }
noncomputable def o_229 (P : Params) : Obj := { cls := .type "tuple", data := Data.seq #[] }
noncomputable def o_230 (P : Params) : Obj := { cls := .none, data := Data.fields #[] }
noncomputable def o_231 (P : Params) : Obj := { cls := .type "tuple", data := Data.seq #[kS "memory" 448, kS "is_character" 449, kS "low" 450, kS "high" 451, kS "cells" 452, kS "k" 453] }
noncomputable def o_232 (P : Params) : Obj := { cls := .type "tuple", data := Data.seq #[] }
noncomputable def o_233 (P : Params) : Obj := { cls := .none, data := Data.func { name := Str.ofString "undefine_cells", qualname := Str.ofString "undefine_cells", params := kArgs (kSt 25), body := .stmts (kBody (kSt 25)), scope := kScope (kSt 25), globals := 0, closure := [], defaults := .none, kwdefaults := .none } }
noncomputable def o_234 (P : Params) : Obj := { cls := .type "code", data := Data.fields #[kS "undefine_cells" 445, kS "undefine_cells" 446, kS "/claim/cut.py" 447, .int 123 0, .int 4 0, .int 0 0, .int 0 0, .int 3 0, .ref 185, .bool true, .int 181 0, .ref 186, .none, .ref 187, .ref 188, .ref 189, .int 454 0, .int 123 0, kS "/claim/cut.py" 455] }
noncomputable def o_235 (P : Params) : Obj := { cls := .type "function", data := Data.func { name := Str.ofString "undefine_cells", qualname := Str.ofString "undefine_cells", params := kArgs (kSt 25), body := .stmts (kBody (kSt 25)), scope := kScope (kSt 25), globals := 3, closure := [], defaults := .none, kwdefaults := .none, pyModule := kS "f77.memory" 251, code := .ref 190 } }
open PySem.W.BT renaming node → N, nil → Z in
noncomputable def tree_235 (P : Params) : BT := N (boot_o_0 P) (N (boot_o_1 P) (N (o_152 P) (N (boot_o_7 P) (N (o_52 P) (N (o_74 P) (N (o_105 P) (N (o_171 P) Z Z) (N (o_235 P) Z Z)) (N (o_137 P) (N (o_203 P) Z Z) Z)) (N (o_87 P) (N (o_121 P) (N (o_187 P) Z Z) Z) (N (o_155 P) (N (o_219 P) Z Z) Z))) (N (o_60 P) (N (o_79 P) (N (o_113 P) (N (o_179 P) Z Z) Z) (N (o_145 P) (N (o_211 P) Z Z) Z)) (N (o_97 P) (N (o_129 P) (N (o_195 P) Z Z) Z) (N (o_163 P) (N (o_227 P) Z Z) Z)))) (N (o_43 P) (N (o_56 P) (N (o_75 P) (N (o_109 P) (N (o_175 P) Z Z) Z) (N (o_141 P) (N (o_207 P) Z Z) Z)) (N (o_91 P) (N (o_125 P) (N (o_191 P) Z Z) Z) (N (o_159 P) (N (o_223 P) Z Z) Z))) (N (o_64 P) (N (o_83 P) (N (o_117 P) (N (o_183 P) Z Z) Z) (N (o_149 P) (N (o_215 P) Z Z) Z)) (N (o_101 P) (N (o_133 P) (N (o_199 P) Z Z) Z) (N (o_167 P) (N (o_231 P) Z Z) Z))))) (N (boot_o_5 P) (N (boot_o_9 P) (N (o_54 P) (N (o_70 P) (N (o_107 P) (N (o_173 P) Z Z) Z) (N (o_139 P) (N (o_205 P) Z Z) Z)) (N (o_89 P) (N (o_123 P) (N (o_189 P) Z Z) Z) (N (o_157 P) (N (o_221 P) Z Z) Z))) (N (o_62 P) (N (o_81 P) (N (o_115 P) (N (o_181 P) Z Z) Z) (N (o_147 P) (N (o_213 P) Z Z) Z)) (N (o_99 P) (N (o_131 P) (N (o_197 P) Z Z) Z) (N (o_165 P) (N (o_229 P) Z Z) Z)))) (N (o_45 P) (N (o_58 P) (N (o_77 P) (N (o_111 P) (N (o_177 P) Z Z) Z) (N (o_143 P) (N (o_209 P) Z Z) Z)) (N (o_93 P) (N (o_127 P) (N (o_193 P) Z Z) Z) (N (o_161 P) (N (o_225 P) Z Z) Z))) (N (o_66 P) (N (o_85 P) (N (o_119 P) (N (o_185 P) Z Z) Z) (N (o_151 P) (N (o_217 P) Z Z) Z)) (N (o_103 P) (N (o_135 P) (N (o_201 P) Z Z) Z) (N (o_169 P) (N (o_233 P) Z Z) Z)))))) (N (o_49 P) (N (boot_o_4 P) (N (boot_o_8 P) (N (o_53 P) (N (o_69 P) (N (o_106 P) (N (o_172 P) Z Z) Z) (N (o_138 P) (N (o_204 P) Z Z) Z)) (N (o_88 P) (N (o_122 P) (N (o_188 P) Z Z) Z) (N (o_156 P) (N (o_220 P) Z Z) Z))) (N (o_61 P) (N (o_80 P) (N (o_114 P) (N (o_180 P) Z Z) Z) (N (o_146 P) (N (o_212 P) Z Z) Z)) (N (o_98 P) (N (o_130 P) (N (o_196 P) Z Z) Z) (N (o_164 P) (N (o_228 P) Z Z) Z)))) (N (o_153 P) (N (o_57 P) (N (o_76 P) (N (o_110 P) (N (o_176 P) Z Z) Z) (N (o_142 P) (N (o_208 P) Z Z) Z)) (N (o_92 P) (N (o_126 P) (N (o_192 P) Z Z) Z) (N (o_160 P) (N (o_224 P) Z Z) Z))) (N (o_65 P) (N (o_84 P) (N (o_118 P) (N (o_184 P) Z Z) Z) (N (o_150 P) (N (o_216 P) Z Z) Z)) (N (o_102 P) (N (o_134 P) (N (o_200 P) Z Z) Z) (N (o_168 P) (N (o_232 P) Z Z) Z))))) (N (boot_o_6 P) (N (boot_o_10 P) (N (o_55 P) (N (o_71 P) (N (o_108 P) (N (o_174 P) Z Z) Z) (N (o_140 P) (N (o_206 P) Z Z) Z)) (N (o_90 P) (N (o_124 P) (N (o_190 P) Z Z) Z) (N (o_158 P) (N (o_222 P) Z Z) Z))) (N (o_63 P) (N (o_82 P) (N (o_116 P) (N (o_182 P) Z Z) Z) (N (o_148 P) (N (o_214 P) Z Z) Z)) (N (o_100 P) (N (o_132 P) (N (o_198 P) Z Z) Z) (N (o_166 P) (N (o_230 P) Z Z) Z)))) (N (o_46 P) (N (o_59 P) (N (o_78 P) (N (o_112 P) (N (o_178 P) Z Z) Z) (N (o_144 P) (N (o_210 P) Z Z) Z)) (N (o_96 P) (N (o_128 P) (N (o_194 P) Z Z) Z) (N (o_162 P) (N (o_226 P) Z Z) Z))) (N (o_67 P) (N (o_86 P) (N (o_120 P) (N (o_186 P) Z Z) Z) (N (o_154 P) (N (o_218 P) Z Z) Z)) (N (o_104 P) (N (o_136 P) (N (o_202 P) Z Z) Z) (N (o_170 P) (N (o_234 P) Z Z) Z))))))
noncomputable def o_236 (P : Params) : Obj := { cls := .type "dict", data := Data.dict #[kE P "__name__" 165 (kS "law_no0237_01" 484), kE P "__doc__" 166 .none, kE P "__package__" 167 .none, kE P "__loader__" 168 (.builtin "__main__.__loader__#opaque"), kE P "__spec__" 169 .none, kE P "__annotations__" 170 (.ref 6), kE P "__builtins__" 171 (.ref 4), kE P "__file__" 173 (kS "/claim/cut.py" 172), kE P "__cached__" 174 .none, kE P "F77Error" 217 (.ref 31), kE P "RunFault" 233 (.ref 44), kE P "REAL" 237 (.int 1 236), kE P "DOUBLE" 239 (.int 2 238), kE P "COMPLEX" 241 (.int 3 240), kE P "CHARACTER" 243 (.int 5 242), kE P "units_of" 250 (.ref 53), kE P "SECOND" 254 (.int 6 253), kE P "Memory" 313 (.ref 91), kE P "need_units" 322 (.ref 102), kE P "read_cell" 332 (.ref 109), kE P "load_number" 342 (.ref 116), kE P "store_number" 352 (.ref 123), kE P "load_text" 362 (.ref 130), kE P "store_text" 372 (.ref 137), kE P "pad" 380 (.ref 144), kE P "unit_size" 388 (.ref 151), kE P "extent" 398 (.ref 158), kE P "element_place" 415 (.ref 165), kE P "sub_place" 426 (.ref 172), kE P "elements_of" 432 (.ref 177), kE P "span_of" 444 (.ref 184), kE P "undefine_cells" 456 (.ref 191), kE P "fresh" 468 (.ref 198), kE P "mark_storage" 475 (.ref 205), kE P "cut_storage" 483 (.ref 212), kE P "_law_values" 491 (.ref 219), kE P "_law_pick" 499 (.ref 226), kE P "_law_own" 513 (.ref 233), kE P "_law_lay" 527 (.ref 240), kE P "_law_load" 539 (.ref 247), kE P "_law_store" 551 (.ref 254), kE P "_law_deed" 573 (.ref 261), kE P "_law_counted" 586 (.ref 268)] 43 }
noncomputable def o_237 (P : Params) : Obj := { cls := .none, data := Data.fields #[.int 2 0, .int 0 0, .ref 20, .int 7 0, .int 0 0, .ref 40, .int 14 0, .int 0 0, .ref 52, .int 22 0, .int 0 0, .ref 59, .int 42 0, .int 0 0, .ref 101, .int 45 0, .int 0 0, .ref 108, .int 50 0, .int 0 0, .ref 115, .int 58 0, .int 0 0, .ref 122, .int 67 0, .int 0 0, .ref 129, .int 73 0, .int 0 0, .ref 136, .int 77 0, .int 0 0, .ref 143, .int 79 0, .int 0 0, .ref 150, .int 83 0, .int 0 0, .ref 157, .int 90 0, .int 0 0, .ref 164, .int 104 0, .int 0 0, .ref 171, .int 110 0, .int 0 0, .ref 176, .int 117 0, .int 0 0, .ref 183, .int 123 0, .int 0 0, .ref 190, .int 128 0, .int 0 0, .ref 197, .int 134 0, .int 0 0, .ref 204, .int 136 0, .int 0 0, .ref 211, .int 142 0, .int 0 0, .ref 218, .int 144 0, .int 0 0, .ref 225, .int 148 0, .int 0 0, .ref 232, .int 165 0, .int 0 0, .ref 239, .int 176 0, .int 0 0, .ref 246, .int 187 0, .int 0 0, .ref 253, .int 193 0, .int 0 0, .ref 260, .int 224 0, .int 0 0, .ref 267] }
noncomputable def o_238 (P : Params) : Obj := { cls := .type "tuple", data := Data.seq #[] }
noncomputable def o_239 (P : Params) : Obj := { cls := .none, data := Data.fields #[] }
noncomputable def o_240 (P : Params) : Obj := { cls := .type "tuple", data := Data.seq #[kS "memory" 460, kS "kind" 461, kS "length" 462, kS "cells" 463, kS "address" 464, kS "k" 465] }
noncomputable def o_241 (P : Params) : Obj := { cls := .type "tuple", data := Data.seq #[] }
noncomputable def o_242 (P : Params) : Obj := { cls := .none, data := Data.func { name := Str.ofString "fresh", qualname := Str.ofString "fresh", params := kArgs (kSt 26), body := .stmts (kBody (kSt 26)), scope := kScope (kSt 26), globals := 0, closure := [], defaults := .none, kwdefaults := .none } }
noncomputable def o_243 (P : Params) : Obj := { cls := .type "code", data := Data.fields #[kS "fresh" 457, kS "fresh" 458, kS "/claim/cut.py" 459, .int 128 0, .int 3 0, .int 0 0, .int 0 0, .int 3 0, .ref 192, .bool true, .int 181 0, .ref 193, .none, .ref 194, .ref 195, .ref 196, .int 466 0, .int 128 0, kS "/claim/cut.py" 467] }
noncomputable def o_244 (P : Params) : Obj := { cls := .type "function", data := Data.func { name := Str.ofString "fresh", qualname := Str.ofString "fresh", params := kArgs (kSt 26), body := .stmts (kBody (kSt 26)), scope := kScope (kSt 26), globals := 3, closure := [], defaults := .none, kwdefaults := .none, pyModule := kS "f77.memory" 251, code := .ref 197 } }
noncomputable def o_245 (P : Params) : Obj := { cls := .type "tuple", data := Data.seq #[] }
noncomputable def o_246 (P : Params) : Obj := { cls := .none, data := Data.fields #[] }
noncomputable def o_247 (P : Params) : Obj := { cls := .type "tuple", data := Data.seq #[kS "memory" 472] }
noncomputable def o_248 (P : Params) : Obj := { cls := .type "tuple", data := Data.seq #[] }
noncomputable def o_249 (P : Params) : Obj := { cls := .none, data := Data.func { name := Str.ofString "mark_storage", qualname := Str.ofString "mark_storage", params := kArgs (kSt 27), body := .stmts (kBody (kSt 27)), scope := kScope (kSt 27), globals := 0, closure := [], defaults := .none, kwdefaults := .none } }
noncomputable def o_250 (P : Params) : Obj := { cls := .type "code", data := Data.fields #[kS "mark_storage" 469, kS "mark_storage" 470, kS "/claim/cut.py" 471, .int 134 0, .int 1 0, .int 0 0, .int 0 0, .int 3 0, .ref 199, .bool true, .int 181 0, .ref 200, .none, .ref 201, .ref 202, .ref 203, .int 473 0, .int 134 0, kS "/claim/cut.py" 474] }
noncomputable def o_251 (P : Params) : Obj := { cls := .type "function", data := Data.func { name := Str.ofString "mark_storage", qualname := Str.ofString "mark_storage", params := kArgs (kSt 27), body := .stmts (kBody (kSt 27)), scope := kScope (kSt 27), globals := 3, closure := [], defaults := .none, kwdefaults := .none, pyModule := kS "f77.memory" 251, code := .ref 204 } }
noncomputable def o_252 (P : Params) : Obj := { cls := .type "tuple", data := Data.seq #[] }
noncomputable def o_253 (P : Params) : Obj := { cls := .none, data := Data.fields #[] }
noncomputable def o_254 (P : Params) : Obj := { cls := .type "tuple", data := Data.seq #[kS "memory" 479, kS "marked" 480] }
noncomputable def o_255 (P : Params) : Obj := { cls := .type "tuple", data := Data.seq #[] }
noncomputable def o_256 (P : Params) : Obj := { cls := .none, data := Data.func { name := Str.ofString "cut_storage", qualname := Str.ofString "cut_storage", params := kArgs (kSt 28), body := .stmts (kBody (kSt 28)), scope := kScope (kSt 28), globals := 0, closure := [], defaults := .none, kwdefaults := .none } }
noncomputable def o_257 (P : Params) : Obj := { cls := .type "code", data := Data.fields #[kS "cut_storage" 476, kS "cut_storage" 477, kS "/claim/cut.py" 478, .int 136 0, .int 2 0, .int 0 0, .int 0 0, .int 3 0, .ref 206, .bool true, .int 181 0, .ref 207, .none, .ref 208, .ref 209, .ref 210, .int 481 0, .int 136 0, kS "/claim/cut.py" 482] }
noncomputable def o_258 (P : Params) : Obj := { cls := .type "function", data := Data.func { name := Str.ofString "cut_storage", qualname := Str.ofString "cut_storage", params := kArgs (kSt 28), body := .stmts (kBody (kSt 28)), scope := kScope (kSt 28), globals := 3, closure := [], defaults := .none, kwdefaults := .none, pyModule := kS "f77.memory" 251, code := .ref 211 } }
noncomputable def o_259 (P : Params) : Obj := { cls := .type "tuple", data := Data.seq #[] }
noncomputable def o_260 (P : Params) : Obj := { cls := .none, data := Data.fields #[] }
noncomputable def o_261 (P : Params) : Obj := { cls := .type "tuple", data := Data.seq #[] }
noncomputable def o_262 (P : Params) : Obj := { cls := .type "tuple", data := Data.seq #[] }
noncomputable def o_263 (P : Params) : Obj := { cls := .none, data := Data.func { name := Str.ofString "_law_values", qualname := Str.ofString "_law_values", params := kArgs (kSt 30), body := .stmts (kBody (kSt 30)), scope := kScope (kSt 30), globals := 0, closure := [], defaults := .none, kwdefaults := .none } }
noncomputable def o_264 (P : Params) : Obj := { cls := .type "code", data := Data.fields #[kS "_law_values" 486, kS "_law_values" 487, kS "/claim/cut.py" 488, .int 142 0, .int 0 0, .int 0 0, .int 0 0, .int 3 0, .ref 213, .bool true, .int 181 0, .ref 214, .none, .ref 215, .ref 216, .ref 217, .int 489 0, .int 142 0, kS "/claim/cut.py" 490] }
noncomputable def o_265 (P : Params) : Obj := { cls := .type "function", data := Data.func { name := Str.ofString "_law_values", qualname := Str.ofString "_law_values", params := kArgs (kSt 30), body := .stmts (kBody (kSt 30)), scope := kScope (kSt 30), globals := 3, closure := [], defaults := .none, kwdefaults := .none, pyModule := kS "law_no0237_01" 484, code := .ref 218 } }
noncomputable def o_266 (P : Params) : Obj := { cls := .type "tuple", data := Data.seq #[] }
noncomputable def o_267 (P : Params) : Obj := { cls := .none, data := Data.fields #[] }
noncomputable def o_268 (P : Params) : Obj := { cls := .type "tuple", data := Data.seq #[kS "script" 495, kS "place" 496] }
noncomputable def o_269 (P : Params) : Obj := { cls := .type "tuple", data := Data.seq #[] }
noncomputable def o_270 (P : Params) : Obj := { cls := .none, data := Data.func { name := Str.ofString "_law_pick", qualname := Str.ofString "_law_pick", params := kArgs (kSt 31), body := .stmts (kBody (kSt 31)), scope := kScope (kSt 31), globals := 0, closure := [], defaults := .none, kwdefaults := .none } }
noncomputable def o_271 (P : Params) : Obj := { cls := .type "code", data := Data.fields #[kS "_law_pick" 492, kS "_law_pick" 493, kS "/claim/cut.py" 494, .int 144 0, .int 2 0, .int 0 0, .int 0 0, .int 3 0, .ref 220, .bool true, .int 181 0, .ref 221, .none, .ref 222, .ref 223, .ref 224, .int 497 0, .int 144 0, kS "/claim/cut.py" 498] }
noncomputable def o_272 (P : Params) : Obj := { cls := .type "function", data := Data.func { name := Str.ofString "_law_pick", qualname := Str.ofString "_law_pick", params := kArgs (kSt 31), body := .stmts (kBody (kSt 31)), scope := kScope (kSt 31), globals := 3, closure := [], defaults := .none, kwdefaults := .none, pyModule := kS "law_no0237_01" 484, code := .ref 225 } }
noncomputable def o_273 (P : Params) : Obj := { cls := .type "tuple", data := Data.seq #[] }
noncomputable def o_274 (P : Params) : Obj := { cls := .none, data := Data.fields #[] }
noncomputable def o_275 (P : Params) : Obj := { cls := .type "tuple", data := Data.seq #[kS "units" 503, kS "texts" 504, kS "kind" 505, kS "at" 506, kS "length" 507, kS "cells" 508, kS "count" 509, kS "row" 510] }
noncomputable def o_276 (P : Params) : Obj := { cls := .type "tuple", data := Data.seq #[] }
noncomputable def o_277 (P : Params) : Obj := { cls := .none, data := Data.func { name := Str.ofString "_law_own", qualname := Str.ofString "_law_own", params := kArgs (kSt 32), body := .stmts (kBody (kSt 32)), scope := kScope (kSt 32), globals := 0, closure := [], defaults := .none, kwdefaults := .none } }
noncomputable def o_278 (P : Params) : Obj := { cls := .type "code", data := Data.fields #[kS "_law_own" 500, kS "_law_own" 501, kS "/claim/cut.py" 502, .int 148 0, .int 5 0, .int 0 0, .int 0 0, .int 3 0, .ref 227, .bool true, .int 181 0, .ref 228, .none, .ref 229, .ref 230, .ref 231, .int 511 0, .int 148 0, kS "/claim/cut.py" 512] }
noncomputable def o_279 (P : Params) : Obj := { cls := .type "function", data := Data.func { name := Str.ofString "_law_own", qualname := Str.ofString "_law_own", params := kArgs (kSt 32), body := .stmts (kBody (kSt 32)), scope := kScope (kSt 32), globals := 3, closure := [], defaults := .none, kwdefaults := .none, pyModule := kS "law_no0237_01" 484, code := .ref 232 } }
noncomputable def o_280 (P : Params) : Obj := { cls := .type "tuple", data := Data.seq #[] }
noncomputable def o_281 (P : Params) : Obj := { cls := .none, data := Data.fields #[] }
noncomputable def o_282 (P : Params) : Obj := { cls := .type "tuple", data := Data.seq #[kS "units" 517, kS "texts" 518, kS "kind" 519, kS "at" 520, kS "length" 521, kS "value" 522, kS "serial" 523, kS "k" 524] }
noncomputable def o_283 (P : Params) : Obj := { cls := .type "tuple", data := Data.seq #[] }
noncomputable def o_284 (P : Params) : Obj := { cls := .none, data := Data.func { name := Str.ofString "_law_lay", qualname := Str.ofString "_law_lay", params := kArgs (kSt 33), body := .stmts (kBody (kSt 33)), scope := kScope (kSt 33), globals := 0, closure := [], defaults := .none, kwdefaults := .none } }
noncomputable def o_285 (P : Params) : Obj := { cls := .type "code", data := Data.fields #[kS "_law_lay" 514, kS "_law_lay" 515, kS "/claim/cut.py" 516, .int 165 0, .int 7 0, .int 0 0, .int 0 0, .int 3 0, .ref 234, .bool true, .int 181 0, .ref 235, .none, .ref 236, .ref 237, .ref 238, .int 525 0, .int 165 0, kS "/claim/cut.py" 526] }
noncomputable def o_286 (P : Params) : Obj := { cls := .type "function", data := Data.func { name := Str.ofString "_law_lay", qualname := Str.ofString "_law_lay", params := kArgs (kSt 33), body := .stmts (kBody (kSt 33)), scope := kScope (kSt 33), globals := 3, closure := [], defaults := .none, kwdefaults := .none, pyModule := kS "law_no0237_01" 484, code := .ref 239 } }
noncomputable def o_287 (P : Params) : Obj := { cls := .type "tuple", data := Data.seq #[] }
noncomputable def o_288 (P : Params) : Obj := { cls := .none, data := Data.fields #[] }
noncomputable def o_289 (P : Params) : Obj := { cls := .type "tuple", data := Data.seq #[kS "memory" 531, kS "kind" 532, kS "at" 533, kS "length" 534, kS "heard" 535, kS "fault" 536] }
noncomputable def o_290 (P : Params) : Obj := { cls := .type "tuple", data := Data.seq #[] }
noncomputable def o_291 (P : Params) : Obj := { cls := .none, data := Data.func { name := Str.ofString "_law_load", qualname := Str.ofString "_law_load", params := kArgs (kSt 34), body := .stmts (kBody (kSt 34)), scope := kScope (kSt 34), globals := 0, closure := [], defaults := .none, kwdefaults := .none } }
noncomputable def o_292 (P : Params) : Obj := { cls := .type "code", data := Data.fields #[kS "_law_load" 528, kS "_law_load" 529, kS "/claim/cut.py" 530, .int 176 0, .int 4 0, .int 0 0, .int 0 0, .int 3 0, .ref 241, .bool true, .int 181 0, .ref 242, .none, .ref 243, .ref 244, .ref 245, .int 537 0, .int 176 0, kS "/claim/cut.py" 538] }
noncomputable def o_293 (P : Params) : Obj := { cls := .type "function", data := Data.func { name := Str.ofString "_law_load", qualname := Str.ofString "_law_load", params := kArgs (kSt 34), body := .stmts (kBody (kSt 34)), scope := kScope (kSt 34), globals := 3, closure := [], defaults := .none, kwdefaults := .none, pyModule := kS "law_no0237_01" 484, code := .ref 246 } }
noncomputable def o_294 (P : Params) : Obj := { cls := .type "tuple", data := Data.seq #[] }
noncomputable def o_295 (P : Params) : Obj := { cls := .none, data := Data.fields #[] }
noncomputable def o_296 (P : Params) : Obj := { cls := .type "tuple", data := Data.seq #[kS "memory" 543, kS "kind" 544, kS "at" 545, kS "length" 546, kS "value" 547, kS "fault" 548] }
noncomputable def o_297 (P : Params) : Obj := { cls := .type "tuple", data := Data.seq #[] }
noncomputable def o_298 (P : Params) : Obj := { cls := .none, data := Data.func { name := Str.ofString "_law_store", qualname := Str.ofString "_law_store", params := kArgs (kSt 35), body := .stmts (kBody (kSt 35)), scope := kScope (kSt 35), globals := 0, closure := [], defaults := .none, kwdefaults := .none } }
noncomputable def o_299 (P : Params) : Obj := { cls := .type "code", data := Data.fields #[kS "_law_store" 540, kS "_law_store" 541, kS "/claim/cut.py" 542, .int 187 0, .int 5 0, .int 0 0, .int 0 0, .int 3 0, .ref 248, .bool true, .int 181 0, .ref 249, .none, .ref 250, .ref 251, .ref 252, .int 549 0, .int 187 0, kS "/claim/cut.py" 550] }
noncomputable def o_300 (P : Params) : Obj := { cls := .type "function", data := Data.func { name := Str.ofString "_law_store", qualname := Str.ofString "_law_store", params := kArgs (kSt 35), body := .stmts (kBody (kSt 35)), scope := kScope (kSt 35), globals := 3, closure := [], defaults := .none, kwdefaults := .none, pyModule := kS "law_no0237_01" 484, code := .ref 253 } }
noncomputable def o_301 (P : Params) : Obj := { cls := .type "tuple", data := Data.seq #[] }
noncomputable def o_302 (P : Params) : Obj := { cls := .none, data := Data.fields #[] }
noncomputable def o_303 (P : Params) : Obj := { cls := .type "tuple", data := Data.seq #[kS "memory" 555, kS "units" 556, kS "texts" 557, kS "code" 558, kS "number" 559, kS "serial" 560, kS "kind" 561, kS "length" 562, kS "at" 563, kS "value" 564, kS "cells" 565, kS "count" 566, kS "k" 567, kS "before" 568, kS "place" 569, kS "due" 570] }
noncomputable def o_304 (P : Params) : Obj := { cls := .type "tuple", data := Data.seq #[] }
noncomputable def o_305 (P : Params) : Obj := { cls := .none, data := Data.func { name := Str.ofString "_law_deed", qualname := Str.ofString "_law_deed", params := kArgs (kSt 36), body := .stmts (kBody (kSt 36)), scope := kScope (kSt 36), globals := 0, closure := [], defaults := .none, kwdefaults := .none } }
noncomputable def o_306 (P : Params) : Obj := { cls := .type "code", data := Data.fields #[kS "_law_deed" 552, kS "_law_deed" 553, kS "/claim/cut.py" 554, .int 193 0, .int 6 0, .int 0 0, .int 0 0, .int 3 0, .ref 255, .bool true, .int 181 0, .ref 256, .none, .ref 257, .ref 258, .ref 259, .int 571 0, .int 193 0, kS "/claim/cut.py" 572] }
noncomputable def o_307 (P : Params) : Obj := { cls := .type "function", data := Data.func { name := Str.ofString "_law_deed", qualname := Str.ofString "_law_deed", params := kArgs (kSt 36), body := .stmts (kBody (kSt 36)), scope := kScope (kSt 36), globals := 3, closure := [], defaults := .none, kwdefaults := .none, pyModule := kS "law_no0237_01" 484, code := .ref 260 } }
noncomputable def o_308 (P : Params) : Obj := { cls := .type "tuple", data := Data.seq #[] }
noncomputable def o_309 (P : Params) : Obj := { cls := .none, data := Data.fields #[] }
noncomputable def o_310 (P : Params) : Obj := { cls := .type "tuple", data := Data.seq #[kS "dims" 577, kS "rows" 578, kS "low" 579, kS "high" 580, kS "later" 581, kS "row" 582, kS "at" 583] }
noncomputable def o_311 (P : Params) : Obj := { cls := .type "tuple", data := Data.seq #[] }
noncomputable def o_312 (P : Params) : Obj := { cls := .none, data := Data.func { name := Str.ofString "_law_counted", qualname := Str.ofString "_law_counted", params := kArgs (kSt 37), body := .stmts (kBody (kSt 37)), scope := kScope (kSt 37), globals := 0, closure := [], defaults := .none, kwdefaults := .none } }
noncomputable def o_313 (P : Params) : Obj := { cls := .type "code", data := Data.fields #[kS "_law_counted" 574, kS "_law_counted" 575, kS "/claim/cut.py" 576, .int 224 0, .int 1 0, .int 0 0, .int 0 0, .int 3 0, .ref 262, .bool true, .int 181 0, .ref 263, .none, .ref 264, .ref 265, .ref 266, .int 584 0, .int 224 0, kS "/claim/cut.py" 585] }
noncomputable def o_314 (P : Params) : Obj := { cls := .type "function", data := Data.func { name := Str.ofString "_law_counted", qualname := Str.ofString "_law_counted", params := kArgs (kSt 37), body := .stmts (kBody (kSt 37)), scope := kScope (kSt 37), globals := 3, closure := [], defaults := .none, kwdefaults := .none, pyModule := kS "law_no0237_01" 484, code := .ref 267 } }
open PySem.W.BT renaming node → N, nil → Z in
noncomputable def tree_314 (P : Params) : BT := N (boot_o_0 P) (N (boot_o_1 P) (N (o_236 P) (N (boot_o_7 P) (N (o_52 P) (N (o_74 P) (N (o_105 P) (N (o_171 P) (N (o_301 P) Z Z) Z) (N (o_235 P) Z Z)) (N (o_137 P) (N (o_203 P) Z Z) (N (o_269 P) Z Z))) (N (o_87 P) (N (o_121 P) (N (o_187 P) Z Z) (N (o_253 P) Z Z)) (N (o_155 P) (N (o_219 P) Z Z) (N (o_285 P) Z Z)))) (N (o_60 P) (N (o_79 P) (N (o_113 P) (N (o_179 P) (N (o_309 P) Z Z) Z) (N (o_245 P) Z Z)) (N (o_145 P) (N (o_211 P) Z Z) (N (o_277 P) Z Z))) (N (o_97 P) (N (o_129 P) (N (o_195 P) Z Z) (N (o_261 P) Z Z)) (N (o_163 P) (N (o_227 P) Z Z) (N (o_293 P) Z Z))))) (N (o_43 P) (N (o_56 P) (N (o_75 P) (N (o_109 P) (N (o_175 P) (N (o_305 P) Z Z) Z) (N (o_241 P) Z Z)) (N (o_141 P) (N (o_207 P) Z Z) (N (o_273 P) Z Z))) (N (o_91 P) (N (o_125 P) (N (o_191 P) Z Z) (N (o_257 P) Z Z)) (N (o_159 P) (N (o_223 P) Z Z) (N (o_289 P) Z Z)))) (N (o_64 P) (N (o_83 P) (N (o_117 P) (N (o_183 P) (N (o_313 P) Z Z) Z) (N (o_249 P) Z Z)) (N (o_149 P) (N (o_215 P) Z Z) (N (o_281 P) Z Z))) (N (o_101 P) (N (o_133 P) (N (o_199 P) Z Z) (N (o_265 P) Z Z)) (N (o_167 P) (N (o_231 P) Z Z) (N (o_297 P) Z Z)))))) (N (boot_o_5 P) (N (boot_o_9 P) (N (o_54 P) (N (o_70 P) (N (o_107 P) (N (o_173 P) (N (o_303 P) Z Z) Z) (N (o_239 P) Z Z)) (N (o_139 P) (N (o_205 P) Z Z) (N (o_271 P) Z Z))) (N (o_89 P) (N (o_123 P) (N (o_189 P) Z Z) (N (o_255 P) Z Z)) (N (o_157 P) (N (o_221 P) Z Z) (N (o_287 P) Z Z)))) (N (o_62 P) (N (o_81 P) (N (o_115 P) (N (o_181 P) (N (o_311 P) Z Z) Z) (N (o_247 P) Z Z)) (N (o_147 P) (N (o_213 P) Z Z) (N (o_279 P) Z Z))) (N (o_99 P) (N (o_131 P) (N (o_197 P) Z Z) (N (o_263 P) Z Z)) (N (o_165 P) (N (o_229 P) Z Z) (N (o_295 P) Z Z))))) (N (o_45 P) (N (o_58 P) (N (o_77 P) (N (o_111 P) (N (o_177 P) (N (o_307 P) Z Z) Z) (N (o_243 P) Z Z)) (N (o_143 P) (N (o_209 P) Z Z) (N (o_275 P) Z Z))) (N (o_93 P) (N (o_127 P) (N (o_193 P) Z Z) (N (o_259 P) Z Z)) (N (o_161 P) (N (o_225 P) Z Z) (N (o_291 P) Z Z)))) (N (o_66 P) (N (o_85 P) (N (o_119 P) (N (o_185 P) Z Z) (N (o_251 P) Z Z)) (N (o_151 P) (N (o_217 P) Z Z) (N (o_283 P) Z Z))) (N (o_103 P) (N (o_135 P) (N (o_201 P) Z Z) (N (o_267 P) Z Z)) (N (o_169 P) (N (o_233 P) Z Z) (N (o_299 P) Z Z))))))) (N (o_49 P) (N (boot_o_4 P) (N (boot_o_8 P) (N (o_53 P) (N (o_69 P) (N (o_106 P) (N (o_172 P) (N (o_302 P) Z Z) Z) (N (o_238 P) Z Z)) (N (o_138 P) (N (o_204 P) Z Z) (N (o_270 P) Z Z))) (N (o_88 P) (N (o_122 P) (N (o_188 P) Z Z) (N (o_254 P) Z Z)) (N (o_156 P) (N (o_220 P) Z Z) (N (o_286 P) Z Z)))) (N (o_61 P) (N (o_80 P) (N (o_114 P) (N (o_180 P) (N (o_310 P) Z Z) Z) (N (o_246 P) Z Z)) (N (o_146 P) (N (o_212 P) Z Z) (N (o_278 P) Z Z))) (N (o_98 P) (N (o_130 P) (N (o_196 P) Z Z) (N (o_262 P) Z Z)) (N (o_164 P) (N (o_228 P) Z Z) (N (o_294 P) Z Z))))) (N (o_237 P) (N (o_57 P) (N (o_76 P) (N (o_110 P) (N (o_176 P) (N (o_306 P) Z Z) Z) (N (o_242 P) Z Z)) (N (o_142 P) (N (o_208 P) Z Z) (N (o_274 P) Z Z))) (N (o_92 P) (N (o_126 P) (N (o_192 P) Z Z) (N (o_258 P) Z Z)) (N (o_160 P) (N (o_224 P) Z Z) (N (o_290 P) Z Z)))) (N (o_65 P) (N (o_84 P) (N (o_118 P) (N (o_184 P) (N (o_314 P) Z Z) Z) (N (o_250 P) Z Z)) (N (o_150 P) (N (o_216 P) Z Z) (N (o_282 P) Z Z))) (N (o_102 P) (N (o_134 P) (N (o_200 P) Z Z) (N (o_266 P) Z Z)) (N (o_168 P) (N (o_232 P) Z Z) (N (o_298 P) Z Z)))))) (N (boot_o_6 P) (N (boot_o_10 P) (N (o_55 P) (N (o_71 P) (N (o_108 P) (N (o_174 P) (N (o_304 P) Z Z) Z) (N (o_240 P) Z Z)) (N (o_140 P) (N (o_206 P) Z Z) (N (o_272 P) Z Z))) (N (o_90 P) (N (o_124 P) (N (o_190 P) Z Z) (N (o_256 P) Z Z)) (N (o_158 P) (N (o_222 P) Z Z) (N (o_288 P) Z Z)))) (N (o_63 P) (N (o_82 P) (N (o_116 P) (N (o_182 P) (N (o_312 P) Z Z) Z) (N (o_248 P) Z Z)) (N (o_148 P) (N (o_214 P) Z Z) (N (o_280 P) Z Z))) (N (o_100 P) (N (o_132 P) (N (o_198 P) Z Z) (N (o_264 P) Z Z)) (N (o_166 P) (N (o_230 P) Z Z) (N (o_296 P) Z Z))))) (N (o_46 P) (N (o_59 P) (N (o_78 P) (N (o_112 P) (N (o_178 P) (N (o_308 P) Z Z) Z) (N (o_244 P) Z Z)) (N (o_144 P) (N (o_210 P) Z Z) (N (o_276 P) Z Z))) (N (o_96 P) (N (o_128 P) (N (o_194 P) Z Z) (N (o_260 P) Z Z)) (N (o_162 P) (N (o_226 P) Z Z) (N (o_292 P) Z Z)))) (N (o_67 P) (N (o_86 P) (N (o_120 P) (N (o_186 P) Z Z) (N (o_252 P) Z Z)) (N (o_154 P) (N (o_218 P) Z Z) (N (o_284 P) Z Z))) (N (o_104 P) (N (o_136 P) (N (o_202 P) Z Z) (N (o_268 P) Z Z)) (N (o_170 P) (N (o_234 P) Z Z) (N (o_300 P) Z Z)))))))
noncomputable def o_315 (P : Params) : Obj := { cls := .type "dict", data := Data.dict #[kE P "__name__" 165 (kS "law_no0237_01" 484), kE P "__doc__" 166 .none, kE P "__package__" 167 .none, kE P "__loader__" 168 (.builtin "__main__.__loader__#opaque"), kE P "__spec__" 169 .none, kE P "__annotations__" 170 (.ref 6), kE P "__builtins__" 171 (.ref 4), kE P "__file__" 173 (kS "/claim/cut.py" 172), kE P "__cached__" 174 .none, kE P "F77Error" 217 (.ref 31), kE P "RunFault" 233 (.ref 44), kE P "REAL" 237 (.int 1 236), kE P "DOUBLE" 239 (.int 2 238), kE P "COMPLEX" 241 (.int 3 240), kE P "CHARACTER" 243 (.int 5 242), kE P "units_of" 250 (.ref 53), kE P "SECOND" 254 (.int 6 253), kE P "Memory" 313 (.ref 91), kE P "need_units" 322 (.ref 102), kE P "read_cell" 332 (.ref 109), kE P "load_number" 342 (.ref 116), kE P "store_number" 352 (.ref 123), kE P "load_text" 362 (.ref 130), kE P "store_text" 372 (.ref 137), kE P "pad" 380 (.ref 144), kE P "unit_size" 388 (.ref 151), kE P "extent" 398 (.ref 158), kE P "element_place" 415 (.ref 165), kE P "sub_place" 426 (.ref 172), kE P "elements_of" 432 (.ref 177), kE P "span_of" 444 (.ref 184), kE P "undefine_cells" 456 (.ref 191), kE P "fresh" 468 (.ref 198), kE P "mark_storage" 475 (.ref 205), kE P "cut_storage" 483 (.ref 212), kE P "_law_values" 491 (.ref 219), kE P "_law_pick" 499 (.ref 226), kE P "_law_own" 513 (.ref 233), kE P "_law_lay" 527 (.ref 240), kE P "_law_load" 539 (.ref 247), kE P "_law_store" 551 (.ref 254), kE P "_law_deed" 573 (.ref 261), kE P "_law_counted" 586 (.ref 268), kE P "_law_shapes" 596 (.ref 275), kE P "_law_asked" 606 (.ref 282), kE P "_law_arrays" 612 (.ref 287), kE P "law" 626 (.ref 294)] 47 }
noncomputable def o_316 (P : Params) : Obj := { cls := .none, data := Data.fields #[.int 2 0, .int 0 0, .ref 20, .int 7 0, .int 0 0, .ref 40, .int 14 0, .int 0 0, .ref 52, .int 22 0, .int 0 0, .ref 59, .int 42 0, .int 0 0, .ref 101, .int 45 0, .int 0 0, .ref 108, .int 50 0, .int 0 0, .ref 115, .int 58 0, .int 0 0, .ref 122, .int 67 0, .int 0 0, .ref 129, .int 73 0, .int 0 0, .ref 136, .int 77 0, .int 0 0, .ref 143, .int 79 0, .int 0 0, .ref 150, .int 83 0, .int 0 0, .ref 157, .int 90 0, .int 0 0, .ref 164, .int 104 0, .int 0 0, .ref 171, .int 110 0, .int 0 0, .ref 176, .int 117 0, .int 0 0, .ref 183, .int 123 0, .int 0 0, .ref 190, .int 128 0, .int 0 0, .ref 197, .int 134 0, .int 0 0, .ref 204, .int 136 0, .int 0 0, .ref 211, .int 142 0, .int 0 0, .ref 218, .int 144 0, .int 0 0, .ref 225, .int 148 0, .int 0 0, .ref 232, .int 165 0, .int 0 0, .ref 239, .int 176 0, .int 0 0, .ref 246, .int 187 0, .int 0 0, .ref 253, .int 193 0, .int 0 0, .ref 260, .int 224 0, .int 0 0, .ref 267, .int 233 0, .int 0 0, .ref 274, .int 239 0, .int 0 0, .ref 281, .int 246 0, .int 0 0, .ref 286, .int 271 0, .int 0 0, .ref 293] }
noncomputable def o_317 (P : Params) : Obj := { cls := .type "tuple", data := Data.seq #[] }
noncomputable def o_318 (P : Params) : Obj := { cls := .none, data := Data.fields #[] }
noncomputable def o_319 (P : Params) : Obj := { cls := .type "tuple", data := Data.seq #[kS "code" 590, kS "dims" 591, kS "k" 592, kS "low" 593] }
noncomputable def o_320 (P : Params) : Obj := { cls := .type "tuple", data := Data.seq #[] }
noncomputable def o_321 (P : Params) : Obj := { cls := .none, data := Data.func { name := Str.ofString "_law_shapes", qualname := Str.ofString "_law_shapes", params := kArgs (kSt 38), body := .stmts (kBody (kSt 38)), scope := kScope (kSt 38), globals := 0, closure := [], defaults := .none, kwdefaults := .none } }
noncomputable def o_322 (P : Params) : Obj := { cls := .type "code", data := Data.fields #[kS "_law_shapes" 587, kS "_law_shapes" 588, kS "/claim/cut.py" 589, .int 233 0, .int 1 0, .int 0 0, .int 0 0, .int 3 0, .ref 269, .bool true, .int 181 0, .ref 270, .none, .ref 271, .ref 272, .ref 273, .int 594 0, .int 233 0, kS "/claim/cut.py" 595] }
noncomputable def o_323 (P : Params) : Obj := { cls := .type "function", data := Data.func { name := Str.ofString "_law_shapes", qualname := Str.ofString "_law_shapes", params := kArgs (kSt 38), body := .stmts (kBody (kSt 38)), scope := kScope (kSt 38), globals := 3, closure := [], defaults := .none, kwdefaults := .none, pyModule := kS "law_no0237_01" 484, code := .ref 274 } }
noncomputable def o_324 (P : Params) : Obj := { cls := .type "tuple", data := Data.seq #[] }
noncomputable def o_325 (P : Params) : Obj := { cls := .none, data := Data.fields #[] }
noncomputable def o_326 (P : Params) : Obj := { cls := .type "tuple", data := Data.seq #[kS "ask" 600, kS "place" 601, kS "given" 602, kS "fault" 603] }
noncomputable def o_327 (P : Params) : Obj := { cls := .type "tuple", data := Data.seq #[] }
noncomputable def o_328 (P : Params) : Obj := { cls := .none, data := Data.func { name := Str.ofString "_law_asked", qualname := Str.ofString "_law_asked", params := kArgs (kSt 39), body := .stmts (kBody (kSt 39)), scope := kScope (kSt 39), globals := 0, closure := [], defaults := .none, kwdefaults := .none } }
noncomputable def o_329 (P : Params) : Obj := { cls := .type "code", data := Data.fields #[kS "_law_asked" 597, kS "_law_asked" 598, kS "/claim/cut.py" 599, .int 239 0, .int 3 0, .int 0 0, .int 0 0, .int 3 0, .ref 276, .bool true, .int 181 0, .ref 277, .none, .ref 278, .ref 279, .ref 280, .int 604 0, .int 239 0, kS "/claim/cut.py" 605] }
noncomputable def o_330 (P : Params) : Obj := { cls := .type "function", data := Data.func { name := Str.ofString "_law_asked", qualname := Str.ofString "_law_asked", params := kArgs (kSt 39), body := .stmts (kBody (kSt 39)), scope := kScope (kSt 39), globals := 3, closure := [], defaults := .none, kwdefaults := .none, pyModule := kS "law_no0237_01" 484, code := .ref 281 } }
noncomputable def o_331 (P : Params) : Obj := { cls := .type "tuple", data := Data.seq #[] }
noncomputable def o_332 (P : Params) : Obj := { cls := .none, data := Data.fields #[] }
noncomputable def o_333 (P : Params) : Obj := { cls := .none, data := Data.func { name := Str.ofString "_law_arrays", qualname := Str.ofString "_law_arrays", params := kArgs (kSt 40), body := .stmts (kBody (kSt 40)), scope := kScope (kSt 40), globals := 0, closure := [], defaults := .none, kwdefaults := .none } }
noncomputable def o_334 (P : Params) : Obj := { cls := .type "code", data := Data.fields #[kS "_law_arrays" 607, kS "_law_arrays" 608, kS "/claim/cut.py" 609, .int 246 0, .int 2 0, .int 0 0, .int 0 0, .int 3 0, .ref 283, .bool true, .int 181 0, .ref 284, .none, .none, .none, .ref 285, .int 610 0, .int 246 0, kS "/claim/cut.py" 611] }
noncomputable def o_335 (P : Params) : Obj := { cls := .type "function", data := Data.func { name := Str.ofString "_law_arrays", qualname := Str.ofString "_law_arrays", params := kArgs (kSt 40), body := .stmts (kBody (kSt 40)), scope := kScope (kSt 40), globals := 3, closure := [], defaults := .none, kwdefaults := .none, pyModule := kS "law_no0237_01" 484, code := .ref 286 } }
noncomputable def o_336 (P : Params) : Obj := { cls := .type "tuple", data := Data.seq #[] }
noncomputable def o_337 (P : Params) : Obj := { cls := .none, data := Data.fields #[] }
noncomputable def o_338 (P : Params) : Obj := { cls := .type "tuple", data := Data.seq #[kS "script" 616, kS "memory" 617, kS "units" 618, kS "texts" 619, kS "turn" 620, kS "at" 621, kS "kind" 622, kS "length" 623] }
noncomputable def o_339 (P : Params) : Obj := { cls := .type "tuple", data := Data.seq #[] }
noncomputable def o_340 (P : Params) : Obj := { cls := .none, data := Data.func { name := Str.ofString "law", qualname := Str.ofString "law", params := kArgs (kSt 41), body := .stmts (kBody (kSt 41)), scope := kScope (kSt 41), globals := 0, closure := [], defaults := .none, kwdefaults := .none } }
noncomputable def o_341 (P : Params) : Obj := { cls := .type "code", data := Data.fields #[kS "law" 613, kS "law" 614, kS "/claim/cut.py" 615, .int 271 0, .int 1 0, .int 0 0, .int 0 0, .int 3 0, .ref 288, .bool true, .int 181 0, .ref 289, .none, .ref 290, .ref 291, .ref 292, .int 624 0, .int 271 0, kS "/claim/cut.py" 625] }
noncomputable def o_342 (P : Params) : Obj := { cls := .type "function", data := Data.func { name := Str.ofString "law", qualname := Str.ofString "law", params := kArgs (kSt 41), body := .stmts (kBody (kSt 41)), scope := kScope (kSt 41), globals := 3, closure := [], defaults := .none, kwdefaults := .none, pyModule := kS "law_no0237_01" 484, code := .ref 293 } }
open PySem.W.BT renaming node → N, nil → Z in
noncomputable def tree_342 (P : Params) : BT := N (boot_o_0 P) (N (boot_o_1 P) (N (o_315 P) (N (boot_o_7 P) (N (o_52 P) (N (o_74 P) (N (o_105 P) (N (o_171 P) (N (o_301 P) Z Z) Z) (N (o_235 P) Z Z)) (N (o_137 P) (N (o_203 P) (N (o_335 P) Z Z) Z) (N (o_269 P) Z Z))) (N (o_87 P) (N (o_121 P) (N (o_187 P) (N (o_319 P) Z Z) Z) (N (o_253 P) Z Z)) (N (o_155 P) (N (o_219 P) Z Z) (N (o_285 P) Z Z)))) (N (o_60 P) (N (o_79 P) (N (o_113 P) (N (o_179 P) (N (o_309 P) Z Z) Z) (N (o_245 P) Z Z)) (N (o_145 P) (N (o_211 P) Z Z) (N (o_277 P) Z Z))) (N (o_97 P) (N (o_129 P) (N (o_195 P) (N (o_327 P) Z Z) Z) (N (o_261 P) Z Z)) (N (o_163 P) (N (o_227 P) Z Z) (N (o_293 P) Z Z))))) (N (o_43 P) (N (o_56 P) (N (o_75 P) (N (o_109 P) (N (o_175 P) (N (o_305 P) Z Z) Z) (N (o_241 P) Z Z)) (N (o_141 P) (N (o_207 P) (N (o_339 P) Z Z) Z) (N (o_273 P) Z Z))) (N (o_91 P) (N (o_125 P) (N (o_191 P) (N (o_323 P) Z Z) Z) (N (o_257 P) Z Z)) (N (o_159 P) (N (o_223 P) Z Z) (N (o_289 P) Z Z)))) (N (o_64 P) (N (o_83 P) (N (o_117 P) (N (o_183 P) (N (o_313 P) Z Z) Z) (N (o_249 P) Z Z)) (N (o_149 P) (N (o_215 P) Z Z) (N (o_281 P) Z Z))) (N (o_101 P) (N (o_133 P) (N (o_199 P) (N (o_331 P) Z Z) Z) (N (o_265 P) Z Z)) (N (o_167 P) (N (o_231 P) Z Z) (N (o_297 P) Z Z)))))) (N (boot_o_5 P) (N (boot_o_9 P) (N (o_54 P) (N (o_70 P) (N (o_107 P) (N (o_173 P) (N (o_303 P) Z Z) Z) (N (o_239 P) Z Z)) (N (o_139 P) (N (o_205 P) (N (o_337 P) Z Z) Z) (N (o_271 P) Z Z))) (N (o_89 P) (N (o_123 P) (N (o_189 P) (N (o_321 P) Z Z) Z) (N (o_255 P) Z Z)) (N (o_157 P) (N (o_221 P) Z Z) (N (o_287 P) Z Z)))) (N (o_62 P) (N (o_81 P) (N (o_115 P) (N (o_181 P) (N (o_311 P) Z Z) Z) (N (o_247 P) Z Z)) (N (o_147 P) (N (o_213 P) Z Z) (N (o_279 P) Z Z))) (N (o_99 P) (N (o_131 P) (N (o_197 P) (N (o_329 P) Z Z) Z) (N (o_263 P) Z Z)) (N (o_165 P) (N (o_229 P) Z Z) (N (o_295 P) Z Z))))) (N (o_45 P) (N (o_58 P) (N (o_77 P) (N (o_111 P) (N (o_177 P) (N (o_307 P) Z Z) Z) (N (o_243 P) Z Z)) (N (o_143 P) (N (o_209 P) (N (o_341 P) Z Z) Z) (N (o_275 P) Z Z))) (N (o_93 P) (N (o_127 P) (N (o_193 P) (N (o_325 P) Z Z) Z) (N (o_259 P) Z Z)) (N (o_161 P) (N (o_225 P) Z Z) (N (o_291 P) Z Z)))) (N (o_66 P) (N (o_85 P) (N (o_119 P) (N (o_185 P) (N (o_317 P) Z Z) Z) (N (o_251 P) Z Z)) (N (o_151 P) (N (o_217 P) Z Z) (N (o_283 P) Z Z))) (N (o_103 P) (N (o_135 P) (N (o_201 P) (N (o_333 P) Z Z) Z) (N (o_267 P) Z Z)) (N (o_169 P) (N (o_233 P) Z Z) (N (o_299 P) Z Z))))))) (N (o_49 P) (N (boot_o_4 P) (N (boot_o_8 P) (N (o_53 P) (N (o_69 P) (N (o_106 P) (N (o_172 P) (N (o_302 P) Z Z) Z) (N (o_238 P) Z Z)) (N (o_138 P) (N (o_204 P) (N (o_336 P) Z Z) Z) (N (o_270 P) Z Z))) (N (o_88 P) (N (o_122 P) (N (o_188 P) (N (o_320 P) Z Z) Z) (N (o_254 P) Z Z)) (N (o_156 P) (N (o_220 P) Z Z) (N (o_286 P) Z Z)))) (N (o_61 P) (N (o_80 P) (N (o_114 P) (N (o_180 P) (N (o_310 P) Z Z) Z) (N (o_246 P) Z Z)) (N (o_146 P) (N (o_212 P) Z Z) (N (o_278 P) Z Z))) (N (o_98 P) (N (o_130 P) (N (o_196 P) (N (o_328 P) Z Z) Z) (N (o_262 P) Z Z)) (N (o_164 P) (N (o_228 P) Z Z) (N (o_294 P) Z Z))))) (N (o_316 P) (N (o_57 P) (N (o_76 P) (N (o_110 P) (N (o_176 P) (N (o_306 P) Z Z) Z) (N (o_242 P) Z Z)) (N (o_142 P) (N (o_208 P) (N (o_340 P) Z Z) Z) (N (o_274 P) Z Z))) (N (o_92 P) (N (o_126 P) (N (o_192 P) (N (o_324 P) Z Z) Z) (N (o_258 P) Z Z)) (N (o_160 P) (N (o_224 P) Z Z) (N (o_290 P) Z Z)))) (N (o_65 P) (N (o_84 P) (N (o_118 P) (N (o_184 P) (N (o_314 P) Z Z) Z) (N (o_250 P) Z Z)) (N (o_150 P) (N (o_216 P) Z Z) (N (o_282 P) Z Z))) (N (o_102 P) (N (o_134 P) (N (o_200 P) (N (o_332 P) Z Z) Z) (N (o_266 P) Z Z)) (N (o_168 P) (N (o_232 P) Z Z) (N (o_298 P) Z Z)))))) (N (boot_o_6 P) (N (boot_o_10 P) (N (o_55 P) (N (o_71 P) (N (o_108 P) (N (o_174 P) (N (o_304 P) Z Z) Z) (N (o_240 P) Z Z)) (N (o_140 P) (N (o_206 P) (N (o_338 P) Z Z) Z) (N (o_272 P) Z Z))) (N (o_90 P) (N (o_124 P) (N (o_190 P) (N (o_322 P) Z Z) Z) (N (o_256 P) Z Z)) (N (o_158 P) (N (o_222 P) Z Z) (N (o_288 P) Z Z)))) (N (o_63 P) (N (o_82 P) (N (o_116 P) (N (o_182 P) (N (o_312 P) Z Z) Z) (N (o_248 P) Z Z)) (N (o_148 P) (N (o_214 P) Z Z) (N (o_280 P) Z Z))) (N (o_100 P) (N (o_132 P) (N (o_198 P) (N (o_330 P) Z Z) Z) (N (o_264 P) Z Z)) (N (o_166 P) (N (o_230 P) Z Z) (N (o_296 P) Z Z))))) (N (o_46 P) (N (o_59 P) (N (o_78 P) (N (o_112 P) (N (o_178 P) (N (o_308 P) Z Z) Z) (N (o_244 P) Z Z)) (N (o_144 P) (N (o_210 P) (N (o_342 P) Z Z) Z) (N (o_276 P) Z Z))) (N (o_96 P) (N (o_128 P) (N (o_194 P) (N (o_326 P) Z Z) Z) (N (o_260 P) Z Z)) (N (o_162 P) (N (o_226 P) Z Z) (N (o_292 P) Z Z)))) (N (o_67 P) (N (o_86 P) (N (o_120 P) (N (o_186 P) (N (o_318 P) Z Z) Z) (N (o_252 P) Z Z)) (N (o_154 P) (N (o_218 P) Z Z) (N (o_284 P) Z Z))) (N (o_104 P) (N (o_136 P) (N (o_202 P) (N (o_334 P) Z Z) Z) (N (o_268 P) Z Z)) (N (o_170 P) (N (o_234 P) Z Z) (N (o_300 P) Z Z)))))))
noncomputable def heap_343 (P : Params) : Heap := { objs := { toList := [boot_o_0 P, boot_o_1 P, o_49 P, o_315 P, boot_o_4 P, boot_o_5 P, boot_o_6 P, boot_o_7 P, boot_o_8 P, boot_o_9 P, boot_o_10 P, o_43 P, o_316 P, o_45 P, o_46 P, o_52 P, o_53 P, o_54 P, o_55 P, o_56 P, o_57 P, o_58 P, o_59 P, o_60 P, o_61 P, o_62 P, o_63 P, o_64 P, o_65 P, o_66 P, o_67 P, o_74 P, o_69 P, o_70 P, o_71 P, o_75 P, o_76 P, o_77 P, o_78 P, o_79 P, o_80 P, o_81 P, o_82 P, o_83 P, o_84 P, o_85 P, o_86 P, o_87 P, o_88 P, o_89 P, o_90 P, o_91 P, o_92 P, o_93 P, o_96 P, o_97 P, o_98 P, o_99 P, o_100 P, o_101 P, o_102 P, o_103 P, o_104 P, o_105 P, o_106 P, o_107 P, o_108 P, o_109 P, o_110 P, o_111 P, o_112 P, o_113 P, o_114 P, o_115 P, o_116 P, o_117 P, o_118 P, o_119 P, o_120 P, o_121 P, o_122 P, o_123 P, o_124 P, o_125 P, o_126 P, o_127 P, o_128 P, o_129 P, o_130 P, o_131 P, o_132 P, o_133 P, o_134 P, o_135 P, o_136 P, o_137 P, o_138 P, o_139 P, o_140 P, o_141 P, o_142 P, o_143 P, o_144 P, o_145 P, o_146 P, o_147 P, o_148 P, o_149 P, o_150 P, o_151 P, o_154 P, o_155 P, o_156 P, o_157 P, o_158 P, o_159 P, o_160 P, o_161 P, o_162 P, o_163 P, o_164 P, o_165 P, o_166 P, o_167 P, o_168 P, o_169 P, o_170 P, o_171 P, o_172 P, o_173 P, o_174 P, o_175 P, o_176 P, o_177 P, o_178 P, o_179 P, o_180 P, o_181 P, o_182 P, o_183 P, o_184 P, o_185 P, o_186 P, o_187 P, o_188 P, o_189 P, o_190 P, o_191 P, o_192 P, o_193 P, o_194 P, o_195 P, o_196 P, o_197 P, o_198 P, o_199 P, o_200 P, o_201 P, o_202 P, o_203 P, o_204 P, o_205 P, o_206 P, o_207 P, o_208 P, o_209 P, o_210 P, o_211 P, o_212 P, o_213 P, o_214 P, o_215 P, o_216 P, o_217 P, o_218 P, o_219 P, o_220 P, o_221 P, o_222 P, o_223 P, o_224 P, o_225 P, o_226 P, o_227 P, o_228 P, o_229 P, o_230 P, o_231 P, o_232 P, o_233 P, o_234 P, o_235 P, o_238 P, o_239 P, o_240 P, o_241 P, o_242 P, o_243 P, o_244 P, o_245 P, o_246 P, o_247 P, o_248 P, o_249 P, o_250 P, o_251 P, o_252 P, o_253 P, o_254 P, o_255 P, o_256 P, o_257 P, o_258 P, o_259 P, o_260 P, o_261 P, o_262 P, o_263 P, o_264 P, o_265 P, o_266 P, o_267 P, o_268 P, o_269 P, o_270 P, o_271 P, o_272 P, o_273 P, o_274 P, o_275 P, o_276 P, o_277 P, o_278 P, o_279 P, o_280 P, o_281 P, o_282 P, o_283 P, o_284 P, o_285 P, o_286 P, o_287 P, o_288 P, o_289 P, o_290 P, o_291 P, o_292 P, o_293 P, o_294 P, o_295 P, o_296 P, o_297 P, o_298 P, o_299 P, o_300 P, o_301 P, o_302 P, o_303 P, o_304 P, o_305 P, o_306 P, o_307 P, o_308 P, o_309 P, o_310 P, o_311 P, o_312 P, o_313 P, o_314 P, o_317 P, o_318 P, o_319 P, o_320 P, o_321 P, o_322 P, o_323 P, o_324 P, o_325 P, o_326 P, o_327 P, o_328 P, o_329 P, o_330 P, o_331 P, o_332 P, o_333 P, o_334 P, o_335 P, o_336 P, o_337 P, o_338 P, o_339 P, o_340 P, o_341 P, o_342 P] } }
noncomputable abbrev p0 : Program := PySem.Challenge.pw_no0237_01
noncomputable def env : Env := { scope := p0.main.scope, locals := mainNs, globals := mainNs, cells := [], code := .ref 13, frame := some 14 }
noncomputable abbrev bd : Code := .body (behindTheImports p0) env
noncomputable abbrev an : Option Value := some (.ref 6)
noncomputable abbrev q0 : Pos := ⟨0, 0, 0, 0⟩
noncomputable abbrev sT (T : Params → BT) (n k : Nat) (w : World) (os : OsState) : SharedT := { tree := T w.params, n := n, life := {}, gens := #[], drawn := {}, toks := k, os := os }
noncomputable def st0 : List Stmt := [kSt 0, kSt 1]
theorem run0 (w : World) : (fun os => segRunT treeTable p0 w 11 an 1 238 (sT tree_47 15 187 w os) (piecesOf st0 env bd ⟨0, 0, 0, 0⟩ [topFrame q0])) = fun os => some (Flow.next, sT tree_71 35 218 w os, bd, ⟨2, 0, 6, 24⟩) := by kernel_rfl
noncomputable def st1 : List Stmt := [kSt 2, kSt 3, kSt 4, kSt 5, kSt 6, kSt 7, kSt 8, kSt 9, kSt 10]
theorem run1 (w : World) : (fun os => segRunT treeTable p0 w 11 an 1 306 (sT tree_71 35 218 w os) (piecesOf st1 env bd ⟨2, 0, 6, 24⟩ [topFrame q0])) = fun os => some (Flow.next, sT tree_93 54 255 w os, bd, ⟨21, 0, 21, 6⟩) := by kernel_rfl
noncomputable def st2 : List Stmt := [kSt 11, kSt 12, kSt 13]
theorem run2 (w : World) : (fun os => segRunT treeTable p0 w 11 an 1 388 (sT tree_93 54 255 w os) (piecesOf st2 env bd ⟨21, 0, 21, 6⟩ [topFrame q0])) = fun os => some (Flow.next, sT tree_151 110 333 w os, bd, ⟨45, 0, 49, 18⟩) := by kernel_rfl
noncomputable def st3 : List Stmt := [kSt 14, kSt 15, kSt 16, kSt 17, kSt 18, kSt 19, kSt 20, kSt 21, kSt 22, kSt 23, kSt 24, kSt 25]
theorem run3 (w : World) : (fun os => segRunT treeTable p0 w 11 an 1 387 (sT tree_151 110 333 w os) (piecesOf st3 env bd ⟨45, 0, 49, 18⟩ [topFrame q0])) = fun os => some (Flow.next, sT tree_235 192 457 w os, bd, ⟨123, 0, 127, 23⟩) := by kernel_rfl
noncomputable def st4 : List Stmt := [kSt 26, kSt 27, kSt 28, kSt 29, kSt 30, kSt 31, kSt 32, kSt 33, kSt 34, kSt 35, kSt 36, kSt 37]
theorem run4 (w : World) : (fun os => segRunT treeTable p0 w 11 an 1 380 (sT tree_235 192 457 w os) (piecesOf st4 env bd ⟨123, 0, 127, 23⟩ [topFrame q0])) = fun os => some (Flow.next, sT tree_314 269 587 w os, bd, ⟨224, 0, 232, 15⟩) := by kernel_rfl
noncomputable def st5 : List Stmt := [kSt 38, kSt 39, kSt 40, kSt 41]
theorem run5 (w : World) : (fun os => segRunT treeTable p0 w 11 an 1 127 (sT tree_314 269 587 w os) (piecesOf st5 env bd ⟨224, 0, 232, 15⟩ [topFrame q0])) = fun os => some (Flow.next, sT tree_342 295 627 w os, bd, ⟨271, 0, 288, 126⟩) := by kernel_rfl
theorem pre (w : World) : (fun os => topGo treeTable p0 w 11 an 12 ⟨boot_heap w.params, #[], boot_drawn, boot_toks, os⟩ (topStub p0)) = fun os => some (⟨heap_46 w.params, #[], {}, 187, os⟩, ⟨denote treeTable bd, bd, q0, [topFrame q0]⟩) := by kernel_rfl
theorem block (w : World) : (fun os => segRun treeTable p0 w 11 an 1 1 ⟨heap_46 w.params, #[], {}, 187, os⟩ (blockOf (behindTheImports p0) env bd q0 [topFrame q0])) = fun os => some (Flow.next, (sT tree_47 15 187 w os).abs, bd, q0) := by kernel_rfl
theorem fini (w : World) : (fun os => topRun treeTable p0 w 11 an 2 (sT tree_342 295 627 w os).abs ⟨doneF .next, bd, ⟨271, 0, 288, 126⟩, [topFrame q0]⟩) = fun os => some ⟨heap_343 w.params, #[], {}, 627, os⟩ := by kernel_rfl
theorem body_eq : behindTheImports p0 = st0 ++ (st1 ++ (st2 ++ (st3 ++ (st4 ++ (st5 ++ []))))) := by kernel_rfl
theorem run (w : World) (os : OsState) : topRun treeTable p0 w 11 an (12 + (1 + (238 + (306 + (388 + (387 + (380 + (127 + 2)))))))) ⟨boot_heap w.params, #[], boot_drawn, boot_toks, os⟩ (topStub p0) = some ⟨heap_343 w.params, #[], {}, 627, os⟩ := by
  refine go_top (congrFun (pre w) os) (piece_block (env := env) (congrFun (block w) os) ?_)
  have h : topRun treeTable p0 w 11 an (238 + (306 + (388 + (387 + (380 + (127 + 2)))))) (sT tree_47 15 187 w os).abs (restOf (st0 ++ (st1 ++ (st2 ++ (st3 ++ (st4 ++ (st5 ++ [])))))) env bd q0 [topFrame q0]) = some ⟨heap_343 w.params, #[], {}, 627, os⟩ :=
    piece_app (segRun_of (congrFun (run0 w) os)) (piece_app (segRun_of (congrFun (run1 w) os)) (piece_app (segRun_of (congrFun (run2 w) os)) (piece_app (segRun_of (congrFun (run3 w) os)) (piece_app (segRun_of (congrFun (run4 w) os)) (piece_app (segRun_of (congrFun (run5 w) os)) (piece_nil (congrFun (fini w) os)))))))
  rw [← body_eq] at h
  exact h
end Pc
end Mine
end

section
set_option maxRecDepth 100000
set_option maxHeartbeats 0
namespace Mine
noncomputable def kAs : List Addr := [2, 3, 15, 22, 24, 25, 27, 28, 29, 30, 31, 32, 35, 42, 43, 44, 47, 49, 50, 52, 53, 61, 63, 64, 66, 67, 68, 70, 71, 73, 74, 75, 77, 78, 80, 81, 82, 84, 85, 87, 88, 89, 90, 91, 92, 93, 96, 98, 99, 101, 102, 103, 105, 106, 108, 109, 110, 112, 113, 115, 116, 117, 119, 120, 122, 123, 124, 126, 127, 129, 130, 131, 133, 134, 136, 137, 138, 140, 141, 143, 144, 145, 147, 148, 150, 151, 152, 154, 155, 157, 158, 159, 161, 162, 164, 165, 166, 168, 169, 171, 172, 173, 176, 177, 178, 180, 181, 183, 184, 185, 187, 188, 190, 191, 192, 194, 195, 197, 198, 199, 201, 202, 204, 205, 206, 208, 209, 211, 212, 213, 215, 216, 218, 219, 220, 222, 223, 225, 226, 227, 229, 230, 232, 233, 234, 236, 237, 239, 240, 241, 243, 244, 246, 247, 248, 250, 251, 253, 254, 255, 257, 258, 260, 261, 262, 264, 265, 267, 268, 269, 271, 272, 274, 275, 276, 278, 279, 281, 282, 283, 286, 287, 288, 290, 291, 293, 294]
theorem kAs_eq (P : Params) : kAs = (kFrag P).map (·.1) := by kernel_rfl
theorem andt {a b : Bool} (x : a = true) (y : b = true) : (a && b) = true := by rw [x, y]; rfl
theorem progResolves : namesResolve PySem.Challenge.rw_no0237_01.row.prog = true := by kernel_rfl
theorem progMeets : (namesMeet PySem.Challenge.rw_no0237_01.row.prog PySem.Challenge.rw_no0237_01.row.prog.main.body fun _ n => attrL n) = true := by kernel_rfl
theorem rowLooks : looksOpen PySem.Challenge.rw_no0237_01.row.prog = true := by
  unfold looksOpen
  repeat' (first | with_reducible exact progResolves | with_reducible exact progMeets | with_reducible apply andt)
  all_goals kernel_rfl
theorem rowSaid : PySem.Challenge.rw_no0237_01.row.wellSaid = true := by
  unfold OpenRow.wellSaid OpenRow.partSaid
  repeat' (first | with_reducible exact rowLooks | with_reducible apply andt)
  all_goals kernel_rfl
theorem wellSaid : PySem.Challenge.rw_no0237_01.wellSaid = true := by
  unfold OpenLaw.wellSaid
  repeat' (first | with_reducible exact rowSaid | with_reducible apply andt)
  all_goals kernel_rfl
noncomputable abbrev sX : Shared → Bool := fun s => xlAt kView [] s && recOk (RowW.records PySem.Challenge.rw_no0237_01.row.toRowW) s
noncomputable abbrev sE (w : World) (os : OsState) : Shared := ⟨Pc.heap_343 w.params, #[], {}, 627, os⟩
noncomputable abbrev sN (w : World) (os : OsState) := openSeen kView [] (importedModules PySem.Challenge.pw_no0237_01.main.body) sX true (sE w os)
noncomputable abbrev sG := openGood kView []
theorem lookN (w : World) (os : OsState) : sN w os = sG := by kernel_rfl
theorem lookA (w : World) (os : OsState) : (staticsOk (importedModules PySem.Challenge.pw_no0237_01.main.body) (boot_heap w.params) (Pc.heap_343 w.params) && namesBound PySem.Challenge.pw_no0237_01 (Pc.heap_343 w.params) && gensDone (sE w os) && laidKept (boot_heap w.params) (Pc.heap_343 w.params)) = true := by kernel_rfl
theorem lookY (w : World) (os : OsState) : Hook.obs (kHook kFrag kAs kAs_eq) (sE w os) = Hook.val (kHook kFrag kAs kAs_eq) w := by kernel_rfl
theorem opens (w : World) : (fencedOpening treeTable PySem.Challenge.pw_no0237_01 w 3766).map (fun s => (s.heap, s.gens, s.drawn, s.toks)) = some (boot_heap w.params, Array.mk [], boot_drawn, boot_toks) := boot_open (by kernel_rfl) rfl (fun s => by kernel_rfl) w
theorem left : LeftO PySem.Challenge.pw_no0237_01 kView [] sX (Hook.obs (kHook kFrag kAs kAs_eq)) (Hook.val (kHook kFrag kAs kAs_eq)) 3766 :=
  LeftO.of_pieces (H₀ := boot_heap) (H₁ := Pc.heap_343) (gs₀ := #[]) (gs₁ := #[]) (d₀ := boot_drawn) (d₁ := {}) (k₀ := boot_toks) (k₁ := 627) (m₀ := 11) (ann := Pc.an) (M := 12 + (1 + (238 + (306 + (388 + (387 + (380 + (127 + 2))))))))
    opens (fun w => by kernel_rfl) Pc.run rfl (fun w => funext fun os => Prod.ext (lookA w os) (Prod.ext (lookN w os) (lookY w os)))
end Mine
end

section
set_option autoImplicit false
set_option maxRecDepth 1000000
set_option maxHeartbeats 4000000
namespace Mine

noncomputable def AllOf : Nat → (List Value → Prop) → Prop
  | 0, P => P []
  | n + 1, P => ∀ v, AllOf n fun vs => P (v :: vs)
theorem allOf : ∀ {n : Nat} {P : List Value → Prop}, AllOf n P → ∀ us : List Value, us.length = n → P us
  | 0, _, h, [], _ => h
  | _ + 1, _, h, v :: us, e => allOf (h v) us (Nat.succ.inj e)

noncomputable def fa : Fn → Addr
  | .unitsOf => 53
  | .load => 74
  | .store => 81
  | .undefine => 88
  | .needUnits => 102
  | .readCell => 109
  | .loadNumber => 116
  | .storeNumber => 123
  | .loadText => 130
  | .storeText => 137
  | .pad => 144
  | .unitSize => 151
  | .extent => 158
  | .elementPlace => 165
  | .subPlace => 172
  | .elementsOf => 177
  | .spanOf => 184
  | .undefineCells => 191
  | .fresh => 198
  | .markStorage => 205
  | .cutStorage => 212
  | .lawValues => 219
  | .lawPick => 226
  | .lawOwn => 233
  | .lawLay => 240
  | .lawLoad => 247
  | .lawStore => 254
  | .lawDeed => 261
  | .lawCounted => 268
  | .lawShapes => 275
  | .lawAsked => 282
  | .lawArrays => 287
theorem tab_unitsOf (P : Params) : FnTab (kFrag P) 53 d_unitsOf := by
  refine ⟨⟨_, _, _, _, _, rfl, rfl, rfl, rfl, rfl, rfl, rfl, rfl, ?_, ?_, ?_, ?_, ?_⟩, ?_, ?_⟩
  · kernel_rfl
  · exact allOf (n := 1) (by intro _; change _ = _; kernel_rfl)
  · decide +kernel
  · decide +kernel
  · kernel_rfl
  · decide +kernel
  · decide +kernel
theorem tab_load (P : Params) : FnTab (kFrag P) 74 d_load := by
  refine ⟨⟨_, _, _, _, _, rfl, rfl, rfl, rfl, rfl, rfl, rfl, rfl, ?_, ?_, ?_, ?_, ?_⟩, ?_, ?_⟩
  · kernel_rfl
  · exact allOf (n := 2) (by intro _ _; change _ = _; kernel_rfl)
  · decide +kernel
  · decide +kernel
  · kernel_rfl
  · decide +kernel
  · decide +kernel
theorem tab_store (P : Params) : FnTab (kFrag P) 81 d_store := by
  refine ⟨⟨_, _, _, _, _, rfl, rfl, rfl, rfl, rfl, rfl, rfl, rfl, ?_, ?_, ?_, ?_, ?_⟩, ?_, ?_⟩
  · kernel_rfl
  · exact allOf (n := 3) (by intro _ _ _; change _ = _; kernel_rfl)
  · decide +kernel
  · decide +kernel
  · kernel_rfl
  · decide +kernel
  · decide +kernel
theorem tab_undefine (P : Params) : FnTab (kFrag P) 88 d_undefine := by
  refine ⟨⟨_, _, _, _, _, rfl, rfl, rfl, rfl, rfl, rfl, rfl, rfl, ?_, ?_, ?_, ?_, ?_⟩, ?_, ?_⟩
  · kernel_rfl
  · exact allOf (n := 2) (by intro _ _; change _ = _; kernel_rfl)
  · decide +kernel
  · decide +kernel
  · kernel_rfl
  · decide +kernel
  · decide +kernel
theorem tab_needUnits (P : Params) : FnTab (kFrag P) 102 d_needUnits := by
  refine ⟨⟨_, _, _, _, _, rfl, rfl, rfl, rfl, rfl, rfl, rfl, rfl, ?_, ?_, ?_, ?_, ?_⟩, ?_, ?_⟩
  · kernel_rfl
  · exact allOf (n := 3) (by intro _ _ _; change _ = _; kernel_rfl)
  · decide +kernel
  · decide +kernel
  · kernel_rfl
  · decide +kernel
  · decide +kernel
theorem tab_readCell (P : Params) : FnTab (kFrag P) 109 d_readCell := by
  refine ⟨⟨_, _, _, _, _, rfl, rfl, rfl, rfl, rfl, rfl, rfl, rfl, ?_, ?_, ?_, ?_, ?_⟩, ?_, ?_⟩
  · kernel_rfl
  · exact allOf (n := 3) (by intro _ _ _; change _ = _; kernel_rfl)
  · decide +kernel
  · decide +kernel
  · kernel_rfl
  · decide +kernel
  · decide +kernel
theorem tab_loadNumber (P : Params) : FnTab (kFrag P) 116 d_loadNumber := by
  refine ⟨⟨_, _, _, _, _, rfl, rfl, rfl, rfl, rfl, rfl, rfl, rfl, ?_, ?_, ?_, ?_, ?_⟩, ?_, ?_⟩
  · kernel_rfl
  · exact allOf (n := 3) (by intro _ _ _; change _ = _; kernel_rfl)
  · decide +kernel
  · decide +kernel
  · kernel_rfl
  · decide +kernel
  · decide +kernel
theorem tab_storeNumber (P : Params) : FnTab (kFrag P) 123 d_storeNumber := by
  refine ⟨⟨_, _, _, _, _, rfl, rfl, rfl, rfl, rfl, rfl, rfl, rfl, ?_, ?_, ?_, ?_, ?_⟩, ?_, ?_⟩
  · kernel_rfl
  · exact allOf (n := 4) (by intro _ _ _ _; change _ = _; kernel_rfl)
  · decide +kernel
  · decide +kernel
  · kernel_rfl
  · decide +kernel
  · decide +kernel
theorem tab_loadText (P : Params) : FnTab (kFrag P) 130 d_loadText := by
  refine ⟨⟨_, _, _, _, _, rfl, rfl, rfl, rfl, rfl, rfl, rfl, rfl, ?_, ?_, ?_, ?_, ?_⟩, ?_, ?_⟩
  · kernel_rfl
  · exact allOf (n := 3) (by intro _ _ _; change _ = _; kernel_rfl)
  · decide +kernel
  · decide +kernel
  · kernel_rfl
  · decide +kernel
  · decide +kernel
theorem tab_storeText (P : Params) : FnTab (kFrag P) 137 d_storeText := by
  refine ⟨⟨_, _, _, _, _, rfl, rfl, rfl, rfl, rfl, rfl, rfl, rfl, ?_, ?_, ?_, ?_, ?_⟩, ?_, ?_⟩
  · kernel_rfl
  · exact allOf (n := 3) (by intro _ _ _; change _ = _; kernel_rfl)
  · decide +kernel
  · decide +kernel
  · kernel_rfl
  · decide +kernel
  · decide +kernel
theorem tab_pad (P : Params) : FnTab (kFrag P) 144 d_pad := by
  refine ⟨⟨_, _, _, _, _, rfl, rfl, rfl, rfl, rfl, rfl, rfl, rfl, ?_, ?_, ?_, ?_, ?_⟩, ?_, ?_⟩
  · kernel_rfl
  · exact allOf (n := 2) (by intro _ _; change _ = _; kernel_rfl)
  · decide +kernel
  · decide +kernel
  · kernel_rfl
  · decide +kernel
  · decide +kernel
theorem tab_unitSize (P : Params) : FnTab (kFrag P) 151 d_unitSize := by
  refine ⟨⟨_, _, _, _, _, rfl, rfl, rfl, rfl, rfl, rfl, rfl, rfl, ?_, ?_, ?_, ?_, ?_⟩, ?_, ?_⟩
  · kernel_rfl
  · exact allOf (n := 2) (by intro _ _; change _ = _; kernel_rfl)
  · decide +kernel
  · decide +kernel
  · kernel_rfl
  · decide +kernel
  · decide +kernel
theorem tab_extent (P : Params) : FnTab (kFrag P) 158 d_extent := by
  refine ⟨⟨_, _, _, _, _, rfl, rfl, rfl, rfl, rfl, rfl, rfl, rfl, ?_, ?_, ?_, ?_, ?_⟩, ?_, ?_⟩
  · kernel_rfl
  · exact allOf (n := 1) (by intro _; change _ = _; kernel_rfl)
  · decide +kernel
  · decide +kernel
  · kernel_rfl
  · decide +kernel
  · decide +kernel
theorem tab_elementPlace (P : Params) : FnTab (kFrag P) 165 d_elementPlace := by
  refine ⟨⟨_, _, _, _, _, rfl, rfl, rfl, rfl, rfl, rfl, rfl, rfl, ?_, ?_, ?_, ?_, ?_⟩, ?_, ?_⟩
  · kernel_rfl
  · exact allOf (n := 2) (by intro _ _; change _ = _; kernel_rfl)
  · decide +kernel
  · decide +kernel
  · kernel_rfl
  · decide +kernel
  · decide +kernel
theorem tab_subPlace (P : Params) : FnTab (kFrag P) 172 d_subPlace := by
  refine ⟨⟨_, _, _, _, _, rfl, rfl, rfl, rfl, rfl, rfl, rfl, rfl, ?_, ?_, ?_, ?_, ?_⟩, ?_, ?_⟩
  · kernel_rfl
  · exact allOf (n := 3) (by intro _ _ _; change _ = _; kernel_rfl)
  · decide +kernel
  · decide +kernel
  · kernel_rfl
  · decide +kernel
  · decide +kernel
theorem tab_elementsOf (P : Params) : FnTab (kFrag P) 177 d_elementsOf := by
  refine ⟨⟨_, _, _, _, _, rfl, rfl, rfl, rfl, rfl, rfl, rfl, rfl, ?_, ?_, ?_, ?_, ?_⟩, ?_, ?_⟩
  · kernel_rfl
  · exact allOf (n := 1) (by intro _; change _ = _; kernel_rfl)
  · decide +kernel
  · decide +kernel
  · kernel_rfl
  · decide +kernel
  · decide +kernel
theorem tab_spanOf (P : Params) : FnTab (kFrag P) 184 d_spanOf := by
  refine ⟨⟨_, _, _, _, _, rfl, rfl, rfl, rfl, rfl, rfl, rfl, rfl, ?_, ?_, ?_, ?_, ?_⟩, ?_, ?_⟩
  · kernel_rfl
  · exact allOf (n := 1) (by intro _; change _ = _; kernel_rfl)
  · decide +kernel
  · decide +kernel
  · kernel_rfl
  · decide +kernel
  · decide +kernel
theorem tab_undefineCells (P : Params) : FnTab (kFrag P) 191 d_undefineCells := by
  refine ⟨⟨_, _, _, _, _, rfl, rfl, rfl, rfl, rfl, rfl, rfl, rfl, ?_, ?_, ?_, ?_, ?_⟩, ?_, ?_⟩
  · kernel_rfl
  · exact allOf (n := 4) (by intro _ _ _ _; change _ = _; kernel_rfl)
  · decide +kernel
  · decide +kernel
  · kernel_rfl
  · decide +kernel
  · decide +kernel
theorem tab_fresh (P : Params) : FnTab (kFrag P) 198 d_fresh := by
  refine ⟨⟨_, _, _, _, _, rfl, rfl, rfl, rfl, rfl, rfl, rfl, rfl, ?_, ?_, ?_, ?_, ?_⟩, ?_, ?_⟩
  · kernel_rfl
  · exact allOf (n := 3) (by intro _ _ _; change _ = _; kernel_rfl)
  · decide +kernel
  · decide +kernel
  · kernel_rfl
  · decide +kernel
  · decide +kernel
theorem tab_markStorage (P : Params) : FnTab (kFrag P) 205 d_markStorage := by
  refine ⟨⟨_, _, _, _, _, rfl, rfl, rfl, rfl, rfl, rfl, rfl, rfl, ?_, ?_, ?_, ?_, ?_⟩, ?_, ?_⟩
  · kernel_rfl
  · exact allOf (n := 1) (by intro _; change _ = _; kernel_rfl)
  · decide +kernel
  · decide +kernel
  · kernel_rfl
  · decide +kernel
  · decide +kernel
theorem tab_cutStorage (P : Params) : FnTab (kFrag P) 212 d_cutStorage := by
  refine ⟨⟨_, _, _, _, _, rfl, rfl, rfl, rfl, rfl, rfl, rfl, rfl, ?_, ?_, ?_, ?_, ?_⟩, ?_, ?_⟩
  · kernel_rfl
  · exact allOf (n := 2) (by intro _ _; change _ = _; kernel_rfl)
  · decide +kernel
  · decide +kernel
  · kernel_rfl
  · decide +kernel
  · decide +kernel
theorem tab_lawValues (P : Params) : FnTab (kFrag P) 219 d_lawValues := by
  refine ⟨⟨_, _, _, _, _, rfl, rfl, rfl, rfl, rfl, rfl, rfl, rfl, ?_, ?_, ?_, ?_, ?_⟩, ?_, ?_⟩
  · kernel_rfl
  · exact allOf (n := 0) (by change _ = _; kernel_rfl)
  · decide +kernel
  · decide +kernel
  · kernel_rfl
  · decide +kernel
  · decide +kernel
theorem tab_lawPick (P : Params) : FnTab (kFrag P) 226 d_lawPick := by
  refine ⟨⟨_, _, _, _, _, rfl, rfl, rfl, rfl, rfl, rfl, rfl, rfl, ?_, ?_, ?_, ?_, ?_⟩, ?_, ?_⟩
  · kernel_rfl
  · exact allOf (n := 2) (by intro _ _; change _ = _; kernel_rfl)
  · decide +kernel
  · decide +kernel
  · kernel_rfl
  · decide +kernel
  · decide +kernel
theorem tab_lawOwn (P : Params) : FnTab (kFrag P) 233 d_lawOwn := by
  refine ⟨⟨_, _, _, _, _, rfl, rfl, rfl, rfl, rfl, rfl, rfl, rfl, ?_, ?_, ?_, ?_, ?_⟩, ?_, ?_⟩
  · kernel_rfl
  · exact allOf (n := 5) (by intro _ _ _ _ _; change _ = _; kernel_rfl)
  · decide +kernel
  · decide +kernel
  · kernel_rfl
  · decide +kernel
  · decide +kernel
theorem tab_lawLay (P : Params) : FnTab (kFrag P) 240 d_lawLay := by
  refine ⟨⟨_, _, _, _, _, rfl, rfl, rfl, rfl, rfl, rfl, rfl, rfl, ?_, ?_, ?_, ?_, ?_⟩, ?_, ?_⟩
  · kernel_rfl
  · exact allOf (n := 7) (by intro _ _ _ _ _ _ _; change _ = _; kernel_rfl)
  · decide +kernel
  · decide +kernel
  · kernel_rfl
  · decide +kernel
  · decide +kernel
theorem tab_lawLoad (P : Params) : FnTab (kFrag P) 247 d_lawLoad := by
  refine ⟨⟨_, _, _, _, _, rfl, rfl, rfl, rfl, rfl, rfl, rfl, rfl, ?_, ?_, ?_, ?_, ?_⟩, ?_, ?_⟩
  · kernel_rfl
  · exact allOf (n := 4) (by intro _ _ _ _; change _ = _; kernel_rfl)
  · decide +kernel
  · decide +kernel
  · kernel_rfl
  · decide +kernel
  · decide +kernel
theorem tab_lawStore (P : Params) : FnTab (kFrag P) 254 d_lawStore := by
  refine ⟨⟨_, _, _, _, _, rfl, rfl, rfl, rfl, rfl, rfl, rfl, rfl, ?_, ?_, ?_, ?_, ?_⟩, ?_, ?_⟩
  · kernel_rfl
  · exact allOf (n := 5) (by intro _ _ _ _ _; change _ = _; kernel_rfl)
  · decide +kernel
  · decide +kernel
  · kernel_rfl
  · decide +kernel
  · decide +kernel
theorem tab_lawDeed (P : Params) : FnTab (kFrag P) 261 d_lawDeed := by
  refine ⟨⟨_, _, _, _, _, rfl, rfl, rfl, rfl, rfl, rfl, rfl, rfl, ?_, ?_, ?_, ?_, ?_⟩, ?_, ?_⟩
  · kernel_rfl
  · exact allOf (n := 6) (by intro _ _ _ _ _ _; change _ = _; kernel_rfl)
  · decide +kernel
  · decide +kernel
  · kernel_rfl
  · decide +kernel
  · decide +kernel
theorem tab_lawCounted (P : Params) : FnTab (kFrag P) 268 d_lawCounted := by
  refine ⟨⟨_, _, _, _, _, rfl, rfl, rfl, rfl, rfl, rfl, rfl, rfl, ?_, ?_, ?_, ?_, ?_⟩, ?_, ?_⟩
  · kernel_rfl
  · exact allOf (n := 1) (by intro _; change _ = _; kernel_rfl)
  · decide +kernel
  · decide +kernel
  · kernel_rfl
  · decide +kernel
  · decide +kernel
theorem tab_lawShapes (P : Params) : FnTab (kFrag P) 275 d_lawShapes := by
  refine ⟨⟨_, _, _, _, _, rfl, rfl, rfl, rfl, rfl, rfl, rfl, rfl, ?_, ?_, ?_, ?_, ?_⟩, ?_, ?_⟩
  · kernel_rfl
  · exact allOf (n := 1) (by intro _; change _ = _; kernel_rfl)
  · decide +kernel
  · decide +kernel
  · kernel_rfl
  · decide +kernel
  · decide +kernel
theorem tab_lawAsked (P : Params) : FnTab (kFrag P) 282 d_lawAsked := by
  refine ⟨⟨_, _, _, _, _, rfl, rfl, rfl, rfl, rfl, rfl, rfl, rfl, ?_, ?_, ?_, ?_, ?_⟩, ?_, ?_⟩
  · kernel_rfl
  · exact allOf (n := 3) (by intro _ _ _; change _ = _; kernel_rfl)
  · decide +kernel
  · decide +kernel
  · kernel_rfl
  · decide +kernel
  · decide +kernel
theorem tab_lawArrays (P : Params) : FnTab (kFrag P) 287 d_lawArrays := by
  refine ⟨⟨_, _, _, _, _, rfl, rfl, rfl, rfl, rfl, rfl, rfl, rfl, ?_, ?_, ?_, ?_, ?_⟩, ?_, ?_⟩
  · kernel_rfl
  · exact allOf (n := 2) (by intro _ _; change _ = _; kernel_rfl)
  · decide +kernel
  · decide +kernel
  · kernel_rfl
  · decide +kernel
  · decide +kernel
theorem tabs (P : Params) : ∀ f, FnTab (kFrag P) (fa f) (defs f)
  | .unitsOf => tab_unitsOf P
  | .load => tab_load P
  | .store => tab_store P
  | .undefine => tab_undefine P
  | .needUnits => tab_needUnits P
  | .readCell => tab_readCell P
  | .loadNumber => tab_loadNumber P
  | .storeNumber => tab_storeNumber P
  | .loadText => tab_loadText P
  | .storeText => tab_storeText P
  | .pad => tab_pad P
  | .unitSize => tab_unitSize P
  | .extent => tab_extent P
  | .elementPlace => tab_elementPlace P
  | .subPlace => tab_subPlace P
  | .elementsOf => tab_elementsOf P
  | .spanOf => tab_spanOf P
  | .undefineCells => tab_undefineCells P
  | .fresh => tab_fresh P
  | .markStorage => tab_markStorage P
  | .cutStorage => tab_cutStorage P
  | .lawValues => tab_lawValues P
  | .lawPick => tab_lawPick P
  | .lawOwn => tab_lawOwn P
  | .lawLay => tab_lawLay P
  | .lawLoad => tab_lawLoad P
  | .lawStore => tab_lawStore P
  | .lawDeed => tab_lawDeed P
  | .lawCounted => tab_lawCounted P
  | .lawShapes => tab_lawShapes P
  | .lawAsked => tab_lawAsked P
  | .lawArrays => tab_lawArrays P
theorem kfacts (P : Params) : KFacts (kFrag P) fa := by
  refine ⟨fun f h => ?_, fun f h => ?_, fun f h => ?_, fun f => ?_, fun f => ?_, ?_, ?_, ?_, ⟨_, rfl, ?_⟩, ⟨_, rfl, ?_⟩⟩
  · cases f <;> first | (cases h; done) | kernel_rfl
  · cases f <;> first | (cases h; done) | kernel_rfl
  · cases f <;> first | (cases h; done) | kernel_rfl
  · cases f <;> kernel_rfl
  · cases f <;> kernel_rfl
  · kernel_rfl
  · kernel_rfl
  · kernel_rfl
  · kernel_rfl
  · kernel_rfl
theorem xfacts (P : Params) : XFacts (kFrag P) := ⟨by kernel_rfl, by kernel_rfl, by kernel_rfl, by kernel_rfl, by kernel_rfl, by kernel_rfl, by kernel_rfl⟩
theorem rfacts (P : Params) : RFacts (kFrag P) := by
  refine ⟨by kernel_rfl, ⟨31, 43, _, _, _, _, _, _, _, _, _, _, _, _, _, rfl⟩, by kernel_rfl, by kernel_rfl, by kernel_rfl, by kernel_rfl, ⟨28, _, _, _, _, _, _, _, _, _, _, _, _, _, _, ?_, ?_, rfl, rfl, rfl, rfl, rfl, rfl, rfl, rfl, ?_, ?_, ?_, ?_, ?_, ?_⟩⟩
  · kernel_rfl
  · kernel_rfl
  · kernel_rfl
  · intro a b; kernel_rfl
  · decide +kernel
  · kernel_rfl
  · kernel_rfl
  · kernel_rfl
end Mine
end

set_option maxRecDepth 100000
set_option maxHeartbeats 8000000
namespace Mine
theorem split3 {M : Model} {A : Around} {Q : Flow → Shared → Prop} {E : Value → Shared → Prop} {env : Env} {s : Shared} {a b c : Stmt} {R : List Stmt} (h : ∀ R', R' = R → wpAny M A (execs (a :: b :: c :: R') env) Q E s) : wpAny M A (execs (a :: b :: c :: R) env) Q E s := h R rfl
theorem post_true (args : List WData) : PySem.Challenge.rw_no0237_01.row.claim.post args (.bool true) args = true := by kernel_rfl
theorem raises_no (args : List WData) (c) : PySem.Challenge.rw_no0237_01.row.claim.raises args c = false := rfl
theorem lawPure (ns : List Int) (h : ns.length ≤ 63) : ∃ H', evSs (callN defs 6) d_law.body (lawLo ns) lawH = some (.ret (.d (.bool true)) H') := law_true ns h
theorem mem_goal {cl : PySem.Str → Option Addr} {mean : ExcName → Option Value} {args : List WData} {s₁ s' : Shared} (k : ∀ b o, s₁.heap.get? b = some o → s'.heap.get? b = some o) (ho : s'.os = s₁.os) (hg : s'.gens = #[]) : GoodW PySem.Challenge.rw_no0237_01.row.claim cl mean args s₁ (.ok (.ret (.bool true))) s' :=
  ⟨.inl ⟨_, _, [], rfl, raises_no args, ReadsW.bool true, post_true args, fun _ => ⟨List.nodup_nil, fun _ hm => nomatch hm⟩⟩, k, ho, hg⟩
end Mine
theorem PySem.Challenge.cw_no0237_01_holds : PySem.Challenge.rw_no0237_01.Holds := by
  refine holds_law Mine.wellSaid fun said => ?_
  refine holds_open (q := Mine.kView) (loose := []) (Xt := fun s => xlAt Mine.kView [] s && recOk (RowW.records PySem.Challenge.rw_no0237_01.row.toRowW) s) (XP := XL Mine.kView []) (Yf := Hook.obs (kHook Mine.kFrag Mine.kAs Mine.kAs_eq)) (Ya := Hook.val (kHook Mine.kFrag Mine.kAs Mine.kAs_eq)) (YP := Hook.says (kHook Mine.kFrag Mine.kAs Mine.kAs_eq)) (N := 3766) Mine.left (Hook.of (kHook Mine.kFrag Mine.kAs Mine.kAs_eq)) (Hook.keeps (kHook Mine.kFrag Mine.kAs Mine.kAs_eq)) (fun s e => xl_of s (Bool.and_eq_true_iff.mp e).1) XL.keeps (by rfl) (by rfl) (by rfl) (fun s e => recFacts_of (Bool.and_eq_true_iff.mp e).2) (by rfl) said (by decide +kernel) ⟨rfl, rfl, rfl, rfl, rfl, by decide +kernel⟩ ?hw ?hc
  case hw => w_witness2
  clear said
  w_strict (
    k_fill
    intro w s₀ s₁ mg mb G Y fa o pm cd doc dV kV ho hd hcd hD hmg hg args vals as hpre hlay hrd hwl hlo
    have KX := kIn_of Y
    have X := (Ground.X G).1
    have V := (Ground.X G).2
    have GL := glob_more (Ground.glob G (by decide +kernel) (by decide +kernel)) V
    refine Ground.open G ?_
    intro T B D TE TW
    try (refine guard_noD D (by decide +kernel) ?_; clear D)
    obtain ⟨_, _, M⟩ := bmod_of_top T
    have TA := at_of_top T
    try (obtain ⟨_, _, he, B0⟩ := based_of_top T rfl hmg ho hd; have he' : cd = _ := he; subst he'; clear he)
    clear hmg
    wrow_args hpre hlay hrd hwl hlo
    first | refine callC_kw (enter_call ?_) | refine enter_call ?_ | refine callC_kw (enter_callW ?_) | refine enter_callW ?_
    w_top on
    try refine codeAny_mono ?_ (fun _ _ g => GoodW.toG g)
    have K0 := below_caller (Top.heap T)
    w_call any ho hd hcd hD T F
    clear hd TA
    k_drop
    refine Mine.split3 ?_
    intro R hR
    (all_goals try k_fold)
    k_steps
    refine Mine.law_join (K := Mine.kFrag _) (hs := rfl) (G := ⟨by assumption, by assumption⟩) (kf := Mine.kfacts _) (xf := Mine.xfacts _) (rf := Mine.rfacts _) (tab := Mine.tabs _) (hL := by assumption) (hI := by assumption) (hA := rfl) (hh := rfl) (hdep := by decide +kernel) (hun := by decide +kernel) (F := by assumption) (N := by assumption) (m1 := rfl) (m2 := rfl) (m3 := rfl) (m4 := rfl) (e1 := by (repeat (first | exact List.Mem.head _ | apply List.Mem.tail))) (e2 := by (repeat (first | exact List.Mem.head _ | apply List.Mem.tail))) (e3 := by (repeat (first | exact List.Mem.head _ | apply List.Mem.tail))) (e4 := by (repeat (first | exact List.Mem.head _ | apply List.Mem.tail))) (e5 := by (repeat (first | exact List.Mem.head _ | apply List.Mem.tail))) (e6 := by (repeat (first | exact List.Mem.head _ | apply List.Mem.tail))) (nd := ?_) (hms := ?_) (hk := rfl) (hnc := by decide +kernel) (hloc := ?_) (hlaw := Mine.lawPure _ ?_) ?_
    · simp only [List.nodup_cons, List.mem_cons, List.not_mem_nil, or_false, not_or, not_false_eq_true, List.nodup_nil, and_true]
      refine ⟨⟨?_, ?_, ?_⟩, ⟨?_, ?_⟩, ?_⟩ <;> exact Nat.ne_of_lt (by omega)
    · subst hR
      kernel_rfl
    · decide +kernel
    · omega
    · intro h' tk keep
      exact Mine.mem_goal keep rfl (by assumption))
