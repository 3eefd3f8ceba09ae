import PyProof.Rows.All
import Wide.All
import OpenK.AllK
import Wide.FinOn
import PySem.Challenge.RW_xm0217_02
set_option Elab.async false
set_option autoImplicit false
set_option linter.unusedVariables false
set_option linter.unusedSimpArgs false

section
open PySem
namespace Mine
set_option genSizeOf false

/-- abstract data: a text is its signs' numbers; a list is a place in the store -/
inductive D where
  | none | bool (b : Bool) | int (i : Int) | str (s : List Nat) | tup (l : List D) | ref (r : Nat) | script (l : List Int) | rng (n : Nat)

mutual
noncomputable def D.beq : D → D → Bool
  | .none, .none => true
  | .bool a, .bool b => a == b
  | .int a, .int b => a == b
  | .str a, .str b => a == b
  | .tup a, .tup b => D.beqL a b
  | .ref a, .ref b => a == b
  | .script a, .script b => a == b
  | .rng a, .rng b => a == b
  | _, _ => false
noncomputable def D.beqL : List D → List D → Bool
  | [], [] => true
  | a :: l, b :: r => D.beq a b && D.beqL l r
  | _, _ => false
end

noncomputable abbrev Sto := List (List D)
noncomputable abbrev VEnv := List (Option D)
noncomputable abbrev CallT := Nat → List D → Sto → Option (D × Sto)

inductive BOp where | add | sub | mul | mod | fdiv | pow
inductive COp where | eq | ne | lt | le | gt | ge | is | isnot | inn | notin
inductive BI where | len | max | range | tuple | str
/-- the targets of a store: one name, or a flat tuple of names -/
inductive Tgt where | one (i : Nat) | many (is : List Nat)

mutual
inductive PE where
  | bad
  | const (d : D)
  | var (i : Nat)
  | item (e i : PE)
  | slice (e : PE) (lo hi st : Option Int)
  | tab (e : PE)
  | cmp (op : COp) (a b : PE)
  | and (a b : PE)
  | or (a b : PE)
  | not (a : PE)
  | neg (a : PE)
  | ite (c a b : PE)
  | bin (op : BOp) (a b : PE)
  | call (f : Nat) (as : PEs)
  | bi (b : BI) (as : PEs)
  | join (s l : PE)
  | append (l x : PE)
  | extend (l x : PE)
  | split (s x : PE)
  | tup (es : PEs)
  | list (es : PEs)
  | comp (elt : PE) (nl : Nat) (fr : List Nat) (t : Tgt) (it : PE) (ifs : PEs)
inductive PEs where
  | nil
  | cons (e : PE) (es : PEs)
end

mutual
inductive PS where
  | bad
  | assign (t : Tgt) (e : PE)
  | setitem (l k e : PE)
  | expr (e : PE)
  | ret (e : PE)
  | ite (c : PE) (a b : PSs)
  | loop (t : Tgt) (it : PE) (body : PSs)
  | while (c : PE) (body : PSs)
inductive PSs where
  | nil
  | cons (s : PS) (r : PSs)
end

/-! ### operations -/
noncomputable def sizeCap : Nat := 1000000
noncomputable def strOk (l : List Nat) (σ : Sto) : Option (D × Sto) := if l.length ≤ sizeCap then some (.str l, σ) else Option.none
noncomputable def smallInt (i : Int) : Bool := decide (-(2 ^ 62) ≤ i) && decide (i < 2 ^ 62)

noncomputable def seqIdx (i : Int) (n : Nat) : Option Nat :=
  if 0 ≤ i then (if i.toNat < n then some i.toNat else Option.none) else (if (-i).toNat ≤ n then some (n - (-i).toNat) else Option.none)

noncomputable def opItem (d i : D) (σ : Sto) : Option (D × Sto) :=
  match i with
  | .int k => if smallInt k then (match d with
    | .tup l => (match seqIdx k l.length with | some j => (match l[j]? with | some x => some (x, σ) | _ => Option.none) | _ => Option.none)
    | .ref r => (match σ[r]? with
      | some l => (match seqIdx k l.length with | some j => (match l[j]? with | some x => some (x, σ) | _ => Option.none) | _ => Option.none)
      | _ => Option.none)
    | .script l => (if 0 ≤ k then (match l[k.toNat]? with | some x => some (.int x, σ) | _ => Option.none) else Option.none)
    | .str s => (match seqIdx k s.length with | some j => (match s[j]? with | some x => some (.str [x], σ) | _ => Option.none) | _ => Option.none)
    | _ => Option.none) else Option.none
  | _ => Option.none

/-- the cut of a list, as Python takes it; steps: none, or -1 with no ends -/
noncomputable def clampIdx (n : Nat) (i : Int) : Nat := if 0 ≤ i then min i.toNat n else n - (-i).toNat
noncomputable def cutOf {α : Type} (l : List α) (lo hi : Option Int) : List α :=
  let a := match lo with | some i => clampIdx l.length i | Option.none => 0
  let b := match hi with | some i => clampIdx l.length i | Option.none => l.length
  (l.drop a).take (b - a)

noncomputable def opSlice (d : D) (lo hi st : Option Int) (σ : Sto) : Option (D × Sto) :=
  match st with
  | Option.none => (match d with
    | .tup l => (match lo, hi with
      | some a, some b => if 1 ≤ a ∧ a ≤ b ∧ b ≤ l.length ∧ l.length ≤ sizeCap then some (.tup ((l.drop a.toNat).take (b.toNat - a.toNat)), σ) else Option.none
      | _, _ => Option.none)
    | .ref r => (match σ[r]? with | some l => if l.length ≤ sizeCap then some (.ref σ.length, σ ++ [cutOf l lo hi]) else Option.none | _ => Option.none)
    | .str s => if s.length ≤ sizeCap then some (.str (cutOf s lo hi), σ) else Option.none
    | _ => Option.none)
  | some k => if k = -1 ∧ lo = Option.none ∧ hi = Option.none then (match d with
    | .ref r => (match σ[r]? with | some l => if l.length ≤ sizeCap then some (.ref σ.length, σ ++ [l.reverse]) else Option.none | _ => Option.none)
    | _ => Option.none) else Option.none

noncomputable def isInfix (x : List Nat) : List Nat → Bool
  | [] => x.isEmpty
  | c :: l => x.isPrefixOf (c :: l) || isInfix x l

noncomputable def strsOf : List D → Option (List (List Nat))
  | [] => some []
  | .str s :: l => (match strsOf l with | some r => some (s :: r) | _ => Option.none)
  | _ :: _ => Option.none

noncomputable def isNoneD : D → Bool | .none => true | _ => false

noncomputable def opEq (a b : D) (σ : Sto) : Option Bool :=
  match a, b with
  | .str x, .str y => some (x == y)
  | .int x, .int y => some (decide (x = y))
  | .none, .none => some true
  | .tup x, .tup y => if x.isEmpty then some y.isEmpty else if y.isEmpty then some false else Option.none
  | .ref x, .ref y => if x = y then Option.none else (match σ[x]?, σ[y]? with
      | some l, some r => if l.isEmpty then some r.isEmpty else if r.isEmpty then some false else Option.none
      | _, _ => Option.none)
  | _, _ => Option.none

noncomputable def opIn (a b : D) (σ : Sto) : Option Bool :=
  match a with
  | .str x => (match b with
    | .str y => (match x with | [c] => some (y.contains c) | _ => Option.none)
    | .tup l => (match strsOf l with | some ys => some (ys.any (· == x)) | _ => Option.none)
    | .ref r => (match σ[r]? with | some l => (match strsOf l with | some ys => some (ys.any (· == x)) | _ => Option.none) | _ => Option.none)
    | _ => Option.none)
  | .int x => (match b with
    | .ref r => (match σ[r]? with | some l => (if l.all (fun d => match d with | .int _ => true | _ => false) then some (l.any fun d => match d with | .int y => decide (y = x) | _ => false) else Option.none) | _ => Option.none)
    | _ => Option.none)
  | _ => Option.none

noncomputable def opCmp (op : COp) (a b : D) (σ : Sto) : Option Bool :=
  match op with
  | .eq => opEq a b σ
  | .ne => (opEq a b σ).map (!·)
  | .is => if isNoneD b then some (isNoneD a) else Option.none
  | .isnot => if isNoneD b then some (!isNoneD a) else Option.none
  | .inn => opIn a b σ
  | .notin => (opIn a b σ).map (!·)
  | .lt => (match a, b with | .int x, .int y => some (decide (x < y)) | _, _ => Option.none)
  | .le => (match a, b with | .int x, .int y => some (decide (x ≤ y)) | _, _ => Option.none)
  | .gt => (match a, b with | .int x, .int y => some (decide (x > y)) | _, _ => Option.none)
  | .ge => (match a, b with | .int x, .int y => some (decide (x ≥ y)) | _, _ => Option.none)

noncomputable def opBin (op : BOp) (a b : D) (σ : Sto) : Option (D × Sto) :=
  match op with
  | .add => (match a, b with
    | .str x, .str y => strOk (x ++ y) σ
    | .int x, .int y => some (.int (x + y), σ)
    | .ref x, .ref y => (match σ[x]?, σ[y]? with
      | some l, some r => if l.length + r.length ≤ sizeCap then some (.ref σ.length, σ ++ [l ++ r]) else Option.none
      | _, _ => Option.none)
    | _, _ => Option.none)
  | .sub => (match a, b with | .int x, .int y => some (.int (x - y), σ) | _, _ => Option.none)
  | .mul => (match a, b with | .int x, .int y => if smallInt x && smallInt y then some (.int (x * y), σ) else Option.none | _, _ => Option.none)
  | .mod => (match a, b with | .int x, .int y => if 0 < y ∧ y < 2 ^ 62 ∧ 0 ≤ x then some (.int (x % y), σ) else Option.none | _, _ => Option.none)
  | .fdiv => (match a, b with | .int x, .int y => if 0 < y ∧ y < 1073741824 ∧ 0 ≤ x then some (.int (x / y), σ) else Option.none | _, _ => Option.none)
  | .pow => (match a, b with | .int x, .int y => if x = 10 ∧ y = 18 then some (.int (10 ^ 18), σ) else Option.none | _, _ => Option.none)

noncomputable def joinL (sep : List Nat) : List (List Nat) → List Nat
  | [] => []
  | [x] => x
  | x :: y :: r => x ++ sep ++ joinL sep (y :: r)

noncomputable def splitL (c : Nat) : List Nat → List (List Nat)
  | [] => [[]]
  | x :: l => if x = c then [] :: splitL c l else (match splitL c l with | w :: r => (x :: w) :: r | [] => [[x]])

noncomputable def decDigits (n : Nat) : List Nat := (toString n).toList.map Char.toNat

noncomputable def opBi (b : BI) (as : List D) (σ : Sto) : Option (D × Sto) :=
  match b with
  | .len => (match as with
    | [.str s] => if s.length ≤ sizeCap then some (.int s.length, σ) else Option.none
    | [.ref r] => (match σ[r]? with | some l => if l.length ≤ sizeCap then some (.int l.length, σ) else Option.none | _ => Option.none)
    | [.script l] => if l.length ≤ sizeCap then some (.int l.length, σ) else Option.none
    | _ => Option.none)
  | .max => (match as with | [.int a, .int c] => some (.int (if a < c then c else a), σ) | _ => Option.none)
  | .range => (match as with | [.int a] => if 0 ≤ a ∧ a ≤ 1000 then some (.rng a.toNat, σ) else Option.none | _ => Option.none)
  | .tuple => (match as with | [.ref r] => (match σ[r]? with | some l => if l.length ≤ sizeCap then some (.tup l, σ) else Option.none | _ => Option.none) | _ => Option.none)
  | .str => (match as with | [.int a] => if a = 7 then some (.str [55], σ) else Option.none | _ => Option.none)

noncomputable def opJoin (s l : D) (σ : Sto) : Option (D × Sto) :=
  match s, l with
  | .str sep, .ref r => (match σ[r]? with
    | some ds => (match strsOf ds with | some xs => if sep.length ≤ sizeCap then strOk (joinL sep xs) σ else Option.none | _ => Option.none)
    | _ => Option.none)
  | .str sep, .tup ds => (match strsOf ds with | some xs => if sep.length ≤ sizeCap then strOk (joinL sep xs) σ else Option.none | _ => Option.none)
  | _, _ => Option.none

noncomputable def opAppend (l x : D) (σ : Sto) : Option (D × Sto) :=
  match l with
  | .ref r => (match σ[r]? with | some ds => if ds.length < sizeCap then some (.none, σ.set r (ds ++ [x])) else Option.none | _ => Option.none)
  | _ => Option.none
noncomputable def opExtend (l x : D) (σ : Sto) : Option (D × Sto) :=
  match l, x with
  | .ref r, .ref q => if r = q then Option.none else (match σ[r]?, σ[q]? with
    | some ds, some es => if ds.length + es.length < sizeCap then some (.none, σ.set r (ds ++ es)) else Option.none
    | _, _ => Option.none)
  | _, _ => Option.none
noncomputable def opSplit (s x : D) (σ : Sto) : Option (D × Sto) :=
  match s, x with
  | .str t, .str [c] => if t.length < sizeCap then some (.ref σ.length, σ ++ [(splitL c t).map D.str]) else Option.none
  | _, _ => Option.none
noncomputable def opSetItem (l k x : D) (σ : Sto) : Option Sto :=
  match l, k with
  | .ref r, .int i => (match σ[r]? with
    | some ds => (match seqIdx i ds.length with | some j => if 0 ≤ i ∧ smallInt i = true then some (σ.set r (ds.set j x)) else Option.none | _ => Option.none)
    | _ => Option.none)
  | _, _ => Option.none

/-- what a loop goes over -/
noncomputable def itemsOf (d : D) (σ : Sto) : Option (List D) :=
  match d with
  | .tup l => some l
  | .ref r => σ[r]?
  | .rng n => if n ≤ 1000 then some ((List.range n).map fun (i : Nat) => D.int i) else Option.none
  | _ => Option.none
/-- the source is as it was -/
noncomputable def stays (d : D) (l : List D) (σ : Sto) : Bool :=
  match d with
  | .ref r => (match σ[r]? with | some l' => D.beqL l l' | _ => false)
  | _ => true

noncomputable def setVar (ve : VEnv) (i : Nat) (d : D) : Option VEnv := if i < ve.length then some (ve.set i (some d)) else Option.none
noncomputable def setVars : VEnv → List Nat → List D → Option VEnv
  | ve, [], [] => some ve
  | ve, i :: is, d :: ds => (match setVar ve i d with | some ve' => setVars ve' is ds | _ => Option.none)
  | _, _, _ => Option.none
noncomputable def store (t : Tgt) (d : D) (ve : VEnv) : Option VEnv :=
  match t with
  | .one i => setVar ve i d
  | .many is => (match d with | .tup ds => setVars ve is ds | _ => Option.none)

/-- a comprehension's turns: the list in the store's place r grows -/
noncomputable def cloop (test : VEnv → Sto → Option (Bool × Sto)) (el : VEnv → Sto → Option (D × Sto)) (t : Tgt) (src : D) (all : List D) (r : Nat) :
    List D → VEnv → Sto → Option Sto
  | [], _, σ => some σ
  | d :: rest, ve, σ =>
    match store t d ve with
    | some ve' => (match test ve' σ with
      | some (b, σ₁) => (match b with
        | false => if stays src all σ₁ then cloop test el t src all r rest ve' σ₁ else Option.none
        | true => (match el ve' σ₁ with
          | some (x, σ₂) => (match opAppend (.ref r) x σ₂ with
            | some (_, σ₃) => if stays src all σ₃ then cloop test el t src all r rest ve' σ₃ else Option.none
            | _ => Option.none)
          | _ => Option.none))
      | _ => Option.none)
    | _ => Option.none

noncomputable def getVar (ve : VEnv) (i : Nat) : Option D := match ve[i]? with | some (some d) => some d | _ => Option.none

mutual
noncomputable def peval (T : List (List Nat × Int)) (C : CallT) : PE → VEnv → Sto → Option (D × Sto)
  | .bad, _, _ => Option.none
  | .const d, _, σ => some (d, σ)
  | .var i, ve, σ => (match getVar ve i with | some d => some (d, σ) | _ => Option.none)
  | .item e i, ve, σ => (match peval T C e ve σ with
    | some (d, σ₁) => (match peval T C i ve σ₁ with | some (k, σ₂) => opItem d k σ₂ | _ => Option.none)
    | _ => Option.none)
  | .slice e lo hi st, ve, σ => (match peval T C e ve σ with | some (d, σ₁) => opSlice d lo hi st σ₁ | _ => Option.none)
  | .tab e, ve, σ => (match peval T C e ve σ with
    | some (d, σ₁) => (match d with | .str x => (match T.lookup x with | some i => some (.int i, σ₁) | _ => Option.none) | _ => Option.none)
    | _ => Option.none)
  | .cmp op a b, ve, σ => (match peval T C a ve σ with
    | some (x, σ₁) => (match peval T C b ve σ₁ with
      | some (y, σ₂) => (match opCmp op x y σ₂ with | some r => some (.bool r, σ₂) | _ => Option.none)
      | _ => Option.none)
    | _ => Option.none)
  | .and a b, ve, σ => (match peval T C a ve σ with
    | some (.bool true, σ₁) => (match peval T C b ve σ₁ with | some (.bool y, σ₂) => some (.bool y, σ₂) | _ => Option.none)
    | some (.bool false, σ₁) => some (.bool false, σ₁)
    | _ => Option.none)
  | .or a b, ve, σ => (match peval T C a ve σ with
    | some (.bool false, σ₁) => (match peval T C b ve σ₁ with | some (.bool y, σ₂) => some (.bool y, σ₂) | _ => Option.none)
    | some (.bool true, σ₁) => some (.bool true, σ₁)
    | _ => Option.none)
  | .not a, ve, σ => (match peval T C a ve σ with | some (.bool x, σ₁) => some (.bool !x, σ₁) | _ => Option.none)
  | .neg a, ve, σ => (match peval T C a ve σ with | some (.int x, σ₁) => some (.int (-x), σ₁) | _ => Option.none)
  | .ite c a b, ve, σ => (match peval T C c ve σ with
    | some (.bool x, σ₁) => (match x with | true => peval T C a ve σ₁ | false => peval T C b ve σ₁)
    | _ => Option.none)
  | .bin op a b, ve, σ => (match peval T C a ve σ with
    | some (x, σ₁) => (match peval T C b ve σ₁ with | some (y, σ₂) => opBin op x y σ₂ | _ => Option.none)
    | _ => Option.none)
  | .call f as, ve, σ => (match pevals T C as ve σ with | some (ds, σ₁) => C f ds σ₁ | _ => Option.none)
  | .bi b as, ve, σ => (match pevals T C as ve σ with | some (ds, σ₁) => opBi b ds σ₁ | _ => Option.none)
  | .join a b, ve, σ => (match peval T C a ve σ with
    | some (x, σ₁) => (match peval T C b ve σ₁ with | some (y, σ₂) => opJoin x y σ₂ | _ => Option.none)
    | _ => Option.none)
  | .append a b, ve, σ => (match peval T C a ve σ with
    | some (x, σ₁) => (match peval T C b ve σ₁ with | some (y, σ₂) => opAppend x y σ₂ | _ => Option.none)
    | _ => Option.none)
  | .extend a b, ve, σ => (match peval T C a ve σ with
    | some (x, σ₁) => (match peval T C b ve σ₁ with | some (y, σ₂) => opExtend x y σ₂ | _ => Option.none)
    | _ => Option.none)
  | .split a b, ve, σ => (match peval T C a ve σ with
    | some (x, σ₁) => (match peval T C b ve σ₁ with | some (y, σ₂) => opSplit x y σ₂ | _ => Option.none)
    | _ => Option.none)
  | .tup es, ve, σ => (match pevals T C es ve σ with | some (ds, σ₁) => if ds.length ≤ 1000 then some (.tup ds, σ₁) else Option.none | _ => Option.none)
  | .list es, ve, σ => (match pevals T C es ve σ with | some (ds, σ₁) => if ds.length ≤ 1000 then some (.ref σ₁.length, σ₁ ++ [ds]) else Option.none | _ => Option.none)
  | .comp elt nl fr t it ifs, ve, σ => (match peval T C it ve σ with
    | some (src, σ₁) => (match itemsOf src σ₁ with
      | some all => (match cloop (fun ve' σ' => ptests T C ifs ve' σ') (fun ve' σ' => peval T C elt ve' σ') t src all σ₁.length all
            (List.replicate nl Option.none ++ fr.map fun i => getVar ve i) (σ₁ ++ [[]]) with
        | some σ₂ => some (.ref σ₁.length, σ₂)
        | _ => Option.none)
      | _ => Option.none)
    | _ => Option.none)
noncomputable def pevals (T : List (List Nat × Int)) (C : CallT) : PEs → VEnv → Sto → Option (List D × Sto)
  | .nil, _, σ => some ([], σ)
  | .cons e es, ve, σ => (match peval T C e ve σ with
    | some (d, σ₁) => (match pevals T C es ve σ₁ with | some (ds, σ₂) => some (d :: ds, σ₂) | _ => Option.none)
    | _ => Option.none)
noncomputable def ptests (T : List (List Nat × Int)) (C : CallT) : PEs → VEnv → Sto → Option (Bool × Sto)
  | .nil, _, σ => some (true, σ)
  | .cons e es, ve, σ => (match peval T C e ve σ with
    | some (.bool b, σ₁) => (match b with | true => ptests T C es ve σ₁ | false => some (false, σ₁))
    | _ => Option.none)
end

/-- a loop's turns: the body hands back what it returns, if it returns -/
noncomputable def floop (body : VEnv → Sto → Option (Option D × VEnv × Sto)) (t : Tgt) (src : D) (all : List D) : List D → VEnv → Sto → Option (Option D × VEnv × Sto)
  | [], ve, σ => some (Option.none, ve, σ)
  | d :: rest, ve, σ =>
    match store t d ve with
    | some ve' => (match body ve' σ with
      | some (r, ve₁, σ₁) => (match r with
        | some x => some (some x, ve₁, σ₁)
        | Option.none => if stays src all σ₁ then floop body t src all rest ve₁ σ₁ else Option.none)
      | _ => Option.none)
    | _ => Option.none
noncomputable def wloop (test : VEnv → Sto → Option (D × Sto)) (body : VEnv → Sto → Option (Option D × VEnv × Sto)) : Nat → VEnv → Sto → Option (Option D × VEnv × Sto)
  | 0, _, _ => Option.none
  | n + 1, ve, σ => match test ve σ with
    | some (.bool b, σ₁) => (match b with
      | false => some (Option.none, ve, σ₁)
      | true => (match body ve σ₁ with
        | some (r, ve₁, σ₂) => (match r with
          | some x => some (some x, ve₁, σ₂)
          | Option.none => wloop test body n ve₁ σ₂)
        | _ => Option.none))
    | _ => Option.none

mutual
noncomputable def pexec (T : List (List Nat × Int)) (C : CallT) : PS → VEnv → Sto → Option (Option D × VEnv × Sto)
  | .bad, _, _ => Option.none
  | .assign t e, ve, σ => (match peval T C e ve σ with
    | some (d, σ₁) => (match store t d ve with | some ve' => some (Option.none, ve', σ₁) | _ => Option.none)
    | _ => Option.none)
  | .setitem l k e, ve, σ => (match peval T C e ve σ with
    | some (x, σ₁) => (match peval T C l ve σ₁ with
      | some (a, σ₂) => (match peval T C k ve σ₂ with
        | some (i, σ₃) => (match opSetItem a i x σ₃ with | some σ₄ => some (Option.none, ve, σ₄) | _ => Option.none)
        | _ => Option.none)
      | _ => Option.none)
    | _ => Option.none)
  | .expr e, ve, σ => (match peval T C e ve σ with | some (_, σ₁) => some (Option.none, ve, σ₁) | _ => Option.none)
  | .ret e, ve, σ => (match peval T C e ve σ with | some (d, σ₁) => some (some d, ve, σ₁) | _ => Option.none)
  | .ite c a b, ve, σ => (match peval T C c ve σ with
    | some (.bool x, σ₁) => (match x with | true => pexecs T C a ve σ₁ | false => pexecs T C b ve σ₁)
    | _ => Option.none)
  | .loop t it body, ve, σ => (match peval T C it ve σ with
    | some (src, σ₁) => (match itemsOf src σ₁ with
      | some all => floop (fun ve' σ' => pexecs T C body ve' σ') t src all all ve σ₁
      | _ => Option.none)
    | _ => Option.none)
  | .while c body, ve, σ => wloop (fun ve' σ' => peval T C c ve' σ') (fun ve' σ' => pexecs T C body ve' σ') 20 ve σ
noncomputable def pexecs (T : List (List Nat × Int)) (C : CallT) : PSs → VEnv → Sto → Option (Option D × VEnv × Sto)
  | .nil, ve, σ => some (Option.none, ve, σ)
  | .cons s r, ve, σ => (match pexec T C s ve σ with
    | some (x, ve₁, σ₁) => (match x with
      | some d => some (some d, ve₁, σ₁)
      | Option.none => pexecs T C r ve₁ σ₁)
    | _ => Option.none)
end

structure FnDef where
  np : Nat
  ns : Nat
  dflt : List D
  body : PSs

noncomputable def FnDef.bind (f : FnDef) (args : List D) : Option VEnv :=
  if args.length ≤ f.np ∧ f.np ≤ args.length + f.dflt.length then
    some ((args ++ f.dflt.drop (f.dflt.length - (f.np - args.length))).map some ++ List.replicate (f.ns - f.np) Option.none)
  else Option.none

noncomputable def pcall (T : List (List Nat × Int)) (F : List FnDef) : Nat → CallT
  | 0, _, _, _ => Option.none
  | n + 1, f, args, σ => match F[f]? with
    | some fd => (match fd.bind args with
      | some ve => (match pexecs T (pcall T F n) fd.body ve σ with
        | some (r, _, σ₁) => some (r.getD .none, σ₁)
        | _ => Option.none)
      | _ => Option.none)
    | _ => Option.none

/-! ### from the program's text -/
noncomputable def ofConst : Const → PE
  | .none => .const .none
  | .bool b => .const (.bool b)
  | .int i => .const (.int i)
  | .str s => .const (.str s.cps.toList)
  | _ => .bad

structure SC where
  kd : Str → Option NameKind
  sl : List Str
  fns : List Str
  consts : List (Str × D)
  tab : Str

noncomputable def SC.isVar (c : SC) (x : Str) : Bool := match c.kd x with | some .local | some .cell | some .free => true | _ => false
noncomputable def SC.isGlob (c : SC) (x : Str) : Bool := match c.kd x with | some .globalImplicit => true | _ => false
noncomputable def SC.slot (c : SC) (x : Str) : Option Nat := if c.isVar x then c.sl.findIdx? (· == x) else Option.none
noncomputable def SC.global (c : SC) (x : Str) : Option D := if c.isGlob x then c.consts.lookup x else Option.none
noncomputable def biOf (x : Str) : Option BI :=
  if x == Str.ofString "len" then some .len else if x == Str.ofString "max" then some .max else if x == Str.ofString "range" then some .range
  else if x == Str.ofString "tuple" then some .tuple else if x == Str.ofString "str" then some .str else Option.none

noncomputable def bopOf : Operator → Option BOp
  | .Add => some .add | .Sub => some .sub | .Mult => some .mul | .Mod => some .mod | .FloorDiv => some .fdiv | .Pow => some .pow | _ => Option.none
noncomputable def copOf : CmpOp → COp
  | .Eq => .eq | .NotEq => .ne | .Lt => .lt | .LtE => .le | .Gt => .gt | .GtE => .ge | .Is => .is | .IsNot => .isnot | .In => .inn | .NotIn => .notin

noncomputable def toPEs : List PE → PEs
  | [] => .nil
  | e :: r => .cons e (toPEs r)

/-- a written bound of a cut -/
noncomputable def boundOf : Option Expr → Option (Option Int)
  | Option.none => some Option.none
  | some (.Constant (.int i) _ _) => if smallInt i then some (some i) else Option.none
  | some (.UnaryOp .USub (.Constant (.int i) _ _) _) => if smallInt i then some (some (-i)) else Option.none
  | _ => Option.none

noncomputable def SC.isOwn (c : SC) (x : Str) : Bool := match c.kd x with | some .local | some .cell => true | _ => false
noncomputable def SC.own (c : SC) (x : Str) : Option Nat := if c.isOwn x then c.sl.findIdx? (· == x) else Option.none
noncomputable def ownNames (c : SC) : List Expr → Option (List Nat)
  | [] => some []
  | .Name x _ :: r => (match c.own x, ownNames c r with | some i, some is => some (i :: is) | _, _ => Option.none)
  | _ :: _ => Option.none
noncomputable def tgtOf (c : SC) : Expr → Option Tgt
  | .Name x _ => (match c.own x with | some i => some (.one i) | Option.none => Option.none)
  | .Tuple es _ _ => (match ownNames c es with | some is => if is.Nodup then some (.many is) else Option.none | Option.none => Option.none)
  | _ => Option.none

noncomputable def innerKd (scope : Scope) : Str → Option NameKind := fun x => scope.names.lookup x
noncomputable def innerLocals (scope : Scope) : List Str := (scope.names.filter fun p => p.2 == .local && p.1 != Str.ofString ".0").map (·.1)
noncomputable def innerFrees (scope : Scope) : List Str := (scope.names.filter fun p => p.2 == .free).map (·.1)

noncomputable def slotAll (c : SC) : List Str → Option (List Nat)
  | [] => some []
  | y :: r => (match c.slot y, slotAll c r with | some i, some is => some (i :: is) | _, _ => Option.none)
/-- a comprehension's own block is plain -/
noncomputable def compFine (c : SC) (scope : Scope) (iter : Expr) : Bool :=
  scope.kind == .function && (match iter with | .Set .. => false | _ => true) && scope.names.all (fun p => p.2 != .cell) &&
  (innerFrees scope).all (fun y => c.kd y == some .cell || c.kd y == some .free) && decide ((innerLocals scope ++ innerFrees scope).Nodup) &&
  (scope.names.lookup (Str.ofString "__debug__")).isNone && (scope.names.lookup (Str.ofString "__classdict__")).isNone &&
  scope.names.all (fun p => p.2 != .local || scope.names.lookup p.1 == some .local) && (innerFrees scope).all (fun y => scope.names.lookup y == some .free) &&
  (innerLocals scope).all (fun y => scope.names.lookup y == some .local)

noncomputable def comp (c : SC) : Nat → Expr → PE
  | 0, _ => .bad
  | k + 1, e => match e with
    | .Constant v _ _ => ofConst v
    | .Name x _ => (match c.slot x with
      | some i => .var i
      | Option.none => (match c.global x with | some d => .const d | Option.none => .bad))
    | .BoolOp op [a, b] _ => (match op with | .And => .and (comp c k a) (comp c k b) | .Or => .or (comp c k a) (comp c k b))
    | .BinOp l op r _ => (match bopOf op with | some o => .bin o (comp c k l) (comp c k r) | Option.none => .bad)
    | .UnaryOp .Not x _ => .not (comp c k x)
    | .UnaryOp .USub x _ => .neg (comp c k x)
    | .IfExp t b o _ => .ite (comp c k t) (comp c k b) (comp c k o)
    | .Compare l [op] [r] _ => .cmp (copOf op) (comp c k l) (comp c k r)
    | .Call (.Name f _) args [] _ => if c.isGlob f && decide (args.length ≤ 20) && args.all (fun e => match e with | .Starred .. => false | _ => true) then
        (match c.fns.findIdx? (· == f) with
        | some i => .call i (toPEs (args.map (comp c k)))
        | Option.none => (match biOf f with | some b => .bi b (toPEs (args.map (comp c k))) | Option.none => .bad))
        else .bad
    | .Call (.Attribute o name ap) [x] [] p => if ap.endLine == p.line && (match o with | .Name .. | .Constant .. => true | _ => false) then (match x with
        | .Starred .. => .bad
        | _ => if name == Str.ofString "join" then .join (comp c k o) (comp c k x)
          else if name == Str.ofString "append" then .append (comp c k o) (comp c k x)
          else if name == Str.ofString "extend" then .extend (comp c k o) (comp c k x)
          else if name == Str.ofString "split" then .split (comp c k o) (comp c k x)
          else .bad) else .bad
    | .Subscript v s _ => (match s with
      | .Slice lo hi st _ => (match boundOf lo, boundOf hi, boundOf st with
        | some a, some b, some d => .slice (comp c k v) a b d
        | _, _, _ => .bad)
      | _ => (match v with
        | .Name x _ => if c.isGlob x && x == c.tab then .tab (comp c k s) else .item (comp c k v) (comp c k s)
        | _ => .item (comp c k v) (comp c k s)))
    | .Tuple es _ _ => if es.all (fun e => match e with | .Starred .. => false | _ => true) then .tup (toPEs (es.map (comp c k))) else .bad
    | .List es _ => if es.all (fun e => match e with | .Starred .. => false | _ => true) then .list (toPEs (es.map (comp c k))) else .bad
    | .ListComp elt [⟨target, iter, ifs, 0⟩] scope _ =>
      let c' : SC := { c with kd := innerKd scope, sl := innerLocals scope ++ innerFrees scope }
      (match tgtOf c' target, slotAll c (innerFrees scope), compFine c scope iter with
      | some t, some fr, true => .comp (comp c' k elt) (innerLocals scope).length fr t (comp c k iter) (toPEs (ifs.map (comp c' k)))
      | _, _, _ => .bad)
    | _ => .bad

noncomputable def toPSs : List PS → PSs
  | [] => .nil
  | e :: r => .cons e (toPSs r)

/-- a stored display is told: the order of its stores is known -/
noncomputable def swapFine (v : Expr) : Bool := match v with
  | .Tuple vs _ _ => vs.all (foldedForSure 8) || !vs.all (constantsAlone 8)
  | _ => true

noncomputable def compS (c : SC) : Nat → Stmt → PS
  | 0, _ => .bad
  | k + 1, s => match s with
    | .Expr e _ => (match e with | .ListComp .. => .bad | _ => .expr (comp c k e))
    | .Return (some e) _ => .ret (comp c k e)
    | .Assign [t] v _ => (match t with
      | .Subscript o i _ => .setitem (comp c k o) (comp c k i) (comp c k v)
      | _ => (match tgtOf c t with | some t => if swapFine v then .assign t (comp c k v) else .bad | Option.none => .bad))
    | .If t a b _ => .ite (comp c k t) (toPSs (a.map (compS c k))) (toPSs (b.map (compS c k)))
    | .For t it body [] _ => (match tgtOf c t, (match it with | .Set .. => true | _ => false) with
      | some t, false => .loop t (comp c k it) (toPSs (body.map (compS c k)))
      | _, _ => .bad)
    | .While t body [] _ => .while (comp c k t) (toPSs (body.map (compS c k)))
    | _ => .bad

noncomputable def slotsOf (scope : Scope) (params : List Str) : List Str :=
  params ++ ((scope.names.filter fun p => (p.2 == .local || p.2 == .cell) && !params.contains p.1).map (·.1))

noncomputable def compBody (fns : List Str) (consts : List (Str × D)) (tab : Str) (params : List Str) (scope : Scope) (body : List Stmt) : PSs :=
  toPSs (body.map (compS { kd := fun x => scope.names.lookup x, sl := slotsOf scope params, fns, consts, tab } 40))

/-! each clause by itself -/
theorem Zk {T : List (List Nat × Int)} {C : CallT} {ve : VEnv} {σ : Sto}  : peval T C .bad ve σ = Option.none := rfl
theorem Zq {T : List (List Nat × Int)} {C : CallT} {ve : VEnv} {σ : Sto} {d : D} : peval T C (.const d) ve σ = some (d, σ) := rfl
theorem Z03 {T : List (List Nat × Int)} {C : CallT} {ve : VEnv} {σ : Sto} {i : Nat} : peval T C (.var i) ve σ = (match getVar ve i with | some d => some (d, σ) | _ => Option.none) := rfl
theorem Zt {T : List (List Nat × Int)} {C : CallT} {ve : VEnv} {σ : Sto} {e : PE} {i : PE} : peval T C (.item e i) ve σ = (match peval T C e ve σ with
    | some (d, σ₁) => (match peval T C i ve σ₁ with | some (k, σ₂) => opItem d k σ₂ | _ => Option.none)
    | _ => Option.none) := rfl
theorem Zz {T : List (List Nat × Int)} {C : CallT} {ve : VEnv} {σ : Sto} {e : PE} {lo : Option Int} {hi : Option Int} {st : Option Int} : peval T C (.slice e lo hi st) ve σ = (match peval T C e ve σ with | some (d, σ₁) => opSlice d lo hi st σ₁ | _ => Option.none) := rfl
theorem Z01 {T : List (List Nat × Int)} {C : CallT} {ve : VEnv} {σ : Sto} {e : PE} : peval T C (.tab e) ve σ = (match peval T C e ve σ with
    | some (d, σ₁) => (match d with | .str x => (match T.lookup x with | some i => some (.int i, σ₁) | _ => Option.none) | _ => Option.none)
    | _ => Option.none) := rfl
theorem Zo {T : List (List Nat × Int)} {C : CallT} {ve : VEnv} {σ : Sto} {op : COp} {a : PE} {b : PE} : peval T C (.cmp op a b) ve σ = (match peval T C a ve σ with
    | some (x, σ₁) => (match peval T C b ve σ₁ with
      | some (y, σ₂) => (match opCmp op x y σ₂ with | some r => some (.bool r, σ₂) | _ => Option.none)
      | _ => Option.none)
    | _ => Option.none) := rfl
theorem Zi {T : List (List Nat × Int)} {C : CallT} {ve : VEnv} {σ : Sto} {a : PE} {b : PE} : peval T C (.and a b) ve σ = (match peval T C a ve σ with
    | some (.bool true, σ₁) => (match peval T C b ve σ₁ with | some (.bool y, σ₂) => some (.bool y, σ₂) | _ => Option.none)
    | some (.bool false, σ₁) => some (.bool false, σ₁)
    | _ => Option.none) := rfl
theorem Zy {T : List (List Nat × Int)} {C : CallT} {ve : VEnv} {σ : Sto} {a : PE} {b : PE} : peval T C (.or a b) ve σ = (match peval T C a ve σ with
    | some (.bool false, σ₁) => (match peval T C b ve σ₁ with | some (.bool y, σ₂) => some (.bool y, σ₂) | _ => Option.none)
    | some (.bool true, σ₁) => some (.bool true, σ₁)
    | _ => Option.none) := rfl
theorem Zx {T : List (List Nat × Int)} {C : CallT} {ve : VEnv} {σ : Sto} {a : PE} : peval T C (.not a) ve σ = (match peval T C a ve σ with | some (.bool x, σ₁) => some (.bool !x, σ₁) | _ => Option.none) := rfl
theorem Zw {T : List (List Nat × Int)} {C : CallT} {ve : VEnv} {σ : Sto} {a : PE} : peval T C (.neg a) ve σ = (match peval T C a ve σ with | some (.int x, σ₁) => some (.int (-x), σ₁) | _ => Option.none) := rfl
theorem Zs {T : List (List Nat × Int)} {C : CallT} {ve : VEnv} {σ : Sto} {c : PE} {a : PE} {b : PE} : peval T C (.ite c a b) ve σ = (match peval T C c ve σ with
    | some (.bool x, σ₁) => (match x with | true => peval T C a ve σ₁ | false => peval T C b ve σ₁)
    | _ => Option.none) := rfl
theorem Zm {T : List (List Nat × Int)} {C : CallT} {ve : VEnv} {σ : Sto} {op : BOp} {a : PE} {b : PE} : peval T C (.bin op a b) ve σ = (match peval T C a ve σ with
    | some (x, σ₁) => (match peval T C b ve σ₁ with | some (y, σ₂) => opBin op x y σ₂ | _ => Option.none)
    | _ => Option.none) := rfl
theorem Zn {T : List (List Nat × Int)} {C : CallT} {ve : VEnv} {σ : Sto} {f : Nat} {as : PEs} : peval T C (.call f as) ve σ = (match pevals T C as ve σ with | some (ds, σ₁) => C f ds σ₁ | _ => Option.none) := rfl
theorem Zl {T : List (List Nat × Int)} {C : CallT} {ve : VEnv} {σ : Sto} {b : BI} {as : PEs} : peval T C (.bi b as) ve σ = (match pevals T C as ve σ with | some (ds, σ₁) => opBi b ds σ₁ | _ => Option.none) := rfl
theorem Zu {T : List (List Nat × Int)} {C : CallT} {ve : VEnv} {σ : Sto} {a : PE} {b : PE} : peval T C (.join a b) ve σ = (match peval T C a ve σ with
    | some (x, σ₁) => (match peval T C b ve σ₁ with | some (y, σ₂) => opJoin x y σ₂ | _ => Option.none)
    | _ => Option.none) := rfl
theorem Zj {T : List (List Nat × Int)} {C : CallT} {ve : VEnv} {σ : Sto} {a : PE} {b : PE} : peval T C (.append a b) ve σ = (match peval T C a ve σ with
    | some (x, σ₁) => (match peval T C b ve σ₁ with | some (y, σ₂) => opAppend x y σ₂ | _ => Option.none)
    | _ => Option.none) := rfl
theorem Zr {T : List (List Nat × Int)} {C : CallT} {ve : VEnv} {σ : Sto} {a : PE} {b : PE} : peval T C (.extend a b) ve σ = (match peval T C a ve σ with
    | some (x, σ₁) => (match peval T C b ve σ₁ with | some (y, σ₂) => opExtend x y σ₂ | _ => Option.none)
    | _ => Option.none) := rfl
theorem Z00 {T : List (List Nat × Int)} {C : CallT} {ve : VEnv} {σ : Sto} {a : PE} {b : PE} : peval T C (.split a b) ve σ = (match peval T C a ve σ with
    | some (x, σ₁) => (match peval T C b ve σ₁ with | some (y, σ₂) => opSplit x y σ₂ | _ => Option.none)
    | _ => Option.none) := rfl
theorem Z02 {T : List (List Nat × Int)} {C : CallT} {ve : VEnv} {σ : Sto} {es : PEs} : peval T C (.tup es) ve σ = (match pevals T C es ve σ with | some (ds, σ₁) => if ds.length ≤ 1000 then some (.tup ds, σ₁) else Option.none | _ => Option.none) := rfl
theorem Zv {T : List (List Nat × Int)} {C : CallT} {ve : VEnv} {σ : Sto} {es : PEs} : peval T C (.list es) ve σ = (match pevals T C es ve σ with | some (ds, σ₁) => if ds.length ≤ 1000 then some (.ref σ₁.length, σ₁ ++ [ds]) else Option.none | _ => Option.none) := rfl
theorem Zp {T : List (List Nat × Int)} {C : CallT} {ve : VEnv} {σ : Sto} {elt : PE} {nl : Nat} {fr : List Nat} {t : Tgt} {it : PE} {ifs : PEs} : peval T C (.comp elt nl fr t it ifs) ve σ = (match peval T C it ve σ with
    | some (src, σ₁) => (match itemsOf src σ₁ with
      | some all => (match cloop (fun ve' σ' => ptests T C ifs ve' σ') (fun ve' σ' => peval T C elt ve' σ') t src all σ₁.length all
            (List.replicate nl Option.none ++ fr.map fun i => getVar ve i) (σ₁ ++ [[]]) with
        | some σ₂ => some (.ref σ₁.length, σ₂)
        | _ => Option.none)
      | _ => Option.none)
    | _ => Option.none) := rfl
theorem Z05 {T : List (List Nat × Int)} {C : CallT} {ve : VEnv} {σ : Sto}  : pevals T C .nil ve σ = some ([], σ) := rfl
theorem Z04 {T : List (List Nat × Int)} {C : CallT} {ve : VEnv} {σ : Sto} {e : PE} {es : PEs} : pevals T C (.cons e es) ve σ = (match peval T C e ve σ with
    | some (d, σ₁) => (match pevals T C es ve σ₁ with | some (ds, σ₂) => some (d :: ds, σ₂) | _ => Option.none)
    | _ => Option.none) := rfl
theorem Z07 {T : List (List Nat × Int)} {C : CallT} {ve : VEnv} {σ : Sto}  : ptests T C .nil ve σ = some (true, σ) := rfl
theorem Z06 {T : List (List Nat × Int)} {C : CallT} {ve : VEnv} {σ : Sto} {e : PE} {es : PEs} : ptests T C (.cons e es) ve σ = (match peval T C e ve σ with
    | some (.bool b, σ₁) => (match b with | true => ptests T C es ve σ₁ | false => some (false, σ₁))
    | _ => Option.none) := rfl
theorem Z09 {T : List (List Nat × Int)} {C : CallT} {ve : VEnv} {σ : Sto}  : pexec T C .bad ve σ = Option.none := rfl
theorem Z08 {T : List (List Nat × Int)} {C : CallT} {ve : VEnv} {σ : Sto} {t : Tgt} {e : PE} : pexec T C (.assign t e) ve σ = (match peval T C e ve σ with
    | some (d, σ₁) => (match store t d ve with | some ve' => some (Option.none, ve', σ₁) | _ => Option.none)
    | _ => Option.none) := rfl
theorem Z0e {T : List (List Nat × Int)} {C : CallT} {ve : VEnv} {σ : Sto} {l : PE} {k : PE} {e : PE} : pexec T C (.setitem l k e) ve σ = (match peval T C e ve σ with
    | some (x, σ₁) => (match peval T C l ve σ₁ with
      | some (a, σ₂) => (match peval T C k ve σ₂ with
        | some (i, σ₃) => (match opSetItem a i x σ₃ with | some σ₄ => some (Option.none, ve, σ₄) | _ => Option.none)
        | _ => Option.none)
      | _ => Option.none)
    | _ => Option.none) := rfl
theorem Z0a {T : List (List Nat × Int)} {C : CallT} {ve : VEnv} {σ : Sto} {e : PE} : pexec T C (.expr e) ve σ = (match peval T C e ve σ with | some (_, σ₁) => some (Option.none, ve, σ₁) | _ => Option.none) := rfl
theorem Z0d {T : List (List Nat × Int)} {C : CallT} {ve : VEnv} {σ : Sto} {e : PE} : pexec T C (.ret e) ve σ = (match peval T C e ve σ with | some (d, σ₁) => some (some d, ve, σ₁) | _ => Option.none) := rfl
theorem Z0b {T : List (List Nat × Int)} {C : CallT} {ve : VEnv} {σ : Sto} {c : PE} {a : PSs} {b : PSs} : pexec T C (.ite c a b) ve σ = (match peval T C c ve σ with
    | some (.bool x, σ₁) => (match x with | true => pexecs T C a ve σ₁ | false => pexecs T C b ve σ₁)
    | _ => Option.none) := rfl
theorem Z0c {T : List (List Nat × Int)} {C : CallT} {ve : VEnv} {σ : Sto} {t : Tgt} {it : PE} {body : PSs} : pexec T C (.loop t it body) ve σ = (match peval T C it ve σ with
    | some (src, σ₁) => (match itemsOf src σ₁ with
      | some all => floop (fun ve' σ' => pexecs T C body ve' σ') t src all all ve σ₁
      | _ => Option.none)
    | _ => Option.none) := rfl
theorem Z0f {T : List (List Nat × Int)} {C : CallT} {ve : VEnv} {σ : Sto} {c : PE} {body : PSs} : pexec T C (.while c body) ve σ = wloop (fun ve' σ' => peval T C c ve' σ') (fun ve' σ' => pexecs T C body ve' σ') 20 ve σ := rfl
theorem Z0h {T : List (List Nat × Int)} {C : CallT} {ve : VEnv} {σ : Sto}  : pexecs T C .nil ve σ = some (Option.none, ve, σ) := rfl
theorem Z0g {T : List (List Nat × Int)} {C : CallT} {ve : VEnv} {σ : Sto} {s : PS} {r : PSs} : pexecs T C (.cons s r) ve σ = (match pexec T C s ve σ with
    | some (x, ve₁, σ₁) => (match x with
      | some d => some (some d, ve₁, σ₁)
      | Option.none => pexecs T C r ve₁ σ₁)
    | _ => Option.none) := rfl
theorem cl_nil {test : VEnv → Sto → Option (Bool × Sto)} {el : VEnv → Sto → Option (D × Sto)} {t : Tgt} {src : D} {all : List D} {r : Nat} {ve : VEnv} {σ : Sto} : cloop test el t src all r [] ve σ = some σ := rfl
theorem cl_cons {test : VEnv → Sto → Option (Bool × Sto)} {el : VEnv → Sto → Option (D × Sto)} {t : Tgt} {src : D} {all : List D} {r : Nat} {d : D} {rest : List D} {ve : VEnv} {σ : Sto} : cloop test el t src all r (d :: rest) ve σ = (
    match store t d ve with
    | some ve' => (match test ve' σ with
      | some (b, σ₁) => (match b with
        | false => if stays src all σ₁ then cloop test el t src all r rest ve' σ₁ else Option.none
        | true => (match el ve' σ₁ with
          | some (x, σ₂) => (match opAppend (.ref r) x σ₂ with
            | some (_, σ₃) => if stays src all σ₃ then cloop test el t src all r rest ve' σ₃ else Option.none
            | _ => Option.none)
          | _ => Option.none))
      | _ => Option.none)
    | _ => Option.none) := rfl
theorem fl_nil {body : VEnv → Sto → Option (Option D × VEnv × Sto)} {t : Tgt} {src : D} {all : List D} {ve : VEnv} {σ : Sto} : floop body t src all [] ve σ = some (Option.none, ve, σ) := rfl
theorem fl_cons {body : VEnv → Sto → Option (Option D × VEnv × Sto)} {t : Tgt} {src : D} {all : List D} {d : D} {rest : List D} {ve : VEnv} {σ : Sto} : floop body t src all (d :: rest) ve σ = (
    match store t d ve with
    | some ve' => (match body ve' σ with
      | some (r, ve₁, σ₁) => (match r with
        | some x => some (some x, ve₁, σ₁)
        | Option.none => if stays src all σ₁ then floop body t src all rest ve₁ σ₁ else Option.none)
      | _ => Option.none)
    | _ => Option.none) := rfl
theorem wl_S {test : VEnv → Sto → Option (D × Sto)} {body : VEnv → Sto → Option (Option D × VEnv × Sto)} {n : Nat} {ve : VEnv} {σ : Sto} : wloop test body (n + 1) ve σ = (match test ve σ with
    | some (.bool b, σ₁) => (match b with
      | false => some (Option.none, ve, σ₁)
      | true => (match body ve σ₁ with
        | some (r, ve₁, σ₂) => (match r with
          | some x => some (some x, ve₁, σ₂)
          | Option.none => wloop test body n ve₁ σ₂)
        | _ => Option.none))
    | _ => Option.none) := rfl
theorem pc_S {T : List (List Nat × Int)} {F : List FnDef} {n f : Nat} {args : List D} {σ : Sto} : pcall T F (n + 1) f args σ = (match F[f]? with
    | some fd => (match fd.bind args with
      | some ve => (match pexecs T (pcall T F n) fd.body ve σ with
        | some (r, _, σ₁) => some (r.getD .none, σ₁)
        | _ => Option.none)
      | _ => Option.none)
    | _ => Option.none) := rfl
end Mine
end

section
open PySem PySem.W PyProof.Rows
namespace Mine
mutual
noncomputable def Rep (h : Heap) (ρ : List Addr) : D → Value → Prop
  | .none, v => v = .none
  | .bool b, v => v = .bool b
  | .int i, v => ∃ t, v = .int i t
  | .str s, v => ∃ t, v = .str ⟨s.toArray⟩ t
  | .tup l, v => ∃ a vs, v = .ref a ∧ h.IsTuple a vs.toArray ∧ a ∉ ρ ∧ RepL h ρ l vs
  | .ref r, v => ∃ a, v = .ref a ∧ ρ[r]? = some a
  | .script l, v => ∃ a vs, v = .ref a ∧ h.IsList a vs.toArray ∧ a ∉ ρ ∧ IntsAre vs l
  | .rng n, v => ∃ a t u x, v = .ref a ∧ IsRange h a 0 n 1 t u x ∧ a ∉ ρ
noncomputable def RepL (h : Heap) (ρ : List Addr) : List D → List Value → Prop
  | [], vs => vs = []
  | d :: l, vs => ∃ v vs', vs = v :: vs' ∧ Rep h ρ d v ∧ RepL h ρ l vs'
end

/-- an object that data is made of -/
noncomputable def isDat (o : Obj) : Prop := (∃ vs n, o.data = .seq vs n) ∨ (o.cls = .type "range" ∧ ∃ vs, o.data = .fields vs)

structure St (X : Addr → Prop) (ρ : List Addr) (h : Heap) (ρ' : List Addr) (h' : Heap) : Prop where
  ext : ∃ new, ρ' = ρ ++ new ∧ ∀ b ∈ new, h.get? b = none
  keep : ∀ a o, a ∉ ρ → ¬ X a → h.get? a = some o → h'.get? a = some o

/-- what may turn is there, and is no datum -/
noncomputable def XOk (X : Addr → Prop) (h : Heap) : Prop := ∀ a, X a → ∃ o, h.get? a = some o ∧ ¬ isDat o
noncomputable def noX : Addr → Prop := fun _ => False
theorem xok_none (h : Heap) : XOk noX h := fun _ x => x.elim

theorem isDat_tuple {h : Heap} {a : Addr} {vs : Array Value} (x : h.IsTuple a vs) : ∃ o, h.get? a = some o ∧ isDat o :=
  let ⟨o, e, _, n, d⟩ := x; ⟨o, e, .inl ⟨_, n, d⟩⟩
theorem isDat_list {h : Heap} {a : Addr} {vs : Array Value} (x : h.IsList a vs) : ∃ o, h.get? a = some o ∧ isDat o :=
  let ⟨o, e, _, n, d⟩ := x; ⟨o, e, .inl ⟨_, n, d⟩⟩

section
variable {X : Addr → Prop} {ρ ρ' : List Addr} {h h' : Heap}
theorem St.at {a : Addr} {o : Obj} (S : St X ρ h ρ' h') (x : XOk X h) (e : h.get? a = some o) (hd : isDat o) (hn : a ∉ ρ) : h'.get? a = some o ∧ a ∉ ρ' := by
  refine ⟨S.keep a o hn (fun hx => ?_) e, ?_⟩
  · obtain ⟨o', e', nd⟩ := x a hx
    rw [e] at e'; cases e'; exact nd hd
  · obtain ⟨new, rfl, hf⟩ := S.ext
    intro hm
    rcases List.mem_append.mp hm with hm | hm
    · exact hn hm
    · rw [hf a hm] at e; cases e

mutual
theorem Rep.mono (S : St X ρ h ρ' h') (x : XOk X h) : ∀ (d : D) (v : Value), Rep h ρ d v → Rep h' ρ' d v
  | .none, _, r => r
  | .bool _, _, r => r
  | .int _, _, r => r
  | .str _, _, r => r
  | .tup l, v, r => by
    unfold Rep at r ⊢
    obtain ⟨a, vs, e, ht, hn, hl⟩ := r
    obtain ⟨o, ho, hc, n, hd⟩ := ht
    have q := S.at x ho (.inl ⟨_, n, hd⟩) hn
    exact ⟨a, vs, e, ⟨o, q.1, hc, n, hd⟩, q.2, RepL.mono S x l vs hl⟩
  | .ref r, v, hr => by
    unfold Rep at hr ⊢
    obtain ⟨a, e, hi⟩ := hr
    obtain ⟨new, rfl, _⟩ := S.ext
    exact ⟨a, e, by rw [List.getElem?_append_left (List.getElem?_eq_some_iff.mp hi).1]; exact hi⟩
  | .script l, v, r => by
    unfold Rep at r ⊢
    obtain ⟨a, vs, e, ⟨o, ho, hc, n, hd⟩, hn, hi⟩ := r
    have q := S.at x ho (.inl ⟨_, n, hd⟩) hn
    exact ⟨a, vs, e, ⟨o, q.1, hc, n, hd⟩, q.2, hi⟩
  | .rng n, v, r => by
    unfold Rep at r ⊢
    obtain ⟨a, t, u, y, e, ho, hn⟩ := r
    have q := S.at x ho (.inr ⟨rfl, _, rfl⟩) hn
    exact ⟨a, t, u, y, e, q.1, q.2⟩
theorem RepL.mono (S : St X ρ h ρ' h') (x : XOk X h) : ∀ (l : List D) (vs : List Value), RepL h ρ l vs → RepL h' ρ' l vs
  | [], _, r => r
  | d :: l, vs, r => by
    unfold RepL at r ⊢
    obtain ⟨v, vs', e, h1, h2⟩ := r
    exact ⟨v, vs', e, Rep.mono S x d v h1, RepL.mono S x l vs' h2⟩
end

theorem RepL.length : ∀ {l : List D} {vs : List Value}, RepL h ρ l vs → vs.length = l.length
  | [], vs, r => by unfold RepL at r; subst r; rfl
  | d :: l, vs, r => by
    unfold RepL at r
    obtain ⟨v, vs', rfl, _, h2⟩ := r
    simp [RepL.length h2]
theorem RepL.get : ∀ {l : List D} {vs : List Value} {i : Nat} {d : D}, RepL h ρ l vs → l[i]? = some d → ∃ v, vs[i]? = some v ∧ Rep h ρ d v
  | [], _, _, _, _, e => by cases e
  | d' :: l, vs, i, d, r, e => by
    unfold RepL at r
    obtain ⟨v, vs', rfl, h1, h2⟩ := r
    cases i with
    | zero => cases e; exact ⟨v, rfl, h1⟩
    | succ i =>
      have e' : l[i]? = some d := by simpa using e
      obtain ⟨x, hx, hr⟩ := RepL.get h2 e'
      exact ⟨x, by simpa using hx, hr⟩
theorem RepL.nil : RepL h ρ [] [] := by unfold RepL; rfl
theorem RepL.cons {d : D} {v : Value} {l : List D} {vs : List Value} (h1 : Rep h ρ d v) (h2 : RepL h ρ l vs) : RepL h ρ (d :: l) (v :: vs) := by
  unfold RepL; exact ⟨v, vs, rfl, h1, h2⟩
theorem RepL.append : ∀ {l l' : List D} {vs vs' : List Value}, RepL h ρ l vs → RepL h ρ l' vs' → RepL h ρ (l ++ l') (vs ++ vs')
  | [], _, vs, _, r, r' => by unfold RepL at r; subst r; exact r'
  | d :: l, _, vs, _, r, r' => by
    unfold RepL at r
    obtain ⟨v, vs₁, rfl, h1, h2⟩ := r
    exact RepL.cons h1 (RepL.append h2 r')
theorem RepL.drop : ∀ {l : List D} {vs : List Value} (n : Nat), RepL h ρ l vs → RepL h ρ (l.drop n) (vs.drop n)
  | _, _, 0, r => r
  | [], vs, n + 1, r => by unfold RepL at r; subst r; exact RepL.nil
  | d :: l, vs, n + 1, r => by
    unfold RepL at r
    obtain ⟨v, vs₁, rfl, h1, h2⟩ := r
    exact RepL.drop n h2
theorem RepL.take : ∀ {l : List D} {vs : List Value} (n : Nat), RepL h ρ l vs → RepL h ρ (l.take n) (vs.take n)
  | _, _, 0, _ => RepL.nil
  | [], vs, n + 1, r => by unfold RepL at r; subst r; exact RepL.nil
  | d :: l, vs, n + 1, r => by
    unfold RepL at r
    obtain ⟨v, vs₁, rfl, h1, h2⟩ := r
    exact RepL.cons h1 (RepL.take n h2)
theorem RepL.reverse : ∀ {l : List D} {vs : List Value}, RepL h ρ l vs → RepL h ρ l.reverse vs.reverse
  | [], vs, r => by unfold RepL at r; subst r; exact RepL.nil
  | d :: l, vs, r => by
    unfold RepL at r
    obtain ⟨v, vs₁, rfl, h1, h2⟩ := r
    rw [List.reverse_cons, List.reverse_cons]
    exact RepL.append (RepL.reverse h2) (RepL.cons h1 RepL.nil)
theorem RepL.set : ∀ {l : List D} {vs : List Value} (i : Nat) {d : D} {v : Value}, RepL h ρ l vs → Rep h ρ d v → RepL h ρ (l.set i d) (vs.set i v)
  | [], vs, i, _, _, r, _ => by unfold RepL at r; subst r; exact RepL.nil
  | _ :: _, vs, 0, _, _, r, q => by
    unfold RepL at r
    obtain ⟨v, vs₁, rfl, h1, h2⟩ := r
    exact RepL.cons q h2
  | _ :: _, vs, i + 1, _, _, r, q => by
    unfold RepL at r
    obtain ⟨v, vs₁, rfl, h1, h2⟩ := r
    exact RepL.cons h1 (RepL.set i h2 q)
end

structure Wd (h₀ h : Heap) (ρ : List Addr) (σ : Sto) : Prop where
  keep0 : ∀ (a : Addr) (o : Obj), h₀.get? a = some o → h.get? a = some o
  new0 : ∀ a ∈ ρ, h₀.get? a = none
  nodup : ρ.Nodup
  len : ρ.length = σ.length
  lists : ∀ (i : Nat) (a : Addr) (ds : List D), ρ[i]? = some a → σ[i]? = some ds → ∃ vs : List Value, h.PlainList a vs.toArray ∧ RepL h ρ ds vs

section
variable {X : Addr → Prop} {h₀ h h' h'' : Heap} {ρ ρ' ρ'' : List Addr} {σ : Sto}
theorem Wd.there (W : Wd h₀ h ρ σ) {a : Addr} (ha : a ∈ ρ) : ∃ o, h.get? a = some o ∧ isDat o := by
  obtain ⟨i, hi⟩ := List.getElem?_of_mem ha
  have hl : i < σ.length := by rw [← W.len]; exact (List.getElem?_eq_some_iff.mp hi).1
  obtain ⟨vs, hp, _⟩ := W.lists i a _ hi (List.getElem?_eq_getElem hl)
  exact isDat_list hp.isList
theorem Wd.at (W : Wd h₀ h ρ σ) {r : Nat} {l : List D} (hl : σ[r]? = some l) : ∃ a vs, ρ[r]? = some a ∧ h.PlainList a vs.toArray ∧ RepL h ρ l vs := by
  have hi : r < ρ.length := by rw [W.len]; exact (List.getElem?_eq_some_iff.mp hl).1
  obtain ⟨vs, hp, hr⟩ := W.lists r _ _ (List.getElem?_eq_getElem hi) hl
  exact ⟨_, vs, List.getElem?_eq_getElem hi, hp, hr⟩

theorem St.refl : St X ρ h ρ h := ⟨⟨[], by simp, fun _ hb => nomatch hb⟩, fun _ _ _ _ e => e⟩
theorem St.weaken {Y : Addr → Prop} (S : St X ρ h ρ' h') (hy : ∀ a, X a → Y a) : St Y ρ h ρ' h' := ⟨S.ext, fun a o hn hx e => S.keep a o hn (fun q => hx (hy a q)) e⟩
theorem St.trans (W : Wd h₀ h' ρ' σ) (x : XOk X h') (S : St X ρ h ρ' h') (S' : St X ρ' h' ρ'' h'') : St X ρ h ρ'' h'' := by
  obtain ⟨new, rfl, hf⟩ := S.ext
  obtain ⟨new', rfl, hf'⟩ := S'.ext
  refine ⟨⟨new ++ new', by simp, fun b hb => ?_⟩, fun a o hn hx e => ?_⟩
  · rcases List.mem_append.mp hb with hb | hb
    · exact hf b hb
    · have q := hf' b hb
      cases e : h.get? b with
      | none => rfl
      | some o =>
        exfalso
        by_cases hm : b ∈ ρ
        · obtain ⟨o', e', _⟩ := W.there (List.mem_append_left new hm)
          rw [q] at e'; cases e'
        · by_cases hx : X b
          · obtain ⟨o', e', _⟩ := x b hx
            rw [q] at e'; cases e'
          · have := S.keep b o hm hx e
            rw [q] at this; cases this
  · refine S'.keep a o (fun hm => ?_) hx (S.keep a o hn hx e)
    rcases List.mem_append.mp hm with hm | hm
    · exact hn hm
    · rw [hf a hm] at e; cases e

/-- nothing but what may turn has turned -/
theorem Wd.keep (W : Wd h₀ h ρ σ) (x : XOk X h) (x0 : ∀ a, X a → h₀.get? a = none) (hk : ∀ a o, ¬ X a → h.get? a = some o → h'.get? a = some o) : Wd h₀ h' ρ σ ∧ St X ρ h ρ h' := by
  have S : St X ρ h ρ h' := ⟨⟨[], by simp, fun _ hb => nomatch hb⟩, fun a o _ hx e => hk a o hx e⟩
  refine ⟨⟨fun a o e => hk a o (fun hx => by rw [x0 a hx] at e; cases e) (W.keep0 a o e), W.new0, W.nodup, W.len, fun i a ds hi hd => ?_⟩, S⟩
  obtain ⟨vs, hp, hr⟩ := W.lists i a ds hi hd
  refine ⟨vs, ?_, RepL.mono S x _ _ hr⟩
  obtain ⟨n, e⟩ := hp
  refine ⟨n, hk a _ (fun hx => ?_) e⟩
  obtain ⟨o', e', nd⟩ := x a hx
  rw [e] at e'; cases e'; exact nd (.inl ⟨_, n, rfl⟩)
theorem Wd.grow (W : Wd h₀ h ρ σ) (hk : ∀ a o, h.get? a = some o → h'.get? a = some o) : Wd h₀ h' ρ σ ∧ St noX ρ h ρ h' :=
  W.keep (X := noX) (xok_none h) (fun _ q => q.elim) fun a o _ e => hk a o e

theorem Wd.push (W : Wd h₀ h ρ σ) (o : Obj) : Wd h₀ (h.push o) ρ σ ∧ St noX ρ h ρ (h.push o) := W.grow fun _ _ e => Heap.get?_push_of_some _ e

/-- a new list -/
theorem Wd.newList (W : Wd h₀ h ρ σ) {a : Addr} {vs : List Value} {ds : List D} (hk : ∀ b o, h.get? b = some o → h'.get? b = some o) (hn : h.get? a = none)
    (hp : h'.PlainList a vs.toArray) (hr : RepL h ρ ds vs) : Wd h₀ h' (ρ ++ [a]) (σ ++ [ds]) ∧ St noX ρ h (ρ ++ [a]) h' := by
  have S : St noX ρ h (ρ ++ [a]) h' := ⟨⟨[a], rfl, fun b hb => by rw [List.mem_singleton.mp hb]; exact hn⟩, fun b o _ _ e => hk b o e⟩
  have ha : a ∉ ρ := fun hm => by
    obtain ⟨o, e, _⟩ := W.there hm
    rw [hn] at e; cases e
  refine ⟨⟨fun b o e => hk b o (W.keep0 b o e), fun b hb => ?_, ?_, by simp [W.len], fun i b es hi hd => ?_⟩, S⟩
  · rcases List.mem_append.mp hb with hb | hb
    · exact W.new0 b hb
    · rw [List.mem_singleton.mp hb]
      cases e : h₀.get? a with
      | none => rfl
      | some o => rw [W.keep0 a o e] at hn; cases hn
  · rw [List.nodup_append]
    exact ⟨W.nodup, by simp, fun x hx y hy => by rw [List.mem_singleton.mp hy]; rintro rfl; exact ha hx⟩
  · by_cases hlt : i < ρ.length
    · rw [List.getElem?_append_left hlt] at hi
      rw [List.getElem?_append_left (by rw [← W.len]; exact hlt)] at hd
      obtain ⟨vs', hp', hr'⟩ := W.lists i b es hi hd
      obtain ⟨n, e⟩ := hp'
      exact ⟨vs', ⟨n, hk _ _ e⟩, RepL.mono S (xok_none h) _ _ hr'⟩
    · have hl : i < (ρ ++ [a]).length := (List.getElem?_eq_some_iff.mp hi).1
      have : i = ρ.length := by simp at hl; omega
      subst this
      rw [List.getElem?_append_right (Nat.le_refl _)] at hi
      rw [W.len, List.getElem?_append_right (Nat.le_refl _)] at hd
      simp at hi hd
      subst hi; subst hd
      exact ⟨vs, hp, RepL.mono S (xok_none h) _ _ hr⟩

/-- a list of the store is turned -/
theorem Wd.setList (W : Wd h₀ h ρ σ) {r : Nat} {a : Addr} {vs : List Value} {ds ds₀ : List D} (hi : ρ[r]? = some a) (_hs : σ[r]? = some ds₀) (hk : ∀ b o, b ≠ a → h.get? b = some o → h'.get? b = some o)
    (hp : h'.PlainList a vs.toArray) (hr : RepL h ρ ds vs) : Wd h₀ h' ρ (σ.set r ds) ∧ St noX ρ h ρ h' := by
  have ha : a ∈ ρ := List.mem_of_getElem? hi
  have S : St noX ρ h ρ h' := ⟨⟨[], by simp, fun _ hb => nomatch hb⟩, fun b o hb _ e => hk b o (fun q => hb (q ▸ ha)) e⟩
  refine ⟨⟨fun b o e => hk b o (fun q => by rw [q, W.new0 a ha] at e; cases e) (W.keep0 b o e), W.new0, W.nodup, by simp [W.len], fun i b es hi' hd => ?_⟩, S⟩
  by_cases hir : i = r
  · subst hir
    rw [hi] at hi'; cases hi'
    have hl : i < σ.length := by rw [← W.len]; exact (List.getElem?_eq_some_iff.mp hi).1
    rw [List.getElem?_set_self hl] at hd
    cases hd
    exact ⟨vs, hp, RepL.mono S (xok_none h) _ _ hr⟩
  · rw [List.getElem?_set_ne (Ne.symm hir)] at hd
    obtain ⟨vs', ⟨n, e⟩, hr'⟩ := W.lists i b es hi' hd
    refine ⟨vs', ⟨n, hk _ _ (fun q => hir ?_) e⟩, RepL.mono S (xok_none h) _ _ hr'⟩
    subst q
    have l1 := (List.getElem?_eq_some_iff.mp hi).1
    have l2 := (List.getElem?_eq_some_iff.mp hi').1
    have e1 := (List.getElem?_eq_some_iff.mp hi).2
    have e2 := (List.getElem?_eq_some_iff.mp hi').2
    have np := List.pairwise_iff_getElem.mp W.nodup
    rcases Nat.lt_trichotomy i r with q | q | q
    · exact absurd (e2.trans e1.symm) (np i r l2 l1 q)
    · exact q
    · exact absurd (e1.trans e2.symm) (np r i l1 l2 q)
end
end Mine
end

section
open PySem PySem.W PyProof.Rows
namespace Mine
structure SEnv (h₀ : Heap) (env : Env) (c : SC) : Prop where
  kind : env.scope.kind = .function
  glob : env.globals = mainGlobals
  bi : env.builtins = builtinsNs
  kdl : ∀ x, c.kd x = some .local → env.kindOf x = some .local
  kdc : ∀ x, c.kd x = some .cell → env.kindOf x = some .cell
  kdf : ∀ x, c.kd x = some .free → env.kindOf x = some .free ∨ env.kindOf x = some .cell
  kdg : ∀ x, c.kd x = some .globalImplicit → env.kindOf x = some .globalImplicit
  nodup : c.sl.Nodup
  inj : ∀ n n' a, env.cells.lookup n = some a → env.cells.lookup n' = some a → n = n'
  ne : ∀ n a, env.cells.lookup n = some a → a ≠ env.locals
  l0 : h₀.get? env.locals = none
  c0 : ∀ n a, env.cells.lookup n = some a → h₀.get? a = none
  cs : ∀ x, c.kd x = some .cell → ∃ a, env.cells.lookup x = some a
  csf : ∀ x, c.kd x = some .free → ∃ a, env.cells.lookup x = some a
  dbg : c.kd "__debug__" = none
  cld : c.kd "__classdict__" = none

/-- the frame's own objects -/
noncomputable def XA (env : Env) : Addr → Prop := fun a => a = env.locals ∨ ∃ n, env.cells.lookup n = some a
/-- what a store may turn -/
noncomputable def XE (c : SC) (env : Env) : Addr → Prop := fun a => a = env.locals ∨ ∃ n, c.kd n = some .cell ∧ env.cells.lookup n = some a
theorem XE.all {c : SC} {env : Env} {a : Addr} (h : XE c env a) : XA env a := h.imp id fun ⟨n, _, e⟩ => ⟨n, e⟩

noncomputable def Holds1 (h : Heap) (ρ : List Addr) (env : Env) (m cm : Str → Option Value) (x : Str) (d : D) : Prop :=
  ∃ v, Rep h ρ d v ∧ ((env.kindOf x = some .local ∧ m x = some v) ∨ ((env.kindOf x = some .cell ∨ env.kindOf x = some .free) ∧ (∃ c, env.cells.lookup x = some c) ∧ cm x = some v))

structure FO (h : Heap) (ρ : List Addr) (env : Env) (sl : List Str) (ve : VEnv) (m cm : Str → Option Value) : Prop where
  ns : h.Ns env.locals m
  cell : ∀ n c, env.cells.lookup n = some c → h.IsCell c (cm n)
  len : sl.length = ve.length
  var : ∀ (i : Nat) (x : Str) (d : D), sl[i]? = some x → ve[i]? = some (some d) → Holds1 h ρ env m cm x d

noncomputable def FOk (h : Heap) (ρ : List Addr) (env : Env) (sl : List Str) (ve : VEnv) : Prop := ∃ m cm, FO h ρ env sl ve m cm

section
variable {h₀ h h' : Heap} {ρ ρ' : List Addr} {σ σ' : Sto} {env : Env} {c : SC} {sl : List Str} {ve ve' : VEnv} {m cm : Str → Option Value}

theorem ns_not (n : h.Ns env.locals m) : ∃ o, h.get? env.locals = some o ∧ ¬ isDat o := by
  obtain ⟨o, es, ep, ho, hd, _⟩ := n
  refine ⟨o, ho, fun q => ?_⟩
  rcases q with ⟨vs, n, e⟩ | ⟨_, vs, e⟩ <;> · rw [hd] at e; cases e
theorem cell_not {a : Addr} {v : Option Value} (n : h.IsCell a v) : ∃ o, h.get? a = some o ∧ ¬ isDat o := by
  obtain ⟨o, ho, hd⟩ := n
  refine ⟨o, ho, fun q => ?_⟩
  rcases q with ⟨vs, n, e⟩ | ⟨_, vs, e⟩ <;> · rw [hd] at e; cases e
theorem FO.xok (F : FO h ρ env sl ve m cm) : XOk (XA env) h := by
  rintro a (rfl | ⟨n, hn⟩)
  · exact ns_not F.ns
  · exact cell_not (F.cell n a hn)
theorem FOk.xok (F : FOk h ρ env sl ve) : XOk (XA env) h := let ⟨_, _, F⟩ := F; F.xok
theorem FO.xoc (F : FO h ρ env sl ve m cm) : XOk (XE c env) h := fun a ha => F.xok a ha.all
theorem FOk.xoc (F : FOk h ρ env sl ve) : XOk (XE c env) h := fun a ha => F.xok a ha.all
theorem XOk.off {X : Addr → Prop} (x : XOk X h) (W : Wd h₀ h ρ σ) {a : Addr} (ha : X a) : a ∉ ρ := fun hm => by
  obtain ⟨o, e, nd⟩ := x a ha
  obtain ⟨o', e', d⟩ := W.there hm
  rw [e] at e'; cases e'; exact nd d
theorem SEnv.xa0 (S : SEnv h₀ env c) : ∀ a, XA env a → h₀.get? a = none := by
  rintro a (rfl | ⟨n, hn⟩)
  · exact S.l0
  · exact S.c0 n a hn

theorem SEnv.x0 (S : SEnv h₀ env c) : ∀ a, XE c env a → h₀.get? a = none := fun a ha => S.xa0 a ha.all

theorem Ns_keep {a : Addr} (n : h.Ns a m) (hk : ∀ o, h.get? a = some o → h'.get? a = some o) : h'.Ns a m :=
  let ⟨o, es, ep, e, r⟩ := n; ⟨o, es, ep, hk o e, r⟩
theorem Cell_keep {a : Addr} {v : Option Value} (n : h.IsCell a v) (hk : ∀ o, h.get? a = some o → h'.get? a = some o) : h'.IsCell a v :=
  let ⟨o, e, r⟩ := n; ⟨o, hk o e, r⟩

/-- a step that leaves the frame alone -/
theorem FOk.mono' {X : Addr → Prop} (F : FOk h ρ env sl ve) (W : Wd h₀ h ρ σ) (x : XOk X h) (hx : ∀ a, XA env a → ¬ X a) (S : St X ρ h ρ' h') : FOk h' ρ' env sl ve := by
  obtain ⟨m, cm, F⟩ := F
  refine ⟨m, cm, Ns_keep F.ns fun o e => S.keep _ _ (F.xok.off W (.inl rfl)) (hx _ (.inl rfl)) e, fun n a hn => Cell_keep (F.cell n a hn) fun o e => S.keep _ _ (F.xok.off W (.inr ⟨n, hn⟩)) (hx _ (.inr ⟨n, hn⟩)) e, F.len, fun i y d hi hd => ?_⟩
  obtain ⟨v, r, q⟩ := F.var i y d hi hd
  exact ⟨v, Rep.mono S x d v r, q⟩
theorem FOk.mono (F : FOk h ρ env sl ve) (W : Wd h₀ h ρ σ) (S : St noX ρ h ρ' h') : FOk h' ρ' env sl ve := F.mono' W (xok_none h) (fun _ _ => id) S
end

theorem findIdx_some {l : List Str} {x : Str} {i : Nat} (h : l.findIdx? (· == x) = some i) : l[i]? = some x := by
  rw [List.findIdx?_eq_some_iff_getElem] at h
  obtain ⟨hl, he, _⟩ := h
  rw [List.getElem?_eq_getElem hl]
  exact congrArg some (beq_iff_eq.mp he)
theorem SC.slot_spec {c : SC} {x : Str} {i : Nat} (h : c.slot x = some i) : c.isVar x = true ∧ c.sl[i]? = some x := by
  unfold SC.slot at h
  split at h
  · rename_i hv; exact ⟨hv, findIdx_some h⟩
  · cases h
theorem SC.own_spec {c : SC} {x : Str} {i : Nat} (h : c.own x = some i) : (c.kd x = some .local ∨ c.kd x = some .cell) ∧ c.sl[i]? = some x := by
  unfold SC.own at h
  split at h
  · rename_i hv
    refine ⟨?_, findIdx_some h⟩
    unfold SC.isOwn at hv
    split at hv
    · exact .inl (by assumption)
    · exact .inr (by assumption)
    · cases hv
  · cases h
theorem SC.isVar_spec {c : SC} {x : Str} (h : c.isVar x = true) : c.kd x = some .local ∨ c.kd x = some .cell ∨ c.kd x = some .free := by
  unfold SC.isVar at h
  split at h
  · exact .inl (by assumption)
  · exact .inr (.inl (by assumption))
  · exact .inr (.inr (by assumption))
  · cases h
theorem SC.isGlob_spec {c : SC} {x : Str} (h : c.isGlob x = true) : c.kd x = some .globalImplicit := by
  unfold SC.isGlob at h
  split at h
  · assumption
  · cases h
theorem getVar_spec {ve : VEnv} {i : Nat} {d : D} (h : getVar ve i = some d) : ve[i]? = some (some d) := by
  unfold getVar at h
  split at h
  · cases h; assumption
  · cases h

section
variable {M : Model} {A : Around} {E : Value → Shared → Prop} {s : Shared} {h₀ : Heap} {ρ : List Addr} {σ : Sto} {env : Env} {c : SC} {ve ve' : VEnv}

theorem load_var {x : Str} {i : Nat} {d : D} {Q : Value → Shared → Prop} (S : SEnv h₀ env c) (F : FOk s.heap ρ env c.sl ve) (hs : c.slot x = some i) (hv : getVar ve i = some d)
    (hQ : ∀ v, Rep s.heap ρ d v → Q v s) : wpAny M A (loadName env x) Q E s := by
  obtain ⟨m, cm, F⟩ := F
  obtain ⟨hk, hi⟩ := SC.slot_spec hs
  obtain ⟨v, r, q⟩ := F.var i x d hi (getVar_spec hv)
  rcases q with ⟨kl, hm⟩ | ⟨kc, ⟨a, ha⟩, hm⟩
  · exact wpAny_loadName_local S.kind kl F.ns hm (hQ v r)
  · have hc := F.cell x a ha
    rw [hm] at hc
    rcases kc with kc | kc
    · exact wpAny_loadName_cell S.kind kc ha hc (hQ v r)
    · refine wpAny_loadName_free S.kind kc ha hc (hQ v r) ?_
      rcases SC.isVar_spec hk with q | q | q
      · rw [S.kdl x q] at kc; cases kc
      · rw [S.kdc x q] at kc; cases kc
      · rw [beq_eq_false_iff_ne]
        rintro rfl
        rw [S.cld] at q; cases q

theorem eval_var {x : Str} {p : Pos} {i : Nat} {d : D} {Q : Value → Shared → Prop} (S : SEnv h₀ env c) (F : FOk s.heap ρ env c.sl ve) (hs : c.slot x = some i) (hv : getVar ve i = some d)
    (hQ : ∀ v, Rep s.heap ρ d v → Q v s) : wpAny M A (eval (.Name x p) env) Q E s := by
  refine wpAny_Name (load_var S F hs hv hQ) ?_
  rw [beq_eq_false_iff_ne]
  rintro rfl
  have := (SC.slot_spec hs).1
  unfold SC.isVar at this
  rw [S.dbg] at this; cases this

theorem store_own {x : Str} {i : Nat} {d : D} {v : Value} {Q : Unit → Shared → Prop} (S : SEnv h₀ env c) (W : Wd h₀ s.heap ρ σ) (F : FOk s.heap ρ env c.sl ve) (hs : c.own x = some i) (hv : setVar ve i d = some ve') (r : Rep s.heap ρ d v)
    (hQ : ∀ h' tk, Wd h₀ h' ρ σ → St (XE c env) ρ s.heap ρ h' → FOk h' ρ env c.sl ve' → Q () { s with heap := h', toks := tk }) : wpAny M A (storeName env x v) Q E s := by
  have X : XOk (XE c env) s.heap := F.xoc
  obtain ⟨m, cm, F⟩ := F
  obtain ⟨hk, hi⟩ := SC.own_spec hs
  unfold setVar at hv
  split at hv
  case isFalse => cases hv
  rename_i hlt
  cases hv
  have other : ∀ (j : Nat) (y : Str) (e : D), c.sl[j]? = some y → (ve.set i (some d))[j]? = some (some e) → (j = i ∧ y = x ∧ e = d) ∨ (y ≠ x ∧ ve[j]? = some (some e)) := by
    intro j y e hj he
    by_cases q : j = i
    · subst q
      rw [List.getElem?_set_self hlt] at he
      rw [hi] at hj
      cases hj; cases he
      exact .inl ⟨rfl, rfl, rfl⟩
    · rw [List.getElem?_set_ne (Ne.symm q)] at he
      refine .inr ⟨fun z => q ?_, he⟩
      subst z
      have l1 := (List.getElem?_eq_some_iff.mp hi).1
      have l2 := (List.getElem?_eq_some_iff.mp hj).1
      have e1 := (List.getElem?_eq_some_iff.mp hi).2
      have e2 := (List.getElem?_eq_some_iff.mp hj).2
      have np := List.pairwise_iff_getElem.mp S.nodup
      rcases Nat.lt_trichotomy i j with t | t | t
      · exact absurd (e1.trans e2.symm) (np i j l1 l2 t)
      · exact t.symm
      · exact absurd (e2.trans e1.symm) (np j i l2 l1 t)
  rcases hk with hk | hk
  · have kl := S.kdl x hk
    refine wpAny_storeName_local kl F.ns (fun h' hn' hsb => ?_) (by rw [S.kind]; rfl)
    obtain ⟨W', S'⟩ := W.keep (h' := h') X S.x0 fun a o hx e => (hsb.2 a fun q => hx (.inl q)) ▸ e
    refine hQ h' _ W' S' ⟨_, cm, hn', fun n a hn => (F.cell n a hn).sameBut hsb (S.ne n a hn), by rw [F.len, List.length_set], fun j y e hj he => ?_⟩
    rcases other j y e hj he with ⟨_, rfl, rfl⟩ | ⟨hy, he⟩
    · exact ⟨v, Rep.mono S' X _ _ r, .inl ⟨kl, if_pos rfl⟩⟩
    · obtain ⟨v', r', q⟩ := F.var j y e hj he
      refine ⟨v', Rep.mono S' X _ _ r', q.imp (fun q => ⟨q.1, (if_neg hy).trans q.2⟩) id⟩
  · have kc := S.kdc x hk
    obtain ⟨a, ha⟩ := S.cs x hk
    refine wpAny_storeName_cell S.kind kc ha (F.cell x a ha) fun h' hc' hsb => ?_
    obtain ⟨W', S'⟩ := W.keep (h' := h') X S.x0 fun b o hx e => (hsb.2 b fun q => hx (.inr ⟨x, hk, q ▸ ha⟩)) ▸ e
    refine hQ h' s.toks W' S' ⟨m, fun n => if n = x then some v else cm n, F.ns.sameBut hsb (Ne.symm (S.ne x a ha)), fun n b hn => ?_, by rw [F.len, List.length_set], fun j y e hj he => ?_⟩
    · by_cases q : n = x
      · subst q
        rw [ha] at hn; cases hn
        simpa using hc'
      · simp only [if_neg q]
        exact (F.cell n b hn).sameBut hsb fun z => q (S.inj n x a (z ▸ hn) ha)
    · rcases other j y e hj he with ⟨_, rfl, rfl⟩ | ⟨hy, he⟩
      · exact ⟨v, Rep.mono S' X _ _ r, .inr ⟨.inl kc, ⟨a, ha⟩, if_pos rfl⟩⟩
      · obtain ⟨v', r', q⟩ := F.var j y e hj he
        refine ⟨v', Rep.mono S' X _ _ r', q.imp id fun q => ⟨q.1, q.2.1, (if_neg hy).trans q.2.2⟩⟩

theorem assign_name {x : Str} {p : Pos} {i : Nat} {d : D} {v : Value} {Q : Unit → Shared → Prop} (S : SEnv h₀ env c) (W : Wd h₀ s.heap ρ σ) (F : FOk s.heap ρ env c.sl ve) (hs : c.own x = some i) (hv : setVar ve i d = some ve') (r : Rep s.heap ρ d v)
    (hQ : ∀ h' tk, Wd h₀ h' ρ σ → St (XE c env) ρ s.heap ρ h' → FOk h' ρ env c.sl ve' → Q () { s with heap := h', toks := tk }) : wpAny M A (assign (.Name x p) env v) Q E s :=
  wpAny_assign_Name (store_own S W F hs hv r hQ)

theorem ownNames_cons {e : Expr} {es : List Expr} {is : List Nat} (h : ownNames c (e :: es) = some is) : ∃ x p i is', e = .Name x p ∧ c.own x = some i ∧ ownNames c es = some is' ∧ is = i :: is' := by
  cases e with
  | Name x p =>
    unfold ownNames at h
    split at h
    · rename_i i is' h1 h2; cases h; exact ⟨x, p, i, is', rfl, h1, h2, rfl⟩
    · cases h
  | _ => simp [ownNames] at h

theorem assign_each : ∀ {es : List Expr} {is : List Nat} {ds : List D} {vs : List Value} {ve ve' : VEnv} {s : Shared} {Q : Unit → Shared → Prop} (_ : SEnv h₀ env c) (_ : Wd h₀ s.heap ρ σ) (_ : FOk s.heap ρ env c.sl ve) (_ : ownNames c es = some is) (_ : setVars ve is ds = some ve') (_ : RepL s.heap ρ ds vs)
    (_ : ∀ h' tk, Wd h₀ h' ρ σ → St (XE c env) ρ s.heap ρ h' → FOk h' ρ env c.sl ve' → Q () { s with heap := h', toks := tk }), wpAny M A (assignInOrder ((assignEach es env).map (·.2)) vs) Q E s
  | [], is, ds, vs, ve, ve', s, Q, S, W, F, ho, hv, r, hQ => by
    unfold ownNames at ho
    cases ho
    cases ds with
    | cons d ds => simp [setVars] at hv
    | nil =>
      simp only [setVars, Option.some.injEq] at hv
      subst hv
      show wpAny M A (assignInOrder [] vs) Q E s
      unfold assignInOrder
      exact wpAny_pure (hQ s.heap s.toks W St.refl F)
  | e :: es, is, ds, vs, ve, ve', s, Q, S, W, F, ho, hv, r, hQ => by
    obtain ⟨x, p, i, is', rfl, h1, h2, rfl⟩ := ownNames_cons ho
    cases ds with
    | nil => simp [setVars] at hv
    | cons d ds =>
      unfold RepL at r
      obtain ⟨v, vs', rfl, r1, r2⟩ := r
      unfold setVars at hv
      split at hv
      · rename_i ve₁ hv1
        show wpAny M A (do holding vs' (assign (.Name x p) env v); assignInOrder ((assignEach es env).map (·.2)) vs') Q E s
        refine wpAny_bind (wpAny_holding (assign_name S W F h1 hv1 r1 fun h' tk W' S' F' => ?_))
        refine assign_each S W' F' h2 hv (RepL.mono S' F.xoc _ _ r2) fun h'' tk' W'' S'' F'' => ?_
        exact hQ h'' tk' W'' (St.trans W' F'.xoc S' S'') F''
      · cases hv

/-- a store into a target -/
theorem assign_tgt {prog : Program} {w : World} {e : Expr} {t : Tgt} {d : D} {v : Value} {Q : Unit → Shared → Prop} (hh : A.handled = none) (S : SEnv h₀ env c) (W : Wd h₀ s.heap ρ σ) (F : FOk s.heap ρ env c.sl ve) (ht : tgtOf c e = some t) (hv : store t d ve = some ve') (r : Rep s.heap ρ d v)
    (hQ : ∀ h' tk, Wd h₀ h' ρ σ → St (XE c env) ρ s.heap ρ h' → FOk h' ρ env c.sl ve' → Q () { s with heap := h', toks := tk }) : wpAny (model prog w) A (assign e env v) Q E s := by
  unfold tgtOf at ht
  split at ht
  · split at ht
    · rename_i i hi; cases ht; exact assign_name S W F hi hv r hQ
    · cases ht
  · split at ht
    · rename_i es _ pos is ho
      split at ht
      · cases ht
        unfold store at hv
        cases d with
        | tup ds =>
          unfold Rep at r
          obtain ⟨a, vs, rfl, hT, hn, hr⟩ := r
          have hlen : ∀ {es : List Expr} {is : List Nat} {ds : List D} {ve ve' : VEnv}, ownNames c es = some is → setVars ve is ds = some ve' → (assignEach es env).length = ds.length ∧ (assignEach es env).findIdx? (·.1) = none := by
            intro es
            induction es with
            | nil =>
              intro is ds ve ve' h1 h2
              unfold ownNames at h1
              cases h1
              cases ds with
              | nil => exact ⟨rfl, rfl⟩
              | cons d ds => simp [setVars] at h2
            | cons e es ih =>
              intro is ds ve ve' h1 h2
              obtain ⟨x, p, i, is', rfl, _, q2, rfl⟩ := ownNames_cons h1
              cases ds with
              | nil => simp [setVars] at h2
              | cons d ds =>
                unfold setVars at h2
                split at h2
                · obtain ⟨l1, l2⟩ := ih q2 h2
                  refine ⟨by show (assignEach es env).length + 1 = ds.length + 1; rw [l1], ?_⟩
                  show ((false, assign (.Name x p) env) :: assignEach es env).findIdx? (·.1) = none
                  rw [List.findIdx?_cons]
                  simp [l2]
                · cases h2
          obtain ⟨l1, l2⟩ := hlen ho hv
          refine wpAny_assign_Tuple hh hT (by rw [l1]; simp [RepL.length hr]) l2 fun h' hx => ?_
          have hk : ∀ b o, s.heap.get? b = some o → h'.get? b = some o := fun b o e => hx b o (Nat.ne_of_lt (Heap.lt_size e)) e
          obtain ⟨W', S'⟩ := W.grow hk
          refine assign_each S W' (F.mono W S') ho hv (RepL.mono S' (xok_none _) _ _ hr) fun h'' tk W'' S'' F'' => ?_
          exact hQ h'' tk W'' (St.trans W' (F.mono W S').xoc (S'.weaken fun _ q => q.elim) S'') F''
        | _ => cases hv
      · cases ht
    · cases ht
  · cases ht
end
end Mine
end

section
open PySem PySem.W PyProof.Rows
namespace Mine
noncomputable def Back (h₀ : Heap) (ρ : List Addr) (s : Shared) (Q : Value → Shared → Prop) (d : D) (σ' : Sto) : Prop :=
  ∀ v ρ' h' tk, Wd h₀ h' ρ' σ' → St noX ρ s.heap ρ' h' → Rep h' ρ' d v → Q v { s with heap := h', toks := tk }

theorem seqIdx_spec {k : Int} {n j : Nat} (h : seqIdx k n = some j) : seqIndex? k n = some j ∧ j < n ∧ ((0 ≤ k ∧ j = k.toNat) ∨ (k < 0 ∧ -(n : Int) ≤ k ∧ j = (k + n).toNat)) := by
  unfold seqIdx at h
  unfold seqIndex?
  split at h
  · split at h
    · cases h
      have h1 : ¬ k < 0 := by omega
      simp only [if_neg h1]
      rename_i h0 hn
      refine ⟨?_, hn, .inl ⟨h0, trivial⟩⟩
      rw [if_pos (by simp; omega)]
    · cases h
  · split at h
    · cases h
      have h1 : k < 0 := by omega
      simp only [if_pos h1]
      refine ⟨?_, by omega, .inr ⟨h1, by omega, by omega⟩⟩
      rw [if_pos (by simp; omega)]
      congr 1
      omega
    · cases h
theorem small_spec {k : Int} (h : smallInt k = true) : -(2 ^ 62) ≤ k ∧ k < 2 ^ 62 := by
  unfold smallInt at h
  simpa using h

section
variable {prog : Program} {w : World} {A : Around} {E : Value → Shared → Prop} {s : Shared} {h₀ : Heap} {ρ : List Addr} {σ σ' : Sto} {d k x y : D} {vo vi va vb : Value} {Q : Value → Shared → Prop}

theorem subscripted_false (value slice : Expr) (o i : Value) : ∃ ops, subscripted slice false o i = operate ops (getItem o i) := by
  unfold subscripted
  split
  · exact ⟨_, rfl⟩
  · cases ‹(false = true)›
  · exact ⟨_, rfl⟩
theorem Back.here {v : Value} (B : Back h₀ ρ s Q d σ) (W : Wd h₀ s.heap ρ σ) (r : Rep s.heap ρ d v) (tk : Nat) : Q v { s with toks := tk } := B v ρ s.heap tk W St.refl r

theorem item_sound {value slice : Expr} (W : Wd h₀ s.heap ρ σ) (r1 : Rep s.heap ρ d vo) (r2 : Rep s.heap ρ k vi) (ho : opItem d k σ = some (x, σ')) (B : Back h₀ ρ s Q x σ') :
    wpAny (model prog w) A (subscriptTail value slice vo vi) Q E s := by
  obtain ⟨ops, hops⟩ := subscripted_false value slice vo vi
  unfold opItem at ho
  split at ho
  case h_2 => cases ho
  rename_i i
  split at ho
  case isFalse => cases ho
  rename_i hsm
  obtain ⟨hs1, hs2⟩ := small_spec hsm
  unfold Rep at r2
  obtain ⟨tk, rfl⟩ := r2
  split at ho
  · rename_i l
    split at ho
    case h_2 => cases ho
    rename_i j hj
    split at ho
    case h_2 => cases ho
    rename_i x' hx
    cases ho
    unfold Rep at r1
    obtain ⟨a, vs, rfl, hT, hn, hr⟩ := r1
    obtain ⟨q1, q2, q3⟩ := seqIdx_spec hj
    obtain ⟨v, hv, rv⟩ := RepL.get hr hx
    refine tail_any (Heap.IsTuple.typeIs hT) slot_tuple_getitem.lookup (getItem_tuple hT (by omega) (by omega) (j := j) (by simpa [RepL.length hr] using q1) (by simpa using hv) (B.here W rv s.toks)) hops
  · rename_i r
    split at ho
    case h_2 => cases ho
    rename_i l hl
    split at ho
    case h_2 => cases ho
    rename_i j hj
    split at ho
    case h_2 => cases ho
    rename_i x' hx
    cases ho
    unfold Rep at r1
    obtain ⟨a, rfl, ha⟩ := r1
    obtain ⟨vs, hp, hr⟩ := W.lists r a l ha hl
    obtain ⟨q1, q2, q3⟩ := seqIdx_spec hj
    obtain ⟨v, hv, rv⟩ := RepL.get hr hx
    have hB := B.here W rv s.toks
    refine tail_any hp.isList.typeIs slot_list_getitem.lookup ?_ hops
    rcases q3 with ⟨h0, rfl⟩ | ⟨h0, h1, rfl⟩
    · exact wpAny_getItem_list hp.isList h0 (by omega) (by simpa using hv) hB
    · refine wpAny_getItem_list_neg hp.isList h0 (by simpa [RepL.length hr] using h1) (by omega) ?_ hB
      simpa [RepL.length hr] using hv
  · rename_i l
    split at ho
    case isFalse => cases ho
    rename_i h0
    split at ho
    case h_2 => cases ho
    rename_i z hz
    cases ho
    unfold Rep at r1
    obtain ⟨a, vs, rfl, hl, hn, hi⟩ := r1
    have hget : ∀ {vs : List Value} {ns : List Int}, IntsAre vs ns → ∀ {j : Nat} {z : Int}, ns[j]? = some z → ∃ t, vs[j]? = some (.int z t) := by
      intro vs ns h
      induction h with
      | nil => intro j z e; cases e
      | cons n t _ ih =>
        intro j z e
        cases j with
        | zero => cases e; exact ⟨t, rfl⟩
        | succ j => exact ih (by simpa using e)
    obtain ⟨t, ht⟩ := hget hi hz
    exact tail_any hl.typeIs slot_list_getitem.lookup (wpAny_getItem_list hl h0 (by omega) (by simpa using ht) (B.here W (by unfold Rep; exact ⟨t, rfl⟩) s.toks)) hops
  · rename_i str
    split at ho
    case h_2 => cases ho
    rename_i j hj
    split at ho
    case h_2 => cases ho
    rename_i z hz
    cases ho
    unfold Rep at r1
    obtain ⟨t, rfl⟩ := r1
    obtain ⟨q1, q2, q3⟩ := seqIdx_spec hj
    refine tail_any (T := "str") (typeIs_str s _ t) PySem.F.slot_str_getitem.lookup (getItem_str (c := z) ?_ ?_ (B.here W (by unfold Rep; exact ⟨_, rfl⟩) (s.toks + 1))) hops
    · simp only [Bool.or_eq_false_iff, decide_eq_false_iff_not]; omega
    · show (seqIndex? i (Str.length ⟨str.toArray⟩)).bind _ = _
      have : Str.length ⟨str.toArray⟩ = str.length := by simp [Str.length]
      rw [this, q1]
      simpa using hz
  · cases ho

/-! ### comparisons -/
theorem beq_arr (x y : List Nat) : ((⟨x.toArray⟩ : Str) == ⟨y.toArray⟩) = (x == y) := by
  rw [Bool.eq_iff_iff]
  simp
theorem bne_arr (x y : List Nat) : ((⟨x.toArray⟩ : Str) != ⟨y.toArray⟩) = !(x == y) := by
  show (!((⟨x.toArray⟩ : Str) == ⟨y.toArray⟩)) = _
  rw [beq_arr]
theorem list_empty_iff {α : Type} (l : List α) : l.isEmpty = (l.length == 0) := by cases l <;> rfl

theorem eq_sound {b : Bool} (hu : A.units < cLine) (W : Wd h₀ s.heap ρ σ) (r1 : Rep s.heap ρ x va) (r2 : Rep s.heap ρ y vb) (ho : opEq x y σ = some b) :
    (∀ Q : Value → Shared → Prop, Q (.bool b) s → wpAny (model prog w) A (compareOp .Eq va vb) Q E s) ∧ (∀ Q : Value → Shared → Prop, Q (.bool !b) s → wpAny (model prog w) A (compareOp .NotEq va vb) Q E s) := by
  unfold opEq at ho
  split at ho
  · cases ho
    unfold Rep at r1 r2
    obtain ⟨t, rfl⟩ := r1
    obtain ⟨u, rfl⟩ := r2
    refine ⟨fun Q q => PyProof.Rows.eq_str (by rw [beq_arr]; exact q), fun Q q => PyProof.Rows.ne_str (by rw [bne_arr]; exact q)⟩
  · cases ho
    unfold Rep at r1 r2
    obtain ⟨t, rfl⟩ := r1
    obtain ⟨u, rfl⟩ := r2
    refine ⟨fun Q q => PyProof.Rows.eq_int (by exact q), fun Q q => PyProof.Rows.ne_int (by exact q)⟩
  · cases ho
    unfold Rep at r1 r2
    subst r1; subst r2
    refine ⟨fun Q q => EqNone.eq_none_none q, fun Q q => ?_⟩
    exact SeqAt.RcNeAt.none_none prog w E Q q
  · rename_i l l'
    unfold Rep at r1 r2
    obtain ⟨a, vs, rfl, hT, _, hr⟩ := r1
    obtain ⟨a', vs', rfl, hT', _, hr'⟩ := r2
    have e1 := RepL.length hr
    have e2 := RepL.length hr'
    have hb : (l.isEmpty = true ∨ l'.isEmpty = true) ∧ b = (l.length == l'.length) := by
      split at ho
      · rename_i h1
        cases ho
        refine ⟨.inl h1, ?_⟩
        rw [list_empty_iff] at h1
        rw [list_empty_iff, beq_iff_eq.mp h1]
        rw [Bool.eq_iff_iff, beq_iff_eq, beq_iff_eq]; omega
      · rename_i h1
        split at ho
        · rename_i h2
          cases ho
          refine ⟨.inr h2, ?_⟩
          rw [list_empty_iff] at h1 h2
          rw [beq_iff_eq.mp h2]
          cases q : (l.length == 0) with
          | false => rfl
          | true => exact absurd q h1
        · cases ho
    obtain ⟨hz, rfl⟩ := hb
    have hm : min vs.toArray.size vs'.toArray.size = 0 := by
      rw [list_empty_iff, list_empty_iff] at hz
      simp only [List.size_toArray, e1, e2]
      rcases hz with hz | hz <;> · have := beq_iff_eq.mp hz; omega
    have hno : ∀ j (h1 : j < vs.toArray.size) (h2 : j < vs'.toArray.size), False := fun j h1 h2 => by omega
    have key : ((List.range (min vs.toArray.size vs'.toArray.size)).all (fun _ => true) && vs.toArray.size == vs'.toArray.size) = (l.length == l'.length) := by
      rw [hm]; simp [e1, e2]
    refine ⟨fun Q q => SeqAt.RcAt.tuples (e := fun _ => true) hT hT' hu (fun j h1 h2 => (hno j h1 h2).elim) prog w E Q (by rw [key]; exact q),
      fun Q q => SeqAt.RcNeAt.tuples (e := fun _ => true) hT hT' hu (fun j h1 h2 => (hno j h1 h2).elim) prog w E Q (by rw [key]; exact q)⟩
  · rename_i r r'
    split at ho
    · cases ho
    split at ho
    case h_2 => cases ho
    rename_i l l' hl hl'
    unfold Rep at r1 r2
    obtain ⟨a, rfl, ha⟩ := r1
    obtain ⟨a', rfl, ha'⟩ := r2
    obtain ⟨vs, hp, hr⟩ := W.lists r a l ha hl
    obtain ⟨vs', hp', hr'⟩ := W.lists r' a' l' ha' hl'
    have e1 := RepL.length hr
    have e2 := RepL.length hr'
    have hb : (l.isEmpty = true ∨ l'.isEmpty = true) ∧ b = (l.length == l'.length) := by
      split at ho
      · rename_i h1
        cases ho
        refine ⟨.inl h1, ?_⟩
        rw [list_empty_iff] at h1
        rw [list_empty_iff, beq_iff_eq.mp h1]
        rw [Bool.eq_iff_iff, beq_iff_eq, beq_iff_eq]; omega
      · rename_i h1
        split at ho
        · rename_i h2
          cases ho
          refine ⟨.inr h2, ?_⟩
          rw [list_empty_iff] at h1 h2
          rw [beq_iff_eq.mp h2]
          cases q : (l.length == 0) with
          | false => rfl
          | true => exact absurd q h1
        · cases ho
    obtain ⟨hz, rfl⟩ := hb
    cases hc : (l.length == l'.length) with
    | false =>
      have hs : (vs.toArray.size != vs'.toArray.size) = true := by
        simp only [List.size_toArray, e1, e2, bne, hc]; rfl
      exact ⟨fun Q q => SeqAt.RcAt.lists_lengths hp.isList hp'.isList hs hu prog w E Q q, fun Q q => SeqAt.RcNeAt.lists_lengths hp.isList hp'.isList hs hu prog w E Q q⟩
    | true =>
      have hs : vs.toArray.size = vs'.toArray.size := by simp only [List.size_toArray, e1, e2]; exact beq_iff_eq.mp hc
      have h0 : vs.toArray.size = 0 := by
        rw [list_empty_iff, list_empty_iff] at hz
        simp only [List.size_toArray, e1, e2] at hs ⊢
        rcases hz with hz | hz <;> · have := beq_iff_eq.mp hz; omega
      have hno : ∀ j (h1 : j < vs.toArray.size) (h2 : j < vs'.toArray.size), False := fun j h1 h2 => by omega
      have key : (List.range vs.toArray.size).all (fun _ => true) = true := by rw [h0]; rfl
      exact ⟨fun Q q => SeqAt.RcAt.lists (e := fun _ => true) hp.isList hp'.isList hs hu (fun j h1 h2 => (hno j h1 h2).elim) prog w E Q (by rw [key]; exact q),
        fun Q q => SeqAt.RcNeAt.lists (e := fun _ => true) hp.isList hp'.isList hs hu (fun j h1 h2 => (hno j h1 h2).elim) prog w E Q (by rw [key]; exact q)⟩
  · cases ho
end
end Mine
end

section
open PySem PySem.W PyProof.Rows
namespace Mine
section
variable {prog : Program} {w : World} {A : Around} {E : Value → Shared → Prop} {s : Shared} {h₀ : Heap} {ρ : List Addr} {σ σ' : Sto} {d k x y : D} {vo vi va vb : Value} {Q : Value → Shared → Prop}

theorem strs_are {h : Heap} : ∀ {l : List D} {vs : List Value} {xs : List (List Nat)}, RepL h ρ l vs → strsOf l = some xs → StrsAre vs (xs.map fun x => ⟨x.toArray⟩)
  | [], vs, xs, r, e => by
    unfold RepL at r; subst r
    unfold strsOf at e; cases e
    exact .nil
  | d :: l, vs, xs, r, e => by
    unfold RepL at r
    obtain ⟨v, vs', rfl, r1, r2⟩ := r
    cases d with
    | str t =>
      unfold strsOf at e
      split at e
      · rename_i r' hr'
        cases e
        unfold Rep at r1
        obtain ⟨u, rfl⟩ := r1
        exact .cons _ _ (strs_are r2 hr')
      · cases e
    | _ => simp [strsOf] at e
theorem any_arr (xs : List (List Nat)) (x : List Nat) : (xs.map fun x => (⟨x.toArray⟩ : Str)).any (fun y => y == ⟨x.toArray⟩) = xs.any (· == x) := by
  rw [List.any_map]
  congr 1
  funext y
  exact beq_arr y x

theorem contains_iff (c : Nat) (y : List Nat) : decide (c ∈ (⟨y.toArray⟩ : Str).cps.toList) = y.contains c := by
  rw [Bool.eq_iff_iff]; simp

theorem in_sound {b : Bool} (W : Wd h₀ s.heap ρ σ) (r1 : Rep s.heap ρ x va) (r2 : Rep s.heap ρ y vb) (ho : opIn x y σ = some b) :
    (∀ Q : Value → Shared → Prop, Q (.bool b) s → wpAny (model prog w) A (compareOp .In va vb) Q E s) ∧ (∀ Q : Value → Shared → Prop, Q (.bool !b) s → wpAny (model prog w) A (compareOp .NotIn va vb) Q E s) := by
  unfold opIn at ho
  split at ho
  · rename_i xs
    unfold Rep at r1
    obtain ⟨t, rfl⟩ := r1
    split at ho
    · rename_i ys
      unfold Rep at r2
      obtain ⟨u, rfl⟩ := r2
      split at ho
      · rename_i c
        cases ho
        have e := StrLaws.found_one ⟨ys.toArray⟩ c
        rw [contains_iff] at e
        exact ⟨fun Q q => PyProof.Rows.in_str (by rw [e]; exact q), fun Q q => PyProof.Rows.notIn_str (by rw [e]; exact q)⟩
      · cases ho
    · rename_i l
      split at ho
      case h_2 => cases ho
      rename_i ys hys
      cases ho
      unfold Rep at r2
      obtain ⟨a, vs, rfl, hT, _, hr⟩ := r2
      have hs := strs_are hr hys
      exact ⟨fun Q q => in_tuple_strs hT hs (by rw [any_arr]; exact q), fun Q q => notin_tuple_strs hT hs (by rw [any_arr]; exact q)⟩
    · rename_i r
      split at ho
      case h_2 => cases ho
      rename_i l hl
      split at ho
      case h_2 => cases ho
      rename_i ys hys
      cases ho
      unfold Rep at r2
      obtain ⟨a, rfl, ha⟩ := r2
      obtain ⟨vs, hp, hr⟩ := W.lists r a l ha hl
      have hs := strs_are hr hys
      exact ⟨fun Q q => in_list_strs hp.isList hs (by rw [any_arr]; exact q), fun Q q => notin_list_strs hp.isList hs (by rw [any_arr]; exact q)⟩
    · cases ho
  · rename_i z
    unfold Rep at r1
    obtain ⟨t, rfl⟩ := r1
    split at ho
    · rename_i r
      split at ho
      case h_2 => cases ho
      rename_i l hl
      split at ho
      case isFalse => cases ho
      rename_i hall
      cases ho
      unfold Rep at r2
      obtain ⟨a, rfl, ha⟩ := r2
      obtain ⟨vs, hp, hr⟩ := W.lists r a l ha hl
      have key : ∀ {l : List D} {vs : List Value}, RepL s.heap ρ l vs → (l.all fun d => match d with | .int _ => true | _ => false) = true →
          (∀ v ∈ vs, ∃ j u, v = Value.int j u) ∧ vs.any (fun v => match v with | .int j _ => j == z | _ => false) = l.any (fun d => match d with | .int y => decide (y = z) | _ => false) := by
        intro l
        induction l with
        | nil => intro vs r _; unfold RepL at r; subst r; exact ⟨fun _ h => (nomatch h), rfl⟩
        | cons d l ih =>
          intro vs r hall
          unfold RepL at r
          obtain ⟨v, vs', rfl, r1, r2⟩ := r
          rw [List.all_cons, Bool.and_eq_true] at hall
          obtain ⟨i1, i2⟩ := ih r2 hall.2
          cases d with
          | int j =>
            unfold Rep at r1
            obtain ⟨u, rfl⟩ := r1
            refine ⟨fun v hv => ?_, ?_⟩
            · rcases List.mem_cons.mp hv with rfl | hv
              · exact ⟨j, u, rfl⟩
              · exact i1 v hv
            · rw [List.any_cons, List.any_cons, i2]; rfl
          | _ => exact absurd hall.1 Bool.false_ne_true
      obtain ⟨k1, k2⟩ := key hr hall
      have he : ∀ v, v ∈ vs.toArray → SeqAt.EqAt A.in1 s v (.int z t) ((fun v => match v with | .int j _ => j == z | _ => false) v) := fun v hv => by
        obtain ⟨j, u, rfl⟩ := k1 v (by simpa using hv)
        exact fun prog w E Q q => wpAny_eqBool_int q
      refine ⟨fun Q q => SeqAt.in_listAt _ hp.isList he ?_, fun Q q => SeqAt.notIn_listAt _ hp.isList he ?_⟩
      · rw [List.any_toArray, k2]; exact q
      · rw [List.any_toArray, k2]; exact q
    · cases ho
  · cases ho

theorem rep_isNone {h : Heap} {d : D} {v : Value} (r : Rep h ρ d v) : (v == .none) = isNoneD d ∧ PySem.plainIs v .none = true := by
  cases d with
  | none => unfold Rep at r; subst r; exact ⟨rfl, rfl⟩
  | bool b => unfold Rep at r; subst r; exact ⟨rfl, rfl⟩
  | int i => unfold Rep at r; obtain ⟨t, rfl⟩ := r; exact ⟨rfl, rfl⟩
  | str i => unfold Rep at r; obtain ⟨t, rfl⟩ := r; exact ⟨rfl, rfl⟩
  | tup l => unfold Rep at r; obtain ⟨a, vs, rfl, _⟩ := r; exact ⟨rfl, rfl⟩
  | ref l => unfold Rep at r; obtain ⟨a, rfl, _⟩ := r; exact ⟨rfl, rfl⟩
  | script l => unfold Rep at r; obtain ⟨a, vs, rfl, _⟩ := r; exact ⟨rfl, rfl⟩
  | rng l => unfold Rep at r; obtain ⟨a, t, u, x, rfl, _⟩ := r; exact ⟨rfl, rfl⟩

theorem cmp_sound {op : CmpOp} {b : Bool} (hu : A.units < cLine) (W : Wd h₀ s.heap ρ σ) (r1 : Rep s.heap ρ x va) (r2 : Rep s.heap ρ y vb) (ho : opCmp (copOf op) x y σ = some b) (B : Q (.bool b) s) :
    wpAny (model prog w) A (compareOp op va vb) Q E s := by
  cases op with
  | Eq => exact (eq_sound hu W r1 r2 ho).1 Q B
  | NotEq =>
    have ho' : (opEq x y σ).map (!·) = some b := ho
    cases e : opEq x y σ with
    | none => rw [e] at ho'; cases ho'
    | some c => rw [e] at ho'; cases ho'; exact (eq_sound hu W r1 r2 e).2 Q B
  | In => exact (in_sound W r1 r2 ho).1 Q B
  | NotIn =>
    have ho' : (opIn x y σ).map (!·) = some b := ho
    cases e : opIn x y σ with
    | none => rw [e] at ho'; cases ho'
    | some c => rw [e] at ho'; cases ho'; exact (in_sound W r1 r2 e).2 Q B
  | Is =>
    have ho' : (if isNoneD y then some (isNoneD x) else Option.none) = some b := ho
    split at ho'
    · rename_i hy
      cases ho'
      have e : vb = .none := by
        have := (rep_isNone r2).1
        rw [hy] at this
        exact beq_iff_eq.mp this
      subst e
      exact wpAny_is_plain (rep_isNone r1).2 (by rw [(rep_isNone r1).1]; exact B)
    · cases ho'
  | IsNot =>
    have ho' : (if isNoneD y then some (!isNoneD x) else Option.none) = some b := ho
    split at ho'
    · rename_i hy
      cases ho'
      have e : vb = .none := by
        have := (rep_isNone r2).1
        rw [hy] at this
        exact beq_iff_eq.mp this
      subst e
      exact wpAny_isNot_plain (rep_isNone r1).2 (by rw [(rep_isNone r1).1]; exact B)
    · cases ho'
  | Lt =>
    cases x with
    | int i =>
      cases y with
      | int j =>
        unfold Rep at r1 r2
        obtain ⟨t, rfl⟩ := r1
        obtain ⟨u, rfl⟩ := r2
        have e : decide (i < j) = b := Option.some.inj ho
        exact PyProof.Rows.lt_int (by rw [e]; exact B)
      | _ => cases ho
    | _ => cases ho
  | LtE =>
    cases x with
    | int i =>
      cases y with
      | int j =>
        unfold Rep at r1 r2
        obtain ⟨t, rfl⟩ := r1
        obtain ⟨u, rfl⟩ := r2
        have e : decide (i ≤ j) = b := Option.some.inj ho
        exact PyProof.Rows.le_int (by rw [e]; exact B)
      | _ => cases ho
    | _ => cases ho
  | Gt =>
    cases x with
    | int i =>
      cases y with
      | int j =>
        unfold Rep at r1 r2
        obtain ⟨t, rfl⟩ := r1
        obtain ⟨u, rfl⟩ := r2
        have e : decide (i > j) = b := Option.some.inj ho
        exact PyProof.Rows.gt_int (by show Q (.bool (decide (i > j))) s; rw [e]; exact B)
      | _ => cases ho
    | _ => cases ho
  | GtE =>
    cases x with
    | int i =>
      cases y with
      | int j =>
        unfold Rep at r1 r2
        obtain ⟨t, rfl⟩ := r1
        obtain ⟨u, rfl⟩ := r2
        have e : decide (i ≥ j) = b := Option.some.inj ho
        exact PyProof.Rows.ge_int (by show Q (.bool (decide (i ≥ j))) s; rw [e]; exact B)
      | _ => cases ho
    | _ => cases ho

/-! ### arithmetic, texts, lists -/
theorem cap_line : sizeCap ≤ sizeLine := by unfold sizeCap sizeLine; decide
theorem rep_str {h : Heap} (l : List Nat) (t : Tok) : Rep h ρ (.str l) (.str ⟨l.toArray⟩ t) := by unfold Rep; exact ⟨t, rfl⟩
theorem rep_int {h : Heap} (i : Int) (t : Tok) : Rep h ρ (.int i) (.int i t) := by unfold Rep; exact ⟨t, rfl⟩

/-- a list newly laid -/
theorem Back.list {vs : List Value} {ds : List D} {h' : Heap} (B : Back h₀ ρ s Q (.ref σ.length) (σ ++ [ds])) (W : Wd h₀ s.heap ρ σ) (hk : ∀ b o, s.heap.get? b = some o → h'.get? b = some o) {a : Addr} (hn : s.heap.get? a = none)
    (hp : h'.PlainList a vs.toArray) (hr : RepL s.heap ρ ds vs) (tk : Nat) : Q (.ref a) { s with heap := h', toks := tk } := by
  obtain ⟨W', S'⟩ := W.newList hk hn hp hr
  refine B _ _ h' tk W' S' ?_
  unfold Rep
  refine ⟨a, rfl, ?_⟩
  rw [← W.len, List.getElem?_append_right (Nat.le_refl _)]
  simp
theorem fresh_none (h : Heap) : h.get? h.objs.size = none := by
  cases e : h.get? h.objs.size with
  | none => rfl
  | some o => exact absurd (Heap.lt_size e) (Nat.lt_irrefl _)
theorem Back.tuple {vs : List Value} {ds : List D} {h' : Heap} (B : Back h₀ ρ s Q (.tup ds) σ) (W : Wd h₀ s.heap ρ σ) (hk : ∀ b o, s.heap.get? b = some o → h'.get? b = some o) {a : Addr} (hn : s.heap.get? a = none)
    (hp : h'.IsTuple a vs.toArray) (hr : RepL s.heap ρ ds vs) (tk : Nat) : Q (.ref a) { s with heap := h', toks := tk } := by
  obtain ⟨W', S'⟩ := W.grow hk
  refine B _ _ h' tk W' S' ?_
  unfold Rep
  refine ⟨a, vs, rfl, hp, fun hm => ?_, RepL.mono S' (xok_none _) _ _ hr⟩
  obtain ⟨o, e, _⟩ := W.there hm
  rw [hn] at e; cases e

theorem bin_sound {op : Operator} {o : BOp} {z : D} (hb : bopOf op = some o) (W : Wd h₀ s.heap ρ σ) (r1 : Rep s.heap ρ x va) (r2 : Rep s.heap ρ y vb) (ho : opBin o x y σ = some (z, σ')) (B : Back h₀ ρ s Q z σ') :
    wpAny (model prog w) A (binaryOp op va vb) Q E s := by
  cases op <;> simp only [bopOf, Option.some.injEq, reduceCtorEq] at hb <;> subst hb
  · -- Add
    unfold opBin at ho
    dsimp only at ho
    split at ho
    · rename_i l l'
      unfold strOk at ho
      split at ho
      · rename_i hl
        cases ho
        unfold Rep at r1 r2
        obtain ⟨t, rfl⟩ := r1
        obtain ⟨u, rfl⟩ := r2
        have e : (⟨l.toArray⟩ : Str) ++ ⟨l'.toArray⟩ = ⟨(l ++ l').toArray⟩ := by
          show (⟨l.toArray ++ l'.toArray⟩ : Str) = _
          simp
        refine PyProof.Rows.add_str (fun t' tk => by rw [e]; exact B.here W (rep_str _ _) tk) ?_
        have : l.length + l'.length ≤ sizeLine := by rw [← List.length_append]; exact Nat.le_trans hl cap_line
        simpa [Str.length] using this
      · cases ho
    · cases ho
      unfold Rep at r1 r2
      obtain ⟨t, rfl⟩ := r1
      obtain ⟨u, rfl⟩ := r2
      exact PyProof.Rows.add_int (B.here W (rep_int _ _) _)
    · rename_i r r'
      split at ho
      case h_2 => cases ho
      rename_i l l' hl hl'
      split at ho
      case isFalse => cases ho
      rename_i hsz
      cases ho
      unfold Rep at r1 r2
      obtain ⟨a, rfl, ha⟩ := r1
      obtain ⟨a', rfl, ha'⟩ := r2
      obtain ⟨vs, ⟨n, hp⟩, hr⟩ := W.lists r a l ha hl
      obtain ⟨vs', ⟨n', hp'⟩, hr'⟩ := W.lists r' a' l' ha' hl'
      have e : vs.toArray ++ vs'.toArray = (vs ++ vs').toArray := by simp
      refine concat_meets ⟨_, hp, rfl⟩ ⟨_, hp', rfl⟩ noFill_list_add seq_list_add PySem.F.slot_list_add PySem.F.entry_list_add (PySem.F.args_list_add_2 _ _)
        (list_addW a a' vs.toArray vs'.toArray n n' none none #[] #[] (by
          simp only [List.size_toArray, RepL.length hr, RepL.length hr']
          exact Nat.le_trans hsz cap_line)) ⟨hp, hp', ?_⟩
      rw [e]
      exact B.list W (fun _ _ e => Heap.get?_push_of_some _ e) (fresh_none _) ⟨0, Heap.get?_push_size _ rfl⟩ (RepL.append hr hr') s.toks
    · cases ho
  · -- Sub
    unfold opBin at ho
    dsimp only at ho
    split at ho
    · cases ho
      unfold Rep at r1 r2
      obtain ⟨t, rfl⟩ := r1
      obtain ⟨u, rfl⟩ := r2
      exact PyProof.Rows.sub_int (B.here W (rep_int _ _) _)
    · cases ho
  · -- Mult
    unfold opBin at ho
    dsimp only at ho
    split at ho
    · split at ho
      · rename_i hs
        cases ho
        rw [Bool.and_eq_true] at hs
        have h1 := small_spec hs.1
        have h2 := small_spec hs.2
        unfold Rep at r1 r2
        obtain ⟨t, rfl⟩ := r1
        obtain ⟨u, rfl⟩ := r2
        exact PyProof.Rows.mul_int (B.here W (rep_int _ _) _) (PySem.IntMulOk.of_left (PySem.intBits_le_64 (by omega) (by omega)))
      · cases ho
    · cases ho
  · -- Mod
    unfold opBin at ho
    dsimp only at ho
    split at ho
    · split at ho
      · rename_i hs
        cases ho
        unfold Rep at r1 r2
        obtain ⟨t, rfl⟩ := r1
        obtain ⟨u, rfl⟩ := r2
        refine PyProof.Rows.mod_int (by omega) ?_
        rw [Int.fmod_eq_emod_of_nonneg _ (by omega)]
        exact B.here W (rep_int _ _) _
      · cases ho
    · cases ho
  · -- Pow
    unfold opBin at ho
    dsimp only at ho
    split at ho
    · split at ho
      · rename_i hs
        cases ho
        unfold Rep at r1 r2
        obtain ⟨t, rfl⟩ := r1
        obtain ⟨u, rfl⟩ := r2
        obtain ⟨rfl, rfl⟩ := hs
        exact PyProof.Rows.pow_int (by omega) (by decide +kernel) (B.here W (rep_int _ _) _)
      · cases ho
    · cases ho
  · -- FloorDiv
    unfold opBin at ho
    dsimp only at ho
    split at ho
    · split at ho
      · rename_i hs
        cases ho
        unfold Rep at r1 r2
        obtain ⟨t, rfl⟩ := r1
        obtain ⟨u, rfl⟩ := r2
        refine PyProof.Rows.floordiv_int (by omega) ?_ (.inl (PyProof.noPylong_small (by omega)))
        rw [Int.fdiv_eq_ediv_of_nonneg _ (by omega)]
        exact B.here W (rep_int _ _) _
      · cases ho
    · cases ho
end
end Mine
end

section
open PySem PySem.W PyProof.Rows
namespace Mine
section
variable {prog : Program} {w : World} {A : Around} {E : Value → Shared → Prop} {s : Shared} {h₀ : Heap} {ρ : List Addr} {σ σ' : Sto} {d k x y z : D} {vo vi va vb : Value} {Q : Value → Shared → Prop}

noncomputable def biVal : BI → Value
  | .len => .builtin "len" | .max => .builtin "max" | .range => .type "range" | .tuple => .type "tuple" | .str => .type "str"

theorem repl_one {h : Heap} {d : D} {vs : List Value} (r : RepL h ρ [d] vs) : ∃ v, vs = [v] ∧ Rep h ρ d v := by
  unfold RepL at r
  obtain ⟨v, vs', rfl, r1, r2⟩ := r
  unfold RepL at r2; subst r2
  exact ⟨v, rfl, r1⟩
theorem repl_two {h : Heap} {d e : D} {vs : List Value} (r : RepL h ρ [d, e] vs) : ∃ v u, vs = [v, u] ∧ Rep h ρ d v ∧ Rep h ρ e u := by
  unfold RepL at r
  obtain ⟨v, vs', rfl, r1, r2⟩ := r
  obtain ⟨u, rfl, r3⟩ := repl_one r2
  exact ⟨v, u, rfl, r1, r3⟩
theorem seven_text : Str.ofString (toString (7 : Int)) = ⟨#[55]⟩ := by decide +kernel

theorem bi_sound {b : BI} {as : List D} {vs : List Value} (hh : A.handled = none) (W : Wd h₀ s.heap ρ σ) (r : RepL s.heap ρ as vs) (ho : opBi b as σ = some (z, σ')) (B : Back h₀ ρ s Q z σ') :
    wpAny (model prog w) A (call (biVal b) vs) Q E s := by
  cases b with
  | len =>
    unfold opBi at ho
    dsimp only at ho
    split at ho
    · split at ho
      · rename_i l hl
        cases ho
        obtain ⟨v, rfl, r1⟩ := repl_one r
        unfold Rep at r1
        obtain ⟨t, rfl⟩ := r1
        have e : (⟨l.toArray⟩ : Str).length = l.length := by simp [Str.length]
        refine PyProof.Rows.len_str ?_ ?_
        · rw [e]; unfold sizeCap at hl; omega
        · rw [e]; exact B.here W (rep_int _ _) _
      · cases ho
    · split at ho
      case h_2 => cases ho
      rename_i r' l hl
      split at ho
      · rename_i hsz
        cases ho
        obtain ⟨v, rfl, r1⟩ := repl_one r
        unfold Rep at r1
        obtain ⟨a, rfl, ha⟩ := r1
        obtain ⟨vs, hp, hr⟩ := W.lists _ a l ha hl
        have e : vs.toArray.size = l.length := by simp [RepL.length hr]
        refine Calls.call_len_list hp.isList ?_ ?_
        · rw [e]; unfold sizeCap at hsz; omega
        · rw [e]; exact B.here W (rep_int _ _) _
      · cases ho
    · split at ho
      · rename_i l hsz
        cases ho
        obtain ⟨v, rfl, r1⟩ := repl_one r
        unfold Rep at r1
        obtain ⟨a, vs, rfl, hl, hn, hi⟩ := r1
        have e : vs.toArray.size = l.length := by simp [hi.length]
        refine Calls.call_len_list hl ?_ ?_
        · rw [e]; unfold sizeCap at hsz; omega
        · rw [e]; exact B.here W (rep_int _ _) _
      · cases ho
    · cases ho
  | max =>
    unfold opBi at ho
    dsimp only at ho
    split at ho
    · rename_i a c
      cases ho
      obtain ⟨v, u, rfl, r1, r2⟩ := repl_two r
      unfold Rep at r1 r2
      obtain ⟨t, rfl⟩ := r1
      obtain ⟨t', rfl⟩ := r2
      refine max_two_ints hh fun h' tk hk => ?_
      obtain ⟨W', S'⟩ := W.grow hk
      by_cases q : c > a
      · rw [if_pos q]
        have q' : a < c := q
        rw [if_pos q'] at B
        exact B _ _ h' tk W' S' (rep_int _ _)
      · rw [if_neg q]
        have q' : ¬ a < c := q
        rw [if_neg q'] at B
        exact B _ _ h' tk W' S' (rep_int _ _)
    · cases ho
  | range =>
    unfold opBi at ho
    dsimp only at ho
    split at ho
    · rename_i a
      split at ho
      · rename_i hs
        cases ho
        obtain ⟨v, rfl, r1⟩ := repl_one r
        unfold Rep at r1
        obtain ⟨t, rfl⟩ := r1
        refine call_range_1 ?_
        obtain ⟨W', S'⟩ := W.push { cls := .type "range", data := .fields #[.int 0 s.toks, .int a t, .int 1 (s.toks + 1)] }
        refine B _ _ _ _ W' S' ?_
        unfold Rep
        refine ⟨_, s.toks, t, s.toks + 1, rfl, ?_, ?_⟩
        · have e : ((a.toNat : Nat) : Int) = a := by omega
          rw [e]
          exact Heap.get?_push_size _ rfl
        · intro hm
          obtain ⟨o, e, _⟩ := W.there hm
          rw [fresh_none] at e; cases e
      · cases ho
    · cases ho
  | tuple =>
    unfold opBi at ho
    dsimp only at ho
    split at ho
    · split at ho
      case h_2 => cases ho
      rename_i r' l hl
      split at ho
      · rename_i hsz
        cases ho
        obtain ⟨v, rfl, r1⟩ := repl_one r
        unfold Rep at r1
        obtain ⟨a, rfl, ha⟩ := r1
        obtain ⟨vs, hp, hr⟩ := W.lists _ a l ha hl
        refine call_tuple_list hp.isList (fun h' hk => ?_) (by simp only [List.size_toArray, RepL.length hr]; exact Nat.le_trans hsz cap_line)
        refine B.tuple W (fun b o e => Heap.get?_push_of_some _ (hk b o e)) ?_ ⟨_, Heap.get?_push_size _ rfl, rfl, 0, rfl⟩ hr s.toks
        cases e : s.heap.get? h'.objs.size with
        | none => rfl
        | some o => exact absurd (Heap.lt_size (hk _ _ e)) (Nat.lt_irrefl _)
      · cases ho
    · cases ho
  | str =>
    unfold opBi at ho
    dsimp only at ho
    split at ho
    · split at ho
      · rename_i hs
        cases ho
        subst hs
        obtain ⟨v, rfl, r1⟩ := repl_one r
        unfold Rep at r1
        obtain ⟨t, rfl⟩ := r1
        refine P.str_of_int (by decide +kernel) ?_
        rw [seven_text]
        exact B.here W (rep_str [55] _) _
      · cases ho
    · cases ho

theorem join_arr (sep : List Nat) : ∀ xs : List (List Nat), Str.join ⟨sep.toArray⟩ (xs.map fun x => ⟨x.toArray⟩) = ⟨(joinL sep xs).toArray⟩
  | [] => rfl
  | [x] => rfl
  | x :: y :: r => by
    show (⟨x.toArray⟩ : Str) ++ ⟨sep.toArray⟩ ++ Str.join ⟨sep.toArray⟩ ((y :: r).map fun x => ⟨x.toArray⟩) = _
    rw [join_arr sep (y :: r)]
    show (⟨x.toArray ++ sep.toArray ++ (joinL sep (y :: r)).toArray⟩ : Str) = _
    simp [joinL]
theorem joinL_length (sep : List Nat) : ∀ xs : List (List Nat), xs ≠ [] → (joinL sep xs).length + sep.length = (xs.map List.length).sum + xs.length * sep.length
  | [], h => absurd rfl h
  | [x], _ => by simp [joinL]
  | x :: y :: r, _ => by
    have ih := joinL_length sep (y :: r) (by simp)
    simp only [joinL, List.length_append, List.map_cons, List.sum_cons, List.length_cons, Nat.succ_mul] at ih ⊢
    omega

theorem join_fits {sep : List Nat} {xs : List (List Nat)} (h : (joinL sep xs).length ≤ sizeCap) (hs : sep.length ≤ sizeCap) :
    ((xs.map fun x => (⟨x.toArray⟩ : Str)).map (·.length)).sum + (xs.map fun x => (⟨x.toArray⟩ : Str)).length * (⟨sep.toArray⟩ : Str).length ≤ 16777216 := by
  have e : ((xs.map fun x => (⟨x.toArray⟩ : Str)).map (·.length)) = xs.map List.length := by
    rw [List.map_map]; apply List.map_congr_left; intro a _; simp [Str.length]
  have e2 : (⟨sep.toArray⟩ : Str).length = sep.length := by simp [Str.length]
  rw [e, e2, List.length_map]
  by_cases hx : xs = []
  · subst hx; simp
  · have := joinL_length sep xs hx
    unfold sizeCap at h hs
    omega

theorem join_sound (W : Wd h₀ s.heap ρ σ) (r1 : Rep s.heap ρ x va) (r2 : Rep s.heap ρ y vb) (ho : opJoin x y σ = some (z, σ')) (B : Back h₀ ρ s Q z σ') :
    wpAny (model prog w) A (call (.builtin "str.join") [va, vb]) Q E s := by
  unfold opJoin at ho
  split at ho
  · rename_i sep r
    split at ho
    case h_2 => cases ho
    rename_i ds hds
    split at ho
    case h_2 => cases ho
    rename_i xs hxs
    split at ho
    case isFalse => cases ho
    rename_i hs
    unfold strOk at ho
    split at ho
    · rename_i hl
      cases ho
      unfold Rep at r1 r2
      obtain ⟨t, rfl⟩ := r1
      obtain ⟨a, rfl, ha⟩ := r2
      obtain ⟨vs, hp, hr⟩ := W.lists r a ds ha hds
      refine PyProof.Rows.join_list hp.isList (strs_are hr hxs) (join_fits hl hs) fun t' k => ?_
      show Q (.str (Builtin.Str.glued _ _) t') _
      rw [StrLaws.glued_eq_join, join_arr]
      exact B.here W (rep_str _ _) _
    · cases ho
  · rename_i sep ds
    split at ho
    case h_2 => cases ho
    rename_i xs hxs
    split at ho
    case isFalse => cases ho
    rename_i hs
    unfold strOk at ho
    split at ho
    · rename_i hl
      cases ho
      unfold Rep at r1 r2
      obtain ⟨t, rfl⟩ := r1
      obtain ⟨a, vs, rfl, hT, _, hr⟩ := r2
      refine PyProof.Rows.join_tuple hT (strs_are hr hxs) (join_fits hl hs) fun t' k => ?_
      show Q (.str (Builtin.Str.glued _ _) t') _
      rw [StrLaws.glued_eq_join, join_arr]
      exact B.here W (rep_str _ _) _
    · cases ho
  · cases ho

theorem append_sound (W : Wd h₀ s.heap ρ σ) (r1 : Rep s.heap ρ x va) (r2 : Rep s.heap ρ y vb) (ho : opAppend x y σ = some (z, σ')) (B : Back h₀ ρ s Q z σ') :
    wpAny (model prog w) A (call (.builtin "list.append") [va, vb]) Q E s := by
  unfold opAppend at ho
  split at ho
  case h_2 => cases ho
  rename_i r
  split at ho
  case h_2 => cases ho
  rename_i ds hds
  split at ho
  case isFalse => cases ho
  rename_i hsz
  cases ho
  unfold Rep at r1
  obtain ⟨a, rfl, ha⟩ := r1
  obtain ⟨vs, hp, hr⟩ := W.lists r a ds ha hds
  refine wpAny_list_append_plain hp (fun h' hp' hsb => ?_) (by simp only [List.size_toArray, RepL.length hr]; exact Nat.le_trans (Nat.le_of_lt hsz) cap_line)
  have e : vs.toArray.push vb = (vs ++ [vb]).toArray := by simp
  rw [e] at hp'
  obtain ⟨W', S'⟩ := W.setList (ds := ds ++ [y]) ha hds (fun b o hb q => (hsb.2 b hb).trans q) hp' (RepL.append hr (RepL.cons r2 RepL.nil))
  exact B _ _ h' s.toks W' S' (by unfold Rep; rfl)

theorem extend_sound (W : Wd h₀ s.heap ρ σ) (r1 : Rep s.heap ρ x va) (r2 : Rep s.heap ρ y vb) (ho : opExtend x y σ = some (z, σ')) (B : Back h₀ ρ s Q z σ') :
    wpAny (model prog w) A (call (.builtin "list.extend") [va, vb]) Q E s := by
  unfold opExtend at ho
  split at ho
  case h_2 => cases ho
  rename_i r r'
  split at ho
  · cases ho
  split at ho
  case h_2 => cases ho
  rename_i hne ds es hds hes
  split at ho
  case isFalse => cases ho
  rename_i hsz
  cases ho
  unfold Rep at r1 r2
  obtain ⟨a, rfl, ha⟩ := r1
  obtain ⟨a', rfl, ha'⟩ := r2
  obtain ⟨vs, ⟨n, hp⟩, hr⟩ := W.lists r a ds ha hds
  obtain ⟨vs', ⟨n', hp'⟩, hr'⟩ := W.lists r' a' es ha' hes
  have hsz' : vs.toArray.size + vs'.toArray.size ≤ sizeLine := by
    simp only [List.size_toArray, RepL.length hr, RepL.length hr']; exact Nat.le_trans (Nat.le_of_lt hsz) cap_line
  refine call_meets PySem.F.slot_list_extend ⟨_, hp, rfl⟩ PySem.F.entry_list_extend (PySem.F.args_list_extend_2 _ _) (AutoSeq1.list_extend_list_list_0 a vs.toArray n a' vs'.toArray n' (extend_door hsz') (Nat.le_trans (Nat.le_add_right _ _) hsz')) ⟨hp, hp', ?_⟩
  have e : vs.toArray ++ vs'.toArray = (vs ++ vs').toArray := by simp
  have ho' : (s.heap.update a (Obj.mapSeq fun x => x ++ vs'.toArray)).get? a = some { cls := .type "list", data := .seq (vs ++ vs').toArray (if (vs.toArray ++ vs'.toArray).size == vs.toArray.size then n else n + 1) } := by
    rw [Heap.get?_update_self _ hp (by rw [mapSeq_app]; rfl), mapSeq_app, e]
  obtain ⟨W', S'⟩ := W.setList (h' := s.heap.update a (Obj.mapSeq fun x => x ++ vs'.toArray)) (ds := ds ++ es) ha hds (fun b o hb q => ((Heap.SameBut.update s.heap a _).2 b hb).trans q) ⟨_, ho'⟩ (RepL.append hr hr')
  exact B _ _ _ s.toks W' S' (by unfold Rep; rfl)

theorem setitem_plain {l : Addr} {items : Array Value} {k : Int} {t : Tok} {v : Value} {Q : Unit → Shared → Prop} (hl : s.heap.PlainList l items)
    (h0 : 0 ≤ k) (hfit : k < 2 ^ 63) (hn : k < items.size)
    (hQ : ∀ h', h'.PlainList l (items.setIfInBounds k.toNat v) → Heap.SameBut l s.heap h' → Q () { s with heap := h' }) :
    wpAny (model prog w) A (setItem (.ref l) (.int k t) v) Q E s := by
  obtain ⟨n, ho⟩ := hl
  have hl : s.heap.IsList l items := ⟨_, ho, rfl, n, rfl⟩
  unfold setItem
  try with_reducible refine wpAny_holding ?_
  first | refine wpAny_bind (wpAny_pure ?_) | skip
  refine wpAny_bind (wpAny_sequenceKey hl.typeIs (by decide) ?_)
  refine wpAny_bind (wpAny_callSpecial?_slot (name := Str.ofString "__setitem__") hl.typeIs slot_list_setitem
    (wpAny_call_entry slot_list_setitem hl.typeIs entry_list_setitem ?_ (args_list_setitem _ _ _)))
  show wpAny _ _ (Builtin.List.listSubscript? (.int k t) >>= _) _ _ s
  refine wpAny_bind (wpAny_listSubscript_int (fitsIndex_of h0 hfit) ?_)
  clear hfit
  obtain ⟨j, rfl⟩ := Int.eq_ofNat_of_zero_le h0
  have hj : j < items.size := by omega
  have hx' : items[j]? = some items[j] := Array.getElem?_eq_getElem hj
  show wpAny _ _ ((seqItemAt l j >>= fun r => pure (r.map (j, ·))) >>= _) _ _ s
  refine wpAny_bind (wpAny_bind (wpAny_seqItemAt ho rfl (wpAny_pure ?_)))
  rw [hx']
  show wpAny _ _ (setSeqItemAt l j v >>= _) _ _ s
  have hfin : (s.heap.update l (Obj.mapSeq (·.setIfInBounds j v))).PlainList l (items.setIfInBounds j v) := by
    have e : Obj.mapSeq (·.setIfInBounds j v) { cls := .type "list", data := .seq items n } = { cls := .type "list", data := .seq (items.setIfInBounds j v) n } := by
      simp [Obj.mapSeq]
    exact ⟨n, by rw [Heap.get?_update_self _ ho (by rw [e]; rfl), e]⟩
  refine wpAny_bind (wpAny_setSeqItemAt ho rfl ?_)
  first
    | exact wpAny_bind (wpAny_pure (wpAny_pure ⟨.none, rfl, wpAny_pure (hQ _ hfin (Heap.SameBut.update ..))⟩))
    | exact wpAny_pure ⟨.none, rfl, wpAny_pure (hQ _ hfin (Heap.SameBut.update ..))⟩

theorem setitem_sound {l k : D} {vl vk vx : Value} {Q : Unit → Shared → Prop} (W : Wd h₀ s.heap ρ σ) (r1 : Rep s.heap ρ l vl) (r2 : Rep s.heap ρ k vk) (r3 : Rep s.heap ρ x vx) (ho : opSetItem l k x σ = some σ')
    (hQ : ∀ h' tk, Wd h₀ h' ρ σ' → St noX ρ s.heap ρ h' → Q () { s with heap := h', toks := tk }) : wpAny (model prog w) A (setItem vl vk vx) Q E s := by
  unfold opSetItem at ho
  split at ho
  case h_2 => cases ho
  rename_i r i
  split at ho
  case h_2 => cases ho
  rename_i ds hds
  split at ho
  case h_2 => cases ho
  rename_i j hj
  split at ho
  case isFalse => cases ho
  rename_i hc
  cases ho
  obtain ⟨h0, hsm⟩ := hc
  have hs := small_spec hsm
  unfold Rep at r1 r2
  obtain ⟨a, rfl, ha⟩ := r1
  obtain ⟨t, rfl⟩ := r2
  obtain ⟨vs, hp, hr⟩ := W.lists r a ds ha hds
  obtain ⟨q1, q2, q3⟩ := seqIdx_spec hj
  have ej : j = i.toNat := by rcases q3 with q | q <;> omega
  subst ej
  refine setitem_plain hp h0 (by omega) (by simp only [List.size_toArray, RepL.length hr]; omega) fun h' hp' hsb => ?_
  have e : vs.toArray.setIfInBounds i.toNat vx = (vs.set i.toNat vx).toArray := by simp
  rw [e] at hp'
  obtain ⟨W', S'⟩ := W.setList (ds := ds.set i.toNat x) ha hds (fun b o hb q => (hsb.2 b hb).trans q) hp' (RepL.set _ hr r3)
  exact hQ h' s.toks W' S'
end
end Mine
end

section
open PySem PySem.W PyProof.Rows
namespace Mine
theorem clampIdx_le (n : Nat) (i : Int) : clampIdx n i ≤ n := by unfold clampIdx; split <;> omega
theorem bounds_none (lo hi : Option Int) (n : Nat) : sliceBounds lo hi none n = (((match lo with | some i => clampIdx n i | none => 0 : Nat) : Int), ((match hi with | some i => clampIdx n i | none => n : Nat) : Int), 1) := by
  have key : ∀ i : Int, max 0 (min (if i < 0 then i + n else i) (n : Int)) = ((clampIdx n i : Nat) : Int) := by
    intro i; unfold clampIdx; split <;> split <;> omega
  unfold sliceBounds
  cases lo <;> cases hi <;> simp [key]
theorem cut_pick {α : Type} (xs : List α) (lo hi : Option Int) :
    (sliceRange (sliceBounds lo hi none xs.length).1 (sliceBounds lo hi none xs.length).2.1 (sliceBounds lo hi none xs.length).2.2).filterMap (xs.toArray[·]?) = cutOf xs lo hi := by
  rw [bounds_none]
  dsimp only
  rw [sliceRange_one, pick_run]
  rfl
theorem cut_len {α : Type} (l : List α) (lo hi : Option Int) : (sliceRange (sliceBounds lo hi none l.length).1 (sliceBounds lo hi none l.length).2.1 (sliceBounds lo hi none l.length).2.2).length = (cutOf l lo hi).length := by
  have key : ∀ a b : Nat, b ≤ l.length → (sliceRange (a : Int) (b : Int) 1).length = ((l.drop a).take (b - a)).length := by
    intro a b hb
    rw [sliceRange_one, List.length_map, List.length_range, List.length_take, List.length_drop]
    omega
  rw [bounds_none]
  refine key _ _ ?_
  cases hi with
  | none => exact Nat.le_refl _
  | some q => exact clampIdx_le _ _
theorem slice_pick (xs : List Value) (lo hi : Option Int) : slicePick xs.toArray lo hi none = (cutOf xs lo hi).toArray := by
  have h := cut_pick xs lo hi
  unfold slicePick
  rw [List.size_toArray, h]
theorem rev_pick (xs : List Value) : slicePick xs.toArray none none (some (-1)) = xs.reverse.toArray := by
  unfold slicePick
  rw [List.size_toArray]
  have e : sliceBounds none none (some (-1)) xs.length = ((xs.length : Int) - 1, -1, -1) := by simp [sliceBounds]
  rw [e]
  dsimp only
  have e2 : sliceRange ((xs.length : Int) - 1) (-1) (-1) = (List.range xs.length).map fun k => xs.length - 1 - k := by
    unfold sliceRange
    have hc : (if (-1 : Int) > 0 then (if ((xs.length : Int) - 1) < -1 then (-1 - ((xs.length : Int) - 1) + -1 - 1) / (-1) else 0) else (if ((xs.length : Int) - 1) > -1 then (((xs.length : Int) - 1) - -1 - -1 - 1) / (- -1) else 0)).toNat = xs.length := by
      have e1 : (- -1 : Int) = 1 := rfl
      rw [if_neg (by omega), e1, Int.ediv_one]
      split <;> omega
    dsimp only
    rw [hc]
    apply List.map_congr_left
    intro k hk
    have := List.mem_range.mp hk
    omega
  rw [e2]
  congr 1
  apply List.ext_getElem?
  intro i
  have key : ((List.range xs.length).map fun k => xs.length - 1 - k).filterMap (xs.toArray[·]?) = ((List.range xs.length).map fun k => xs.reverse[k]?).filterMap id := by
    rw [List.filterMap_map]
    have e3 : (List.range xs.length).filterMap ((fun x => xs.toArray[x]?) ∘ fun k => xs.length - 1 - k) = ((List.range xs.length).map ((fun x => xs.toArray[x]?) ∘ fun k => xs.length - 1 - k)).filterMap id := by
      rw [List.filterMap_map]; rfl
    rw [e3]
    congr 1
    apply List.map_congr_left
    intro k hk
    have hk := List.mem_range.mp hk
    simp only [Function.comp, List.getElem?_toArray]
    rw [List.getElem?_reverse hk]
  rw [key]
  have k2 : ∀ (ys : List Value) , ((List.range ys.length).map fun k => ys[k]?).filterMap id = ys := by
    intro ys
    have : (List.range ys.length).map (fun k => ys[k]?) = ys.map some := by
      apply List.ext_getElem?
      intro j
      by_cases hj : j < ys.length
      · simp [hj]
      · simp [hj]
    rw [this, List.filterMap_map]
    simp
  have := k2 xs.reverse
  rw [List.length_reverse] at this
  rw [this]

section
variable {prog : Program} {w : World} {A : Around} {E : Value → Shared → Prop} {s : Shared} {h₀ : Heap} {ρ : List Addr} {σ σ' : Sto} {d k x y z : D} {vo vi va vb : Value} {Q : Value → Shared → Prop} {env : Env}

theorem part_sound {e : Option Expr} {b : Option Int} {Q : Value → Shared → Prop} (h : boundOf e = some b) (hQ : ∀ p : Option (Int × Tok), p.map (·.1) = b → ∀ tk, Q (partValue p) { s with toks := tk }) :
    wpAny (model prog w) A (evalPart e env) Q E s := by
  have bad : (none : Option (Option Int)) = some b → False := fun q => nomatch q
  have big : ∀ (i : Int) (o : Option Int), (if smallInt i then some o else none) = some b → o = b := by
    intro i o q
    by_cases hs : smallInt i = true
    · rw [if_pos hs] at q; exact Option.some.inj q
    · rw [if_neg hs] at q; cases q
  cases e with
  | none =>
    obtain rfl : none = b := Option.some.inj h
    exact wpAny_evalPart_none (hQ none rfl s.toks)
  | some e =>
    cases e with
    | Constant v k p =>
      cases v with
      | int i =>
        obtain rfl := big i (some i) h
        refine wpAny_evalPart_some (wpAny_Constant_int ?_)
        exact hQ (some (_, _)) rfl _
      | _ => exact (bad h).elim
    | UnaryOp op y p =>
      cases op with
      | USub =>
        cases y with
        | Constant v k q =>
          cases v with
          | int i =>
            obtain rfl := big i (some (-i)) h
            refine wpAny_evalPart_some (wpAny_UnaryOp (wpAny_Constant_int ?_))
            refine PyProof.Rows.neg_int ?_
            exact hQ (some (_, _)) rfl _
          | _ => exact (bad h).elim
        | _ => exact (bad h).elim
      | _ => exact (bad h).elim
    | _ => exact (bad h).elim
theorem isPart_of (p : Option (Int × Tok)) : IsPart (partValue p) (p.map (·.1)) := by
  cases p with
  | none => exact .none
  | some q => exact .int _ _

theorem getItem_tuple_cut {t sl : Addr} {items : List Value} {a b : Nat} {u u' : Tok} {Q : Value → Shared → Prop} (ht : IsTup s.heap t items.toArray) (hs : s.heap.IsSliceOf sl (.int a u) (.int b u') .none) (h1 : 1 ≤ a) (hab : a ≤ b) (hb : b ≤ items.length)
    (h : Q (.ref s.heap.objs.size) { s with heap := s.heap.push { cls := .type "tuple", data := .seq ((items.drop a).take (b - a)).toArray } })
    (hsz : items.length ≤ sizeLine) : wpAny (model prog w) A (getItem (.ref t) (.ref sl)) Q E s := by
  have hdrop : sizeOk (.seq ((items.drop a).take (b - a)).toArray) := by
    show ((items.drop a).take (b - a)).toArray.size ≤ sizeLine
    rw [List.size_toArray, List.length_take, List.length_drop]
    omega
  obtain ⟨os, hos, hcs, hds⟩ := id hs
  have hTs : s.TypeIs (.ref sl) "slice" := ⟨os, hos, hcs⟩
  have happ : ∀ {Q : Int × Int × Nat → Shared → Prop}, Q ((a : Int), 1, b - a) s → wpAny (model prog w) A.in1 (Builtin.Slice.sliceApplied (.ref sl) (pure (items.length : Int))) Q E s := by
    intro Q h
    unfold Builtin.Slice.sliceApplied Builtin.Slice.sliceFields
    refine wpAny_bind (wpAny_bind (wpAny_field hos hds (x := .int a u) rfl (wpAny_bind (wpAny_field hos hds (x := .int b u') rfl (wpAny_bind (wpAny_field hos hds (x := .none) rfl (wpAny_pure ?_)))))))
    refine wpAny_bind (slicePart_none ?_)
    show wpAny _ _ (if ((1 : Int) == 0) = true then _ else _) _ _ s
    rw [if_neg (by decide)]
    refine wpAny_bind (slicePart_int (wpAny_bind (slicePart_int (wpAny_bind (wpAny_pure ?_)))))
    show wpAny _ _ (match Builtin.Slice.sliceAdjust (some (a : Int)) (some (b : Int)) 1 (items.length : Int) with | (lo, hi) => pure (lo, (1 : Int), Builtin.Slice.slicePlaces lo hi 1)) _ _ s
    have e1 : Builtin.Slice.sliceAdjust (some (a : Int)) (some (b : Int)) 1 (items.length : Int) = ((a : Int), (b : Int)) := by
      unfold Builtin.Slice.sliceAdjust
      have h1 : ¬ ((1 : Int) < 0) := by omega
      have h2 : ¬ ((a : Int) < 0) := by omega
      have h3 : ¬ ((b : Int) < 0) := by omega
      simp only [h1, h2, h3, if_false]
      rw [Int.min_eq_left (by omega), Int.min_eq_left (by omega)]
    have e2 : Builtin.Slice.slicePlaces (a : Int) (b : Int) 1 = b - a := by
      unfold Builtin.Slice.slicePlaces
      have h1 : (1 : Int) > 0 := by omega
      simp only [h1, if_true, Int.ediv_one]
      split <;> omega
    rw [e1]
    show wpAny _ _ (pure ((a : Int), (1 : Int), Builtin.Slice.slicePlaces (a : Int) (b : Int) 1)) _ _ s
    rw [e2]
    exact wpAny_pure h
  unfold getItem
  try with_reducible refine wpAny_holding ?_
  first | refine wpAny_bind (wpAny_pure ?_) | skip
  refine wpAny_bind (wpAny_sequenceKey ht.typeIs (by decide) ?_)
  refine wpAny_bind (wpAny_callSpecial?_slot (name := Str.ofString "__getitem__") ht.typeIs slot_tuple_getitem
    (wpAny_call_entry slot_tuple_getitem ht.typeIs entry_tuple_getitem ?_ (args_tuple_getitem _ _)))
  show wpAny _ _ (Builtin.Tuple.tupleItemsOf (.ref t) >>= _) _ _ s
  refine wpAny_bind (tupleItemsOf_ ht ?_)
  refine wpAny_bind (wpAny_typeOf hTs ?_)
  rw [if_pos (by decide)]
  have esz : (items.toArray.size : Int) = (items.length : Int) := by rw [List.size_toArray]
  rw [esz]
  refine wpAny_bind (happ ?_)
  have hno : ¬ (((a : Int) == 0 && (1 : Int) == 1 && (b - a) == items.toArray.size) = true) := by
    have : ((a : Int) == 0) = false := by rw [beq_eq_false_iff_ne]; omega
    rw [this]; simp
  show wpAny _ _ (if ((a : Int) == 0 && (1 : Int) == 1 && (b - a) == items.toArray.size) = true then _ else _) _ _ s
  have epick : ((List.range (b - a)).filterMap fun (k : Nat) => items.toArray[((a : Int) + (k : Int) * 1).toNat]?).toArray = ((items.drop a).take (b - a)).toArray := by
    have e : (fun (k : Nat) => items.toArray[((a : Int) + (k : Int) * 1).toNat]?) = fun k => items.toArray[a + k]? := by
      funext k
      have : ((a : Int) + (k : Int) * 1).toNat = a + k := by omega
      rw [this]
    rw [e]
    have := pick_run items.toArray a (b - a)
    rw [List.filterMap_map] at this
    have e2 : ((fun x => items.toArray[x]?) ∘ fun x => a + x) = fun k => items.toArray[a + k]? := rfl
    rw [e2] at this
    rw [this]
  rw [if_neg hno, epick]
  first
    | exact wpAny_bind (m := Builtin.Tuple.tupleExact _) (wpAny_newObj_type (wpAny_pure ⟨_, rfl, wpAny_pure h⟩) hdrop)
    | exact wpAny_bind (m := Builtin.Tuple.tupleExact _) (wpAny_newObj_type (wpAny_bind (wpAny_pure (wpAny_pure ⟨_, rfl, wpAny_pure h⟩))) hdrop)
    | exact wpAny_bind (wpAny_bind (m := Builtin.Tuple.tupleExact _) (wpAny_newObj_type (wpAny_pure (wpAny_pure ⟨_, rfl, wpAny_pure h⟩)) hdrop))
    | exact wpAny_bind (wpAny_bind (m := Builtin.Tuple.tupleExact _) (wpAny_newObj_type (wpAny_pure ⟨_, rfl, wpAny_pure h⟩) hdrop))

theorem cut_length' {α : Type} (l : List α) (a b : Nat) (h : ((l.drop a).take (b - a)).length = l.length) : (l.drop a).take (b - a) = l := by
  rw [List.length_take, List.length_drop] at h
  by_cases hl : l.length = 0
  · have : l = [] := List.eq_nil_of_length_eq_zero hl
    subst this; simp
  · have : a = 0 := by omega
    subst this
    rw [List.drop_zero, List.take_of_length_le (by omega)]
theorem cut_length {α : Type} (l : List α) (lo hi : Option Int) (h : (cutOf l lo hi).length = l.length) : cutOf l lo hi = l := cut_length' l _ _ h

theorem slice_sound {value : Expr} {lower upper step : Option Expr} {p : Pos} {lo hi st : Option Int} (W : Wd h₀ s.heap ρ σ) (r1 : Rep s.heap ρ d vo)
    (b1 : boundOf lower = some lo) (b2 : boundOf upper = some hi) (b3 : boundOf step = some st) (ho : opSlice d lo hi st σ = some (z, σ')) (B : Back h₀ ρ s Q z σ') :
    wpAny (model prog w) A (eval (.Slice lower upper step p) env) (fun i s' => wpAny (model prog w) A (subscriptTail value (.Slice lower upper step p) vo i) Q E s') E s := by
  refine wpAny_Slice (part_sound b1 fun p1 e1 t1 => part_sound b2 fun p2 e2 t2 => part_sound b3 fun p3 e3 t3 => ?_)
  subst e1; subst e2; subst e3
  generalize hs' : ({ s with heap := s.heap.push { cls := .type "slice", data := .fields #[partValue p1, partValue p2, partValue p3] }, toks := t3 } : Shared) = s'
  show wpAny (model prog w) A (subscriptTail value (.Slice lower upper step p) vo (.ref s.heap.objs.size)) Q E _
  have hsl : s'.heap.IsSliceOf s.heap.objs.size (partValue p1) (partValue p2) (partValue p3) := by rw [← hs']; exact Heap.IsSliceOf.new ..
  have hsl' : s'.heap.IsSlice s.heap.objs.size p1 p2 p3 := by rw [← hs']; exact ⟨_, Heap.get?_push_size _ rfl, rfl, rfl⟩
  obtain ⟨W0, S0⟩ := W.push { cls := .type "slice", data := .fields #[partValue p1, partValue p2, partValue p3] }
  have W' : Wd h₀ s'.heap ρ σ := by rw [← hs']; exact W0
  have S' : St noX ρ s.heap ρ s'.heap := by rw [← hs']; exact S0
  have r1' := Rep.mono S' (xok_none _) _ _ r1
  have B' : Back h₀ ρ s' Q z σ' := by
    intro v ρ' h' tk W2 S2 r2
    have := B v ρ' h' tk W2 (St.trans W' (xok_none _) S' S2) r2
    rw [← hs']; exact this
  obtain ⟨ops, hops⟩ := subscripted_false value (.Slice lower upper step p) vo (.ref s.heap.objs.size)
  clear hs' B r1 S' W W0 S0
  unfold opSlice at ho
  split at ho
  · rename_i hst
    have hst' : p3 = none := by cases p3 with | none => rfl | some q => simp at hst
    subst hst'
    split at ho
    · rename_i l
      split at ho
      · rename_i a b ha hb
        split at ho
        · rename_i hc
          cases ho
          unfold Rep at r1'
          obtain ⟨ad, vs, rfl, hT, hn, hr⟩ := r1'
          obtain ⟨q1, q2, q3, q4⟩ := hc
          have e1 := RepL.length hr
          cases p1 with
          | none => simp at ha
          | some c1 =>
          cases p2 with
          | none => simp at hb
          | some c2 =>
          obtain ⟨a', u1⟩ := c1
          obtain ⟨b', u2⟩ := c2
          simp only [Option.map_some, Option.some.injEq] at ha hb
          subst ha; subst hb
          obtain ⟨an, rfl⟩ := Int.eq_ofNat_of_zero_le (show 0 ≤ a' by omega)
          obtain ⟨bn, rfl⟩ := Int.eq_ofNat_of_zero_le (show 0 ≤ b' by omega)
          refine tail_any (Heap.IsTuple.typeIs hT) slot_tuple_getitem.lookup (getItem_tuple_cut (a := an) (b := bn) hT hsl (by omega) (by omega) (by omega) ?_ (by rw [e1]; exact Nat.le_trans q4 cap_line)) hops
          refine B'.tuple W' (fun _ _ e => Heap.get?_push_of_some _ e) (fresh_none _) ⟨_, Heap.get?_push_size _ rfl, rfl, 0, rfl⟩ ?_ s'.toks
          exact RepL.take _ (RepL.drop _ hr)
        · cases ho
      · cases ho
    · rename_i r
      split at ho
      case h_2 => cases ho
      rename_i l hl
      split at ho
      case isFalse => cases ho
      rename_i hsz
      cases ho
      unfold Rep at r1'
      obtain ⟨a, rfl, ha⟩ := r1'
      obtain ⟨vs, hp, hr⟩ := W'.lists r a l ha hl
      have e1 := RepL.length hr
      refine tail_any hp.isList.typeIs slot_list_getitem.lookup (wpAny_getItem_list_slice hp.isList hsl (isPart_of p1) (isPart_of p2) .none (by simp) ?_ (by simp only [List.size_toArray, e1]; exact Nat.le_trans hsz cap_line)) hops
      rw [slice_pick]
      refine B'.list W' (fun _ _ e => Heap.get?_push_of_some _ e) (fresh_none _) ⟨0, Heap.get?_push_size _ rfl⟩ ?_ s'.toks
      unfold cutOf
      dsimp only
      rw [e1]
      exact RepL.take _ (RepL.drop _ hr)
    · rename_i l
      split at ho
      case isFalse => cases ho
      rename_i hsz
      cases ho
      unfold Rep at r1'
      obtain ⟨t, rfl⟩ := r1'
      refine tail_any (T := "str") (typeIs_str _ _ t) PySem.F.slot_str_getitem.lookup (wpAny_getItem_str_slice hsl' rfl ?_) hops
      have elen : (⟨l.toArray⟩ : Str).length = l.length := by simp [Str.length]
      have epk : (slicePicked ⟨l.toArray⟩ p1 p2 none).filterMap ((⟨l.toArray⟩ : Str).cps[·]?) = cutOf l (p1.map (·.1)) (p2.map (·.1)) := by
        have := cut_pick l (p1.map (·.1)) (p2.map (·.1))
        rw [← this]
        unfold slicePicked
        rw [elen]
        rfl
      have elk : (slicePicked ⟨l.toArray⟩ p1 p2 none).length = (cutOf l (p1.map (·.1)) (p2.map (·.1))).length := by
        have h1 : slicePicked ⟨l.toArray⟩ p1 p2 none = sliceRange (sliceBounds (p1.map (·.1)) (p2.map (·.1)) none l.length).1 (sliceBounds (p1.map (·.1)) (p2.map (·.1)) none l.length).2.1 (sliceBounds (p1.map (·.1)) (p2.map (·.1)) none l.length).2.2 := by
          unfold slicePicked
          rw [elen]
          rfl
        rw [h1, cut_len]
      unfold sliceMade
      by_cases hc : (((none : Option (Int × Tok)).map (·.1)).getD 1 == 1 && (slicePicked ⟨l.toArray⟩ p1 p2 none).length == (⟨l.toArray⟩ : Str).length) = true
      · rw [if_pos hc]
        rw [Bool.and_eq_true] at hc
        have h2 := beq_iff_eq.mp hc.2
        rw [elk, elen] at h2
        have := cut_length l _ _ h2
        rw [this] at B'
        exact B'.here W' (rep_str _ _) s'.toks
      · rw [if_neg hc]
        rw [epk]
        have hfit : (⟨(cutOf l (p1.map (·.1)) (p2.map (·.1))).toArray⟩ : Str).length ≤ sizeLine := by
          have : (⟨(cutOf l (p1.map (·.1)) (p2.map (·.1))).toArray⟩ : Str).length = (cutOf l (p1.map (·.1)) (p2.map (·.1))).length := by simp [Str.length]
          rw [this]
          unfold cutOf
          dsimp only
          rw [List.length_take, List.length_drop]
          have := cap_line
          omega
        exact ⟨hfit, B'.here W' (rep_str _ _) _⟩
    · cases ho
  · rename_i kk hst
    split at ho
    case isFalse => cases ho
    rename_i hc
    obtain ⟨rfl, hlo, hhi⟩ := hc
    have h1 : p1 = none := by cases p1 with | none => rfl | some q => simp at hlo
    have h2 : p2 = none := by cases p2 with | none => rfl | some q => simp at hhi
    subst h1; subst h2
    split at ho
    case h_2 => cases ho
    rename_i r
    split at ho
    case h_2 => cases ho
    rename_i l hl
    split at ho
    case isFalse => cases ho
    rename_i hsz
    cases ho
    unfold Rep at r1'
    obtain ⟨a, rfl, ha⟩ := r1'
    obtain ⟨vs, hp, hr⟩ := W'.lists r a l ha hl
    have e1 := RepL.length hr
    have e3 := isPart_of p3
    rw [hst] at e3
    refine tail_any hp.isList.typeIs slot_list_getitem.lookup (wpAny_getItem_list_slice hp.isList hsl .none .none e3 (by simp) ?_ (by simp only [List.size_toArray, e1]; exact Nat.le_trans hsz cap_line)) hops
    rw [rev_pick]
    exact B'.list W' (fun _ _ e => Heap.get?_push_of_some _ e) (fresh_none _) ⟨0, Heap.get?_push_size _ rfl⟩ (RepL.reverse hr) s'.toks
end
end Mine
end

section
open PySem PySem.W PyProof.Rows
namespace Mine
theorem lookup_zip {α : Type} : ∀ {names : List Str} {vals : List α}, names.Nodup → ∀ {i : Nat} {n : Str}, names[i]? = some n → (names.zip vals).lookup n = vals[i]?
  | [], _, _, i, n, h => by cases h
  | m :: names, [], _, i, n, h => by simp
  | m :: names, v :: vals, hn, i, n, h => by
    rw [List.zip_cons_cons, List.lookup_cons]
    rw [List.nodup_cons] at hn
    cases i with
    | zero => cases h; simp
    | succ i =>
      have h' : names[i]? = some n := by simpa using h
      have hne : (n == m) = false := by
        rw [beq_eq_false_iff_ne]
        rintro rfl
        exact hn.1 (List.mem_of_getElem? h')
      rw [hne]
      simpa using lookup_zip hn.2 h'
theorem lookup_zip_none {α : Type} : ∀ {names : List Str} {vals : List α} {n : Str}, n ∉ names → (names.zip vals).lookup n = none
  | [], _, n, _ => rfl
  | m :: names, [], n, _ => by simp
  | m :: names, v :: vals, n, h => by
    rw [List.zip_cons_cons, List.lookup_cons]
    have hne : (n == m) = false := by
      rw [beq_eq_false_iff_ne]; rintro rfl; exact h (List.mem_cons_self ..)
    rw [hne]
    exact lookup_zip_none fun q => h (List.mem_cons_of_mem _ q)
theorem lookup_app {α : Type} (l r : List (Str × α)) (n : Str) : (l ++ r).lookup n = (l.lookup n).or (r.lookup n) := by
  induction l with
  | nil => rfl
  | cons p l ih =>
    obtain ⟨k, v⟩ := p
    rw [List.cons_append, List.lookup_cons, List.lookup_cons]
    cases n == k with
    | true => rfl
    | false => exact ih

theorem dflt_loop (f : Str × Value → List (Str × Value) → Sem (ForInStep (List (Str × Value))))
    (hf : ∀ p l, f p l = if (List.lookup p.1 l).isNone = true then pure (ForInStep.yield (l ++ [(p.1, p.2)])) else pure (ForInStep.yield l)) :
    ∀ (L slots : List (Str × Value)), (L.map (·.1)).Nodup → forIn (m := Sem) L slots f = pure (slots ++ L.filter fun p => (slots.lookup p.1).isNone)
  | [], slots, _ => by rw [List.forIn_nil]; simp
  | p :: L, slots, hn => by
    rw [List.forIn_cons, hf]
    rw [List.map_cons, List.nodup_cons] at hn
    by_cases h : (List.lookup p.1 slots).isNone = true
    · rw [if_pos h]
      show forIn (m := Sem) L (slots ++ [(p.1, p.2)]) f = _
      rw [dflt_loop f hf L _ hn.2]
      have e : (L.filter fun q => ((slots ++ [(p.1, p.2)]).lookup q.1).isNone) = L.filter fun q => (slots.lookup q.1).isNone := by
        apply List.filter_congr
        intro q hq
        have hne : (q.1 == p.1) = false := by
          rw [beq_eq_false_iff_ne]
          intro z
          exact hn.1 (z ▸ List.mem_map_of_mem hq)
        rw [lookup_app]
        have : List.lookup q.1 [(p.1, p.2)] = none := by rw [List.lookup_cons, hne]; rfl
        rw [this]
        cases slots.lookup q.1 <;> rfl
      rw [e, List.filter_cons, if_pos h]
      simp
    · rw [if_neg h]
      show forIn (m := Sem) L slots f = _
      rw [dflt_loop f hf L _ hn.2, List.filter_cons, if_neg h]

theorem filterMap_zip {names : List Str} {total : List Value} (hlen : names.length = total.length) (g : Str → Option Value) (hg : ∀ (i : Nat) (n : Str), names[i]? = some n → g n = total[i]?) :
    names.filterMap (fun n => (g n).map fun v => (n, v)) = names.zip total := by
  induction names generalizing total with
  | nil => simp
  | cons n names ih =>
    cases total with
    | nil => cases hlen
    | cons v total =>
      have h0 : g n = some v := by simpa using hg 0 n rfl
      rw [List.filterMap_cons, h0, List.zip_cons_cons]
      simp only [Option.map_some, List.cons.injEq, true_and]
      exact ih (by simpa using hlen) fun i m hi => by simpa using hg (i + 1) m (by simpa using hi)

theorem lookup_filter {α : Type} {L : List (Str × α)} {n : Str} {p : Str × α → Bool} (hp : ∀ v, p (n, v) = true) : (L.filter p).lookup n = L.lookup n := by
  induction L with
  | nil => rfl
  | cons q L ih =>
    obtain ⟨k, v⟩ := q
    rw [List.filter_cons, List.lookup_cons]
    cases h : n == k with
    | true =>
      have e : n = k := beq_iff_eq.mp h
      subst e
      rw [if_pos (hp v), List.lookup_cons, h]
    | false =>
      split
      · rw [List.lookup_cons, h]; exact ih
      · exact ih

/-- the binds of a call by places, with trailing defaults -/
noncomputable def bindsOf (names : List Str) (dfl vals : List Value) : List (Str × Value) := names.zip (vals ++ dfl.drop (dfl.length - (names.length - vals.length)))

theorem binds_to {s : Shared} {fd : FuncData} {ps : List Arg} {kd : List (Option Expr)} {ds : List Expr} {vals dfl : List Value} (hp : fd.params = { posonlyargs := [], args := ps, vararg := none, kwonlyargs := [], kw_defaults := kd, kwarg := none, defaults := ds })
    (hn : (ps.map (·.arg)).Nodup) (h1 : vals.length ≤ ps.length) (h2 : ps.length ≤ vals.length + dfl.length) (h3 : dfl.length ≤ ps.length)
    (hd : (fd.defaults = .none ∧ dfl = []) ∨ ∃ T o items n, fd.defaults = .ref T ∧ s.heap.get? T = some o ∧ o.data = .seq items n ∧ items.toList = dfl) :
    BindsTo s fd ⟨vals, []⟩ (bindsOf (ps.map (·.arg)) dfl vals) := by
  intro M A E Q hQ
  unfold bindArgs
  rw [hp]
  dsimp only [List.map_nil, List.nil_append, List.forIn_nil]
  generalize hN : ps.map (fun x => x.arg) = names at hn hQ
  have hl : names.length = ps.length := by rw [← hN, List.length_map]
  rw [← hl] at h1 h2 h3
  clear hN hp
  refine wpAny_bind (wpAny_pure ?_)
  have rest : ∀ r : Option (Array Value), (r.getD #[]).toList = dfl → ∀ {X : Sem (List (Str × Value))}, True := fun _ _ _ => trivial
  have seqs : ∀ {α : Type} {k : Option (Array Value) → Sem α} {Q : α → Shared → Prop}, (∀ r : Option (Array Value), (r.getD #[]).toList = dfl → wpAny M A (k r) Q E s) → wpAny M A (seqItems? fd.defaults >>= k) Q E s := by
    intro α k Q hk
    rcases hd with ⟨e1, e2⟩ | ⟨T, o, items, n, e1, e2, e3, e4⟩
    · rw [e1]
      exact wpAny_bind (wpAny_pure (hk none (by rw [e2]; rfl)))
    · rw [e1]
      exact wpAny_bind (wpAny_seqItems e2 e3 (hk (some items) e4))
  refine seqs fun r hr => ?_
  rw [hr]
  simp only [List.map_nil, List.nil_append, List.append_nil]
  have hdrop : dfl.length - names.length = 0 := by omega
  rw [hdrop, List.drop_zero]
  rw [if_neg (by simp only [Option.isNone_none, Bool.and_true, decide_eq_true_eq]; omega)]
  have hmiss : (List.filter (fun n => (List.lookup n (names.zip vals)).isNone) (List.take (names.length - dfl.length) names)) = [] := by
    rw [List.filter_eq_nil_iff]
    intro n hm
    obtain ⟨i, hi⟩ := List.getElem?_of_mem hm
    rw [List.getElem?_take] at hi
    split at hi
    · rename_i hlt
      rw [lookup_zip hn hi]
      have : i < vals.length := by omega
      rw [List.getElem?_eq_getElem this]
      simp
    · cases hi
  rw [hmiss]
  rw [if_neg (by simp)]
  have hnd : (((names.drop (names.length - dfl.length)).zip dfl).map (·.1)).Nodup := by
    rw [List.map_fst_zip (by rw [List.length_drop]; omega)]
    exact hn.sublist (List.drop_sublist _ _)
  refine wpAny_bind (wpAny_of_eq (dflt_loop _ (fun p l => rfl) _ _ hnd) ?_)
  refine wpAny_bind (wpAny_pure ?_)
  dsimp only
  rw [if_neg (by simp)]
  refine wpAny_pure ?_
  have key : names.filterMap (fun n => (List.lookup n (names.zip vals ++ List.filter (fun p => (List.lookup p.1 (names.zip vals)).isNone) ((names.drop (names.length - dfl.length)).zip dfl))).map fun v => (n, v)) = bindsOf names dfl vals := by
    unfold bindsOf
    refine filterMap_zip (by rw [List.length_append, List.length_drop]; omega) _ fun i n hi => ?_
    have hlt : i < names.length := (List.getElem?_eq_some_iff.mp hi).1
    rw [lookup_app, lookup_zip hn hi]
    by_cases hv : i < vals.length
    · rw [List.getElem?_eq_getElem hv, List.getElem?_append_left hv, List.getElem?_eq_getElem hv]; rfl
    · rw [List.getElem?_eq_none (by omega), List.getElem?_append_right (by omega)]
      have hnone : List.lookup n (names.zip vals) = none := by rw [lookup_zip hn hi, List.getElem?_eq_none (by omega)]
      rw [lookup_filter (fun v => by simp only [hnone, Option.isNone_none])]
      have hi' : (names.drop (names.length - dfl.length))[i - (names.length - dfl.length)]? = some n := by
        rw [List.getElem?_drop]
        have : names.length - dfl.length + (i - (names.length - dfl.length)) = i := by omega
        rw [this]; exact hi
      rw [lookup_zip (hn.sublist (List.drop_sublist _ _)) hi', List.getElem?_drop]
      show dfl[_]? = _
      congr 1
      omega
  rw [key]
  exact hQ
end Mine
end

section
open PySem PySem.W PyProof.Rows
namespace Mine
/-- what stands: the written part of the heap, the tables -/
structure Cx where
  prog : Program
  w : World
  h₀ : Heap
  K : Frag
  mb : Str → Option Value
  fns : List Str
  consts : List (Str × D)
  tab : Str
  ta : Addr
  T : List (List Nat × Int)

noncomputable def StrsK : List D → List Value → Prop
  | [], vs => vs = []
  | d :: l, vs => ∃ s t vs', d = .str s ∧ vs = .str ⟨s.toArray⟩ t :: vs' ∧ StrsK l vs'
noncomputable def RepK (K : Frag) : D → Value → Prop
  | .int i, v => ∃ t, v = .int i t
  | .str s, v => ∃ t, v = .str ⟨s.toArray⟩ t
  | .bool b, v => v = .bool b
  | .none, v => v = .none
  | .tup l, v => ∃ a o vs n, v = .ref a ∧ K.lookup a = some o ∧ o.cls = .type "tuple" ∧ o.data = .seq (List.toArray vs) n ∧ StrsK l vs
  | _, _ => False

noncomputable def biNames : List (Str × BI) := [(Str.ofString "len", .len), (Str.ofString "max", .max), (Str.ofString "range", .range), (Str.ofString "tuple", .tuple), (Str.ofString "str", .str)]

structure Cx.Ok (x : Cx) : Prop where
  kin : x.K.In x.h₀
  nolim : x.h₀.NoLimit
  b : x.h₀.Ns builtinsNs x.mb
  bi : ∀ y : Str, y ≠ Str.ofString "__name__" → x.mb y = bootBuiltins y
  cst : ∀ y d, x.consts.lookup y = some d → ∃ v, nsIn x.K mainGlobals y = some (some v) ∧ RepK x.K d v
  tabg : nsIn x.K mainGlobals x.tab = some (some (.ref x.ta))
  tabd : ∃ es n, x.K.lookup x.ta = some ⟨.type "dict", none, .dict es n, #[]⟩ ∧ KeysLit x.w.params es.toList
  tabl : ∀ y i, x.T.lookup y = some i → ∃ t, nsIn x.K x.ta ⟨y.toArray⟩ = some (some (.int i t))
  bin : ∀ p ∈ biNames, nsIn x.K mainGlobals p.1 = some none
  fn : ∀ (i : Nat) (f : Str), x.fns[i]? = some f → ∃ a o fd, nsIn x.K mainGlobals f = some (some (.ref a)) ∧ x.K.lookup a = some o ∧ o.data = .func fd

structure AOk (A : Around) (n : Nat) : Prop where
  handled : A.handled = none
  depth : A.depth + n < recursionLimit
  units : A.units + 12 * n + 40 < cLine
theorem AOk.u {A : Around} {n : Nat} (a : AOk A n) : A.units < cLine := by have := a.units; omega
theorem AOk.d {A : Around} {n : Nat} (a : AOk A n) : A.depth < recursionLimit := by have := a.depth; omega

/-- the calls of the text's own defs -/
noncomputable def CallOK (x : Cx) (C : CallT) (n : Nat) : Prop :=
  ∀ f args σ d σ', C f args σ = some (d, σ') → ∀ name a, x.fns[f]? = some name → nsIn x.K mainGlobals name = some (some (.ref a)) →
    ∀ A, AOk A n → ∀ (s : Shared) (ρ : List Addr) vs Q E, Wd x.h₀ s.heap ρ σ → RepL s.heap ρ args vs → Back x.h₀ ρ s Q d σ' → wpAny (model x.prog x.w) A (call (.ref a) vs) Q E s

structure SCx (x : Cx) (c : SC) : Prop where
  fns : c.fns = x.fns
  consts : c.consts = x.consts
  tab : c.tab = x.tab

section
variable {x : Cx} {A : Around} {E : Value → Shared → Prop} {s : Shared} {ρ : List Addr} {σ σ' : Sto} {env : Env} {c : SC} {ve : VEnv} {d z : D} {Q : Value → Shared → Prop}

theorem strsK_rep {h : Heap} : ∀ {l : List D} {vs : List Value}, StrsK l vs → RepL h ρ l vs
  | [], _, r => by unfold StrsK at r; subst r; exact RepL.nil
  | d :: l, vs, r => by
    unfold StrsK at r
    obtain ⟨s, t, vs', rfl, rfl, r⟩ := r
    exact RepL.cons (rep_str s t) (strsK_rep r)
theorem repK_rep (O : x.Ok) (W : Wd x.h₀ s.heap ρ σ) {v : Value} (r : RepK x.K d v) : Rep s.heap ρ d v := by
  cases d with
  | int i => exact r
  | str l => exact r
  | bool b => exact r
  | none => exact r
  | tup l =>
    obtain ⟨a, o, vs, n, rfl, hl, hc, hd, hs⟩ := r
    have h0 := O.kin a o hl
    unfold Rep
    refine ⟨a, vs, rfl, ⟨o, W.keep0 a o h0, hc, n, hd⟩, fun hm => ?_, strsK_rep hs⟩
    rw [W.new0 a hm] at h0; cases h0
  | _ => exact r.elim

theorem Wd.looks (W : Wd x.h₀ s.heap ρ σ) {α : Type} {M : Model} {t : Sem α} {r : α} (L : Looks M x.h₀ t r) {E : Value → Shared → Prop} {Q : α → Shared → Prop} (h : Q r s) : wpAny M A t Q E s := L A Q E s W.keep0 h

theorem load_global (O : x.Ok) (W : Wd x.h₀ s.heap ρ σ) (S : SEnv x.h₀ env c) {y : Str} {v : Value} (hg : c.isGlob y = true) (hn : nsIn x.K mainGlobals y = some (some v)) (h : Q v s) :
    wpAny (model x.prog x.w) A (loadName env y) Q E s := by
  rw [loadName_read S.kind (S.kdg y (SC.isGlob_spec hg))]
  unfold loadGlobal
  rw [S.glob]
  exact wpAny_bind (W.looks (looks_nsIn O.kin hn) (wpAny_pure h))
theorem load_builtin (O : x.Ok) (W : Wd x.h₀ s.heap ρ σ) (S : SEnv x.h₀ env c) {y : Str} {v : Value} (hg : c.isGlob y = true) (hn : nsIn x.K mainGlobals y = some none) (hy : y ≠ Str.ofString "__name__") (hb : bootBuiltins y = some v) (h : Q v s) :
    wpAny (model x.prog x.w) A (loadName env y) Q E s := by
  rw [loadName_read S.kind (S.kdg y (SC.isGlob_spec hg))]
  unfold loadGlobal
  rw [S.glob, S.bi]
  refine wpAny_bind (W.looks (looks_nsIn O.kin hn) ?_)
  have hns := Heap.Ns.keeps O.b W.keep0
  dsimp only
  first
    | exact wpAny_bind (wpAny_nsGet hns (by rw [O.bi y hy, hb]; exact wpAny_pure h))
    | exact wpAny_bind (wpAny_pure (wpAny_bind (wpAny_nsGet hns (by rw [O.bi y hy, hb]; exact wpAny_pure h))))

theorem not_debug (S : SEnv x.h₀ env c) {y : Str} (h : c.kd y ≠ none) : (y == ("__debug__" : Str)) = false := by
  rw [beq_eq_false_iff_ne]
  rintro rfl
  exact h S.dbg
theorem glob_not_debug (S : SEnv x.h₀ env c) {y : Str} (h : c.isGlob y = true) : (y == ("__debug__" : Str)) = false :=
  not_debug S (by rw [SC.isGlob_spec h]; simp)

theorem eval_global (O : x.Ok) (W : Wd x.h₀ s.heap ρ σ) (S : SEnv x.h₀ env c) {y : Str} {p : Pos} {v : Value} (hg : c.isGlob y = true) (hn : nsIn x.K mainGlobals y = some (some v)) (h : Q v s) :
    wpAny (model x.prog x.w) A (eval (.Name y p) env) Q E s := wpAny_Name (load_global O W S hg hn h) (glob_not_debug S hg)

theorem const_sound (O : x.Ok) (W : Wd x.h₀ s.heap ρ σ) (S : SEnv x.h₀ env c) (X : SCx x c) {y : Str} {p : Pos} (h : c.global y = some d) (B : Back x.h₀ ρ s Q d σ) : wpAny (model x.prog x.w) A (eval (.Name y p) env) Q E s := by
  unfold SC.global at h
  split at h
  · rename_i hg
    rw [X.consts] at h
    obtain ⟨v, hn, r⟩ := O.cst y d h
    exact eval_global O W S hg hn (B.here W (repK_rep O W r) s.toks)
  · cases h

theorem tab_sound (O : x.Ok) (W : Wd x.h₀ s.heap ρ σ) {y : List Nat} {i : Int} {value slice : Expr} {t : Tok} (h : x.T.lookup y = some i) (B : Back x.h₀ ρ s Q (.int i) σ) :
    wpAny (model x.prog x.w) A (subscriptTail value slice (.ref x.ta) (.str ⟨y.toArray⟩ t)) Q E s := by
  obtain ⟨ops, hops⟩ := subscripted_false value slice (.ref x.ta) (.str ⟨y.toArray⟩ t)
  obtain ⟨es, n, hl, hk⟩ := O.tabd
  obtain ⟨u, hi⟩ := O.tabl y i h
  have hm := mapOf_K (prog := x.prog) (O.kin.keeps W.keep0) hl hk
  exact tail_any hm.typeIs slot_dict_getitem.lookup (wpAny_getItem_of (strKind_is x.prog x.w _ t) hm (find_K hl hi) (B.here W (rep_int _ _) _)) hops

/-! ### calls -/
theorem callWith_machine {M : Model} {pos : Pos} {f : Value} {first : List Value} {args : List (Bool × Sem Value)} {s : Shared} (hf : ∀ a, f ≠ .ref a) (hs : args.any (·.1) = false)
    (h : wpAny M A (spliced args) (fun vs s₁ => wpAny M A (call f (first ++ vs)) Q E s₁) E s) : wpAny M A (callWith pos f first args []) Q E s := by
  have hargs : ∀ {Q' : Args → Shared → Prop}, wpAny M A (spliced args) (fun vs s₁ => Q' ⟨vs, []⟩ s₁) E s → wpAny M A (evalArgs f true args []) Q' E s := by
    intro Q' h
    cases args with
    | nil =>
      unfold evalArgs
      show wpAny M A (spliced [] >>= _) Q' E s
      refine wpAny_bind (wpAny_mono h (fun vs s₁ h₁ => ?_) fun _ _ e => e)
      refine wpAny_bind (wpAny_pure ?_)
      refine wpAny_holding ?_
      exact wpAny_bind (wpAny_pure (wpAny_bind (wpAny_pure (wpAny_pure h₁))))
    | cons a rest =>
      obtain ⟨st, t⟩ := a
      cases st with
      | true => simp at hs
      | false => exact evalArgs_kw rfl (wpAny_mono h (fun vs s₁ h₁ => wpAny_evalAll_nil h₁) fun _ _ e => e)
  unfold callWith
  refine wpAny_bind (wpAny_holding (wpAny_mono (hargs (Q' := fun a s₁ => a.kw = [] ∧ wpAny M A (call f (first ++ a.pos)) Q E s₁) (wpAny_mono h (fun vs s₁ h₁ => ⟨rfl, h₁⟩) fun _ _ e => e)) (fun a s₁ h₁ => ?_) fun _ _ e => e))
  obtain ⟨hkw, hc⟩ := h₁
  refine wpAny_bind (wpAny_standAt ?_)
  rw [hkw]
  have hst : (args.any (·.1) || ([] : List (Option Str × Sem Value)).any (·.1.isNone)) = false := by rw [hs]; rfl
  have hk : keeperOf f = pure .machine := by
    cases f with
    | ref a => exact absurd rfl (hf a)
    | _ => rfl
  refine wpAny_bind (m := keeperOf f) (wpAny_of_eq hk ?_)
  rw [hst]
  exact wpAny_bind (wpAny_mono hc (fun r s₂ hr => wpAny_bind (wpAny_holding (wpAny_point (wpAny_pure hr)))) fun _ _ e => e)
end
end Mine
end

section
open PySem PySem.W PyProof.Rows
namespace Mine
noncomputable def EOK (x : Cx) (C : CallT) (n : Nat) (env : Env) (c : SC) (e : Expr) (pe : PE) : Prop :=
  ∀ ve σ d σ', peval x.T C pe ve σ = some (d, σ') → ∀ A, AOk A n → ∀ (s : Shared) (ρ : List Addr) Q E, Wd x.h₀ s.heap ρ σ → FOk s.heap ρ env c.sl ve → Back x.h₀ ρ s Q d σ' → wpAny (model x.prog x.w) A (eval e env) Q E s
noncomputable def BackB (h₀ : Heap) (ρ : List Addr) (s : Shared) (Q : Bool → Shared → Prop) (b : Bool) (σ' : Sto) : Prop :=
  ∀ ρ' h' tk, Wd h₀ h' ρ' σ' → St noX ρ s.heap ρ' h' → Q b { s with heap := h', toks := tk }
noncomputable def TOK (x : Cx) (C : CallT) (n : Nat) (env : Env) (c : SC) (e : Expr) (pe : PE) : Prop :=
  ∀ ve σ b σ', peval x.T C pe ve σ = some (.bool b, σ') → ∀ A, AOk A n → ∀ (s : Shared) (ρ : List Addr) Q E, Wd x.h₀ s.heap ρ σ → FOk s.heap ρ env c.sl ve → BackB x.h₀ ρ s Q b σ' → wpAny (model x.prog x.w) A (PySem.isTrue e env (eval e env)) Q E s
noncomputable def BackL (h₀ : Heap) (ρ : List Addr) (s : Shared) (Q : List Value → Shared → Prop) (ds : List D) (σ' : Sto) : Prop :=
  ∀ vs ρ' h' tk, Wd h₀ h' ρ' σ' → St noX ρ s.heap ρ' h' → RepL h' ρ' ds vs → Q vs { s with heap := h', toks := tk }
noncomputable def SOK (x : Cx) (C : CallT) (n : Nat) (env : Env) (c : SC) (es : List Expr) (pes : PEs) : Prop :=
  ∀ ve σ ds σ', pevals x.T C pes ve σ = some (ds, σ') → ∀ A, AOk A n → ∀ (s : Shared) (ρ : List Addr) Q E pos, Wd x.h₀ s.heap ρ σ → FOk s.heap ρ env c.sl ve → BackL x.h₀ ρ s Q ds σ' → wpAny (model x.prog x.w) A (spliced (backTo pos (starEach es env))) Q E s

section
variable {x : Cx} {C : CallT} {n : Nat} {env : Env} {c : SC}

theorem Back.after {h₀ : Heap} {ρ ρ' : List Addr} {s : Shared} {Q : Value → Shared → Prop} {d : D} {σ σ' : Sto} {h' : Heap} {tk : Nat} (B : Back h₀ ρ s Q d σ') (W : Wd h₀ h' ρ' σ) (S : St noX ρ s.heap ρ' h') : Back h₀ ρ' { s with heap := h', toks := tk } Q d σ' :=
  fun v ρ'' h'' tk' W' S' r => B v ρ'' h'' tk' W' (St.trans W (xok_none _) S S') r
theorem BackB.after {h₀ : Heap} {ρ ρ' : List Addr} {s : Shared} {Q : Bool → Shared → Prop} {d : Bool} {σ σ' : Sto} {h' : Heap} {tk : Nat} (B : BackB h₀ ρ s Q d σ') (W : Wd h₀ h' ρ' σ) (S : St noX ρ s.heap ρ' h') : BackB h₀ ρ' { s with heap := h', toks := tk } Q d σ' :=
  fun ρ'' h'' tk' W' S' => B ρ'' h'' tk' W' (St.trans W (xok_none _) S S')
theorem BackL.after {h₀ : Heap} {ρ ρ' : List Addr} {s : Shared} {Q : List Value → Shared → Prop} {d : List D} {σ σ' : Sto} {h' : Heap} {tk : Nat} (B : BackL h₀ ρ s Q d σ') (W : Wd h₀ h' ρ' σ) (S : St noX ρ s.heap ρ' h') : BackL h₀ ρ' { s with heap := h', toks := tk } Q d σ' :=
  fun v ρ'' h'' tk' W' S' r => B v ρ'' h'' tk' W' (St.trans W (xok_none _) S S') r
theorem BackB.here {h₀ : Heap} {ρ : List Addr} {s : Shared} {Q : Bool → Shared → Prop} {d : Bool} {σ : Sto} (B : BackB h₀ ρ s Q d σ) (W : Wd h₀ s.heap ρ σ) (tk : Nat) : Q d { s with toks := tk } := B ρ s.heap tk W St.refl
theorem BackL.here {h₀ : Heap} {ρ : List Addr} {s : Shared} {Q : List Value → Shared → Prop} {ds : List D} {σ : Sto} {vs : List Value} (B : BackL h₀ ρ s Q ds σ) (W : Wd h₀ s.heap ρ σ) (r : RepL s.heap ρ ds vs) (tk : Nat) : Q vs { s with toks := tk } := B vs ρ s.heap tk W St.refl r

theorem rep_bool {h : Heap} {ρ : List Addr} {b : Bool} {v : Value} (r : Rep h ρ (.bool b) v) : v = .bool b := by unfold Rep at r; exact r

theorem tok_of {e : Expr} {pe : PE} (H : EOK x C n env c e pe) (hr : ∀ whole, PySem.isTrue e env whole = (do let v ← whole; standAt e.pos; holding [v] (truthy v))) : TOK x C n env c e pe := by
  intro ve σ b σ' hp A hA s ρ Q E W F B
  refine wpAny_isTrue_value (H ve σ _ σ' hp A hA s ρ _ E W F fun v ρ' h' tk W' S' r => ?_) (hr _)
  rw [rep_bool r]
  exact wpAny_truthy_bool (B ρ' h' tk W' S')

theorem eok_bad {e : Expr} : EOK x C n env c e .bad := by
  intro ve σ d σ' hp
  rw [Zk] at hp; cases hp
theorem tok_bad {e : Expr} : TOK x C n env c e .bad := by
  intro ve σ d σ' hp
  rw [Zk] at hp; cases hp

theorem eok_const {v : Const} {k : Nat} {p : Pos} : EOK x C n env c (.Constant v k p) (ofConst v) := by
  intro ve σ d σ' hp A hA s ρ Q E W F B
  cases v with
  | none => simp only [ofConst, Zk, Zq, Z03, Zt, Zz, Z01, Zo, Zi, Zy, Zx, Zw, Zs, Zm, Zn, Zl, Zu, Zj, Zr, Z00, Z02, Zv, Zp, Option.some.injEq, Prod.mk.injEq] at hp; obtain ⟨rfl, rfl⟩ := hp; exact wpAny_Constant_none (B.here W (by unfold Rep; rfl) s.toks)
  | bool b => simp only [ofConst, Zk, Zq, Z03, Zt, Zz, Z01, Zo, Zi, Zy, Zx, Zw, Zs, Zm, Zn, Zl, Zu, Zj, Zr, Z00, Z02, Zv, Zp, Option.some.injEq, Prod.mk.injEq] at hp; obtain ⟨rfl, rfl⟩ := hp; exact wpAny_Constant_bool (B.here W (by unfold Rep; rfl) s.toks)
  | int i => simp only [ofConst, Zk, Zq, Z03, Zt, Zz, Z01, Zo, Zi, Zy, Zx, Zw, Zs, Zm, Zn, Zl, Zu, Zj, Zr, Z00, Z02, Zv, Zp, Option.some.injEq, Prod.mk.injEq] at hp; obtain ⟨rfl, rfl⟩ := hp; exact wpAny_Constant_int (B.here W (rep_int _ _) _)
  | str t =>
    simp only [ofConst, Zk, Zq, Z03, Zt, Zz, Z01, Zo, Zi, Zy, Zx, Zw, Zs, Zm, Zn, Zl, Zu, Zj, Zr, Z00, Z02, Zv, Zp, Option.some.injEq, Prod.mk.injEq] at hp
    obtain ⟨rfl, rfl⟩ := hp
    refine wpAny_Constant_str ?_
    have e : t = ⟨t.cps.toList.toArray⟩ := by cases t; simp
    have r : Rep s.heap ρ (.str t.cps.toList) (.str t s.toks) := by
      unfold Rep
      exact ⟨_, by rw [← e]⟩
    exact B.here W r _
  | _ => exact nomatch (show (none : Option (D × Sto)) = some (d, σ') from hp)

theorem eok_name (O : x.Ok) (S : SEnv x.h₀ env c) (X : SCx x c) {y : Str} {p : Pos} :
    EOK x C n env c (.Name y p) (match c.slot y with | some i => .var i | Option.none => (match c.global y with | some d => .const d | Option.none => .bad)) := by
  intro ve σ d σ' hp A hA s ρ Q E W F B
  split at hp
  · rename_i i hi
    simp only [Zk, Zq, Z03, Zt, Zz, Z01, Zo, Zi, Zy, Zx, Zw, Zs, Zm, Zn, Zl, Zu, Zj, Zr, Z00, Z02, Zv, Zp] at hp
    split at hp
    · rename_i d' hd
      simp only [Option.some.injEq, Prod.mk.injEq] at hp
      obtain ⟨rfl, rfl⟩ := hp
      exact eval_var S F hi hd fun v r => B.here W r s.toks
    · cases hp
  · split at hp
    · rename_i d' hd
      simp only [Zk, Zq, Z03, Zt, Zz, Z01, Zo, Zi, Zy, Zx, Zw, Zs, Zm, Zn, Zl, Zu, Zj, Zr, Z00, Z02, Zv, Zp, Option.some.injEq, Prod.mk.injEq] at hp
      obtain ⟨rfl, rfl⟩ := hp
      exact const_sound O W S X hd B
    · rw [Zk] at hp; cases hp

theorem eok_bin {l r : Expr} {pl pr : PE} {op : Operator} {o : BOp} {p : Pos} (ho : bopOf op = some o) (H1 : EOK x C n env c l pl) (H2 : EOK x C n env c r pr) : EOK x C n env c (.BinOp l op r p) (.bin o pl pr) := by
  intro ve σ d σ' hp A hA s ρ Q E W F B
  simp only [Zk, Zq, Z03, Zt, Zz, Z01, Zo, Zi, Zy, Zx, Zw, Zs, Zm, Zn, Zl, Zu, Zj, Zr, Z00, Z02, Zv, Zp] at hp
  split at hp
  · rename_i a σ₁ h1
    split at hp
    · rename_i b σ₂ h2
      refine wpAny_BinOp (H1 ve σ a σ₁ h1 A hA s ρ _ E W F fun va ρ₁ h₁ t₁ W1 S1 r1 => ?_)
      refine H2 ve σ₁ b σ₂ h2 A hA _ ρ₁ _ E W1 (F.mono W S1) fun vb ρ₂ h₂ t₂ W2 S2 r2 => ?_
      exact bin_sound ho W2 (Rep.mono S2 (xok_none _) _ _ r1) r2 hp ((B.after (tk := t₁) W1 S1).after W2 S2)
    · cases hp
  · cases hp

theorem eok_cmp {l r : Expr} {pl pr : PE} {op : CmpOp} {p : Pos} (hr : behindInMarks op r = false) (H1 : EOK x C n env c l pl) (H2 : EOK x C n env c r pr) : EOK x C n env c (.Compare l [op] [r] p) (.cmp (copOf op) pl pr) := by
  intro ve σ d σ' hp A hA s ρ Q E W F B
  simp only [Zk, Zq, Z03, Zt, Zz, Z01, Zo, Zi, Zy, Zx, Zw, Zs, Zm, Zn, Zl, Zu, Zj, Zr, Z00, Z02, Zv, Zp] at hp
  split at hp
  · rename_i a σ₁ h1
    split at hp
    · rename_i b σ₂ h2
      split at hp
      · rename_i q hq
        simp only [Option.some.injEq, Prod.mk.injEq] at hp
        obtain ⟨rfl, rfl⟩ := hp
        refine wpAny_Compare1 (H1 ve σ a σ₁ h1 A hA s ρ _ E W F fun va ρ₁ h₁ t₁ W1 S1 r1 => ?_) hr
        refine H2 ve σ₁ b σ₂ h2 A hA _ ρ₁ _ E W1 (F.mono W S1) fun vb ρ₂ h₂ t₂ W2 S2 r2 => ?_
        have W2' : Wd x.h₀ ({ s with heap := h₂, toks := t₂ } : Shared).heap ρ₂ σ₂ := W2
        exact cmp_sound (s := { s with heap := h₂, toks := t₂ }) hA.u W2' (Rep.mono S2 (xok_none _) _ _ r1) r2 hq (((B.after (tk := t₁) W1 S1).after (tk := t₂) W2 S2).here W2 (by unfold Rep; rfl) t₂)
      · cases hp
    · cases hp
  · cases hp
theorem tok_cmp {l r : Expr} {pl pr : PE} {op : CmpOp} {p : Pos} (hr : behindInMarks op r = false) (H1 : EOK x C n env c l pl) (H2 : EOK x C n env c r pr) : TOK x C n env c (.Compare l [op] [r] p) (.cmp (copOf op) pl pr) := by
  intro ve σ d σ' hp A hA s ρ Q E W F B
  simp only [Zk, Zq, Z03, Zt, Zz, Z01, Zo, Zi, Zy, Zx, Zw, Zs, Zm, Zn, Zl, Zu, Zj, Zr, Z00, Z02, Zv, Zp] at hp
  split at hp
  · rename_i a σ₁ h1
    split at hp
    · rename_i b σ₂ h2
      split at hp
      · rename_i q hq
        simp only [Option.some.injEq, Prod.mk.injEq, D.bool.injEq] at hp
        obtain ⟨rfl, rfl⟩ := hp
        refine wpAny_isTrue_Compare1 (H1 ve σ a σ₁ h1 A hA s ρ _ E W F fun va ρ₁ h₁ t₁ W1 S1 r1 => ?_) hr
        refine H2 ve σ₁ b σ₂ h2 A hA _ ρ₁ _ E W1 (F.mono W S1) fun vb ρ₂ h₂ t₂ W2 S2 r2 => ?_
        have W2' : Wd x.h₀ ({ s with heap := h₂, toks := t₂ } : Shared).heap ρ₂ σ₂ := W2
        exact cmp_sound (s := { s with heap := h₂, toks := t₂ }) hA.u W2' (Rep.mono S2 (xok_none _) _ _ r1) r2 hq (wpAny_truthy_bool (((B.after (tk := t₁) W1 S1).after (tk := t₂) W2 S2).here W2 t₂))
      · cases hp
    · cases hp
  · cases hp

theorem eok_and {l r : Expr} {pl pr : PE} {p : Pos} (H1 : EOK x C n env c l pl) (H2 : EOK x C n env c r pr) : EOK x C n env c (.BoolOp .And [l, r] p) (.and pl pr) := by
  intro ve σ d σ' hp A hA s ρ Q E W F B
  simp only [Zk, Zq, Z03, Zt, Zz, Z01, Zo, Zi, Zy, Zx, Zw, Zs, Zm, Zn, Zl, Zu, Zj, Zr, Z00, Z02, Zv, Zp] at hp
  split at hp
  · rename_i σ₁ h1
    split at hp
    · rename_i y σ₂ h2
      simp only [Option.some.injEq, Prod.mk.injEq] at hp
      obtain ⟨rfl, rfl⟩ := hp
      refine wpAny_And2 (H1 ve σ _ σ₁ h1 A hA s ρ _ E W F fun va ρ₁ h₁ t₁ W1 S1 r1 => ?_)
      rw [rep_bool r1]
      refine wpAny_truthy_bool ?_
      simp only [if_true]
      exact H2 ve σ₁ _ σ₂ h2 A hA _ ρ₁ _ E W1 (F.mono W S1) (B.after W1 S1)
    · cases hp
  · rename_i σ₁ h1
    simp only [Option.some.injEq, Prod.mk.injEq] at hp
    obtain ⟨rfl, rfl⟩ := hp
    refine wpAny_And2 (H1 ve σ _ σ₁ h1 A hA s ρ _ E W F fun va ρ₁ h₁ t₁ W1 S1 r1 => ?_)
    have e := rep_bool r1
    subst e
    refine wpAny_truthy_bool ?_
    simp only [Bool.false_eq_true, if_false]
    exact B _ ρ₁ h₁ t₁ W1 S1 r1
  · cases hp
theorem eok_or {l r : Expr} {pl pr : PE} {p : Pos} (H1 : EOK x C n env c l pl) (H2 : EOK x C n env c r pr) : EOK x C n env c (.BoolOp .Or [l, r] p) (.or pl pr) := by
  intro ve σ d σ' hp A hA s ρ Q E W F B
  simp only [Zk, Zq, Z03, Zt, Zz, Z01, Zo, Zi, Zy, Zx, Zw, Zs, Zm, Zn, Zl, Zu, Zj, Zr, Z00, Z02, Zv, Zp] at hp
  split at hp
  · rename_i σ₁ h1
    split at hp
    · rename_i y σ₂ h2
      simp only [Option.some.injEq, Prod.mk.injEq] at hp
      obtain ⟨rfl, rfl⟩ := hp
      refine wpAny_Or2 (H1 ve σ _ σ₁ h1 A hA s ρ _ E W F fun va ρ₁ h₁ t₁ W1 S1 r1 => ?_)
      rw [rep_bool r1]
      refine wpAny_truthy_bool ?_
      simp only [Bool.false_eq_true, if_false]
      exact H2 ve σ₁ _ σ₂ h2 A hA _ ρ₁ _ E W1 (F.mono W S1) (B.after W1 S1)
    · cases hp
  · rename_i σ₁ h1
    simp only [Option.some.injEq, Prod.mk.injEq] at hp
    obtain ⟨rfl, rfl⟩ := hp
    refine wpAny_Or2 (H1 ve σ _ σ₁ h1 A hA s ρ _ E W F fun va ρ₁ h₁ t₁ W1 S1 r1 => ?_)
    have e := rep_bool r1
    subst e
    refine wpAny_truthy_bool ?_
    simp only [if_true]
    exact B _ ρ₁ h₁ t₁ W1 S1 r1
  · cases hp
theorem tok_and {l r : Expr} {pl pr : PE} {p : Pos} (H1 : TOK x C n env c l pl) (H2 : TOK x C n env c r pr) : TOK x C n env c (.BoolOp .And [l, r] p) (.and pl pr) := by
  intro ve σ d σ' hp A hA s ρ Q E W F B
  simp only [Zk, Zq, Z03, Zt, Zz, Z01, Zo, Zi, Zy, Zx, Zw, Zs, Zm, Zn, Zl, Zu, Zj, Zr, Z00, Z02, Zv, Zp] at hp
  refine wpAny_isTrue_BoolOp (wpAny_allTrue_And_cons ?_)
  split at hp
  · rename_i σ₁ h1
    split at hp
    · rename_i y σ₂ h2
      simp only [Option.some.injEq, Prod.mk.injEq, D.bool.injEq] at hp
      obtain ⟨rfl, rfl⟩ := hp
      refine H1 ve σ _ σ₁ h1 A hA s ρ _ E W F fun ρ₁ h₁ t₁ W1 S1 => ?_
      simp only [if_true]
      refine wpAny_allTrue_And_cons ?_
      refine H2 ve σ₁ _ σ₂ h2 A hA _ ρ₁ _ E W1 (F.mono W S1) fun ρ₂ h₂ t₂ W2 S2 => ?_
      have q := ((B.after (tk := t₁) W1 S1) ρ₂ h₂ t₂ W2 S2)
      cases y with
      | true => simp only [if_true]; exact wpAny_allTrue_And_nil q
      | false => simp only [Bool.false_eq_true, if_false]; exact q
    · cases hp
  · rename_i σ₁ h1
    simp only [Option.some.injEq, Prod.mk.injEq, D.bool.injEq] at hp
    obtain ⟨rfl, rfl⟩ := hp
    refine H1 ve σ _ σ₁ h1 A hA s ρ _ E W F fun ρ₁ h₁ t₁ W1 S1 => ?_
    simp only [Bool.false_eq_true, if_false]
    exact B ρ₁ h₁ t₁ W1 S1
  · cases hp
theorem tok_or {l r : Expr} {pl pr : PE} {p : Pos} (H1 : TOK x C n env c l pl) (H2 : TOK x C n env c r pr) : TOK x C n env c (.BoolOp .Or [l, r] p) (.or pl pr) := by
  intro ve σ d σ' hp A hA s ρ Q E W F B
  simp only [Zk, Zq, Z03, Zt, Zz, Z01, Zo, Zi, Zy, Zx, Zw, Zs, Zm, Zn, Zl, Zu, Zj, Zr, Z00, Z02, Zv, Zp] at hp
  refine wpAny_isTrue_BoolOp (wpAny_allTrue_Or_cons ?_)
  split at hp
  · rename_i σ₁ h1
    split at hp
    · rename_i y σ₂ h2
      simp only [Option.some.injEq, Prod.mk.injEq, D.bool.injEq] at hp
      obtain ⟨rfl, rfl⟩ := hp
      refine H1 ve σ _ σ₁ h1 A hA s ρ _ E W F fun ρ₁ h₁ t₁ W1 S1 => ?_
      simp only [Bool.false_eq_true, if_false]
      refine wpAny_allTrue_Or_cons ?_
      refine H2 ve σ₁ _ σ₂ h2 A hA _ ρ₁ _ E W1 (F.mono W S1) fun ρ₂ h₂ t₂ W2 S2 => ?_
      have q := ((B.after (tk := t₁) W1 S1) ρ₂ h₂ t₂ W2 S2)
      cases y with
      | true => simp only [if_true]; exact q
      | false => simp only [Bool.false_eq_true, if_false]; exact wpAny_allTrue_Or_nil q
    · cases hp
  · rename_i σ₁ h1
    simp only [Option.some.injEq, Prod.mk.injEq, D.bool.injEq] at hp
    obtain ⟨rfl, rfl⟩ := hp
    refine H1 ve σ _ σ₁ h1 A hA s ρ _ E W F fun ρ₁ h₁ t₁ W1 S1 => ?_
    simp only [if_true]
    exact B ρ₁ h₁ t₁ W1 S1
  · cases hp

theorem eok_not {e : Expr} {pe : PE} {p : Pos} (H : EOK x C n env c e pe) : EOK x C n env c (.UnaryOp .Not e p) (.not pe) := by
  intro ve σ d σ' hp A hA s ρ Q E W F B
  simp only [Zk, Zq, Z03, Zt, Zz, Z01, Zo, Zi, Zy, Zx, Zw, Zs, Zm, Zn, Zl, Zu, Zj, Zr, Z00, Z02, Zv, Zp] at hp
  split at hp
  · rename_i b σ₁ h1
    simp only [Option.some.injEq, Prod.mk.injEq] at hp
    obtain ⟨rfl, rfl⟩ := hp
    refine wpAny_UnaryOp (H ve σ _ σ₁ h1 A hA s ρ _ E W F fun va ρ₁ h₁ t₁ W1 S1 r1 => ?_)
    rw [rep_bool r1]
    exact PyProof.Rows.not_of (wpAny_truthy_bool (B _ ρ₁ h₁ t₁ W1 S1 (by unfold Rep; rfl)))
  · cases hp
theorem tok_not {e : Expr} {pe : PE} {p : Pos} (H : TOK x C n env c e pe) : TOK x C n env c (.UnaryOp .Not e p) (.not pe) := by
  intro ve σ d σ' hp A hA s ρ Q E W F B
  simp only [Zk, Zq, Z03, Zt, Zz, Z01, Zo, Zi, Zy, Zx, Zw, Zs, Zm, Zn, Zl, Zu, Zj, Zr, Z00, Z02, Zv, Zp] at hp
  split at hp
  · rename_i b σ₁ h1
    simp only [Option.some.injEq, Prod.mk.injEq, D.bool.injEq] at hp
    obtain ⟨rfl, rfl⟩ := hp
    exact wpAny_isTrue_Not (H ve σ _ σ₁ h1 A hA s ρ _ E W F fun ρ₁ h₁ t₁ W1 S1 => B ρ₁ h₁ t₁ W1 S1)
  · cases hp
theorem eok_neg {e : Expr} {pe : PE} {p : Pos} (H : EOK x C n env c e pe) : EOK x C n env c (.UnaryOp .USub e p) (.neg pe) := by
  intro ve σ d σ' hp A hA s ρ Q E W F B
  simp only [Zk, Zq, Z03, Zt, Zz, Z01, Zo, Zi, Zy, Zx, Zw, Zs, Zm, Zn, Zl, Zu, Zj, Zr, Z00, Z02, Zv, Zp] at hp
  split at hp
  · rename_i b σ₁ h1
    simp only [Option.some.injEq, Prod.mk.injEq] at hp
    obtain ⟨rfl, rfl⟩ := hp
    refine wpAny_UnaryOp (H ve σ _ σ₁ h1 A hA s ρ _ E W F fun va ρ₁ h₁ t₁ W1 S1 r1 => ?_)
    unfold Rep at r1
    obtain ⟨t, rfl⟩ := r1
    exact PyProof.Rows.neg_int (B _ ρ₁ h₁ _ W1 S1 (rep_int _ _))
  · cases hp
theorem eok_ite {t a b : Expr} {pt pa pb : PE} {p : Pos} (H : TOK x C n env c t pt) (H1 : EOK x C n env c a pa) (H2 : EOK x C n env c b pb) : EOK x C n env c (.IfExp t a b p) (.ite pt pa pb) := by
  intro ve σ d σ' hp A hA s ρ Q E W F B
  simp only [Zk, Zq, Z03, Zt, Zz, Z01, Zo, Zi, Zy, Zx, Zw, Zs, Zm, Zn, Zl, Zu, Zj, Zr, Z00, Z02, Zv, Zp] at hp
  split at hp
  · rename_i q σ₁ h1
    refine wpAny_IfExp (H ve σ _ σ₁ h1 A hA s ρ _ E W F fun ρ₁ h₁ t₁ W1 S1 => ?_)
    cases q with
    | true => simp only [if_true] at hp ⊢; exact H1 ve σ₁ d σ' hp A hA _ ρ₁ _ E W1 (F.mono W S1) (B.after W1 S1)
    | false => simp only [Bool.false_eq_true, if_false] at hp ⊢; exact H2 ve σ₁ d σ' hp A hA _ ρ₁ _ E W1 (F.mono W S1) (B.after W1 S1)
  · cases hp
theorem tok_ite {t a b : Expr} {pt pa pb : PE} {p : Pos} (H : TOK x C n env c t pt) (H1 : TOK x C n env c a pa) (H2 : TOK x C n env c b pb) : TOK x C n env c (.IfExp t a b p) (.ite pt pa pb) := by
  intro ve σ d σ' hp A hA s ρ Q E W F B
  simp only [Zk, Zq, Z03, Zt, Zz, Z01, Zo, Zi, Zy, Zx, Zw, Zs, Zm, Zn, Zl, Zu, Zj, Zr, Z00, Z02, Zv, Zp] at hp
  split at hp
  · rename_i q σ₁ h1
    show wpAny _ A (do if ← PySem.isTrue t env (eval t env) then PySem.isTrue a env (eval a env) else PySem.isTrue b env (eval b env)) Q E s
    refine wpAny_bind (H ve σ _ σ₁ h1 A hA s ρ _ E W F fun ρ₁ h₁ t₁ W1 S1 => ?_)
    cases q with
    | true => simp only [if_true] at hp ⊢; exact H1 ve σ₁ d σ' hp A hA _ ρ₁ _ E W1 (F.mono W S1) (B.after W1 S1)
    | false => simp only [Bool.false_eq_true, if_false] at hp ⊢; exact H2 ve σ₁ d σ' hp A hA _ ρ₁ _ E W1 (F.mono W S1) (B.after W1 S1)
  · cases hp

/-! ### lists of expressions -/
noncomputable def notStar (e : Expr) : Bool := match e with | .Starred .. => false | _ => true
theorem starEach_cons {e : Expr} {es : List Expr} (h : notStar e = true) : starEach (e :: es) env = (false, eval e env) :: starEach es env := by
  cases e <;> first | rfl | cases h
theorem sok_nil : SOK x C n env c [] .nil := by
  intro ve σ ds σ' hp A hA s ρ Q E pos W F B
  simp only [Z05, Z04, Option.some.injEq, Prod.mk.injEq] at hp
  obtain ⟨rfl, rfl⟩ := hp
  exact Calls.spliced_nil (B.here W RepL.nil s.toks)
theorem sok_cons {e : Expr} {es : List Expr} {pe : PE} {pes : PEs} (h : notStar e = true) (H : EOK x C n env c e pe) (Hs : SOK x C n env c es pes) : SOK x C n env c (e :: es) (.cons pe pes) := by
  intro ve σ ds σ' hp A hA s ρ Q E pos W F B
  simp only [Z05, Z04] at hp
  split at hp
  · rename_i d σ₁ h1
    split at hp
    · rename_i ds' σ₂ h2
      simp only [Option.some.injEq, Prod.mk.injEq] at hp
      obtain ⟨rfl, rfl⟩ := hp
      rw [starEach_cons h]
      show wpAny _ A (spliced ((false, eval e env) :: backTo pos (starEach es env))) Q E s
      refine Calls.spliced_cons (H ve σ d σ₁ h1 A hA s ρ _ E W F fun va ρ₁ h₁ t₁ W1 S1 r1 => ?_)
      refine Hs ve σ₁ ds' σ₂ h2 A hA _ ρ₁ _ E pos W1 (F.mono W S1) fun vs ρ₂ h₂ t₂ W2 S2 r2 => ?_
      exact (B.after (tk := t₁) W1 S1) _ ρ₂ h₂ t₂ W2 S2 (RepL.cons (Rep.mono S2 (xok_none _) _ _ r1) r2)
    · cases hp
  · cases hp
theorem sok_all {f : Expr → PE} : ∀ {es : List Expr}, es.all notStar = true → (∀ e ∈ es, EOK x C n env c e (f e)) → SOK x C n env c es (toPEs (es.map f))
  | [], _, _ => sok_nil
  | e :: es, h, H => by
    rw [List.all_cons, Bool.and_eq_true] at h
    exact sok_cons h.1 (H e (List.mem_cons_self ..)) (sok_all h.2 fun e' he => H e' (List.mem_cons_of_mem _ he))
theorem star_any (pos : Pos) : ∀ {es : List Expr}, es.all notStar = true → (backTo pos (starEach es env)).any (·.1) = false
  | [], _ => rfl
  | e :: es, h => by
    rw [List.all_cons, Bool.and_eq_true] at h
    rw [starEach_cons h.1]
    show ((false, eval e env) :: backTo pos (starEach es env)).any (·.1) = false
    rw [List.any_cons, star_any pos h.2]; rfl

theorem eok_tup {es : List Expr} {pes : PEs} {k : Nat} {p : Pos} (H : SOK x C n env c es pes) : EOK x C n env c (.Tuple es k p) (.tup pes) := by
  intro ve σ d σ' hp A hA s ρ Q E W F B
  simp only [Zk, Zq, Z03, Zt, Zz, Z01, Zo, Zi, Zy, Zx, Zw, Zs, Zm, Zn, Zl, Zu, Zj, Zr, Z00, Z02, Zv, Zp] at hp
  split at hp
  · rename_i ds σ₁ h1
    split at hp
    · rename_i hl
      simp only [Option.some.injEq, Prod.mk.injEq] at hp
      obtain ⟨rfl, rfl⟩ := hp
      refine PyProof.Rows.Tuple_ (H ve σ ds σ₁ h1 A hA s ρ _ E p W F fun vs ρ₁ h₁ t₁ W1 S1 r1 => ?_)
      refine wpAny_newTuple ?_ (by rw [RepL.length r1]; exact Nat.le_trans hl (by decide))
      exact (B.after (tk := t₁) W1 S1).tuple W1 (fun _ _ e => Heap.get?_push_of_some _ e) (fresh_none _) ⟨_, Heap.get?_push_size _ rfl, rfl, 0, rfl⟩ r1 t₁
    · cases hp
  · cases hp
theorem eok_list {es : List Expr} {pes : PEs} {p : Pos} (H : SOK x C n env c es pes) : EOK x C n env c (.List es p) (.list pes) := by
  intro ve σ d σ' hp A hA s ρ Q E W F B
  simp only [Zk, Zq, Z03, Zt, Zz, Z01, Zo, Zi, Zy, Zx, Zw, Zs, Zm, Zn, Zl, Zu, Zj, Zr, Z00, Z02, Zv, Zp] at hp
  split at hp
  · rename_i ds σ₁ h1
    split at hp
    · rename_i hl
      simp only [Option.some.injEq, Prod.mk.injEq] at hp
      obtain ⟨rfl, rfl⟩ := hp
      refine PyProof.Rows.List_ (H ve σ ds σ₁ h1 A hA s ρ _ E p W F fun vs ρ₁ h₁ t₁ W1 S1 r1 => ?_)
      refine wpAny_newList ?_ (by rw [RepL.length r1]; exact Nat.le_trans hl (by decide))
      exact (B.after (tk := t₁) W1 S1).list W1 (fun _ _ e => Heap.get?_push_of_some _ e) (fresh_none _) ⟨0, Heap.get?_push_size _ rfl⟩ r1 t₁
    · cases hp
  · cases hp

/-! ### places -/
theorem eok_item {v sl : Expr} {pv ps : PE} {p : Pos} (H1 : EOK x C n env c v pv) (H2 : EOK x C n env c sl ps) : EOK x C n env c (.Subscript v sl p) (.item pv ps) := by
  intro ve σ d σ' hp A hA s ρ Q E W F B
  simp only [Zk, Zq, Z03, Zt, Zz, Z01, Zo, Zi, Zy, Zx, Zw, Zs, Zm, Zn, Zl, Zu, Zj, Zr, Z00, Z02, Zv, Zp] at hp
  split at hp
  · rename_i a σ₁ h1
    split at hp
    · rename_i b σ₂ h2
      rw [eval_Subscript]
      refine wpAny_bind (H1 ve σ a σ₁ h1 A hA s ρ _ E W F fun va ρ₁ h₁ t₁ W1 S1 r1 => ?_)
      refine wpAny_bind (wpAny_holding (H2 ve σ₁ b σ₂ h2 A hA _ ρ₁ _ E W1 (F.mono W S1) fun vb ρ₂ h₂ t₂ W2 S2 r2 => ?_))
      refine wpAny_bind (wpAny_standAt ?_)
      exact item_sound W2 (Rep.mono S2 (xok_none _) _ _ r1) r2 hp ((B.after (tk := t₁) W1 S1).after W2 S2)
    · cases hp
  · cases hp
theorem eok_tab (O : x.Ok) (S : SEnv x.h₀ env c) (X : SCx x c) {y : Str} {q p : Pos} {sl : Expr} {ps : PE} (hg : c.isGlob y = true) (hy : y = c.tab) (H2 : EOK x C n env c sl ps) : EOK x C n env c (.Subscript (.Name y q) sl p) (.tab ps) := by
  intro ve σ d σ' hp A hA s ρ Q E W F B
  simp only [Zk, Zq, Z03, Zt, Zz, Z01, Zo, Zi, Zy, Zx, Zw, Zs, Zm, Zn, Zl, Zu, Zj, Zr, Z00, Z02, Zv, Zp] at hp
  split at hp
  · rename_i k σ₁ h1
    split at hp
    · rename_i l
      split at hp
      · rename_i i hi
        simp only [Option.some.injEq, Prod.mk.injEq] at hp
        obtain ⟨rfl, rfl⟩ := hp
        rw [eval_Subscript]
        have ht : nsIn x.K mainGlobals y = some (some (.ref x.ta)) := by rw [hy, X.tab]; exact O.tabg
        refine wpAny_bind (eval_global O W S hg ht ?_)
        refine wpAny_bind (wpAny_holding (H2 ve σ _ σ₁ h1 A hA s ρ _ E W F fun vb ρ₂ h₂ t₂ W2 S2 r2 => ?_))
        refine wpAny_bind (wpAny_standAt ?_)
        unfold Rep at r2
        obtain ⟨t, rfl⟩ := r2
        exact tab_sound O W2 hi (B.after W2 S2)
      · cases hp
    · cases hp
  · cases hp
theorem eok_slice {v : Expr} {pv : PE} {lower upper step : Option Expr} {lo hi st : Option Int} {p q : Pos} (b1 : boundOf lower = some lo) (b2 : boundOf upper = some hi) (b3 : boundOf step = some st) (H1 : EOK x C n env c v pv) :
    EOK x C n env c (.Subscript v (.Slice lower upper step q) p) (.slice pv lo hi st) := by
  intro ve σ d σ' hp A hA s ρ Q E W F B
  simp only [Zk, Zq, Z03, Zt, Zz, Z01, Zo, Zi, Zy, Zx, Zw, Zs, Zm, Zn, Zl, Zu, Zj, Zr, Z00, Z02, Zv, Zp] at hp
  split at hp
  · rename_i a σ₁ h1
    rw [eval_Subscript]
    refine wpAny_bind (H1 ve σ a σ₁ h1 A hA s ρ _ E W F fun va ρ₁ h₁ t₁ W1 S1 r1 => ?_)
    refine wpAny_bind (wpAny_holding (wpAny_mono (slice_sound (s := { s with heap := h₁, toks := t₁ }) (value := v) W1 r1 b1 b2 b3 hp (B.after W1 S1)) (fun i s' h' => ?_) fun _ _ e => e))
    exact wpAny_bind (wpAny_standAt h')
  · cases hp

/-! ### calls -/
theorem eok_call (O : x.Ok) (S : SEnv x.h₀ env c) (X : SCx x c) (HC : CallOK x C n) {y : Str} {q p : Pos} {es : List Expr} {pes : PEs} {i : Nat} (hg : c.isGlob y = true) (hi : c.fns.findIdx? (· == y) = some i) (hst : es.all notStar = true) (H : SOK x C n env c es pes) :
    EOK x C n env c (.Call (.Name y q) es [] p) (.call i pes) := by
  intro ve σ d σ' hp A hA s ρ Q E W F B
  simp only [Zk, Zq, Z03, Zt, Zz, Z01, Zo, Zi, Zy, Zx, Zw, Zs, Zm, Zn, Zl, Zu, Zj, Zr, Z00, Z02, Zv, Zp] at hp
  split at hp
  · rename_i ds σ₁ h1
    rw [X.fns] at hi
    have hf := findIdx_some hi
    obtain ⟨a, o, fd, hn, hl, hd⟩ := O.fn i y hf
    refine wpAny_Call_ofName (eval_global O W S hg hn ?_)
    have ho := O.kin a o hl
    show wpAny _ A (callWith p (.ref a) [] (backTo p (starEach es env)) []) Q E s
    refine callWith_function_kw (o := o) (fd := fd) ?_
    have fin : wpAny (model x.prog x.w) A (spliced (backTo p (starEach es env))) (fun vs s₁ => (s₁.heap.get? a = some o ∧ o.data = .func fd) ∧ wpAny (model x.prog x.w) A (call (.ref a) ([] ++ vs) []) Q E s₁) E s := by
      refine H ve σ ds σ₁ h1 A hA s ρ _ E p W F fun vs ρ₁ h₁ t₁ W1 S1 r1 => ⟨⟨W1.keep0 a o ho, hd⟩, ?_⟩
      exact HC i ds σ₁ d σ' hp y a hf hn A hA _ ρ₁ vs Q E W1 r1 (B.after W1 S1)
    cases es with
    | nil =>
      unfold evalArgs
      show wpAny _ A (spliced [] >>= _) _ E s
      refine wpAny_bind (wpAny_mono fin (fun vs s₁ h₁ => ?_) fun _ _ e => e)
      refine wpAny_bind (wpAny_pure ?_)
      refine wpAny_holding ?_
      exact wpAny_bind (wpAny_pure (wpAny_bind (wpAny_pure (wpAny_pure h₁))))
    | cons e es =>
      rw [List.all_cons, Bool.and_eq_true] at hst
      rw [starEach_cons hst.1] at fin ⊢
      refine evalArgs_kw rfl (wpAny_mono fin (fun vs s₁ h₁ => wpAny_evalAll_nil h₁) fun _ _ e => e)
  · cases hp

theorem biOf_mem {y : Str} {b : BI} (h : biOf y = some b) : (y, b) ∈ biNames := by
  unfold biOf at h
  unfold biNames
  repeat' split at h
  all_goals first
    | (cases h; done)
    | (cases h; rename_i hy; have := beq_iff_eq.mp hy; subst this; simp)
theorem biVal_boot : ∀ p ∈ biNames, p.1 ≠ Str.ofString "__name__" ∧ bootBuiltins p.1 = some (biVal p.2) := by
  have : biNames.all (fun p => decide (p.1 ≠ Str.ofString "__name__" ∧ bootBuiltins p.1 = some (biVal p.2))) = true := by decide +kernel
  intro p hp
  exact of_decide_eq_true (List.all_eq_true.mp this p hp)
theorem eok_bi (O : x.Ok) (S : SEnv x.h₀ env c) {y : Str} {q p : Pos} {es : List Expr} {pes : PEs} {b : BI} (hg : c.isGlob y = true) (hb : biOf y = some b) (hst : es.all notStar = true) (H : SOK x C n env c es pes) :
    EOK x C n env c (.Call (.Name y q) es [] p) (.bi b pes) := by
  intro ve σ d σ' hp A hA s ρ Q E W F B
  simp only [Zk, Zq, Z03, Zt, Zz, Z01, Zo, Zi, Zy, Zx, Zw, Zs, Zm, Zn, Zl, Zu, Zj, Zr, Z00, Z02, Zv, Zp] at hp
  split at hp
  · rename_i ds σ₁ h1
    have hm := biOf_mem hb
    obtain ⟨h2, h3⟩ := biVal_boot _ hm
    refine wpAny_Call_ofName (wpAny_Name (load_builtin O W S hg (O.bin _ hm) h2 h3 ?_) (glob_not_debug S hg))
    show wpAny _ A (callWith p (biVal b) [] (backTo p (starEach es env)) []) Q E s
    refine callWith_machine (by cases b <;> intro a h <;> cases h) (star_any p hst) ?_
    refine H ve σ ds σ₁ h1 A hA s ρ _ E p W F fun vs ρ₁ h₁ t₁ W1 S1 r1 => ?_
    exact bi_sound hA.handled W1 r1 hp (B.after W1 S1)
  · cases hp
end
end Mine
end

section
open PySem PySem.W PyProof.Rows
namespace Mine
/-! ### splitting at a sign -/
theorem splitL_cons (c a : Nat) (l : List Nat) : splitL c (a :: l) = if a = c then [] :: splitL c l else (match splitL c l with | w :: r => (a :: w) :: r | [] => [[a]]) := rfl
theorem splitL_free {c : Nat} : ∀ {x : List Nat}, c ∉ x → splitL c x = [x]
  | [], _ => rfl
  | a :: x, h => by
    have h1 : a ≠ c := fun e => h (e ▸ List.mem_cons_self ..)
    have h2 : c ∉ x := fun m => h (List.mem_cons_of_mem _ m)
    rw [splitL_cons, if_neg h1, splitL_free h2]
theorem splitL_at {c : Nat} (r : List Nat) : ∀ {x : List Nat}, c ∉ x → splitL c (x ++ c :: r) = x :: splitL c r
  | [], _ => by show splitL c (c :: r) = _; rw [splitL_cons, if_pos rfl]
  | a :: x, h => by
    have h1 : a ≠ c := fun e => h (e ▸ List.mem_cons_self ..)
    have h2 : c ∉ x := fun m => h (List.mem_cons_of_mem _ m)
    show splitL c (a :: (x ++ c :: r)) = _
    rw [splitL_cons, if_neg h1, splitL_at r h2]
theorem splitL_join {c : Nat} : ∀ {l : List (List Nat)}, l ≠ [] → (∀ x ∈ l, c ∉ x) → splitL c (joinL [c] l) = l
  | [], h, _ => absurd rfl h
  | [x], _, h => splitL_free (h x (List.mem_cons_self ..))
  | x :: y :: r, _, h => by
    have e : joinL [c] (x :: y :: r) = x ++ c :: joinL [c] (y :: r) := by simp [joinL]
    rw [e, splitL_at _ (h x (List.mem_cons_self ..)), splitL_join (by simp) fun z hz => h z (List.mem_cons_of_mem _ hz)]
theorem splitL_length (c : Nat) : ∀ t : List Nat, (splitL c t).length ≤ t.length + 1
  | [] => Nat.le_refl _
  | a :: t => by
    have ih := splitL_length c t
    unfold splitL
    split
    · simp only [List.length_cons]; omega
    · split
      · rename_i w r e; rw [e] at ih; simp only [List.length_cons] at ih ⊢; omega
      · simp
theorem txt_split (t : List Nat) (c : Nat) : Txt.split ⟨t.toArray⟩ ⟨#[c]⟩ = (splitL c t).map fun x => ⟨x.toArray⟩ := by
  have hj := StrLaws.join_split ⟨t.toArray⟩ ⟨#[c]⟩
  have hf := StrLaws.split_free ⟨t.toArray⟩ c
  have hne : Txt.split ⟨t.toArray⟩ ⟨#[c]⟩ ≠ [] := by
    intro e
    rw [e] at hj
    have ht : t = [] := by
      have : (⟨#[]⟩ : Str) = ⟨t.toArray⟩ := hj
      have := congrArg (fun z => z.cps.toList) this
      simpa using this.symm
    subst ht
    have : Txt.split ⟨[].toArray⟩ ⟨#[c]⟩ = [⟨[].toArray⟩] := by
      unfold Txt.split
      rw [if_pos (by simp [Str.length])]
    rw [this] at e; cases e
  generalize Txt.split ⟨t.toArray⟩ ⟨#[c]⟩ = P at hj hf hne
  have hP : P = (P.map fun p => p.cps.toList).map fun x => (⟨x.toArray⟩ : Str) := by
    rw [List.map_map]
    conv => lhs; rw [← List.map_id P]
    apply List.map_congr_left
    intro p _
    cases p; simp
  have ej : joinL [c] (P.map fun p => p.cps.toList) = t := by
    have := join_arr [c] (P.map fun p => p.cps.toList)
    rw [← hP] at this
    have h2 : (⟨[c].toArray⟩ : Str).join P = ⟨t.toArray⟩ := hj
    rw [h2] at this
    have := congrArg (fun z => z.cps.toList) this
    simpa using this.symm
  have := splitL_join (c := c) (l := P.map fun p => p.cps.toList) (by simpa using hne) (fun x hx => by
    obtain ⟨p, hp, rfl⟩ := List.mem_map.mp hx
    exact hf p hp)
  rw [ej] at this
  rw [this]
  exact hP

section
variable {prog : Program} {w : World} {A : Around} {E : Value → Shared → Prop} {s : Shared} {h₀ : Heap} {ρ : List Addr} {σ σ' : Sto} {d z : D} {va vb : Value} {Q : Value → Shared → Prop}

theorem repl_strs {h : Heap} : ∀ (l : List (Str × Tok)) (xs : List (List Nat)), l.map (·.1) = xs.map (fun x => ⟨x.toArray⟩) → RepL h ρ (xs.map D.str) (strValues l)
  | [], [], _ => RepL.nil
  | [], x :: xs, e => by cases e
  | p :: l, [], e => by cases e
  | (a, t) :: l, x :: xs, e => by
    simp only [List.map_cons, List.cons.injEq] at e
    obtain ⟨rfl, e⟩ := e
    exact RepL.cons (rep_str x t) (repl_strs l xs e)

theorem split_sound {x y : D} (W : Wd h₀ s.heap ρ σ) (r1 : Rep s.heap ρ x va) (r2 : Rep s.heap ρ y vb) (ho : opSplit x y σ = some (z, σ')) (B : Back h₀ ρ s Q z σ') :
    wpAny (model prog w) A (call (.builtin "str.split") [va, vb]) Q E s := by
  unfold opSplit at ho
  split at ho
  case h_2 => cases ho
  rename_i t c
  split at ho
  case isFalse => cases ho
  rename_i hl
  cases ho
  unfold Rep at r1 r2
  obtain ⟨tt, rfl⟩ := r1
  obtain ⟨tu, rfl⟩ := r2
  have hsp := txt_split t c
  have hlen : (⟨t.toArray⟩ : Str).length = t.length := by simp [Str.length]
  have hx : (⟨t.toArray⟩ : Str).length ≤ sizeLine := by rw [hlen]; exact Nat.le_trans (Nat.le_of_lt hl) cap_line
  have fin : ∀ (l : List (Str × Tok)) (tk : Nat), l.map (·.1) = Txt.split ⟨t.toArray⟩ ⟨#[c]⟩ → Q (.ref s.heap.objs.size) { s with toks := tk, heap := s.heap.push { cls := .type "list", data := .seq (strValues l).toArray } } := by
    intro l tk e
    rw [hsp] at e
    exact B.list W (fun _ _ e => Heap.get?_push_of_some _ e) (fresh_none _) ⟨0, Heap.get?_push_size _ rfl⟩ (repl_strs l _ e) tk
  show wpAny (model prog w) A (call (.builtin "str.split") [.str ⟨t.toArray⟩ tt, .str ⟨#[c]⟩ tu]) Q E s
  cases h1 : (decide ((⟨t.toArray⟩ : Str).length < (⟨#[c]⟩ : Str).length) || decide (Builtin.Str.strKind ⟨t.toArray⟩ < Builtin.Str.strKind ⟨#[c]⟩))
  · cases hf : (Builtin.Str.occurrences ⟨t.toArray⟩ ⟨#[c]⟩ 0 (⟨t.toArray⟩ : Str).length ((⟨t.toArray⟩ : Str).length + 1)).isEmpty
    · have e3 : Txt.split ⟨t.toArray⟩ ⟨#[c]⟩ = Builtin.Str.partsBetween ⟨t.toArray⟩ (Builtin.Str.occurrences ⟨t.toArray⟩ ⟨#[c]⟩ 0 (⟨t.toArray⟩ : Str).length ((⟨t.toArray⟩ : Str).length + 1)) (⟨#[c]⟩ : Str).length :=
        (if_neg (ne_true_of_eq_false h1)).trans (if_neg (ne_true_of_eq_false hf))
      have hn : (Builtin.Str.partsBetween ⟨t.toArray⟩ (Builtin.Str.occurrences ⟨t.toArray⟩ ⟨#[c]⟩ 0 (⟨t.toArray⟩ : Str).length ((⟨t.toArray⟩ : Str).length + 1)) (⟨#[c]⟩ : Str).length).length ≤ sizeLine := by
        rw [← e3, hsp, List.length_map]
        have := splitL_length c t
        have := cap_line
        omega
      refine call_meets PySem.F.slot_str_split (typeIs_str _ _ _) PySem.F.entry_str_split (PySem.F.args_str_split_2 _ _) (meets_str_split_sep ⟨t.toArray⟩ ⟨#[c]⟩ tt tu h1 rfl hf hx hn) ?_
      show wants Q E _ _
      rw [strsFrom_eq]
      exact fin (numbered s.toks _) _ ((numbered_texts _ _).trans e3.symm)
    · exact call_meets PySem.F.slot_str_split (typeIs_str _ _ _) PySem.F.entry_str_split (PySem.F.args_str_split_2 _ _) (meets_str_split_not_found ⟨t.toArray⟩ ⟨#[c]⟩ tt tu h1 rfl hf)
        (fin [(⟨t.toArray⟩, tt)] s.toks ((if_neg (ne_true_of_eq_false h1)).trans (if_pos hf)).symm)
  · exact call_meets PySem.F.slot_str_split (typeIs_str _ _ _) PySem.F.entry_str_split (PySem.F.args_str_split_2 _ _) (meets_str_split_cannot_occur ⟨t.toArray⟩ ⟨#[c]⟩ tt tu h1)
      (fin [(⟨t.toArray⟩, tt)] s.toks (if_pos h1).symm)
end

section
variable {x : Cx} {C : CallT} {n : Nat} {env : Env} {c : SC}

noncomputable def plainBase (e : Expr) : Bool := match e with | .Name .. | .Constant .. => true | _ => false
theorem base_plain {o : Expr} {name : Str} (h : plainBase o = true) : attributeBase o name env (eval o env) = eval o env := by
  cases o <;> first | rfl | cases h

theorem eok_meth {o e : Expr} {po pe pm : PE} {name : Str} {ap p : Pos} {T id : String} {opM : D → D → Sto → Option (D × Sto)} (hb : plainBase o = true) (hl : (ap.endLine == p.line) = true) (hst : notStar e = true)
    (pa : PlainAttrs T) (slot : Slot T name id) (hty : typeOf (.builtin id) = pure (.type "method_descriptor"))
    (hpm : ∀ ve σ, peval x.T C pm ve σ = (match peval x.T C po ve σ with
      | some (a, σ₁) => (match peval x.T C pe ve σ₁ with | some (b, σ₂) => opM a b σ₂ | _ => Option.none)
      | _ => Option.none))
    (H1 : EOK x C n env c o po) (H2 : EOK x C n env c e pe)
    (hT : ∀ {s : Shared} {ρ : List Addr} {σ σ₁ σ₂ σ' : Sto} {ve : VEnv} {a b z : D} {va : Value}, Wd x.h₀ s.heap ρ σ₁ → Rep s.heap ρ a va → peval x.T C pe ve σ₁ = some (b, σ₂) → opM a b σ₂ = some (z, σ') → s.TypeIs va T ∧ (∀ l, va = .ref l → ∃ ob, s.heap.get? l = some ob ∧ ob.dict = none))
    (hS : ∀ {s : Shared} {ρ : List Addr} {σ σ' : Sto} {a b z : D} {va vb : Value} {A : Around} {Q : Value → Shared → Prop} {E : Value → Shared → Prop}, Wd x.h₀ s.heap ρ σ → Rep s.heap ρ a va → Rep s.heap ρ b vb → opM a b σ = some (z, σ') → Back x.h₀ ρ s Q z σ' → wpAny (model x.prog x.w) A (call (.builtin id) [va, vb]) Q E s) :
    EOK x C n env c (.Call (.Attribute o name ap) [e] [] p) pm := by
  intro ve σ d σ' hp A hA s ρ Q E W F B
  rw [hpm] at hp
  split at hp
  · rename_i a σ₁ h1
    split at hp
    · rename_i b σ₂ h2
      have hstar : starEach [e] env = [(false, eval e env)] := starEach_cons hst
      refine wpAny_Call_method (base_plain hb) (by rw [hstar]; rfl) hl pa slot hty (H1 ve σ a σ₁ h1 A hA s ρ _ E W F fun va ρ₁ h₁ t₁ W1 S1 r1 => ?_)
      obtain ⟨q1, q2⟩ := hT (s := { s with heap := h₁, toks := t₁ }) (σ := σ) W1 r1 h2 hp
      refine ⟨q1, q2, ?_⟩
      refine callWith_machine (fun a h => by cases h) (by rw [hstar]; rfl) ?_
      rw [hstar]
      show wpAny _ A (spliced [(false, eval e env)]) _ E _
      refine Calls.spliced_cons (H2 ve σ₁ b σ₂ h2 A hA _ ρ₁ _ E W1 (F.mono W S1) fun vb ρ₂ h₂ t₂ W2 S2 r2 => Calls.spliced_nil ?_)
      exact hS W2 (Rep.mono S2 (xok_none _) _ _ r1) r2 hp ((B.after (tk := t₁) W1 S1).after W2 S2)
    · cases hp
  · cases hp

theorem list_there {s : Shared} {ρ : List Addr} {σ : Sto} {r : Nat} {va : Value} (W : Wd x.h₀ s.heap ρ σ) (r1 : Rep s.heap ρ (.ref r) va) : s.TypeIs va "list" ∧ (∀ l, va = .ref l → ∃ ob, s.heap.get? l = some ob ∧ ob.dict = none) := by
  unfold Rep at r1
  obtain ⟨a, rfl, ha⟩ := r1
  have hlt : r < σ.length := by rw [← W.len]; exact (List.getElem?_eq_some_iff.mp ha).1
  obtain ⟨vs, ⟨m, hp⟩, _⟩ := W.lists r a _ ha (List.getElem?_eq_getElem hlt)
  exact ⟨⟨_, hp, rfl⟩, fun l e => by cases e; exact ⟨_, hp, rfl⟩⟩

theorem eok_join {o e : Expr} {po pe : PE} {ap p : Pos} (hb : plainBase o = true) (hl : (ap.endLine == p.line) = true) (hst : notStar e = true) (H1 : EOK x C n env c o po) (H2 : EOK x C n env c e pe) :
    EOK x C n env c (.Call (.Attribute o (Str.ofString "join") ap) [e] [] p) (.join po pe) := by
  refine eok_meth (T := "str") (id := "str.join") (opM := opJoin) hb hl hst PySem.F.plainAttrs_str PySem.F.slot_str_join PySem.F.type_str_join (fun ve σ => by simp only [Zk, Zq, Z03, Zt, Zz, Z01, Zo, Zi, Zy, Zx, Zw, Zs, Zm, Zn, Zl, Zu, Zj, Zr, Z00, Z02, Zv, Zp] <;> rfl) H1 H2 ?_ ?_
  · intro s ρ σ σ₁ σ₂ σ' ve a b z va W r1 h2 ho
    cases a with
    | str t =>
      unfold Rep at r1
      obtain ⟨t, rfl⟩ := r1
      exact ⟨typeIs_str _ _ _, fun l e => by cases e⟩
    | _ => simp [opJoin] at ho
  · intro s ρ σ σ' a b z va vb A Q E W r1 r2 ho B
    exact join_sound W r1 r2 ho B
theorem eok_split {o e : Expr} {po pe : PE} {ap p : Pos} (hb : plainBase o = true) (hl : (ap.endLine == p.line) = true) (hst : notStar e = true) (H1 : EOK x C n env c o po) (H2 : EOK x C n env c e pe) :
    EOK x C n env c (.Call (.Attribute o (Str.ofString "split") ap) [e] [] p) (.split po pe) := by
  refine eok_meth (T := "str") (id := "str.split") (opM := opSplit) hb hl hst PySem.F.plainAttrs_str PySem.F.slot_str_split PySem.F.type_str_split (fun ve σ => by simp only [Zk, Zq, Z03, Zt, Zz, Z01, Zo, Zi, Zy, Zx, Zw, Zs, Zm, Zn, Zl, Zu, Zj, Zr, Z00, Z02, Zv, Zp] <;> rfl) H1 H2 ?_ ?_
  · intro s ρ σ σ₁ σ₂ σ' ve a b z va W r1 h2 ho
    cases a with
    | str t =>
      unfold Rep at r1
      obtain ⟨t, rfl⟩ := r1
      exact ⟨typeIs_str _ _ _, fun l e => by cases e⟩
    | _ => simp [opSplit] at ho
  · intro s ρ σ σ' a b z va vb A Q E W r1 r2 ho B
    exact split_sound W r1 r2 ho B
theorem eok_append {o e : Expr} {po pe : PE} {ap p : Pos} (hb : plainBase o = true) (hl : (ap.endLine == p.line) = true) (hst : notStar e = true) (H1 : EOK x C n env c o po) (H2 : EOK x C n env c e pe) :
    EOK x C n env c (.Call (.Attribute o (Str.ofString "append") ap) [e] [] p) (.append po pe) := by
  refine eok_meth (T := "list") (id := "list.append") (opM := opAppend) hb hl hst PySem.F.plainAttrs_list PySem.F.slot_list_append PySem.F.type_list_append (fun ve σ => by simp only [Zk, Zq, Z03, Zt, Zz, Z01, Zo, Zi, Zy, Zx, Zw, Zs, Zm, Zn, Zl, Zu, Zj, Zr, Z00, Z02, Zv, Zp] <;> rfl) H1 H2 ?_ ?_
  · intro s ρ σ σ₁ σ₂ σ' ve a b z va W r1 h2 ho
    cases a with
    | ref r => exact list_there W r1
    | _ => simp [opAppend] at ho
  · intro s ρ σ σ' a b z va vb A Q E W r1 r2 ho B
    exact append_sound W r1 r2 ho B
theorem eok_extend {o e : Expr} {po pe : PE} {ap p : Pos} (hb : plainBase o = true) (hl : (ap.endLine == p.line) = true) (hst : notStar e = true) (H1 : EOK x C n env c o po) (H2 : EOK x C n env c e pe) :
    EOK x C n env c (.Call (.Attribute o (Str.ofString "extend") ap) [e] [] p) (.extend po pe) := by
  refine eok_meth (T := "list") (id := "list.extend") (opM := opExtend) hb hl hst PySem.F.plainAttrs_list PySem.F.slot_list_extend PySem.F.type_list_extend (fun ve σ => by simp only [Zk, Zq, Z03, Zt, Zz, Z01, Zo, Zi, Zy, Zx, Zw, Zs, Zm, Zn, Zl, Zu, Zj, Zr, Z00, Z02, Zv, Zp] <;> rfl) H1 H2 ?_ ?_
  · intro s ρ σ σ₁ σ₂ σ' ve a b z va W r1 h2 ho
    cases a with
    | ref r => exact list_there W r1
    | _ => simp [opExtend] at ho
  · intro s ρ σ σ' a b z va vb A Q E W r1 r2 ho B
    exact extend_sound W r1 r2 ho B
end
end Mine
end

section
open PySem PySem.W PyProof.Rows
namespace Mine
theorem ff {P : Prop} (h : false = true) : P := Bool.noConfusion h
mutual
theorem D.beq_eq : ∀ (a b : D), D.beq a b = true → a = b
  | .none, b, h => by cases b <;> first | rfl | exact ff h
  | .bool x, b, h => by cases b <;> first | exact ff h | exact congrArg D.bool (eq_of_beq (a := x) h)
  | .int x, b, h => by cases b <;> first | exact ff h | exact congrArg D.int (eq_of_beq (a := x) h)
  | .str x, b, h => by cases b <;> first | exact ff h | exact congrArg D.str (eq_of_beq (a := x) h)
  | .tup x, b, h => by cases b <;> first | exact ff h | exact congrArg D.tup (D.beqL_eq x _ h)
  | .ref x, b, h => by cases b <;> first | exact ff h | exact congrArg D.ref (eq_of_beq (a := x) h)
  | .script x, b, h => by cases b <;> first | exact ff h | exact congrArg D.script (eq_of_beq (a := x) h)
  | .rng x, b, h => by cases b <;> first | exact ff h | exact congrArg D.rng (eq_of_beq (a := x) h)
theorem D.beqL_eq : ∀ (a b : List D), D.beqL a b = true → a = b
  | [], b, h => by cases b with | nil => rfl | cons => exact ff h
  | x :: l, b, h => by
    cases b with
    | nil => exact ff h
    | cons y r =>
      have h : (D.beq x y && D.beqL l r) = true := h
      rw [Bool.and_eq_true] at h
      rw [D.beq_eq x y h.1, D.beqL_eq l r h.2]
end
theorem stays_spec {d : D} {l : List D} {σ σ' : Sto} (h : stays d l σ' = true) (hi : itemsOf d σ = some l) : itemsOf d σ' = some l := by
  cases d with
  | ref r =>
    unfold stays at h
    show σ'[r]? = some l
    cases e : σ'[r]? with
    | none => simp only [e] at h; cases h
    | some l' => simp only [e] at h; rw [D.beqL_eq l l' h]
  | _ => exact hi

noncomputable def IterAt (h : Heap) (ρ : List Addr) (it : Addr) (src : D) (k : Nat) : Prop := match src with
  | .tup l => ∃ t vs, h.IsTuple t (List.toArray vs) ∧ t ∉ ρ ∧ RepL h ρ l vs ∧ h.IsTupleIter it t k
  | .ref r => ∃ a, ρ[r]? = some a ∧ h.IsListIter it a k
  | .rng n => IsRangeIter h it (k : Int) ((n : Int) - k) 1
  | _ => False

theorem IterAt.there {h : Heap} {ρ : List Addr} {it : Addr} {src : D} {k : Nat} (I : IterAt h ρ it src k) : ∃ o n, h.get? it = some o ∧ ¬ isDat o ∧ o.cls = .type n ∧ (n = "tuple_iterator" ∨ n = "list_iterator" ∨ n = "range_iterator") := by
  have key : ∀ o n vs, h.get? it = some o → o.cls = .type n → o.data = .fields vs → (n = "tuple_iterator" ∨ n = "list_iterator" ∨ n = "range_iterator") → ∃ o n, h.get? it = some o ∧ ¬ isDat o ∧ o.cls = .type n ∧ (n = "tuple_iterator" ∨ n = "list_iterator" ∨ n = "range_iterator") := by
    intro o n vs e c d hn
    refine ⟨o, n, e, fun q => ?_, c, hn⟩
    rcases q with ⟨xs, m, e'⟩ | ⟨e', _⟩
    · rw [d] at e'; cases e'
    · rw [c] at e'
      cases e'
      rcases hn with h | h | h <;> exact absurd h (by decide)
  cases src with
  | tup l => obtain ⟨t, vs, _, _, _, o, e, c, d⟩ := I; exact key o _ _ e c d (.inl rfl)
  | ref r => obtain ⟨a, _, o, e, c, d⟩ := I; exact key o _ _ e c d (.inr (.inl rfl))
  | rng n => exact key _ _ _ I rfl rfl (.inr (.inr rfl))
  | _ => exact I.elim

theorem IterAt.mono {h₀ : Heap} {X : Addr → Prop} {h h' : Heap} {ρ ρ' : List Addr} {σ : Sto} {it : Addr} {src : D} {k : Nat} (I : IterAt h ρ it src k) (W : Wd h₀ h ρ σ) (x : XOk X h) (hx : ¬ X it) (S : St X ρ h ρ' h') : IterAt h' ρ' it src k := by
  have hit : it ∉ ρ := by
    obtain ⟨o, n, e, nd, _⟩ := I.there
    intro hm
    obtain ⟨o', e', d⟩ := W.there hm
    rw [e] at e'; cases e'; exact nd d
  have up : ∀ o, h.get? it = some o → h'.get? it = some o := fun o e => S.keep it o hit hx e
  cases src with
  | tup l =>
    obtain ⟨t, vs, ⟨o, ho, hc, n, hd⟩, hn, hr, ⟨o', ho', r⟩⟩ := I
    have q := S.at x ho (.inl ⟨_, n, hd⟩) hn
    exact ⟨t, vs, ⟨o, q.1, hc, n, hd⟩, q.2, RepL.mono S x _ _ hr, ⟨o', up _ ho', r⟩⟩
  | ref r =>
    obtain ⟨a, hi, ⟨o', ho', q⟩⟩ := I
    obtain ⟨new, rfl, _⟩ := S.ext
    exact ⟨a, by rw [List.getElem?_append_left (List.getElem?_eq_some_iff.mp hi).1]; exact hi, ⟨o', up _ ho', q⟩⟩
  | rng n => exact up _ I
  | _ => exact I.elim

section
variable {prog : Program} {w : World} {A : Around} {E : Value → Shared → Prop} {s : Shared} {h₀ : Heap} {ρ : List Addr} {σ σ' : Sto}

theorem iter_make {src : D} {sv : Value} {all : List D} {Q : Value → Shared → Prop} (W : Wd h₀ s.heap ρ σ) (r : Rep s.heap ρ src sv) (hi : itemsOf src σ = some all)
    (hQ : ∀ it h', s.heap.get? it = none → (∀ b o, s.heap.get? b = some o → h'.get? b = some o) → IterAt h' ρ it src 0 → Q (.ref it) { s with heap := h' }) : wpAny (model prog w) A (pyIter sv) Q E s := by
  cases src with
  | tup l =>
    unfold Rep at r
    obtain ⟨t, vs, rfl, hT, hn, hr⟩ := r
    refine wpAny_pyIter_tuple hT ?_
    obtain ⟨W', S'⟩ := W.push { cls := .type "tuple_iterator", data := .fields #[.ref t, .int 0 0] }
    refine hQ _ _ (fresh_none _) (fun _ _ e => Heap.get?_push_of_some _ e) ⟨t, vs, hT.push _, hn, RepL.mono S' (xok_none _) _ _ hr, ⟨_, Heap.get?_push_size _ rfl, rfl, rfl⟩⟩
  | ref q =>
    unfold Rep at r
    obtain ⟨a, rfl, ha⟩ := r
    obtain ⟨vs, hp, hr⟩ := W.lists q a all ha hi
    refine wpAny_pyIter_list hp.isList ?_
    exact hQ _ _ (fresh_none _) (fun _ _ e => Heap.get?_push_of_some _ e) ⟨a, ha, ⟨_, Heap.get?_push_size _ rfl, rfl, rfl⟩⟩
  | rng n =>
    unfold Rep at r
    obtain ⟨a, t, u, v, rfl, hR, hn⟩ := r
    have hn1 : n ≤ 1000 := by
      simp only [itemsOf] at hi
      split at hi
      · assumption
      · cases hi
    have e : Builtin.Range.rangeSize 0 (n : Int) 1 = n := by rw [rangeSize_one]; split <;> omega
    have fit : ∀ i : Int, -5000 ≤ i → i ≤ 5000 → Builtin.Range.rangeFitsLong i = true := fun i h1 h2 => by
      unfold Builtin.Range.rangeFitsLong
      rw [Bool.and_eq_true, decide_eq_true_eq, decide_eq_true_eq]
      omega
    have hs : Builtin.Range.small 0 (n : Int) 1 = true := by
      unfold Builtin.Range.small
      rw [e, fit 0 (by omega) (by omega), fit (n : Int) (by omega) (by omega), fit 1 (by omega) (by omega)]
      rw [if_pos (by decide), fit ((n : Int) + (1 - 1)) (by omega) (by omega)]
      simp
    refine wpAny_pyIter_range hR hs ?_
    rw [e]
    refine hQ _ _ (fresh_none _) (fun _ _ e => Heap.get?_push_of_some _ e) ?_
    show _ = _
    rw [Heap.get?_push_size _ rfl]
    simp [rawInt]
  | _ => cases hi

theorem iter_self {src : D} {it : Addr} {k : Nat} {Q : Value → Shared → Prop} (I : IterAt s.heap ρ it src k) (hQ : Q (.ref it) s) : wpAny (model prog w) A (pyIter (.ref it)) Q E s := by
  cases src with
  | tup l => obtain ⟨t, vs, _, _, _, hi⟩ := I; exact wpAny_pyIter_tupleiter hi hQ
  | ref q => obtain ⟨a, _, hi⟩ := I; exact wpAny_pyIter_listiter hi hQ
  | rng n => exact wpAny_pyIter_rangeiter I hQ
  | _ => exact I.elim

/-- the iterator alone has turned -/
theorem iter_same {it : Addr} {src : D} {k : Nat} {h' : Heap} (W : Wd h₀ s.heap ρ σ) (I : IterAt s.heap ρ it src k) (h0 : h₀.get? it = none) (hk : ∀ b o, b ≠ it → s.heap.get? b = some o → h'.get? b = some o) : Wd h₀ h' ρ σ ∧ St (fun a => a = it) ρ s.heap ρ h' := by
  refine W.keep (X := fun a => a = it) (fun a ha => ?_) (fun a ha => by rw [ha]; exact h0) fun a o hx e => hk a o hx e
  obtain ⟨o, n, e, nd, _⟩ := I.there
  exact ⟨o, by rw [ha]; exact e, nd⟩

theorem iter_next {src : D} {it : Addr} {k : Nat} {all : List D} {d : D} {Q : Option Value → Shared → Prop} (W : Wd h₀ s.heap ρ σ) (I : IterAt s.heap ρ it src k) (h0 : h₀.get? it = none) (hi : itemsOf src σ = some all) (hd : all[k]? = some d)
    (hQ : ∀ v h' tk, Rep h' ρ d v → IterAt h' ρ it src (k + 1) → (∀ b o, b ≠ it → s.heap.get? b = some o → h'.get? b = some o) → Q (some v) { s with heap := h', toks := tk }) : wpAny (model prog w) A (pyNext (.ref it)) Q E s := by
  have same := fun h' hk => (iter_same (h' := h') W I h0 hk)
  have xok : XOk (fun a => a = it) s.heap := fun a ha => by
    obtain ⟨o, n, e, nd, _⟩ := I.there
    exact ⟨o, by rw [ha]; exact e, nd⟩
  cases src with
  | tup l =>
    cases hi
    obtain ⟨t, vs, hT, hn, hr, hit⟩ := I
    obtain ⟨v, hv, rv⟩ := RepL.get hr hd
    refine wpAny_pyNext_tuple_item hit hT (by simpa using hv) fun h' hit' hsb => ?_
    have hk : ∀ b o, b ≠ it → s.heap.get? b = some o → h'.get? b = some o := fun b o hb e => (hsb.2 b hb).trans e
    obtain ⟨W', S'⟩ := same h' hk
    have hne : t ≠ it := by
      rintro rfl
      obtain ⟨o, e, c, _⟩ := hT
      obtain ⟨o', e', c', _⟩ := hit
      rw [e] at e'; cases e'
      exact absurd (Value.type.inj (c.symm.trans c')) (by decide)
    obtain ⟨o, e, c, r⟩ := hT
    exact hQ v h' s.toks (Rep.mono S' xok _ _ rv) ⟨t, vs, ⟨o, hk t o hne e, c, r⟩, hn, RepL.mono S' xok _ _ hr, hit'⟩ hk
  | ref q =>
    obtain ⟨a, ha, hit⟩ := I
    obtain ⟨vs, hp, hr⟩ := W.lists q a all ha hi
    obtain ⟨v, hv, rv⟩ := RepL.get hr hd
    refine wpAny_pyNext_list_item hit hp.isList (by simpa using hv) fun h' hit' hsb => ?_
    have hk : ∀ b o, b ≠ it → s.heap.get? b = some o → h'.get? b = some o := fun b o hb e => (hsb.2 b hb).trans e
    obtain ⟨W', S'⟩ := same h' hk
    exact hQ v h' s.toks (Rep.mono S' xok _ _ rv) ⟨a, ha, hit'⟩ hk
  | rng n =>
    simp only [itemsOf] at hi
    split at hi
    case isFalse => cases hi
    cases hi
    have hlt : k < n := by
      have := (List.getElem?_eq_some_iff.mp hd).1
      simpa using this
    have hdk : d = .int (k : Int) := by
      rw [List.getElem?_map, List.getElem?_range hlt] at hd
      simpa using hd.symm
    subst hdk
    refine wpAny_pyNext_range_item I (by omega) fun h' hit' hsb => ?_
    have hk : ∀ b o, b ≠ it → s.heap.get? b = some o → h'.get? b = some o := fun b o hb e => (hsb.2 b hb).trans e
    refine hQ _ h' _ (rep_int _ _) ?_ hk
    show IsRangeIter _ _ _ _ _
    have e1 : (((k + 1 : Nat) : Int)) = (k : Int) + 1 := by omega
    have e2 : (n : Int) - ((k + 1 : Nat) : Int) = (n : Int) - k - 1 := by omega
    have e3 : (n : Int) - ((k : Int) + 1) = (n : Int) - k - 1 := by omega
    rw [e1, e3]
    exact hit'
  | _ => exact I.elim
theorem iter_end {src : D} {it : Addr} {k : Nat} {all : List D} {Q : Option Value → Shared → Prop} (hh : A.handled = none) (W : Wd h₀ s.heap ρ σ) (I : IterAt s.heap ρ it src k) (hi : itemsOf src σ = some all) (hd : all[k]? = none)
    (hQ : ∀ h', (∀ b o, b ≠ it → s.heap.get? b = some o → h'.get? b = some o) → Q none { s with heap := h' }) : wpAny (model prog w) A (pyNext (.ref it)) Q E s := by
  cases src with
  | tup l =>
    cases hi
    obtain ⟨t, vs, hT, hn, hr, hit⟩ := I
    refine wpAny_pyNext_tuple_end hh hit hT ?_ fun h' hx => hQ h' fun b o hb e => hx b o hb e
    have := RepL.length hr
    have h2 := List.getElem?_eq_none_iff.mp hd
    simp; omega
  | ref q =>
    obtain ⟨a, ha, hit⟩ := I
    obtain ⟨vs, hp, hr⟩ := W.lists q a all ha hi
    refine wpAny_pyNext_list_end hh hit hp.isList ?_ fun h' hx => hQ h' fun b o hb e => hx b o hb e
    have := RepL.length hr
    have h2 := List.getElem?_eq_none_iff.mp hd
    simp; omega
  | rng n =>
    simp only [itemsOf] at hi
    split at hi
    case isFalse => cases hi
    cases hi
    have h2 := List.getElem?_eq_none_iff.mp hd
    simp at h2
    exact wpAny_pyNext_range_end hh I (by omega) fun h' hx => hQ h' fun b o hb e => hx b o hb e
  | _ => exact I.elim

theorem let_owned {target : Expr} {src : D} {it : Addr} {k : Nat} {v : Value} {Q : Unit → Shared → Prop} (I : IterAt s.heap ρ it src k) (hQ : Q () s) : wpAny (model prog w) A (letOwnedTupleGo target (.ref it) v) Q E s := by
  obtain ⟨o, n, ho, _, hc, hn⟩ := I.there
  have body : wpAny (model prog w) A (do
      let (.ref r, .ref a) := ((.ref it : Value), v) | return
      let o ← load r
      match o.cls, o.data with
      | .type n, .fields vs =>
        if ["enumerate", "zip", "dict_itemiterator", "dict_reverseitemiterator", "odict_iterator", "itertools.zip_longest", "itertools.pairwise"].contains n && vs[0]? == some (rawInt a) then
          rule "for.unpacks-the-owned-tuple"
          updateField r 0 .none
      | _, _ => pure ()) Q E s := by
    cases v with
    | ref a =>
      refine wpAny_bind (wpAny_load ho ?_)
      rw [hc]
      split
      · rename_i m vs e1 e2
        cases e1
        rw [if_neg ?_]
        · exact wpAny_pure hQ
        · rcases hn with rfl | rfl | rfl <;> simp
      · exact wpAny_pure hQ
    | _ => exact wpAny_pure hQ
  unfold letOwnedTupleGo
  split
  · exact body
  · exact body
  · exact wpAny_pure hQ
end
end Mine
end

section
open PySem PySem.W PyProof.Rows
namespace Mine
section
variable {x : Cx} {C : CallT} {n : Nat} {env : Env} {c : SC}

theorem St.drop {X : Addr → Prop} {ρ ρ' : List Addr} {h h' : Heap} (S : St X ρ h ρ' h') (hx : ∀ a, X a → h.get? a = none) : St noX ρ h ρ' h' :=
  ⟨S.ext, fun a o hn _ e => S.keep a o hn (fun q => by rw [hx a q] at e; cases e) e⟩

/-! ### tests -/
noncomputable def testStep (env : Env) : Expr → Bool → Sem (ForInStep Bool) := fun c r => if r = true then do let ok ← PySem.isTrue c env (eval c env); pure (ForInStep.yield ok) else pure (ForInStep.yield r)
noncomputable def QOK (x : Cx) (C : CallT) (n : Nat) (env : Env) (c : SC) (es : List Expr) (pes : PEs) : Prop :=
  ∀ ve σ b σ', ptests x.T C pes ve σ = some (b, σ') → ∀ A, AOk A n → ∀ (s : Shared) (ρ : List Addr) Q E, Wd x.h₀ s.heap ρ σ → FOk s.heap ρ env c.sl ve → BackB x.h₀ ρ s Q b σ' → wpAny (model x.prog x.w) A (forIn es true (testStep env)) Q E s

theorem tests_off {M : Model} {A : Around} {Q : Bool → Shared → Prop} {E : Value → Shared → Prop} {s : Shared} (h : Q false s) : ∀ es : List Expr, wpAny M A (forIn es false (testStep env)) Q E s
  | [] => wpAny_pure h
  | e :: es => by
    rw [List.forIn_cons]
    exact wpAny_bind (wpAny_pure (tests_off h es))

theorem qok_nil : QOK x C n env c [] .nil := by
  intro ve σ b σ' hp A hA s ρ Q E W F B
  simp only [Z07, Z06, Option.some.injEq, Prod.mk.injEq] at hp
  obtain ⟨rfl, rfl⟩ := hp
  exact wpAny_pure (B.here W s.toks)
theorem qok_cons {e : Expr} {es : List Expr} {pe : PE} {pes : PEs} (H : TOK x C n env c e pe) (Hs : QOK x C n env c es pes) : QOK x C n env c (e :: es) (.cons pe pes) := by
  intro ve σ b σ' hp A hA s ρ Q E W F B
  simp only [Z07, Z06] at hp
  rw [List.forIn_cons]
  split at hp
  · rename_i q σ₁ h1
    refine wpAny_bind ?_
    show wpAny _ A (do let ok ← PySem.isTrue e env (eval e env); pure (ForInStep.yield ok)) _ E s
    refine wpAny_bind (H ve σ q σ₁ h1 A hA s ρ _ E W F fun ρ₁ h₁ t₁ W1 S1 => ?_)
    refine wpAny_pure ?_
    cases q with
    | true => exact Hs ve σ₁ b σ' hp A hA _ ρ₁ Q E W1 (F.mono W S1) (B.after W1 S1)
    | false =>
      simp only [Option.some.injEq, Prod.mk.injEq] at hp
      obtain ⟨rfl, rfl⟩ := hp
      exact tests_off (B ρ₁ h₁ t₁ W1 S1) es
  · cases hp
theorem qok_all {f : Expr → PE} : ∀ {es : List Expr}, (∀ e ∈ es, TOK x C n env c e (f e)) → QOK x C n env c es (toPEs (es.map f))
  | [], _ => qok_nil
  | e :: es, H => qok_cons (H e (List.mem_cons_self ..)) (qok_all fun e' he => H e' (List.mem_cons_of_mem _ he))

/-! ### the turns -/
theorem comp_turns {elt target iter : Expr} {ifs : List Expr} {scope : Scope} {pos : Pos} {pelt : PE} {pifs : PEs} {t : Tgt} {src : D} {all : List D} {r : Nat} {it acc : Addr} {A : Around} {R : Result → Shared → Prop} {σe : Sto}
    (S : SEnv x.h₀ env c) (HE : EOK x C n env c elt pelt) (HQ : QOK x C n env c ifs pifs) (ht : tgtOf c target = some t) (hA : AOk A n) (h0 : x.h₀.get? it = none) (hit : ¬ XA env it) (hcell : ∀ y, c.kd y ≠ some .cell) :
    ∀ (rest : List D) (k : Nat) (ve : VEnv) (σ : Sto) (s : Shared) (ρ : List Addr),
      cloop (fun ve' σ' => ptests x.T C pifs ve' σ') (fun ve' σ' => peval x.T C pelt ve' σ') t src all r rest ve σ = some σe → all.drop k = rest → Wd x.h₀ s.heap ρ σ → FOk s.heap ρ env c.sl ve → IterAt s.heap ρ it src k →
      itemsOf src σ = some all → ρ[r]? = some acc →
      (∀ ρ' h' tk m, Wd x.h₀ h' ρ' σe → St (fun a => a = it ∨ a = env.locals) ρ s.heap ρ' h' → h'.Ns env.locals m → ρ'[r]? = some acc → R (.ok .next) { s with heap := h', toks := tk }) →
      codeAny (model x.prog x.w) A (.compLoop (.ListComp elt [⟨target, iter, ifs, 0⟩] scope pos) 0 (.ref it) (.ref acc) env) R s
  | rest, k, ve, σ, s, ρ, hc, hdr, W, F, I, hi, hacc, hR => by
    refine codeAny_of_tree ?_
    rw [Around.under_of_weight rfl]
    show wpAny _ A ((compTurn (.ListComp elt [⟨target, iter, ifs, 0⟩] scope pos) 0 (.ref it) (.ref acc) env).onRaise (fun x => do noteFrame x env; theTreesLotGoes x)) _ _ s
    refine wpAny_noted ?_
    rw [compTurn_list]
    refine wpAny_bind (wpAny_standAt (wpAny_bind ?_))
    have xok : XOk (fun a => a = it ∨ a = env.locals) s.heap := by
      rintro a (rfl | rfl)
      · obtain ⟨o, n, e, nd, _⟩ := I.there
        exact ⟨o, e, nd⟩
      · exact F.xok _ (.inl rfl)
    have xok1 : XOk (fun a => a = it) s.heap := fun a ha => xok a (.inl ha)
    cases rest with
    | nil =>
      simp only [cl_nil, cl_cons, Option.some.injEq] at hc
      subst hc
      have hend : all[k]? = none := by
        rw [List.getElem?_eq_none_iff]
        have := congrArg List.length hdr
        simp only [List.length_drop, List.length_nil] at this
        omega
      refine iter_end hA.handled W I hi hend fun h' hk => ?_
      obtain ⟨W', S'⟩ := iter_same (h' := h') W I h0 hk
      obtain ⟨m, cm, F'⟩ := F.mono' W xok1 (fun a ha e => hit (e ▸ ha)) S'
      exact wpAny_pure (hR ρ h' s.toks m W' (S'.weaken fun a ha => .inl ha) F'.ns hacc)
    | cons d rest =>
      have hget : all[k]? = some d := by
        have := congrArg (fun l => l[0]?) hdr
        simpa using this
      have hdr' : all.drop (k + 1) = rest := by
        have := congrArg List.tail hdr
        simpa using this
      refine iter_next W I h0 hi hget fun v h₁ t₁ rv I₁ hk₁ => ?_
      obtain ⟨W₁, S₁⟩ := iter_same (h' := h₁) W I h0 hk₁
      have F₁ := F.mono' W xok1 (fun a ha e => hit (e ▸ ha)) S₁
      simp only [cl_nil, cl_cons] at hc
      split at hc
      case h_2 => cases hc
      rename_i ve₂ hst
      refine wpAny_bind (let_owned (s := { s with heap := h₁, toks := t₁ }) I₁ ?_)
      refine wpAny_bind (assign_tgt (s := { s with heap := h₁, toks := t₁ }) hA.handled S W₁ F₁ ht hst rv fun h₂ t₂ W₂ S₂ F₂ => ?_)
      have S₂' : St (fun a => a = it ∨ a = env.locals) ρ h₁ ρ h₂ := S₂.weaken fun a ha => by
        rcases ha with ha | ⟨y, hy, _⟩
        · exact .inr ha
        · exact absurd hy (hcell y)
      have xok2 : XOk (fun a => a = it ∨ a = env.locals) h₁ := by
        rintro a (rfl | rfl)
        · obtain ⟨o, n, e, nd, _⟩ := I₁.there
          exact ⟨o, e, nd⟩
        · exact F₁.xok _ (.inl rfl)
      have S02 : St (fun a => a = it ∨ a = env.locals) ρ s.heap ρ h₂ := St.trans W₁ xok2 (S₁.weaken fun a ha => .inl ha) S₂'
      have I₂ : IterAt h₂ ρ it src (k + 1) := by
        refine IterAt.mono (X := XE c env) I₁ W₁ F₁.xoc (fun q => hit q.all) S₂
      -- how a further step goes on
      have go : ∀ (σ₃ : Sto) (ρ₃ : List Addr) (h₃ : Heap) (t₃ : Nat), Wd x.h₀ h₃ ρ₃ σ₃ → St noX ρ h₂ ρ₃ h₃ → ρ₃[r]? = some acc → stays src all σ₃ = true →
          cloop (fun ve' σ' => ptests x.T C pifs ve' σ') (fun ve' σ' => peval x.T C pelt ve' σ') t src all r rest ve₂ σ₃ = some σe →
          codeAny (model x.prog x.w) A (.compLoop (.ListComp elt [⟨target, iter, ifs, 0⟩] scope pos) 0 (.ref it) (.ref acc) env) R { s with heap := h₃, toks := t₃ } := by
        intro σ₃ ρ₃ h₃ t₃ W₃ S₃ hacc₃ hstay hc₃
        have F₃ := F₂.mono W₂ S₃
        have I₃ := IterAt.mono I₂ W₂ (xok_none _) (fun q => q.elim) S₃
        have xok3 : XOk (fun a => a = it ∨ a = env.locals) h₂ := by
          rintro a (rfl | rfl)
          · obtain ⟨o, n, e, nd, _⟩ := I₂.there
            exact ⟨o, e, nd⟩
          · exact F₂.xok _ (.inl rfl)
        have xok4 : XOk (fun a => a = it ∨ a = env.locals) h₃ := by
          rintro a (rfl | rfl)
          · obtain ⟨o, n, e, nd, _⟩ := I₃.there
            exact ⟨o, e, nd⟩
          · exact F₃.xok _ (.inl rfl)
        have S03 : St (fun a => a = it ∨ a = env.locals) ρ s.heap ρ₃ h₃ := St.trans W₂ xok3 S02 (S₃.weaken fun a ha => ha.elim)
        refine comp_turns S HE HQ ht hA h0 hit hcell rest (k + 1) ve₂ σ₃ { s with heap := h₃, toks := t₃ } ρ₃ hc₃ hdr' W₃ F₃ I₃ (stays_spec hstay hi) hacc₃ ?_
        intro ρ' h' tk m W' S' hn' hr'
        exact hR ρ' h' tk m W' (St.trans W₃ xok4 S03 S') hn' hr'
      have grow : ∀ {ρ₃ : List Addr} {h₃ : Heap} {ρ₂ : List Addr} {h₂ : Heap}, ρ₂[r]? = some acc → St noX ρ₂ h₂ ρ₃ h₃ → ρ₃[r]? = some acc := fun he S => by
        obtain ⟨new, rfl, _⟩ := S.ext
        rw [List.getElem?_append_left (List.getElem?_eq_some_iff.mp he).1]; exact he
      split at hc
      case h_2 => cases hc
      rename_i b σ₃ htest
      refine wpAny_bind (HQ ve₂ σ b σ₃ htest A hA { s with heap := h₂, toks := t₂ } ρ _ _ W₂ F₂ fun ρ₃ h₃ t₃ W₃ S₃ => ?_)
      have hacc₃ := grow hacc S₃
      cases b with
      | false =>
        dsimp only at hc
        split at hc
        case isFalse => cases hc
        rename_i hstay
        exact wpAny_pure ⟨rfl, go σ₃ ρ₃ h₃ t₃ W₃ S₃ hacc₃ hstay hc⟩
      | true =>
        dsimp only at hc
        split at hc
        case h_2 => cases hc
        rename_i y σ₄ hel
        split at hc
        case h_2 => cases hc
        rename_i u σ₅ happ
        split at hc
        case isFalse => cases hc
        rename_i hstay
        have F₃ := F₂.mono W₂ S₃
        show wpAny _ A ((do let _ ← call (.builtin "list.append") [.ref acc, ← eval elt env]) >>= fun _ => again (.compLoop (.ListComp elt [⟨target, iter, ifs, 0⟩] scope pos) 0 (.ref it) (.ref acc) env)) _ _ _
        refine wpAny_bind (wpAny_bind (HE ve₂ σ₃ y σ₄ hel A hA { s with heap := h₃, toks := t₃ } ρ₃ _ _ W₃ F₃ fun yv ρ₄ h₄ t₄ W₄ S₄ ry => ?_))
        have hacc₄ := grow hacc₃ S₄
        have ra : Rep h₄ ρ₄ (.ref r) (.ref acc) := by unfold Rep; exact ⟨acc, rfl, hacc₄⟩
        refine wpAny_bind (append_sound (s := { s with heap := h₄, toks := t₄ }) W₄ ra ry happ fun u' ρ₅ h₅ t₅ W₅ S₅ _ => ?_)
        have S35 : St noX ρ h₂ ρ₅ h₅ := St.trans W₄ (xok_none _) (St.trans W₃ (xok_none _) S₃ S₄) S₅
        exact wpAny_pure (wpAny_pure ⟨rfl, go σ₅ ρ₅ h₅ t₅ W₅ S35 (grow hacc₄ S₅) hstay hc⟩)
end
end Mine
end

section
open PySem PySem.W PyProof.Rows
namespace Mine
theorem lookup_mem {α : Type} : ∀ {l : List (Str × α)} {y : Str} {k : α}, l.lookup y = some k → (y, k) ∈ l
  | [], _, _, h => by cases h
  | (n, v) :: l, y, k, h => by
    rw [List.lookup_cons] at h
    split at h
    · rename_i hb
      cases h
      rw [beq_iff_eq.mp hb]
      exact List.mem_cons_self ..
    · exact List.mem_cons_of_mem _ (lookup_mem h)
theorem lookup_map {α : Type} (g : Str → α → α) : ∀ (l : List (Str × α)) (y : Str), (l.map fun p => (p.1, g p.1 p.2)).lookup y = (l.lookup y).map (g y)
  | [], _ => rfl
  | (n, v) :: l, y => by
    rw [List.map_cons, List.lookup_cons, List.lookup_cons]
    cases h : y == n with
    | true => rw [beq_iff_eq.mp h]; rfl
    | false => exact lookup_map g l y
theorem relabel_lookup (scope : Scope) (env : Env) (y : Str) : (relabel scope env).names.lookup y = (scope.names.lookup y).map fun k => if (k == NameKind.free && env.scope.kind == .function && env.kindOf y == some .cell) = true then NameKind.cell else k := by
  have e : (relabel scope env).names = scope.names.map fun p => (p.1, (fun (n : Str) (k : NameKind) => if (k == NameKind.free && env.scope.kind == .function && env.kindOf n == some .cell) = true then NameKind.cell else k) p.1 p.2) := by
    unfold relabel
    dsimp only
    apply List.map_congr_left
    intro p _
    obtain ⟨n, k⟩ := p
    dsimp only
    split <;> rfl
  rw [e]
  exact lookup_map (fun (n : Str) (k : NameKind) => if (k == NameKind.free && env.scope.kind == .function && env.kindOf n == some .cell) = true then NameKind.cell else k) scope.names y

theorem closure_loop {env : Env} (f : Str × NameKind → List (Str × Addr) → Sem (ForInStep (List (Str × Addr))))
    (hf : ∀ p l, f p l = if (p.2 == NameKind.free) = true then (do let a ← cellOf env p.1; pure (ForInStep.yield ((p.1, a) :: l))) else pure (ForInStep.yield l)) :
    ∀ (L : List (Str × NameKind)) (cs : List (Str × Addr)), (∀ y, (y, NameKind.free) ∈ L → ∃ a, env.cells.lookup y = some a) →
      ∃ cl, forIn (m := Sem) L cs f = pure cl ∧ ∀ y, cl.lookup y = if (y, NameKind.free) ∈ L then env.cells.lookup y else cs.lookup y
  | [], cs, _ => ⟨cs, rfl, fun y => by simp⟩
  | (n, k) :: L, cs, H => by
    rw [List.forIn_cons, hf]
    have H' : ∀ y, (y, NameKind.free) ∈ L → ∃ a, env.cells.lookup y = some a := fun y h => H y (List.mem_cons_of_mem _ h)
    by_cases hk : k = .free
    · subst hk
      obtain ⟨a, ha⟩ := H n (List.mem_cons_self ..)
      obtain ⟨cl, e, hl⟩ := closure_loop f hf L ((n, a) :: cs) H'
      refine ⟨cl, ?_, fun y => ?_⟩
      · rw [if_pos (by rfl)]
        unfold cellOf
        rw [ha]
        exact e
      · rw [hl y, List.lookup_cons]
        by_cases hm : (y, NameKind.free) ∈ L
        · rw [if_pos hm, if_pos (List.mem_cons_of_mem _ hm)]
        · rw [if_neg hm]
          by_cases hy : y = n
          · subst hy
            rw [if_pos (List.mem_cons_self ..), ha]; simp
          · have hb : (y == n) = false := beq_eq_false_iff_ne.mpr hy
            rw [if_neg (by simp [hy, hm])]
            simp [hb]
    · obtain ⟨cl, e, hl⟩ := closure_loop f hf L cs H'
      refine ⟨cl, ?_, fun y => ?_⟩
      · rw [if_neg (by simpa using hk)]
        exact e
      · rw [hl y]
        have : ((y, NameKind.free) ∈ (n, k) :: L) ↔ (y, NameKind.free) ∈ L := by
          rw [List.mem_cons]
          constructor
          · rintro (h | h)
            · cases h; exact absurd rfl hk
            · exact h
          · exact .inr
        simp only [this]
theorem mem_frees {scope : Scope} {y : Str} : y ∈ innerFrees scope ↔ (y, NameKind.free) ∈ scope.names := by
  unfold innerFrees
  rw [List.mem_map]
  constructor
  · rintro ⟨⟨n, k⟩, h, rfl⟩
    rw [List.mem_filter] at h
    have := beq_iff_eq.mp h.2
    dsimp only at this
    subst this
    exact h.1
  · intro h
    exact ⟨(y, .free), List.mem_filter.mpr ⟨h, rfl⟩, rfl⟩
theorem closure_ok {scope : Scope} {env : Env} (H : ∀ y ∈ innerFrees scope, ∃ a, env.cells.lookup y = some a) :
    ∃ cl, closureFor scope env = pure cl ∧ ∀ y, cl.lookup y = if y ∈ innerFrees scope then env.cells.lookup y else none := by
  obtain ⟨cl, e, hl⟩ := closure_loop (env := env) (fun p r => if (p.2 == NameKind.free) = true then (do let a ← cellOf env p.1; pure (ForInStep.yield ((p.1, a) :: r))) else pure (ForInStep.yield r)) (fun p l => rfl) scope.names [] (fun y hy => H y (mem_frees.mpr hy))
  refine ⟨cl, ?_, fun y => ?_⟩
  · unfold closureFor
    have : (forIn (m := Sem) scope.names ([] : List (Str × Addr)) (fun p r => if (p.2 == NameKind.free) = true then (do let a ← cellOf env p.1; pure (ForInStep.yield ((p.1, a) :: r))) else pure (ForInStep.yield r)) >>= fun cs => pure cs) = pure cl := by rw [e]; rfl
    exact this
  · rw [hl y]
    simp only [mem_frees]
    split <;> rfl

/-! ### the own block -/
structure Fine (c : SC) (scope : Scope) (iter : Expr) : Prop where
  kind : scope.kind = .function
  set : ∀ env x, foldedSetIterable iter env x = pure x
  nocell : ∀ p ∈ scope.names, p.2 ≠ .cell
  outer : ∀ y ∈ innerFrees scope, c.kd y = some .cell ∨ c.kd y = some .free
  nodup : (innerLocals scope ++ innerFrees scope).Nodup
  dbg : scope.names.lookup (Str.ofString "__debug__") = none
  cld : scope.names.lookup (Str.ofString "__classdict__") = none
  locs : ∀ p ∈ scope.names, p.2 = .local → scope.names.lookup p.1 = some .local
  frs : ∀ y ∈ innerFrees scope, scope.names.lookup y = some .free
  ins : ∀ y ∈ innerLocals scope, scope.names.lookup y = some .local
theorem fine_of {c : SC} {scope : Scope} {iter : Expr} (h : compFine c scope iter = true) : Fine c scope iter := by
  unfold compFine at h
  simp only [Bool.and_eq_true] at h
  obtain ⟨⟨⟨⟨⟨⟨⟨⟨⟨h1, h2⟩, h3⟩, h4⟩, h5⟩, h6⟩, h7⟩, h8⟩, h9⟩, h10⟩ := h
  refine ⟨beq_iff_eq.mp h1, ?_, ?_, ?_, of_decide_eq_true h5, ?_, ?_, ?_, ?_, ?_⟩
  · intro env x
    cases iter <;> first | rfl | cases h2
  · intro p hp
    have := List.all_eq_true.mp h3 p hp
    simpa using this
  · intro y hy
    have := List.all_eq_true.mp h4 y hy
    rw [Bool.or_eq_true] at this
    exact this.imp beq_iff_eq.mp beq_iff_eq.mp
  · exact Option.isNone_iff_eq_none.mp h6
  · exact Option.isNone_iff_eq_none.mp h7
  · intro p hp hk
    have := List.all_eq_true.mp h8 p hp
    rw [Bool.or_eq_true] at this
    rcases this with h | h
    · rw [hk] at h; cases h
    · exact beq_iff_eq.mp h
  · intro y hy
    exact beq_iff_eq.mp (List.all_eq_true.mp h9 y hy)
  · intro y hy
    exact beq_iff_eq.mp (List.all_eq_true.mp h10 y hy)

section
variable {x : Cx} {C : CallT} {n : Nat} {env : Env} {c : SC}

noncomputable def SC.inner (c : SC) (scope : Scope) : SC := { c with kd := innerKd scope, sl := innerLocals scope ++ innerFrees scope }

theorem inner_env {scope : Scope} {iter : Expr} {cl : List (Str × Addr)} {L : Addr} (S : SEnv x.h₀ env c) (Fi : Fine c scope iter) (hcl : ∀ y, cl.lookup y = if y ∈ innerFrees scope then env.cells.lookup y else none) (h0 : x.h₀.get? L = none)
    (hne : ∀ y a, env.cells.lookup y = some a → a ≠ L) : SEnv x.h₀ (compEnvC scope cl L env) (c.inner scope) := by
  have low : ∀ y, (compEnvC scope cl L env).kindOf y = (scope.names.lookup y).map fun k => if (k == NameKind.free && env.scope.kind == .function && env.kindOf y == some .cell) = true then NameKind.cell else k := relabel_lookup scope env
  have sub : ∀ y a, cl.lookup y = some a → env.cells.lookup y = some a := fun y a h => by
    rw [hcl y] at h
    split at h
    · exact h
    · cases h
  have nc : ∀ y, scope.names.lookup y ≠ some .cell := fun y h => Fi.nocell _ (lookup_mem h) rfl
  constructor
  · exact Fi.kind
  · exact S.glob
  · exact S.bi
  · intro y h
    rw [low, show scope.names.lookup y = some .local from h]; rfl
  · intro y h
    exact absurd h (nc y)
  · intro y h
    rw [low, show scope.names.lookup y = some .free from h, Option.map_some]
    split
    · exact .inr rfl
    · exact .inl rfl
  · intro y h
    rw [low, show scope.names.lookup y = some .globalImplicit from h]; rfl
  · exact Fi.nodup
  · intro y y' a h h'
    exact S.inj y y' a (sub y a h) (sub y' a h')
  · intro y a h
    exact hne y a (sub y a h)
  · exact h0
  · intro y a h
    exact S.c0 y a (sub y a h)
  · intro y h
    exact absurd h (nc y)
  · intro y h
    have hm : y ∈ innerFrees scope := mem_frees.mpr (lookup_mem h)
    obtain ⟨a, ha⟩ : ∃ a, env.cells.lookup y = some a := by
      rcases Fi.outer y hm with q | q
      · exact S.cs y q
      · exact S.csf y q
    refine ⟨a, ?_⟩
    show cl.lookup y = _
    rw [hcl y, if_pos hm, ha]
  · exact Fi.dbg
  · exact Fi.cld

theorem slotAll_get : ∀ {l : List Str} {is : List Nat} {j : Nat} {y : Str}, slotAll c l = some is → l[j]? = some y → ∃ i, is[j]? = some i ∧ c.slot y = some i
  | [], _, _, _, _, h => by cases h
  | z :: l, is, j, y, hs, h => by
    unfold slotAll at hs
    split at hs
    · rename_i i is' h1 h2
      cases hs
      cases j with
      | zero => cases h; exact ⟨i, rfl, h1⟩
      | succ j =>
        obtain ⟨i', h3, h4⟩ := slotAll_get (j := j) h2 (by simpa using h)
        exact ⟨i', by simpa using h3, h4⟩
    · cases hs
theorem slotAll_len : ∀ {l : List Str} {is : List Nat}, slotAll c l = some is → is.length = l.length
  | [], is, h => by cases h; rfl
  | z :: l, is, h => by
    unfold slotAll at h
    split at h
    · rename_i i is' h1 h2
      cases h
      simp [slotAll_len h2]
    · cases h

theorem inner_frame {scope : Scope} {iter : Expr} {cl : List (Str × Addr)} {L : Addr} {fr : List Nat} {ve : VEnv} {h : Heap} {ρ : List Addr} (S : SEnv x.h₀ env c) (Fi : Fine c scope iter) (hcl : ∀ y, cl.lookup y = if y ∈ innerFrees scope then env.cells.lookup y else none)
    (F : FOk h ρ env c.sl ve) (hfr : slotAll c (innerFrees scope) = some fr) (hn : h.Ns L (fun _ => none)) :
    FOk h ρ (compEnvC scope cl L env) (c.inner scope).sl (List.replicate (innerLocals scope).length none ++ fr.map fun i => getVar ve i) := by
  obtain ⟨m, cm, F⟩ := F
  have low : ∀ y, (compEnvC scope cl L env).kindOf y = (scope.names.lookup y).map fun k => if (k == NameKind.free && env.scope.kind == .function && env.kindOf y == some .cell) = true then NameKind.cell else k := relabel_lookup scope env
  have sub : ∀ y a, cl.lookup y = some a → env.cells.lookup y = some a := fun y a h => by
    rw [hcl y] at h
    split at h
    · exact h
    · cases h
  refine ⟨_, cm, hn, fun y a ha => F.cell y a (sub y a ha), ?_, fun i y d hi hd => ?_⟩
  · show (innerLocals scope ++ innerFrees scope).length = _
    simp [slotAll_len hfr]
  · have hi' : (innerLocals scope ++ innerFrees scope)[i]? = some y := hi
    by_cases hlt : i < (innerLocals scope).length
    · rw [List.getElem?_append_left (by simpa using hlt), List.getElem?_replicate, if_pos hlt] at hd
      cases hd
    · rw [List.getElem?_append_right (by simpa using hlt)] at hd
      rw [List.getElem?_append_right (by simpa using hlt)] at hi'
      obtain ⟨q, hq, hsl⟩ := slotAll_get hfr hi'
      simp only [List.length_replicate, List.getElem?_map, hq, Option.map_some, Option.some.injEq] at hd
      have hy : y ∈ innerFrees scope := List.mem_of_getElem? hi'
      obtain ⟨hk, hs⟩ := SC.slot_spec hsl
      obtain ⟨v, r, z⟩ := F.var q y d hs (getVar_spec hd)
      refine ⟨v, r, .inr ?_⟩
      have hkind : env.kindOf y = some .cell ∨ env.kindOf y = some .free := by
        rcases Fi.outer y hy with q | q
        · exact .inl (S.kdc y q)
        · exact (S.kdf y q).symm
      have hz : (∃ a, env.cells.lookup y = some a) ∧ cm y = some v := by
        rcases z with ⟨kl, _⟩ | ⟨_, z⟩
        · rcases hkind with q | q <;> · rw [q] at kl; cases kl
        · exact z
      obtain ⟨⟨a, ha⟩, hcm⟩ := hz
      refine ⟨?_, ⟨a, ?_⟩, hcm⟩
      · rw [low, Fi.frs y hy, Option.map_some]
        split
        · exact .inl rfl
        · exact .inr rfl
      · show cl.lookup y = _
        rw [hcl y, if_pos hy, ha]

theorem comp_core {elt target iter : Expr} {ifs : List Expr} {scope : Scope} {pos : Pos} {pelt pit : PE} {pifs : PEs} {t : Tgt} {fr : List Nat} {ve : VEnv} {σ σ' : Sto} {d : D} {A : Around} {s : Shared} {ρ : List Addr} {E : Value → Shared → Prop}
    {RR : Value → Addr → Result → Shared → Prop} {cl : List (Str × Addr)}
    (O : x.Ok) (S : SEnv x.h₀ env c) (Fi : Fine c scope iter) (HI : EOK x C n env c iter pit)
    (HE : ∀ cenv, SEnv x.h₀ cenv (c.inner scope) → EOK x C n cenv (c.inner scope) elt pelt) (HQ : ∀ cenv, SEnv x.h₀ cenv (c.inner scope) → QOK x C n cenv (c.inner scope) ifs pifs)
    (ht : tgtOf (c.inner scope) target = some t) (hfr : slotAll c (innerFrees scope) = some fr) (hcl : ∀ y, cl.lookup y = if y ∈ innerFrees scope then env.cells.lookup y else none)
    (hp : peval x.T C (.comp pelt (innerLocals scope).length fr t pit pifs) ve σ = some (d, σ')) (hA : AOk A n) (W : Wd x.h₀ s.heap ρ σ) (F : FOk s.heap ρ env c.sl ve)
    (hRR : ∀ v L m ρ' h' tk, h'.Ns L m → s.heap.get? L = none → L ∉ ρ' → Wd x.h₀ h' ρ' σ' → St noX ρ s.heap ρ' h' → Rep h' ρ' d v → RR v L (.ok .next) { s with heap := h', toks := tk }) :
    wpAny (model x.prog x.w) A (eval iter env) (fun xv s₁ => wpAny (model x.prog x.w) A (pyIter xv) (fun it s₂ => wpAny (model x.prog x.w) A (newList []) (fun acc s₃ =>
      wpAny (model x.prog x.w) A (newFunctionEnv scope env.globals cl [] env.qual none .none (some env)) (fun cenv s₄ =>
        codeAny (model x.prog x.w) A (.compStart (.ListComp elt [⟨target, iter, ifs, 0⟩] scope pos) 0 it acc { cenv with scope := relabel scope env }) (RR acc cenv.locals) s₄) E s₃) E s₂) E s₁) E s := by
  simp only [Zk, Zq, Z03, Zt, Zz, Z01, Zo, Zi, Zy, Zx, Zw, Zs, Zm, Zn, Zl, Zu, Zj, Zr, Z00, Z02, Zv, Zp] at hp
  split at hp
  case h_2 => cases hp
  rename_i src σ₁ h1
  split at hp
  case h_2 => cases hp
  rename_i all hall
  split at hp
  case h_2 => cases hp
  rename_i σ₂ hloop
  simp only [Option.some.injEq, Prod.mk.injEq] at hp
  obtain ⟨rfl, rfl⟩ := hp
  refine HI ve σ src σ₁ h1 A hA s ρ _ E W F fun sv ρ₁ h₁ t₁ W₁ S₁ r₁ => ?_
  refine iter_make (s := { s with heap := h₁, toks := t₁ }) W₁ r₁ hall fun it h₂ hfit hk₂ I₂ => ?_
  obtain ⟨W₂, S₂⟩ := W₁.grow hk₂
  have F₂ : FOk h₂ ρ₁ env c.sl ve := (F.mono W S₁).mono W₁ S₂
  refine wpAny_newList ?_
  obtain ⟨W₃, S₃⟩ := W₂.newList (ds := []) (vs := []) (h' := h₂.push { cls := .type "list", data := .seq #[] }) (a := h₂.objs.size) (fun _ _ e => Heap.get?_push_of_some _ e) (fresh_none _) ⟨0, Heap.get?_push_size _ rfl⟩ RepL.nil
  have F₃ := F₂.mono W₂ S₃
  have I₃ := IterAt.mono I₂ W₂ (xok_none _) (fun q => q.elim) S₃
  refine wpAny_newFunctionEnv (fun p hp => Fi.nocell p hp) (fun p hp => nomatch hp) (fun h₄ hns₄ hsb₄ => ?_) Fi.kind
  -- the new block's place
  generalize hH₃ : h₂.push { cls := .type "list", data := .seq #[] } = h₃ at *
  have hns₅ : h₄.Ns h₃.objs.size (fun x => List.lookup x ([] : List (Str × Value)).reverse) := hns₄
  have hsb₅ : Heap.SameBut h₃.objs.size (h₃.push { cls := .type (if (some env).isSome then "dict" else "frame"), data := .dict #[] }) h₄ := hsb₄
  clear hns₄ hsb₄
  show codeAny (model x.prog x.w) A (.compStart (.ListComp elt [⟨target, iter, ifs, 0⟩] scope pos) 0 (.ref it) (.ref h₂.objs.size) (compEnvC scope cl h₃.objs.size env)) (RR (.ref h₂.objs.size) h₃.objs.size) { s with heap := h₄, toks := t₁ + ([] : List (Str × Value)).length }
  generalize hL : h₃.objs.size = L at *
  have hLfresh : h₃.get? L = none := by rw [← hL]; exact fresh_none _
  have hk₄ : ∀ b o, h₃.get? b = some o → h₄.get? b = some o := fun b o e => by
    refine (hsb₅.2 b fun q => ?_).trans (Heap.get?_push_of_some _ e)
    rw [q, hLfresh] at e; cases e
  obtain ⟨W₄, S₄⟩ := W₃.grow hk₄
  have F₄ := F₃.mono W₃ S₄
  have I₄ := IterAt.mono I₃ W₃ (xok_none _) (fun q => q.elim) S₄
  have old3 : ∀ b o, s.heap.get? b = some o → b ∉ ρ → h₃.get? b = some o := fun b o e hb => by
    have e1 := S₁.keep b o hb id e
    have e2 := hk₂ b o e1
    rw [← hH₃]
    exact Heap.get?_push_of_some _ e2
  have S03 : St noX ρ s.heap (ρ₁ ++ [h₂.objs.size]) h₃ := St.trans W₂ (xok_none _) (St.trans W₁ (xok_none _) S₁ S₂) S₃
  have S04 : St noX ρ s.heap (ρ₁ ++ [h₂.objs.size]) h₄ := St.trans W₃ (xok_none _) S03 S₄
  have fresh : ∀ a, h₃.get? a = none → s.heap.get? a = none := fun a ha => by
    cases e : s.heap.get? a with
    | none => rfl
    | some o =>
      by_cases hm : a ∈ ρ
      · have : a ∈ ρ₁ ++ [h₂.objs.size] := by
          obtain ⟨new, e', _⟩ := S03.ext
          rw [e']; exact List.mem_append_left _ hm
        obtain ⟨o', e', _⟩ := W₃.there this
        rw [ha] at e'; cases e'
      · rw [old3 a o e hm] at ha; cases ha
  have hL0 : s.heap.get? L = none := fresh L hLfresh
  have h0L : x.h₀.get? L = none := by
    cases e : x.h₀.get? L with
    | none => rfl
    | some o => rw [W₃.keep0 L o e] at hLfresh; cases hLfresh
  have hit0 : s.heap.get? it = none := by
    cases e : s.heap.get? it with
    | none => rfl
    | some o =>
      have hfit : h₁.get? it = none := hfit
      by_cases hm : it ∈ ρ
      · have : it ∈ ρ₁ := by
          obtain ⟨new, e', _⟩ := S₁.ext
          rw [e']; exact List.mem_append_left _ hm
        obtain ⟨o', e', _⟩ := W₁.there this
        rw [hfit] at e'; cases e'
      · rw [S₁.keep it o hm id e] at hfit; cases hfit
  have h0it : x.h₀.get? it = none := by
    cases e : x.h₀.get? it with
    | none => rfl
    | some o => rw [W.keep0 it o e] at hit0; cases hit0
  have celln : ∀ y a, env.cells.lookup y = some a → a ≠ L := fun y a ha e => by
    obtain ⟨m, cm, F'⟩ := F
    obtain ⟨o, ho, _⟩ := F'.cell y a ha
    rw [e, hL0] at ho; cases ho
  have SI := inner_env (L := L) (cl := cl) S Fi hcl h0L celln
  have hns₄' : h₄.Ns L (fun _ => none) := by
    have e : (fun x => List.lookup x ([] : List (Str × Value)).reverse) = fun _ => none := rfl
    rw [e] at hns₅
    exact hns₅
  have FI := inner_frame (L := L) (cl := cl) S Fi hcl F₄ hfr hns₄'
  have hitX : ¬ XA (compEnvC scope cl L env) it := by
    rintro (e | ⟨y, hy⟩)
    · have e : it = L := e
      obtain ⟨o, _, ho, _⟩ := I₃.there
      rw [e, hLfresh] at ho; cases ho
    · have hy : cl.lookup y = some it := hy
      rw [hcl y] at hy
      split at hy
      · obtain ⟨m, cm, F'⟩ := F
        obtain ⟨o, ho, _⟩ := F'.cell y it hy
        rw [hit0] at ho; cases ho
      · cases hy
  have hacc : (ρ₁ ++ [h₂.objs.size])[σ₁.length]? = some h₂.objs.size := by
    rw [← W₁.len, List.getElem?_append_right (Nat.le_refl _)]
    simp
  have hall₄ : itemsOf src (σ₁ ++ [[]]) = some all := by
    cases src with
    | ref q =>
      have e : σ₁[q]? = some all := hall
      show (σ₁ ++ [[]])[q]? = some all
      rw [List.getElem?_append_left (List.getElem?_eq_some_iff.mp e).1]
      exact e
    | _ => exact hall
  have key : codeAny (model x.prog x.w) A (.compLoop (.ListComp elt [⟨target, iter, ifs, 0⟩] scope pos) 0 (.ref it) (.ref h₂.objs.size) (compEnvC scope cl L env)) (RR (.ref h₂.objs.size) L) { s with heap := h₄, toks := t₁ + ([] : List (Str × Value)).length } := by
    refine comp_turns SI (HE _ SI) (HQ _ SI) ht hA h0it hitX (fun y h => Fi.nocell _ (lookup_mem h) rfl) all 0 _ _ { s with heap := h₄, toks := t₁ + ([] : List (Str × Value)).length } (ρ₁ ++ [h₂.objs.size]) hloop rfl W₄ FI I₄ hall₄ hacc ?_
    intro ρ' h' tk m W' S' hn' hr'
    have xok4 : XOk (fun a => a = it ∨ a = L) h₄ := by
      rintro a (rfl | rfl)
      · obtain ⟨o, n, e, nd, _⟩ := I₄.there
        exact ⟨o, e, nd⟩
      · exact ns_not (env := compEnvC scope cl a env) hns₄'
    have S0' : St noX ρ s.heap ρ' h' := by
      refine St.drop (X := fun a => a = it ∨ a = L) (St.trans W₄ xok4 (S04.weaken fun a ha => ha.elim) S') ?_
      rintro a (rfl | rfl)
      · exact hit0
      · exact hL0
    refine hRR (.ref h₂.objs.size) L m ρ' h' tk hn' hL0 (fun hm => ?_) W' S0' ?_
    · obtain ⟨o, e, hd⟩ := W'.there hm
      obtain ⟨o', e', nd⟩ := ns_not (env := compEnvC scope cl L env) hn'
      have e' : h'.get? L = some o' := e'
      rw [e] at e'; cases e'; exact nd hd
    · unfold Rep
      exact ⟨_, rfl, hr'⟩
  refine codeAny_compStart_list key ?_
  exact iter_self (s := { s with heap := h₄, toks := t₁ + ([] : List (Str × Value)).length }) I₄ key
end
end Mine
end

section
open PySem PySem.W PyProof.Rows
namespace Mine
section
variable {x : Cx} {C : CallT} {n : Nat} {env : Env} {c : SC}

theorem comp_done {h₀ h h' h'' : Heap} {ρ ρ' : List Addr} {σ' : Sto} {L : Addr} {m : Str → Option Value} {d : D} {v : Value} (hn : h'.Ns L m) (hL : h.get? L = none) (h0 : ∀ a o, h₀.get? a = some o → h.get? a = some o) (W' : Wd h₀ h' ρ' σ') (S' : St noX ρ h ρ' h') (r : Rep h' ρ' d v)
    (hsb : Heap.SameBut L h' h'') : Wd h₀ h'' ρ' σ' ∧ St noX ρ h ρ' h'' ∧ Rep h'' ρ' d v := by
  have xok : XOk (fun a => a = L) h' := by
    rintro a rfl
    obtain ⟨o, es, ep, ho, hd, _⟩ := hn
    refine ⟨o, ho, fun q => ?_⟩
    rcases q with ⟨vs, n, e⟩ | ⟨_, vs, e⟩ <;> · rw [hd] at e; cases e
  have x0 : ∀ a, a = L → h₀.get? a = none := by
    rintro a rfl
    cases e : h₀.get? a with
    | none => rfl
    | some o => rw [h0 a o e] at hL; cases hL
  obtain ⟨W'', S''⟩ := W'.keep xok x0 fun a o hx e => (hsb.2 a hx).trans e
  refine ⟨W'', ?_, Rep.mono S'' xok _ _ r⟩
  exact St.drop (X := fun a => a = L) (St.trans W' xok (S'.weaken fun a ha => ha.elim) S'') (by rintro a rfl; exact hL)

theorem comp_run {elt target iter : Expr} {ifs : List Expr} {scope : Scope} {pos : Pos} {pelt pit : PE} {pifs : PEs} {t : Tgt} {fr : List Nat} {use : Option (Value → Sem Unit)}
    {ve : VEnv} {σ σ' : Sto} {d : D} {A : Around} {s : Shared} {ρ : List Addr} {E : Value → Shared → Prop} {Q : Value → Shared → Prop}
    (O : x.Ok) (S : SEnv x.h₀ env c) (hf : compFine c scope iter = true) (HI : EOK x C n env c iter pit)
    (HE : ∀ cenv, SEnv x.h₀ cenv (c.inner scope) → EOK x C n cenv (c.inner scope) elt pelt) (HQ : ∀ cenv, SEnv x.h₀ cenv (c.inner scope) → QOK x C n cenv (c.inner scope) ifs pifs)
    (ht : tgtOf (c.inner scope) target = some t) (hfr : slotAll c (innerFrees scope) = some fr)
    (hp : peval x.T C (.comp pelt (innerLocals scope).length fr t pit pifs) ve σ = some (d, σ')) (hA : AOk A n) (W : Wd x.h₀ s.heap ρ σ) (F : FOk s.heap ρ env c.sl ve)
    (hQ : ∀ v L m ρ' h' tk, h'.Ns L m → s.heap.get? L = none → L ∉ ρ' → Wd x.h₀ h' ρ' σ' → St noX ρ s.heap ρ' h' → Rep h' ρ' d v → compPost (model x.prog x.w) A E use Q v L (.ok .next) { s with heap := h', toks := tk }) :
    wpAny (model x.prog x.w) A (comprehension (.ListComp elt [⟨target, iter, ifs, 0⟩] scope pos) scope env iter.pos (newList []) false (eval iter env) use) Q E s := by
  have Fi := fine_of hf
  obtain ⟨cl, hclos, hcl⟩ := closure_ok (scope := scope) (env := env) fun y hy => by
    rcases Fi.outer y hy with q | q
    · exact S.cs y q
    · exact S.csf y q
  refine wpAny_comprehension_free (cl := cl) rfl (fun v => Fi.set env v) hclos Fi.kind Fi.locs ?_
  exact comp_core (RR := fun acc L => compPost (model x.prog x.w) A E use Q acc L) O S Fi HI HE HQ ht hfr hcl hp hA W F hQ

theorem eok_comp {elt target iter : Expr} {ifs : List Expr} {scope : Scope} {pos : Pos} {pelt pit : PE} {pifs : PEs} {t : Tgt} {fr : List Nat}
    (O : x.Ok) (S : SEnv x.h₀ env c) (hf : compFine c scope iter = true) (HI : EOK x C n env c iter pit)
    (HE : ∀ cenv, SEnv x.h₀ cenv (c.inner scope) → EOK x C n cenv (c.inner scope) elt pelt) (HQ : ∀ cenv, SEnv x.h₀ cenv (c.inner scope) → QOK x C n cenv (c.inner scope) ifs pifs)
    (ht : tgtOf (c.inner scope) target = some t) (hfr : slotAll c (innerFrees scope) = some fr) :
    EOK x C n env c (.ListComp elt [⟨target, iter, ifs, 0⟩] scope pos) (.comp pelt (innerLocals scope).length fr t pit pifs) := by
  intro ve σ d σ' hp A hA s ρ Q E W F B
  rw [eval_ListComp]
  refine comp_run (use := none) O S hf HI HE HQ ht hfr hp hA W F ?_
  intro v L m ρ' h' tk hn hL hL' W' S' r
  refine ⟨m, hn, fun h'' hsb => ?_⟩
  obtain ⟨W'', S'', r''⟩ := comp_done hn hL W.keep0 W' S' r hsb
  exact B v ρ' h'' tk W'' S'' r''

theorem comp_set {k : Nat} {es : List Expr} {a : Nat} {p : Pos} : comp c k (.Set es a p) = .bad := by cases k <;> rfl

theorem cm_bin {c : SC} {k : Nat} {l r : Expr} {op : Operator} {p : Pos} : comp c (k + 1) (.BinOp l op r p) = (match bopOf op with | some o => .bin o (comp c k l) (comp c k r) | Option.none => .bad) := rfl
theorem cm_call {c : SC} {k : Nat} {f : Str} {args : List Expr} {q p : Pos} : comp c (k + 1) (.Call (.Name f q) args [] p) = if c.isGlob f && decide (args.length ≤ 20) && args.all (fun e => match e with | .Starred .. => false | _ => true) then
        (match c.fns.findIdx? (· == f) with
        | some i => .call i (toPEs (args.map (comp c k)))
        | Option.none => (match biOf f with | some b => .bi b (toPEs (args.map (comp c k))) | Option.none => .bad))
        else .bad := rfl
noncomputable def methPE (name : Str) (o x : PE) : PE := if name == Str.ofString "join" then .join o x
          else if name == Str.ofString "append" then .append o x
          else if name == Str.ofString "extend" then .extend o x
          else if name == Str.ofString "split" then .split o x
          else .bad
theorem cm_meth {c : SC} {k : Nat} {o x : Expr} {name : Str} {ap p : Pos} : comp c (k + 1) (.Call (.Attribute o name ap) [x] [] p) = if ap.endLine == p.line && (match o with | .Name .. | .Constant .. => true | _ => false) then (match x with
        | .Starred .. => .bad
        | _ => methPE name (comp c k o) (comp c k x)) else .bad := rfl
noncomputable def subPE (c : SC) (k : Nat) (v s : Expr) : PE := match v with
        | .Name x _ => if c.isGlob x && x == c.tab then .tab (comp c k s) else .item (comp c k v) (comp c k s)
        | _ => .item (comp c k v) (comp c k s)
theorem cm_slice {c : SC} {k : Nat} {v : Expr} {lo hi st : Option Expr} {q p : Pos} : comp c (k + 1) (.Subscript v (.Slice lo hi st q) p) = (match boundOf lo, boundOf hi, boundOf st with
        | some a, some b, some d => .slice (comp c k v) a b d
        | _, _, _ => .bad) := rfl
theorem cm_tuple {c : SC} {k : Nat} {es : List Expr} {q : Nat} {p : Pos} : comp c (k + 1) (.Tuple es q p) = if es.all (fun e => match e with | .Starred .. => false | _ => true) then .tup (toPEs (es.map (comp c k))) else .bad := rfl
theorem cm_list {c : SC} {k : Nat} {es : List Expr} {p : Pos} : comp c (k + 1) (.List es p) = if es.all (fun e => match e with | .Starred .. => false | _ => true) then .list (toPEs (es.map (comp c k))) else .bad := rfl
noncomputable def compList (c : SC) (k : Nat) (elt target iter : Expr) (ifs : List Expr) (scope : Scope) : PE := match tgtOf (c.inner scope) target, slotAll c (innerFrees scope), compFine c scope iter with
  | some t, some fr, true => .comp (comp (c.inner scope) k elt) (innerLocals scope).length fr t (comp c k iter) (toPEs (ifs.map (comp (c.inner scope) k)))
  | _, _, _ => .bad
theorem comp_list (c : SC) (k : Nat) (elt : Expr) (gens : List Comprehension) (scope : Scope) (pos : Pos) : comp c (k + 1) (.ListComp elt gens scope pos) = .bad ∨ ∃ target iter ifs, gens = [⟨target, iter, ifs, 0⟩] ∧ comp c (k + 1) (.ListComp elt gens scope pos) = compList c k elt target iter ifs scope := by
  cases gens with
  | nil => exact .inl rfl
  | cons g r =>
    obtain ⟨target, iter, ifs, a⟩ := g
    cases r with
    | cons g' r' =>
      cases a with
      | ofNat a => cases a <;> exact .inl rfl
      | negSucc a => exact .inl rfl
    | nil =>
      cases a with
      | ofNat a =>
        cases a with
        | zero => exact .inr ⟨target, iter, ifs, rfl, rfl⟩
        | succ a => exact .inl rfl
      | negSucc a => exact .inl rfl
theorem comp_parts (c : SC) (k : Nat) (elt target iter : Expr) (ifs : List Expr) (scope : Scope) : compList c k elt target iter ifs scope = .bad ∨ ∃ t fr, tgtOf (c.inner scope) target = some t ∧ slotAll c (innerFrees scope) = some fr ∧ compFine c scope iter = true ∧
    compList c k elt target iter ifs scope = .comp (comp (c.inner scope) k elt) (innerLocals scope).length fr t (comp c k iter) (toPEs (ifs.map (comp (c.inner scope) k))) := by
  unfold compList
  cases tgtOf (c.inner scope) target with
  | none => exact .inl rfl
  | some t =>
    cases slotAll c (innerFrees scope) with
    | none => exact .inl rfl
    | some fr =>
      cases compFine c scope iter with
      | false => exact .inl rfl
      | true => exact .inr ⟨t, fr, rfl, rfl, rfl, rfl⟩

theorem both_ite {e : Expr} {b : Prop} [Decidable b] {u v : PE} (h1 : b → EOK x C n env c e u ∧ TOK x C n env c e u) (h2 : ¬ b → EOK x C n env c e v ∧ TOK x C n env c e v) :
    EOK x C n env c e (if b then u else v) ∧ TOK x C n env c e (if b then u else v) := by
  by_cases hb : b
  · rw [if_pos hb]; exact h1 hb
  · rw [if_neg hb]; exact h2 hb
theorem cmp_bad {e : Expr} {o : COp} {pl : PE} : EOK x C n env c e (.cmp o pl .bad) ∧ TOK x C n env c e (.cmp o pl .bad) := by
  have key : ∀ ve σ, peval x.T C (.cmp o pl .bad) ve σ = none := fun ve σ => by
    simp only [Zk, Zq, Z03, Zt, Zz, Z01, Zo, Zi, Zy, Zx, Zw, Zs, Zm, Zn, Zl, Zu, Zj, Zr, Z00, Z02, Zv, Zp]
    split <;> rfl
  constructor
  · intro ve σ d σ' hp
    rw [key] at hp; cases hp
  · intro ve σ d σ' hp
    rw [key] at hp; cases hp

theorem expr_ok (O : x.Ok) (HC : CallOK x C n) : ∀ (k : Nat) (env : Env) (c : SC) (e : Expr), SEnv x.h₀ env c → SCx x c → EOK x C n env c e (comp c k e) ∧ TOK x C n env c e (comp c k e)
  | 0, env, c, e, S, X => ⟨eok_bad, tok_bad⟩
  | k + 1, env, c, e, S, X => by
    have IH : ∀ e, EOK x C n env c e (comp c k e) := fun e => (expr_ok O HC k env c e S X).1
    have IT : ∀ e, TOK x C n env c e (comp c k e) := fun e => (expr_ok O HC k env c e S X).2
    cases e with
    | Constant v a b => exact ⟨eok_const, tok_of eok_const fun _ => rfl⟩
    | Name y q => exact ⟨eok_name O S X, tok_of (eok_name O S X) fun _ => rfl⟩
    | BoolOp op es p =>
      rcases es with _ | ⟨a, _ | ⟨b, _ | ⟨b', l⟩⟩⟩
      · exact ⟨eok_bad, tok_bad⟩
      · exact ⟨eok_bad, tok_bad⟩
      · cases op with
        | And => exact ⟨eok_and (IH _) (IH _), tok_and (IT _) (IT _)⟩
        | Or => exact ⟨eok_or (IH _) (IH _), tok_or (IT _) (IT _)⟩
      · exact ⟨eok_bad, tok_bad⟩
    | BinOp l op r p =>
      rw [cm_bin]
      cases ho : bopOf op with
      | some o => exact ⟨eok_bin ho (IH _) (IH _), tok_of (eok_bin ho (IH _) (IH _)) fun _ => rfl⟩
      | none => exact ⟨eok_bad, tok_bad⟩
    | UnaryOp op y p => cases op <;> first | exact ⟨eok_not (IH _), tok_not (IT _)⟩ | exact ⟨eok_neg (IH _), tok_of (eok_neg (IH _)) fun _ => rfl⟩ | exact ⟨eok_bad, tok_bad⟩
    | IfExp a b d p => exact ⟨eok_ite (IT _) (IH _) (IH _), tok_ite (IT _) (IT _) (IT _)⟩
    | Compare l ops rs p =>
      rcases ops with _ | ⟨op, _ | ⟨o2, ol⟩⟩
      · exact ⟨eok_bad, tok_bad⟩
      · rcases rs with _ | ⟨r, _ | ⟨r2, rl⟩⟩
        · exact ⟨eok_bad, tok_bad⟩
        · show EOK x C n env c _ (.cmp (copOf op) (comp c k l) (comp c k r)) ∧ TOK x C n env c _ (.cmp (copOf op) (comp c k l) (comp c k r))
          cases hr : behindInMarks op r with
          | false => exact ⟨eok_cmp hr (IH _) (IH _), tok_cmp hr (IH _) (IH _)⟩
          | true =>
            cases r with
            | Set es a q => rw [comp_set]; exact cmp_bad
            | _ => cases hr
        · exact ⟨eok_bad, tok_bad⟩
      · exact ⟨eok_bad, tok_bad⟩
    | Call fn args kws p =>
      cases fn with
      | Name f q =>
        cases kws with
        | cons _ _ => exact ⟨eok_bad, tok_bad⟩
        | nil =>
          rw [cm_call]
          refine both_ite (fun hc => ?_) fun _ => ⟨eok_bad, tok_bad⟩
          rw [Bool.and_eq_true, Bool.and_eq_true] at hc
          obtain ⟨⟨hg, hlen⟩, hst⟩ := hc
          have hst' : args.all notStar = true := hst
          have HS : SOK x C n env c args (toPEs (args.map (comp c k))) := sok_all hst' fun e _ => IH e
          cases hi : c.fns.findIdx? (· == f) with
          | some i =>
            have := eok_call (p := p) (q := q) O S X HC hg hi hst' HS
            exact ⟨this, tok_of this fun _ => rfl⟩
          | none =>
            cases hb : biOf f with
            | some b =>
              have := eok_bi (p := p) (q := q) (C := C) (n := n) O S hg hb hst' HS
              exact ⟨this, tok_of this fun _ => rfl⟩
            | none => exact ⟨eok_bad, tok_bad⟩
      | Attribute o name ap =>
        rcases args with _ | ⟨arg, _ | ⟨a2, al⟩⟩
        · exact ⟨eok_bad, tok_bad⟩
        · cases kws with
          | cons _ _ => exact ⟨eok_bad, tok_bad⟩
          | nil =>
            rw [cm_meth]
            refine both_ite (fun hc => ?_) fun _ => ⟨eok_bad, tok_bad⟩
            rw [Bool.and_eq_true] at hc
            obtain ⟨hl, hb⟩ := hc
            have hb' : plainBase o = true := hb
            by_cases hst : notStar arg = true
            case neg => cases arg <;> first | exact ⟨eok_bad, tok_bad⟩ | exact (hst rfl).elim
            have key : EOK x C n env c (.Call (.Attribute o name ap) [arg] [] p) (methPE name (comp c k o) (comp c k arg)) ∧ TOK x C n env c (.Call (.Attribute o name ap) [arg] [] p) (methPE name (comp c k o) (comp c k arg)) := by
              unfold methPE
              refine both_ite (fun hn => ?_) fun _ => both_ite (fun hn => ?_) fun _ => both_ite (fun hn => ?_) fun _ => both_ite (fun hn => ?_) fun _ => ⟨eok_bad, tok_bad⟩
              · have e : name = Str.ofString "join" := beq_iff_eq.mp hn
                subst e
                have := eok_join (x := x) (C := C) (n := n) (ap := ap) (p := p) hb' hl hst (IH _) (IH _)
                exact ⟨this, tok_of this fun _ => rfl⟩
              · have e : name = Str.ofString "append" := beq_iff_eq.mp hn
                subst e
                have := eok_append (x := x) (C := C) (n := n) (ap := ap) (p := p) hb' hl hst (IH _) (IH _)
                exact ⟨this, tok_of this fun _ => rfl⟩
              · have e : name = Str.ofString "extend" := beq_iff_eq.mp hn
                subst e
                have := eok_extend (x := x) (C := C) (n := n) (ap := ap) (p := p) hb' hl hst (IH _) (IH _)
                exact ⟨this, tok_of this fun _ => rfl⟩
              · have e : name = Str.ofString "split" := beq_iff_eq.mp hn
                subst e
                have := eok_split (x := x) (C := C) (n := n) (ap := ap) (p := p) hb' hl hst (IH _) (IH _)
                exact ⟨this, tok_of this fun _ => rfl⟩
            cases arg <;> first | exact key | cases hst
        · exact ⟨eok_bad, tok_bad⟩
      | _ => exact ⟨eok_bad, tok_bad⟩
    | Subscript v s p =>
      have HI := eok_item (x := x) (C := C) (n := n) (p := p) (IH v) (IH s)
      have key : EOK x C n env c (.Subscript v s p) (subPE c k v s) ∧ TOK x C n env c (.Subscript v s p) (subPE c k v s) := by
        cases v with
        | Name y q =>
          refine both_ite (fun hc => ?_) fun _ => ⟨HI, tok_of HI fun _ => rfl⟩
          rw [Bool.and_eq_true] at hc
          have := eok_tab (C := C) (n := n) (p := p) (q := q) O S X hc.1 (beq_iff_eq.mp hc.2) (IH s)
          exact ⟨this, tok_of this fun _ => rfl⟩
        | _ => exact ⟨HI, tok_of HI fun _ => rfl⟩
      cases s with
      | Slice lo hi st q =>
        rw [cm_slice]
        cases h1 : boundOf lo with
        | none => exact ⟨eok_bad, tok_bad⟩
        | some a =>
          cases h2 : boundOf hi with
          | none => exact ⟨eok_bad, tok_bad⟩
          | some b =>
            cases h3 : boundOf st with
            | none => exact ⟨eok_bad, tok_bad⟩
            | some d =>
              have := eok_slice (x := x) (C := C) (n := n) (p := p) (q := q) h1 h2 h3 (IH v)
              exact ⟨this, tok_of this fun _ => rfl⟩
      | _ => exact key
    | Tuple es q p =>
      rw [cm_tuple]
      refine both_ite (fun hst => ?_) fun _ => ⟨eok_bad, tok_bad⟩
      have hst' : es.all notStar = true := hst
      have := eok_tup (x := x) (C := C) (n := n) (k := q) (p := p) (sok_all hst' fun e _ => IH e)
      exact ⟨this, tok_of this fun _ => rfl⟩
    | List es p =>
      rw [cm_list]
      refine both_ite (fun hst => ?_) fun _ => ⟨eok_bad, tok_bad⟩
      have hst' : es.all notStar = true := hst
      have := eok_list (x := x) (C := C) (n := n) (p := p) (sok_all hst' fun e _ => IH e)
      exact ⟨this, tok_of this fun _ => rfl⟩
    | ListComp elt gens scope p =>
      rcases comp_list c k elt gens scope p with e | ⟨target, iter, ifs, rfl, e⟩
      · rw [e]; exact ⟨eok_bad, tok_bad⟩
      · rw [e]
        rcases comp_parts c k elt target iter ifs scope with e2 | ⟨t, fr, ht, hfr, hfine, e2⟩
        · rw [e2]; exact ⟨eok_bad, tok_bad⟩
        · rw [e2]
          have X' : SCx x (c.inner scope) := ⟨X.fns, X.consts, X.tab⟩
          have := eok_comp (pos := p) (n := n) (C := C) O S hfine (IH iter) (fun cenv SI => (expr_ok O HC k cenv (c.inner scope) elt SI X').1) (fun cenv SI => qok_all (es := ifs) fun e _ => (expr_ok O HC k cenv (c.inner scope) e SI X').2) ht hfr
          exact ⟨this, tok_of this fun _ => rfl⟩
    | _ => exact ⟨eok_bad, tok_bad⟩
end
end Mine
end

section
open PySem PySem.W PyProof.Rows
namespace Mine
noncomputable def FlowRep (h : Heap) (ρ : List Addr) (r : Option D) (f : Flow) : Prop := match r with
  | none => f = .next
  | some d => ∃ v, f = .ret v ∧ Rep h ρ d v
noncomputable def BackF (x : Cx) (c : SC) (env : Env) (ρ : List Addr) (s : Shared) (Q : Flow → Shared → Prop) (r : Option D) (ve' : VEnv) (σ' : Sto) : Prop :=
  ∀ f ρ' h' tk, Wd x.h₀ h' ρ' σ' → St (XE c env) ρ s.heap ρ' h' → FOk h' ρ' env c.sl ve' → FlowRep h' ρ' r f → Q f { s with heap := h', toks := tk }
noncomputable def XOKS (x : Cx) (C : CallT) (n : Nat) (env : Env) (c : SC) (st : Stmt) (ps : PS) : Prop :=
  ∀ ve σ r ve' σ', pexec x.T C ps ve σ = some (r, ve', σ') → ∀ A, AOk A n → ∀ (s : Shared) (ρ : List Addr) Q E, Wd x.h₀ s.heap ρ σ → FOk s.heap ρ env c.sl ve → BackF x c env ρ s Q r ve' σ' → wpAny (model x.prog x.w) A (exec st env) Q E s
noncomputable def BOK (x : Cx) (C : CallT) (n : Nat) (env : Env) (c : SC) (st : List Stmt) (ps : PSs) : Prop :=
  ∀ ve σ r ve' σ', pexecs x.T C ps ve σ = some (r, ve', σ') → ∀ A, AOk A n → ∀ (s : Shared) (ρ : List Addr) Q E, Wd x.h₀ s.heap ρ σ → FOk s.heap ρ env c.sl ve → BackF x c env ρ s Q r ve' σ' → wpAny (model x.prog x.w) A (execs st env) Q E s

section
variable {x : Cx} {C : CallT} {n : Nat} {env : Env} {c : SC}

theorem St.to {X Y : Addr → Prop} {ρ ρ' : List Addr} {h h' : Heap} (S : St X ρ h ρ' h') (hx : ∀ a, X a → Y a ∨ h.get? a = none) : St Y ρ h ρ' h' :=
  ⟨S.ext, fun a o hn hy e => S.keep a o hn (fun q => by
    rcases hx a q with q | q
    · exact hy q
    · rw [q] at e; cases e) e⟩

theorem FlowRep.none {h : Heap} {ρ : List Addr} {f : Flow} (r : FlowRep h ρ Option.none f) : f = .next := r

theorem BackF.after {ρ ρ' : List Addr} {s : Shared} {Q : Flow → Shared → Prop} {r : Option D} {ve' : VEnv} {σ σ' : Sto} {h' : Heap} {tk : Nat} (B : BackF x c env ρ s Q r ve' σ') (W : Wd x.h₀ h' ρ' σ) (xo : XOk (XE c env) h') (S : St (XE c env) ρ s.heap ρ' h') :
    BackF x c env ρ' { s with heap := h', toks := tk } Q r ve' σ' := fun f ρ'' h'' tk' W' S' F' R' => B f ρ'' h'' tk' W' (St.trans W xo S S') F' R'
theorem St.up {ρ ρ' : List Addr} {h h' : Heap} (S : St noX ρ h ρ' h') {X : Addr → Prop} : St X ρ h ρ' h' := S.weaken fun _ q => q.elim

theorem xok_bad {st : Stmt} : XOKS x C n env c st .bad := by
  intro ve σ r ve' σ' hp
  rw [Z09] at hp; cases hp

theorem bok_nil : BOK x C n env c [] .nil := by
  intro ve σ r ve' σ' hp A hA s ρ Q E W F B
  simp only [Z0h, Z0g, Option.some.injEq, Prod.mk.injEq] at hp
  obtain ⟨rfl, rfl, rfl⟩ := hp
  exact wpAny_execs_nil (B .next ρ s.heap s.toks W St.refl F rfl)
theorem bok_cons {st : Stmt} {sts : List Stmt} {ps : PS} {pss : PSs} (H : XOKS x C n env c st ps) (Hs : BOK x C n env c sts pss) : BOK x C n env c (st :: sts) (.cons ps pss) := by
  intro ve σ r ve' σ' hp A hA s ρ Q E W F B
  simp only [Z0h, Z0g] at hp
  split at hp
  case h_2 => cases hp
  rename_i q ve₁ σ₁ h1
  refine wpAny_execs_cons (H ve σ q ve₁ σ₁ h1 A hA s ρ _ E W F fun f ρ₁ h₁ t₁ W₁ S₁ F₁ R₁ => ?_)
  cases q with
  | some d =>
    simp only [Option.some.injEq, Prod.mk.injEq] at hp
    obtain ⟨rfl, rfl, rfl⟩ := hp
    obtain ⟨v, rfl, rv⟩ := R₁
    exact B _ ρ₁ h₁ t₁ W₁ S₁ F₁ ⟨v, rfl, rv⟩
  | none =>
    have := R₁.none
    subst this
    exact Hs ve₁ σ₁ r ve' σ' hp A hA _ ρ₁ Q E W₁ F₁ (B.after W₁ F₁.xoc S₁)
theorem bok_all {f : Stmt → PS} : ∀ {sts : List Stmt}, (∀ st ∈ sts, XOKS x C n env c st (f st)) → BOK x C n env c sts (toPSs (sts.map f))
  | [], _ => bok_nil
  | st :: sts, H => bok_cons (H st (List.mem_cons_self ..)) (bok_all fun e' he => H e' (List.mem_cons_of_mem _ he))

/-! ### the plain ones -/
theorem xok_expr {e : Expr} {pe : PE} {p : Pos} (S : SEnv x.h₀ env c) (hs : swapsWith e none p.line env = pure false) (H : EOK x C n env c e pe) : XOKS x C n env c (.Expr e p) (.expr pe) := by
  intro ve σ r ve' σ' hp A hA s ρ Q E W F B
  simp only [Z09, Z08, Z0e, Z0a, Z0d, Z0b, Z0c, Z0f] at hp
  split at hp
  case h_2 => cases hp
  rename_i d σ₁ h1
  simp only [Option.some.injEq, Prod.mk.injEq] at hp
  obtain ⟨rfl, rfl, rfl⟩ := hp
  refine wpAny_Expr_any (H ve σ d _ h1 A hA s ρ _ E W F fun v ρ₁ h₁ t₁ W₁ S₁ r₁ => B .next ρ₁ h₁ t₁ W₁ S₁.up (F.mono W S₁) rfl) ?_ hs
  unfold interactive
  rw [S.kind]
  rfl
theorem xok_ret {e : Expr} {pe : PE} {p : Pos} (H : EOK x C n env c e pe) : XOKS x C n env c (.Return (some e) p) (.ret pe) := by
  intro ve σ r ve' σ' hp A hA s ρ Q E W F B
  simp only [Z09, Z08, Z0e, Z0a, Z0d, Z0b, Z0c, Z0f] at hp
  split at hp
  case h_2 => cases hp
  rename_i d σ₁ h1
  simp only [Option.some.injEq, Prod.mk.injEq] at hp
  obtain ⟨rfl, rfl, rfl⟩ := hp
  exact wpAny_Return_some (H ve σ d _ h1 A hA s ρ _ E W F fun v ρ₁ h₁ t₁ W₁ S₁ r₁ => B _ ρ₁ h₁ t₁ W₁ S₁.up (F.mono W S₁) ⟨v, rfl, r₁⟩)
theorem xok_if {e : Expr} {pe : PE} {a b : List Stmt} {pa pb : PSs} {p : Pos} (H : TOK x C n env c e pe) (Ha : BOK x C n env c a pa) (Hb : BOK x C n env c b pb) : XOKS x C n env c (.If e a b p) (.ite pe pa pb) := by
  intro ve σ r ve' σ' hp A hA s ρ Q E W F B
  simp only [Z09, Z08, Z0e, Z0a, Z0d, Z0b, Z0c, Z0f] at hp
  split at hp
  case h_2 => cases hp
  rename_i q σ₁ h1
  refine wpAny_If (H ve σ q σ₁ h1 A hA s ρ _ E W F fun ρ₁ h₁ t₁ W₁ S₁ => ?_)
  have F₁ := F.mono W S₁
  cases q with
  | true => simp only [if_true]; exact Ha ve σ₁ r ve' σ' hp A hA _ ρ₁ Q E W₁ F₁ (B.after W₁ F₁.xoc S₁.up)
  | false => simp only [Bool.false_eq_true, if_false]; exact Hb ve σ₁ r ve' σ' hp A hA _ ρ₁ Q E W₁ F₁ (B.after W₁ F₁.xoc S₁.up)
theorem xok_setitem {o i v : Expr} {po pi pv : PE} {q p : Pos} (hs : swapsWith v (some (.Subscript o i q)) p.line env = pure false) (H1 : EOK x C n env c o po) (H2 : EOK x C n env c i pi) (H3 : EOK x C n env c v pv) :
    XOKS x C n env c (.Assign [.Subscript o i q] v p) (.setitem po pi pv) := by
  intro ve σ r ve' σ' hp A hA s ρ Q E W F B
  simp only [Z09, Z08, Z0e, Z0a, Z0d, Z0b, Z0c, Z0f] at hp
  split at hp
  case h_2 => cases hp
  rename_i d σ₁ h1
  split at hp
  case h_2 => cases hp
  rename_i a σ₂ h2
  split at hp
  case h_2 => cases hp
  rename_i k σ₃ h3
  split at hp
  case h_2 => cases hp
  rename_i σ₄ h4
  simp only [Option.some.injEq, Prod.mk.injEq] at hp
  obtain ⟨rfl, rfl, rfl⟩ := hp
  refine wpAny_Assign_Subscript (H3 ve σ d σ₁ h1 A hA s ρ _ E W F fun vd ρ₁ h₁ t₁ W₁ S₁ r₁ => ?_) hs
  have F₁ := F.mono W S₁
  refine H1 ve σ₁ a σ₂ h2 A hA _ ρ₁ _ E W₁ F₁ fun va ρ₂ h₂ t₂ W₂ S₂ r₂ => ?_
  have F₂ := F₁.mono W₁ S₂
  refine H2 ve σ₂ k σ₃ h3 A hA _ ρ₂ _ E W₂ F₂ fun vk ρ₃ h₃ t₃ W₃ S₃ r₃ => ?_
  have F₃ := F₂.mono W₂ S₃
  refine setitem_sound (s := { s with heap := h₃, toks := t₃ }) W₃ (Rep.mono S₃ (xok_none _) _ _ r₂) r₃ (Rep.mono S₃ (xok_none _) _ _ (Rep.mono S₂ (xok_none _) _ _ r₁)) h4 fun h₄ t₄ W₄ S₄ => ?_
  have S04 : St noX ρ s.heap ρ₃ h₄ := St.trans W₃ (xok_none _) (St.trans W₂ (xok_none _) (St.trans W₁ (xok_none _) S₁ S₂) S₃) S₄
  exact B .next ρ₃ h₄ t₄ W₄ S04.up (F₃.mono W₃ S₄) rfl

/-! ### loops -/
theorem for_turns {target : Expr} {body : List Stmt} {pbody : PSs} {t : Tgt} {src : D} {all : List D} {it : Addr} {A : Around} {R : Result → Shared → Prop} {r : Option D} {ve' : VEnv} {σ' : Sto}
    (S : SEnv x.h₀ env c) (HB : BOK x C n env c body pbody) (ht : tgtOf c target = some t) (hA : AOk A n) (h0 : x.h₀.get? it = none) (hit : ¬ XA env it) :
    ∀ (rest : List D) (k : Nat) (ve : VEnv) (σ : Sto) (s : Shared) (ρ : List Addr),
      floop (fun ve' σ' => pexecs x.T C pbody ve' σ') t src all rest ve σ = some (r, ve', σ') → all.drop k = rest → Wd x.h₀ s.heap ρ σ → FOk s.heap ρ env c.sl ve → IterAt s.heap ρ it src k → itemsOf src σ = some all →
      (∀ f ρ' h' tk, Wd x.h₀ h' ρ' σ' → St (fun a => a = it ∨ XE c env a) ρ s.heap ρ' h' → FOk h' ρ' env c.sl ve' → FlowRep h' ρ' r f → R (.ok f) { s with heap := h', toks := tk }) →
      codeAny (model x.prog x.w) A (.forLoop target (.ref it) body [] env) R s
  | rest, k, ve, σ, s, ρ, hc, hdr, W, F, I, hi, hR => by
    refine codeAny_of_tree ?_
    rw [Around.under_of_weight rfl]
    show wpAny _ A ((forTurn target (.ref it) body [] env).onRaise (fun x => do noteFrame x env; theTreesLotGoes x)) _ _ s
    refine wpAny_noted ?_
    simp only [forTurn]
    have xok1 : XOk (fun a => a = it) s.heap := fun a ha => by
      obtain ⟨o, n, e, nd, _⟩ := I.there
      exact ⟨o, by rw [ha]; exact e, nd⟩
    have xmix : ∀ {h : Heap} {ρ : List Addr} {ve : VEnv} {k : Nat}, IterAt h ρ it src k → FOk h ρ env c.sl ve → XOk (fun a => a = it ∨ XE c env a) h := by
      intro h ρ ve k I F a ha
      rcases ha with rfl | ha
      · obtain ⟨o, n, e, nd, _⟩ := I.there
        exact ⟨o, e, nd⟩
      · exact F.xoc a ha
    cases rest with
    | nil =>
      simp only [fl_nil, fl_cons, Option.some.injEq, Prod.mk.injEq] at hc
      obtain ⟨rfl, rfl, rfl⟩ := hc
      have hend : all[k]? = none := by
        rw [List.getElem?_eq_none_iff]
        have := congrArg List.length hdr
        simp only [List.length_drop, List.length_nil] at this
        omega
      refine wpAny_bind (wpAny_standAt (wpAny_bind (wpAny_onRaise (iter_end hA.handled W I hi hend fun h' hk => ?_))))
      obtain ⟨W', S'⟩ := iter_same (h' := h') W I h0 hk
      refine wpAny_pure ⟨rfl, codeAny_block (wpAny_execs_nil ?_)⟩
      exact hR .next ρ h' s.toks W' (S'.weaken fun a ha => .inl ha) (F.mono' W xok1 (fun a ha e => hit (e ▸ ha)) S') rfl
    | cons d rest =>
      have hget : all[k]? = some d := by
        have := congrArg (fun l => l[0]?) hdr
        simpa using this
      have hdr' : all.drop (k + 1) = rest := by
        have := congrArg List.tail hdr
        simpa using this
      refine wpAny_bind (wpAny_standAt (wpAny_bind (wpAny_onRaise (iter_next W I h0 hi hget fun v h₁ t₁ rv I₁ hk₁ => ?_))))
      obtain ⟨W₁, S₁⟩ := iter_same (h' := h₁) W I h0 hk₁
      have F₁ := F.mono' W xok1 (fun a ha e => hit (e ▸ ha)) S₁
      simp only [fl_nil, fl_cons] at hc
      split at hc
      case h_2 => cases hc
      rename_i ve₂ hst
      refine wpAny_bind (let_owned (s := { s with heap := h₁, toks := t₁ }) I₁ ?_)
      refine wpAny_bind (assign_tgt (s := { s with heap := h₁, toks := t₁ }) hA.handled S W₁ F₁ ht hst rv fun h₂ t₂ W₂ S₂ F₂ => ?_)
      have S02 : St (fun a => a = it ∨ XE c env a) ρ s.heap ρ h₂ := St.trans W₁ (xmix I₁ F₁) (S₁.weaken fun a ha => .inl ha) (S₂.weaken fun a ha => .inr ha)
      have I₂ : IterAt h₂ ρ it src (k + 1) := IterAt.mono (X := XE c env) I₁ W₁ F₁.xoc (fun q => hit q.all) S₂
      split at hc
      case h_2 => cases hc
      rename_i q ve₃ σ₃ hbody
      refine wpAny_bind (HB ve₂ σ q ve₃ σ₃ hbody A hA { s with heap := h₂, toks := t₂ } ρ _ _ W₂ F₂ fun f ρ₃ h₃ t₃ W₃ S₃ F₃ R₃ => ?_)
      have I₃ : IterAt h₃ ρ₃ it src (k + 1) := IterAt.mono (X := XE c env) I₂ W₂ F₂.xoc (fun q => hit q.all) S₃
      have S03 : St (fun a => a = it ∨ XE c env a) ρ s.heap ρ₃ h₃ := St.trans W₂ (xmix I₂ F₂) S02 (S₃.weaken fun a ha => .inr ha)
      cases q with
      | some y =>
        simp only [Option.some.injEq, Prod.mk.injEq] at hc
        obtain ⟨rfl, rfl, rfl⟩ := hc
        obtain ⟨v', rfl, rv'⟩ := R₃
        exact wpAny_pure (hR _ ρ₃ h₃ t₃ W₃ S03 F₃ ⟨v', rfl, rv'⟩)
      | none =>
        have := R₃.none
        subst this
        dsimp only at hc
        split at hc
        case isFalse => cases hc
        rename_i hstay
        refine wpAny_pure ⟨rfl, ?_⟩
        refine for_turns S HB ht hA h0 hit rest (k + 1) ve₃ σ₃ { s with heap := h₃, toks := t₃ } ρ₃ hc hdr' W₃ F₃ I₃ (stays_spec hstay hi) ?_
        intro f ρ' h' tk W' S' F' R'
        exact hR f ρ' h' tk W' (St.trans W₃ (xmix I₃ F₃) S03 S') F' R'

theorem xok_for {target iter : Expr} {body : List Stmt} {pit : PE} {pbody : PSs} {t : Tgt} {p : Pos} (S : SEnv x.h₀ env c) (hset : ∀ v, foldedSetIterable iter env v = pure v) (ht : tgtOf c target = some t) (HI : EOK x C n env c iter pit) (HB : BOK x C n env c body pbody) :
    XOKS x C n env c (.For target iter body [] p) (.loop t pit pbody) := by
  intro ve σ r ve' σ' hp A hA s ρ Q E W F B
  simp only [Z09, Z08, Z0e, Z0a, Z0d, Z0b, Z0c, Z0f] at hp
  split at hp
  case h_2 => cases hp
  rename_i src σ₁ h1
  split at hp
  case h_2 => cases hp
  rename_i all hall
  refine wpAny_For (HI ve σ src σ₁ h1 A hA s ρ _ E W F fun sv ρ₁ h₁ t₁ W₁ S₁ r₁ => ?_) hset
  refine iter_make (s := { s with heap := h₁, toks := t₁ }) W₁ r₁ hall fun it h₂ hfit hk₂ I₂ => ?_
  obtain ⟨W₂, S₂⟩ := W₁.grow hk₂
  have F₁ := F.mono W S₁
  have F₂ : FOk h₂ ρ₁ env c.sl ve := F₁.mono W₁ S₂
  have hfit : h₁.get? it = none := hfit
  have h0it : x.h₀.get? it = none := by
    cases e : x.h₀.get? it with
    | none => rfl
    | some o => rw [W₁.keep0 it o e] at hfit; cases hfit
  have hit0 : s.heap.get? it = none := by
    cases e : s.heap.get? it with
    | none => rfl
    | some o =>
      by_cases hm : it ∈ ρ
      · have : it ∈ ρ₁ := by
          obtain ⟨new, e', _⟩ := S₁.ext
          rw [e']; exact List.mem_append_left _ hm
        obtain ⟨o', e', _⟩ := W₁.there this
        rw [hfit] at e'; cases e'
      · rw [S₁.keep it o hm id e] at hfit; cases hfit
  have hitX : ¬ XA env it := fun q => by
    obtain ⟨o, e, _⟩ := F₁.xok it q
    rw [hfit] at e; cases e
  refine for_turns S HB ht hA h0it hitX all 0 ve σ₁ { s with heap := h₂, toks := t₁ } ρ₁ hp rfl W₂ F₂ I₂ hall ?_
  intro f ρ' h' tk W' S' F' R'
  refine B f ρ' h' tk W' ?_ F' R'
  have S02 : St noX ρ s.heap ρ₁ h₂ := St.trans W₁ (xok_none _) S₁ S₂
  have xmix : XOk (fun a => a = it ∨ XE c env a) h₂ := by
    intro a ha
    rcases ha with rfl | ha
    · obtain ⟨o, n, e, nd, _⟩ := I₂.there
      exact ⟨o, e, nd⟩
    · exact F₂.xoc a ha
  refine St.to (X := fun a => a = it ∨ XE c env a) (St.trans W₂ xmix S02.up S') ?_
  rintro a (rfl | ha)
  · exact .inr hit0
  · exact .inl ha

theorem while_turns {test : Expr} {body : List Stmt} {pt : PE} {pbody : PSs} {A : Around} {R : Result → Shared → Prop} {r : Option D} {ve' : VEnv} {σ' : Sto}
    (HT : TOK x C n env c test pt) (HB : BOK x C n env c body pbody) (hA : AOk A n) :
    ∀ (fuel : Nat) (ve : VEnv) (σ : Sto) (s : Shared) (ρ : List Addr),
      wloop (fun ve' σ' => peval x.T C pt ve' σ') (fun ve' σ' => pexecs x.T C pbody ve' σ') fuel ve σ = some (r, ve', σ') → Wd x.h₀ s.heap ρ σ → FOk s.heap ρ env c.sl ve →
      BackF x c env ρ s (fun f s' => R (.ok f) s') r ve' σ' → codeAny (model x.prog x.w) A (.whileLoop test body [] env) R s
  | 0, ve, σ, s, ρ, hc, W, F, hR => by simp [wloop] at hc
  | fuel + 1, ve, σ, s, ρ, hc, W, F, hR => by
    refine codeAny_of_tree ?_
    rw [Around.under_of_weight rfl]
    show wpAny _ A ((whileTurn test body [] env).onRaise (fun x => do noteFrame x env; theTreesLotGoes x)) _ _ s
    refine wpAny_noted ?_
    simp only [whileTurn]
    simp only [wl_S] at hc
    split at hc
    case h_2 => cases hc
    rename_i b σ₁ h1
    refine wpAny_bind (HT ve σ b σ₁ h1 A hA s ρ _ _ W F fun ρ₁ h₁ t₁ W₁ S₁ => ?_)
    have F₁ := F.mono W S₁
    cases b with
    | false =>
      simp only [Bool.false_eq_true, if_false]
      simp only [Option.some.injEq, Prod.mk.injEq] at hc
      obtain ⟨rfl, rfl, rfl⟩ := hc
      exact wpAny_bind (wpAny_execs_nil (wpAny_pure (hR .next ρ₁ h₁ t₁ W₁ S₁.up F₁ rfl)))
    | true =>
      simp only [if_true]
      dsimp only at hc
      split at hc
      case h_2 => cases hc
      rename_i q ve₂ σ₂ h2
      refine wpAny_bind (HB ve σ₁ q ve₂ σ₂ h2 A hA { s with heap := h₁, toks := t₁ } ρ₁ _ _ W₁ F₁ fun f ρ₂ h₂ t₂ W₂ S₂ F₂ R₂ => ?_)
      cases q with
      | some y =>
        simp only [Option.some.injEq, Prod.mk.injEq] at hc
        obtain ⟨rfl, rfl, rfl⟩ := hc
        obtain ⟨v', rfl, rv'⟩ := R₂
        exact wpAny_pure (hR _ ρ₂ h₂ t₂ W₂ (St.trans W₁ F₁.xoc S₁.up S₂) F₂ ⟨v', rfl, rv'⟩)
      | none =>
        have := R₂.none
        subst this
        refine wpAny_pure ⟨rfl, ?_⟩
        refine while_turns HT HB hA fuel ve₂ σ₂ { s with heap := h₂, toks := t₂ } ρ₂ hc W₂ F₂ ?_
        exact BackF.after (s := { s with heap := h₁, toks := t₁ }) (h' := h₂) (tk := t₂) (BackF.after (s := s) (h' := h₁) (tk := t₁) hR W₁ F₁.xoc S₁.up) W₂ F₂.xoc S₂
theorem xok_while {test : Expr} {body : List Stmt} {pt : PE} {pbody : PSs} {p : Pos} (HT : TOK x C n env c test pt) (HB : BOK x C n env c body pbody) : XOKS x C n env c (.While test body [] p) (.while pt pbody) := by
  intro ve σ r ve' σ' hp A hA s ρ Q E W F B
  simp only [Z09, Z08, Z0e, Z0a, Z0d, Z0b, Z0c, Z0f] at hp
  exact wpAny_While (while_turns HT HB hA 20 ve σ s ρ hp W F B)
end
end Mine
end

section
open PySem PySem.W PyProof.Rows
namespace Mine
section
variable {x : Cx} {C : CallT} {n : Nat} {env : Env} {c : SC}

/-! ### the order of stores -/
theorem setVar_set {ve ve' : VEnv} {i : Nat} {d : D} (h : setVar ve i d = some ve') : i < ve.length ∧ ve' = ve.set i (some d) := by
  unfold setVar at h
  split at h
  · cases h; exact ⟨by assumption, rfl⟩
  · cases h
theorem setVars_app : ∀ {is js : List Nat} {ds es : List D} {ve ve₁ ve₂ : VEnv}, setVars ve is ds = some ve₁ → setVars ve₁ js es = some ve₂ → setVars ve (is ++ js) (ds ++ es) = some ve₂
  | [], js, ds, es, ve, ve₁, ve₂, h1, h2 => by
    cases ds with
    | nil => simp only [setVars, Option.some.injEq] at h1; subst h1; exact h2
    | cons => simp [setVars] at h1
  | i :: is, js, ds, es, ve, ve₁, ve₂, h1, h2 => by
    cases ds with
    | nil => simp [setVars] at h1
    | cons d ds =>
      simp only [setVars] at h1
      split at h1
      case h_2 => cases h1
      rename_i ve' h
      show setVars ve (i :: (is ++ js)) (d :: (ds ++ es)) = some ve₂
      simp only [setVars, h]
      exact setVars_app h1 h2
theorem setVars_comm : ∀ {is : List Nat} {ds : List D} {ve ve₁ ve₂ : VEnv} {i : Nat} {d : D}, i ∉ is → setVar ve i d = some ve₁ → setVars ve₁ is ds = some ve₂ → ∃ ve', setVars ve is ds = some ve' ∧ setVar ve' i d = some ve₂
  | [], ds, ve, ve₁, ve₂, i, d, hn, h1, h2 => by
    cases ds with
    | nil => simp only [setVars, Option.some.injEq] at h2; subst h2; exact ⟨ve, rfl, h1⟩
    | cons => simp [setVars] at h2
  | j :: is, ds, ve, ve₁, ve₂, i, d, hn, h1, h2 => by
    cases ds with
    | nil => simp [setVars] at h2
    | cons e ds =>
      simp only [setVars] at h2 ⊢
      split at h2
      case h_2 => cases h2
      rename_i ve₃ h3
      obtain ⟨l1, rfl⟩ := setVar_set h1
      obtain ⟨l3, rfl⟩ := setVar_set h3
      have hne : i ≠ j := fun q => hn (q ▸ List.mem_cons_self ..)
      have l3' : j < ve.length := by simpa using l3
      have e1 : setVar ve j e = some (ve.set j (some e)) := by unfold setVar; rw [if_pos l3']
      have e2 : setVar (ve.set j (some e)) i d = some ((ve.set i (some d)).set j (some e)) := by
        unfold setVar
        rw [if_pos (by simpa using l1), List.set_comm _ _ hne.symm]
      rw [e1]
      exact setVars_comm (fun q => hn (List.mem_cons_of_mem _ q)) e2 h2
theorem setVars_rev : ∀ {is : List Nat} {ds : List D} {ve ve₁ : VEnv}, is.Nodup → setVars ve is ds = some ve₁ → setVars ve is.reverse ds.reverse = some ve₁
  | [], ds, ve, ve₁, _, h => by
    cases ds with
    | nil => exact h
    | cons => simp [setVars] at h
  | i :: is, ds, ve, ve₁, hn, h => by
    cases ds with
    | nil => simp [setVars] at h
    | cons d ds =>
      simp only [setVars] at h
      split at h
      case h_2 => cases h
      rename_i ve₂ h2
      rw [List.nodup_cons] at hn
      obtain ⟨ve', h3, h4⟩ := setVars_comm hn.1 h2 h
      rw [List.reverse_cons, List.reverse_cons]
      refine setVars_app (setVars_rev hn.2 h3) ?_
      simp only [setVars, h4]
theorem setVars_len : ∀ {is : List Nat} {ds : List D} {ve ve₁ : VEnv}, setVars ve is ds = some ve₁ → ds.length = is.length
  | [], ds, ve, ve₁, h => by
    cases ds with
    | nil => rfl
    | cons => simp [setVars] at h
  | i :: is, ds, ve, ve₁, h => by
    cases ds with
    | nil => simp [setVars] at h
    | cons d ds =>
      simp only [setVars] at h
      split at h
      case h_2 => cases h
      simp [setVars_len h]

noncomputable def Own2 (c : SC) : List Str → List Nat → Prop
  | [], is => is = []
  | y :: ys, is => ∃ i is', is = i :: is' ∧ c.own y = some i ∧ Own2 c ys is'
theorem own2_app : ∀ {ys zs : List Str} {is js : List Nat}, Own2 c ys is → Own2 c zs js → Own2 c (ys ++ zs) (is ++ js)
  | [], _, is, _, h, h' => by unfold Own2 at h; subst h; exact h'
  | y :: ys, _, is, _, h, h' => by
    unfold Own2 at h
    obtain ⟨i, is', rfl, h1, h2⟩ := h
    exact ⟨i, _, rfl, h1, own2_app h2 h'⟩
theorem own2_rev : ∀ {ys : List Str} {is : List Nat}, Own2 c ys is → Own2 c ys.reverse is.reverse
  | [], is, h => by unfold Own2 at h; subst h; exact rfl
  | y :: ys, is, h => by
    unfold Own2 at h
    obtain ⟨i, is', rfl, h1, h2⟩ := h
    rw [List.reverse_cons, List.reverse_cons]
    exact own2_app (own2_rev h2) ⟨i, [], rfl, h1, rfl⟩

theorem ownNames_len : ∀ {es : List Expr} {is : List Nat}, ownNames c es = some is → is.length = es.length
  | [], is, h => by unfold ownNames at h; cases h; rfl
  | e :: es, is, h => by
    obtain ⟨y, p, i, is', rfl, h1, h2, rfl⟩ := ownNames_cons h
    simp [ownNames_len h2]
theorem own2_of (g : Expr → Option Str) (hg : ∀ y p, g (.Name y p) = some y ∨ g (.Name y p) = none) : ∀ {es : List Expr} {is : List Nat}, ownNames c es = some is → (es.filterMap g).length = es.length → Own2 c (es.filterMap g) is
  | [], is, h, _ => by unfold ownNames at h; cases h; exact rfl
  | e :: es, is, h, hl => by
    obtain ⟨y, p, i, is', rfl, h1, h2, rfl⟩ := ownNames_cons h
    have hle : (es.filterMap g).length ≤ es.length := List.length_filterMap_le _ _
    rw [List.filterMap_cons] at hl ⊢
    rcases hg y p with q | q
    · rw [q] at hl ⊢
      dsimp only at hl ⊢
      refine ⟨i, is', rfl, h1, own2_of g hg h2 ?_⟩
      simpa using hl
    · rw [q] at hl
      dsimp only at hl
      simp only [List.length_cons] at hl
      omega

theorem bind_each {M : Model} {A : Around} {E : Value → Shared → Prop} {h₀ : Heap} {ρ : List Addr} {σ : Sto} : ∀ {ys : List Str} {is : List Nat} {ds : List D} {vs : List Value} {ve ve' : VEnv} {s : Shared} {Q : Unit → Shared → Prop} (_ : SEnv h₀ env c) (_ : Wd h₀ s.heap ρ σ) (_ : FOk s.heap ρ env c.sl ve) (_ : Own2 c ys is) (_ : setVars ve is ds = some ve') (_ : RepL s.heap ρ ds vs)
    (_ : ∀ h' tk, Wd h₀ h' ρ σ → St (XE c env) ρ s.heap ρ h' → FOk h' ρ env c.sl ve' → Q () { s with heap := h', toks := tk }), wpAny M A (assignInOrder (ys.map fun y => bindName env y) vs) Q E s
  | [], is, ds, vs, ve, ve', s, Q, S, W, F, ho, hv, r, hQ => by
    unfold Own2 at ho
    subst ho
    cases ds with
    | cons d ds => simp [setVars] at hv
    | nil =>
      simp only [setVars, Option.some.injEq] at hv
      subst hv
      show wpAny M A (assignInOrder [] vs) Q E s
      unfold assignInOrder
      exact wpAny_pure (hQ s.heap s.toks W St.refl F)
  | y :: ys, is, ds, vs, ve, ve', s, Q, S, W, F, ho, hv, r, hQ => by
    unfold Own2 at ho
    obtain ⟨i, is', rfl, h1, h2⟩ := ho
    cases ds with
    | nil => simp [setVars] at hv
    | cons d ds =>
      unfold RepL at r
      obtain ⟨v, vs', rfl, r1, r2⟩ := r
      unfold setVars at hv
      split at hv
      · rename_i ve₁ hv1
        show wpAny M A (do holding vs' (bindName env y v); assignInOrder (ys.map fun y => bindName env y) vs') Q E s
        refine wpAny_bind (wpAny_holding ?_)
        have key : wpAny M A (storeName env y v) (fun _ s' => wpAny M A (assignInOrder (ys.map fun y => bindName env y) vs') Q E s') E s := by
          refine store_own S W F h1 hv1 r1 fun h' tk W' S' F' => ?_
          refine bind_each S W' F' h2 hv (RepL.mono S' F.xoc _ _ r2) fun h'' tk' W'' S'' F'' => ?_
          exact hQ h'' tk' W'' (St.trans W' F'.xoc S' S'') F''
        unfold bindName
        refine wpAny_bind (wpAny_holding (wpAny_point ?_))
        exact wpAny_bind (wpAny_mono key (fun _ s' h' => wpAny_point h') fun _ _ e => e)
      · cases hv

noncomputable def SwapTold (ts : List Expr) (m : Sem (Option (List Str))) : Prop := m = pure none ∨ ∃ g : Expr → Option Str, (∀ y p, g (.Name y p) = some y ∨ g (.Name y p) = none) ∧ (ts.filterMap g).length = ts.length ∧ m = pure (some (ts.filterMap g))
theorem swap_if {ts : List Expr} {b : Prop} [Decidable b] {x y : Sem (Option (List Str))} (h1 : b → SwapTold ts x) (h2 : ¬ b → SwapTold ts y) : SwapTold ts (if b then x else y) := by
  by_cases hb : b
  · rw [if_pos hb]; exact h1 hb
  · rw [if_neg hb]; exact h2 hb
theorem swap_none {ts : List Expr} : SwapTold ts (pure none) := .inl rfl
theorem swap_tup {ts vs : List Expr} {a b : Nat} {p q : Pos} (hf : (vs.all (foldedForSure 8) || !vs.all (constantsAlone 8)) = true) : SwapTold ts (swappedStores [.Tuple ts a p] (.Tuple vs b q) env) := by
  unfold swappedStores
  dsimp only
  refine swap_if (fun _ => swap_none) fun _ => swap_if (fun _ => swap_none) fun _ => swap_if (fun _ => swap_none) fun h3 => swap_if (fun _ => swap_none) fun h4 => swap_if (fun h5 => ?_) fun _ => .inr ⟨_, ?_, ?_, rfl⟩
  · rw [h5, Bool.not_true, Bool.or_false] at hf
    exact absurd hf h4
  · intro y p
    dsimp only
    by_cases hc : (env.kindOf y == some .local && p.line == (Option.map (fun x => x.pos.line) ts.head?).getD 0) = true
    · rw [if_pos hc]; exact .inl rfl
    · rw [if_neg hc]; exact .inr rfl
  · rw [Bool.or_eq_true, not_or] at h3
    have h6 := h3.1
    rw [bne_iff_ne, ne_eq, Classical.not_not] at h6
    exact h6
theorem swapped_cases {t v : Expr} {tg : Tgt} (ht : tgtOf c t = some tg) (hf : swapFine v = true) :
    swappedStores [t] v env = pure none ∨ ∃ ts a p vs b q g, t = .Tuple ts a p ∧ v = .Tuple vs b q ∧ (∀ y p, g (.Name y p) = some y ∨ g (.Name y p) = none) ∧ (ts.filterMap g).length = ts.length ∧ swappedStores [t] v env = pure (some (ts.filterMap g)) := by
  have other : (∀ ts a p vs b q, t = .Tuple ts a p → v = .Tuple vs b q → False) → swappedStores [t] v env = pure none := by
    intro hn
    cases t with
    | Tuple ts a p =>
      cases v with
      | Tuple vs b q => exact (hn _ _ _ _ _ _ rfl rfl).elim
      | _ => rfl
    | Name y p => first | rfl | (cases v <;> rfl)
    | _ => cases ht
  by_cases hb : ∃ ts a p vs b q, t = .Tuple ts a p ∧ v = .Tuple vs b q
  case neg => exact .inl (other fun ts a p vs b q e1 e2 => hb ⟨ts, a, p, vs, b, q, e1, e2⟩)
  obtain ⟨ts, a, p, vs, b, q, rfl, rfl⟩ := hb
  rcases swap_tup (env := env) (ts := ts) (vs := vs) (a := a) (b := b) (p := p) (q := q) hf with h | ⟨g, h1, h2, h3⟩
  · exact .inl h
  · exact .inr ⟨ts, a, p, vs, b, q, g, rfl, rfl, h1, h2, h3⟩

/-! ### the assignment -/
theorem swaps_plain {t v : Expr} {l : Nat} (hl : ∀ a b s p, v ≠ .ListComp a b s p) (hs : ∀ a b s p, v ≠ .SetComp a b s p) (hd : ∀ a b k s p, v ≠ .DictComp a b k s p) (t : Option Expr) : swapsWith v t l env = pure false := by
  cases v <;> first | rfl | (exact absurd rfl (hl _ _ _ _)) | (exact absurd rfl (hs _ _ _ _)) | (exact absurd rfl (hd _ _ _ _ _))

theorem swaps_list {t : Expr} {tg : Tgt} {l : Nat} {a : Expr} {b : List Comprehension} {sc : Scope} {p : Pos} (ht : tgtOf c t = some tg) : ∃ b', swapsWith (.ListComp a b sc p) (some t) l env = pure b' := by
  cases t with
  | Name y q => exact ⟨_, rfl⟩
  | Tuple ts a p => exact ⟨_, rfl⟩
  | _ => cases ht

theorem assign_one {A : Around} {E : Value → Shared → Prop} {t : Expr} {tg : Tgt} (ht : tgtOf c t = some tg) : (assignEach [t] env).map (·.2) = [assign t env] := by
  cases t <;> first | rfl | cases ht

theorem xok_assign_plain {t v : Expr} {tg : Tgt} {pv : PE} {p : Pos} (S : SEnv x.h₀ env c) (ht : tgtOf c t = some tg) (hf : swapFine v = true) (H : EOK x C n env c v pv) {ve : VEnv} {σ : Sto} {r : Option D} {ve' : VEnv} {σ' : Sto}
    (hs : swapsWithSole [t] v p.line env = pure false)
    (hp : pexec x.T C (.assign tg pv) ve σ = some (r, ve', σ')) {A : Around} (hA : AOk A n) {s : Shared} {ρ : List Addr} {Q : Flow → Shared → Prop} {E : Value → Shared → Prop} (W : Wd x.h₀ s.heap ρ σ) (F : FOk s.heap ρ env c.sl ve) (B : BackF x c env ρ s Q r ve' σ') :
    wpAny (model x.prog x.w) A (exec (.Assign [t] v p) env) Q E s := by
  simp only [Z09, Z08, Z0e, Z0a, Z0d, Z0b, Z0c, Z0f] at hp
  split at hp
  case h_2 => cases hp
  rename_i d σ₁ h1
  split at hp
  case h_2 => cases hp
  rename_i ve₁ hst
  simp only [Option.some.injEq, Prod.mk.injEq] at hp
  obtain ⟨rfl, rfl, rfl⟩ := hp
  rw [exec_Assign_arm]
  refine wpAny_bind (wpAny_standAt ?_)
  rw [hs]
  refine wpAny_bind (wpAny_pure ?_)
  rw [if_neg (by decide)]
  refine wpAny_bind (H ve σ d _ h1 A hA s ρ _ E W F fun vd ρ₁ h₁ t₁ W₁ S₁ r₁ => ?_)
  have F₁ := F.mono W S₁
  have fin : ∀ h' tk, Wd x.h₀ h' ρ₁ σ₁ → St (XE c env) ρ₁ h₁ ρ₁ h' → FOk h' ρ₁ env c.sl ve₁ → Q .next { s with heap := h', toks := tk } := fun h' tk W' S' F' => B .next ρ₁ h' tk W' (St.trans W₁ F₁.xoc S₁.up S') F' rfl
  rw [assign_one (A := A) (E := E) ht]
  rcases swapped_cases (env := env) ht hf with e | ⟨ts, a, q, vs, b, q', g, rfl, rfl, hg, hlen, e⟩
  · rw [e]
    refine wpAny_bind (wpAny_pure ?_)
    unfold assignStores
    refine wpAny_bind ?_
    unfold assignAll
    exact assign_tgt (s := { s with heap := h₁, toks := t₁ }) hA.handled S W₁ F₁ ht hst r₁ fun h' tk W' S' F' => wpAny_pure (fin h' tk W' S' F')
  · rw [e]
    refine wpAny_bind (wpAny_pure ?_)
    unfold assignStores
    dsimp only
    refine wpAny_bind (wpAny_rule ?_)
    unfold tgtOf at ht
    dsimp only at ht
    split at ht
    case h_2 => cases ht
    rename_i is his
    split at ht
    case isFalse => cases ht
    rename_i hnd
    cases ht
    unfold store at hst
    cases d with
    | tup ds =>
      dsimp only at hst
      unfold Rep at r₁
      obtain ⟨ad, ws, rfl, hT, hn, hr⟩ := r₁
      have hl : (ts.filterMap g).length = ws.toArray.size := by
        have h5 := setVars_len hst
        have h6 := RepL.length hr
        have h7 : is.length = ts.length := ownNames_len his
        simp only [List.size_toArray]
        omega
      rw [hl]
      refine wpAny_bind (wpAny_unpackItems_tuple hA.handled hT fun h' hx => ?_)
      have hk : ∀ b o, h₁.get? b = some o → h'.get? b = some o := fun b o e => hx b o (Nat.ne_of_lt (Heap.lt_size e)) e
      obtain ⟨W', S'⟩ := W₁.grow hk
      have F' := F₁.mono W₁ S'
      have ho := own2_rev (own2_of g hg his hlen)
      have hv := setVars_rev hnd hst
      refine wpAny_bind (bind_each (s := { s with heap := h', toks := t₁ }) S W' F' ho hv (RepL.reverse (RepL.mono S' (xok_none _) _ _ hr)) fun h'' tk W'' S'' F'' => wpAny_pure ?_)
      exact fin h'' tk W'' (St.trans W' F'.xoc S'.up S'') F''
    | _ => cases hst

theorem xok_assign_comp {t elt target iter : Expr} {ifs : List Expr} {scope : Scope} {pos p : Pos} {tg tc : Tgt} {pelt pit : PE} {pifs : PEs} {fr : List Nat}
    (O : x.Ok) (S : SEnv x.h₀ env c) (ht : tgtOf c t = some tg) (hf : compFine c scope iter = true) (HI : EOK x C n env c iter pit)
    (HE : ∀ cenv, SEnv x.h₀ cenv (c.inner scope) → EOK x C n cenv (c.inner scope) elt pelt) (HQ : ∀ cenv, SEnv x.h₀ cenv (c.inner scope) → QOK x C n cenv (c.inner scope) ifs pifs)
    (htc : tgtOf (c.inner scope) target = some tc) (hfr : slotAll c (innerFrees scope) = some fr)
    (hs : swapsWithSole [t] (.ListComp elt [⟨target, iter, ifs, 0⟩] scope pos) p.line env = pure true) {ve : VEnv} {σ : Sto} {r : Option D} {ve' : VEnv} {σ' : Sto}
    (hp : pexec x.T C (.assign tg (.comp pelt (innerLocals scope).length fr tc pit pifs)) ve σ = some (r, ve', σ')) {A : Around} (hA : AOk A n) {s : Shared} {ρ : List Addr} {Q : Flow → Shared → Prop} {E : Value → Shared → Prop} (W : Wd x.h₀ s.heap ρ σ) (F : FOk s.heap ρ env c.sl ve) (B : BackF x c env ρ s Q r ve' σ') :
    wpAny (model x.prog x.w) A (exec (.Assign [t] (.ListComp elt [⟨target, iter, ifs, 0⟩] scope pos) p) env) Q E s := by
  simp only [Z09, Z08, Z0e, Z0a, Z0d, Z0b, Z0c, Z0f] at hp
  split at hp
  case h_2 => cases hp
  rename_i d σ₁ h1
  split at hp
  case h_2 => cases hp
  rename_i ve₁ hst
  simp only [Option.some.injEq, Prod.mk.injEq] at hp
  obtain ⟨rfl, rfl, rfl⟩ := hp
  rw [exec_Assign_arm]
  refine wpAny_bind (wpAny_standAt ?_)
  rw [hs]
  refine wpAny_bind (wpAny_pure ?_)
  rw [if_pos rfl]
  rw [assign_one (A := A) (E := E) ht]
  refine wpAny_bind ?_
  show wpAny _ A (do let _ ← comprehension (.ListComp elt [⟨target, iter, ifs, 0⟩] scope pos) scope env iter.pos (newList []) false (eval iter env) (some fun v => assignAll v [assign t env])) _ _ s
  refine wpAny_bind (comp_run (use := some fun v => assignAll v [assign t env]) (Q := fun _ s' => wpAny (model x.prog x.w) A (pure ()) (fun _ s'' => wpAny (model x.prog x.w) A (pure Flow.next) Q E s'') E s') O S hf HI HE HQ htc hfr h1 hA W F ?_)
  intro v L m ρ' h' tk hn hL hL' W' S' rv
  show wpAny _ A (assignAll v [assign t env]) _ E _
  unfold assignAll
  have F' := F.mono W S'
  refine assign_tgt (s := { s with heap := h', toks := tk }) hA.handled S W' F' ht hst rv fun h₂ t₂ W₂ S₂ F₂ => ?_
  have hXL : ∀ a, XA env a → a ≠ L := fun a ha e => by
    obtain ⟨o, ho, _⟩ := F.xok a ha
    rw [e, hL] at ho; cases ho
  have hn₂ : h₂.Ns L m := by
    obtain ⟨o, es, ep, e, rr⟩ := hn
    exact ⟨o, es, ep, S₂.keep L o hL' (fun q => hXL L q.all rfl) e, rr⟩
  refine ⟨m, hn₂, fun h₃ hsb => ?_⟩
  have xL : XOk (fun a => a = L) h₂ := by
    rintro a rfl
    obtain ⟨o, es, ep, ho, hd, _⟩ := hn₂
    refine ⟨o, ho, fun q => ?_⟩
    rcases q with ⟨vs, n, e⟩ | ⟨_, vs, e⟩ <;> · rw [hd] at e; cases e
  have x0 : ∀ a, a = L → x.h₀.get? a = none := by
    rintro a rfl
    cases e : x.h₀.get? a with
    | none => rfl
    | some o => rw [W.keep0 a o e] at hL; cases hL
  obtain ⟨W₃, S₃⟩ := W₂.keep (h' := h₃) xL x0 fun a o hx e => (hsb.2 a hx).trans e
  have F₃ := F₂.mono' W₂ xL (fun a ha => hXL a ha) S₃
  have xmix : XOk (fun a => a = L ∨ XE c env a) h₂ := by
    intro a ha
    rcases ha with ha | ha
    · exact xL a ha
    · exact F₂.xoc a ha
  have S03 : St (fun a => a = L ∨ XE c env a) ρ s.heap ρ' h₃ := by
    refine St.trans W₂ xmix ?_ (S₃.weaken fun a ha => .inl ha)
    exact (St.trans W' F'.xoc S'.up S₂).weaken fun a ha => .inr ha
  refine wpAny_pure (wpAny_pure (B .next ρ' h₃ t₂ W₃ (St.to S03 ?_) F₃ rfl))
  rintro a (rfl | ha)
  · exact .inr hL
  · exact .inl ha

noncomputable def asgPS (c : SC) (k : Nat) (t v : Expr) : PS := match tgtOf c t with | some t => if swapFine v then .assign t (comp c k v) else .bad | Option.none => .bad
theorem stmt_ok (O : x.Ok) (HC : CallOK x C n) : ∀ (k : Nat) (st : Stmt), SEnv x.h₀ env c → SCx x c → XOKS x C n env c st (compS c k st)
  | 0, st, S, X => xok_bad
  | k + 1, st, S, X => by
    have IE : ∀ e, EOK x C n env c e (comp c k e) := fun e => (expr_ok O HC k env c e S X).1
    have IT : ∀ e, TOK x C n env c e (comp c k e) := fun e => (expr_ok O HC k env c e S X).2
    have IB : ∀ sts : List Stmt, BOK x C n env c sts (toPSs (sts.map (compS c k))) := fun sts => bok_all fun st _ => stmt_ok O HC k st S X
    have bad : ∀ {e : Expr}, (∃ a b s p, e = .SetComp a b s p) ∨ (∃ a b k s p, e = .DictComp a b k s p) → comp c k e = .bad := by
      rintro e (⟨a, b, s, p, rfl⟩ | ⟨a, b, d, s, p, rfl⟩) <;> cases k <;> rfl
    have evbad : ∀ {e : Expr}, (∃ a b s p, e = .SetComp a b s p) ∨ (∃ a b k s p, e = .DictComp a b k s p) → ∀ ve σ, peval x.T C (comp c k e) ve σ = none := fun h ve σ => by rw [bad h]; simp only [Zk, Zq, Z03, Zt, Zz, Z01, Zo, Zi, Zy, Zx, Zw, Zs, Zm, Zn, Zl, Zu, Zj, Zr, Z00, Z02, Zv, Zp]
    cases st with
    | Expr e p =>
      by_cases hl : ∃ a b s q, e = .ListComp a b s q
      · obtain ⟨a, b, s, q, rfl⟩ := hl
        exact xok_bad
      · have he : compS c (k + 1) (.Expr e p) = .expr (comp c k e) := by cases e <;> first | rfl | exact (hl ⟨_, _, _, _, rfl⟩).elim
        rw [he]
        by_cases hb : (∃ a b s p, e = .SetComp a b s p) ∨ (∃ a b k s p, e = .DictComp a b k s p)
        · intro ve σ r ve' σ' hp
          simp only [Z0a, evbad hb] at hp
          cases hp
        · exact xok_expr S (swaps_plain (t := e) (fun a b s p h => hl ⟨a, b, s, p, h⟩) (fun a b s p h => hb (.inl ⟨a, b, s, p, h⟩)) (fun a b d s p h => hb (.inr ⟨a, b, d, s, p, h⟩)) none) (IE e)
    | Return v p =>
      cases v with
      | none => exact xok_bad
      | some e => exact xok_ret (IE _)
    | Assign ts v p =>
      rcases ts with _ | ⟨t, _ | ⟨t2, tl⟩⟩
      · exact xok_bad
      case cons.cons => exact xok_bad
      by_cases hsub : ∃ o i q, t = .Subscript o i q
      · obtain ⟨o, i, q, rfl⟩ := hsub
        have hs : swapsWith v (some (.Subscript o i q)) p.line env = pure false := by cases v <;> rfl
        exact xok_setitem hs (IE o) (IE i) (IE v)
      have hst : compS c (k + 1) (.Assign [t] v p) = asgPS c k t v := by cases t <;> first | rfl | exact (hsub ⟨_, _, _, rfl⟩).elim
      rw [hst]
      unfold asgPS
      cases htg : tgtOf c t with
      | none => exact xok_bad
      | some tg =>
        by_cases hsw : swapFine v = true
        case neg => dsimp only; rw [if_neg hsw]; exact xok_bad
        dsimp only
        rw [if_pos hsw]
        intro ve σ r ve' σ' hp A hA s ρ Q E W F B
        by_cases hb : (∃ a b s p, v = .SetComp a b s p) ∨ (∃ a b k s p, v = .DictComp a b k s p)
        · simp only [Z09, Z08, Z0e, Z0a, Z0d, Z0b, Z0c, Z0f, evbad hb] at hp
          cases hp
        by_cases hl : ∃ a b s p, v = .ListComp a b s p
        case neg =>
          have hs : swapsWithSole [t] v p.line env = pure false := swaps_plain (t := t) (fun a b s p h => hl ⟨a, b, s, p, h⟩) (fun a b s p h => hb (.inl ⟨a, b, s, p, h⟩)) (fun a b d s p h => hb (.inr ⟨a, b, d, s, p, h⟩)) (some t)
          exact xok_assign_plain S htg hsw (IE v) hs hp hA W F B
        obtain ⟨elt, gens, scope, pos, rfl⟩ := hl
        obtain ⟨b', hb'⟩ := swaps_list (env := env) (l := p.line) (a := elt) (b := gens) (sc := scope) (p := pos) htg
        cases b' with
        | false => exact xok_assign_plain S htg hsw (IE _) hb' hp hA W F B
        | true =>
          cases k with
          | zero =>
            have e : comp c 0 (.ListComp elt gens scope pos) = .bad := rfl
            rw [e] at hp
            simp only [Z09, Z08, Z0e, Z0a, Z0d, Z0b, Z0c, Z0f, Zk, Zq, Z03, Zt, Zz, Z01, Zo, Zi, Zy, Zx, Zw, Zs, Zm, Zn, Zl, Zu, Zj, Zr, Z00, Z02, Zv, Zp] at hp
            cases hp
          | succ k =>
            have X' : SCx x (c.inner scope) := ⟨X.fns, X.consts, X.tab⟩
            rcases comp_list c k elt gens scope pos with e | ⟨target, iter, ifs, rfl, e⟩
            · rw [e] at hp
              simp only [Z09, Z08, Z0e, Z0a, Z0d, Z0b, Z0c, Z0f, Zk, Zq, Z03, Zt, Zz, Z01, Zo, Zi, Zy, Zx, Zw, Zs, Zm, Zn, Zl, Zu, Zj, Zr, Z00, Z02, Zv, Zp] at hp
              cases hp
            · rw [e] at hp
              rcases comp_parts c k elt target iter ifs scope with e2 | ⟨tc, fr, h1, h2, h3, e2⟩
              · rw [e2] at hp
                simp only [Z09, Z08, Z0e, Z0a, Z0d, Z0b, Z0c, Z0f, Zk, Zq, Z03, Zt, Zz, Z01, Zo, Zi, Zy, Zx, Zw, Zs, Zm, Zn, Zl, Zu, Zj, Zr, Z00, Z02, Zv, Zp] at hp
                cases hp
              · rw [e2] at hp
                exact xok_assign_comp O S htg h3 (expr_ok O HC k env c _ S X).1 (fun cenv SI => (expr_ok O HC k cenv (c.inner _) _ SI X').1) (fun cenv SI => qok_all fun e _ => (expr_ok O HC k cenv (c.inner _) e SI X').2) h1 h2 hb' hp hA W F B
    | If t a b p => exact xok_if (IT _) (IB _) (IB _)
    | For t it body orelse p =>
      cases orelse with
      | cons _ _ => exact xok_bad
      | nil =>
        by_cases hset : ∃ a b q, it = .Set a b q
        · obtain ⟨a, b, q, rfl⟩ := hset
          have hf : compS c (k + 1) (.For t (.Set a b q) body [] p) = .bad := by
            show (match tgtOf c t, true with | some t, false => PS.loop t (comp c k (.Set a b q)) (toPSs (body.map (compS c k))) | _, _ => .bad) = .bad
            cases tgtOf c t <;> rfl
          rw [hf]; exact xok_bad
        · have hf : compS c (k + 1) (.For t it body [] p) = (match tgtOf c t with | some t => .loop t (comp c k it) (toPSs (body.map (compS c k))) | none => .bad) := by
            cases it <;> first | exact (hset ⟨_, _, _, rfl⟩).elim | (show (match tgtOf c t, false with | some t, false => PS.loop t (comp c k _) (toPSs (body.map (compS c k))) | _, _ => .bad) = _; cases tgtOf c t <;> rfl)
          rw [hf]
          cases h1 : tgtOf c t with
          | none => exact xok_bad
          | some tg =>
            refine xok_for S (fun v => ?_) h1 (IE it) (IB body)
            cases it <;> first | rfl | exact (hset ⟨_, _, _, rfl⟩).elim
    | While t body orelse p =>
      cases orelse with
      | cons _ _ => exact xok_bad
      | nil => exact xok_while (IT _) (IB _)
    | _ => exact xok_bad
end
end Mine
end

section
open PySem PySem.W PyProof.Rows
namespace Mine
theorem bindL_not (kindOf : Str → Option NameKind) : ∀ (binds : List (Str × Value)) (m : Str → Option Value) (y : Str), y ∉ binds.map (·.1) → bindL kindOf binds m y = m y
  | [], m, y, _ => rfl
  | (k, v) :: r, m, y, h => by
    unfold bindL
    rw [List.map_cons, List.mem_cons, not_or] at h
    rw [bindL_not kindOf r _ y h.2]
    split
    · exact if_neg h.1
    · rfl
theorem bindC_not (kindOf : Str → Option NameKind) : ∀ (binds : List (Str × Value)) (m : Str → Option Value) (y : Str), y ∉ binds.map (·.1) → bindC kindOf binds m y = m y
  | [], m, y, _ => rfl
  | (k, v) :: r, m, y, h => by
    unfold bindC
    rw [List.map_cons, List.mem_cons, not_or] at h
    rw [bindC_not kindOf r _ y h.2]
    split
    · rfl
    · exact if_neg h.1
theorem bindL_at (kindOf : Str → Option NameKind) : ∀ (names : List Str) (vs : List Value) (m : Str → Option Value) (i : Nat) (y : Str), names.Nodup → names.length = vs.length → names[i]? = some y → kindOf y = some .local → bindL kindOf (names.zip vs) m y = vs[i]?
  | [], _, _, _, _, _, _, h, _ => by cases h
  | k :: names, [], _, _, _, _, hl, _, _ => by cases hl
  | k :: names, v :: vs, m, i, y, hn, hl, h, hk => by
    rw [List.nodup_cons] at hn
    rw [List.zip_cons_cons]
    unfold bindL
    cases i with
    | zero =>
      cases h
      rw [bindL_not, if_pos hk]
      · simp
      · intro q
        rw [List.map_fst_zip (by simp at hl; omega)] at q
        exact hn.1 q
    | succ i => exact bindL_at kindOf names vs _ i y hn.2 (by simpa using hl) (by simpa using h) hk
theorem bindC_at (kindOf : Str → Option NameKind) : ∀ (names : List Str) (vs : List Value) (m : Str → Option Value) (i : Nat) (y : Str), names.Nodup → names.length = vs.length → names[i]? = some y → kindOf y ≠ some .local → bindC kindOf (names.zip vs) m y = vs[i]?
  | [], _, _, _, _, _, _, h, _ => by cases h
  | k :: names, [], _, _, _, _, hl, _, _ => by cases hl
  | k :: names, v :: vs, m, i, y, hn, hl, h, hk => by
    rw [List.nodup_cons] at hn
    rw [List.zip_cons_cons]
    unfold bindC
    cases i with
    | zero =>
      cases h
      rw [bindC_not, if_neg hk]
      · simp
      · intro q
        rw [List.map_fst_zip (by simp at hl; omega)] at q
        exact hn.1 q
    | succ i => exact bindC_at kindOf names vs _ i y hn.2 (by simpa using hl) (by simpa using h) hk
theorem cellsFrom_acc : ∀ (names : List (Str × NameKind)) (n : Nat) (acc : List (Str × Addr)) (y : Str), (∃ a, acc.lookup y = some a) → ∃ a, (cellsFrom n names acc).lookup y = some a
  | [], _, _, _, h => h
  | (k, kd) :: r, n, acc, y, h => by
    unfold cellsFrom
    split
    · refine cellsFrom_acc r _ _ y ?_
      rw [List.lookup_cons]
      split
      · exact ⟨_, rfl⟩
      · exact h
    · exact cellsFrom_acc r _ _ y h
theorem cellsFrom_mem : ∀ (names : List (Str × NameKind)) (n : Nat) (acc : List (Str × Addr)) (y : Str), (y, NameKind.cell) ∈ names → ∃ a, (cellsFrom n names acc).lookup y = some a
  | [], _, _, _, h => by cases h
  | (k, kd) :: r, n, acc, y, h => by
    unfold cellsFrom
    rcases List.mem_cons.mp h with e | h
    · cases e
      rw [if_pos (by decide)]
      refine cellsFrom_acc r _ _ _ ⟨n, ?_⟩
      rw [List.lookup_cons]
      simp
    · split
      · exact cellsFrom_mem r _ _ y h
      · exact cellsFrom_mem r _ _ y h

noncomputable def RepKL (K : Frag) : List D → List Value → Prop
  | [], vs => vs = []
  | d :: l, vs => ∃ v vs', vs = v :: vs' ∧ RepK K d v ∧ RepKL K l vs'

noncomputable def sOf (x : Cx) (scope : Scope) (names : List Str) : SC := { kd := fun y => scope.names.lookup y, sl := slotsOf scope names, fns := x.fns, consts := x.consts, tab := x.tab }

structure FnOK (x : Cx) (fd : FuncData) (m : FnDef) (ps : List Arg) (kd : List (Option Expr)) (ds : List Expr) (body : List Stmt) : Prop where
  co : fd.scope.isCoroutine = false
  gen : fd.scope.isGenerator = false
  kind : fd.scope.kind = .function
  glob : fd.globals = mainGlobals
  bi : fd.builtins = builtinsNs
  clo : fd.closure = []
  code : x.h₀.CodeRec fd.code fd.qualname
  pars : fd.params = { posonlyargs := [], args := ps, vararg := none, kwonlyargs := [], kw_defaults := kd, kwarg := none, defaults := ds }
  stmts : fd.body = .stmts body
  np : m.np = ps.length
  ns : m.ns = (slotsOf fd.scope (ps.map (·.arg))).length
  run : m.body = compBody x.fns x.consts x.tab (ps.map (·.arg)) fd.scope body
  nodup : (slotsOf fd.scope (ps.map (·.arg))).Nodup
  own : ∀ y ∈ ps.map (·.arg), fd.scope.names.lookup y = some .local ∨ fd.scope.names.lookup y = some .cell
  dflt : (fd.defaults = .none ∧ m.dflt = []) ∨ ∃ T o items k, fd.defaults = .ref T ∧ x.h₀.get? T = some o ∧ o.data = .seq items k ∧ RepKL x.K m.dflt items.toList
  dlen : m.dflt.length ≤ ps.length
  free : ∀ y, fd.scope.names.lookup y ≠ some .free
  dbg : fd.scope.names.lookup (Str.ofString "__debug__") = none
  cld : fd.scope.names.lookup (Str.ofString "__classdict__") = none

section
variable {x : Cx} {C : CallT} {n : Nat}

theorem repKL_rep (O : x.Ok) {s : Shared} {ρ : List Addr} {σ : Sto} (W : Wd x.h₀ s.heap ρ σ) : ∀ {ds : List D} {vs : List Value}, RepKL x.K ds vs → RepL s.heap ρ ds vs
  | [], vs, r => by unfold RepKL at r; subst r; exact RepL.nil
  | d :: ds, vs, r => by
    unfold RepKL at r
    obtain ⟨v, vs', rfl, r1, r2⟩ := r
    exact RepL.cons (repK_rep O W r1) (repKL_rep O W r2)

theorem slots_take {scope : Scope} {names : List Str} {i : Nat} {y : Str} (hi : i < names.length) (h : (slotsOf scope names)[i]? = some y) : names[i]? = some y := by
  unfold slotsOf at h
  rwa [List.getElem?_append_left hi] at h

theorem func_sound (O : x.Ok) (HC : CallOK x C n) {fd : FuncData} {m : FnDef} {ps : List Arg} {kd : List (Option Expr)} {ds : List Expr} {body : List Stmt} (hf : FnOK x fd m ps kd ds body) {a : Addr} {o : Obj} (ho : x.h₀.get? a = some o) (hd : o.data = .func fd)
    {args : List D} {σ σ' : Sto} {ve ve' : VEnv} {r : Option D} (hb : m.bind args = some ve) (he : pexecs x.T C m.body ve σ = some (r, ve', σ')) {A : Around} (hA : AOk A (n + 1)) {s : Shared} {ρ : List Addr} {vs : List Value} {R : Result → Shared → Prop}
    (W : Wd x.h₀ s.heap ρ σ) (rv : RepL s.heap ρ args vs) (hR : ∀ v ρ' h' tk, Wd x.h₀ h' ρ' σ' → St noX ρ s.heap ρ' h' → Rep h' ρ' (r.getD .none) v → R (.ok (.ret v)) { s with heap := h', toks := tk }) :
    codeAny (model x.prog x.w) A (.call (.ref a) ⟨vs, []⟩) R s := by
  have hlen := RepL.length rv
  unfold FnDef.bind at hb
  split at hb
  case isFalse => cases hb
  rename_i hcond
  simp only [Option.some.injEq] at hb
  obtain ⟨hc1, hc2⟩ := hcond
  rw [hf.np] at hc1 hc2
  have hnl : (ps.map (·.arg)).length = ps.length := List.length_map ..
  have hnd : (ps.map (·.arg)).Nodup := by
    have := hf.nodup
    unfold slotsOf at this
    exact (List.nodup_append.mp this).1
  -- the values of the defaults
  obtain ⟨dv, hdv, rd⟩ : ∃ dv : List Value, ((fd.defaults = .none ∧ dv = []) ∨ ∃ T o items n, fd.defaults = .ref T ∧ s.heap.get? T = some o ∧ o.data = .seq items n ∧ items.toList = dv) ∧ RepL s.heap ρ m.dflt dv := by
    rcases hf.dflt with ⟨e1, e2⟩ | ⟨T, o, items, k, e1, e2, e3, e4⟩
    · exact ⟨[], .inl ⟨e1, rfl⟩, by rw [e2]; exact RepL.nil⟩
    · exact ⟨items.toList, .inr ⟨T, o, items, k, e1, W.keep0 _ _ e2, e3, rfl⟩, repKL_rep O W e4⟩
  have hdl := RepL.length rd
  have hdd := hf.dlen
  refine codeAny_call_function hA.d (W.keep0 a o ho) hd hf.co hf.gen hf.stmts (hf.code.keeps W.keep0) ?_
  refine binds_to hf.pars hnd (by omega) (by omega) (by omega) hdv _ _ _ _ ?_
  rw [hf.clo]
  have hown := hf.own
  have hnodup := hf.nodup
  have hrun := hf.run
  have hns := hf.ns
  have hnp := hf.np
  generalize hN : ps.map (fun p => p.arg) = names at *
  generalize htot : vs ++ dv.drop (dv.length - (names.length - vs.length)) = total
  have htl : names.length = total.length := by
    rw [← htot, List.length_append, List.length_drop]
    omega
  have hbinds : bindsOf names dv vs = names.zip total := by unfold bindsOf; rw [htot]
  rw [hbinds]
  have rt : RepL s.heap ρ (args ++ m.dflt.drop (m.dflt.length - (m.np - args.length))) total := by
    rw [← htot]
    refine RepL.append rv ?_
    have e : m.dflt.length - (m.np - args.length) = dv.length - (names.length - vs.length) := by
      rw [hf.np]; omega
    rw [e]
    exact RepL.drop _ rd
  refine wpAny_newFunctionEnv_cells hf.kind (fun p hp => ?_) fun env henv s' xc => ?_
  · have hm : p.1 ∈ names := (List.of_mem_zip hp).1
    rcases hown p.1 hm with q | q
    · exact .inl q
    · refine .inr ⟨q, ?_⟩
      obtain ⟨c, hc⟩ := cellsFrom_mem fd.scope.names (s.heap.objs.size + 1) [] p.1 (lookup_mem q)
      rw [hc]; rfl
  have eL : env.locals = s.heap.objs.size := by rw [henv]; rfl
  have eC : env.cells = cellsFrom (s.heap.objs.size + 1) fd.scope.names [] := by rw [henv]; rfl
  have eS : env.scope = fd.scope := by rw [henv]; rfl
  have eK : ∀ y, env.kindOf y = fd.scope.names.lookup y := fun y => by unfold Env.kindOf; rw [eS]
  have eG : env.globals = mainGlobals := by rw [henv]; exact hf.glob
  have eB : env.builtins = builtinsNs := by rw [henv]; exact hf.bi
  have freshS : ∀ b, s.heap.objs.size ≤ b → s.heap.get? b = none := fun b hb => by
    cases e : s.heap.get? b with
    | none => rfl
    | some o => exact absurd (Heap.lt_size e) (Nat.not_lt.mpr hb)
  have fresh0 : ∀ b, s.heap.objs.size ≤ b → x.h₀.get? b = none := fun b hb => by
    cases e : x.h₀.get? b with
    | none => rfl
    | some o => have := W.keep0 b o e; rw [freshS b hb] at this; cases this
  have cellHi : ∀ y c, env.cells.lookup y = some c → s.heap.objs.size < c := fun y c hc => by
    have := xc.above y c (mem_of_lookup hc)
    rw [eL] at this; exact this
  have hkeep := xc.toInCall.keep
  obtain ⟨W', S'⟩ := W.grow hkeep
  have SE : SEnv x.h₀ env (sOf x fd.scope names) := by
    constructor
    · rw [eS]; exact hf.kind
    · exact eG
    · exact eB
    · intro y h; rw [eK]; exact h
    · intro y h; rw [eK]; exact h
    · intro y h; rw [eK]; exact .inl h
    · intro y h; rw [eK]; exact h
    · exact hnodup
    · intro y y' c h h'
      exact name_of_addr xc.apart (mem_of_lookup h) (mem_of_lookup h')
    · intro y c h e
      have := cellHi y c h
      rw [e, eL] at this; exact Nat.lt_irrefl _ this
    · exact fresh0 _ (by rw [eL]; exact Nat.le_refl _)
    · intro y c h
      exact fresh0 _ (Nat.le_of_lt (cellHi y c h))
    · intro y h
      rw [eC]
      exact cellsFrom_mem _ _ _ y (lookup_mem h)
    · intro y h
      exact absurd h (hf.free y)
    · exact hf.dbg
    · exact hf.cld
  have FE : FOk s'.heap ρ env (slotsOf fd.scope names) ve := by
    refine ⟨_, _, xc.toInCall.ns, xc.cell, ?_, fun i y d hi hd => ?_⟩
    · rw [← hb, List.length_append, List.length_map, List.length_replicate, hnp, hns]
      have : (slotsOf fd.scope names).length = names.length + ((fd.scope.names.filter fun p => (p.2 == .local || p.2 == .cell) && !names.contains p.1).map (·.1)).length := by unfold slotsOf; rw [List.length_append]
      rw [List.length_append, List.length_drop]
      omega
    · rw [← hb] at hd
      by_cases hlt : i < ((args ++ m.dflt.drop (m.dflt.length - (m.np - args.length))).map some).length
      · rw [List.getElem?_append_left hlt, List.getElem?_map] at hd
        have hd' : (args ++ m.dflt.drop (m.dflt.length - (m.np - args.length)))[i]? = some d := by
          cases e : (args ++ m.dflt.drop (m.dflt.length - (m.np - args.length)))[i]? with
          | none => rw [e] at hd; cases hd
          | some d' => rw [e] at hd; cases hd; rfl
        obtain ⟨v, hv, r1⟩ := RepL.get rt hd'
        have hin : i < names.length := by rw [htl]; exact (List.getElem?_eq_some_iff.mp hv).1
        have hy := slots_take hin hi
        have hown' := hown y (List.mem_of_getElem? hy)
        refine ⟨v, Rep.mono S' (xok_none _) _ _ r1, ?_⟩
        rcases hown' with q | q
        · refine .inl ⟨by rw [eK]; exact q, ?_⟩
          rw [bindL_at _ names total _ i y hnd htl hy (by rw [eK]; exact q)]
          exact hv
        · refine .inr ⟨.inl (by rw [eK]; exact q), ?_, ?_⟩
          · rw [eC]
            exact cellsFrom_mem _ _ _ y (lookup_mem q)
          · rw [bindC_at _ names total _ i y hnd htl hy (by rw [eK, q]; decide)]
            exact hv
      · rw [List.getElem?_append_right (by omega), List.getElem?_replicate] at hd
        split at hd <;> cases hd
  refine ⟨(O.nolim.keeps W.keep0).keeps hkeep, codeAny_func ?_⟩
  have X : SCx x (sOf x fd.scope names) := ⟨rfl, rfl, rfl⟩
  have HB : BOK x C n env (sOf x fd.scope names) body (compBody x.fns x.consts x.tab names fd.scope body) := bok_all fun st _ => stmt_ok O HC 40 st SE X
  have hA' : AOk (A.deeper env) n := ⟨hA.handled, by have := hA.depth; show A.depth + 1 + n < _; omega, by have := hA.units; show A.units + 3 + 12 * n + 40 < _; omega⟩
  rw [hrun] at he
  obtain ⟨h₁, tk₁, rfl, _⟩ := xc.done
  refine HB ve σ r ve' σ' he (A.deeper env) hA' _ ρ _ _ W' FE ?_
  intro f ρ' h' tk W'' S'' F'' R''
  have S0 : St noX ρ s.heap ρ' h' := by
    refine St.drop (X := XE (sOf x fd.scope names) env) (St.trans W' FE.xoc S'.up S'') ?_
    rintro b (rfl | ⟨y, _, hy⟩)
    · exact freshS _ (by rw [eL]; exact Nat.le_refl _)
    · exact freshS _ (Nat.le_of_lt (cellHi y b hy))
  cases r with
  | none =>
    have := R''.none
    subst this
    exact hR .none ρ' h' tk W'' S0 (by unfold Rep; rfl)
  | some d =>
    obtain ⟨v, rfl, r1⟩ := R''
    exact hR v ρ' h' tk W'' S0 r1

/-- every def of the table is there, and is what the table says -/
noncomputable def Defs (x : Cx) (F : List FnDef) : Prop := ∀ (i : Nat) (name : Str), x.fns[i]? = some name → ∃ a o fd m ps kd ds body, nsIn x.K mainGlobals name = some (some (.ref a)) ∧ x.K.lookup a = some o ∧ o.data = .func fd ∧ F[i]? = some m ∧ FnOK x fd m ps kd ds body

theorem calls_ok (O : x.Ok) {F : List FnDef} (hF : Defs x F) : ∀ n, CallOK x (pcall x.T F n) n
  | 0 => by
    intro f args σ d σ' hp
    simp [pcall] at hp
  | n + 1 => by
    intro f args σ d σ' hp name a hn ha A hA s ρ vs Q E W rv B
    obtain ⟨a', o, fd, m, ps, kd, ds, body, h1, h2, h3, h4, h5⟩ := hF f name hn
    rw [ha] at h1
    cases h1
    simp only [pc_S, h4] at hp
    split at hp
    case h_2 => cases hp
    rename_i ve hb
    split at hp
    case h_2 => cases hp
    rename_i r ve' σ₁ he
    simp only [Option.some.injEq, Prod.mk.injEq] at hp
    obtain ⟨rfl, rfl⟩ := hp
    refine wpAny_call (func_sound O (calls_ok O hF n) h5 (O.kin a o h2) h3 hb he hA W rv ?_)
    intro v ρ' h' tk W' S' r'
    exact B v ρ' h' tk W' S' r'
end
end Mine
end

section
open PySem PySem.W PyProof.Rows
namespace Mine
noncomputable def valD : Value → Option D
  | .none => some .none
  | .bool b => some (.bool b)
  | .int i _ => some (.int i)
  | .str s _ => some (.str s.cps.toList)
  | _ => none
noncomputable def valsD : List Value → Option (List D)
  | [] => some []
  | v :: vs => (match valD v, valsD vs with | some d, some ds => some (d :: ds) | _, _ => none)
noncomputable def textsD : List Value → Option (List D)
  | [] => some []
  | v :: vs => (match v, textsD vs with | .str s _, some ds => some (.str s.cps.toList :: ds) | _, _ => none)
noncomputable def constOf (K : Frag) (v : Value) : Option D := match v with
  | .ref a => (match K.lookup a with
    | some o => (match o.cls, o.data with
      | .type n, .seq vs _ => if n == "tuple" then (match textsD vs.toList with | some l => some (.tup l) | none => none) else none
      | _, _ => none)
    | none => none)
  | v => valD v
noncomputable def dfltOf (K : Frag) (v : Value) : Option (List D) := match v with
  | .none => some []
  | .ref a => (match K.lookup a with
    | some o => (match o.data with
      | .seq vs _ => valsD vs.toList
      | _ => none)
    | none => none)
  | _ => none
noncomputable def codeB (K : Frag) (cd : Value) (q : Str) : Bool := match cd with
  | .ref c => (match K.lookup c with
    | some o => (match o.data with
      | .fields vs => (match vs.toList[1]? with | some (Value.str s _) => s == q | _ => false)
      | _ => false)
    | none => false)
  | _ => false
noncomputable def nodupB : List Str → Bool
  | [] => true
  | y :: r => !(r.any (· == y)) && nodupB r
noncomputable def fineFd (fd : FuncData) : Bool := !fd.scope.isCoroutine && !fd.scope.isGenerator && fd.scope.kind == .function && fd.globals == mainGlobals && fd.builtins == builtinsNs && fd.closure.isEmpty &&
  fd.scope.names.all (fun p => p.2 != .free) && (fd.scope.names.lookup (Str.ofString "__debug__")).isNone && (fd.scope.names.lookup (Str.ofString "__classdict__")).isNone
noncomputable def ownB (scope : Scope) (y : Str) : Bool := match scope.names.lookup y with | some .local | some .cell => true | _ => false
noncomputable def compFd (K : Frag) (fns : List Str) (consts : List (Str × D)) (tab : Str) (fd : FuncData) : Option FnDef :=
  match fd.params, fd.body with
  | ⟨[], ps, none, [], _, none, _⟩, .stmts body =>
    (match dfltOf K fd.defaults with
    | some df => if fineFd fd && nodupB (slotsOf fd.scope (ps.map (·.arg))) && (ps.map (·.arg)).all (ownB fd.scope) && decide (df.length ≤ ps.length) then
        some { np := ps.length, ns := (slotsOf fd.scope (ps.map (·.arg))).length, dflt := df, body := compBody fns consts tab (ps.map (·.arg)) fd.scope body } else none
    | none => none)
  | _, _ => none
noncomputable def compName (K : Frag) (fns : List Str) (consts : List (Str × D)) (tab : Str) (name : Str) : Option FnDef :=
  match nsIn K mainGlobals name with
  | some (some (.ref a)) => (match K.lookup a with
    | some o => (match o.data with
      | .func fd => if codeB K fd.code fd.qualname then compFd K fns consts tab fd else none
      | _ => none)
    | none => none)
  | _ => none

theorem valD_ok {K : Frag} {v : Value} {d : D} (h : valD v = some d) : RepK K d v := by
  cases v with
  | none => cases h; exact rfl
  | bool b => cases h; exact rfl
  | int i t => cases h; exact ⟨t, rfl⟩
  | str s t => cases h; exact ⟨t, rfl⟩
  | _ => cases h
theorem valsD_ok {K : Frag} : ∀ {vs : List Value} {ds : List D}, valsD vs = some ds → RepKL K ds vs
  | [], ds, h => by cases h; exact rfl
  | v :: vs, ds, h => by
    unfold valsD at h
    split at h
    · rename_i d ds' h1 h2
      cases h
      exact ⟨v, vs, rfl, valD_ok h1, valsD_ok h2⟩
    · cases h
theorem textsD_ok : ∀ {vs : List Value} {ds : List D}, textsD vs = some ds → StrsK ds vs
  | [], ds, h => by cases h; exact rfl
  | v :: vs, ds, h => by
    unfold textsD at h
    split at h
    · rename_i s t ds' h1
      cases h
      exact ⟨s.cps.toList, t, vs, rfl, rfl, textsD_ok h1⟩
    · cases h
theorem constOf_ok {K : Frag} {v : Value} {d : D} (h : constOf K v = some d) : RepK K d v := by
  unfold constOf at h
  split at h
  · rename_i a
    split at h
    · rename_i o ho
      split at h
      · rename_i n vs k hc hd
        split at h
        · rename_i hn
          split at h
          · rename_i l hl
            cases h
            have e : n = "tuple" := beq_iff_eq.mp hn
            subst e
            exact ⟨a, o, vs.toList, k, rfl, ho, hc, hd, textsD_ok hl⟩
          · cases h
        · cases h
      · cases h
    · cases h
  · exact valD_ok h
theorem codeB_ok {K : Frag} {h : Heap} {cd : Value} {q : Str} (X : K.In h) (e : codeB K cd q = true) : h.CodeRec cd q := by
  unfold codeB at e
  split at e
  · rename_i c
    split at e
    · rename_i o ho
      split at e
      · rename_i vs hd
        split at e
        · rename_i s t hv
          have : s = q := beq_iff_eq.mp e
          subst this
          exact ⟨c, o, vs, t, rfl, X c o ho, hd, by rw [← Array.getElem?_toList]; exact hv⟩
        · cases e
      · cases e
    · cases e
  · cases e
theorem nodupB_ok : ∀ {l : List Str}, nodupB l = true → l.Nodup
  | [], _ => List.nodup_nil
  | y :: r, h => by
    unfold nodupB at h
    rw [Bool.and_eq_true, Bool.not_eq_true'] at h
    rw [List.nodup_cons]
    refine ⟨fun hm => ?_, nodupB_ok h.2⟩
    have := List.any_eq_false.mp h.1 y hm
    simp at this

theorem compFd_ok {x : Cx} (kin : x.K.In x.h₀) {fd : FuncData} {m : FnDef} (h : compFd x.K x.fns x.consts x.tab fd = some m) (hcode : x.h₀.CodeRec fd.code fd.qualname) : ∃ ps kd ds body, FnOK x fd m ps kd ds body := by
  unfold compFd at h
  split at h
  case h_2 => cases h
  rename_i ps kd ds body hp hb
  split at h
  case h_2 => cases h
  rename_i df hdf
  split at h
  case isFalse => cases h
  rename_i hc
  cases h
  simp only [Bool.and_eq_true] at hc
  obtain ⟨⟨⟨h1, h2⟩, h3⟩, h4⟩ := hc
  unfold fineFd at h1
  simp only [Bool.and_eq_true, Bool.not_eq_true'] at h1
  obtain ⟨⟨⟨⟨⟨⟨⟨⟨a1, a2⟩, a3⟩, a4⟩, a5⟩, a6⟩, a7⟩, a8⟩, a9⟩ := h1
  refine ⟨ps, kd, ds, body, a1, a2, beq_iff_eq.mp a3, beq_iff_eq.mp a4, beq_iff_eq.mp a5, List.isEmpty_iff.mp a6, hcode, hp, hb, rfl, rfl, rfl, nodupB_ok h2, ?_, ?_, of_decide_eq_true h4, ?_, Option.isNone_iff_eq_none.mp a8, Option.isNone_iff_eq_none.mp a9⟩
  · intro y hy
    have := List.all_eq_true.mp h3 y hy
    unfold ownB at this
    split at this
    · exact .inl (by assumption)
    · exact .inr (by assumption)
    · cases this
  · unfold dfltOf at hdf
    split at hdf
    · rename_i e
      cases hdf
      exact .inl ⟨e, rfl⟩
    · rename_i T e
      split at hdf
      · rename_i o ho
        split at hdf
        · rename_i vs k hd
          exact .inr ⟨T, o, vs, k, e, kin T o ho, hd, valsD_ok hdf⟩
        · cases hdf
      · cases hdf
    · cases hdf
  · intro y hy
    have := List.all_eq_true.mp a7 _ (lookup_mem hy)
    simp at this

theorem defs_ok {x : Cx} (kin : x.K.In x.h₀) {F : List FnDef} (h : x.fns.map (compName x.K x.fns x.consts x.tab) = F.map some) : Defs x F := by
  intro i name hn
  have e := congrArg (fun l => l[i]?) h
  simp only [List.getElem?_map, hn, Option.map_some] at e
  cases hF : F[i]? with
  | none => rw [hF] at e; cases e
  | some m =>
    rw [hF] at e
    simp only [Option.map_some, Option.some.injEq] at e
    unfold compName at e
    split at e
    case h_2 => cases e
    rename_i a ha
    split at e
    case h_2 => cases e
    rename_i o ho
    split at e
    case h_2 => cases e
    rename_i fd hd
    split at e
    case isFalse => cases e
    rename_i hc
    obtain ⟨ps, kd, ds, body, H⟩ := compFd_ok kin e (codeB_ok kin hc)
    exact ⟨a, o, fd, m, ps, kd, ds, body, ha, ho, hd, rfl, H⟩

/-! ### the tables -/
noncomputable def constAt (K : Frag) (y : Str) : Option D := match nsIn K mainGlobals y with | some (some v) => constOf K v | _ => none
theorem consts_ok {K : Frag} {consts : List (Str × D)} (h : consts.map (fun p => constAt K p.1) = consts.map (fun p => some p.2)) : ∀ y d, consts.lookup y = some d → ∃ v, nsIn K mainGlobals y = some (some v) ∧ RepK K d v := by
  intro y d hl
  have hm := lookup_mem hl
  have key : ∀ p ∈ consts, constAt K p.1 = some p.2 := by
    intro p hp
    obtain ⟨i, hi⟩ := List.getElem?_of_mem hp
    have e := congrArg (fun l => l[i]?) h
    simp only [List.getElem?_map, hi, Option.map_some, Option.some.injEq] at e
    exact e
  have := key _ hm
  unfold constAt at this
  split at this
  · rename_i v hv
    exact ⟨v, hv, constOf_ok this⟩
  · cases this
noncomputable def intAt (K : Frag) (ta : Addr) (y : Str) : Option Int := match nsIn K ta y with | some (some (.int i _)) => some i | _ => none
theorem tab_ok {K : Frag} {ta : Addr} {T : List (List Nat × Int)} (h : T.map (fun p => intAt K ta ⟨p.1.toArray⟩) = T.map (fun p => some p.2)) : ∀ y i, T.lookup y = some i → ∃ t, nsIn K ta ⟨y.toArray⟩ = some (some (.int i t)) := by
  intro y i hl
  have hm : (y, i) ∈ T := by
    clear h
    induction T with
    | nil => cases hl
    | cons p r ih =>
      obtain ⟨k, v⟩ := p
      rw [List.lookup_cons] at hl
      split at hl
      · rename_i hb
        cases hl
        rw [beq_iff_eq.mp hb]
        exact List.mem_cons_self ..
      · exact List.mem_cons_of_mem _ (ih hl)
  obtain ⟨j, hj⟩ := List.getElem?_of_mem hm
  have e := congrArg (fun l => l[j]?) h
  simp only [List.getElem?_map, hj, Option.map_some, Option.some.injEq] at e
  unfold intAt at e
  split at e
  · rename_i i' t hv
    cases e
    exact ⟨t, hv⟩
  · cases e
noncomputable def keyStr : Value → Option Str
  | .str x _ => some x
  | _ => none
theorem keysLit_of {P : Params} : ∀ {es : List DictEntry} {xs : List Str}, es.map (fun e => keyStr e.key) = xs.map some → es.map (fun e => e.hash) = xs.map (PyData.keyHash P) → KeysLit P es
  | [], xs, _, _ => trivial
  | e :: es, [], h, _ => by cases h
  | e :: es, y :: xs, h, h' => by
    simp only [List.map_cons, List.cons.injEq] at h h'
    refine ⟨?_, keysLit_of h.2 h'.2⟩
    cases ek : e.key with
    | str s t =>
      rw [ek] at h
      have : s = y := by simpa [keyStr] using h.1
      subst this
      exact ⟨s, t, rfl, h'.1⟩
    | _ => rw [ek] at h; simp [keyStr] at h
noncomputable def dictAt (K : Frag) (ta : Addr) : Option (Array DictEntry × Nat) := match K.lookup ta with
  | some ⟨.type n, none, .dict es k, ⟨[]⟩⟩ => if n == "dict" then some (es, k) else none
  | _ => none
theorem dictAt_ok {K : Frag} {ta : Addr} {es : Array DictEntry} {k : Nat} (h : dictAt K ta = some (es, k)) : K.lookup ta = some ⟨.type "dict", none, .dict es k, #[]⟩ := by
  unfold dictAt at h
  split at h
  · rename_i n es' k' e
    split at h
    · rename_i hn
      cases h
      rw [e, beq_iff_eq.mp hn]
    · cases h
  · cases h
end Mine
end

section
open PySem
namespace Mine
noncomputable def RunO (o : Option (D × Sto)) (P : D → Sto → Prop) : Prop := match o with | some q => P q.1 q.2 | none => False
noncomputable def RunL (o : Option (List D × Sto)) (P : List D → Sto → Prop) : Prop := match o with | some q => P q.1 q.2 | none => False
noncomputable def RunX (o : Option (Option D × VEnv × Sto)) (P : Option D → VEnv → Sto → Prop) : Prop := match o with | some q => P q.1 q.2.1 q.2.2 | none => False
noncomputable def RunM (o : Option Bool) (P : Bool → Prop) : Prop := match o with | some q => P q | none => False
noncomputable def RunV (o : Option VEnv) (P : VEnv → Prop) : Prop := match o with | some q => P q | none => False
noncomputable def RunT (o : Option Sto) (P : Sto → Prop) : Prop := match o with | some q => P q | none => False
noncomputable def OnInt (d : D) (P : Int → Prop) : Prop := match d with | .int i => P i | _ => False
noncomputable def OnBool (d : D) (a b : Prop) : Prop := match d with | .bool true => a | .bool false => b | _ => False

theorem RunO.mono {o : Option (D × Sto)} {P Q : D → Sto → Prop} (h : RunO o P) (k : ∀ d σ, P d σ → Q d σ) : RunO o Q := by
  cases o with
  | none => exact h
  | some q => exact k _ _ h
theorem RunX.mono {o : Option (Option D × VEnv × Sto)} {P Q : Option D → VEnv → Sto → Prop} (h : RunX o P) (k : ∀ r ve σ, P r ve σ → Q r ve σ) : RunX o Q := by
  cases o with
  | none => exact h
  | some q => exact k _ _ _ h
theorem RunO.out {o : Option (D × Sto)} {P : D → Sto → Prop} (h : RunO o P) : ∃ d σ, o = some (d, σ) ∧ P d σ := by
  cases o with
  | none => exact h.elim
  | some q => exact ⟨q.1, q.2, rfl, h⟩
theorem RunX.out {o : Option (Option D × VEnv × Sto)} {P : Option D → VEnv → Sto → Prop} (h : RunX o P) : ∃ r ve σ, o = some (r, ve, σ) ∧ P r ve σ := by
  cases o with
  | none => exact h.elim
  | some q => exact ⟨q.1, q.2.1, q.2.2, rfl, h⟩
theorem RunO.in {o : Option (D × Sto)} {P : D → Sto → Prop} {d : D} {σ : Sto} (e : o = some (d, σ)) (h : P d σ) : RunO o P := by rw [e]; exact h

section
variable {T : List (List Nat × Int)} {C : CallT} {ve : VEnv} {σ : Sto} {P : D → Sto → Prop} {PX : Option D → VEnv → Sto → Prop} {PL : List D → Sto → Prop} {e a b c i : PE} {as : PEs}

theorem run_ok {d : D} : RunO (some (d, σ)) P = P d σ := rfl
theorem run_const {d : D} : RunO (peval T C (.const d) ve σ) P = P d σ := rfl
theorem run_var {i : Nat} : RunO (peval T C (.var i) ve σ) P = (match getVar ve i with | some d => P d σ | none => False) := by
  simp only [Zk, Zq, Z03, Zt, Zz, Z01, Zo, Zi, Zy, Zx, Zw, Zs, Zm, Zn, Zl, Zu, Zj, Zr, Z00, Z02, Zv, Zp]
  cases getVar ve i <;> rfl
theorem run_item : RunO (peval T C (.item e i) ve σ) P = RunO (peval T C e ve σ) fun d σ₁ => RunO (peval T C i ve σ₁) fun k σ₂ => RunO (opItem d k σ₂) P := by
  simp only [Zk, Zq, Z03, Zt, Zz, Z01, Zo, Zi, Zy, Zx, Zw, Zs, Zm, Zn, Zl, Zu, Zj, Zr, Z00, Z02, Zv, Zp]
  cases peval T C e ve σ with
  | none => rfl
  | some q =>
    obtain ⟨d, σ₁⟩ := q
    dsimp only
    rw [run_ok]
    cases peval T C i ve σ₁ <;> rfl
theorem run_slice {lo hi st : Option Int} : RunO (peval T C (.slice e lo hi st) ve σ) P = RunO (peval T C e ve σ) fun d σ₁ => RunO (opSlice d lo hi st σ₁) P := by
  simp only [Zk, Zq, Z03, Zt, Zz, Z01, Zo, Zi, Zy, Zx, Zw, Zs, Zm, Zn, Zl, Zu, Zj, Zr, Z00, Z02, Zv, Zp]
  cases peval T C e ve σ <;> rfl
theorem run_tab : RunO (peval T C (.tab e) ve σ) P = RunO (peval T C e ve σ) fun d σ₁ => (match d with | .str x => (match T.lookup x with | some i => P (.int i) σ₁ | none => False) | _ => False) := by
  simp only [Zk, Zq, Z03, Zt, Zz, Z01, Zo, Zi, Zy, Zx, Zw, Zs, Zm, Zn, Zl, Zu, Zj, Zr, Z00, Z02, Zv, Zp]
  cases peval T C e ve σ with
  | none => rfl
  | some q =>
    obtain ⟨d, σ₁⟩ := q
    cases d with
    | str x =>
      show RunO (match T.lookup x with | some i => some (.int i, σ₁) | _ => none) P = (match T.lookup x with | some i => P (.int i) σ₁ | none => False)
      cases T.lookup x <;> rfl
    | _ => rfl
theorem run_cmp {op : COp} : RunO (peval T C (.cmp op a b) ve σ) P = RunO (peval T C a ve σ) fun x σ₁ => RunO (peval T C b ve σ₁) fun y σ₂ => RunM (opCmp op x y σ₂) fun r => P (.bool r) σ₂ := by
  simp only [Zk, Zq, Z03, Zt, Zz, Z01, Zo, Zi, Zy, Zx, Zw, Zs, Zm, Zn, Zl, Zu, Zj, Zr, Z00, Z02, Zv, Zp]
  cases peval T C a ve σ with
  | none => rfl
  | some q =>
    obtain ⟨d, σ₁⟩ := q
    dsimp only
    rw [run_ok]
    cases peval T C b ve σ₁ with
    | none => rfl
    | some q =>
      obtain ⟨d', σ₂⟩ := q
      dsimp only
      rw [run_ok]
      cases opCmp op d d' σ₂ <;> rfl
theorem run_and : RunO (peval T C (.and a b) ve σ) P = RunO (peval T C a ve σ) fun x σ₁ => OnBool x (RunO (peval T C b ve σ₁) fun y σ₂ => OnBool y (P (.bool true) σ₂) (P (.bool false) σ₂)) (P (.bool false) σ₁) := by
  simp only [Zk, Zq, Z03, Zt, Zz, Z01, Zo, Zi, Zy, Zx, Zw, Zs, Zm, Zn, Zl, Zu, Zj, Zr, Z00, Z02, Zv, Zp]
  cases peval T C a ve σ with
  | none => rfl
  | some q =>
    obtain ⟨d, σ₁⟩ := q
    cases d with
    | bool x =>
      cases x with
      | true =>
        rw [run_ok]
        dsimp only
        cases peval T C b ve σ₁ with
        | none => rfl
        | some q =>
          obtain ⟨d', σ₂⟩ := q
          cases d' with
          | bool y => cases y <;> rfl
          | _ => rfl
      | false => rfl
    | _ => rfl
theorem run_or : RunO (peval T C (.or a b) ve σ) P = RunO (peval T C a ve σ) fun x σ₁ => OnBool x (P (.bool true) σ₁) (RunO (peval T C b ve σ₁) fun y σ₂ => OnBool y (P (.bool true) σ₂) (P (.bool false) σ₂)) := by
  simp only [Zk, Zq, Z03, Zt, Zz, Z01, Zo, Zi, Zy, Zx, Zw, Zs, Zm, Zn, Zl, Zu, Zj, Zr, Z00, Z02, Zv, Zp]
  cases peval T C a ve σ with
  | none => rfl
  | some q =>
    obtain ⟨d, σ₁⟩ := q
    cases d with
    | bool x =>
      cases x with
      | false =>
        rw [run_ok]
        dsimp only
        cases peval T C b ve σ₁ with
        | none => rfl
        | some q =>
          obtain ⟨d', σ₂⟩ := q
          cases d' with
          | bool y => cases y <;> rfl
          | _ => rfl
      | true => rfl
    | _ => rfl
theorem run_not : RunO (peval T C (.not a) ve σ) P = RunO (peval T C a ve σ) fun x σ₁ => OnBool x (P (.bool false) σ₁) (P (.bool true) σ₁) := by
  simp only [Zk, Zq, Z03, Zt, Zz, Z01, Zo, Zi, Zy, Zx, Zw, Zs, Zm, Zn, Zl, Zu, Zj, Zr, Z00, Z02, Zv, Zp]
  cases peval T C a ve σ with
  | none => rfl
  | some q =>
    obtain ⟨d, σ₁⟩ := q
    cases d with
    | bool x => cases x <;> rfl
    | _ => rfl
theorem run_neg : RunO (peval T C (.neg a) ve σ) P = RunO (peval T C a ve σ) fun x σ₁ => OnInt x fun i => P (.int (-i)) σ₁ := by
  simp only [Zk, Zq, Z03, Zt, Zz, Z01, Zo, Zi, Zy, Zx, Zw, Zs, Zm, Zn, Zl, Zu, Zj, Zr, Z00, Z02, Zv, Zp]
  cases peval T C a ve σ with
  | none => rfl
  | some q =>
    obtain ⟨d, σ₁⟩ := q
    cases d <;> rfl
theorem run_ite : RunO (peval T C (.ite c a b) ve σ) P = RunO (peval T C c ve σ) fun x σ₁ => OnBool x (RunO (peval T C a ve σ₁) P) (RunO (peval T C b ve σ₁) P) := by
  simp only [Zk, Zq, Z03, Zt, Zz, Z01, Zo, Zi, Zy, Zx, Zw, Zs, Zm, Zn, Zl, Zu, Zj, Zr, Z00, Z02, Zv, Zp]
  cases peval T C c ve σ with
  | none => rfl
  | some q =>
    obtain ⟨d, σ₁⟩ := q
    cases d with
    | bool x => cases x <;> rfl
    | _ => rfl
theorem run_two {f : D → D → Sto → Option (D × Sto)} {pe : PE} (hpe : ∀ ve σ, peval T C pe ve σ = (match peval T C a ve σ with
    | some (x, σ₁) => (match peval T C b ve σ₁ with | some (y, σ₂) => f x y σ₂ | _ => none)
    | _ => none)) : RunO (peval T C pe ve σ) P = RunO (peval T C a ve σ) fun x σ₁ => RunO (peval T C b ve σ₁) fun y σ₂ => RunO (f x y σ₂) P := by
  rw [hpe]
  cases peval T C a ve σ with
  | none => rfl
  | some q =>
    obtain ⟨d, σ₁⟩ := q
    dsimp only
    rw [run_ok]
    cases peval T C b ve σ₁ <;> rfl
theorem run_bin {op : BOp} : RunO (peval T C (.bin op a b) ve σ) P = RunO (peval T C a ve σ) fun x σ₁ => RunO (peval T C b ve σ₁) fun y σ₂ => RunO (opBin op x y σ₂) P := run_two fun ve σ => by simp only [Zk, Zq, Z03, Zt, Zz, Z01, Zo, Zi, Zy, Zx, Zw, Zs, Zm, Zn, Zl, Zu, Zj, Zr, Z00, Z02, Zv, Zp] <;> rfl
theorem run_join : RunO (peval T C (.join a b) ve σ) P = RunO (peval T C a ve σ) fun x σ₁ => RunO (peval T C b ve σ₁) fun y σ₂ => RunO (opJoin x y σ₂) P := run_two fun ve σ => by simp only [Zk, Zq, Z03, Zt, Zz, Z01, Zo, Zi, Zy, Zx, Zw, Zs, Zm, Zn, Zl, Zu, Zj, Zr, Z00, Z02, Zv, Zp] <;> rfl
theorem run_append : RunO (peval T C (.append a b) ve σ) P = RunO (peval T C a ve σ) fun x σ₁ => RunO (peval T C b ve σ₁) fun y σ₂ => RunO (opAppend x y σ₂) P := run_two fun ve σ => by simp only [Zk, Zq, Z03, Zt, Zz, Z01, Zo, Zi, Zy, Zx, Zw, Zs, Zm, Zn, Zl, Zu, Zj, Zr, Z00, Z02, Zv, Zp] <;> rfl
theorem run_extend : RunO (peval T C (.extend a b) ve σ) P = RunO (peval T C a ve σ) fun x σ₁ => RunO (peval T C b ve σ₁) fun y σ₂ => RunO (opExtend x y σ₂) P := run_two fun ve σ => by simp only [Zk, Zq, Z03, Zt, Zz, Z01, Zo, Zi, Zy, Zx, Zw, Zs, Zm, Zn, Zl, Zu, Zj, Zr, Z00, Z02, Zv, Zp] <;> rfl
theorem run_split : RunO (peval T C (.split a b) ve σ) P = RunO (peval T C a ve σ) fun x σ₁ => RunO (peval T C b ve σ₁) fun y σ₂ => RunO (opSplit x y σ₂) P := run_two fun ve σ => by simp only [Zk, Zq, Z03, Zt, Zz, Z01, Zo, Zi, Zy, Zx, Zw, Zs, Zm, Zn, Zl, Zu, Zj, Zr, Z00, Z02, Zv, Zp] <;> rfl
theorem run_call {f : Nat} : RunO (peval T C (.call f as) ve σ) P = RunL (pevals T C as ve σ) fun ds σ₁ => RunO (C f ds σ₁) P := by
  simp only [Zk, Zq, Z03, Zt, Zz, Z01, Zo, Zi, Zy, Zx, Zw, Zs, Zm, Zn, Zl, Zu, Zj, Zr, Z00, Z02, Zv, Zp]
  cases pevals T C as ve σ <;> rfl
theorem run_bi {f : BI} : RunO (peval T C (.bi f as) ve σ) P = RunL (pevals T C as ve σ) fun ds σ₁ => RunO (opBi f ds σ₁) P := by
  simp only [Zk, Zq, Z03, Zt, Zz, Z01, Zo, Zi, Zy, Zx, Zw, Zs, Zm, Zn, Zl, Zu, Zj, Zr, Z00, Z02, Zv, Zp]
  cases pevals T C as ve σ <;> rfl
theorem run_tup : RunO (peval T C (.tup as) ve σ) P = RunL (pevals T C as ve σ) fun ds σ₁ => ds.length ≤ 1000 ∧ P (.tup ds) σ₁ := by
  simp only [Zk, Zq, Z03, Zt, Zz, Z01, Zo, Zi, Zy, Zx, Zw, Zs, Zm, Zn, Zl, Zu, Zj, Zr, Z00, Z02, Zv, Zp]
  cases pevals T C as ve σ with
  | none => rfl
  | some q =>
    obtain ⟨ds, σ₁⟩ := q
    show RunO (if ds.length ≤ 1000 then _ else _) P = (ds.length ≤ 1000 ∧ _)
    split
    · rename_i h; simp [h, RunO]
    · rename_i h; simp [h, RunO]
theorem run_list : RunO (peval T C (.list as) ve σ) P = RunL (pevals T C as ve σ) fun ds σ₁ => ds.length ≤ 1000 ∧ P (.ref σ₁.length) (σ₁ ++ [ds]) := by
  simp only [Zk, Zq, Z03, Zt, Zz, Z01, Zo, Zi, Zy, Zx, Zw, Zs, Zm, Zn, Zl, Zu, Zj, Zr, Z00, Z02, Zv, Zp]
  cases pevals T C as ve σ with
  | none => rfl
  | some q =>
    obtain ⟨ds, σ₁⟩ := q
    show RunO (if ds.length ≤ 1000 then _ else _) P = (ds.length ≤ 1000 ∧ _)
    split
    · rename_i h; simp [h, RunO]
    · rename_i h; simp [h, RunO]
theorem run_comp {elt it : PE} {nl : Nat} {fr : List Nat} {t : Tgt} {ifs : PEs} : RunO (peval T C (.comp elt nl fr t it ifs) ve σ) P = RunO (peval T C it ve σ) fun src σ₁ => (match itemsOf src σ₁ with
    | some all => RunT (cloop (fun ve' σ' => ptests T C ifs ve' σ') (fun ve' σ' => peval T C elt ve' σ') t src all σ₁.length all (List.replicate nl none ++ fr.map fun i => getVar ve i) (σ₁ ++ [[]])) fun σ₂ => P (.ref σ₁.length) σ₂
    | none => False) := by
  simp only [Zk, Zq, Z03, Zt, Zz, Z01, Zo, Zi, Zy, Zx, Zw, Zs, Zm, Zn, Zl, Zu, Zj, Zr, Z00, Z02, Zv, Zp]
  cases peval T C it ve σ with
  | none => rfl
  | some q =>
    obtain ⟨src, σ₁⟩ := q
    show RunO (match itemsOf src σ₁ with | some all => _ | _ => none) P = (match itemsOf src σ₁ with | some all => _ | none => False)
    cases itemsOf src σ₁ with
    | none => rfl
    | some all =>
      dsimp only
      cases cloop (fun ve' σ' => ptests T C ifs ve' σ') (fun ve' σ' => peval T C elt ve' σ') t src all σ₁.length all (List.replicate nl none ++ fr.map fun i => getVar ve i) (σ₁ ++ [[]]) <;> rfl
theorem runL_nil : RunL (pevals T C .nil ve σ) PL = PL [] σ := rfl
theorem runL_cons : RunL (pevals T C (.cons e as) ve σ) PL = RunO (peval T C e ve σ) fun d σ₁ => RunL (pevals T C as ve σ₁) fun ds σ₂ => PL (d :: ds) σ₂ := by
  simp only [Z05, Z04]
  cases peval T C e ve σ with
  | none => rfl
  | some q =>
    obtain ⟨d, σ₁⟩ := q
    dsimp only
    rw [run_ok]
    cases pevals T C as ve σ₁ <;> rfl

/-! statements -/
variable {t : Tgt} {body rest : PSs} {st : PS} {pa pb : PSs}
theorem runX_assign : RunX (pexec T C (.assign t e) ve σ) PX = RunO (peval T C e ve σ) fun d σ₁ => RunV (store t d ve) fun ve' => PX none ve' σ₁ := by
  simp only [Z09, Z08, Z0e, Z0a, Z0d, Z0b, Z0c, Z0f]
  cases peval T C e ve σ with
  | none => rfl
  | some q =>
    obtain ⟨d, σ₁⟩ := q
    dsimp only
    rw [run_ok]
    cases store t d ve <;> rfl
theorem runX_setitem {l k : PE} : RunX (pexec T C (.setitem l k e) ve σ) PX = RunO (peval T C e ve σ) fun x σ₁ => RunO (peval T C l ve σ₁) fun a σ₂ => RunO (peval T C k ve σ₂) fun i σ₃ => RunT (opSetItem a i x σ₃) fun σ₄ => PX none ve σ₄ := by
  simp only [Z09, Z08, Z0e, Z0a, Z0d, Z0b, Z0c, Z0f]
  cases peval T C e ve σ with
  | none => rfl
  | some q =>
    obtain ⟨x, σ₁⟩ := q
    dsimp only
    rw [run_ok]
    cases peval T C l ve σ₁ with
    | none => rfl
    | some q =>
      obtain ⟨a, σ₂⟩ := q
      dsimp only
      rw [run_ok]
      cases peval T C k ve σ₂ with
      | none => rfl
      | some q =>
        obtain ⟨i, σ₃⟩ := q
        dsimp only
        rw [run_ok]
        cases opSetItem a i x σ₃ <;> rfl
theorem runX_expr : RunX (pexec T C (.expr e) ve σ) PX = RunO (peval T C e ve σ) fun d σ₁ => PX none ve σ₁ := by
  simp only [Z09, Z08, Z0e, Z0a, Z0d, Z0b, Z0c, Z0f]
  cases peval T C e ve σ <;> rfl
theorem runX_ret : RunX (pexec T C (.ret e) ve σ) PX = RunO (peval T C e ve σ) fun d σ₁ => PX (some d) ve σ₁ := by
  simp only [Z09, Z08, Z0e, Z0a, Z0d, Z0b, Z0c, Z0f]
  cases peval T C e ve σ <;> rfl
theorem runX_ite : RunX (pexec T C (.ite c pa pb) ve σ) PX = RunO (peval T C c ve σ) fun x σ₁ => OnBool x (RunX (pexecs T C pa ve σ₁) PX) (RunX (pexecs T C pb ve σ₁) PX) := by
  simp only [Z09, Z08, Z0e, Z0a, Z0d, Z0b, Z0c, Z0f]
  cases peval T C c ve σ with
  | none => rfl
  | some q =>
    obtain ⟨d, σ₁⟩ := q
    cases d with
    | bool x => cases x <;> rfl
    | _ => rfl
theorem runX_loop {it : PE} : RunX (pexec T C (.loop t it body) ve σ) PX = RunO (peval T C it ve σ) fun src σ₁ => (match itemsOf src σ₁ with
    | some all => RunX (floop (fun ve' σ' => pexecs T C body ve' σ') t src all all ve σ₁) PX
    | none => False) := by
  simp only [Z09, Z08, Z0e, Z0a, Z0d, Z0b, Z0c, Z0f]
  cases peval T C it ve σ with
  | none => rfl
  | some q =>
    obtain ⟨src, σ₁⟩ := q
    show RunX (match itemsOf src σ₁ with | some all => _ | _ => none) PX = (match itemsOf src σ₁ with | some all => _ | none => False)
    cases itemsOf src σ₁ <;> rfl
theorem runX_while : RunX (pexec T C (.while c body) ve σ) PX = RunX (wloop (fun ve' σ' => peval T C c ve' σ') (fun ve' σ' => pexecs T C body ve' σ') 20 ve σ) PX := by
  simp only [Z09, Z08, Z0e, Z0a, Z0d, Z0b, Z0c, Z0f]
noncomputable def OnNone (r : Option D) (ve : VEnv) (σ : Sto) (PX : Option D → VEnv → Sto → Prop) (k : VEnv → Sto → Prop) : Prop := match r with | some d => PX (some d) ve σ | none => k ve σ
theorem runB_nil : RunX (pexecs T C .nil ve σ) PX = PX none ve σ := rfl
theorem runB_cons : RunX (pexecs T C (.cons st rest) ve σ) PX = RunX (pexec T C st ve σ) fun r ve₁ σ₁ => OnNone r ve₁ σ₁ PX fun ve₁ σ₁ => RunX (pexecs T C rest ve₁ σ₁) PX := by
  simp only [Z0h, Z0g]
  cases pexec T C st ve σ with
  | none => rfl
  | some q =>
    obtain ⟨r, ve₁, σ₁⟩ := q
    cases r <;> rfl
theorem Zh {d : D} {k : VEnv → Sto → Prop} : OnNone (some d) ve σ PX k = PX (some d) ve σ := rfl
theorem Zg {k : VEnv → Sto → Prop} : OnNone none ve σ PX k = k ve σ := rfl
theorem Ze {p q : Prop} : OnBool (.bool true) p q = p := rfl
theorem Zd {p q : Prop} : OnBool (.bool false) p q = q := rfl
theorem onBool_dec {p q r : Prop} [Decidable r] : OnBool (.bool (decide r)) p q = (if r then p else q) := by
  by_cases h : r <;> simp [h, OnBool]
theorem Zf {i : Int} {k : Int → Prop} : OnInt (.int i) k = k i := rfl

/-! operations -/
theorem getVar_0 {x : Option D} {l : VEnv} : getVar (x :: l) 0 = x := by cases x <;> rfl
theorem getVar_succ {x : Option D} {l : VEnv} {n : Nat} : getVar (x :: l) (n + 1) = getVar l n := rfl
theorem item_0 {a : D} {l : List D} : RunO (opItem (.tup (a :: l)) (.int 0) σ) P = P a σ := rfl
theorem item_1 {a b : D} {l : List D} : RunO (opItem (.tup (a :: b :: l)) (.int 1) σ) P = P b σ := by
  simp [opItem, smallInt, seqIdx, RunO]
theorem item_2 {a b c : D} {l : List D} : RunO (opItem (.tup (a :: b :: c :: l)) (.int 2) σ) P = P c σ := by
  simp [opItem, smallInt, seqIdx, RunO]
theorem item_3 {a b c d : D} {l : List D} : RunO (opItem (.tup (a :: b :: c :: d :: l)) (.int 3) σ) P = P d σ := by
  simp [opItem, smallInt, seqIdx, RunO]
theorem item_4 {a b c d e : D} {l : List D} : RunO (opItem (.tup (a :: b :: c :: d :: e :: l)) (.int 4) σ) P = P e σ := by
  simp [opItem, smallInt, seqIdx, RunO]
theorem item_5 {a b c d e f : D} {l : List D} : RunO (opItem (.tup (a :: b :: c :: d :: e :: f :: l)) (.int 5) σ) P = P f σ := by
  simp [opItem, smallInt, seqIdx, RunO]
theorem item_6 {a b c d e f g : D} {l : List D} : RunO (opItem (.tup (a :: b :: c :: d :: e :: f :: g :: l)) (.int 6) σ) P = P g σ := by
  simp [opItem, smallInt, seqIdx, RunO]
theorem item_ref {r : Nat} {k : Int} : RunO (opItem (.ref r) (.int k) σ) P = (match σ[r]? with | some l => RunO (opItem (.tup l) (.int k) σ) P | none => False) := by
  unfold opItem
  dsimp only
  split
  · cases σ[r]? <;> rfl
  · cases σ[r]? <;> rfl
theorem eq_str {x y : List Nat} {Q : Bool → Prop} : RunM (opCmp .eq (.str x) (.str y) σ) Q = Q (x == y) := rfl
theorem ne_str {x y : List Nat} {Q : Bool → Prop} : RunM (opCmp .ne (.str x) (.str y) σ) Q = Q (!(x == y)) := rfl
theorem eq_int {x y : Int} {Q : Bool → Prop} : RunM (opCmp .eq (.int x) (.int y) σ) Q = Q (decide (x = y)) := rfl
theorem ne_int {x y : Int} {Q : Bool → Prop} : RunM (opCmp .ne (.int x) (.int y) σ) Q = Q (!decide (x = y)) := rfl
theorem is_none {x : D} {Q : Bool → Prop} : RunM (opCmp .is x .none σ) Q = Q (isNoneD x) := rfl
theorem isnot_none {x : D} {Q : Bool → Prop} : RunM (opCmp .isnot x .none σ) Q = Q (!isNoneD x) := rfl
theorem lt_int {x y : Int} {Q : Bool → Prop} : RunM (opCmp .lt (.int x) (.int y) σ) Q = Q (decide (x < y)) := rfl
theorem le_int {x y : Int} {Q : Bool → Prop} : RunM (opCmp .le (.int x) (.int y) σ) Q = Q (decide (x ≤ y)) := rfl
theorem gt_int {x y : Int} {Q : Bool → Prop} : RunM (opCmp .gt (.int x) (.int y) σ) Q = Q (decide (x > y)) := rfl
theorem ge_int {x y : Int} {Q : Bool → Prop} : RunM (opCmp .ge (.int x) (.int y) σ) Q = Q (decide (x ≥ y)) := rfl
theorem add_str {x y : List Nat} : RunO (opBin .add (.str x) (.str y) σ) P = (x.length + y.length ≤ sizeCap ∧ P (.str (x ++ y)) σ) := by
  show RunO (strOk (x ++ y) σ) P = _
  unfold strOk
  rw [List.length_append]
  split
  · rename_i h; simp [h, RunO]
  · rename_i h; simp [h, RunO]
theorem add_int {x y : Int} : RunO (opBin .add (.int x) (.int y) σ) P = P (.int (x + y)) σ := rfl
theorem sub_int {x y : Int} : RunO (opBin .sub (.int x) (.int y) σ) P = P (.int (x - y)) σ := rfl
theorem mul_int {x y : Int} (h1 : smallInt x = true) (h2 : smallInt y = true) (h : P (.int (x * y)) σ) : RunO (opBin .mul (.int x) (.int y) σ) P := by
  show RunO (if smallInt x && smallInt y then some (.int (x * y), σ) else none) P
  rw [h1, h2]; exact h
theorem mod_int {x y : Int} : RunO (opBin .mod (.int x) (.int y) σ) P = ((0 < y ∧ y < 2 ^ 62 ∧ 0 ≤ x) ∧ P (.int (x % y)) σ) := by
  show RunO (if 0 < y ∧ y < 2 ^ 62 ∧ 0 ≤ x then some (.int (x % y), σ) else none) P = _
  split
  · rename_i h; simp only [RunO]; exact propext ⟨fun q => ⟨h, q⟩, fun q => q.2⟩
  · rename_i h; simp only [RunO]; exact propext ⟨False.elim, fun q => h q.1⟩
theorem div_int {x y : Int} : RunO (opBin .fdiv (.int x) (.int y) σ) P = ((0 < y ∧ y < 1073741824 ∧ 0 ≤ x) ∧ P (.int (x / y)) σ) := by
  show RunO (if 0 < y ∧ y < 1073741824 ∧ 0 ≤ x then some (.int (x / y), σ) else none) P = _
  split
  · rename_i h; simp only [RunO]; exact propext ⟨fun q => ⟨h, q⟩, fun q => q.2⟩
  · rename_i h; simp only [RunO]; exact propext ⟨False.elim, fun q => h q.1⟩
theorem smallInt_of {x : Int} (h1 : -(2 ^ 62) ≤ x) (h2 : x < 2 ^ 62) : smallInt x = true := by
  unfold smallInt
  rw [Bool.and_eq_true, decide_eq_true_eq, decide_eq_true_eq]
  exact ⟨h1, h2⟩

/-! the store -/
noncomputable def Gs (S : List Nat) (σ σ' : Sto) : Prop := σ.length ≤ σ'.length ∧ ∀ j, j < σ.length → j ∉ S → σ'[j]? = σ[j]?
theorem Gs.refl {S : List Nat} : Gs S σ σ := ⟨Nat.le_refl _, fun _ _ _ => rfl⟩
theorem Gs.trans {S : List Nat} {σ σ' σ'' : Sto} (h : Gs S σ σ') (h' : Gs S σ' σ'') : Gs S σ σ'' :=
  ⟨Nat.le_trans h.1 h'.1, fun j hj hn => (h'.2 j (Nat.lt_of_lt_of_le hj h.1) hn).trans (h.2 j hj hn)⟩
theorem Gs.weaken {S S' : List Nat} {σ σ' : Sto} (h : Gs S σ σ') (hs : ∀ j, j ∈ S → j ∈ S') : Gs S' σ σ' := ⟨h.1, fun j hj hn => h.2 j hj fun q => hn (hs j q)⟩
theorem Gs.app {S : List Nat} {l : Sto} : Gs S σ (σ ++ l) := ⟨by rw [List.length_append]; omega, fun j hj _ => List.getElem?_append_left hj⟩
theorem Gs.at {S : List Nat} {σ σ' : Sto} (h : Gs S σ σ') {j : Nat} {l : List D} (e : σ[j]? = some l) (hn : j ∉ S) : σ'[j]? = some l := (h.2 j (List.getElem?_eq_some_iff.mp e).1 hn).trans e
theorem Gs.up {σ σ' : Sto} {S : List Nat} (h : Gs [] σ σ') : Gs S σ σ' := h.weaken fun _ q => nomatch q
theorem get_new {l : List D} : (σ ++ [l])[σ.length]? = some l := by simp
theorem get_lt {j : Nat} {l : List D} (e : σ[j]? = some l) : j < σ.length := (List.getElem?_eq_some_iff.mp e).1
end
end Mine
end

section
open PySem
namespace Mine
/-! ### the evaluator, told by what must hold behind it -/
noncomputable def wVar : VEnv → Nat → (D → Prop) → Prop
  | [], _, _ => False
  | x :: _, 0, Q => (match x with | some d => Q d | none => False)
  | _ :: l, n + 1, Q => wVar l n Q
noncomputable def wSet : VEnv → Nat → D → (VEnv → Prop) → Prop
  | [], _, _, _ => False
  | _ :: l, 0, d, Q => Q (some d :: l)
  | x :: l, n + 1, d, Q => wSet l n d fun l' => Q (x :: l')
noncomputable def wSets : VEnv → List Nat → List D → (VEnv → Prop) → Prop
  | ve, [], [], Q => Q ve
  | ve, i :: is, d :: ds, Q => wSet ve i d fun ve' => wSets ve' is ds Q
  | _, _, _, _ => False
noncomputable def wStore (t : Tgt) (d : D) (ve : VEnv) (Q : VEnv → Prop) : Prop := match t with
  | .one i => wSet ve i d Q
  | .many is => (match d with | .tup ds => wSets ve is ds Q | _ => False)
noncomputable def wNth : Nat → List D → Nat → (D → Prop) → Prop
  | 0, _, _, _ => False
  | _ + 1, [], _, _ => False
  | _ + 1, a :: _, 0, Q => Q a
  | f + 1, _ :: l, n + 1, Q => wNth f l n Q
noncomputable def wItem (d k : D) (σ : Sto) (P : D → Sto → Prop) : Prop := match d with
  | .tup l => (match k with | .int i => (match i with | .ofNat n => wNth 12 l n fun x => P x σ | _ => False) | _ => False)
  | d => RunO (opItem d k σ) P
noncomputable def wAdd (a b : D) (σ : Sto) (P : D → Sto → Prop) : Prop := match a with
  | .str x => (match b with | .str y => x.length + y.length ≤ sizeCap ∧ P (.str (x ++ y)) σ | _ => False)
  | .int x => (match b with | .int y => P (.int (x + y)) σ | _ => False)
  | a => RunO (opBin .add a b σ) P
noncomputable def wInts (a b : D) (P : Int → Int → Prop) : Prop := match a with
  | .int x => (match b with | .int y => P x y | _ => False)
  | _ => False
noncomputable def wBin (op : BOp) (a b : D) (σ : Sto) (P : D → Sto → Prop) : Prop := match op with
  | .add => wAdd a b σ P
  | .sub => wInts a b fun x y => P (.int (x - y)) σ
  | .mul => wInts a b fun x y => (smallInt x = true ∧ smallInt y = true) ∧ P (.int (x * y)) σ
  | .mod => wInts a b fun x y => (0 < y ∧ y < 4611686018427387904 ∧ 0 ≤ x) ∧ P (.int (x % y)) σ
  | .fdiv => wInts a b fun x y => (0 < y ∧ y < 1073741824 ∧ 0 ≤ x) ∧ P (.int (x / y)) σ
  | .pow => RunO (opBin .pow a b σ) P
noncomputable def wEq (a b : D) (σ : Sto) (Q : Bool → Prop) : Prop := match a with
  | .str x => (match b with | .str y => Q (x == y) | _ => False)
  | .int x => (match b with | .int y => Q (x == y) | _ => False)
  | a => RunM (opCmp .eq a b σ) Q
noncomputable def wCmp (op : COp) (a b : D) (σ : Sto) (Q : Bool → Prop) : Prop := match op with
  | .eq => wEq a b σ Q
  | .ne => wEq a b σ fun r => Q (!r)
  | .is => (match b with | .none => Q (isNoneD a) | _ => False)
  | .isnot => (match b with | .none => Q (!isNoneD a) | _ => False)
  | .lt => wInts a b fun x y => Q (decide (x < y))
  | .le => wInts a b fun x y => Q (decide (x ≤ y))
  | .gt => wInts a b fun x y => Q (decide (x > y))
  | .ge => wInts a b fun x y => Q (decide (x ≥ y))
  | op => RunM (opCmp op a b σ) Q
noncomputable def few : PEs → Nat → Bool
  | .nil, _ => true
  | .cons _ _, 0 => false
  | .cons _ r, n + 1 => few r n
mutual
noncomputable def wE (T : List (List Nat × Int)) (C : CallT) : PE → VEnv → Sto → (D → Sto → Prop) → Prop
  | .const d, _, σ, P => P d σ
  | .var i, ve, σ, P => wVar ve i fun d => P d σ
  | .item e i, ve, σ, P => wE T C e ve σ fun d σ₁ => wE T C i ve σ₁ fun k σ₂ => wItem d k σ₂ P
  | .slice e lo hi st, ve, σ, P => wE T C e ve σ fun d σ₁ => RunO (opSlice d lo hi st σ₁) P
  | .tab e, ve, σ, P => wE T C e ve σ fun d σ₁ => (match d with | .str x => ∃ i, T.lookup x = some i ∧ P (.int i) σ₁ | _ => False)
  | .cmp op a b, ve, σ, P => wE T C a ve σ fun x σ₁ => wE T C b ve σ₁ fun y σ₂ => wCmp op x y σ₂ fun r => P (.bool r) σ₂
  | .and a b, ve, σ, P => wE T C a ve σ fun x σ₁ => OnBool x (wE T C b ve σ₁ fun y σ₂ => OnBool y (P (.bool true) σ₂) (P (.bool false) σ₂)) (P (.bool false) σ₁)
  | .or a b, ve, σ, P => wE T C a ve σ fun x σ₁ => OnBool x (P (.bool true) σ₁) (wE T C b ve σ₁ fun y σ₂ => OnBool y (P (.bool true) σ₂) (P (.bool false) σ₂))
  | .not a, ve, σ, P => wE T C a ve σ fun x σ₁ => OnBool x (P (.bool false) σ₁) (P (.bool true) σ₁)
  | .neg a, ve, σ, P => wE T C a ve σ fun x σ₁ => OnInt x fun i => P (.int (-i)) σ₁
  | .ite c a b, ve, σ, P => wE T C c ve σ fun x σ₁ => OnBool x (wE T C a ve σ₁ P) (wE T C b ve σ₁ P)
  | .bin op a b, ve, σ, P => wE T C a ve σ fun x σ₁ => wE T C b ve σ₁ fun y σ₂ => wBin op x y σ₂ P
  | .join a b, ve, σ, P => wE T C a ve σ fun x σ₁ => wE T C b ve σ₁ fun y σ₂ => RunO (opJoin x y σ₂) P
  | .append a b, ve, σ, P => wE T C a ve σ fun x σ₁ => wE T C b ve σ₁ fun y σ₂ => RunO (opAppend x y σ₂) P
  | .extend a b, ve, σ, P => wE T C a ve σ fun x σ₁ => wE T C b ve σ₁ fun y σ₂ => RunO (opExtend x y σ₂) P
  | .split a b, ve, σ, P => wE T C a ve σ fun x σ₁ => wE T C b ve σ₁ fun y σ₂ => RunO (opSplit x y σ₂) P
  | .call f as, ve, σ, P => wL T C as ve σ fun ds σ₁ => RunO (C f ds σ₁) P
  | .bi f as, ve, σ, P => wL T C as ve σ fun ds σ₁ => RunO (opBi f ds σ₁) P
  | .tup as, ve, σ, P => cond (few as 40) (wL T C as ve σ fun ds σ₁ => P (.tup ds) σ₁) False
  | .list as, ve, σ, P => cond (few as 40) (wL T C as ve σ fun ds σ₁ => P (.ref σ₁.length) (σ₁ ++ [ds])) False
  | .comp elt nl fr t it ifs, ve, σ, P => wE T C it ve σ fun src σ₁ => ∃ all, itemsOf src σ₁ = some all ∧
      RunT (cloop (fun ve' σ' => ptests T C ifs ve' σ') (fun ve' σ' => peval T C elt ve' σ') t src all σ₁.length all (List.replicate nl none ++ fr.map fun i => getVar ve i) (σ₁ ++ [[]])) fun σ₂ => P (.ref σ₁.length) σ₂
  | .bad, _, _, _ => False
noncomputable def wL (T : List (List Nat × Int)) (C : CallT) : PEs → VEnv → Sto → (List D → Sto → Prop) → Prop
  | .nil, _, σ, P => P [] σ
  | .cons e as, ve, σ, P => wE T C e ve σ fun d σ₁ => wL T C as ve σ₁ fun ds σ₂ => P (d :: ds) σ₂
end
mutual
noncomputable def wS (T : List (List Nat × Int)) (C : CallT) : PS → VEnv → Sto → (Option D → VEnv → Sto → Prop) → Prop
  | .assign t e, ve, σ, P => wE T C e ve σ fun d σ₁ => wStore t d ve fun ve' => P none ve' σ₁
  | .setitem l k e, ve, σ, P => wE T C e ve σ fun x σ₁ => wE T C l ve σ₁ fun a σ₂ => wE T C k ve σ₂ fun i σ₃ => RunT (opSetItem a i x σ₃) fun σ₄ => P none ve σ₄
  | .expr e, ve, σ, P => wE T C e ve σ fun d σ₁ => P none ve σ₁
  | .ret e, ve, σ, P => wE T C e ve σ fun d σ₁ => P (some d) ve σ₁
  | .ite c a b, ve, σ, P => wE T C c ve σ fun x σ₁ => OnBool x (wB T C a ve σ₁ P) (wB T C b ve σ₁ P)
  | .loop t it body, ve, σ, P => wE T C it ve σ fun src σ₁ => ∃ all, itemsOf src σ₁ = some all ∧ RunX (floop (fun ve' σ' => pexecs T C body ve' σ') t src all all ve σ₁) P
  | .while c body, ve, σ, P => RunX (wloop (fun ve' σ' => peval T C c ve' σ') (fun ve' σ' => pexecs T C body ve' σ') 20 ve σ) P
  | .bad, _, _, _ => False
noncomputable def wB (T : List (List Nat × Int)) (C : CallT) : PSs → VEnv → Sto → (Option D → VEnv → Sto → Prop) → Prop
  | .nil, ve, σ, P => P none ve σ
  | .cons s r, ve, σ, P => wS T C s ve σ fun x ve₁ σ₁ => OnNone x ve₁ σ₁ P fun ve₂ σ₂ => wB T C r ve₂ σ₂ P
end

theorem wVar_ok : ∀ {ve : VEnv} {i : Nat} {Q : D → Prop}, wVar ve i Q → ∃ d, getVar ve i = some d ∧ Q d
  | [], _, _, h => h.elim
  | some d :: _, 0, _, h => ⟨d, rfl, h⟩
  | none :: _, 0, _, h => h.elim
  | _ :: l, n + 1, _, h => wVar_ok (ve := l) h
theorem wSet_ok : ∀ {ve : VEnv} {i : Nat} {d : D} {Q : VEnv → Prop}, wSet ve i d Q → ∃ ve', setVar ve i d = some ve' ∧ Q ve'
  | [], _, _, _, h => h.elim
  | _ :: l, 0, d, _, h => ⟨some d :: l, by simp [setVar], h⟩
  | x :: l, n + 1, d, Q, h => by
    obtain ⟨l', e, q⟩ := wSet_ok (ve := l) (i := n) h
    refine ⟨x :: l', ?_, q⟩
    unfold setVar at e ⊢
    by_cases hn : n < l.length
    · rw [if_pos hn] at e; cases e; simp [hn]
    · rw [if_neg hn] at e; cases e
theorem wSets_ok : ∀ {is : List Nat} {ds : List D} {ve : VEnv} {Q : VEnv → Prop}, wSets ve is ds Q → ∃ ve', setVars ve is ds = some ve' ∧ Q ve'
  | [], [], ve, _, h => ⟨ve, rfl, by unfold wSets at h; exact h⟩
  | [], _ :: _, _, _, h => by unfold wSets at h; exact h.elim
  | _ :: _, [], _, _, h => by unfold wSets at h; exact h.elim
  | i :: is, d :: ds, ve, Q, h => by
    unfold wSets at h
    obtain ⟨ve₁, e, h1⟩ := wSet_ok h
    obtain ⟨ve₂, e2, h2⟩ := wSets_ok h1
    refine ⟨ve₂, ?_, h2⟩
    show (match setVar ve i d with | some ve' => setVars ve' is ds | _ => none) = _
    rw [e]; exact e2
theorem wStore_ok {t : Tgt} {d : D} {ve : VEnv} {Q : VEnv → Prop} (h : wStore t d ve Q) : ∃ ve', store t d ve = some ve' ∧ Q ve' := by
  cases t with
  | one i => exact wSet_ok h
  | many is =>
    cases d with
    | tup ds => exact wSets_ok h
    | _ => exact h.elim
theorem wNth_ok : ∀ {f : Nat} {l : List D} {n : Nat} {Q : D → Prop}, wNth f l n Q → n < f ∧ ∃ d, l[n]? = some d ∧ Q d
  | 0, _, _, _, h => h.elim
  | _ + 1, [], _, _, h => h.elim
  | _ + 1, a :: _, 0, _, h => ⟨Nat.succ_pos _, a, rfl, h⟩
  | f + 1, _ :: l, n + 1, _, h => by
    obtain ⟨a, d, b, c⟩ := wNth_ok (f := f) (l := l) (n := n) h
    exact ⟨Nat.succ_lt_succ a, d, by simpa using b, c⟩

section
variable {σ : Sto} {P : D → Sto → Prop} {Q : Bool → Prop}
theorem nth_run {f : Nat} {i : Int} {l : List D} (hf : f ≤ 1000) (h0 : 0 ≤ i) (h : wNth f l i.toNat fun x => P x σ) : RunO (opItem (.tup l) (.int i) σ) P := by
  obtain ⟨h1, d, h2, h3⟩ := wNth_ok h
  have hl : i.toNat < l.length := (List.getElem?_eq_some_iff.mp h2).1
  have e : smallInt i = true := smallInt_of (by omega) (by omega)
  have e3 : seqIdx i l.length = some i.toNat := by
    unfold seqIdx
    rw [if_pos h0, if_pos hl]
  unfold opItem
  dsimp only
  rw [if_pos e, e3]
  dsimp only
  rw [h2]
  exact h3
theorem nat_of {Q : D → Prop} {f : Nat} {l : List D} : ∀ {i : Int}, (match i with | .ofNat n => wNth f l n Q | _ => False) → 0 ≤ i ∧ wNth f l i.toNat Q
  | .ofNat n, h => ⟨Int.natCast_nonneg n, h⟩
  | .negSucc n, h => h.elim
theorem wItem_ok {d k : D} (h : wItem d k σ P) : RunO (opItem d k σ) P := by
  unfold wItem at h
  cases d with
  | tup l =>
    cases k with
    | int i =>
      have h' := nat_of h
      exact nth_run (f := 12) (by decide) h'.1 h'.2
    | _ => dsimp only at h
  | _ => exact h
theorem wInts_ok {a b : D} {R : Int → Int → Prop} (h : wInts a b R) : ∃ x y, a = .int x ∧ b = .int y ∧ R x y := by
  cases a with
  | int x =>
    cases b with
    | int y => exact ⟨x, y, rfl, rfl, h⟩
    | _ => exact h.elim
  | _ => exact h.elim
theorem wBin_ok {op : BOp} {a b : D} (h : wBin op a b σ P) : RunO (opBin op a b σ) P := by
  cases op with
  | add =>
    cases a with
    | str x =>
      cases b with
      | str y => rw [add_str]; exact h
      | _ => exact h.elim
    | int x =>
      cases b with
      | int y => exact h
      | _ => exact h.elim
    | _ => exact h
  | sub => obtain ⟨x, y, rfl, rfl, h⟩ := wInts_ok h; exact h
  | mul => obtain ⟨x, y, rfl, rfl, ⟨h1, h2⟩, h⟩ := wInts_ok h; exact mul_int h1 h2 h
  | mod =>
    obtain ⟨x, y, rfl, rfl, ⟨h1, h2, h3⟩, h⟩ := wInts_ok h
    rw [mod_int]
    exact ⟨⟨h1, by omega, h3⟩, h⟩
  | fdiv => obtain ⟨x, y, rfl, rfl, h⟩ := wInts_ok h; rw [div_int]; exact h
  | pow => exact h
theorem wEq_ok {a b : D} (h : wEq a b σ Q) : RunM (opCmp .eq a b σ) Q := by
  cases a with
  | str x =>
    cases b with
    | str y => exact h
    | _ => exact h.elim
  | int x =>
    cases b with
    | int y => exact h
    | _ => exact h.elim
  | _ => exact h
theorem RunM.map {o : Option Bool} (h : RunM o fun r => Q (!r)) : RunM (o.map (!·)) Q := by
  cases o <;> exact h
theorem wCmp_ok {op : COp} {a b : D} (h : wCmp op a b σ Q) : RunM (opCmp op a b σ) Q := by
  cases op with
  | eq => exact wEq_ok h
  | ne => exact RunM.map (wEq_ok (show wEq a b σ (fun r => Q (!r)) from h))
  | is =>
    cases b with
    | none => exact h
    | _ => exact h.elim
  | isnot =>
    cases b with
    | none => exact h
    | _ => exact h.elim
  | lt => obtain ⟨x, y, rfl, rfl, h⟩ := wInts_ok h; exact h
  | le => obtain ⟨x, y, rfl, rfl, h⟩ := wInts_ok h; exact h
  | gt => obtain ⟨x, y, rfl, rfl, h⟩ := wInts_ok h; exact h
  | ge => obtain ⟨x, y, rfl, rfl, h⟩ := wInts_ok h; exact h
  | inn => exact h
  | notin => exact h
end
theorem OnBool.mono {d : D} {p q p' q' : Prop} (h : OnBool d p q) (h1 : p → p') (h2 : q → q') : OnBool d p' q' := by
  cases d with
  | bool b => cases b <;> first | exact h1 h | exact h2 h
  | _ => exact h.elim
theorem OnInt.mono {d : D} {p q : Int → Prop} (h : OnInt d p) (h1 : ∀ i, p i → q i) : OnInt d q := by
  cases d with
  | int i => exact h1 i h
  | _ => exact h.elim
theorem RunL.mono {o : Option (List D × Sto)} {P Q : List D → Sto → Prop} (h : RunL o P) (k : ∀ d σ, P d σ → Q d σ) : RunL o Q := by
  cases o with
  | none => exact h
  | some q => exact k _ _ h
theorem few_len {T : List (List Nat × Int)} {C : CallT} : ∀ {as : PEs} {n : Nat} {ve : VEnv} {σ σ' : Sto} {ds : List D}, few as n = true → pevals T C as ve σ = some (ds, σ') → ds.length ≤ n
  | .nil, _, _, _, _, _, _, h => by simp only [Z05, Z04, Option.some.injEq, Prod.mk.injEq] at h; rw [← h.1]; exact Nat.zero_le _
  | .cons _ _, 0, _, _, _, _, hf, _ => by cases hf
  | .cons e r, n + 1, ve, σ, σ', ds, hf, h => by
    simp only [Z05, Z04] at h
    split at h
    · split at h
      · rename_i h2
        cases h
        have := few_len (as := r) (n := n) hf h2
        rw [List.length_cons]; omega
      · cases h
    · cases h
theorem RunL.withEq {o : Option (List D × Sto)} {P : List D → Sto → Prop} (h : RunL o P) : RunL o fun d σ => o = some (d, σ) ∧ P d σ := by
  cases o with
  | none => exact h
  | some q => exact ⟨rfl, h⟩
section
variable {T : List (List Nat × Int)} {C : CallT} {ve : VEnv} {σ : Sto} {P : D → Sto → Prop} {PL : List D → Sto → Prop} {PX : Option D → VEnv → Sto → Prop} {Q : Bool → Prop} {V : VEnv → Prop} {e a b c i : PE} {as : PEs}
theorem Z1i {d : D} : wE T C (.const d) ve σ P = P d σ := rfl
theorem Z28 {i : Nat} : wE T C (.var i) ve σ P = wVar ve i fun d => P d σ := rfl
theorem Z1r : wE T C (.item e i) ve σ P = wE T C e ve σ fun d σ₁ => wE T C i ve σ₁ fun k σ₂ => wItem d k σ₂ P := rfl
theorem Z23 {lo hi st : Option Int} : wE T C (.slice e lo hi st) ve σ P = wE T C e ve σ fun d σ₁ => RunO (opSlice d lo hi st σ₁) P := rfl
theorem Z26 : wE T C (.tab e) ve σ P = wE T C e ve σ fun d σ₁ => (match d with | .str x => ∃ i, T.lookup x = some i ∧ P (.int i) σ₁ | _ => False) := rfl
theorem Z1g {op : COp} : wE T C (.cmp op a b) ve σ P = wE T C a ve σ fun x σ₁ => wE T C b ve σ₁ fun y σ₂ => wCmp op x y σ₂ fun r => P (.bool r) σ₂ := rfl
theorem Z1b : wE T C (.and a b) ve σ P = wE T C a ve σ fun x σ₁ => OnBool x (wE T C b ve σ₁ fun y σ₂ => OnBool y (P (.bool true) σ₂) (P (.bool false) σ₂)) (P (.bool false) σ₁) := rfl
theorem Z21 : wE T C (.or a b) ve σ P = wE T C a ve σ fun x σ₁ => OnBool x (P (.bool true) σ₁) (wE T C b ve σ₁ fun y σ₂ => OnBool y (P (.bool true) σ₂) (P (.bool false) σ₂)) := rfl
theorem Z1z : wE T C (.not a) ve σ P = wE T C a ve σ fun x σ₁ => OnBool x (P (.bool false) σ₁) (P (.bool true) σ₁) := rfl
theorem Z1y : wE T C (.neg a) ve σ P = wE T C a ve σ fun x σ₁ => OnInt x fun i => P (.int (-i)) σ₁ := rfl
theorem Z1q : wE T C (.ite c a b) ve σ P = wE T C c ve σ fun x σ₁ => OnBool x (wE T C a ve σ₁ P) (wE T C b ve σ₁ P) := rfl
theorem Z1e {op : BOp} : wE T C (.bin op a b) ve σ P = wE T C a ve σ fun x σ₁ => wE T C b ve σ₁ fun y σ₂ => wBin op x y σ₂ P := rfl
theorem Z1s : wE T C (.join a b) ve σ P = wE T C a ve σ fun x σ₁ => wE T C b ve σ₁ fun y σ₂ => RunO (opJoin x y σ₂) P := rfl
theorem Z1c : wE T C (.append a b) ve σ P = wE T C a ve σ fun x σ₁ => wE T C b ve σ₁ fun y σ₂ => RunO (opAppend x y σ₂) P := rfl
theorem Z1k : wE T C (.extend a b) ve σ P = wE T C a ve σ fun x σ₁ => wE T C b ve σ₁ fun y σ₂ => RunO (opExtend x y σ₂) P := rfl
theorem Z24 : wE T C (.split a b) ve σ P = wE T C a ve σ fun x σ₁ => wE T C b ve σ₁ fun y σ₂ => RunO (opSplit x y σ₂) P := rfl
theorem Z1f {f : Nat} : wE T C (.call f as) ve σ P = wL T C as ve σ fun ds σ₁ => RunO (C f ds σ₁) P := rfl
theorem Z1d {f : BI} : wE T C (.bi f as) ve σ P = wL T C as ve σ fun ds σ₁ => RunO (opBi f ds σ₁) P := rfl
theorem Z27 : wE T C (.tup as) ve σ P = cond (few as 40) (wL T C as ve σ fun ds σ₁ => P (.tup ds) σ₁) False := rfl
theorem Z1u : wE T C (.list as) ve σ P = cond (few as 40) (wL T C as ve σ fun ds σ₁ => P (.ref σ₁.length) (σ₁ ++ [ds])) False := rfl
theorem Z1h {elt it : PE} {nl : Nat} {fr : List Nat} {t : Tgt} {ifs : PEs} : wE T C (.comp elt nl fr t it ifs) ve σ P = wE T C it ve σ fun src σ₁ => ∃ all, itemsOf src σ₁ = some all ∧
      RunT (cloop (fun ve' σ' => ptests T C ifs ve' σ') (fun ve' σ' => peval T C elt ve' σ') t src all σ₁.length all (List.replicate nl none ++ fr.map fun i => getVar ve i) (σ₁ ++ [[]])) fun σ₂ => P (.ref σ₁.length) σ₂ := rfl
theorem Z6 {n : Nat} : few .nil n = true := by cases n <;> rfl
theorem Z5 {n : Nat} : few (.cons e as) (n + 1) = few as n := rfl
theorem Z7 {n : Nat} : few .nil (n + 1) = true := rfl
theorem Z4 {p q : Prop} : cond true p q = p := rfl
theorem Z0v : wL T C .nil ve σ PL = PL [] σ := rfl
theorem Z0u : wL T C (.cons e as) ve σ PL = wE T C e ve σ fun d σ₁ => wL T C as ve σ₁ fun ds σ₂ => PL (d :: ds) σ₂ := rfl
variable {t : Tgt} {st : PS} {rest pa pb body : PSs}
theorem Z0w : wS T C (.assign t e) ve σ PX = wE T C e ve σ fun d σ₁ => wStore t d ve fun ve' => PX none ve' σ₁ := rfl
theorem Z11 {l k : PE} : wS T C (.setitem l k e) ve σ PX = wE T C e ve σ fun x σ₁ => wE T C l ve σ₁ fun a σ₂ => wE T C k ve σ₂ fun i σ₃ => RunT (opSetItem a i x σ₃) fun σ₄ => PX none ve σ₄ := rfl
theorem Z0x : wS T C (.expr e) ve σ PX = wE T C e ve σ fun d σ₁ => PX none ve σ₁ := rfl
theorem Z10 : wS T C (.ret e) ve σ PX = wE T C e ve σ fun d σ₁ => PX (some d) ve σ₁ := rfl
theorem Z0y : wS T C (.ite c pa pb) ve σ PX = wE T C c ve σ fun x σ₁ => OnBool x (wB T C pa ve σ₁ PX) (wB T C pb ve σ₁ PX) := rfl
theorem Z0z {it : PE} : wS T C (.loop t it body) ve σ PX = wE T C it ve σ fun src σ₁ => ∃ all, itemsOf src σ₁ = some all ∧ RunX (floop (fun ve' σ' => pexecs T C body ve' σ') t src all all ve σ₁) PX := rfl
theorem Z0j : wB T C .nil ve σ PX = PX none ve σ := rfl
theorem Z0i : wB T C (.cons st rest) ve σ PX = wS T C st ve σ fun x ve₁ σ₁ => OnNone x ve₁ σ₁ PX fun ve₂ σ₂ => wB T C rest ve₂ σ₂ PX := rfl
theorem Z12 : wS T C (.while c body) ve σ PX = RunX (wloop (fun ve' σ' => peval T C c ve' σ') (fun ve' σ' => pexecs T C body ve' σ') 20 ve σ) PX := rfl
end
mutual
theorem wE_ok {T : List (List Nat × Int)} {C : CallT} : ∀ (e : PE) (ve : VEnv) (σ : Sto) (P : D → Sto → Prop), wE T C e ve σ P → RunO (peval T C e ve σ) P
  | .const d, ve, σ, P, h => by rw [Z1i] at h; exact h
  | .var i, ve, σ, P, h => by
    rw [Z28] at h
    obtain ⟨d, e, q⟩ := wVar_ok h
    rw [run_var, e]; exact q
  | .item e i, ve, σ, P, h => by
    rw [Z1r] at h
    rw [run_item]
    exact (wE_ok e ve σ _ h).mono fun d σ₁ h1 => (wE_ok i ve σ₁ _ h1).mono fun k σ₂ h2 => wItem_ok h2
  | .slice e lo hi st, ve, σ, P, h => by
    rw [Z23] at h
    rw [run_slice]
    exact wE_ok e ve σ _ h
  | .tab e, ve, σ, P, h => by
    rw [Z26] at h
    rw [run_tab]
    refine (wE_ok e ve σ _ h).mono fun d σ₁ h1 => ?_
    cases d with
    | str x =>
      obtain ⟨i, e, q⟩ := h1
      dsimp only
      rw [e]; exact q
    | _ => exact h1.elim
  | .cmp op a b, ve, σ, P, h => by
    rw [Z1g] at h
    rw [run_cmp]
    exact (wE_ok a ve σ _ h).mono fun d σ₁ h1 => (wE_ok b ve σ₁ _ h1).mono fun k σ₂ h2 => wCmp_ok h2
  | .and a b, ve, σ, P, h => by
    rw [Z1b] at h
    rw [run_and]
    exact (wE_ok a ve σ _ h).mono fun d σ₁ h1 => h1.mono (fun h2 => wE_ok b ve σ₁ _ h2) id
  | .or a b, ve, σ, P, h => by
    rw [Z21] at h
    rw [run_or]
    exact (wE_ok a ve σ _ h).mono fun d σ₁ h1 => h1.mono id (fun h2 => wE_ok b ve σ₁ _ h2)
  | .not a, ve, σ, P, h => by
    rw [Z1z] at h
    rw [run_not]
    exact wE_ok a ve σ _ h
  | .neg a, ve, σ, P, h => by
    rw [Z1y] at h
    rw [run_neg]
    exact wE_ok a ve σ _ h
  | .ite c a b, ve, σ, P, h => by
    rw [Z1q] at h
    rw [run_ite]
    exact (wE_ok c ve σ _ h).mono fun d σ₁ h1 => h1.mono (wE_ok a ve σ₁ _) (wE_ok b ve σ₁ _)
  | .bin op a b, ve, σ, P, h => by
    rw [Z1e] at h
    rw [run_bin]
    exact (wE_ok a ve σ _ h).mono fun d σ₁ h1 => (wE_ok b ve σ₁ _ h1).mono fun k σ₂ h2 => wBin_ok h2
  | .join a b, ve, σ, P, h => by
    rw [Z1s] at h
    rw [run_join]
    exact (wE_ok a ve σ _ h).mono fun d σ₁ h1 => wE_ok b ve σ₁ _ h1
  | .append a b, ve, σ, P, h => by
    rw [Z1c] at h
    rw [run_append]
    exact (wE_ok a ve σ _ h).mono fun d σ₁ h1 => wE_ok b ve σ₁ _ h1
  | .extend a b, ve, σ, P, h => by
    rw [Z1k] at h
    rw [run_extend]
    exact (wE_ok a ve σ _ h).mono fun d σ₁ h1 => wE_ok b ve σ₁ _ h1
  | .split a b, ve, σ, P, h => by
    rw [Z24] at h
    rw [run_split]
    exact (wE_ok a ve σ _ h).mono fun d σ₁ h1 => wE_ok b ve σ₁ _ h1
  | .call f as, ve, σ, P, h => by
    rw [Z1f] at h
    rw [run_call]
    exact wL_ok as ve σ _ h
  | .bi f as, ve, σ, P, h => by
    rw [Z1d] at h
    rw [run_bi]
    exact wL_ok as ve σ _ h
  | .tup as, ve, σ, P, h => by
    rw [Z27] at h
    rw [run_tup]
    cases hf : few as 40 with
    | false => rw [hf] at h; exact h.elim
    | true =>
      rw [hf] at h
      refine (RunL.withEq (wL_ok as ve σ _ h)).mono fun d σ₁ h1 => ⟨?_, h1.2⟩
      have := few_len hf h1.1
      omega
  | .list as, ve, σ, P, h => by
    rw [Z1u] at h
    rw [run_list]
    cases hf : few as 40 with
    | false => rw [hf] at h; exact h.elim
    | true =>
      rw [hf] at h
      refine (RunL.withEq (wL_ok as ve σ _ h)).mono fun d σ₁ h1 => ⟨?_, h1.2⟩
      have := few_len hf h1.1
      omega
  | .comp elt nl fr t it ifs, ve, σ, P, h => by
    rw [Z1h] at h
    rw [run_comp]
    refine (wE_ok it ve σ _ h).mono fun src σ₁ h1 => ?_
    obtain ⟨all, e, q⟩ := h1
    rw [e]; exact q
  | .bad, _, _, _, h => False.elim h
theorem wL_ok {T : List (List Nat × Int)} {C : CallT} : ∀ (e : PEs) (ve : VEnv) (σ : Sto) (P : List D → Sto → Prop), wL T C e ve σ P → RunL (pevals T C e ve σ) P
  | .nil, ve, σ, P, h => by rw [Z0v] at h; exact h
  | .cons e as, ve, σ, P, h => by
    rw [Z0u] at h
    rw [runL_cons]
    exact (wE_ok e ve σ _ h).mono fun d σ₁ h1 => wL_ok as ve σ₁ _ h1
end
theorem OnNone.mono {r : Option D} {ve : VEnv} {σ : Sto} {PX : Option D → VEnv → Sto → Prop} {k k' : VEnv → Sto → Prop} (h : OnNone r ve σ PX k) (hk : ∀ ve σ, k ve σ → k' ve σ) : OnNone r ve σ PX k' := by
  cases r with
  | none => exact hk _ _ h
  | some d => exact h
mutual
theorem wS_ok {T : List (List Nat × Int)} {C : CallT} : ∀ (s : PS) (ve : VEnv) (σ : Sto) (P : Option D → VEnv → Sto → Prop), wS T C s ve σ P → RunX (pexec T C s ve σ) P
  | .assign t e, ve, σ, P, h => by
    rw [Z0w] at h
    rw [runX_assign]
    refine (wE_ok e ve σ _ h).mono fun d σ₁ h1 => ?_
    obtain ⟨ve', e, q⟩ := wStore_ok h1
    rw [e]; exact q
  | .setitem l k e, ve, σ, P, h => by
    rw [Z11] at h
    rw [runX_setitem]
    exact (wE_ok e ve σ _ h).mono fun d σ₁ h1 => (wE_ok l ve σ₁ _ h1).mono fun d σ₂ h2 => wE_ok k ve σ₂ _ h2
  | .expr e, ve, σ, P, h => by
    rw [Z0x] at h
    rw [runX_expr]
    exact wE_ok e ve σ _ h
  | .ret e, ve, σ, P, h => by
    rw [Z10] at h
    rw [runX_ret]
    exact wE_ok e ve σ _ h
  | .ite c a b, ve, σ, P, h => by
    rw [Z0y] at h
    rw [runX_ite]
    exact (wE_ok c ve σ _ h).mono fun d σ₁ h1 => h1.mono (wB_ok a ve σ₁ _) (wB_ok b ve σ₁ _)
  | .loop t it body, ve, σ, P, h => by
    rw [Z0z] at h
    rw [runX_loop]
    refine (wE_ok it ve σ _ h).mono fun src σ₁ h1 => ?_
    obtain ⟨all, e, q⟩ := h1
    rw [e]; exact q
  | .while c body, ve, σ, P, h => by
    rw [Z12] at h
    rw [runX_while]
    exact h
  | .bad, _, _, _, h => False.elim h
theorem wB_ok {T : List (List Nat × Int)} {C : CallT} : ∀ (s : PSs) (ve : VEnv) (σ : Sto) (P : Option D → VEnv → Sto → Prop), wB T C s ve σ P → RunX (pexecs T C s ve σ) P
  | .nil, ve, σ, P, h => by rw [Z0j] at h; exact h
  | .cons s r, ve, σ, P, h => by
    rw [Z0i] at h
    rw [runB_cons]
    exact (wS_ok s ve σ _ h).mono fun x ve₁ σ₁ h1 => h1.mono fun ve₂ σ₂ h2 => wB_ok r ve₂ σ₂ _ h2
end

theorem runV_of {t : Tgt} {d : D} {ve : VEnv} {Q : VEnv → Prop} (h : wStore t d ve Q) : RunV (store t d ve) Q := by
  obtain ⟨ve', e, q⟩ := wStore_ok h
  rw [e]; exact q
section
variable {T : List (List Nat × Int)} {C : CallT} {ve : VEnv} {σ : Sto} {P : D → Sto → Prop} {PL : List D → Sto → Prop} {PX : Option D → VEnv → Sto → Prop} {Q : Bool → Prop} {V : VEnv → Prop} {e a b c i : PE} {as : PEs}
variable {t : Tgt} {st : PS} {rest pa pb body : PSs}
theorem Z19 {d : D} {l : VEnv} {R : D → Prop} : wVar (some d :: l) 0 R = R d := rfl
theorem Z1a {x : Option D} {l : VEnv} {n : Nat} {R : D → Prop} : wVar (x :: l) (n + 1) R = wVar l n R := rfl
theorem Z13 {x : Option D} {l : VEnv} {d : D} : wSet (x :: l) 0 d V = V (some d :: l) := rfl
theorem Z14 {x : Option D} {l : VEnv} {n : Nat} {d : D} : wSet (x :: l) (n + 1) d V = wSet l n d fun l' => V (x :: l') := rfl
theorem Z18 {n : Nat} {d : D} : wStore (.one n) d ve V = wSet ve n d V := rfl
theorem Z17 {is : List Nat} {ds : List D} : wStore (.many is) (.tup ds) ve V = wSets ve is ds V := rfl
theorem Z16 : wSets ve [] [] V = V ve := rfl
theorem Z15 {n : Nat} {is : List Nat} {d : D} {ds : List D} : wSets ve (n :: is) (d :: ds) V = wSet ve n d fun ve' => wSets ve' is ds V := rfl
theorem Z0k {a : D} {l : List D} : wItem (.tup (a :: l)) (.int 0) σ P = P a σ := rfl
theorem Z0l {a b : D} {l : List D} : wItem (.tup (a :: b :: l)) (.int 1) σ P = P b σ := rfl
theorem Z0m {a b c : D} {l : List D} : wItem (.tup (a :: b :: c :: l)) (.int 2) σ P = P c σ := rfl
theorem Z0n {a b c d : D} {l : List D} : wItem (.tup (a :: b :: c :: d :: l)) (.int 3) σ P = P d σ := rfl
theorem Z0o {a b c d e : D} {l : List D} : wItem (.tup (a :: b :: c :: d :: e :: l)) (.int 4) σ P = P e σ := rfl
theorem Z0p {a b c d e f : D} {l : List D} : wItem (.tup (a :: b :: c :: d :: e :: f :: l)) (.int 5) σ P = P f σ := rfl
theorem Z0q {a b c d e f g : D} {l : List D} : wItem (.tup (a :: b :: c :: d :: e :: f :: g :: l)) (.int 6) σ P = P g σ := rfl
theorem Z0r {r : Nat} {k : D} : wItem (.ref r) k σ P = RunO (opItem (.ref r) k σ) P := rfl
theorem Z0t {s : List Nat} {k : D} : wItem (.str s) k σ P = RunO (opItem (.str s) k σ) P := rfl
theorem Z0s {s : List Int} {k : D} : wItem (.script s) k σ P = RunO (opItem (.script s) k σ) P := rfl
theorem w_add_str {x y : List Nat} : wBin .add (.str x) (.str y) σ P = (x.length + y.length ≤ sizeCap ∧ P (.str (x ++ y)) σ) := rfl
theorem w_add_int {x y : Int} : wBin .add (.int x) (.int y) σ P = P (.int (x + y)) σ := rfl
theorem w_add_ref {x : Nat} {y : D} : wBin .add (.ref x) y σ P = RunO (opBin .add (.ref x) y σ) P := rfl
theorem Z25 {x y : Int} : wBin .sub (.int x) (.int y) σ P = P (.int (x - y)) σ := rfl
theorem Z1x {x y : Int} : wBin .mul (.int x) (.int y) σ P = ((smallInt x = true ∧ smallInt y = true) ∧ P (.int (x * y)) σ) := rfl
theorem Z1w {x y : Int} : wBin .mod (.int x) (.int y) σ P = ((0 < y ∧ y < 4611686018427387904 ∧ 0 ≤ x) ∧ P (.int (x % y)) σ) := rfl
theorem Z1j {x y : Int} : wBin .fdiv (.int x) (.int y) σ P = ((0 < y ∧ y < 1073741824 ∧ 0 ≤ x) ∧ P (.int (x / y)) σ) := rfl
theorem Z22 {x y : D} : wBin .pow x y σ P = RunO (opBin .pow x y σ) P := rfl
theorem w_eq_str {x y : List Nat} : wCmp .eq (.str x) (.str y) σ Q = Q (x == y) := rfl
theorem w_ne_str {x y : List Nat} : wCmp .ne (.str x) (.str y) σ Q = Q (!(x == y)) := rfl
theorem w_eq_int {x y : Int} : wCmp .eq (.int x) (.int y) σ Q = Q (x == y) := rfl
theorem w_ne_int {x y : Int} : wCmp .ne (.int x) (.int y) σ Q = Q (!(x == y)) := rfl
theorem w_eq_ref {x : Nat} {y : D} : wCmp .eq (.ref x) y σ Q = RunM (opCmp .eq (.ref x) y σ) Q := rfl
theorem Z1o {x : D} : wCmp .is x .none σ Q = Q (isNoneD x) := rfl
theorem Z1p {x : D} : wCmp .isnot x .none σ Q = Q (!isNoneD x) := rfl
theorem Z1v {x y : Int} : wCmp .lt (.int x) (.int y) σ Q = Q (decide (x < y)) := rfl
theorem Z1t {x y : Int} : wCmp .le (.int x) (.int y) σ Q = Q (decide (x ≤ y)) := rfl
theorem Z1m {x y : Int} : wCmp .gt (.int x) (.int y) σ Q = Q (decide (x > y)) := rfl
theorem Z1l {x y : Int} : wCmp .ge (.int x) (.int y) σ Q = Q (decide (x ≥ y)) := rfl
theorem Z1n {x y : D} : wCmp .inn x y σ Q = RunM (opCmp .inn x y σ) Q := rfl
theorem Z20 {x y : D} : wCmp .notin x y σ Q = RunM (opCmp .notin x y σ) Q := rfl
theorem b_and_t {b : Bool} : (true && b) = b := rfl
theorem b_and_f {b : Bool} : (false && b) = false := rfl
theorem b_or_t {b : Bool} : (true || b) = true := rfl
theorem b_or_f {b : Bool} : (false || b) = b := rfl
theorem b_not_t : (!true) = false := rfl
theorem b_not_f : (!false) = true := rfl
theorem Z1 {x y : Nat} {l r : List Nat} : (x :: l == y :: r) = (x == y && l == r) := rfl
theorem Z0 {x : Nat} {l : List Nat} : ((x :: l) == []) = false := rfl
theorem Z2 {x : Nat} {l : List Nat} : (([] : List Nat) == x :: l) = false := rfl
theorem Z3 : (([] : List Nat) == []) = true := rfl
theorem Z9 : isNoneD .none = true := rfl
theorem Zc {l : List D} : isNoneD (.tup l) = false := rfl
theorem Zb {l : List Nat} : isNoneD (.str l) = false := rfl
theorem Z8 {l : Int} : isNoneD (.int l) = false := rfl
theorem Za {l : Nat} : isNoneD (.ref l) = false := rfl
end
end Mine
end

section
open PySem
namespace Mine
noncomputable def G2_0 : FnDef := { np := 1, ns := 3, dflt := [], body := PSs.cons (PS.assign (Tgt.one 1) (PE.item (PE.var 0) (PE.const (D.int 0)))) (PSs.cons (PS.ite (PE.cmp (COp.eq) (PE.var 1) (PE.const (D.str [110, 97, 109, 101]))) (PSs.cons (PS.ret (PE.ite (PE.cmp (COp.is) (PE.item (PE.var 0) (PE.const (D.int 2))) (PE.const (D.none))) (PE.item (PE.var 0) (PE.const (D.int 3))) (PE.bin (BOp.add) (PE.bin (BOp.add) (PE.item (PE.var 0) (PE.const (D.int 2))) (PE.const (D.str [46]))) (PE.item (PE.var 0) (PE.const (D.int 3)))))) (PSs.nil)) (PSs.nil)) (PSs.cons (PS.ite (PE.cmp (COp.eq) (PE.var 1) (PE.const (D.str [112, 116, 114]))) (PSs.cons (PS.ret (PE.bin (BOp.add) (PE.const (D.str [42])) (PE.call 0 (PEs.cons (PE.item (PE.var 0) (PE.const (D.int 2))) (PEs.nil))))) (PSs.nil)) (PSs.nil)) (PSs.cons (PS.ite (PE.cmp (COp.eq) (PE.var 1) (PE.const (D.str [97, 114, 114, 97, 121]))) (PSs.cons (PS.ret (PE.bin (BOp.add) (PE.bin (BOp.add) (PE.bin (BOp.add) (PE.const (D.str [91])) (PE.call 2 (PEs.cons (PE.item (PE.var 0) (PE.const (D.int 2))) (PEs.nil)))) (PE.const (D.str [93]))) (PE.call 0 (PEs.cons (PE.item (PE.var 0) (PE.const (D.int 3))) (PEs.nil))))) (PSs.nil)) (PSs.nil)) (PSs.cons (PS.ite (PE.cmp (COp.eq) (PE.var 1) (PE.const (D.str [115, 108, 105, 99, 101]))) (PSs.cons (PS.ret (PE.bin (BOp.add) (PE.const (D.str [91, 93])) (PE.call 0 (PEs.cons (PE.item (PE.var 0) (PE.const (D.int 2))) (PEs.nil))))) (PSs.nil)) (PSs.nil)) (PSs.cons (PS.ite (PE.cmp (COp.eq) (PE.var 1) (PE.const (D.str [109, 97, 112]))) (PSs.cons (PS.ret (PE.bin (BOp.add) (PE.bin (BOp.add) (PE.bin (BOp.add) (PE.const (D.str [109, 97, 112, 91])) (PE.call 0 (PEs.cons (PE.item (PE.var 0) (PE.const (D.int 2))) (PEs.nil)))) (PE.const (D.str [93]))) (PE.call 0 (PEs.cons (PE.item (PE.var 0) (PE.const (D.int 3))) (PEs.nil))))) (PSs.nil)) (PSs.nil)) (PSs.cons (PS.ite (PE.cmp (COp.eq) (PE.var 1) (PE.const (D.str [99, 104, 97, 110]))) (PSs.cons (PS.ret (PE.bad)) (PSs.nil)) (PSs.nil)) (PSs.cons (PS.ite (PE.cmp (COp.eq) (PE.var 1) (PE.const (D.str [102, 117, 110, 99]))) (PSs.cons (PS.ret (PE.bin (BOp.add) (PE.const (D.str [102, 117, 110, 99])) (PE.bad))) (PSs.nil)) (PSs.nil)) (PSs.cons (PS.ite (PE.cmp (COp.eq) (PE.var 1) (PE.const (D.str [115, 116, 114, 117, 99, 116]))) (PSs.cons (PS.ret (PE.bad)) (PSs.nil)) (PSs.nil)) (PSs.cons (PS.assign (Tgt.one 2) (PE.comp (PE.bin (BOp.add) (PE.var 0) (PE.bad)) 2 [] (Tgt.many [0, 1]) (PE.item (PE.var 0) (PE.const (D.int 2))) (PEs.nil))) (PSs.cons (PS.ret (PE.bad)) (PSs.nil))))))))))) }
noncomputable def G2_1 : FnDef := { np := 1, ns := 1, dflt := [], body := PSs.cons (PS.ite (PE.cmp (COp.eq) (PE.item (PE.var 0) (PE.const (D.int 0))) (PE.const (D.str [98, 105, 110, 97, 114, 121]))) (PSs.cons (PS.ret (PE.tab (PE.item (PE.var 0) (PE.const (D.int 2))))) (PSs.nil)) (PSs.nil)) (PSs.cons (PS.ite (PE.cmp (COp.eq) (PE.item (PE.var 0) (PE.const (D.int 0))) (PE.const (D.str [116, 121, 112, 101]))) (PSs.cons (PS.ret (PE.const (D.int 0))) (PSs.nil)) (PSs.nil)) (PSs.cons (PS.ret (PE.ite (PE.cmp (COp.inn) (PE.item (PE.var 0) (PE.const (D.int 0))) (PE.tup (PEs.cons (PE.const (D.str [117, 110, 97, 114, 121])) (PEs.cons (PE.const (D.str [115, 116, 97, 114])) (PEs.nil))))) (PE.const (D.int 6)) (PE.const (D.int 7)))) (PSs.nil))) }
noncomputable def G2_2 : FnDef := { np := 3, ns := 4, dflt := [D.int 0, D.bool false], body := PSs.cons (PS.assign (Tgt.one 3) (PE.and (PE.var 2) (PE.or (PE.cmp (COp.eq) (PE.item (PE.var 0) (PE.const (D.int 0))) (PE.const (D.str [116, 121, 112, 101]))) (PE.and (PE.cmp (COp.eq) (PE.item (PE.var 0) (PE.const (D.int 0))) (PE.const (D.str [108, 105, 116]))) (PE.cmp (COp.notin) (PE.item (PE.item (PE.var 0) (PE.const (D.int 2))) (PE.const (D.int 0))) (PE.const (D.tup [D.str [97, 114, 114, 97, 121], D.str [115, 108, 105, 99, 101], D.str [109, 97, 112], D.str [115, 116, 114, 117, 99, 116]]))))))) (PSs.cons (PS.ite (PE.or (PE.var 3) (PE.cmp (COp.lt) (PE.call 1 (PEs.cons (PE.var 0) (PEs.nil))) (PE.var 1))) (PSs.cons (PS.ret (PE.bin (BOp.add) (PE.bin (BOp.add) (PE.const (D.str [40])) (PE.call 4 (PEs.cons (PE.var 0) (PEs.cons (PE.const (D.bool false)) (PEs.nil))))) (PE.const (D.str [41])))) (PSs.nil)) (PSs.nil)) (PSs.cons (PS.ret (PE.call 4 (PEs.cons (PE.var 0) (PEs.cons (PE.var 2) (PEs.nil))))) (PSs.nil))) }
noncomputable def G2_3 : FnDef := { np := 2, ns := 2, dflt := [D.bool false], body := PSs.cons (PS.ret (PE.join (PE.const (D.str [44, 32])) (PE.comp (PE.call 2 (PEs.cons (PE.var 0) (PEs.cons (PE.const (D.int 0)) (PEs.cons (PE.var 1) (PEs.nil))))) 1 [1] (Tgt.one 0) (PE.var 0) (PEs.nil)))) (PSs.nil) }
noncomputable def G2_4 : FnDef := { np := 2, ns := 4, dflt := [], body := PSs.cons (PS.assign (Tgt.one 2) (PE.item (PE.var 0) (PE.const (D.int 0)))) (PSs.cons (PS.ite (PE.cmp (COp.eq) (PE.var 2) (PE.const (D.str [105, 110, 116]))) (PSs.cons (PS.ret (PE.call 8 (PEs.cons (PE.item (PE.var 0) (PE.const (D.int 2))) (PEs.nil)))) (PSs.nil)) (PSs.nil)) (PSs.cons (PS.ite (PE.cmp (COp.eq) (PE.var 2) (PE.const (D.str [114, 117, 110, 101]))) (PSs.cons (PS.ret (PE.bad)) (PSs.nil)) (PSs.nil)) (PSs.cons (PS.ite (PE.cmp (COp.eq) (PE.var 2) (PE.const (D.str [116, 101, 120, 116]))) (PSs.cons (PS.ret (PE.bad)) (PSs.nil)) (PSs.nil)) (PSs.cons (PS.ite (PE.cmp (COp.eq) (PE.var 2) (PE.const (D.str [110, 97, 109, 101]))) (PSs.cons (PS.ret (PE.item (PE.var 0) (PE.const (D.int 2)))) (PSs.nil)) (PSs.nil)) (PSs.cons (PS.ite (PE.cmp (COp.eq) (PE.var 2) (PE.const (D.str [116, 121, 112, 101]))) (PSs.cons (PS.ret (PE.call 0 (PEs.cons (PE.item (PE.var 0) (PE.const (D.int 2))) (PEs.nil)))) (PSs.nil)) (PSs.nil)) (PSs.cons (PS.ite (PE.cmp (COp.eq) (PE.var 2) (PE.const (D.str [115, 116, 97, 114]))) (PSs.cons (PS.ret (PE.call 5 (PEs.cons (PE.const (D.str [42])) (PEs.cons (PE.item (PE.var 0) (PE.const (D.int 2))) (PEs.cons (PE.var 1) (PEs.nil)))))) (PSs.nil)) (PSs.nil)) (PSs.cons (PS.ite (PE.cmp (COp.eq) (PE.var 2) (PE.const (D.str [117, 110, 97, 114, 121]))) (PSs.cons (PS.ret (PE.call 5 (PEs.cons (PE.item (PE.var 0) (PE.const (D.int 2))) (PEs.cons (PE.item (PE.var 0) (PE.const (D.int 3))) (PEs.cons (PE.var 1) (PEs.nil)))))) (PSs.nil)) (PSs.nil)) (PSs.cons (PS.ite (PE.cmp (COp.eq) (PE.var 2) (PE.const (D.str [98, 105, 110, 97, 114, 121]))) (PSs.cons (PS.assign (Tgt.one 3) (PE.tab (PE.item (PE.var 0) (PE.const (D.int 2))))) (PSs.cons (PS.ret (PE.bin (BOp.add) (PE.bin (BOp.add) (PE.bin (BOp.add) (PE.bin (BOp.add) (PE.call 2 (PEs.cons (PE.item (PE.var 0) (PE.const (D.int 3))) (PEs.cons (PE.var 3) (PEs.cons (PE.var 1) (PEs.nil))))) (PE.const (D.str [32]))) (PE.item (PE.var 0) (PE.const (D.int 2)))) (PE.const (D.str [32]))) (PE.call 2 (PEs.cons (PE.item (PE.var 0) (PE.const (D.int 4))) (PEs.cons (PE.bin (BOp.add) (PE.var 3) (PE.const (D.int 1))) (PEs.cons (PE.var 1) (PEs.nil))))))) (PSs.nil))) (PSs.nil)) (PSs.cons (PS.ite (PE.cmp (COp.eq) (PE.var 2) (PE.const (D.str [102, 117, 110, 99]))) (PSs.cons (PS.ret (PE.bin (BOp.add) (PE.bin (BOp.add) (PE.bin (BOp.add) (PE.const (D.str [102, 117, 110, 99])) (PE.bad)) (PE.const (D.str [32]))) (PE.call 12 (PEs.cons (PE.item (PE.var 0) (PE.const (D.int 5))) (PEs.nil))))) (PSs.nil)) (PSs.nil)) (PSs.cons (PS.ite (PE.cmp (COp.eq) (PE.var 2) (PE.const (D.str [108, 105, 116]))) (PSs.cons (PS.ret (PE.bin (BOp.add) (PE.ite (PE.cmp (COp.is) (PE.item (PE.var 0) (PE.const (D.int 2))) (PE.const (D.none))) (PE.const (D.str [])) (PE.call 0 (PEs.cons (PE.item (PE.var 0) (PE.const (D.int 2))) (PEs.nil)))) (PE.call 9 (PEs.cons (PE.item (PE.var 0) (PE.const (D.int 3))) (PEs.nil))))) (PSs.nil)) (PSs.nil)) (PSs.cons (PS.ret (PE.call 6 (PEs.cons (PE.var 0) (PEs.cons (PE.call 2 (PEs.cons (PE.item (PE.var 0) (PE.const (D.int 2))) (PEs.cons (PE.const (D.int 7)) (PEs.cons (PE.var 1) (PEs.nil))))) (PEs.nil))))) (PSs.nil)))))))))))) }
noncomputable def G2_5 : FnDef := { np := 3, ns := 4, dflt := [], body := PSs.cons (PS.assign (Tgt.one 3) (PE.call 2 (PEs.cons (PE.var 1) (PEs.cons (PE.const (D.int 6)) (PEs.cons (PE.var 2) (PEs.nil)))))) (PSs.cons (PS.ret (PE.bin (BOp.add) (PE.bin (BOp.add) (PE.var 0) (PE.ite (PE.cmp (COp.inn) (PE.item (PE.var 3) (PE.const (D.int 0))) (PE.const (D.str [43, 45, 38, 94, 60]))) (PE.const (D.str [32])) (PE.const (D.str [])))) (PE.var 3))) (PSs.nil)) }
noncomputable def G2_6 : FnDef := { np := 2, ns := 3, dflt := [], body := PSs.cons (PS.assign (Tgt.one 2) (PE.item (PE.var 0) (PE.const (D.int 0)))) (PSs.cons (PS.ite (PE.cmp (COp.eq) (PE.var 2) (PE.const (D.str [115, 101, 108, 101, 99, 116]))) (PSs.cons (PS.ret (PE.bin (BOp.add) (PE.bin (BOp.add) (PE.var 1) (PE.const (D.str [46]))) (PE.item (PE.var 0) (PE.const (D.int 3))))) (PSs.nil)) (PSs.nil)) (PSs.cons (PS.ite (PE.cmp (COp.eq) (PE.var 2) (PE.const (D.str [105, 110, 100, 101, 120]))) (PSs.cons (PS.ret (PE.bin (BOp.add) (PE.bin (BOp.add) (PE.bin (BOp.add) (PE.var 1) (PE.const (D.str [91]))) (PE.call 2 (PEs.cons (PE.item (PE.var 0) (PE.const (D.int 3))) (PEs.nil)))) (PE.const (D.str [93])))) (PSs.nil)) (PSs.nil)) (PSs.cons (PS.ite (PE.cmp (COp.eq) (PE.var 2) (PE.const (D.str [99, 117, 116]))) (PSs.cons (PS.ret (PE.bin (BOp.add) (PE.bin (BOp.add) (PE.bin (BOp.add) (PE.var 1) (PE.const (D.str [91]))) (PE.call 7 (PEs.cons (PE.var 0) (PEs.nil)))) (PE.const (D.str [93])))) (PSs.nil)) (PSs.nil)) (PSs.cons (PS.ite (PE.cmp (COp.eq) (PE.var 2) (PE.const (D.str [97, 115, 115, 101, 114, 116]))) (PSs.cons (PS.ret (PE.bin (BOp.add) (PE.bin (BOp.add) (PE.bin (BOp.add) (PE.var 1) (PE.const (D.str [46, 40]))) (PE.ite (PE.cmp (COp.is) (PE.item (PE.var 0) (PE.const (D.int 3))) (PE.const (D.none))) (PE.const (D.str [116, 121, 112, 101])) (PE.call 0 (PEs.cons (PE.item (PE.var 0) (PE.const (D.int 3))) (PEs.nil))))) (PE.const (D.str [41])))) (PSs.nil)) (PSs.nil)) (PSs.cons (PS.ret (PE.bin (BOp.add) (PE.bin (BOp.add) (PE.bin (BOp.add) (PE.bin (BOp.add) (PE.var 1) (PE.const (D.str [40]))) (PE.call 3 (PEs.cons (PE.item (PE.var 0) (PE.const (D.int 3))) (PEs.nil)))) (PE.ite (PE.item (PE.var 0) (PE.const (D.int 4))) (PE.const (D.str [46, 46, 46])) (PE.const (D.str [])))) (PE.const (D.str [41])))) (PSs.nil)))))) }
noncomputable def G2_7 : FnDef := { np := 1, ns := 2, dflt := [], body := PSs.cons (PS.assign (Tgt.one 1) (PE.comp (PE.ite (PE.cmp (COp.is) (PE.var 0) (PE.const (D.none))) (PE.const (D.str [])) (PE.call 2 (PEs.cons (PE.var 0) (PEs.nil)))) 1 [] (Tgt.one 0) (PE.slice (PE.var 0) (some 3) (some 6) none) (PEs.nil))) (PSs.cons (PS.ret (PE.join (PE.const (D.str [58])) (PE.ite (PE.cmp (COp.isnot) (PE.item (PE.var 0) (PE.const (D.int 5))) (PE.const (D.none))) (PE.var 1) (PE.slice (PE.var 1) none (some 2) none)))) (PSs.nil)) }
noncomputable def G2_8 : FnDef := { np := 1, ns := 2, dflt := [], body := PSs.cons (PS.assign (Tgt.one 1) (PE.bi (BI.str) (PEs.cons (PE.var 0) (PEs.nil)))) (PSs.cons (PS.ret (PE.ite (PE.cmp (COp.le) (PE.bi (BI.len) (PEs.cons (PE.var 1) (PEs.nil))) (PE.const (D.int 100))) (PE.var 1) (PE.bin (BOp.add) (PE.const (D.str [48, 120])) (PE.slice (PE.bad) (some 2) none none)))) (PSs.nil)) }
noncomputable def G2_9 : FnDef := { np := 1, ns := 2, dflt := [], body := PSs.cons (PS.assign (Tgt.one 1) (PE.comp (PE.bin (BOp.add) (PE.ite (PE.cmp (COp.is) (PE.var 0) (PE.const (D.none))) (PE.const (D.str [])) (PE.bin (BOp.add) (PE.call 2 (PEs.cons (PE.var 0) (PEs.nil))) (PE.const (D.str [58, 32])))) (PE.call 2 (PEs.cons (PE.var 1) (PEs.nil)))) 2 [] (Tgt.many [0, 1]) (PE.var 0) (PEs.nil))) (PSs.cons (PS.ret (PE.bin (BOp.add) (PE.bin (BOp.add) (PE.const (D.str [123])) (PE.join (PE.const (D.str [44, 32])) (PE.var 1))) (PE.const (D.str [125])))) (PSs.nil)) }
noncomputable def G2_10 : FnDef := { np := 1, ns := 1, dflt := [], body := PSs.cons (PS.ret (PE.ite (PE.cmp (COp.eq) (PE.var 0) (PE.list (PEs.nil))) (PE.const (D.str [123, 125])) (PE.bin (BOp.add) (PE.bin (BOp.add) (PE.const (D.str [123, 10])) (PE.join (PE.const (D.str [])) (PE.comp (PE.call 11 (PEs.cons (PE.var 0) (PEs.nil))) 1 [] (Tgt.one 0) (PE.var 0) (PEs.nil)))) (PE.const (D.str [125]))))) (PSs.nil) }
noncomputable def G2_11 : FnDef := { np := 1, ns := 1, dflt := [], body := PSs.cons (PS.ret (PE.join (PE.const (D.str [])) (PE.comp (PE.bin (BOp.add) (PE.bin (BOp.add) (PE.const (D.str [9])) (PE.var 0)) (PE.const (D.str [10]))) 1 [] (Tgt.one 0) (PE.split (PE.var 0) (PE.const (D.str [10]))) (PEs.nil)))) (PSs.nil) }
noncomputable def G2_12 : FnDef := { np := 1, ns := 1, dflt := [], body := PSs.cons (PS.ret (PE.call 10 (PEs.cons (PE.comp (PE.call 13 (PEs.cons (PE.var 0) (PEs.nil))) 1 [] (Tgt.one 0) (PE.item (PE.var 0) (PE.const (D.int 2))) (PEs.nil)) (PEs.nil)))) (PSs.nil) }
noncomputable def G2_13 : FnDef := { np := 1, ns := 2, dflt := [], body := PSs.cons (PS.assign (Tgt.one 1) (PE.item (PE.var 0) (PE.const (D.int 0)))) (PSs.cons (PS.ite (PE.cmp (COp.inn) (PE.var 1) (PE.tup (PEs.cons (PE.const (D.str [101, 120, 112, 114])) (PEs.cons (PE.const (D.str [115, 101, 110, 100])) (PEs.cons (PE.const (D.str [115, 116, 101, 112])) (PEs.cons (PE.const (D.str [97, 115, 115, 105, 103, 110])) (PEs.cons (PE.const (D.str [100, 101, 102, 105, 110, 101])) (PEs.nil)))))))) (PSs.cons (PS.ret (PE.call 14 (PEs.cons (PE.var 0) (PEs.cons (PE.const (D.bool false)) (PEs.nil))))) (PSs.nil)) (PSs.nil)) (PSs.cons (PS.ite (PE.cmp (COp.inn) (PE.var 1) (PE.tup (PEs.cons (PE.const (D.str [118, 97, 114])) (PEs.cons (PE.const (D.str [99, 111, 110, 115, 116])) (PEs.cons (PE.const (D.str [116, 121, 112, 101, 100, 101, 99, 108])) (PEs.nil)))))) (PSs.cons (PS.ret (PE.call 15 (PEs.cons (PE.var 0) (PEs.nil)))) (PSs.nil)) (PSs.nil)) (PSs.cons (PS.ite (PE.cmp (COp.inn) (PE.var 1) (PE.tup (PEs.cons (PE.const (D.str [103, 111])) (PEs.cons (PE.const (D.str [100, 101, 102, 101, 114])) (PEs.nil))))) (PSs.cons (PS.ret (PE.bin (BOp.add) (PE.bin (BOp.add) (PE.var 1) (PE.const (D.str [32]))) (PE.call 2 (PEs.cons (PE.item (PE.var 0) (PE.const (D.int 2))) (PEs.nil))))) (PSs.nil)) (PSs.nil)) (PSs.cons (PS.ite (PE.cmp (COp.eq) (PE.var 1) (PE.const (D.str [114, 101, 116, 117, 114, 110]))) (PSs.cons (PS.ret (PE.bin (BOp.add) (PE.const (D.str [114, 101, 116, 117, 114, 110])) (PE.ite (PE.cmp (COp.ne) (PE.item (PE.var 0) (PE.const (D.int 2))) (PE.tup (PEs.nil))) (PE.bin (BOp.add) (PE.const (D.str [32])) (PE.call 3 (PEs.cons (PE.item (PE.var 0) (PE.const (D.int 2))) (PEs.nil)))) (PE.const (D.str []))))) (PSs.nil)) (PSs.nil)) (PSs.cons (PS.ite (PE.cmp (COp.inn) (PE.var 1) (PE.tup (PEs.cons (PE.const (D.str [98, 114, 101, 97, 107])) (PEs.cons (PE.const (D.str [99, 111, 110, 116, 105, 110, 117, 101])) (PEs.nil))))) (PSs.cons (PS.ret (PE.bin (BOp.add) (PE.var 1) (PE.ite (PE.cmp (COp.is) (PE.item (PE.var 0) (PE.const (D.int 2))) (PE.const (D.none))) (PE.const (D.str [])) (PE.bin (BOp.add) (PE.const (D.str [32])) (PE.item (PE.var 0) (PE.const (D.int 2))))))) (PSs.nil)) (PSs.nil)) (PSs.cons (PS.ite (PE.cmp (COp.eq) (PE.var 1) (PE.const (D.str [102, 97, 108, 108, 116, 104, 114, 111, 117, 103, 104]))) (PSs.cons (PS.ret (PE.var 1)) (PSs.nil)) (PSs.nil)) (PSs.cons (PS.ite (PE.cmp (COp.eq) (PE.var 1) (PE.const (D.str [98, 108, 111, 99, 107]))) (PSs.cons (PS.ret (PE.call 12 (PEs.cons (PE.var 0) (PEs.nil)))) (PSs.nil)) (PSs.nil)) (PSs.cons (PS.ite (PE.cmp (COp.eq) (PE.var 1) (PE.const (D.str [105, 102]))) (PSs.cons (PS.ret (PE.call 18 (PEs.cons (PE.var 0) (PEs.nil)))) (PSs.nil)) (PSs.nil)) (PSs.cons (PS.ret (PE.bin (BOp.add) (PE.ite (PE.cmp (COp.is) (PE.item (PE.var 0) (PE.const (D.int 2))) (PE.const (D.none))) (PE.const (D.str [])) (PE.bin (BOp.add) (PE.item (PE.var 0) (PE.const (D.int 2))) (PE.const (D.str [58, 32])))) (PE.bad))) (PSs.nil)))))))))) }
noncomputable def G2_14 : FnDef := { np := 2, ns := 4, dflt := [], body := PSs.cons (PS.assign (Tgt.one 2) (PE.item (PE.var 0) (PE.const (D.int 0)))) (PSs.cons (PS.ite (PE.cmp (COp.eq) (PE.var 2) (PE.const (D.str [101, 120, 112, 114]))) (PSs.cons (PS.ret (PE.call 2 (PEs.cons (PE.item (PE.var 0) (PE.const (D.int 2))) (PEs.cons (PE.const (D.int 0)) (PEs.cons (PE.var 1) (PEs.nil)))))) (PSs.nil)) (PSs.nil)) (PSs.cons (PS.ite (PE.cmp (COp.eq) (PE.var 2) (PE.const (D.str [115, 101, 110, 100]))) (PSs.cons (PS.assign (Tgt.one 3) (PE.call 2 (PEs.cons (PE.item (PE.var 0) (PE.const (D.int 2))) (PEs.cons (PE.const (D.int 0)) (PEs.cons (PE.var 1) (PEs.nil)))))) (PSs.cons (PS.ret (PE.bin (BOp.add) (PE.bin (BOp.add) (PE.var 3) (PE.const (D.str [32, 60, 45, 32]))) (PE.call 2 (PEs.cons (PE.item (PE.var 0) (PE.const (D.int 3))) (PEs.cons (PE.const (D.int 0)) (PEs.cons (PE.var 1) (PEs.nil))))))) (PSs.nil))) (PSs.nil)) (PSs.cons (PS.ite (PE.cmp (COp.eq) (PE.var 2) (PE.const (D.str [115, 116, 101, 112]))) (PSs.cons (PS.ret (PE.bin (BOp.add) (PE.call 2 (PEs.cons (PE.item (PE.var 0) (PE.const (D.int 2))) (PEs.cons (PE.const (D.int 0)) (PEs.cons (PE.var 1) (PEs.nil))))) (PE.item (PE.var 0) (PE.const (D.int 3))))) (PSs.nil)) (PSs.nil)) (PSs.cons (PS.ite (PE.cmp (COp.eq) (PE.var 2) (PE.const (D.str [100, 101, 102, 105, 110, 101]))) (PSs.cons (PS.ret (PE.bin (BOp.add) (PE.bin (BOp.add) (PE.join (PE.const (D.str [44, 32])) (PE.item (PE.var 0) (PE.const (D.int 2)))) (PE.const (D.str [32, 58, 61, 32]))) (PE.call 3 (PEs.cons (PE.item (PE.var 0) (PE.const (D.int 3))) (PEs.cons (PE.var 1) (PEs.nil)))))) (PSs.nil)) (PSs.nil)) (PSs.cons (PS.ret (PE.bin (BOp.add) (PE.bin (BOp.add) (PE.bin (BOp.add) (PE.bin (BOp.add) (PE.call 3 (PEs.cons (PE.item (PE.var 0) (PE.const (D.int 3))) (PEs.cons (PE.var 1) (PEs.nil)))) (PE.const (D.str [32]))) (PE.item (PE.var 0) (PE.const (D.int 2)))) (PE.const (D.str [32]))) (PE.call 3 (PEs.cons (PE.item (PE.var 0) (PE.const (D.int 4))) (PEs.cons (PE.var 1) (PEs.nil)))))) (PSs.nil)))))) }
noncomputable def G2_15 : FnDef := { np := 1, ns := 3, dflt := [], body := PSs.cons (PS.assign (Tgt.one 1) (PE.item (PE.var 0) (PE.const (D.int 0)))) (PSs.cons (PS.ite (PE.cmp (COp.eq) (PE.var 1) (PE.const (D.str [116, 121, 112, 101, 100, 101, 99, 108]))) (PSs.cons (PS.ret (PE.bin (BOp.add) (PE.bin (BOp.add) (PE.bin (BOp.add) (PE.const (D.str [116, 121, 112, 101, 32])) (PE.item (PE.var 0) (PE.const (D.int 2)))) (PE.ite (PE.item (PE.var 0) (PE.const (D.int 4))) (PE.const (D.str [32, 61, 32])) (PE.const (D.str [32])))) (PE.call 0 (PEs.cons (PE.item (PE.var 0) (PE.const (D.int 3))) (PEs.nil))))) (PSs.nil)) (PSs.nil)) (PSs.cons (PS.ite (PE.cmp (COp.eq) (PE.var 1) (PE.const (D.str [118, 97, 114]))) (PSs.cons (PS.ret (PE.bin (BOp.add) (PE.const (D.str [118, 97, 114, 32])) (PE.call 16 (PEs.cons (PE.item (PE.var 0) (PE.const (D.int 2))) (PEs.cons (PE.item (PE.var 0) (PE.const (D.int 3))) (PEs.cons (PE.item (PE.var 0) (PE.const (D.int 4))) (PEs.nil))))))) (PSs.nil)) (PSs.nil)) (PSs.cons (PS.assign (Tgt.one 2) (PE.comp (PE.call 16 (PEs.cons (PE.var 0) (PEs.cons (PE.var 1) (PEs.cons (PE.var 2) (PEs.nil))))) 4 [] (Tgt.many [0, 1, 2, 3]) (PE.item (PE.var 0) (PE.const (D.int 2))) (PEs.nil))) (PSs.cons (PS.ite (PE.cmp (COp.eq) (PE.bi (BI.len) (PEs.cons (PE.var 2) (PEs.nil))) (PE.const (D.int 1))) (PSs.cons (PS.ret (PE.bin (BOp.add) (PE.const (D.str [99, 111, 110, 115, 116, 32])) (PE.item (PE.var 2) (PE.const (D.int 0))))) (PSs.nil)) (PSs.nil)) (PSs.cons (PS.ret (PE.bin (BOp.add) (PE.bin (BOp.add) (PE.const (D.str [99, 111, 110, 115, 116, 32, 40, 10])) (PE.join (PE.const (D.str [])) (PE.comp (PE.call 11 (PEs.cons (PE.var 0) (PEs.nil))) 1 [] (Tgt.one 0) (PE.var 2) (PEs.nil)))) (PE.const (D.str [41])))) (PSs.nil)))))) }
noncomputable def G2_16 : FnDef := { np := 3, ns := 4, dflt := [], body := PSs.cons (PS.assign (Tgt.one 3) (PE.bin (BOp.add) (PE.join (PE.const (D.str [44, 32])) (PE.var 0)) (PE.ite (PE.cmp (COp.is) (PE.var 1) (PE.const (D.none))) (PE.const (D.str [])) (PE.bin (BOp.add) (PE.const (D.str [32])) (PE.call 0 (PEs.cons (PE.var 1) (PEs.nil))))))) (PSs.cons (PS.ret (PE.bin (BOp.add) (PE.var 3) (PE.ite (PE.cmp (COp.ne) (PE.var 2) (PE.tup (PEs.nil))) (PE.bin (BOp.add) (PE.const (D.str [32, 61, 32])) (PE.call 3 (PEs.cons (PE.var 2) (PEs.nil)))) (PE.const (D.str []))))) (PSs.nil)) }
noncomputable def G2_17 : FnDef := { np := 3, ns := 4, dflt := [], body := PSs.cons (PS.assign (Tgt.one 3) (PE.ite (PE.cmp (COp.is) (PE.var 1) (PE.const (D.none))) (PE.const (D.str [])) (PE.bin (BOp.add) (PE.bin (BOp.add) (PE.const (D.str [32])) (PE.call 14 (PEs.cons (PE.var 1) (PEs.cons (PE.const (D.bool true)) (PEs.nil))))) (PE.const (D.str [59]))))) (PSs.cons (PS.ret (PE.bin (BOp.add) (PE.bin (BOp.add) (PE.bin (BOp.add) (PE.var 0) (PE.var 3)) (PE.ite (PE.cmp (COp.ne) (PE.var 2) (PE.const (D.str []))) (PE.bin (BOp.add) (PE.const (D.str [32])) (PE.var 2)) (PE.const (D.str [])))) (PE.const (D.str [32])))) (PSs.nil)) }
noncomputable def G2_18 : FnDef := { np := 1, ns := 3, dflt := [], body := PSs.cons (PS.assign (Tgt.one 1) (PE.list (PEs.nil))) (PSs.cons (PS.while (PE.and (PE.cmp (COp.isnot) (PE.var 0) (PE.const (D.none))) (PE.cmp (COp.eq) (PE.item (PE.var 0) (PE.const (D.int 0))) (PE.const (D.str [105, 102])))) (PSs.cons (PS.assign (Tgt.one 2) (PE.call 2 (PEs.cons (PE.item (PE.var 0) (PE.const (D.int 3))) (PEs.cons (PE.const (D.int 0)) (PEs.cons (PE.const (D.bool true)) (PEs.nil)))))) (PSs.cons (PS.expr (PE.append (PE.var 1) (PE.bin (BOp.add) (PE.call 17 (PEs.cons (PE.const (D.str [105, 102])) (PEs.cons (PE.item (PE.var 0) (PE.const (D.int 2))) (PEs.cons (PE.var 2) (PEs.nil))))) (PE.call 12 (PEs.cons (PE.item (PE.var 0) (PE.const (D.int 4))) (PEs.nil)))))) (PSs.cons (PS.assign (Tgt.one 0) (PE.item (PE.var 0) (PE.const (D.int 5)))) (PSs.nil))))) (PSs.cons (PS.ite (PE.cmp (COp.isnot) (PE.var 0) (PE.const (D.none))) (PSs.cons (PS.expr (PE.append (PE.var 1) (PE.call 12 (PEs.cons (PE.var 0) (PEs.nil))))) (PSs.nil)) (PSs.nil)) (PSs.cons (PS.ret (PE.join (PE.const (D.str [32, 101, 108, 115, 101, 32])) (PE.var 1))) (PSs.nil)))) }
noncomputable def G2_19 : FnDef := { np := 1, ns := 8, dflt := [], body := PSs.cons (PS.assign (Tgt.many [1, 2, 3, 4]) (PE.slice (PE.var 0) (some 3) (some 7) none)) (PSs.cons (PS.assign (Tgt.one 5) (PE.ite (PE.cmp (COp.is) (PE.var 2) (PE.const (D.none))) (PE.const (D.str [])) (PE.call 2 (PEs.cons (PE.var 2) (PEs.cons (PE.const (D.int 0)) (PEs.cons (PE.const (D.bool true)) (PEs.nil))))))) (PSs.cons (PS.ite (PE.and (PE.cmp (COp.is) (PE.var 1) (PE.const (D.none))) (PE.cmp (COp.is) (PE.var 3) (PE.const (D.none)))) (PSs.cons (PS.ret (PE.bin (BOp.add) (PE.bin (BOp.add) (PE.const (D.str [102, 111, 114, 32])) (PE.ite (PE.cmp (COp.ne) (PE.var 5) (PE.const (D.str []))) (PE.bin (BOp.add) (PE.var 5) (PE.const (D.str [32]))) (PE.const (D.str [])))) (PE.call 12 (PEs.cons (PE.var 4) (PEs.nil))))) (PSs.nil)) (PSs.nil)) (PSs.cons (PS.assign (Tgt.one 6) (PE.ite (PE.cmp (COp.is) (PE.var 1) (PE.const (D.none))) (PE.const (D.str [])) (PE.call 14 (PEs.cons (PE.var 1) (PEs.cons (PE.const (D.bool true)) (PEs.nil)))))) (PSs.cons (PS.assign (Tgt.one 7) (PE.ite (PE.cmp (COp.is) (PE.var 3) (PE.const (D.none))) (PE.const (D.str [])) (PE.bin (BOp.add) (PE.const (D.str [32])) (PE.call 14 (PEs.cons (PE.var 3) (PEs.cons (PE.const (D.bool true)) (PEs.nil))))))) (PSs.cons (PS.ret (PE.bin (BOp.add) (PE.bin (BOp.add) (PE.bin (BOp.add) (PE.bin (BOp.add) (PE.bin (BOp.add) (PE.bin (BOp.add) (PE.bin (BOp.add) (PE.const (D.str [102, 111, 114, 32])) (PE.var 6)) (PE.const (D.str [59, 32]))) (PE.var 5)) (PE.const (D.str [59]))) (PE.var 7)) (PE.const (D.str [32]))) (PE.call 12 (PEs.cons (PE.var 4) (PEs.nil))))) (PSs.nil)))))) }
noncomputable def G2_20 : FnDef := { np := 1, ns := 6, dflt := [], body := PSs.cons (PS.assign (Tgt.one 1) (PE.list (PEs.nil))) (PSs.cons (PS.loop (Tgt.many [2, 3, 4]) (PE.var 0) (PSs.cons (PS.assign (Tgt.one 5) (PE.ite (PE.var 3) (PE.const (D.str [100, 101, 102, 97, 117, 108, 116, 58])) (PE.bin (BOp.add) (PE.bin (BOp.add) (PE.const (D.str [99, 97, 115, 101, 32])) (PE.var 2)) (PE.const (D.str [58]))))) (PSs.cons (PS.expr (PE.append (PE.var 1) (PE.bin (BOp.add) (PE.var 5) (PE.join (PE.const (D.str [])) (PE.comp (PE.bin (BOp.add) (PE.const (D.str [10])) (PE.slice (PE.call 11 (PEs.cons (PE.call 13 (PEs.cons (PE.var 0) (PEs.nil))) (PEs.nil))) none (some (-1)) none)) 1 [] (Tgt.one 0) (PE.var 4) (PEs.nil)))))) (PSs.nil)))) (PSs.cons (PS.ret (PE.call 10 (PEs.cons (PE.var 1) (PEs.nil)))) (PSs.nil))) }
noncomputable def G2_21 : FnDef := { np := 1, ns := 3, dflt := [], body := PSs.cons (PS.assign (Tgt.one 1) (PE.ite (PE.cmp (COp.gt) (PE.bi (BI.len) (PEs.cons (PE.var 0) (PEs.nil))) (PE.const (D.int 0))) (PE.item (PE.var 0) (PE.const (D.int 0))) (PE.const (D.int 0)))) (PSs.cons (PS.assign (Tgt.one 2) (PE.bi (BI.max) (PEs.cons (PE.var 1) (PEs.cons (PE.bin (BOp.sub) (PE.neg (PE.const (D.int 1))) (PE.var 1)) (PEs.nil))))) (PSs.cons (PS.ret (PE.list (PEs.cons (PE.ite (PE.cmp (COp.ge) (PE.var 2) (PE.bin (BOp.pow) (PE.const (D.int 10)) (PE.const (D.int 18)))) (PE.var 2) (PE.const (D.int 0))) (PEs.cons (PE.bin (BOp.mod) (PE.bin (BOp.mul) (PE.bin (BOp.add) (PE.bin (BOp.mod) (PE.var 2) (PE.const (D.int 2147483629))) (PE.const (D.int 197))) (PE.const (D.int 48271))) (PE.const (D.int 2147483647))) (PEs.nil))))) (PSs.nil))) }
noncomputable def G2_22 : FnDef := { np := 2, ns := 3, dflt := [], body := PSs.cons (PS.ite (PE.cmp (COp.gt) (PE.item (PE.var 0) (PE.const (D.int 0))) (PE.const (D.int 0))) (PSs.cons (PS.assign (Tgt.one 2) (PE.bin (BOp.mod) (PE.item (PE.var 0) (PE.const (D.int 0))) (PE.var 1))) (PSs.cons (PS.setitem (PE.var 0) (PE.const (D.int 0)) (PE.bin (BOp.fdiv) (PE.item (PE.var 0) (PE.const (D.int 0))) (PE.var 1))) (PSs.cons (PS.ret (PE.var 2)) (PSs.nil)))) (PSs.nil)) (PSs.cons (PS.setitem (PE.var 0) (PE.const (D.int 1)) (PE.bin (BOp.mod) (PE.bin (BOp.add) (PE.bin (BOp.mul) (PE.item (PE.var 0) (PE.const (D.int 1))) (PE.const (D.int 39373))) (PE.const (D.int 7))) (PE.const (D.int 2147483647)))) (PSs.cons (PS.ret (PE.bin (BOp.mod) (PE.bin (BOp.fdiv) (PE.bin (BOp.mod) (PE.bin (BOp.mul) (PE.item (PE.var 0) (PE.const (D.int 1))) (PE.item (PE.var 0) (PE.const (D.int 1)))) (PE.const (D.int 2147483629))) (PE.const (D.int 32))) (PE.var 1))) (PSs.nil))) }
noncomputable def G2_23 : FnDef := { np := 2, ns := 2, dflt := [], body := PSs.cons (PS.ret (PE.item (PE.var 1) (PE.call 22 (PEs.cons (PE.var 0) (PEs.cons (PE.bi (BI.len) (PEs.cons (PE.var 1) (PEs.nil))) (PEs.nil)))))) (PSs.nil) }
noncomputable def G2_24 : FnDef := { np := 1, ns := 3, dflt := [], body := PSs.cons (PS.assign (Tgt.many [1, 2]) (PE.tup (PEs.cons (PE.tup (PEs.cons (PE.const (D.str [110, 97, 109, 101])) (PEs.cons (PE.const (D.int 3)) (PEs.cons (PE.const (D.str [97])) (PEs.nil))))) (PEs.cons (PE.tup (PEs.cons (PE.const (D.str [110, 97, 109, 101])) (PEs.cons (PE.const (D.int 4)) (PEs.cons (PE.const (D.str [98])) (PEs.nil))))) (PEs.nil))))) (PSs.cons (PS.ret (PE.call 23 (PEs.cons (PE.var 0) (PEs.cons (PE.list (PEs.cons (PE.tup (PEs.cons (PE.var 1) (PEs.cons (PE.const (D.str [97])) (PEs.nil)))) (PEs.cons (PE.tup (PEs.cons (PE.tup (PEs.cons (PE.const (D.str [105, 110, 116])) (PEs.cons (PE.const (D.int 5)) (PEs.cons (PE.const (D.int 7)) (PEs.nil))))) (PEs.cons (PE.const (D.str [55])) (PEs.nil)))) (PEs.cons (PE.tup (PEs.cons (PE.tup (PEs.cons (PE.const (D.str [99, 97, 108, 108])) (PEs.cons (PE.const (D.int 6)) (PEs.cons (PE.var 2) (PEs.cons (PE.tup (PEs.cons (PE.var 1) (PEs.nil))) (PEs.cons (PE.const (D.bool false)) (PEs.nil))))))) (PEs.cons (PE.const (D.str [98, 40, 97, 41])) (PEs.nil)))) (PEs.cons (PE.tup (PEs.cons (PE.tup (PEs.cons (PE.const (D.str [117, 110, 97, 114, 121])) (PEs.cons (PE.const (D.int 2)) (PEs.cons (PE.const (D.str [45])) (PEs.cons (PE.var 1) (PEs.nil)))))) (PEs.cons (PE.const (D.str [45, 97])) (PEs.nil)))) (PEs.cons (PE.tup (PEs.cons (PE.tup (PEs.cons (PE.const (D.str [98, 105, 110, 97, 114, 121])) (PEs.cons (PE.const (D.int 3)) (PEs.cons (PE.const (D.str [43])) (PEs.cons (PE.var 1) (PEs.cons (PE.var 2) (PEs.nil))))))) (PEs.cons (PE.const (D.str [97, 32, 43, 32, 98])) (PEs.nil)))) (PEs.nil))))))) (PEs.nil))))) (PSs.nil)) }
noncomputable def G2_25 : FnDef := { np := 1, ns := 3, dflt := [], body := PSs.cons (PS.assign (Tgt.many [1, 2]) (PE.tup (PEs.cons (PE.call 24 (PEs.cons (PE.var 0) (PEs.nil))) (PEs.cons (PE.call 24 (PEs.cons (PE.var 0) (PEs.nil))) (PEs.nil))))) (PSs.cons (PS.ite (PE.cmp (COp.eq) (PE.call 22 (PEs.cons (PE.var 0) (PEs.cons (PE.const (D.int 2)) (PEs.nil)))) (PE.const (D.int 0))) (PSs.cons (PS.ret (PE.tup (PEs.cons (PE.tup (PEs.cons (PE.item (PE.var 1) (PE.const (D.int 0))) (PEs.nil))) (PEs.cons (PE.item (PE.var 1) (PE.const (D.int 1))) (PEs.nil))))) (PSs.nil)) (PSs.nil)) (PSs.cons (PS.ret (PE.tup (PEs.cons (PE.tup (PEs.cons (PE.item (PE.var 1) (PE.const (D.int 0))) (PEs.cons (PE.item (PE.var 2) (PE.const (D.int 0))) (PEs.nil)))) (PEs.cons (PE.bin (BOp.add) (PE.bin (BOp.add) (PE.item (PE.var 1) (PE.const (D.int 1))) (PE.const (D.str [44, 32]))) (PE.item (PE.var 2) (PE.const (D.int 1)))) (PEs.nil))))) (PSs.nil))) }
noncomputable def G2_26 : FnDef := { np := 1, ns := 6, dflt := [], body := PSs.cons (PS.assign (Tgt.many [1, 2, 3, 4]) (PE.tup (PEs.cons (PE.call 24 (PEs.cons (PE.var 0) (PEs.nil))) (PEs.cons (PE.call 24 (PEs.cons (PE.var 0) (PEs.nil))) (PEs.cons (PE.call 25 (PEs.cons (PE.var 0) (PEs.nil))) (PEs.cons (PE.call 25 (PEs.cons (PE.var 0) (PEs.nil))) (PEs.nil))))))) (PSs.cons (PS.assign (Tgt.one 5) (PE.call 23 (PEs.cons (PE.var 0) (PEs.cons (PE.list (PEs.cons (PE.const (D.str [61])) (PEs.cons (PE.const (D.str [43, 61])) (PEs.cons (PE.const (D.str [60, 60, 61])) (PEs.cons (PE.const (D.str [38, 94, 61])) (PEs.nil)))))) (PEs.nil))))) (PSs.cons (PS.ret (PE.call 23 (PEs.cons (PE.var 0) (PEs.cons (PE.list (PEs.cons (PE.tup (PEs.cons (PE.tup (PEs.cons (PE.const (D.str [101, 120, 112, 114])) (PEs.cons (PE.const (D.int 1)) (PEs.cons (PE.item (PE.var 1) (PE.const (D.int 0))) (PEs.nil))))) (PEs.cons (PE.item (PE.var 1) (PE.const (D.int 1))) (PEs.nil)))) (PEs.cons (PE.tup (PEs.cons (PE.tup (PEs.cons (PE.const (D.str [115, 101, 110, 100])) (PEs.cons (PE.const (D.int 1)) (PEs.cons (PE.item (PE.var 1) (PE.const (D.int 0))) (PEs.cons (PE.item (PE.var 2) (PE.const (D.int 0))) (PEs.nil)))))) (PEs.cons (PE.bin (BOp.add) (PE.bin (BOp.add) (PE.item (PE.var 1) (PE.const (D.int 1))) (PE.const (D.str [32, 60, 45, 32]))) (PE.item (PE.var 2) (PE.const (D.int 1)))) (PEs.nil)))) (PEs.cons (PE.tup (PEs.cons (PE.tup (PEs.cons (PE.const (D.str [115, 116, 101, 112])) (PEs.cons (PE.const (D.int 1)) (PEs.cons (PE.item (PE.var 1) (PE.const (D.int 0))) (PEs.cons (PE.const (D.str [43, 43])) (PEs.nil)))))) (PEs.cons (PE.bin (BOp.add) (PE.item (PE.var 1) (PE.const (D.int 1))) (PE.const (D.str [43, 43]))) (PEs.nil)))) (PEs.cons (PE.tup (PEs.cons (PE.tup (PEs.cons (PE.const (D.str [115, 116, 101, 112])) (PEs.cons (PE.const (D.int 1)) (PEs.cons (PE.item (PE.var 1) (PE.const (D.int 0))) (PEs.cons (PE.const (D.str [45, 45])) (PEs.nil)))))) (PEs.cons (PE.bin (BOp.add) (PE.item (PE.var 1) (PE.const (D.int 1))) (PE.const (D.str [45, 45]))) (PEs.nil)))) (PEs.cons (PE.tup (PEs.cons (PE.tup (PEs.cons (PE.const (D.str [100, 101, 102, 105, 110, 101])) (PEs.cons (PE.const (D.int 1)) (PEs.cons (PE.tup (PEs.cons (PE.const (D.str [120])) (PEs.cons (PE.const (D.str [95])) (PEs.nil)))) (PEs.cons (PE.item (PE.var 3) (PE.const (D.int 0))) (PEs.nil)))))) (PEs.cons (PE.bin (BOp.add) (PE.const (D.str [120, 44, 32, 95, 32, 58, 61, 32])) (PE.item (PE.var 3) (PE.const (D.int 1)))) (PEs.nil)))) (PEs.cons (PE.tup (PEs.cons (PE.tup (PEs.cons (PE.const (D.str [97, 115, 115, 105, 103, 110])) (PEs.cons (PE.const (D.int 1)) (PEs.cons (PE.var 5) (PEs.cons (PE.item (PE.var 3) (PE.const (D.int 0))) (PEs.cons (PE.item (PE.var 4) (PE.const (D.int 0))) (PEs.nil))))))) (PEs.cons (PE.bin (BOp.add) (PE.bin (BOp.add) (PE.bin (BOp.add) (PE.bin (BOp.add) (PE.item (PE.var 3) (PE.const (D.int 1))) (PE.const (D.str [32]))) (PE.var 5)) (PE.const (D.str [32]))) (PE.item (PE.var 4) (PE.const (D.int 1)))) (PEs.nil)))) (PEs.nil)))))))) (PEs.nil))))) (PSs.nil))) }
noncomputable def G2_27 : FnDef := { np := 2, ns := 8, dflt := [], body := PSs.cons (PS.assign (Tgt.many [2, 3]) (PE.tup (PEs.cons (PE.list (PEs.nil)) (PEs.cons (PE.list (PEs.nil)) (PEs.nil))))) (PSs.cons (PS.loop (Tgt.one 4) (PE.bi (BI.range) (PEs.cons (PE.call 22 (PEs.cons (PE.var 0) (PEs.cons (PE.const (D.int 3)) (PEs.nil)))) (PEs.nil))) (PSs.cons (PS.ite (PE.and (PE.cmp (COp.gt) (PE.var 1) (PE.const (D.int 0))) (PE.cmp (COp.eq) (PE.call 22 (PEs.cons (PE.var 0) (PEs.cons (PE.const (D.int 3)) (PEs.nil)))) (PE.const (D.int 0)))) (PSs.cons (PS.assign (Tgt.many [5, 6]) (PE.call 30 (PEs.cons (PE.var 0) (PEs.cons (PE.bin (BOp.sub) (PE.var 1) (PE.const (D.int 1))) (PEs.nil))))) (PSs.nil)) (PSs.cons (PS.assign (Tgt.many [5, 7]) (PE.call 26 (PEs.cons (PE.var 0) (PEs.nil)))) (PSs.cons (PS.assign (Tgt.one 6) (PE.list (PEs.cons (PE.var 7) (PEs.nil)))) (PSs.nil)))) (PSs.cons (PS.expr (PE.append (PE.var 2) (PE.var 5))) (PSs.cons (PS.expr (PE.extend (PE.var 3) (PE.comp (PE.bin (BOp.add) (PE.const (D.str [9])) (PE.var 0)) 1 [] (Tgt.one 0) (PE.var 6) (PEs.nil)))) (PSs.nil))))) (PSs.cons (PS.ret (PE.tup (PEs.cons (PE.tup (PEs.cons (PE.const (D.str [98, 108, 111, 99, 107])) (PEs.cons (PE.const (D.int 1)) (PEs.cons (PE.bi (BI.tuple) (PEs.cons (PE.var 2) (PEs.nil))) (PEs.nil))))) (PEs.cons (PE.ite (PE.cmp (COp.ne) (PE.var 3) (PE.list (PEs.nil))) (PE.bin (BOp.add) (PE.bin (BOp.add) (PE.list (PEs.cons (PE.const (D.str [123])) (PEs.nil))) (PE.var 3)) (PE.list (PEs.cons (PE.const (D.str [125])) (PEs.nil)))) (PE.list (PEs.cons (PE.const (D.str [123, 125])) (PEs.nil)))) (PEs.nil))))) (PSs.nil))) }
noncomputable def G2_28 : FnDef := { np := 2, ns := 5, dflt := [], body := PSs.cons (PS.assign (Tgt.many [2, 3]) (PE.tup (PEs.cons (PE.ite (PE.cmp (COp.eq) (PE.call 22 (PEs.cons (PE.var 0) (PEs.cons (PE.const (D.int 2)) (PEs.nil)))) (PE.const (D.int 0))) (PE.call 26 (PEs.cons (PE.var 0) (PEs.nil))) (PE.tup (PEs.cons (PE.const (D.none)) (PEs.cons (PE.const (D.none)) (PEs.nil))))) (PEs.cons (PE.call 24 (PEs.cons (PE.var 0) (PEs.nil))) (PEs.nil))))) (PSs.cons (PS.assign (Tgt.one 4) (PE.ite (PE.cmp (COp.is) (PE.item (PE.var 2) (PE.const (D.int 0))) (PE.const (D.none))) (PE.const (D.str [])) (PE.bin (BOp.add) (PE.item (PE.var 2) (PE.const (D.int 1))) (PE.const (D.str [59, 32]))))) (PSs.cons (PS.ret (PE.tup (PEs.cons (PE.item (PE.var 2) (PE.const (D.int 0))) (PEs.cons (PE.item (PE.var 3) (PE.const (D.int 0))) (PEs.cons (PE.bin (BOp.add) (PE.bin (BOp.add) (PE.bin (BOp.add) (PE.bin (BOp.add) (PE.var 1) (PE.const (D.str [32]))) (PE.var 4)) (PE.item (PE.var 3) (PE.const (D.int 1)))) (PE.const (D.str [32]))) (PEs.nil)))))) (PSs.nil))) }
noncomputable def G2_29 : FnDef := { np := 3, ns := 3, dflt := [], body := PSs.cons (PS.ite (PE.cmp (COp.eq) (PE.var 0) (PE.list (PEs.nil))) (PSs.cons (PS.ret (PE.bin (BOp.add) (PE.list (PEs.cons (PE.bin (BOp.add) (PE.var 1) (PE.item (PE.var 2) (PE.const (D.int 0)))) (PEs.nil))) (PE.slice (PE.var 2) (some 1) none none))) (PSs.nil)) (PSs.nil)) (PSs.cons (PS.ret (PE.bin (BOp.add) (PE.bin (BOp.add) (PE.slice (PE.var 0) none (some (-1)) none) (PE.list (PEs.cons (PE.bin (BOp.add) (PE.bin (BOp.add) (PE.item (PE.var 0) (PE.neg (PE.const (D.int 1)))) (PE.var 1)) (PE.item (PE.var 2) (PE.const (D.int 0)))) (PEs.nil)))) (PE.slice (PE.var 2) (some 1) none none))) (PSs.nil)) }
noncomputable def G2_30 : FnDef := { np := 2, ns := 11, dflt := [], body := PSs.cons (PS.assign (Tgt.many [2, 3, 4]) (PE.tup (PEs.cons (PE.list (PEs.nil)) (PEs.cons (PE.list (PEs.nil)) (PEs.cons (PE.const (D.none)) (PEs.nil)))))) (PSs.cons (PS.loop (Tgt.one 5) (PE.bi (BI.range) (PEs.cons (PE.bin (BOp.add) (PE.const (D.int 1)) (PE.call 22 (PEs.cons (PE.var 0) (PEs.cons (PE.const (D.int 3)) (PEs.nil))))) (PEs.nil))) (PSs.cons (PS.assign (Tgt.many [6, 7, 8]) (PE.call 28 (PEs.cons (PE.var 0) (PEs.cons (PE.const (D.str [105, 102])) (PEs.nil))))) (PSs.cons (PS.assign (Tgt.many [9, 10]) (PE.call 27 (PEs.cons (PE.var 0) (PEs.cons (PE.var 1) (PEs.nil))))) (PSs.cons (PS.expr (PE.append (PE.var 2) (PE.tup (PEs.cons (PE.var 6) (PEs.cons (PE.var 7) (PEs.cons (PE.var 9) (PEs.nil))))))) (PSs.cons (PS.assign (Tgt.one 3) (PE.call 29 (PEs.cons (PE.var 3) (PEs.cons (PE.ite (PE.cmp (COp.eq) (PE.var 5) (PE.const (D.int 0))) (PE.var 8) (PE.bin (BOp.add) (PE.const (D.str [32, 101, 108, 115, 101, 32])) (PE.var 8))) (PEs.cons (PE.var 10) (PEs.nil)))))) (PSs.nil)))))) (PSs.cons (PS.ite (PE.cmp (COp.eq) (PE.call 22 (PEs.cons (PE.var 0) (PEs.cons (PE.const (D.int 2)) (PEs.nil)))) (PE.const (D.int 0))) (PSs.cons (PS.assign (Tgt.many [4, 10]) (PE.call 27 (PEs.cons (PE.var 0) (PEs.cons (PE.var 1) (PEs.nil))))) (PSs.cons (PS.assign (Tgt.one 3) (PE.call 29 (PEs.cons (PE.var 3) (PEs.cons (PE.const (D.str [32, 101, 108, 115, 101, 32])) (PEs.cons (PE.var 10) (PEs.nil)))))) (PSs.nil))) (PSs.nil)) (PSs.cons (PS.loop (Tgt.many [6, 7, 9]) (PE.slice (PE.var 2) none none (some (-1))) (PSs.cons (PS.assign (Tgt.one 4) (PE.tup (PEs.cons (PE.const (D.str [105, 102])) (PEs.cons (PE.const (D.int 1)) (PEs.cons (PE.var 6) (PEs.cons (PE.var 7) (PEs.cons (PE.var 9) (PEs.cons (PE.var 4) (PEs.nil))))))))) (PSs.nil))) (PSs.cons (PS.ret (PE.tup (PEs.cons (PE.var 4) (PEs.cons (PE.var 3) (PEs.nil))))) (PSs.nil))))) }
noncomputable def G2_31 : FnDef := { np := 1, ns := 10, dflt := [], body := PSs.cons (PS.assign (Tgt.many [1, 2]) (PE.tup (PEs.cons (PE.tup (PEs.cons (PE.const (D.none)) (PEs.cons (PE.const (D.str [])) (PEs.nil)))) (PEs.cons (PE.call 22 (PEs.cons (PE.var 0) (PEs.cons (PE.const (D.int 4)) (PEs.nil)))) (PEs.nil))))) (PSs.cons (PS.assign (Tgt.one 3) (PE.ite (PE.cmp (COp.eq) (PE.call 22 (PEs.cons (PE.var 0) (PEs.cons (PE.const (D.int 2)) (PEs.nil)))) (PE.const (D.int 0))) (PE.call 24 (PEs.cons (PE.var 0) (PEs.nil))) (PE.var 1))) (PSs.cons (PS.assign (Tgt.many [4, 5]) (PE.tup (PEs.cons (PE.ite (PE.cmp (COp.inn) (PE.var 2) (PE.list (PEs.cons (PE.const (D.int 1)) (PEs.cons (PE.const (D.int 3)) (PEs.nil))))) (PE.call 26 (PEs.cons (PE.var 0) (PEs.nil))) (PE.var 1)) (PEs.cons (PE.ite (PE.cmp (COp.inn) (PE.var 2) (PE.list (PEs.cons (PE.const (D.int 2)) (PEs.cons (PE.const (D.int 3)) (PEs.nil))))) (PE.call 26 (PEs.cons (PE.var 0) (PEs.nil))) (PE.var 1)) (PEs.nil))))) (PSs.cons (PS.assign (Tgt.many [6, 7]) (PE.call 27 (PEs.cons (PE.var 0) (PEs.cons (PE.const (D.int 1)) (PEs.nil))))) (PSs.cons (PS.assign (Tgt.one 8) (PE.comp (PE.var 0) 1 [] (Tgt.one 0) (PE.list (PEs.cons (PE.item (PE.var 3) (PE.const (D.int 1))) (PEs.nil))) (PEs.cons (PE.cmp (COp.ne) (PE.var 0) (PE.const (D.str []))) (PEs.nil)))) (PSs.cons (PS.ite (PE.cmp (COp.gt) (PE.var 2) (PE.const (D.int 0))) (PSs.cons (PS.assign (Tgt.one 8) (PE.bin (BOp.add) (PE.list (PEs.cons (PE.bin (BOp.add) (PE.item (PE.var 4) (PE.const (D.int 1))) (PE.const (D.str [59]))) (PEs.cons (PE.bin (BOp.add) (PE.item (PE.var 3) (PE.const (D.int 1))) (PE.const (D.str [59]))) (PEs.nil)))) (PE.comp (PE.var 0) 1 [] (Tgt.one 0) (PE.list (PEs.cons (PE.item (PE.var 5) (PE.const (D.int 1))) (PEs.nil))) (PEs.cons (PE.cmp (COp.ne) (PE.var 0) (PE.const (D.str []))) (PEs.nil))))) (PSs.nil)) (PSs.nil)) (PSs.cons (PS.assign (Tgt.one 9) (PE.bin (BOp.add) (PE.join (PE.const (D.str [32])) (PE.bin (BOp.add) (PE.list (PEs.cons (PE.const (D.str [102, 111, 114])) (PEs.nil))) (PE.var 8))) (PE.const (D.str [32])))) (PSs.cons (PS.ret (PE.tup (PEs.cons (PE.tup (PEs.cons (PE.const (D.str [102, 111, 114])) (PEs.cons (PE.const (D.int 1)) (PEs.cons (PE.const (D.none)) (PEs.cons (PE.item (PE.var 4) (PE.const (D.int 0))) (PEs.cons (PE.item (PE.var 3) (PE.const (D.int 0))) (PEs.cons (PE.item (PE.var 5) (PE.const (D.int 0))) (PEs.cons (PE.var 6) (PEs.nil))))))))) (PEs.cons (PE.bin (BOp.add) (PE.list (PEs.cons (PE.bin (BOp.add) (PE.var 9) (PE.item (PE.var 7) (PE.const (D.int 0)))) (PEs.nil))) (PE.slice (PE.var 7) (some 1) none none)) (PEs.nil))))) (PSs.nil)))))))) }
noncomputable def G2_32 : FnDef := { np := 1, ns := 8, dflt := [], body := PSs.cons (PS.assign (Tgt.many [1, 2]) (PE.tup (PEs.cons (PE.list (PEs.nil)) (PEs.cons (PE.list (PEs.nil)) (PEs.nil))))) (PSs.cons (PS.loop (Tgt.one 3) (PE.bi (BI.range) (PEs.cons (PE.call 22 (PEs.cons (PE.var 0) (PEs.cons (PE.const (D.int 4)) (PEs.nil)))) (PEs.nil))) (PSs.cons (PS.assign (Tgt.many [4, 5]) (PE.tup (PEs.cons (PE.item (PE.call 24 (PEs.cons (PE.var 0) (PEs.nil))) (PE.const (D.int 1))) (PEs.cons (PE.cmp (COp.eq) (PE.call 22 (PEs.cons (PE.var 0) (PEs.cons (PE.const (D.int 4)) (PEs.nil)))) (PE.const (D.int 0))) (PEs.nil))))) (PSs.cons (PS.assign (Tgt.many [6, 7]) (PE.call 27 (PEs.cons (PE.var 0) (PEs.cons (PE.const (D.int 1)) (PEs.nil))))) (PSs.cons (PS.expr (PE.append (PE.var 1) (PE.tup (PEs.cons (PE.var 4) (PEs.cons (PE.var 5) (PEs.cons (PE.item (PE.var 6) (PE.const (D.int 2))) (PEs.nil))))))) (PSs.cons (PS.expr (PE.append (PE.var 2) (PE.ite (PE.var 5) (PE.const (D.str [9, 100, 101, 102, 97, 117, 108, 116, 58])) (PE.bin (BOp.add) (PE.bin (BOp.add) (PE.const (D.str [9, 99, 97, 115, 101, 32])) (PE.var 4)) (PE.const (D.str [58])))))) (PSs.cons (PS.expr (PE.extend (PE.var 2) (PE.comp (PE.bin (BOp.add) (PE.const (D.str [9])) (PE.var 0)) 1 [] (Tgt.one 0) (PE.slice (PE.var 7) (some 1) (some (-1)) none) (PEs.nil)))) (PSs.nil))))))) (PSs.cons (PS.ret (PE.tup (PEs.cons (PE.var 1) (PEs.cons (PE.ite (PE.cmp (COp.ne) (PE.var 2) (PE.list (PEs.nil))) (PE.bin (BOp.add) (PE.bin (BOp.add) (PE.list (PEs.cons (PE.const (D.str [123])) (PEs.nil))) (PE.var 2)) (PE.list (PEs.cons (PE.const (D.str [125])) (PEs.nil)))) (PE.list (PEs.cons (PE.const (D.str [123, 125])) (PEs.nil)))) (PEs.nil))))) (PSs.nil))) }
noncomputable def G2_33 : FnDef := { np := 1, ns := 12, dflt := [], body := PSs.cons (PS.assign (Tgt.many [1, 2, 3]) (PE.tup (PEs.cons (PE.tup (PEs.cons (PE.const (D.str [110, 97, 109, 101])) (PEs.cons (PE.const (D.int 4)) (PEs.cons (PE.const (D.none)) (PEs.cons (PE.const (D.str [84])) (PEs.nil)))))) (PEs.cons (PE.call 25 (PEs.cons (PE.var 0) (PEs.nil))) (PEs.cons (PE.call 22 (PEs.cons (PE.var 0) (PEs.cons (PE.const (D.int 6)) (PEs.nil)))) (PEs.nil)))))) (PSs.cons (PS.ite (PE.cmp (COp.lt) (PE.var 3) (PE.const (D.int 2))) (PSs.cons (PS.ret (PE.tup (PEs.cons (PE.tup (PEs.cons (PE.const (D.str [116, 121, 112, 101, 100, 101, 99, 108])) (PEs.cons (PE.const (D.int 1)) (PEs.cons (PE.const (D.str [78])) (PEs.cons (PE.tup (PEs.cons (PE.const (D.str [112, 116, 114])) (PEs.cons (PE.const (D.int 3)) (PEs.cons (PE.var 1) (PEs.nil))))) (PEs.cons (PE.cmp (COp.eq) (PE.var 3) (PE.const (D.int 0))) (PEs.nil))))))) (PEs.cons (PE.list (PEs.cons (PE.ite (PE.cmp (COp.eq) (PE.var 3) (PE.const (D.int 0))) (PE.const (D.str [116, 121, 112, 101, 32, 78, 32, 61, 32, 42, 84])) (PE.const (D.str [116, 121, 112, 101, 32, 78, 32, 42, 84]))) (PEs.nil))) (PEs.nil))))) (PSs.nil)) (PSs.nil)) (PSs.cons (PS.assign (Tgt.one 4) (PE.list (PEs.cons (PE.tup (PEs.cons (PE.const (D.none)) (PEs.cons (PE.item (PE.var 2) (PE.const (D.int 0))) (PEs.cons (PE.bin (BOp.add) (PE.const (D.str [32, 61, 32])) (PE.item (PE.var 2) (PE.const (D.int 1)))) (PEs.nil))))) (PEs.cons (PE.tup (PEs.cons (PE.var 1) (PEs.cons (PE.item (PE.var 2) (PE.const (D.int 0))) (PEs.cons (PE.bin (BOp.add) (PE.const (D.str [32, 84, 32, 61, 32])) (PE.item (PE.var 2) (PE.const (D.int 1)))) (PEs.nil))))) (PEs.cons (PE.tup (PEs.cons (PE.var 1) (PEs.cons (PE.tup (PEs.nil)) (PEs.cons (PE.const (D.str [32, 84])) (PEs.nil))))) (PEs.nil)))))) (PSs.cons (PS.ite (PE.cmp (COp.eq) (PE.var 3) (PE.const (D.int 2))) (PSs.cons (PS.assign (Tgt.many [5, 6, 7]) (PE.call 23 (PEs.cons (PE.var 0) (PEs.cons (PE.var 4) (PEs.nil))))) (PSs.cons (PS.ret (PE.tup (PEs.cons (PE.tup (PEs.cons (PE.const (D.str [118, 97, 114])) (PEs.cons (PE.const (D.int 1)) (PEs.cons (PE.tup (PEs.cons (PE.const (D.str [120])) (PEs.cons (PE.const (D.str [121])) (PEs.nil)))) (PEs.cons (PE.var 5) (PEs.cons (PE.var 6) (PEs.nil))))))) (PEs.cons (PE.list (PEs.cons (PE.bin (BOp.add) (PE.const (D.str [118, 97, 114, 32, 120, 44, 32, 121])) (PE.var 7)) (PEs.nil))) (PEs.nil))))) (PSs.nil))) (PSs.nil)) (PSs.cons (PS.assign (Tgt.many [8, 9]) (PE.tup (PEs.cons (PE.list (PEs.nil)) (PEs.cons (PE.list (PEs.nil)) (PEs.nil))))) (PSs.cons (PS.loop (Tgt.one 10) (PE.bi (BI.range) (PEs.cons (PE.bin (BOp.add) (PE.const (D.int 1)) (PE.call 22 (PEs.cons (PE.var 0) (PEs.cons (PE.const (D.int 3)) (PEs.nil))))) (PEs.nil))) (PSs.cons (PS.assign (Tgt.many [5, 6, 7]) (PE.call 23 (PEs.cons (PE.var 0) (PEs.cons (PE.slice (PE.var 4) none (some 2) none) (PEs.nil))))) (PSs.cons (PS.assign (Tgt.one 11) (PE.ite (PE.cmp (COp.eq) (PE.var 10) (PE.const (D.int 1))) (PE.tup (PEs.cons (PE.const (D.str [99])) (PEs.nil))) (PE.tup (PEs.cons (PE.const (D.str [99])) (PEs.cons (PE.const (D.str [95])) (PEs.nil)))))) (PSs.cons (PS.expr (PE.append (PE.var 8) (PE.tup (PEs.cons (PE.var 11) (PEs.cons (PE.var 5) (PEs.cons (PE.var 6) (PEs.cons (PE.var 10) (PEs.nil)))))))) (PSs.cons (PS.expr (PE.append (PE.var 9) (PE.bin (BOp.add) (PE.join (PE.const (D.str [44, 32])) (PE.var 11)) (PE.var 7)))) (PSs.nil)))))) (PSs.cons (PS.ite (PE.cmp (COp.eq) (PE.bi (BI.len) (PEs.cons (PE.var 9) (PEs.nil))) (PE.const (D.int 1))) (PSs.cons (PS.ret (PE.tup (PEs.cons (PE.tup (PEs.cons (PE.const (D.str [99, 111, 110, 115, 116])) (PEs.cons (PE.const (D.int 1)) (PEs.cons (PE.bi (BI.tuple) (PEs.cons (PE.var 8) (PEs.nil))) (PEs.nil))))) (PEs.cons (PE.list (PEs.cons (PE.bin (BOp.add) (PE.const (D.str [99, 111, 110, 115, 116, 32])) (PE.item (PE.var 9) (PE.const (D.int 0)))) (PEs.nil))) (PEs.nil))))) (PSs.nil)) (PSs.nil)) (PSs.cons (PS.ret (PE.tup (PEs.cons (PE.tup (PEs.cons (PE.const (D.str [99, 111, 110, 115, 116])) (PEs.cons (PE.const (D.int 1)) (PEs.cons (PE.bi (BI.tuple) (PEs.cons (PE.var 8) (PEs.nil))) (PEs.nil))))) (PEs.cons (PE.bin (BOp.add) (PE.bin (BOp.add) (PE.list (PEs.cons (PE.const (D.str [99, 111, 110, 115, 116, 32, 40])) (PEs.nil))) (PE.comp (PE.bin (BOp.add) (PE.const (D.str [9])) (PE.var 0)) 1 [] (Tgt.one 0) (PE.var 9) (PEs.nil))) (PE.list (PEs.cons (PE.const (D.str [41])) (PEs.nil)))) (PEs.nil))))) (PSs.nil)))))))) }
noncomputable def G2_34 : FnDef := { np := 1, ns := 9, dflt := [], body := PSs.cons (PS.assign (Tgt.one 1) (PE.tup (PEs.cons (PE.const (D.str [115, 116, 101, 112])) (PEs.cons (PE.const (D.int 1)) (PEs.cons (PE.tup (PEs.cons (PE.const (D.str [110, 97, 109, 101])) (PEs.cons (PE.const (D.int 2)) (PEs.cons (PE.const (D.str [120])) (PEs.nil))))) (PEs.cons (PE.const (D.str [43, 43])) (PEs.nil))))))) (PSs.cons (PS.ite (PE.cmp (COp.ne) (PE.call 19 (PEs.cons (PE.tup (PEs.cons (PE.const (D.str [102, 111, 114])) (PEs.cons (PE.const (D.int 1)) (PEs.cons (PE.const (D.none)) (PEs.cons (PE.var 1) (PEs.cons (PE.tup (PEs.cons (PE.const (D.str [110, 97, 109, 101])) (PEs.cons (PE.const (D.int 3)) (PEs.cons (PE.const (D.str [98])) (PEs.nil))))) (PEs.cons (PE.const (D.none)) (PEs.cons (PE.tup (PEs.cons (PE.const (D.str [98, 108, 111, 99, 107])) (PEs.cons (PE.const (D.int 4)) (PEs.cons (PE.tup (PEs.cons (PE.var 1) (PEs.nil))) (PEs.nil))))) (PEs.nil))))))))) (PEs.nil))) (PE.const (D.str [102, 111, 114, 32, 120, 43, 43, 59, 32, 98, 59, 32, 123, 10, 9, 120, 43, 43, 10, 125]))) (PSs.cons (PS.ret (PE.const (D.bool false))) (PSs.nil)) (PSs.nil)) (PSs.cons (PS.assign (Tgt.one 2) (PE.call 21 (PEs.cons (PE.var 0) (PEs.nil)))) (PSs.cons (PS.assign (Tgt.many [3, 4]) (PE.call 30 (PEs.cons (PE.var 2) (PEs.cons (PE.const (D.int 1)) (PEs.nil))))) (PSs.cons (PS.ite (PE.cmp (COp.ne) (PE.call 18 (PEs.cons (PE.var 3) (PEs.nil))) (PE.join (PE.const (D.str [10])) (PE.var 4))) (PSs.cons (PS.ret (PE.const (D.bool false))) (PSs.nil)) (PSs.nil)) (PSs.cons (PS.assign (Tgt.many [3, 4]) (PE.call 31 (PEs.cons (PE.var 2) (PEs.nil)))) (PSs.cons (PS.ite (PE.cmp (COp.ne) (PE.call 19 (PEs.cons (PE.var 3) (PEs.nil))) (PE.join (PE.const (D.str [10])) (PE.var 4))) (PSs.cons (PS.ret (PE.const (D.bool false))) (PSs.nil)) (PSs.nil)) (PSs.cons (PS.assign (Tgt.many [5, 4]) (PE.call 32 (PEs.cons (PE.var 2) (PEs.nil)))) (PSs.cons (PS.ite (PE.cmp (COp.ne) (PE.call 20 (PEs.cons (PE.var 5) (PEs.nil))) (PE.join (PE.const (D.str [10])) (PE.var 4))) (PSs.cons (PS.ret (PE.const (D.bool false))) (PSs.nil)) (PSs.nil)) (PSs.cons (PS.assign (Tgt.many [3, 6]) (PE.call 26 (PEs.cons (PE.var 2) (PEs.nil)))) (PSs.cons (PS.assign (Tgt.many [7, 8]) (PE.tup (PEs.cons (PE.call 23 (PEs.cons (PE.var 2) (PEs.cons (PE.list (PEs.cons (PE.const (D.str [105, 102])) (PEs.cons (PE.const (D.str [115, 119, 105, 116, 99, 104])) (PEs.nil)))) (PEs.nil)))) (PEs.cons (PE.call 23 (PEs.cons (PE.var 2) (PEs.cons (PE.list (PEs.cons (PE.const (D.str [])) (PEs.cons (PE.const (D.str [97, 32])) (PEs.nil)))) (PEs.nil)))) (PEs.nil))))) (PSs.cons (PS.ite (PE.or (PE.cmp (COp.ne) (PE.call 14 (PEs.cons (PE.var 3) (PEs.cons (PE.cmp (COp.eq) (PE.call 22 (PEs.cons (PE.var 2) (PEs.cons (PE.const (D.int 2)) (PEs.nil)))) (PE.const (D.int 0))) (PEs.nil)))) (PE.var 6)) (PE.cmp (COp.ne) (PE.call 17 (PEs.cons (PE.var 7) (PEs.cons (PE.const (D.none)) (PEs.cons (PE.slice (PE.var 8) none (some 1) none) (PEs.nil))))) (PE.bin (BOp.add) (PE.bin (BOp.add) (PE.var 7) (PE.const (D.str [32]))) (PE.var 8)))) (PSs.cons (PS.ret (PE.const (D.bool false))) (PSs.nil)) (PSs.nil)) (PSs.cons (PS.ite (PE.cmp (COp.ne) (PE.call 17 (PEs.cons (PE.var 7) (PEs.cons (PE.var 3) (PEs.cons (PE.slice (PE.var 8) none (some 1) none) (PEs.nil))))) (PE.bin (BOp.add) (PE.bin (BOp.add) (PE.bin (BOp.add) (PE.bin (BOp.add) (PE.var 7) (PE.const (D.str [32]))) (PE.var 6)) (PE.const (D.str [59, 32]))) (PE.var 8))) (PSs.cons (PS.ret (PE.const (D.bool false))) (PSs.nil)) (PSs.nil)) (PSs.cons (PS.assign (Tgt.many [3, 4]) (PE.call 33 (PEs.cons (PE.var 2) (PEs.nil)))) (PSs.cons (PS.ret (PE.cmp (COp.eq) (PE.call 15 (PEs.cons (PE.var 3) (PEs.nil))) (PE.join (PE.const (D.str [10])) (PE.var 4)))) (PSs.nil))))))))))))))) }
noncomputable def G2 : List FnDef := [G2_0, G2_1, G2_2, G2_3, G2_4, G2_5, G2_6, G2_7, G2_8, G2_9, G2_10, G2_11, G2_12, G2_13, G2_14, G2_15, G2_16, G2_17, G2_18, G2_19, G2_20, G2_21, G2_22, G2_23, G2_24, G2_25, G2_26, G2_27, G2_28, G2_29, G2_30, G2_31, G2_32, G2_33, G2_34]
end Mine
end

section
open PySem
namespace Mine
theorem app_le {x y : List Nat} {a b : Nat} (h1 : x.length ≤ a) (h2 : y.length ≤ b) : (x ++ y).length ≤ a + b := by
  rw [List.length_append]; exact Nat.add_le_add h1 h2
theorem nil_le : ([] : List Nat).length ≤ 0 := Nat.le_refl 0
theorem cons_le {c n : Nat} {l : List Nat} (h : l.length ≤ n) : (c :: l).length ≤ n + 1 := Nat.succ_le_succ h
theorem cap2 {x y : List Nat} {a b : Nat} (h1 : x.length ≤ a) (h2 : y.length ≤ b) (h : Nat.ble (a + b) 1000000 = true) : x.length + y.length ≤ sizeCap := Nat.le_trans (Nat.add_le_add h1 h2) (Nat.le_of_ble_eq_true h)
theorem cap1 {x : List Nat} {a : Nat} (h1 : x.length ≤ a) (h : Nat.ble a 1000000 = true) : x.length ≤ sizeCap := Nat.le_trans h1 (Nat.le_of_ble_eq_true h)
theorem runV_some {ve : VEnv} {P : VEnv → Prop} : RunV (some ve) P = P ve := rfl
theorem setVar_0 {x : Option D} {l : VEnv} {d : D} : setVar (x :: l) 0 d = some (some d :: l) := by
  simp [setVar]
theorem setVar_S {x : Option D} {l : VEnv} {n : Nat} {d : D} {P : VEnv → Prop} : RunV (setVar (x :: l) (n + 1) d) P = RunV (setVar l n d) fun r => P (x :: r) := by
  unfold setVar
  by_cases h : n < l.length <;> simp [h, RunV]
theorem store_one0 {x : Option D} {l : VEnv} {d : D} {P : VEnv → Prop} : RunV (store (.one 0) d (x :: l)) P = P (some d :: l) := by
  show RunV (setVar (x :: l) 0 d) P = _
  rw [setVar_0]; rfl
theorem store_oneS {x : Option D} {l : VEnv} {n : Nat} {d : D} {P : VEnv → Prop} : RunV (store (.one (n + 1)) d (x :: l)) P = RunV (store (.one n) d l) fun r => P (x :: r) := setVar_S
theorem store_many {is : List Nat} {ds : List D} {ve : VEnv} {P : VEnv → Prop} : RunV (store (.many is) (.tup ds) ve) P = RunV (setVars ve is ds) P := rfl
theorem setVars_nil {ve : VEnv} {P : VEnv → Prop} : RunV (setVars ve [] []) P = P ve := rfl
theorem setVars_cons {ve : VEnv} {i : Nat} {is : List Nat} {d : D} {ds : List D} {P : VEnv → Prop} : RunV (setVars ve (i :: is) (d :: ds)) P = RunV (store (.one i) d ve) fun ve' => RunV (setVars ve' is ds) P := by
  show RunV (setVars ve (i :: is) (d :: ds)) P = RunV (setVar ve i d) _
  simp only [setVars]
  cases setVar ve i d <;> rfl

theorem beq_cons_nil {x : Nat} {l : List Nat} : ((x :: l) == []) = false := rfl
theorem beq_nil_cons {x : Nat} {l : List Nat} : (([] : List Nat) == x :: l) = false := rfl
theorem beq_nil_nil : (([] : List Nat) == []) = true := rfl
theorem isNone_none : isNoneD .none = true := rfl
theorem isNone_tup {l : List D} : isNoneD (.tup l) = false := rfl
theorem isNone_str {l : List Nat} : isNoneD (.str l) = false := rfl
theorem isNone_int {l : Int} : isNoneD (.int l) = false := rfl
theorem isNone_ref {l : Nat} : isNoneD (.ref l) = false := rfl
theorem isNone_bool {l : Bool} : isNoneD (.bool l) = false := rfl
theorem strsOf_nil : strsOf [] = some [] := rfl
theorem strsOf_cons {s : List Nat} {l : List D} : strsOf (.str s :: l) = (match strsOf l with | some r => some (s :: r) | none => none) := by
  show (match strsOf l with | some r => some (s :: r) | _ => none) = _
  cases strsOf l <;> rfl
theorem notin_tup {x : List Nat} {l : List D} {σ : Sto} {Q : Bool → Prop} : RunM (opCmp .notin (.str x) (.tup l) σ) Q = (match strsOf l with | some ys => Q (!(ys.any (· == x))) | none => False) := by
  show RunM ((match strsOf l with | some ys => some (ys.any (· == x)) | _ => none).map (!·)) Q = _
  cases strsOf l <;> rfl
theorem in_tup {x : List Nat} {l : List D} {σ : Sto} {Q : Bool → Prop} : RunM (opCmp .inn (.str x) (.tup l) σ) Q = (match strsOf l with | some ys => Q (ys.any (· == x)) | none => False) := by
  show RunM (match strsOf l with | some ys => some (ys.any (· == x)) | _ => none) Q = _
  cases strsOf l <;> rfl
theorem in_str {x : Nat} {l : List Nat} {σ : Sto} {Q : Bool → Prop} : RunM (opCmp .inn (.str [x]) (.str l) σ) Q = Q (l.contains x) := rfl
theorem item_str {x : Nat} {l : List Nat} {σ : Sto} {P : D → Sto → Prop} : RunO (opItem (.str (x :: l)) (.int 0) σ) P = P (.str [x]) σ := rfl

theorem str_7 {σ : Sto} {P : D → Sto → Prop} : RunO (opBi .str [.int 7] σ) P = P (.str [55]) σ := rfl
theorem len_str {l : List Nat} {σ : Sto} {P : D → Sto → Prop} : RunO (opBi .len [.str l] σ) P = (l.length ≤ sizeCap ∧ P (.int l.length) σ) := by
  show RunO (if l.length ≤ sizeCap then some (.int l.length, σ) else none) P = _
  split
  · rename_i h; simp [h, RunO]
  · rename_i h; simp [h, RunO]
theorem len_ref {r : Nat} {σ : Sto} {P : D → Sto → Prop} : RunO (opBi .len [.ref r] σ) P = (match σ[r]? with | some l => l.length ≤ sizeCap ∧ P (.int l.length) σ | none => False) := by
  show RunO (match σ[r]? with | some l => if l.length ≤ sizeCap then some (.int l.length, σ) else none | _ => none) P = _
  cases σ[r]? with
  | none => rfl
  | some l =>
    dsimp only
    split
    · rename_i h; simp [h, RunO]
    · rename_i h; simp [h, RunO]
theorem range_int {a : Int} {σ : Sto} {P : D → Sto → Prop} : RunO (opBi .range [.int a] σ) P = ((0 ≤ a ∧ a ≤ 1000) ∧ P (.rng a.toNat) σ) := by
  show RunO (if 0 ≤ a ∧ a ≤ 1000 then some (.rng a.toNat, σ) else none) P = _
  split
  · rename_i h; simp only [RunO]; exact propext ⟨fun q => ⟨h, q⟩, fun q => q.2⟩
  · rename_i h; simp only [RunO]; exact propext ⟨False.elim, fun q => h q.1⟩
theorem join_ref {sep : List Nat} {r : Nat} {xs : List (List Nat)} {σ : Sto} {P : D → Sto → Prop} (h : σ[r]? = some (xs.map D.str)) (hs : sep.length ≤ sizeCap) (hl : (joinL sep xs).length ≤ sizeCap) (hp : P (.str (joinL sep xs)) σ) : RunO (opJoin (.str sep) (.ref r) σ) P := by
  have e : ∀ xs : List (List Nat), strsOf (xs.map D.str) = some xs := by
    intro xs
    induction xs with
    | nil => rfl
    | cons x xs ih => rw [List.map_cons, strsOf_cons, ih]
  show RunO (match σ[r]? with
    | some ds => (match strsOf ds with | some xs => if sep.length ≤ sizeCap then strOk (joinL sep xs) σ else none | _ => none)
    | _ => none) P
  rw [h]
  dsimp only
  rw [e]
  dsimp only
  rw [if_pos hs]
  unfold strOk
  rw [if_pos hl]
  exact hp

noncomputable def All2 {α β : Type} (R : α → β → Prop) : List α → List β → Prop
  | [], ys => ys = []
  | x :: l, ys => ∃ y r, ys = y :: r ∧ R x y ∧ All2 R l r
theorem All2.len {α β : Type} {R : α → β → Prop} : ∀ {l : List α} {r : List β}, All2 R l r → r.length = l.length
  | [], r, h => by unfold All2 at h; subst h; rfl
  | x :: l, r, h => by
    unfold All2 at h
    obtain ⟨y, r', rfl, _, h2⟩ := h
    simp [h2.len]
theorem All2.map {α β γ : Type} {R : α → β → Prop} {R' : α → γ → Prop} (f : β → γ) (hf : ∀ a b, R a b → R' a (f b)) : ∀ {l : List α} {r : List β}, All2 R l r → All2 R' l (r.map f)
  | [], r, h => by unfold All2 at h; subst h; rfl
  | x :: l, r, h => by
    unfold All2 at h
    obtain ⟨y, r', rfl, h1, h2⟩ := h
    exact ⟨f y, r'.map f, rfl, hf _ _ h1, All2.map f hf h2⟩
theorem append_ref {r : Nat} {x : D} {l : List D} {σ : Sto} (h : σ[r]? = some l) (hl : l.length < sizeCap) : opAppend (.ref r) x σ = some (.none, σ.set r (l ++ [x])) := by
  unfold opAppend
  dsimp only
  rw [h]
  dsimp only
  rw [if_pos hl]
theorem Gs.set {S : List Nat} {σ : Sto} {r : Nat} {l : List D} : Gs (r :: S) σ (σ.set r l) := by
  refine ⟨by rw [List.length_set]; exact Nat.le_refl _, fun j hj hn => ?_⟩
  rw [List.getElem?_set_ne]
  intro e; exact hn (by simp [e])

/-- a comprehension whose texts are known -/
theorem cloop_known {test : VEnv → Sto → Option (Bool × Sto)} {el : VEnv → Sto → Option (D × Sto)} {t : Tgt} {src : D} {all : List D} {r : Nat} {V : VEnv → Prop} (htest : ∀ ve σ, test ve σ = some (true, σ)) (Z : Sto → Prop)
    (hst : ∀ σ, Z σ → stays src all σ = true) (hZ : ∀ σ σ', Z σ → Gs [r] σ σ' → Z σ') :
    ∀ (rest ys : List D) (ve : VEnv) (σ : Sto) (pre : List D), All2 (fun d y => ∀ ve σ, V ve → RunV (store t d ve) fun ve' => V ve' ∧ RunO (el ve' σ) fun y' σ' => y' = y ∧ Gs [] σ σ') rest ys → V ve → Z σ → σ[r]? = some pre → pre.length + rest.length < sizeCap →
      RunT (cloop test el t src all r rest ve σ) fun σ' => σ'[r]? = some (pre ++ ys) ∧ Gs [r] σ σ'
  | [], ys, ve, σ, pre, h, hv, hs, hr, hl => by
    unfold All2 at h
    subst h
    simp only [cl_nil, cl_cons, RunT, List.append_nil]
    exact ⟨hr, Gs.refl⟩
  | d :: rest, ys, ve, σ, pre, h, hv, hs, hr, hl => by
    unfold All2 at h
    obtain ⟨y, ys', rfl, h1, h2⟩ := h
    have h3 := h1 ve σ hv
    simp only [cl_nil, cl_cons]
    cases hst' : store t d ve with
    | none => rw [hst'] at h3; exact h3.elim
    | some ve' =>
      rw [hst'] at h3
      obtain ⟨hv', h4⟩ := h3
      dsimp only
      rw [htest]
      dsimp only
      obtain ⟨y', σ', e, rfl, hg⟩ := h4.out
      rw [e]
      dsimp only
      have hr' : σ'[r]? = some pre := hg.at hr (fun q => nomatch q)
      simp only [List.length_cons] at hl
      rw [append_ref hr' (by omega)]
      dsimp only
      have g2 : Gs [r] σ (σ'.set r (pre ++ [y'])) := hg.up.trans Gs.set
      have hs2 := hZ _ _ hs g2
      rw [if_pos (hst _ hs2)]
      have hr2 : (σ'.set r (pre ++ [y']))[r]? = some (pre ++ [y']) := List.getElem?_set_self (get_lt hr')
      have IH := cloop_known (V := V) htest Z hst hZ rest ys' ve' _ (pre ++ [y']) h2 hv' hs2 hr2 (by simp only [List.length_append, List.length_cons, List.length_nil]; omega)
      revert IH
      cases cloop test el t src all r rest ve' (σ'.set r (pre ++ [y'])) with
      | none => exact fun h => h.elim
      | some σe =>
        rintro ⟨i1, i2⟩
        refine ⟨by rw [i1]; simp, g2.trans i2⟩
theorem Gs.comp {σ σ' : Sto} {l : List D} (h : Gs [σ.length] (σ ++ [l]) σ') : Gs [] σ σ' := by
  refine ⟨?_, fun j hj _ => ?_⟩
  · have := h.1; rw [List.length_append] at this; omega
  · rw [h.2 j (by rw [List.length_append]; omega) (by simp; omega), List.getElem?_append_left hj]
theorem RunT.mono {o : Option Sto} {P Q : Sto → Prop} (h : RunT o P) (k : ∀ σ, P σ → Q σ) : RunT o Q := by
  cases o with
  | none => exact h
  | some q => exact k _ h
theorem tests_nil {T : List (List Nat × Int)} {C : CallT} (ve : VEnv) (σ : Sto) : ptests T C .nil ve σ = some (true, σ) := rfl

noncomputable def FF2 : List FnDef := [G2_0, G2_1, G2_2, G2_3, G2_4, G2_5, G2_6, G2_7, G2_8, G2_9, G2_10, G2_11, G2_12, G2_13, G2_14, G2_15, G2_16, G2_17, G2_18, G2_19, G2_20, G2_21, G2_22, G2_23, G2_24, G2_25, G2_26, G2_27, G2_28, G2_29, G2_30, G2_31, G2_32, G2_33]
noncomputable def ops2 : List (List Nat × Int) := [([124, 124], 1), ([38, 38], 2), ([61, 61], 3), ([33, 61], 3), ([60], 3), ([60, 61], 3), ([62], 3), ([62, 61], 3), ([43], 4), ([45], 4), ([124], 4), ([94], 4), ([42], 5), ([47], 5), ([37], 5), ([60, 60], 5), ([62, 62], 5), ([38], 5), ([38, 94], 5)]
noncomputable abbrev C2 (n : Nat) : CallT := pcall ops2 FF2 n

theorem call_fn {T : List (List Nat × Int)} {F : List FnDef} {n i : Nat} {args : List D} {σ : Sto} {P : D → Sto → Prop} {fd : FnDef} {ve : VEnv} (hF : F[i]? = some fd) (hb : fd.bind args = some ve)
    (h : wB T (pcall T F n) fd.body ve σ fun r _ σ' => P (r.getD .none) σ') : RunO (pcall T F (n + 1) i args σ) P := by
  simp only [pc_S, hF, hb]
  obtain ⟨r, ve', σ', e, hp⟩ := (wB_ok _ _ _ _ h).out
  rw [e]
  exact hp

noncomputable def Src (src : Nat) (σ : Sto) : Prop := ∃ g c : Int, σ[src]? = some [.int g, .int c] ∧ 0 ≤ g ∧ 0 ≤ c ∧ c < 2147483647
noncomputable def Go (src : Nat) (σ σ' : Sto) : Prop := Gs [src] σ σ' ∧ Src src σ'

theorem set_0 {r : Nat} {x a : D} {l : List D} {σ : Sto} {P : Sto → Prop} (h : σ[r]? = some (a :: l)) : RunT (opSetItem (.ref r) (.int 0) x σ) P = P (σ.set r (x :: l)) := by
  unfold opSetItem
  dsimp only
  rw [h]
  simp [seqIdx, RunT, smallInt]
theorem set_1 {r : Nat} {x a b : D} {l : List D} {σ : Sto} {P : Sto → Prop} (h : σ[r]? = some (a :: b :: l)) : RunT (opSetItem (.ref r) (.int 1) x σ) P = P (σ.set r (a :: x :: l)) := by
  unfold opSetItem
  dsimp only
  rw [h]
  simp [seqIdx, RunT, smallInt]
theorem Go.set {src : Nat} {σ : Sto} {g c : Int} (h : src < σ.length) (h1 : 0 ≤ g) (h2 : 0 ≤ c) (h3 : c < 2147483647) : Go src σ (σ.set src [.int g, .int c]) := by
  refine ⟨⟨by rw [List.length_set]; exact Nat.le_refl _, fun j hj hn => ?_⟩, ⟨g, c, ?_, h1, h2, h3⟩⟩
  · rw [List.getElem?_set_ne]
    intro e; exact hn (by simp [e])
  · rw [List.getElem?_set_self h]
theorem Go.trans {src : Nat} {σ σ' σ'' : Sto} (h : Go src σ σ') (h' : Go src σ' σ'') : Go src σ σ'' := ⟨h.1.trans h'.1, h'.2⟩
theorem Src.ext {src : Nat} {σ σ' : Sto} (h : Src src σ) (e : Gs [] σ σ') : Src src σ' := by
  obtain ⟨g, c, h, r⟩ := h
  exact ⟨g, c, e.at h (fun q => nomatch q), r⟩
theorem Go.ext {src : Nat} {σ σ' : Sto} (h : Src src σ) (e : Gs [] σ σ') : Go src σ σ' := ⟨e.up, h.ext e⟩
theorem Go.at {src : Nat} {σ σ' : Sto} (h : Go src σ σ') {j : Nat} {l : List D} (e : σ[j]? = some l) (hn : j ≠ src) : σ'[j]? = some l := h.1.at e (by simpa using hn)

theorem item_at {r : Nat} {k : Int} {l : List D} {σ : Sto} {P : D → Sto → Prop} (h : σ[r]? = some l) (hp : RunO (opItem (.tup l) (.int k) σ) P) : RunO (opItem (.ref r) (.int k) σ) P := by
  rw [item_ref, h]; exact hp
theorem take_ok {n src : Nat} {top : Int} {σ : Sto} (hn : 1 ≤ n) (hs : Src src σ) (h1 : 0 < top) (h2 : top ≤ 1000) : RunO (C2 n 22 [.ref src, .int top] σ) fun d σ' => ∃ t : Int, d = .int t ∧ 0 ≤ t ∧ t < top ∧ Go src σ σ' := by
  obtain ⟨m, rfl⟩ : ∃ m, n = m + 1 := ⟨n - 1, by omega⟩
  obtain ⟨g, c, hg, g0, c0, c1⟩ := hs
  have hlt := get_lt hg
  refine call_fn (fd := G2_22) (ve := [some (.ref src), some (.int top), none]) rfl rfl ?_
  unfold G2_22
  dsimp only [Z1i, Z28, Z1r, Z23, Z26, Z1g, Z1b, Z21, Z1z, Z1y, Z1q, Z1e, Z1s, Z1c, Z1k, Z24, Z1f, Z1d, Z27, Z1u, Z1h, Z0z, Z6, Z7, Z5, Z4, Z0v, Z0u, Z0w, Z11, Z0x, Z10, Z0y, Z0j, Z0i, Zh, Zg, Ze, Zd, Zf, Z19, Z1a, Z13, Z14, Z18, Z17, Z16, Z15, Z0k, Z0l, Z0m, Z0n, Z0o, Z0p, Z0q, Z0r, Z0t, Z0s, w_add_str, w_add_int, w_add_ref, Z25, Z1x, Z1w, Z1j, Z22, w_eq_str, w_ne_str, w_eq_int, w_ne_int, w_eq_ref, Z1o, Z1p, Z1v, Z1t, Z1m, Z1l, Z1n, Z20, b_and_t, b_and_f, b_or_t, b_or_f, b_not_t, b_not_f, Z1, Z0, Z2, Z3, Z9, Zc, Zb, Z8, Za, Nat.reduceBEq, Int.reduceBEq, Int.reduceAdd, Int.reduceSub, Int.reduceNeg, Option.getD_some, Option.getD_none]
  refine item_at hg ?_
  simp only [Z1i, Z28, Z1r, Z23, Z26, Z1g, Z1b, Z21, Z1z, Z1y, Z1q, Z1e, Z1s, Z1c, Z1k, Z24, Z1f, Z1d, Z27, Z1u, Z1h, Z0z, Z6, Z7, Z5, Z4, Z0v, Z0u, Z0w, Z11, Z0x, Z10, Z0y, Z0j, Z0i, Zh, Zg, Ze, Zd, Zf, Z19, Z1a, Z13, Z14, Z18, Z17, Z16, Z15, Z0k, Z0l, Z0m, Z0n, Z0o, Z0p, Z0q, Z0r, Z0t, Z0s, w_add_str, w_add_int, w_add_ref, Z25, Z1x, Z1w, Z1j, Z22, w_eq_str, w_ne_str, w_eq_int, w_ne_int, w_eq_ref, Z1o, Z1p, Z1v, Z1t, Z1m, Z1l, Z1n, Z20, b_and_t, b_and_f, b_or_t, b_or_f, b_not_t, b_not_f, Z1, Z0, Z2, Z3, Z9, Zc, Zb, Z8, Za, Nat.reduceBEq, Int.reduceBEq, Int.reduceAdd, Int.reduceSub, Int.reduceNeg, Option.getD_some, Option.getD_none, item_0, item_1, item_2, item_3, item_4, item_5, item_6, notin_tup, in_tup, in_str, strsOf_nil, strsOf_cons, str_7, len_str, len_ref, range_int, List.any_cons, List.any_nil, Bool.or_false, Bool.false_or, Bool.or_true, Bool.true_or, Bool.true_and, Bool.false_and, Bool.and_true, Bool.and_false, Bool.not_true, Bool.not_false, List.contains_cons, List.contains_nil, beq_self_eq_true, true_and, and_true, Int.reduceEq, Int.reduceLT, Int.reduceLE, decide_true, decide_false, List.length_cons, List.length_nil, Nat.reduceAdd, Nat.reduceLeDiff, eq_self, item_0]
  by_cases hgt : g > 0
  · rw [decide_eq_true hgt]
    dsimp only [Z1i, Z28, Z1r, Z23, Z26, Z1g, Z1b, Z21, Z1z, Z1y, Z1q, Z1e, Z1s, Z1c, Z1k, Z24, Z1f, Z1d, Z27, Z1u, Z1h, Z0z, Z6, Z7, Z5, Z4, Z0v, Z0u, Z0w, Z11, Z0x, Z10, Z0y, Z0j, Z0i, Zh, Zg, Ze, Zd, Zf, Z19, Z1a, Z13, Z14, Z18, Z17, Z16, Z15, Z0k, Z0l, Z0m, Z0n, Z0o, Z0p, Z0q, Z0r, Z0t, Z0s, w_add_str, w_add_int, w_add_ref, Z25, Z1x, Z1w, Z1j, Z22, w_eq_str, w_ne_str, w_eq_int, w_ne_int, w_eq_ref, Z1o, Z1p, Z1v, Z1t, Z1m, Z1l, Z1n, Z20, b_and_t, b_and_f, b_or_t, b_or_f, b_not_t, b_not_f, Z1, Z0, Z2, Z3, Z9, Zc, Zb, Z8, Za, Nat.reduceBEq, Int.reduceBEq, Int.reduceAdd, Int.reduceSub, Int.reduceNeg, Option.getD_some, Option.getD_none]
    refine item_at hg ?_
    simp only [Z1i, Z28, Z1r, Z23, Z26, Z1g, Z1b, Z21, Z1z, Z1y, Z1q, Z1e, Z1s, Z1c, Z1k, Z24, Z1f, Z1d, Z27, Z1u, Z1h, Z0z, Z6, Z7, Z5, Z4, Z0v, Z0u, Z0w, Z11, Z0x, Z10, Z0y, Z0j, Z0i, Zh, Zg, Ze, Zd, Zf, Z19, Z1a, Z13, Z14, Z18, Z17, Z16, Z15, Z0k, Z0l, Z0m, Z0n, Z0o, Z0p, Z0q, Z0r, Z0t, Z0s, w_add_str, w_add_int, w_add_ref, Z25, Z1x, Z1w, Z1j, Z22, w_eq_str, w_ne_str, w_eq_int, w_ne_int, w_eq_ref, Z1o, Z1p, Z1v, Z1t, Z1m, Z1l, Z1n, Z20, b_and_t, b_and_f, b_or_t, b_or_f, b_not_t, b_not_f, Z1, Z0, Z2, Z3, Z9, Zc, Zb, Z8, Za, Nat.reduceBEq, Int.reduceBEq, Int.reduceAdd, Int.reduceSub, Int.reduceNeg, Option.getD_some, Option.getD_none, item_0, item_1, item_2, item_3, item_4, item_5, item_6, notin_tup, in_tup, in_str, strsOf_nil, strsOf_cons, str_7, len_str, len_ref, range_int, List.any_cons, List.any_nil, Bool.or_false, Bool.false_or, Bool.or_true, Bool.true_or, Bool.true_and, Bool.false_and, Bool.and_true, Bool.and_false, Bool.not_true, Bool.not_false, List.contains_cons, List.contains_nil, beq_self_eq_true, true_and, and_true, Int.reduceEq, Int.reduceLT, Int.reduceLE, decide_true, decide_false, List.length_cons, List.length_nil, Nat.reduceAdd, Nat.reduceLeDiff, eq_self, item_0]
    refine ⟨⟨h1, by omega, g0⟩, ?_⟩
    refine item_at hg ?_
    simp only [Z1i, Z28, Z1r, Z23, Z26, Z1g, Z1b, Z21, Z1z, Z1y, Z1q, Z1e, Z1s, Z1c, Z1k, Z24, Z1f, Z1d, Z27, Z1u, Z1h, Z0z, Z6, Z7, Z5, Z4, Z0v, Z0u, Z0w, Z11, Z0x, Z10, Z0y, Z0j, Z0i, Zh, Zg, Ze, Zd, Zf, Z19, Z1a, Z13, Z14, Z18, Z17, Z16, Z15, Z0k, Z0l, Z0m, Z0n, Z0o, Z0p, Z0q, Z0r, Z0t, Z0s, w_add_str, w_add_int, w_add_ref, Z25, Z1x, Z1w, Z1j, Z22, w_eq_str, w_ne_str, w_eq_int, w_ne_int, w_eq_ref, Z1o, Z1p, Z1v, Z1t, Z1m, Z1l, Z1n, Z20, b_and_t, b_and_f, b_or_t, b_or_f, b_not_t, b_not_f, Z1, Z0, Z2, Z3, Z9, Zc, Zb, Z8, Za, Nat.reduceBEq, Int.reduceBEq, Int.reduceAdd, Int.reduceSub, Int.reduceNeg, Option.getD_some, Option.getD_none, item_0, item_1, item_2, item_3, item_4, item_5, item_6, notin_tup, in_tup, in_str, strsOf_nil, strsOf_cons, str_7, len_str, len_ref, range_int, List.any_cons, List.any_nil, Bool.or_false, Bool.false_or, Bool.or_true, Bool.true_or, Bool.true_and, Bool.false_and, Bool.and_true, Bool.and_false, Bool.not_true, Bool.not_false, List.contains_cons, List.contains_nil, beq_self_eq_true, true_and, and_true, Int.reduceEq, Int.reduceLT, Int.reduceLE, decide_true, decide_false, List.length_cons, List.length_nil, Nat.reduceAdd, Nat.reduceLeDiff, eq_self, item_0]
    refine ⟨⟨h1, by omega, g0⟩, ?_⟩
    rw [set_0 hg]
    exact ⟨_, rfl, Int.emod_nonneg _ (by omega), Int.emod_lt_of_pos _ h1, Go.set hlt (Int.ediv_nonneg g0 (by omega)) c0 c1⟩
  · rw [decide_eq_false hgt]
    dsimp only [Z1i, Z28, Z1r, Z23, Z26, Z1g, Z1b, Z21, Z1z, Z1y, Z1q, Z1e, Z1s, Z1c, Z1k, Z24, Z1f, Z1d, Z27, Z1u, Z1h, Z0z, Z6, Z7, Z5, Z4, Z0v, Z0u, Z0w, Z11, Z0x, Z10, Z0y, Z0j, Z0i, Zh, Zg, Ze, Zd, Zf, Z19, Z1a, Z13, Z14, Z18, Z17, Z16, Z15, Z0k, Z0l, Z0m, Z0n, Z0o, Z0p, Z0q, Z0r, Z0t, Z0s, w_add_str, w_add_int, w_add_ref, Z25, Z1x, Z1w, Z1j, Z22, w_eq_str, w_ne_str, w_eq_int, w_ne_int, w_eq_ref, Z1o, Z1p, Z1v, Z1t, Z1m, Z1l, Z1n, Z20, b_and_t, b_and_f, b_or_t, b_or_f, b_not_t, b_not_f, Z1, Z0, Z2, Z3, Z9, Zc, Zb, Z8, Za, Nat.reduceBEq, Int.reduceBEq, Int.reduceAdd, Int.reduceSub, Int.reduceNeg, Option.getD_some, Option.getD_none]
    refine item_at hg ?_
    simp only [Z1i, Z28, Z1r, Z23, Z26, Z1g, Z1b, Z21, Z1z, Z1y, Z1q, Z1e, Z1s, Z1c, Z1k, Z24, Z1f, Z1d, Z27, Z1u, Z1h, Z0z, Z6, Z7, Z5, Z4, Z0v, Z0u, Z0w, Z11, Z0x, Z10, Z0y, Z0j, Z0i, Zh, Zg, Ze, Zd, Zf, Z19, Z1a, Z13, Z14, Z18, Z17, Z16, Z15, Z0k, Z0l, Z0m, Z0n, Z0o, Z0p, Z0q, Z0r, Z0t, Z0s, w_add_str, w_add_int, w_add_ref, Z25, Z1x, Z1w, Z1j, Z22, w_eq_str, w_ne_str, w_eq_int, w_ne_int, w_eq_ref, Z1o, Z1p, Z1v, Z1t, Z1m, Z1l, Z1n, Z20, b_and_t, b_and_f, b_or_t, b_or_f, b_not_t, b_not_f, Z1, Z0, Z2, Z3, Z9, Zc, Zb, Z8, Za, Nat.reduceBEq, Int.reduceBEq, Int.reduceAdd, Int.reduceSub, Int.reduceNeg, Option.getD_some, Option.getD_none, item_0, item_1, item_2, item_3, item_4, item_5, item_6, notin_tup, in_tup, in_str, strsOf_nil, strsOf_cons, str_7, len_str, len_ref, range_int, List.any_cons, List.any_nil, Bool.or_false, Bool.false_or, Bool.or_true, Bool.true_or, Bool.true_and, Bool.false_and, Bool.and_true, Bool.and_false, Bool.not_true, Bool.not_false, List.contains_cons, List.contains_nil, beq_self_eq_true, true_and, and_true, Int.reduceEq, Int.reduceLT, Int.reduceLE, decide_true, decide_false, List.length_cons, List.length_nil, Nat.reduceAdd, Nat.reduceLeDiff, eq_self, item_1]
    have e0 : 0 ≤ (c * 39373 + 7) % 2147483647 := Int.emod_nonneg _ (by omega)
    have e1 : (c * 39373 + 7) % 2147483647 < 2147483647 := Int.emod_lt_of_pos _ (by omega)
    refine ⟨⟨smallInt_of (by omega) (by omega), by decide⟩, by omega, ?_⟩
    generalize (c * 39373 + 7) % 2147483647 = z at *
    rw [set_1 hg]
    have hz : (σ.set src [.int g, .int z])[src]? = some [.int g, .int z] := List.getElem?_set_self hlt
    have hzz : 0 ≤ z * z := Int.mul_nonneg e0 e0
    have e2 : 0 ≤ z * z % 2147483629 := Int.emod_nonneg _ (by omega)
    have e3 : 0 ≤ z * z % 2147483629 / 32 := Int.ediv_nonneg e2 (by omega)
    refine item_at hz ?_
    simp only [Z1i, Z28, Z1r, Z23, Z26, Z1g, Z1b, Z21, Z1z, Z1y, Z1q, Z1e, Z1s, Z1c, Z1k, Z24, Z1f, Z1d, Z27, Z1u, Z1h, Z0z, Z6, Z7, Z5, Z4, Z0v, Z0u, Z0w, Z11, Z0x, Z10, Z0y, Z0j, Z0i, Zh, Zg, Ze, Zd, Zf, Z19, Z1a, Z13, Z14, Z18, Z17, Z16, Z15, Z0k, Z0l, Z0m, Z0n, Z0o, Z0p, Z0q, Z0r, Z0t, Z0s, w_add_str, w_add_int, w_add_ref, Z25, Z1x, Z1w, Z1j, Z22, w_eq_str, w_ne_str, w_eq_int, w_ne_int, w_eq_ref, Z1o, Z1p, Z1v, Z1t, Z1m, Z1l, Z1n, Z20, b_and_t, b_and_f, b_or_t, b_or_f, b_not_t, b_not_f, Z1, Z0, Z2, Z3, Z9, Zc, Zb, Z8, Za, Nat.reduceBEq, Int.reduceBEq, Int.reduceAdd, Int.reduceSub, Int.reduceNeg, Option.getD_some, Option.getD_none, item_0, item_1, item_2, item_3, item_4, item_5, item_6, notin_tup, in_tup, in_str, strsOf_nil, strsOf_cons, str_7, len_str, len_ref, range_int, List.any_cons, List.any_nil, Bool.or_false, Bool.false_or, Bool.or_true, Bool.true_or, Bool.true_and, Bool.false_and, Bool.and_true, Bool.and_false, Bool.not_true, Bool.not_false, List.contains_cons, List.contains_nil, beq_self_eq_true, true_and, and_true, Int.reduceEq, Int.reduceLT, Int.reduceLE, decide_true, decide_false, List.length_cons, List.length_nil, Nat.reduceAdd, Nat.reduceLeDiff, eq_self, item_1]
    refine item_at hz ?_
    simp only [Z1i, Z28, Z1r, Z23, Z26, Z1g, Z1b, Z21, Z1z, Z1y, Z1q, Z1e, Z1s, Z1c, Z1k, Z24, Z1f, Z1d, Z27, Z1u, Z1h, Z0z, Z6, Z7, Z5, Z4, Z0v, Z0u, Z0w, Z11, Z0x, Z10, Z0y, Z0j, Z0i, Zh, Zg, Ze, Zd, Zf, Z19, Z1a, Z13, Z14, Z18, Z17, Z16, Z15, Z0k, Z0l, Z0m, Z0n, Z0o, Z0p, Z0q, Z0r, Z0t, Z0s, w_add_str, w_add_int, w_add_ref, Z25, Z1x, Z1w, Z1j, Z22, w_eq_str, w_ne_str, w_eq_int, w_ne_int, w_eq_ref, Z1o, Z1p, Z1v, Z1t, Z1m, Z1l, Z1n, Z20, b_and_t, b_and_f, b_or_t, b_or_f, b_not_t, b_not_f, Z1, Z0, Z2, Z3, Z9, Zc, Zb, Z8, Za, Nat.reduceBEq, Int.reduceBEq, Int.reduceAdd, Int.reduceSub, Int.reduceNeg, Option.getD_some, Option.getD_none, item_0, item_1, item_2, item_3, item_4, item_5, item_6, notin_tup, in_tup, in_str, strsOf_nil, strsOf_cons, str_7, len_str, len_ref, range_int, List.any_cons, List.any_nil, Bool.or_false, Bool.false_or, Bool.or_true, Bool.true_or, Bool.true_and, Bool.false_and, Bool.and_true, Bool.and_false, Bool.not_true, Bool.not_false, List.contains_cons, List.contains_nil, beq_self_eq_true, true_and, and_true, Int.reduceEq, Int.reduceLT, Int.reduceLE, decide_true, decide_false, List.length_cons, List.length_nil, Nat.reduceAdd, Nat.reduceLeDiff, eq_self, item_1]
    exact ⟨⟨smallInt_of (by omega) (by omega), smallInt_of (by omega) (by omega)⟩, by omega, by omega, ⟨h1, by omega, e3⟩, _, rfl, Int.emod_nonneg _ (by omega), Int.emod_lt_of_pos _ h1, Go.set hlt g0 e0 e1⟩

/-! ### the texts -/
noncomputable def Txt (n f : Nat) (args : List D) (text : List Nat) : Prop := ∀ σ, RunO (C2 n f args σ) fun d σ' => d = .str text ∧ Gs [] σ σ'
noncomputable def Lev (n : Nat) (e : D) (l : Int) : Prop := ∀ σ, RunO (C2 n 1 [e] σ) fun d σ' => d = .int l ∧ Gs [] σ σ'

theorem type_name {m : Nat} {i : Int} {s : List Nat} : Txt (m + 1) 0 [.tup [.str [110, 97, 109, 101], .int i, .none, .str s]] s := by
  intro σ
  refine call_fn (fd := G2_0) (ve := [some _, none, none]) rfl rfl ?_
  unfold G2_0
  dsimp only [Z1i, Z28, Z1r, Z23, Z26, Z1g, Z1b, Z21, Z1z, Z1y, Z1q, Z1e, Z1s, Z1c, Z1k, Z24, Z1f, Z1d, Z27, Z1u, Z1h, Z0z, Z6, Z7, Z5, Z4, Z0v, Z0u, Z0w, Z11, Z0x, Z10, Z0y, Z0j, Z0i, Zh, Zg, Ze, Zd, Zf, Z19, Z1a, Z13, Z14, Z18, Z17, Z16, Z15, Z0k, Z0l, Z0m, Z0n, Z0o, Z0p, Z0q, Z0r, Z0t, Z0s, w_add_str, w_add_int, w_add_ref, Z25, Z1x, Z1w, Z1j, Z22, w_eq_str, w_ne_str, w_eq_int, w_ne_int, w_eq_ref, Z1o, Z1p, Z1v, Z1t, Z1m, Z1l, Z1n, Z20, b_and_t, b_and_f, b_or_t, b_or_f, b_not_t, b_not_f, Z1, Z0, Z2, Z3, Z9, Zc, Zb, Z8, Za, Nat.reduceBEq, Int.reduceBEq, Int.reduceAdd, Int.reduceSub, Int.reduceNeg, Option.getD_some, Option.getD_none]
  exact ⟨rfl, Gs.refl⟩
theorem lev_binary {m : Nat} {i : Int} {op : List Nat} {l r : D} {lev : Int} (h : ops2.lookup op = some lev) : Lev (m + 1) (.tup [.str [98, 105, 110, 97, 114, 121], .int i, .str op, l, r]) lev := by
  intro σ
  refine call_fn (fd := G2_1) (ve := [some _]) rfl rfl ?_
  unfold G2_1
  dsimp only [Z1i, Z28, Z1r, Z23, Z26, Z1g, Z1b, Z21, Z1z, Z1y, Z1q, Z1e, Z1s, Z1c, Z1k, Z24, Z1f, Z1d, Z27, Z1u, Z1h, Z0z, Z6, Z7, Z5, Z4, Z0v, Z0u, Z0w, Z11, Z0x, Z10, Z0y, Z0j, Z0i, Zh, Zg, Ze, Zd, Zf, Z19, Z1a, Z13, Z14, Z18, Z17, Z16, Z15, Z0k, Z0l, Z0m, Z0n, Z0o, Z0p, Z0q, Z0r, Z0t, Z0s, w_add_str, w_add_int, w_add_ref, Z25, Z1x, Z1w, Z1j, Z22, w_eq_str, w_ne_str, w_eq_int, w_ne_int, w_eq_ref, Z1o, Z1p, Z1v, Z1t, Z1m, Z1l, Z1n, Z20, b_and_t, b_and_f, b_or_t, b_or_f, b_not_t, b_not_f, Z1, Z0, Z2, Z3, Z9, Zc, Zb, Z8, Za, Nat.reduceBEq, Int.reduceBEq, Int.reduceAdd, Int.reduceSub, Int.reduceNeg, Option.getD_some, Option.getD_none]
  exact ⟨_, h, rfl, Gs.refl⟩
theorem lev_tight {m : Nat} {k : List Nat} {rest : List D} (h1 : (k == [98, 105, 110, 97, 114, 121]) = false) (h2 : (k == [116, 121, 112, 101]) = false) (h3 : ([117, 110, 97, 114, 121] == k) = false) (h4 : ([115, 116, 97, 114] == k) = false) : Lev (m + 1) (.tup (.str k :: rest)) 7 := by
  intro σ
  refine call_fn (fd := G2_1) (ve := [some _]) rfl rfl ?_
  unfold G2_1
  dsimp only [Z1i, Z28, Z1r, Z23, Z26, Z1g, Z1b, Z21, Z1z, Z1y, Z1q, Z1e, Z1s, Z1c, Z1k, Z24, Z1f, Z1d, Z27, Z1u, Z1h, Z0z, Z6, Z7, Z5, Z4, Z0v, Z0u, Z0w, Z11, Z0x, Z10, Z0y, Z0j, Z0i, Zh, Zg, Ze, Zd, Zf, Z19, Z1a, Z13, Z14, Z18, Z17, Z16, Z15, Z0k, Z0l, Z0m, Z0n, Z0o, Z0p, Z0q, Z0r, Z0t, Z0s, w_add_str, w_add_int, w_add_ref, Z25, Z1x, Z1w, Z1j, Z22, w_eq_str, w_ne_str, w_eq_int, w_ne_int, w_eq_ref, Z1o, Z1p, Z1v, Z1t, Z1m, Z1l, Z1n, Z20, b_and_t, b_and_f, b_or_t, b_or_f, b_not_t, b_not_f, Z1, Z0, Z2, Z3, Z9, Zc, Zb, Z8, Za, Nat.reduceBEq, Int.reduceBEq, Int.reduceAdd, Int.reduceSub, Int.reduceNeg, Option.getD_some, Option.getD_none]
  rw [h1, h2]
  simp only [Z1i, Z28, Z1r, Z23, Z26, Z1g, Z1b, Z21, Z1z, Z1y, Z1q, Z1e, Z1s, Z1c, Z1k, Z24, Z1f, Z1d, Z27, Z1u, Z1h, Z0z, Z6, Z7, Z5, Z4, Z0v, Z0u, Z0w, Z11, Z0x, Z10, Z0y, Z0j, Z0i, Zh, Zg, Ze, Zd, Zf, Z19, Z1a, Z13, Z14, Z18, Z17, Z16, Z15, Z0k, Z0l, Z0m, Z0n, Z0o, Z0p, Z0q, Z0r, Z0t, Z0s, w_add_str, w_add_int, w_add_ref, Z25, Z1x, Z1w, Z1j, Z22, w_eq_str, w_ne_str, w_eq_int, w_ne_int, w_eq_ref, Z1o, Z1p, Z1v, Z1t, Z1m, Z1l, Z1n, Z20, b_and_t, b_and_f, b_or_t, b_or_f, b_not_t, b_not_f, Z1, Z0, Z2, Z3, Z9, Zc, Zb, Z8, Za, Nat.reduceBEq, Int.reduceBEq, Int.reduceAdd, Int.reduceSub, Int.reduceNeg, Option.getD_some, Option.getD_none, item_0, item_1, item_2, item_3, item_4, item_5, item_6, notin_tup, in_tup, in_str, strsOf_nil, strsOf_cons, str_7, len_str, len_ref, range_int, List.any_cons, List.any_nil, Bool.or_false, Bool.false_or, Bool.or_true, Bool.true_or, Bool.true_and, Bool.false_and, Bool.and_true, Bool.and_false, Bool.not_true, Bool.not_false, List.contains_cons, List.contains_nil, beq_self_eq_true, true_and, and_true, Int.reduceEq, Int.reduceLT, Int.reduceLE, decide_true, decide_false, List.length_cons, List.length_nil, Nat.reduceAdd, Nat.reduceLeDiff, eq_self, notin_tup, in_tup, h3, h4]
  exact Gs.refl
theorem lev_unary {m : Nat} {rest : List D} : Lev (m + 1) (.tup (.str [117, 110, 97, 114, 121] :: rest)) 6 := by
  intro σ
  refine call_fn (fd := G2_1) (ve := [some _]) rfl rfl ?_
  unfold G2_1
  simp only [Z1i, Z28, Z1r, Z23, Z26, Z1g, Z1b, Z21, Z1z, Z1y, Z1q, Z1e, Z1s, Z1c, Z1k, Z24, Z1f, Z1d, Z27, Z1u, Z1h, Z0z, Z6, Z7, Z5, Z4, Z0v, Z0u, Z0w, Z11, Z0x, Z10, Z0y, Z0j, Z0i, Zh, Zg, Ze, Zd, Zf, Z19, Z1a, Z13, Z14, Z18, Z17, Z16, Z15, Z0k, Z0l, Z0m, Z0n, Z0o, Z0p, Z0q, Z0r, Z0t, Z0s, w_add_str, w_add_int, w_add_ref, Z25, Z1x, Z1w, Z1j, Z22, w_eq_str, w_ne_str, w_eq_int, w_ne_int, w_eq_ref, Z1o, Z1p, Z1v, Z1t, Z1m, Z1l, Z1n, Z20, b_and_t, b_and_f, b_or_t, b_or_f, b_not_t, b_not_f, Z1, Z0, Z2, Z3, Z9, Zc, Zb, Z8, Za, Nat.reduceBEq, Int.reduceBEq, Int.reduceAdd, Int.reduceSub, Int.reduceNeg, Option.getD_some, Option.getD_none, item_0, item_1, item_2, item_3, item_4, item_5, item_6, notin_tup, in_tup, in_str, strsOf_nil, strsOf_cons, str_7, len_str, len_ref, range_int, List.any_cons, List.any_nil, Bool.or_false, Bool.false_or, Bool.or_true, Bool.true_or, Bool.true_and, Bool.false_and, Bool.and_true, Bool.and_false, Bool.not_true, Bool.not_false, List.contains_cons, List.contains_nil, beq_self_eq_true, true_and, and_true, Int.reduceEq, Int.reduceLT, Int.reduceLE, decide_true, decide_false, List.length_cons, List.length_nil, Nat.reduceAdd, Nat.reduceLeDiff, eq_self]
  exact Gs.refl
theorem expr_of {m : Nat} {k : List Nat} {rest : List D} {l least : Int} {hdr : Bool} {text : List Nat} (hk1 : (k == [116, 121, 112, 101]) = false) (hk2 : (k == [108, 105, 116]) = false) (hl : Lev m (.tup (.str k :: rest)) l)
    (hb : Txt m 4 [.tup (.str k :: rest), .bool (hdr && !decide (l < least))] text) (hlen : text.length ≤ 900000) :
    Txt (m + 1) 2 [.tup (.str k :: rest), .int least, .bool hdr] (if l < least then [40] ++ text ++ [41] else text) := by
  intro σ
  refine call_fn (fd := G2_2) (ve := [some _, some _, some _, none]) rfl rfl ?_
  unfold G2_2
  have key : ∀ b : Bool, (b = (hdr && !decide (l < least))) → RunO (C2 m 1 [.tup (.str k :: rest)] σ) fun x σ₁ => wCmp .lt x (.int least) σ₁ fun r => OnBool (.bool r) (RunO (C2 m 4 [.tup (.str k :: rest), .bool false] σ₁) fun d σ₂ => wBin .add (.str [40]) d σ₂ fun d σ₃ => wBin .add d (.str [41]) σ₃ fun d σ₄ => d = .str (if l < least then [40] ++ text ++ [41] else text) ∧ Gs [] σ σ₄)
      (RunO (C2 m 4 [.tup (.str k :: rest), .bool hdr] σ₁) fun d σ₂ => d = .str (if l < least then [40] ++ text ++ [41] else text) ∧ Gs [] σ σ₂) := by
    rintro b rfl
    refine (hl σ).mono ?_
    rintro _ σ₁ ⟨rfl, g1⟩
    by_cases h : l < least
    · rw [decide_eq_true h] at hb
      simp only [Bool.not_true, Bool.and_false] at hb
      simp only [Z1i, Z28, Z1r, Z23, Z26, Z1g, Z1b, Z21, Z1z, Z1y, Z1q, Z1e, Z1s, Z1c, Z1k, Z24, Z1f, Z1d, Z27, Z1u, Z1h, Z0z, Z6, Z7, Z5, Z4, Z0v, Z0u, Z0w, Z11, Z0x, Z10, Z0y, Z0j, Z0i, Zh, Zg, Ze, Zd, Zf, Z19, Z1a, Z13, Z14, Z18, Z17, Z16, Z15, Z0k, Z0l, Z0m, Z0n, Z0o, Z0p, Z0q, Z0r, Z0t, Z0s, w_add_str, w_add_int, w_add_ref, Z25, Z1x, Z1w, Z1j, Z22, w_eq_str, w_ne_str, w_eq_int, w_ne_int, w_eq_ref, Z1o, Z1p, Z1v, Z1t, Z1m, Z1l, Z1n, Z20, b_and_t, b_and_f, b_or_t, b_or_f, b_not_t, b_not_f, Z1, Z0, Z2, Z3, Z9, Zc, Zb, Z8, Za, Nat.reduceBEq, Int.reduceBEq, Int.reduceAdd, Int.reduceSub, Int.reduceNeg, Option.getD_some, Option.getD_none, item_0, item_1, item_2, item_3, item_4, item_5, item_6, notin_tup, in_tup, in_str, strsOf_nil, strsOf_cons, str_7, len_str, len_ref, range_int, List.any_cons, List.any_nil, Bool.or_false, Bool.false_or, Bool.or_true, Bool.true_or, Bool.true_and, Bool.false_and, Bool.and_true, Bool.and_false, Bool.not_true, Bool.not_false, List.contains_cons, List.contains_nil, beq_self_eq_true, true_and, and_true, Int.reduceEq, Int.reduceLT, Int.reduceLE, decide_true, decide_false, List.length_cons, List.length_nil, Nat.reduceAdd, Nat.reduceLeDiff, eq_self, decide_eq_true h, if_pos h]
      refine (hb σ₁).mono ?_
      rintro _ σ₂ ⟨rfl, g2⟩
      dsimp only [Z1i, Z28, Z1r, Z23, Z26, Z1g, Z1b, Z21, Z1z, Z1y, Z1q, Z1e, Z1s, Z1c, Z1k, Z24, Z1f, Z1d, Z27, Z1u, Z1h, Z0z, Z6, Z7, Z5, Z4, Z0v, Z0u, Z0w, Z11, Z0x, Z10, Z0y, Z0j, Z0i, Zh, Zg, Ze, Zd, Zf, Z19, Z1a, Z13, Z14, Z18, Z17, Z16, Z15, Z0k, Z0l, Z0m, Z0n, Z0o, Z0p, Z0q, Z0r, Z0t, Z0s, w_add_str, w_add_int, w_add_ref, Z25, Z1x, Z1w, Z1j, Z22, w_eq_str, w_ne_str, w_eq_int, w_ne_int, w_eq_ref, Z1o, Z1p, Z1v, Z1t, Z1m, Z1l, Z1n, Z20, b_and_t, b_and_f, b_or_t, b_or_f, b_not_t, b_not_f, Z1, Z0, Z2, Z3, Z9, Zc, Zb, Z8, Za, Nat.reduceBEq, Int.reduceBEq, Int.reduceAdd, Int.reduceSub, Int.reduceNeg, Option.getD_some, Option.getD_none]
      exact ⟨by first | (apply cap2; (case h1 => repeat' first | assumption | apply app_le | apply nil_le | apply cons_le); (case h2 => repeat' first | assumption | apply app_le | apply nil_le | apply cons_le); decide) | (apply cap1; (case h1 => repeat' first | assumption | apply app_le | apply nil_le | apply cons_le); decide) | (simp [sizeCap]; omega) | (unfold sizeCap; omega), by first | (apply cap2; (case h1 => repeat' first | assumption | apply app_le | apply nil_le | apply cons_le); (case h2 => repeat' first | assumption | apply app_le | apply nil_le | apply cons_le); decide) | (apply cap1; (case h1 => repeat' first | assumption | apply app_le | apply nil_le | apply cons_le); decide) | (simp [sizeCap]; omega) | (unfold sizeCap; omega), by first | rfl | simp, g1.trans g2⟩
    · rw [decide_eq_false h] at hb
      simp only [Bool.not_false, Bool.and_true] at hb
      simp only [Z1i, Z28, Z1r, Z23, Z26, Z1g, Z1b, Z21, Z1z, Z1y, Z1q, Z1e, Z1s, Z1c, Z1k, Z24, Z1f, Z1d, Z27, Z1u, Z1h, Z0z, Z6, Z7, Z5, Z4, Z0v, Z0u, Z0w, Z11, Z0x, Z10, Z0y, Z0j, Z0i, Zh, Zg, Ze, Zd, Zf, Z19, Z1a, Z13, Z14, Z18, Z17, Z16, Z15, Z0k, Z0l, Z0m, Z0n, Z0o, Z0p, Z0q, Z0r, Z0t, Z0s, w_add_str, w_add_int, w_add_ref, Z25, Z1x, Z1w, Z1j, Z22, w_eq_str, w_ne_str, w_eq_int, w_ne_int, w_eq_ref, Z1o, Z1p, Z1v, Z1t, Z1m, Z1l, Z1n, Z20, b_and_t, b_and_f, b_or_t, b_or_f, b_not_t, b_not_f, Z1, Z0, Z2, Z3, Z9, Zc, Zb, Z8, Za, Nat.reduceBEq, Int.reduceBEq, Int.reduceAdd, Int.reduceSub, Int.reduceNeg, Option.getD_some, Option.getD_none, item_0, item_1, item_2, item_3, item_4, item_5, item_6, notin_tup, in_tup, in_str, strsOf_nil, strsOf_cons, str_7, len_str, len_ref, range_int, List.any_cons, List.any_nil, Bool.or_false, Bool.false_or, Bool.or_true, Bool.true_or, Bool.true_and, Bool.false_and, Bool.and_true, Bool.and_false, Bool.not_true, Bool.not_false, List.contains_cons, List.contains_nil, beq_self_eq_true, true_and, and_true, Int.reduceEq, Int.reduceLT, Int.reduceLE, decide_true, decide_false, List.length_cons, List.length_nil, Nat.reduceAdd, Nat.reduceLeDiff, eq_self, decide_eq_false h, if_neg h]
      refine (hb σ₁).mono ?_
      rintro _ σ₂ ⟨rfl, g2⟩
      exact ⟨rfl, g1.trans g2⟩
  cases hdr with
  | true =>
    dsimp only [Z1i, Z28, Z1r, Z23, Z26, Z1g, Z1b, Z21, Z1z, Z1y, Z1q, Z1e, Z1s, Z1c, Z1k, Z24, Z1f, Z1d, Z27, Z1u, Z1h, Z0z, Z6, Z7, Z5, Z4, Z0v, Z0u, Z0w, Z11, Z0x, Z10, Z0y, Z0j, Z0i, Zh, Zg, Ze, Zd, Zf, Z19, Z1a, Z13, Z14, Z18, Z17, Z16, Z15, Z0k, Z0l, Z0m, Z0n, Z0o, Z0p, Z0q, Z0r, Z0t, Z0s, w_add_str, w_add_int, w_add_ref, Z25, Z1x, Z1w, Z1j, Z22, w_eq_str, w_ne_str, w_eq_int, w_ne_int, w_eq_ref, Z1o, Z1p, Z1v, Z1t, Z1m, Z1l, Z1n, Z20, b_and_t, b_and_f, b_or_t, b_or_f, b_not_t, b_not_f, Z1, Z0, Z2, Z3, Z9, Zc, Zb, Z8, Za, Nat.reduceBEq, Int.reduceBEq, Int.reduceAdd, Int.reduceSub, Int.reduceNeg, Option.getD_some, Option.getD_none]
    rw [hk1, hk2]
    dsimp only [Z1i, Z28, Z1r, Z23, Z26, Z1g, Z1b, Z21, Z1z, Z1y, Z1q, Z1e, Z1s, Z1c, Z1k, Z24, Z1f, Z1d, Z27, Z1u, Z1h, Z0z, Z6, Z7, Z5, Z4, Z0v, Z0u, Z0w, Z11, Z0x, Z10, Z0y, Z0j, Z0i, Zh, Zg, Ze, Zd, Zf, Z19, Z1a, Z13, Z14, Z18, Z17, Z16, Z15, Z0k, Z0l, Z0m, Z0n, Z0o, Z0p, Z0q, Z0r, Z0t, Z0s, w_add_str, w_add_int, w_add_ref, Z25, Z1x, Z1w, Z1j, Z22, w_eq_str, w_ne_str, w_eq_int, w_ne_int, w_eq_ref, Z1o, Z1p, Z1v, Z1t, Z1m, Z1l, Z1n, Z20, b_and_t, b_and_f, b_or_t, b_or_f, b_not_t, b_not_f, Z1, Z0, Z2, Z3, Z9, Zc, Zb, Z8, Za, Nat.reduceBEq, Int.reduceBEq, Int.reduceAdd, Int.reduceSub, Int.reduceNeg, Option.getD_some, Option.getD_none]
    exact key _ rfl
  | false =>
    dsimp only [Z1i, Z28, Z1r, Z23, Z26, Z1g, Z1b, Z21, Z1z, Z1y, Z1q, Z1e, Z1s, Z1c, Z1k, Z24, Z1f, Z1d, Z27, Z1u, Z1h, Z0z, Z6, Z7, Z5, Z4, Z0v, Z0u, Z0w, Z11, Z0x, Z10, Z0y, Z0j, Z0i, Zh, Zg, Ze, Zd, Zf, Z19, Z1a, Z13, Z14, Z18, Z17, Z16, Z15, Z0k, Z0l, Z0m, Z0n, Z0o, Z0p, Z0q, Z0r, Z0t, Z0s, w_add_str, w_add_int, w_add_ref, Z25, Z1x, Z1w, Z1j, Z22, w_eq_str, w_ne_str, w_eq_int, w_ne_int, w_eq_ref, Z1o, Z1p, Z1v, Z1t, Z1m, Z1l, Z1n, Z20, b_and_t, b_and_f, b_or_t, b_or_f, b_not_t, b_not_f, Z1, Z0, Z2, Z3, Z9, Zc, Zb, Z8, Za, Nat.reduceBEq, Int.reduceBEq, Int.reduceAdd, Int.reduceSub, Int.reduceNeg, Option.getD_some, Option.getD_none]
    exact key _ rfl
theorem expr_d2 {n : Nat} {e : D} {text : List Nat} : Txt n 2 [e, .int 0, .bool false] text → Txt n 2 [e] text := by
  intro h σ
  have := h σ
  cases n with
  | zero => exact this
  | succ n => exact this

theorem int_7 {m : Nat} : Txt (m + 1) 8 [.int 7] [55] := by
  intro σ
  refine call_fn (fd := G2_8) (ve := [some _, none]) rfl rfl ?_
  unfold G2_8
  dsimp only [Z1i, Z28, Z1r, Z23, Z26, Z1g, Z1b, Z21, Z1z, Z1y, Z1q, Z1e, Z1s, Z1c, Z1k, Z24, Z1f, Z1d, Z27, Z1u, Z1h, Z0z, Z6, Z7, Z5, Z4, Z0v, Z0u, Z0w, Z11, Z0x, Z10, Z0y, Z0j, Z0i, Zh, Zg, Ze, Zd, Zf, Z19, Z1a, Z13, Z14, Z18, Z17, Z16, Z15, Z0k, Z0l, Z0m, Z0n, Z0o, Z0p, Z0q, Z0r, Z0t, Z0s, w_add_str, w_add_int, w_add_ref, Z25, Z1x, Z1w, Z1j, Z22, w_eq_str, w_ne_str, w_eq_int, w_ne_int, w_eq_ref, Z1o, Z1p, Z1v, Z1t, Z1m, Z1l, Z1n, Z20, b_and_t, b_and_f, b_or_t, b_or_f, b_not_t, b_not_f, Z1, Z0, Z2, Z3, Z9, Zc, Zb, Z8, Za, Nat.reduceBEq, Int.reduceBEq, Int.reduceAdd, Int.reduceSub, Int.reduceNeg, Option.getD_some, Option.getD_none]
  rw [str_7]
  try dsimp only [Z1i, Z28, Z1r, Z23, Z26, Z1g, Z1b, Z21, Z1z, Z1y, Z1q, Z1e, Z1s, Z1c, Z1k, Z24, Z1f, Z1d, Z27, Z1u, Z1h, Z0z, Z6, Z7, Z5, Z4, Z0v, Z0u, Z0w, Z11, Z0x, Z10, Z0y, Z0j, Z0i, Zh, Zg, Ze, Zd, Zf, Z19, Z1a, Z13, Z14, Z18, Z17, Z16, Z15, Z0k, Z0l, Z0m, Z0n, Z0o, Z0p, Z0q, Z0r, Z0t, Z0s, w_add_str, w_add_int, w_add_ref, Z25, Z1x, Z1w, Z1j, Z22, w_eq_str, w_ne_str, w_eq_int, w_ne_int, w_eq_ref, Z1o, Z1p, Z1v, Z1t, Z1m, Z1l, Z1n, Z20, b_and_t, b_and_f, b_or_t, b_or_f, b_not_t, b_not_f, Z1, Z0, Z2, Z3, Z9, Zc, Zb, Z8, Za, Nat.reduceBEq, Int.reduceBEq, Int.reduceAdd, Int.reduceSub, Int.reduceNeg, Option.getD_some, Option.getD_none]
  rw [len_str]
  refine ⟨by decide, ?_⟩
  try dsimp only [Z1i, Z28, Z1r, Z23, Z26, Z1g, Z1b, Z21, Z1z, Z1y, Z1q, Z1e, Z1s, Z1c, Z1k, Z24, Z1f, Z1d, Z27, Z1u, Z1h, Z0z, Z6, Z7, Z5, Z4, Z0v, Z0u, Z0w, Z11, Z0x, Z10, Z0y, Z0j, Z0i, Zh, Zg, Ze, Zd, Zf, Z19, Z1a, Z13, Z14, Z18, Z17, Z16, Z15, Z0k, Z0l, Z0m, Z0n, Z0o, Z0p, Z0q, Z0r, Z0t, Z0s, w_add_str, w_add_int, w_add_ref, Z25, Z1x, Z1w, Z1j, Z22, w_eq_str, w_ne_str, w_eq_int, w_ne_int, w_eq_ref, Z1o, Z1p, Z1v, Z1t, Z1m, Z1l, Z1n, Z20, b_and_t, b_and_f, b_or_t, b_or_f, b_not_t, b_not_f, Z1, Z0, Z2, Z3, Z9, Zc, Zb, Z8, Za, Nat.reduceBEq, Int.reduceBEq, Int.reduceAdd, Int.reduceSub, Int.reduceNeg, Option.getD_some, Option.getD_none]
  exact ⟨rfl, Gs.refl⟩
theorem bare_int {m : Nat} {i : Int} {b : Bool} : Txt (m + 2) 4 [.tup [.str [105, 110, 116], .int i, .int 7], .bool b] [55] := by
  intro σ
  refine call_fn (fd := G2_4) (ve := [some _, some _, none, none]) rfl rfl ?_
  unfold G2_4
  dsimp only [Z1i, Z28, Z1r, Z23, Z26, Z1g, Z1b, Z21, Z1z, Z1y, Z1q, Z1e, Z1s, Z1c, Z1k, Z24, Z1f, Z1d, Z27, Z1u, Z1h, Z0z, Z6, Z7, Z5, Z4, Z0v, Z0u, Z0w, Z11, Z0x, Z10, Z0y, Z0j, Z0i, Zh, Zg, Ze, Zd, Zf, Z19, Z1a, Z13, Z14, Z18, Z17, Z16, Z15, Z0k, Z0l, Z0m, Z0n, Z0o, Z0p, Z0q, Z0r, Z0t, Z0s, w_add_str, w_add_int, w_add_ref, Z25, Z1x, Z1w, Z1j, Z22, w_eq_str, w_ne_str, w_eq_int, w_ne_int, w_eq_ref, Z1o, Z1p, Z1v, Z1t, Z1m, Z1l, Z1n, Z20, b_and_t, b_and_f, b_or_t, b_or_f, b_not_t, b_not_f, Z1, Z0, Z2, Z3, Z9, Zc, Zb, Z8, Za, Nat.reduceBEq, Int.reduceBEq, Int.reduceAdd, Int.reduceSub, Int.reduceNeg, Option.getD_some, Option.getD_none]
  exact int_7 σ
theorem bare_name {m : Nat} {i : Int} {b : Bool} {s : List Nat} : Txt (m + 1) 4 [.tup [.str [110, 97, 109, 101], .int i, .str s], .bool b] s := by
  intro σ
  refine call_fn (fd := G2_4) (ve := [some _, some _, none, none]) rfl rfl ?_
  unfold G2_4
  dsimp only [Z1i, Z28, Z1r, Z23, Z26, Z1g, Z1b, Z21, Z1z, Z1y, Z1q, Z1e, Z1s, Z1c, Z1k, Z24, Z1f, Z1d, Z27, Z1u, Z1h, Z0z, Z6, Z7, Z5, Z4, Z0v, Z0u, Z0w, Z11, Z0x, Z10, Z0y, Z0j, Z0i, Zh, Zg, Ze, Zd, Zf, Z19, Z1a, Z13, Z14, Z18, Z17, Z16, Z15, Z0k, Z0l, Z0m, Z0n, Z0o, Z0p, Z0q, Z0r, Z0t, Z0s, w_add_str, w_add_int, w_add_ref, Z25, Z1x, Z1w, Z1j, Z22, w_eq_str, w_ne_str, w_eq_int, w_ne_int, w_eq_ref, Z1o, Z1p, Z1v, Z1t, Z1m, Z1l, Z1n, Z20, b_and_t, b_and_f, b_or_t, b_or_f, b_not_t, b_not_f, Z1, Z0, Z2, Z3, Z9, Zc, Zb, Z8, Za, Nat.reduceBEq, Int.reduceBEq, Int.reduceAdd, Int.reduceSub, Int.reduceNeg, Option.getD_some, Option.getD_none]
  exact ⟨rfl, Gs.refl⟩
theorem bare_unary {m : Nat} {i : Int} {b : Bool} {sign : List Nat} {e : D} {s : List Nat} (h : Txt m 5 [.str sign, e, .bool b] s) : Txt (m + 1) 4 [.tup [.str [117, 110, 97, 114, 121], .int i, .str sign, e], .bool b] s := by
  intro σ
  refine call_fn (fd := G2_4) (ve := [some _, some _, none, none]) rfl rfl ?_
  unfold G2_4
  dsimp only [Z1i, Z28, Z1r, Z23, Z26, Z1g, Z1b, Z21, Z1z, Z1y, Z1q, Z1e, Z1s, Z1c, Z1k, Z24, Z1f, Z1d, Z27, Z1u, Z1h, Z0z, Z6, Z7, Z5, Z4, Z0v, Z0u, Z0w, Z11, Z0x, Z10, Z0y, Z0j, Z0i, Zh, Zg, Ze, Zd, Zf, Z19, Z1a, Z13, Z14, Z18, Z17, Z16, Z15, Z0k, Z0l, Z0m, Z0n, Z0o, Z0p, Z0q, Z0r, Z0t, Z0s, w_add_str, w_add_int, w_add_ref, Z25, Z1x, Z1w, Z1j, Z22, w_eq_str, w_ne_str, w_eq_int, w_ne_int, w_eq_ref, Z1o, Z1p, Z1v, Z1t, Z1m, Z1l, Z1n, Z20, b_and_t, b_and_f, b_or_t, b_or_f, b_not_t, b_not_f, Z1, Z0, Z2, Z3, Z9, Zc, Zb, Z8, Za, Nat.reduceBEq, Int.reduceBEq, Int.reduceAdd, Int.reduceSub, Int.reduceNeg, Option.getD_some, Option.getD_none]
  exact h σ
theorem bare_binary {m : Nat} {i : Int} {b : Bool} {op : List Nat} {l r : D} {lev : Int} {s t : List Nat} (h : ops2.lookup op = some lev) (h1 : Txt m 2 [l, .int lev, .bool b] s) (h2 : Txt m 2 [r, .int (lev + 1), .bool b] t) (hlen : s.length + op.length + t.length ≤ 900000) :
    Txt (m + 1) 4 [.tup [.str [98, 105, 110, 97, 114, 121], .int i, .str op, l, r], .bool b] (s ++ [32] ++ op ++ [32] ++ t) := by
  intro σ
  refine call_fn (fd := G2_4) (ve := [some _, some _, none, none]) rfl rfl ?_
  unfold G2_4
  dsimp only [Z1i, Z28, Z1r, Z23, Z26, Z1g, Z1b, Z21, Z1z, Z1y, Z1q, Z1e, Z1s, Z1c, Z1k, Z24, Z1f, Z1d, Z27, Z1u, Z1h, Z0z, Z6, Z7, Z5, Z4, Z0v, Z0u, Z0w, Z11, Z0x, Z10, Z0y, Z0j, Z0i, Zh, Zg, Ze, Zd, Zf, Z19, Z1a, Z13, Z14, Z18, Z17, Z16, Z15, Z0k, Z0l, Z0m, Z0n, Z0o, Z0p, Z0q, Z0r, Z0t, Z0s, w_add_str, w_add_int, w_add_ref, Z25, Z1x, Z1w, Z1j, Z22, w_eq_str, w_ne_str, w_eq_int, w_ne_int, w_eq_ref, Z1o, Z1p, Z1v, Z1t, Z1m, Z1l, Z1n, Z20, b_and_t, b_and_f, b_or_t, b_or_f, b_not_t, b_not_f, Z1, Z0, Z2, Z3, Z9, Zc, Zb, Z8, Za, Nat.reduceBEq, Int.reduceBEq, Int.reduceAdd, Int.reduceSub, Int.reduceNeg, Option.getD_some, Option.getD_none]
  refine ⟨lev, h, ?_⟩
  refine (h1 σ).mono ?_
  rintro _ σ₁ ⟨rfl, g1⟩
  dsimp only [Z1i, Z28, Z1r, Z23, Z26, Z1g, Z1b, Z21, Z1z, Z1y, Z1q, Z1e, Z1s, Z1c, Z1k, Z24, Z1f, Z1d, Z27, Z1u, Z1h, Z0z, Z6, Z7, Z5, Z4, Z0v, Z0u, Z0w, Z11, Z0x, Z10, Z0y, Z0j, Z0i, Zh, Zg, Ze, Zd, Zf, Z19, Z1a, Z13, Z14, Z18, Z17, Z16, Z15, Z0k, Z0l, Z0m, Z0n, Z0o, Z0p, Z0q, Z0r, Z0t, Z0s, w_add_str, w_add_int, w_add_ref, Z25, Z1x, Z1w, Z1j, Z22, w_eq_str, w_ne_str, w_eq_int, w_ne_int, w_eq_ref, Z1o, Z1p, Z1v, Z1t, Z1m, Z1l, Z1n, Z20, b_and_t, b_and_f, b_or_t, b_or_f, b_not_t, b_not_f, Z1, Z0, Z2, Z3, Z9, Zc, Zb, Z8, Za, Nat.reduceBEq, Int.reduceBEq, Int.reduceAdd, Int.reduceSub, Int.reduceNeg, Option.getD_some, Option.getD_none]
  refine ⟨by first | (apply cap2; (case h1 => repeat' first | assumption | apply app_le | apply nil_le | apply cons_le); (case h2 => repeat' first | assumption | apply app_le | apply nil_le | apply cons_le); decide) | (apply cap1; (case h1 => repeat' first | assumption | apply app_le | apply nil_le | apply cons_le); decide) | (simp [sizeCap]; omega) | (unfold sizeCap; omega), by first | (apply cap2; (case h1 => repeat' first | assumption | apply app_le | apply nil_le | apply cons_le); (case h2 => repeat' first | assumption | apply app_le | apply nil_le | apply cons_le); decide) | (apply cap1; (case h1 => repeat' first | assumption | apply app_le | apply nil_le | apply cons_le); decide) | (simp [sizeCap]; omega) | (unfold sizeCap; omega), by first | (apply cap2; (case h1 => repeat' first | assumption | apply app_le | apply nil_le | apply cons_le); (case h2 => repeat' first | assumption | apply app_le | apply nil_le | apply cons_le); decide) | (apply cap1; (case h1 => repeat' first | assumption | apply app_le | apply nil_le | apply cons_le); decide) | (simp [sizeCap]; omega) | (unfold sizeCap; omega), ?_⟩
  refine (h2 σ₁).mono ?_
  rintro _ σ₂ ⟨rfl, g2⟩
  dsimp only [Z1i, Z28, Z1r, Z23, Z26, Z1g, Z1b, Z21, Z1z, Z1y, Z1q, Z1e, Z1s, Z1c, Z1k, Z24, Z1f, Z1d, Z27, Z1u, Z1h, Z0z, Z6, Z7, Z5, Z4, Z0v, Z0u, Z0w, Z11, Z0x, Z10, Z0y, Z0j, Z0i, Zh, Zg, Ze, Zd, Zf, Z19, Z1a, Z13, Z14, Z18, Z17, Z16, Z15, Z0k, Z0l, Z0m, Z0n, Z0o, Z0p, Z0q, Z0r, Z0t, Z0s, w_add_str, w_add_int, w_add_ref, Z25, Z1x, Z1w, Z1j, Z22, w_eq_str, w_ne_str, w_eq_int, w_ne_int, w_eq_ref, Z1o, Z1p, Z1v, Z1t, Z1m, Z1l, Z1n, Z20, b_and_t, b_and_f, b_or_t, b_or_f, b_not_t, b_not_f, Z1, Z0, Z2, Z3, Z9, Zc, Zb, Z8, Za, Nat.reduceBEq, Int.reduceBEq, Int.reduceAdd, Int.reduceSub, Int.reduceNeg, Option.getD_some, Option.getD_none]
  exact ⟨by first | (apply cap2; (case h1 => repeat' first | assumption | apply app_le | apply nil_le | apply cons_le); (case h2 => repeat' first | assumption | apply app_le | apply nil_le | apply cons_le); decide) | (apply cap1; (case h1 => repeat' first | assumption | apply app_le | apply nil_le | apply cons_le); decide) | (simp [sizeCap]; omega) | (unfold sizeCap; omega), rfl, g1.trans g2⟩
theorem bare_call {m : Nat} {i e2 : D} {rest : List D} {b : Bool} {base text : List Nat} (h1 : Txt m 2 [e2, .int 7, .bool b] base) (h2 : Txt m 6 [.tup (.str [99, 97, 108, 108] :: i :: e2 :: rest), .str base] text) :
    Txt (m + 1) 4 [.tup (.str [99, 97, 108, 108] :: i :: e2 :: rest), .bool b] text := by
  intro σ
  refine call_fn (fd := G2_4) (ve := [some _, some _, none, none]) rfl rfl ?_
  unfold G2_4
  dsimp only [Z1i, Z28, Z1r, Z23, Z26, Z1g, Z1b, Z21, Z1z, Z1y, Z1q, Z1e, Z1s, Z1c, Z1k, Z24, Z1f, Z1d, Z27, Z1u, Z1h, Z0z, Z6, Z7, Z5, Z4, Z0v, Z0u, Z0w, Z11, Z0x, Z10, Z0y, Z0j, Z0i, Zh, Zg, Ze, Zd, Zf, Z19, Z1a, Z13, Z14, Z18, Z17, Z16, Z15, Z0k, Z0l, Z0m, Z0n, Z0o, Z0p, Z0q, Z0r, Z0t, Z0s, w_add_str, w_add_int, w_add_ref, Z25, Z1x, Z1w, Z1j, Z22, w_eq_str, w_ne_str, w_eq_int, w_ne_int, w_eq_ref, Z1o, Z1p, Z1v, Z1t, Z1m, Z1l, Z1n, Z20, b_and_t, b_and_f, b_or_t, b_or_f, b_not_t, b_not_f, Z1, Z0, Z2, Z3, Z9, Zc, Zb, Z8, Za, Nat.reduceBEq, Int.reduceBEq, Int.reduceAdd, Int.reduceSub, Int.reduceNeg, Option.getD_some, Option.getD_none]
  refine (h1 σ).mono ?_
  rintro _ σ₁ ⟨rfl, g1⟩
  refine (h2 σ₁).mono ?_
  rintro _ σ₂ ⟨rfl, g2⟩
  exact ⟨rfl, g1.trans g2⟩

noncomputable def blankB (x : Nat) : Bool := x == 43 || (x == 45 || (x == 38 || (x == 94 || x == 60)))
noncomputable def blankOf (x : Nat) : List Nat := if blankB x then [32] else []
theorem ahead_ok {m : Nat} {e : D} {sign : List Nat} {b : Bool} {x : Nat} {s : List Nat} (h : Txt m 2 [e, .int 6, .bool b] (x :: s)) (hlen : sign.length + s.length ≤ 900000) : Txt (m + 1) 5 [.str sign, e, .bool b] (sign ++ blankOf x ++ x :: s) := by
  intro σ
  refine call_fn (fd := G2_5) (ve := [some _, some _, some _, none]) rfl rfl ?_
  unfold G2_5
  dsimp only [Z1i, Z28, Z1r, Z23, Z26, Z1g, Z1b, Z21, Z1z, Z1y, Z1q, Z1e, Z1s, Z1c, Z1k, Z24, Z1f, Z1d, Z27, Z1u, Z1h, Z0z, Z6, Z7, Z5, Z4, Z0v, Z0u, Z0w, Z11, Z0x, Z10, Z0y, Z0j, Z0i, Zh, Zg, Ze, Zd, Zf, Z19, Z1a, Z13, Z14, Z18, Z17, Z16, Z15, Z0k, Z0l, Z0m, Z0n, Z0o, Z0p, Z0q, Z0r, Z0t, Z0s, w_add_str, w_add_int, w_add_ref, Z25, Z1x, Z1w, Z1j, Z22, w_eq_str, w_ne_str, w_eq_int, w_ne_int, w_eq_ref, Z1o, Z1p, Z1v, Z1t, Z1m, Z1l, Z1n, Z20, b_and_t, b_and_f, b_or_t, b_or_f, b_not_t, b_not_f, Z1, Z0, Z2, Z3, Z9, Zc, Zb, Z8, Za, Nat.reduceBEq, Int.reduceBEq, Int.reduceAdd, Int.reduceSub, Int.reduceNeg, Option.getD_some, Option.getD_none]
  refine (h σ).mono ?_
  rintro _ σ₁ ⟨rfl, g1⟩
  simp only [Z1i, Z28, Z1r, Z23, Z26, Z1g, Z1b, Z21, Z1z, Z1y, Z1q, Z1e, Z1s, Z1c, Z1k, Z24, Z1f, Z1d, Z27, Z1u, Z1h, Z0z, Z6, Z7, Z5, Z4, Z0v, Z0u, Z0w, Z11, Z0x, Z10, Z0y, Z0j, Z0i, Zh, Zg, Ze, Zd, Zf, Z19, Z1a, Z13, Z14, Z18, Z17, Z16, Z15, Z0k, Z0l, Z0m, Z0n, Z0o, Z0p, Z0q, Z0r, Z0t, Z0s, w_add_str, w_add_int, w_add_ref, Z25, Z1x, Z1w, Z1j, Z22, w_eq_str, w_ne_str, w_eq_int, w_ne_int, w_eq_ref, Z1o, Z1p, Z1v, Z1t, Z1m, Z1l, Z1n, Z20, b_and_t, b_and_f, b_or_t, b_or_f, b_not_t, b_not_f, Z1, Z0, Z2, Z3, Z9, Zc, Zb, Z8, Za, Nat.reduceBEq, Int.reduceBEq, Int.reduceAdd, Int.reduceSub, Int.reduceNeg, Option.getD_some, Option.getD_none, item_0, item_1, item_2, item_3, item_4, item_5, item_6, notin_tup, in_tup, in_str, strsOf_nil, strsOf_cons, str_7, len_str, len_ref, range_int, List.any_cons, List.any_nil, Bool.or_false, Bool.false_or, Bool.or_true, Bool.true_or, Bool.true_and, Bool.false_and, Bool.and_true, Bool.and_false, Bool.not_true, Bool.not_false, List.contains_cons, List.contains_nil, beq_self_eq_true, true_and, and_true, Int.reduceEq, Int.reduceLT, Int.reduceLE, decide_true, decide_false, List.length_cons, List.length_nil, Nat.reduceAdd, Nat.reduceLeDiff, eq_self, item_str]
  unfold blankOf
  show OnBool (.bool (blankB x)) _ _
  cases blankB x with
  | true => exact ⟨by first | (apply cap2; (case h1 => repeat' first | assumption | apply app_le | apply nil_le | apply cons_le); (case h2 => repeat' first | assumption | apply app_le | apply nil_le | apply cons_le); decide) | (apply cap1; (case h1 => repeat' first | assumption | apply app_le | apply nil_le | apply cons_le); decide) | (simp [sizeCap]; omega) | (unfold sizeCap; omega), by first | (apply cap2; (case h1 => repeat' first | assumption | apply app_le | apply nil_le | apply cons_le); (case h2 => repeat' first | assumption | apply app_le | apply nil_le | apply cons_le); decide) | (apply cap1; (case h1 => repeat' first | assumption | apply app_le | apply nil_le | apply cons_le); decide) | (simp [sizeCap]; omega) | (unfold sizeCap; omega), by simp, g1⟩
  | false => exact ⟨by first | (apply cap2; (case h1 => repeat' first | assumption | apply app_le | apply nil_le | apply cons_le); (case h2 => repeat' first | assumption | apply app_le | apply nil_le | apply cons_le); decide) | (apply cap1; (case h1 => repeat' first | assumption | apply app_le | apply nil_le | apply cons_le); decide) | (simp [sizeCap]; omega) | (unfold sizeCap; omega), by first | (apply cap2; (case h1 => repeat' first | assumption | apply app_le | apply nil_le | apply cons_le); (case h2 => repeat' first | assumption | apply app_le | apply nil_le | apply cons_le); decide) | (apply cap1; (case h1 => repeat' first | assumption | apply app_le | apply nil_le | apply cons_le); decide) | (simp [sizeCap]; omega) | (unfold sizeCap; omega), by simp, g1⟩
end Mine
end

section
open PySem
namespace Mine
mutual
theorem D.beq_refl : ∀ d : D, D.beq d d = true
  | .none => rfl
  | .bool b => beq_self_eq_true b
  | .int b => beq_self_eq_true b
  | .str b => beq_self_eq_true b
  | .tup l => D.beqL_refl l
  | .ref b => beq_self_eq_true b
  | .script b => beq_self_eq_true b
  | .rng b => beq_self_eq_true b
theorem D.beqL_refl : ∀ l : List D, D.beqL l l = true
  | [] => rfl
  | d :: l => Bool.and_eq_true_iff.mpr ⟨D.beq_refl d, D.beqL_refl l⟩
end
theorem ref_stays {r : Nat} {l : List D} {σ : Sto} (h : σ[r]? = some l) : stays (.ref r) l σ = true := by
  show (match σ[r]? with | some l' => D.beqL l l' | _ => false) = true
  rw [h]; exact D.beqL_refl l

theorem joinL_len (sep : List Nat) : ∀ (xs : List (List Nat)) (M : Nat), (∀ x ∈ xs, x.length ≤ M) → (joinL sep xs).length ≤ xs.length * (M + sep.length)
  | [], M, _ => Nat.zero_le _
  | [x], M, h => by
    have := h x (List.mem_cons_self ..)
    show x.length ≤ 1 * (M + sep.length)
    omega
  | x :: y :: r, M, h => by
    have h1 := h x (List.mem_cons_self ..)
    have h2 := joinL_len sep (y :: r) M fun z hz => h z (List.mem_cons_of_mem _ hz)
    show (x ++ sep ++ joinL sep (y :: r)).length ≤ _
    rw [List.length_append, List.length_append, List.length_cons, Nat.succ_mul]
    omega

/-- the texts of expressions, with commas between -/
theorem exprs_ok {m : Nat} {src : D} {es : List D} {xs : List (List Nat)} {hdr : Bool} (σ : Sto) (hi : itemsOf src σ = some es) (hst : ∀ σ', Gs [σ.length] (σ ++ [[]]) σ' → stays src es σ' = true) (hs : ∀ σ, itemsOf src σ = some es → itemsOf src (σ ++ [[]]) = some es)
    (h : All2 (fun e x => Txt m 2 [e, .int 0, .bool hdr] x) es xs) (hl : es.length ≤ 1000) (hlen : (joinL [44, 32] xs).length ≤ 900000) : RunO (C2 (m + 1) 3 [src, .bool hdr] σ) fun d σ' => d = .str (joinL [44, 32] xs) ∧ Gs [] σ σ' := by
  refine call_fn (fd := G2_3) (ve := [some _, some _]) rfl rfl ?_
  unfold G2_3
  dsimp only [Z1i, Z28, Z1r, Z23, Z26, Z1g, Z1b, Z21, Z1z, Z1y, Z1q, Z1e, Z1s, Z1c, Z1k, Z24, Z1f, Z1d, Z27, Z1u, Z1h, Z0z, Z6, Z7, Z5, Z4, Z0v, Z0u, Z0w, Z11, Z0x, Z10, Z0y, Z0j, Z0i, Zh, Zg, Ze, Zd, Zf, Z19, Z1a, Z13, Z14, Z18, Z17, Z16, Z15, Z0k, Z0l, Z0m, Z0n, Z0o, Z0p, Z0q, Z0r, Z0t, Z0s, w_add_str, w_add_int, w_add_ref, Z25, Z1x, Z1w, Z1j, Z22, w_eq_str, w_ne_str, w_eq_int, w_ne_int, w_eq_ref, Z1o, Z1p, Z1v, Z1t, Z1m, Z1l, Z1n, Z20, b_and_t, b_and_f, b_or_t, b_or_f, b_not_t, b_not_f, Z1, Z0, Z2, Z3, Z9, Zc, Zb, Z8, Za, Nat.reduceBEq, Int.reduceBEq, Int.reduceAdd, Int.reduceSub, Int.reduceNeg, Option.getD_some, Option.getD_none]
  refine ⟨es, hi, ?_⟩
  refine RunT.mono (cloop_known (V := fun ve => ∃ a, ve = [a, some (.bool hdr)]) tests_nil (fun σ' => Gs [σ.length] (σ ++ [[]]) σ') hst (fun _ _ => Gs.trans) es (xs.map D.str) _ _ [] ?_ ⟨none, rfl⟩ Gs.refl get_new (by first | (apply cap2; (case h1 => repeat' first | assumption | apply app_le | apply nil_le | apply cons_le); (case h2 => repeat' first | assumption | apply app_le | apply nil_le | apply cons_le); decide) | (apply cap1; (case h1 => repeat' first | assumption | apply app_le | apply nil_le | apply cons_le); decide) | (simp [sizeCap]; omega) | (unfold sizeCap; omega))) ?_
  · refine All2.map D.str (fun e x hx ve σ hv => ?_) h
    obtain ⟨a, rfl⟩ := hv
    refine runV_of ?_
    dsimp only [Z1i, Z28, Z1r, Z23, Z26, Z1g, Z1b, Z21, Z1z, Z1y, Z1q, Z1e, Z1s, Z1c, Z1k, Z24, Z1f, Z1d, Z27, Z1u, Z1h, Z0z, Z6, Z7, Z5, Z4, Z0v, Z0u, Z0w, Z11, Z0x, Z10, Z0y, Z0j, Z0i, Zh, Zg, Ze, Zd, Zf, Z19, Z1a, Z13, Z14, Z18, Z17, Z16, Z15, Z0k, Z0l, Z0m, Z0n, Z0o, Z0p, Z0q, Z0r, Z0t, Z0s, w_add_str, w_add_int, w_add_ref, Z25, Z1x, Z1w, Z1j, Z22, w_eq_str, w_ne_str, w_eq_int, w_ne_int, w_eq_ref, Z1o, Z1p, Z1v, Z1t, Z1m, Z1l, Z1n, Z20, b_and_t, b_and_f, b_or_t, b_or_f, b_not_t, b_not_f, Z1, Z0, Z2, Z3, Z9, Zc, Zb, Z8, Za, Nat.reduceBEq, Int.reduceBEq, Int.reduceAdd, Int.reduceSub, Int.reduceNeg, Option.getD_some, Option.getD_none]
    refine ⟨⟨_, rfl⟩, wE_ok _ _ _ _ ?_⟩
    dsimp only [Z1i, Z28, Z1r, Z23, Z26, Z1g, Z1b, Z21, Z1z, Z1y, Z1q, Z1e, Z1s, Z1c, Z1k, Z24, Z1f, Z1d, Z27, Z1u, Z1h, Z0z, Z6, Z7, Z5, Z4, Z0v, Z0u, Z0w, Z11, Z0x, Z10, Z0y, Z0j, Z0i, Zh, Zg, Ze, Zd, Zf, Z19, Z1a, Z13, Z14, Z18, Z17, Z16, Z15, Z0k, Z0l, Z0m, Z0n, Z0o, Z0p, Z0q, Z0r, Z0t, Z0s, w_add_str, w_add_int, w_add_ref, Z25, Z1x, Z1w, Z1j, Z22, w_eq_str, w_ne_str, w_eq_int, w_ne_int, w_eq_ref, Z1o, Z1p, Z1v, Z1t, Z1m, Z1l, Z1n, Z20, b_and_t, b_and_f, b_or_t, b_or_f, b_not_t, b_not_f, Z1, Z0, Z2, Z3, Z9, Zc, Zb, Z8, Za, Nat.reduceBEq, Int.reduceBEq, Int.reduceAdd, Int.reduceSub, Int.reduceNeg, Option.getD_some, Option.getD_none]
    exact hx σ
  · rintro σ' ⟨h1, h2⟩
    rw [List.nil_append] at h1
    refine join_ref h1 (by decide) (by first | (apply cap2; (case h1 => repeat' first | assumption | apply app_le | apply nil_le | apply cons_le); (case h2 => repeat' first | assumption | apply app_le | apply nil_le | apply cons_le); decide) | (apply cap1; (case h1 => repeat' first | assumption | apply app_le | apply nil_le | apply cons_le); decide) | (simp [sizeCap]; omega) | (unfold sizeCap; omega)) ?_
    exact ⟨rfl, h2.comp⟩
theorem exprs_tup {m : Nat} {es : List D} {xs : List (List Nat)} {hdr : Bool} (h : All2 (fun e x => Txt m 2 [e, .int 0, .bool hdr] x) es xs) (hl : es.length ≤ 1000) (hlen : (joinL [44, 32] xs).length ≤ 900000) : Txt (m + 1) 3 [.tup es, .bool hdr] (joinL [44, 32] xs) :=
  fun σ => exprs_ok σ rfl (fun _ _ => rfl) (fun _ _ => rfl) h hl hlen
theorem exprs_d {n : Nat} {e : D} {text : List Nat} (h : Txt n 3 [e, .bool false] text) : Txt n 3 [e] text := by
  intro σ
  have := h σ
  cases n with
  | zero => exact this
  | succ n => exact this

/-! ### what stands behind -/
theorem behind_call {m : Nat} {i e x : D} {f : Bool} {s b : List Nat} (h : Txt m 3 [x] s) (hb : b.length + s.length ≤ 900000) : Txt (m + 1) 6 [.tup [.str [99, 97, 108, 108], i, e, x, .bool f], .str b] (b ++ ([40] ++ s ++ (if f then [46, 46, 46] else []) ++ [41])) := by
  intro σ
  refine call_fn (fd := G2_6) (ve := [some _, some _, none]) rfl rfl ?_
  unfold G2_6
  dsimp only [Z1i, Z28, Z1r, Z23, Z26, Z1g, Z1b, Z21, Z1z, Z1y, Z1q, Z1e, Z1s, Z1c, Z1k, Z24, Z1f, Z1d, Z27, Z1u, Z1h, Z0z, Z6, Z7, Z5, Z4, Z0v, Z0u, Z0w, Z11, Z0x, Z10, Z0y, Z0j, Z0i, Zh, Zg, Ze, Zd, Zf, Z19, Z1a, Z13, Z14, Z18, Z17, Z16, Z15, Z0k, Z0l, Z0m, Z0n, Z0o, Z0p, Z0q, Z0r, Z0t, Z0s, w_add_str, w_add_int, w_add_ref, Z25, Z1x, Z1w, Z1j, Z22, w_eq_str, w_ne_str, w_eq_int, w_ne_int, w_eq_ref, Z1o, Z1p, Z1v, Z1t, Z1m, Z1l, Z1n, Z20, b_and_t, b_and_f, b_or_t, b_or_f, b_not_t, b_not_f, Z1, Z0, Z2, Z3, Z9, Zc, Zb, Z8, Za, Nat.reduceBEq, Int.reduceBEq, Int.reduceAdd, Int.reduceSub, Int.reduceNeg, Option.getD_some, Option.getD_none]
  refine ⟨by first | (apply cap2; (case h1 => repeat' first | assumption | apply app_le | apply nil_le | apply cons_le); (case h2 => repeat' first | assumption | apply app_le | apply nil_le | apply cons_le); decide) | (apply cap1; (case h1 => repeat' first | assumption | apply app_le | apply nil_le | apply cons_le); decide) | (simp [sizeCap]; omega) | (unfold sizeCap; omega), ?_⟩
  refine (h σ).mono ?_
  rintro _ σ₁ ⟨rfl, g1⟩
  cases f
  all_goals
    dsimp only [Z1i, Z28, Z1r, Z23, Z26, Z1g, Z1b, Z21, Z1z, Z1y, Z1q, Z1e, Z1s, Z1c, Z1k, Z24, Z1f, Z1d, Z27, Z1u, Z1h, Z0z, Z6, Z7, Z5, Z4, Z0v, Z0u, Z0w, Z11, Z0x, Z10, Z0y, Z0j, Z0i, Zh, Zg, Ze, Zd, Zf, Z19, Z1a, Z13, Z14, Z18, Z17, Z16, Z15, Z0k, Z0l, Z0m, Z0n, Z0o, Z0p, Z0q, Z0r, Z0t, Z0s, w_add_str, w_add_int, w_add_ref, Z25, Z1x, Z1w, Z1j, Z22, w_eq_str, w_ne_str, w_eq_int, w_ne_int, w_eq_ref, Z1o, Z1p, Z1v, Z1t, Z1m, Z1l, Z1n, Z20, b_and_t, b_and_f, b_or_t, b_or_f, b_not_t, b_not_f, Z1, Z0, Z2, Z3, Z9, Zc, Zb, Z8, Za, Nat.reduceBEq, Int.reduceBEq, Int.reduceAdd, Int.reduceSub, Int.reduceNeg, Option.getD_some, Option.getD_none]
    exact ⟨by first | (apply cap2; (case h1 => repeat' first | assumption | apply app_le | apply nil_le | apply cons_le); (case h2 => repeat' first | assumption | apply app_le | apply nil_le | apply cons_le); decide) | (apply cap1; (case h1 => repeat' first | assumption | apply app_le | apply nil_le | apply cons_le); decide) | (simp [sizeCap]; omega) | (unfold sizeCap; omega), by first | (apply cap2; (case h1 => repeat' first | assumption | apply app_le | apply nil_le | apply cons_le); (case h2 => repeat' first | assumption | apply app_le | apply nil_le | apply cons_le); decide) | (apply cap1; (case h1 => repeat' first | assumption | apply app_le | apply nil_le | apply cons_le); decide) | (simp [sizeCap]; omega) | (unfold sizeCap; omega), by first | (apply cap2; (case h1 => repeat' first | assumption | apply app_le | apply nil_le | apply cons_le); (case h2 => repeat' first | assumption | apply app_le | apply nil_le | apply cons_le); decide) | (apply cap1; (case h1 => repeat' first | assumption | apply app_le | apply nil_le | apply cons_le); decide) | (simp [sizeCap]; omega) | (unfold sizeCap; omega), by simp, g1⟩
end Mine
end

section
open PySem
namespace Mine
structure Sh (e : D) (place : Int) (hdr : Bool) (text : List Nat) : Prop where
  run : ∀ n, 30 ≤ n → Txt n 2 [e, .int place, .bool hdr] text
  ne : text ≠ []
  tup : ∃ l, e = .tup l

theorem item_mem {q : Nat} {l : List D} {σ : Sto} {t : Int} {P : D → Sto → Prop} (hq : σ[q]? = some l) (h0 : 0 ≤ t) (h1 : t < l.length) (h2 : l.length ≤ 1000) (hp : ∀ x ∈ l, P x σ) : RunO (opItem (.ref q) (.int t) σ) P := by
  have e : seqIdx t l.length = some t.toNat := by
    unfold seqIdx
    rw [if_pos h0, if_pos (by omega)]
  have e2 : l[t.toNat]? = some l[t.toNat] := List.getElem?_eq_getElem (by omega)
  unfold opItem
  dsimp only
  rw [smallInt_of (by omega) (by omega), if_pos rfl, hq]
  dsimp only
  rw [e]
  dsimp only
  rw [e2]
  exact hp _ (List.getElem_mem _)

theorem one_ok {n src q : Nat} {l : List D} {σ : Sto} (hn : 2 ≤ n) (hs : Src src σ) (hq : σ[q]? = some l) (h0 : 0 < l.length) (h1 : l.length ≤ 1000) (hne : q ≠ src) : RunO (C2 n 23 [.ref src, .ref q] σ) fun d σ' => d ∈ l ∧ Go src σ σ' := by
  obtain ⟨m, rfl⟩ : ∃ m, n = m + 1 := ⟨n - 1, by omega⟩
  refine call_fn (fd := G2_23) (ve := [some _, some _]) rfl rfl ?_
  unfold G2_23
  simp only [Z1i, Z28, Z1r, Z23, Z26, Z1g, Z1b, Z21, Z1z, Z1y, Z1q, Z1e, Z1s, Z1c, Z1k, Z24, Z1f, Z1d, Z27, Z1u, Z1h, Z0z, Z6, Z7, Z5, Z4, Z0v, Z0u, Z0w, Z11, Z0x, Z10, Z0y, Z0j, Z0i, Zh, Zg, Ze, Zd, Zf, Z19, Z1a, Z13, Z14, Z18, Z17, Z16, Z15, Z0k, Z0l, Z0m, Z0n, Z0o, Z0p, Z0q, Z0r, Z0t, Z0s, w_add_str, w_add_int, w_add_ref, Z25, Z1x, Z1w, Z1j, Z22, w_eq_str, w_ne_str, w_eq_int, w_ne_int, w_eq_ref, Z1o, Z1p, Z1v, Z1t, Z1m, Z1l, Z1n, Z20, b_and_t, b_and_f, b_or_t, b_or_f, b_not_t, b_not_f, Z1, Z0, Z2, Z3, Z9, Zc, Zb, Z8, Za, Nat.reduceBEq, Int.reduceBEq, Int.reduceAdd, Int.reduceSub, Int.reduceNeg, Option.getD_some, Option.getD_none, item_0, item_1, item_2, item_3, item_4, item_5, item_6, notin_tup, in_tup, in_str, strsOf_nil, strsOf_cons, str_7, len_str, len_ref, range_int, List.any_cons, List.any_nil, Bool.or_false, Bool.false_or, Bool.or_true, Bool.true_or, Bool.true_and, Bool.false_and, Bool.and_true, Bool.and_false, Bool.not_true, Bool.not_false, List.contains_cons, List.contains_nil, beq_self_eq_true, true_and, and_true, Int.reduceEq, Int.reduceLT, Int.reduceLE, decide_true, decide_false, List.length_cons, List.length_nil, Nat.reduceAdd, Nat.reduceLeDiff, eq_self, hq]
  refine ⟨by first | (apply cap2; (case h1 => repeat' first | assumption | apply app_le | apply nil_le | apply cons_le); (case h2 => repeat' first | assumption | apply app_le | apply nil_le | apply cons_le); decide) | (apply cap1; (case h1 => repeat' first | assumption | apply app_le | apply nil_le | apply cons_le); decide) | (simp [sizeCap]; omega) | (unfold sizeCap; omega), ?_⟩
  refine (take_ok (by omega) hs (by omega) (by omega)).mono ?_
  rintro _ σ' ⟨t, rfl, t0, t1, hg⟩
  exact item_mem (hg.at hq hne) t0 t1 h1 fun x hx => ⟨hx, hg⟩

theorem one_new {n src : Nat} {l : List D} {σ : Sto} (hn : 2 ≤ n) (hs : Src src σ) (h0 : 0 < l.length) (h1 : l.length ≤ 1000) : RunO (C2 n 23 [.ref src, .ref σ.length] (σ ++ [l])) fun d σ' => d ∈ l ∧ Go src σ σ' := by
  have hs' : Src src (σ ++ [l]) := hs.ext Gs.app
  have hne : σ.length ≠ src := by
    obtain ⟨g, c, h, _⟩ := hs
    have := get_lt h
    omega
  exact (one_ok hn hs' get_new h0 h1 hne).mono fun d σ' h => ⟨h.1, (Go.ext hs Gs.app).trans h.2⟩

noncomputable def nameD (i : Int) (x : List Nat) : D := .tup [.str [110, 97, 109, 101], .int i, .str x]
theorem name_txt {i : Int} {x : List Nat} {place : Int} {hdr : Bool} (hp : place ≤ 7) (hl : x.length ≤ 10) : ∀ n, 10 ≤ n → Txt n 2 [nameD i x, .int place, .bool hdr] x := by
  intro n hn
  obtain ⟨m, rfl⟩ : ∃ m, n = m + 1 + 1 := ⟨n - 2, by omega⟩
  have := expr_of (m := m + 1) (least := place) (hdr := hdr) (k := [110, 97, 109, 101]) (rest := [.int i, .str x]) (text := x) rfl rfl (lev_tight rfl rfl rfl rfl) bare_name (by omega)
  rw [if_neg (by omega)] at this
  exact this
theorem sh_name {i : Int} {x : List Nat} {place : Int} {hdr : Bool} (hp : place ≤ 7) (hx : x ≠ []) (hl : x.length ≤ 10) : Sh (nameD i x) place hdr x :=
  ⟨fun n hn => name_txt hp hl n (by omega), hx, ⟨_, rfl⟩⟩
theorem sh_int {i : Int} {hdr : Bool} : Sh (.tup [.str [105, 110, 116], .int i, .int 7]) 0 hdr [55] := by
  refine ⟨fun n hn => ?_, by decide, ⟨_, rfl⟩⟩
  obtain ⟨m, rfl⟩ : ∃ m, n = m + 2 + 1 := ⟨n - 3, by omega⟩
  exact expr_of (m := m + 2) (least := 0) (hdr := hdr) (k := [105, 110, 116]) (rest := [.int i, .int 7]) (text := [55]) rfl rfl (lev_tight rfl rfl rfl rfl) bare_int (by decide)
theorem sh_add {i : Int} {l r : D} {hdr : Bool} (h1 : ∀ n, 10 ≤ n → Txt n 2 [l, .int 4, .bool hdr] [97]) (h2 : ∀ n, 10 ≤ n → Txt n 2 [r, .int 5, .bool hdr] [98]) : Sh (.tup [.str [98, 105, 110, 97, 114, 121], .int i, .str [43], l, r]) 0 hdr [97, 32, 43, 32, 98] := by
  refine ⟨fun n hn => ?_, by decide, ⟨_, rfl⟩⟩
  obtain ⟨m, rfl⟩ : ∃ m, n = m + 28 + 1 + 1 := ⟨n - 30, by omega⟩
  have hb : ∀ b, b = hdr → Txt (m + 28 + 1) 4 [.tup [.str [98, 105, 110, 97, 114, 121], .int i, .str [43], l, r], .bool b] [97, 32, 43, 32, 98] := by
    rintro _ rfl
    exact bare_binary (lev := 4) rfl (h1 (m + 28) (by omega)) (h2 (m + 28) (by omega)) (by decide)
  exact expr_of (m := m + 28 + 1) (least := 0) (hdr := hdr) (k := [98, 105, 110, 97, 114, 121]) (l := 4) rfl rfl (lev_binary rfl) (hb _ (Bool.and_true hdr)) (by decide)

theorem in_ref {x : List Nat} {r : Nat} {l : List D} {σ : Sto} {Q : Bool → Prop} (h : σ[r]? = some l) : RunM (opCmp .inn (.str x) (.ref r) σ) Q = (match strsOf l with | some ys => Q (ys.any (· == x)) | none => False) := by
  show RunM (match σ[r]? with | some l => (match strsOf l with | some ys => some (ys.any (· == x)) | _ => none) | _ => none) Q = _
  rw [h]
  dsimp only
  cases strsOf l <;> rfl
theorem onBool_b {b : Bool} {p q : Prop} : OnBool (.bool b) p q = (if b = true then p else q) := by cases b <;> simp [OnBool]
theorem Go.new {src : Nat} {σ σ' : Sto} (h : Go src σ σ') {l : List D} : Go src σ (σ' ++ [l]) := h.trans (Go.ext h.2 Gs.app)
theorem Go.setNew {src r : Nat} {σ σ' : Sto} {l : List D} (h : Go src σ σ') (hr : σ.length ≤ r) (hn : r ≠ src) : Go src σ (σ'.set r l) := by
  obtain ⟨⟨g1, g2⟩, ⟨g, c, e, e2⟩⟩ := h
  refine ⟨⟨by rw [List.length_set]; exact g1, fun j hj hm => ?_⟩, ⟨g, c, ?_, e2⟩⟩
  · rw [List.getElem?_set_ne (by omega)]
    exact g2 j hj hm
  · rw [List.getElem?_set_ne hn]
    exact e

theorem sh_neg {i : Int} {e : D} {hdr : Bool} (h : ∀ n, 10 ≤ n → Txt n 2 [e, .int 6, .bool hdr] [97]) : Sh (.tup [.str [117, 110, 97, 114, 121], .int i, .str [45], e]) 0 hdr [45, 97] := by
  refine ⟨fun n hn => ?_, by decide, ⟨_, rfl⟩⟩
  obtain ⟨m, rfl⟩ : ∃ m, n = m + 27 + 1 + 1 + 1 := ⟨n - 30, by omega⟩
  have hb : ∀ b, b = hdr → Txt (m + 27 + 1 + 1) 4 [.tup [.str [117, 110, 97, 114, 121], .int i, .str [45], e], .bool b] [45, 97] := by
    rintro _ rfl
    exact bare_unary (ahead_ok (x := 97) (s := []) (h (m + 27) (by omega)) (by decide))
  exact expr_of (m := m + 27 + 1 + 1) (least := 0) (hdr := hdr) (k := [117, 110, 97, 114, 121]) (l := 6) rfl rfl lev_unary (hb _ (Bool.and_true hdr)) (by decide)

theorem floop_ok {body : VEnv → Sto → Option (Option D × VEnv × Sto)} {t : Tgt} {src : D} {all : List D} (Inv : Nat → VEnv → Sto → Prop) (hst : ∀ σ, stays src all σ = true)
    (step : ∀ i d ve σ, i < all.length → d ∈ all → Inv i ve σ → RunV (store t d ve) fun ve' => RunX (body ve' σ) fun r ve₁ σ₁ => r = none ∧ Inv (i + 1) ve₁ σ₁) :
    ∀ (rest : List D) (i : Nat) (ve : VEnv) (σ : Sto), (∀ d ∈ rest, d ∈ all) → i + rest.length = all.length → Inv i ve σ → RunX (floop body t src all rest ve σ) fun r ve' σ' => r = none ∧ Inv all.length ve' σ'
  | [], i, ve, σ, hm, hl, hv => by
    simp only [fl_nil, fl_cons, RunX]
    have : i = all.length := by simpa using hl
    exact ⟨trivial, this ▸ hv⟩
  | d :: rest, i, ve, σ, hm, hl, hv => by
    simp only [List.length_cons] at hl
    have h := step i d ve σ (by omega) (hm d (List.mem_cons_self ..)) hv
    simp only [fl_nil, fl_cons]
    cases hs : store t d ve with
    | none => rw [hs] at h; exact h.elim
    | some ve' =>
      rw [hs] at h
      dsimp only
      have h' : RunX (body ve' σ) fun r ve₁ σ₁ => r = none ∧ Inv (i + 1) ve₁ σ₁ := h
      obtain ⟨r, ve₁, σ₁, e, rfl, h2⟩ := h'.out
      rw [e]
      dsimp only
      rw [if_pos (hst σ₁)]
      exact floop_ok Inv hst step rest (i + 1) ve₁ σ₁ (fun d hd => hm d (List.mem_cons_of_mem _ hd)) (by omega) h2
theorem rng_items {n : Nat} {σ : Sto} (h : n ≤ 1000) : itemsOf (.rng n) σ = some ((List.range n).map fun (i : Nat) => D.int i) := by
  show (if n ≤ 1000 then _ else _) = _
  rw [if_pos h]
theorem All2.snoc {α β : Type} {R : α → β → Prop} {a : α} {b : β} : ∀ {l : List α} {r : List β}, All2 R l r → R a b → All2 R (l ++ [a]) (r ++ [b])
  | [], r, h, hr => by unfold All2 at h; subst h; exact ⟨b, [], rfl, hr, rfl⟩
  | x :: l, r, h, hr => by
    unfold All2 at h
    obtain ⟨y, r', rfl, h1, h2⟩ := h
    exact ⟨y, r' ++ [b], rfl, h1, All2.snoc h2 hr⟩
theorem All2.imp {α β : Type} {R R' : α → β → Prop} (hf : ∀ a b, R a b → R' a b) : ∀ {l : List α} {r : List β}, All2 R l r → All2 R' l r
  | [], r, h => h
  | x :: l, r, h => by
    unfold All2 at h ⊢
    obtain ⟨y, r', rfl, h1, h2⟩ := h
    exact ⟨y, r', rfl, hf _ _ h1, All2.imp hf h2⟩
theorem All2.right {α β : Type} {R : α → β → Prop} : ∀ {l : List α} {r : List β}, All2 R l r → ∀ y ∈ r, ∃ x, R x y
  | [], r, h, y, hy => by unfold All2 at h; subst h; cases hy
  | x :: l, r, h, y, hy => by
    unfold All2 at h
    obtain ⟨z, r', rfl, h1, h2⟩ := h
    rcases List.mem_cons.mp hy with rfl | hy
    · exact ⟨x, h1⟩
    · exact All2.right h2 y hy
theorem run_append_ref {r : Nat} {x : D} {l : List D} {σ : Sto} {P : D → Sto → Prop} (h : σ[r]? = some l) (hl : l.length < sizeCap) : RunO (opAppend (.ref r) x σ) P = P .none (σ.set r (l ++ [x])) := by
  rw [append_ref h hl]; rfl

theorem tuple_ref {r : Nat} {l : List D} {σ : Sto} {P : D → Sto → Prop} (h : σ[r]? = some l) : RunO (opBi .tuple [.ref r] σ) P = (l.length ≤ sizeCap ∧ P (.tup l) σ) := by
  show RunO (match σ[r]? with | some l => if l.length ≤ sizeCap then some (.tup l, σ) else none | _ => none) P = _
  rw [h]
  dsimp only
  split
  · rename_i h; simp [h, RunO]
  · rename_i h; simp [h, RunO]

theorem sh_call {i : Int} {base arg : D} {hdr : Bool} (h : ∀ n, 10 ≤ n → Txt n 2 [base, .int 7, .bool hdr] [98]) (h2 : ∀ n, 10 ≤ n → Txt n 2 [arg, .int 0, .bool false] [97]) : Sh (.tup [.str [99, 97, 108, 108], .int i, base, .tup [arg], .bool false]) 0 hdr [98, 40, 97, 41] := by
  refine ⟨fun n hn => ?_, by decide, ⟨_, rfl⟩⟩
  obtain ⟨m, rfl⟩ : ∃ m, n = m + 26 + 1 + 1 + 1 + 1 := ⟨n - 30, by omega⟩
  have hb : ∀ b, b = hdr → Txt (m + 26 + 1 + 1 + 1) 4 [.tup [.str [99, 97, 108, 108], .int i, base, .tup [arg], .bool false], .bool b] [98, 40, 97, 41] := by
    rintro _ rfl
    exact bare_call (h (m + 26 + 1 + 1) (by omega)) (behind_call (f := false) (exprs_d (exprs_tup (es := [arg]) (xs := [[97]]) (show All2 _ _ _ from ⟨_, [], rfl, h2 (m + 26) (by omega), rfl⟩) (by simp) (by decide))) (by decide))
  exact expr_of (m := m + 26 + 1 + 1 + 1) (least := 0) (hdr := hdr) (k := [99, 97, 108, 108]) (l := 7) rfl rfl (lev_tight rfl rfl rfl rfl) (hb _ (Bool.and_true hdr)) (by decide)
theorem len_script {l : List Int} {σ : Sto} {P : D → Sto → Prop} : RunO (opBi .len [.script l] σ) P = (l.length ≤ sizeCap ∧ P (.int l.length) σ) := by
  show RunO (if l.length ≤ sizeCap then some (.int l.length, σ) else none) P = _
  split
  · rename_i h; simp [h, RunO]
  · rename_i h; simp [h, RunO]
theorem item_script {x : Int} {l : List Int} {σ : Sto} {P : D → Sto → Prop} : RunO (opItem (.script (x :: l)) (.int 0) σ) P = P (.int x) σ := rfl
theorem max_int {a b : Int} {σ : Sto} {P : D → Sto → Prop} : RunO (opBi .max [.int a, .int b] σ) P = P (.int (if a < b then b else a)) σ := rfl
theorem pow_int {σ : Sto} {P : D → Sto → Prop} : RunO (opBin .pow (.int 10) (.int 18) σ) P = P (.int (10 ^ 18)) σ := rfl

theorem pool_ok {n : Nat} {zs : List Int} {σ : Sto} (hn : 1 ≤ n) (hz : zs.length ≤ 63) : RunO (C2 n 21 [.script zs] σ) fun d σ' => ∃ r, d = .ref r ∧ σ.length ≤ r ∧ Src r σ' ∧ Gs [] σ σ' := by
  obtain ⟨m, rfl⟩ : ∃ m, n = m + 1 := ⟨n - 1, by omega⟩
  refine call_fn (fd := G2_21) (ve := [some _, none, none]) rfl rfl ?_
  unfold G2_21
  have mix : ∀ g : Int, 0 ≤ g → ∀ Q : Int → Prop, (∀ b : Int, 0 ≤ b → b < 2147483647 → Q b) →
      0 ≤ g ∧ (smallInt (g % 2147483629 + 197) = true ∧ smallInt 48271 = true) ∧ 0 ≤ (g % 2147483629 + 197) * 48271 ∧ Q ((g % 2147483629 + 197) * 48271 % 2147483647) := by
    intro g g0 Q hQ
    have e0 : 0 ≤ g % 2147483629 := Int.emod_nonneg _ (by omega)
    have e1 : g % 2147483629 < 2147483629 := Int.emod_lt_of_pos _ (by omega)
    exact ⟨g0, ⟨smallInt_of (by omega) (by omega), by decide⟩, by omega, hQ _ (Int.emod_nonneg _ (by omega)) (Int.emod_lt_of_pos _ (by omega))⟩
  have fin : ∀ a b : Int, 0 ≤ a → 0 ≤ b → b < 2147483647 → ∃ r, D.ref σ.length = .ref r ∧ σ.length ≤ r ∧ Src r (σ ++ [[.int a, .int b]]) ∧ Gs [] σ (σ ++ [[.int a, .int b]]) :=
    fun a b h1 h2 h3 => ⟨_, rfl, Nat.le_refl _, ⟨a, b, get_new, h1, h2, h3⟩, Gs.app⟩
  cases zs with
  | nil =>
    have e : decide ((0 : Int) > 0) = false := rfl
    simp only [Z1i, Z28, Z1r, Z23, Z26, Z1g, Z1b, Z21, Z1z, Z1y, Z1q, Z1e, Z1s, Z1c, Z1k, Z24, Z1f, Z1d, Z27, Z1u, Z1h, Z0z, Z6, Z7, Z5, Z4, Z0v, Z0u, Z0w, Z11, Z0x, Z10, Z0y, Z0j, Z0i, Zh, Zg, Ze, Zd, Zf, Z19, Z1a, Z13, Z14, Z18, Z17, Z16, Z15, Z0k, Z0l, Z0m, Z0n, Z0o, Z0p, Z0q, Z0r, Z0t, Z0s, w_add_str, w_add_int, w_add_ref, Z25, Z1x, Z1w, Z1j, Z22, w_eq_str, w_ne_str, w_eq_int, w_ne_int, w_eq_ref, Z1o, Z1p, Z1v, Z1t, Z1m, Z1l, Z1n, Z20, b_and_t, b_and_f, b_or_t, b_or_f, b_not_t, b_not_f, Z1, Z0, Z2, Z3, Z9, Zc, Zb, Z8, Za, Nat.reduceBEq, Int.reduceBEq, Int.reduceAdd, Int.reduceSub, Int.reduceNeg, Option.getD_some, Option.getD_none, item_0, item_1, item_2, item_3, item_4, item_5, item_6, notin_tup, in_tup, in_str, strsOf_nil, strsOf_cons, str_7, len_str, len_ref, range_int, List.any_cons, List.any_nil, Bool.or_false, Bool.false_or, Bool.or_true, Bool.true_or, Bool.true_and, Bool.false_and, Bool.and_true, Bool.and_false, Bool.not_true, Bool.not_false, List.contains_cons, List.contains_nil, beq_self_eq_true, true_and, and_true, Int.reduceEq, Int.reduceLT, Int.reduceLE, decide_true, decide_false, List.length_cons, List.length_nil, Nat.reduceAdd, Nat.reduceLeDiff, eq_self, len_script, Int.ofNat_zero, Int.natCast_zero, e, max_int, pow_int]
    have g0 : 0 ≤ (if False then (-1 : Int) else 0) := by decide
    refine ⟨by decide, ?_⟩
    rw [onBool_dec]
    generalize (if False then (-1 : Int) else 0) = g at g0 ⊢
    split
    · exact mix g g0 (fun b => ∃ r, D.ref σ.length = .ref r ∧ σ.length ≤ r ∧ Src r (σ ++ [[.int g, .int b]]) ∧ Gs [] σ (σ ++ [[.int g, .int b]])) fun b h1 h2 => fin _ b g0 h1 h2
    · exact mix g g0 (fun b => ∃ r, D.ref σ.length = .ref r ∧ σ.length ≤ r ∧ Src r (σ ++ [[.int 0, .int b]]) ∧ Gs [] σ (σ ++ [[.int 0, .int b]])) fun b h1 h2 => fin _ b (by decide) h1 h2
  | cons z zs =>
    have e : decide (((zs.length + 1 : Nat) : Int) > 0) = true := by rw [decide_eq_true_eq]; omega
    simp only [Z1i, Z28, Z1r, Z23, Z26, Z1g, Z1b, Z21, Z1z, Z1y, Z1q, Z1e, Z1s, Z1c, Z1k, Z24, Z1f, Z1d, Z27, Z1u, Z1h, Z0z, Z6, Z7, Z5, Z4, Z0v, Z0u, Z0w, Z11, Z0x, Z10, Z0y, Z0j, Z0i, Zh, Zg, Ze, Zd, Zf, Z19, Z1a, Z13, Z14, Z18, Z17, Z16, Z15, Z0k, Z0l, Z0m, Z0n, Z0o, Z0p, Z0q, Z0r, Z0t, Z0s, w_add_str, w_add_int, w_add_ref, Z25, Z1x, Z1w, Z1j, Z22, w_eq_str, w_ne_str, w_eq_int, w_ne_int, w_eq_ref, Z1o, Z1p, Z1v, Z1t, Z1m, Z1l, Z1n, Z20, b_and_t, b_and_f, b_or_t, b_or_f, b_not_t, b_not_f, Z1, Z0, Z2, Z3, Z9, Zc, Zb, Z8, Za, Nat.reduceBEq, Int.reduceBEq, Int.reduceAdd, Int.reduceSub, Int.reduceNeg, Option.getD_some, Option.getD_none, item_0, item_1, item_2, item_3, item_4, item_5, item_6, notin_tup, in_tup, in_str, strsOf_nil, strsOf_cons, str_7, len_str, len_ref, range_int, List.any_cons, List.any_nil, Bool.or_false, Bool.false_or, Bool.or_true, Bool.true_or, Bool.true_and, Bool.false_and, Bool.and_true, Bool.and_false, Bool.not_true, Bool.not_false, List.contains_cons, List.contains_nil, beq_self_eq_true, true_and, and_true, Int.reduceEq, Int.reduceLT, Int.reduceLE, decide_true, decide_false, List.length_cons, List.length_nil, Nat.reduceAdd, Nat.reduceLeDiff, eq_self, len_script, e, max_int, pow_int, item_script]
    have g0 : 0 ≤ (if z < -1 - z then -1 - z else z) := by split <;> omega
    refine ⟨by simp only [List.length_cons] at hz; unfold sizeCap; omega, ?_⟩
    rw [onBool_dec]
    generalize (if z < -1 - z then -1 - z else z) = g at g0 ⊢
    split
    · exact mix g g0 (fun b => ∃ r, D.ref σ.length = .ref r ∧ σ.length ≤ r ∧ Src r (σ ++ [[.int g, .int b]]) ∧ Gs [] σ (σ ++ [[.int g, .int b]])) fun b h1 h2 => fin _ b g0 h1 h2
    · exact mix g g0 (fun b => ∃ r, D.ref σ.length = .ref r ∧ σ.length ≤ r ∧ Src r (σ ++ [[.int 0, .int b]]) ∧ Gs [] σ (σ ++ [[.int 0, .int b]])) fun b h1 h2 => fin _ b (by decide) h1 h2

theorem add_ref {x y : Nat} {l r : List D} {σ : Sto} {P : D → Sto → Prop} (h1 : σ[x]? = some l) (h2 : σ[y]? = some r) (hl : l.length + r.length ≤ sizeCap) : RunO (opBin .add (.ref x) (.ref y) σ) P = P (.ref σ.length) (σ ++ [l ++ r]) := by
  show RunO (match σ[x]?, σ[y]? with
    | some l, some r => if l.length + r.length ≤ sizeCap then some (.ref σ.length, σ ++ [l ++ r]) else none
    | _, _ => none) P = _
  rw [h1, h2]
  dsimp only
  rw [if_pos hl]
  rfl
end Mine
end

section
open PySem
namespace Mine
/-- an expression beside its text -/
structure Ex (e : D) (t : List Nat) : Prop where
  sh : ∀ hdr, Sh e 0 hdr t
  len : t.length ≤ 5
  row : 10 ∉ t
theorem ex_a : Ex (nameD 3 [97]) [97] := ⟨fun _ => sh_name (by omega) (by decide) (by decide), by decide, by decide⟩
theorem ex_7 : Ex (.tup [.str [105, 110, 116], .int 5, .int 7]) [55] := ⟨fun _ => sh_int, by decide, by decide⟩
theorem ex_call : Ex (.tup [.str [99, 97, 108, 108], .int 6, nameD 4 [98], .tup [nameD 3 [97]], .bool false]) [98, 40, 97, 41] := ⟨fun _ => sh_call (name_txt (by decide) (by decide)) (name_txt (by decide) (by decide)), by decide, by decide⟩
theorem ex_neg : Ex (.tup [.str [117, 110, 97, 114, 121], .int 2, .str [45], nameD 3 [97]]) [45, 97] := ⟨fun _ => sh_neg (name_txt (by decide) (by decide)), by decide, by decide⟩
theorem ex_add : Ex (.tup [.str [98, 105, 110, 97, 114, 121], .int 3, .str [43], nameD 3 [97], nameD 4 [98]]) [97, 32, 43, 32, 98] := ⟨fun _ => sh_add (name_txt (by decide) (by decide)) (name_txt (by decide) (by decide)), by decide, by decide⟩

noncomputable def ExGen (src : Nat) (σ : Sto) (d : D) (σ' : Sto) : Prop := ∃ e t, d = .tup [e, .str t] ∧ Ex e t ∧ Go src σ σ'
theorem expr_gen {src n : Nat} {σ : Sto} (hn : 4 ≤ n) (hs : Src src σ) : RunO (C2 n 24 [.ref src] σ) (ExGen src σ) := by
  obtain ⟨m, rfl⟩ : ∃ m, n = m + 1 := ⟨n - 1, by omega⟩
  refine call_fn (fd := G2_24) (ve := [some _, none, none]) rfl rfl ?_
  unfold G2_24
  dsimp only [Z1i, Z28, Z1r, Z23, Z26, Z1g, Z1b, Z21, Z1z, Z1y, Z1q, Z1e, Z1s, Z1c, Z1k, Z24, Z1f, Z1d, Z27, Z1u, Z1h, Z0z, Z6, Z7, Z5, Z4, Z0v, Z0u, Z0w, Z11, Z0x, Z10, Z0y, Z0j, Z0i, Zh, Zg, Ze, Zd, Zf, Z19, Z1a, Z13, Z14, Z18, Z17, Z16, Z15, Z0k, Z0l, Z0m, Z0n, Z0o, Z0p, Z0q, Z0r, Z0t, Z0s, w_add_str, w_add_int, w_add_ref, Z25, Z1x, Z1w, Z1j, Z22, w_eq_str, w_ne_str, w_eq_int, w_ne_int, w_eq_ref, Z1o, Z1p, Z1v, Z1t, Z1m, Z1l, Z1n, Z20, b_and_t, b_and_f, b_or_t, b_or_f, b_not_t, b_not_f, Z1, Z0, Z2, Z3, Z9, Zc, Zb, Z8, Za, Nat.reduceBEq, Int.reduceBEq, Int.reduceAdd, Int.reduceSub, Int.reduceNeg, Option.getD_some, Option.getD_none]
  refine (one_new (by omega) hs (by decide) (by decide)).mono ?_
  rintro d σ' ⟨hd, hg⟩
  simp only [List.mem_cons, List.not_mem_nil, or_false] at hd
  rcases hd with rfl | rfl | rfl | rfl | rfl
  · exact ⟨_, _, rfl, ex_a, hg⟩
  · exact ⟨_, _, rfl, ex_7, hg⟩
  · exact ⟨_, _, rfl, ex_call, hg⟩
  · exact ⟨_, _, rfl, ex_neg, hg⟩
  · exact ⟨_, _, rfl, ex_add, hg⟩

/-- one or two expressions beside their text -/
structure Exs (es : D) (t : List Nat) : Prop where
  run : ∀ n hdr, 50 ≤ n → Txt n 3 [es, .bool hdr] t
  len : t.length ≤ 12
  row : 10 ∉ t
  some : ∃ l, es = .tup l ∧ l ≠ []
theorem exs_one {e : D} {t : List Nat} (h : Ex e t) : Exs (.tup [e]) t := by
  have := h.len
  refine ⟨fun n hdr hn => ?_, by omega, h.row, ⟨_, rfl, by simp⟩⟩
  obtain ⟨m, rfl⟩ : ∃ m, n = m + 1 := ⟨n - 1, by omega⟩
  exact exprs_tup (xs := [t]) ⟨t, [], rfl, (h.sh hdr).run m (by omega), rfl⟩ (by simp) (by simp [joinL]; omega)
theorem exs_two {e e' : D} {t t' : List Nat} (h : Ex e t) (h' : Ex e' t') : Exs (.tup [e, e']) (t ++ [44, 32] ++ t') := by
  have := h.len
  have := h'.len
  refine ⟨fun n hdr hn => ?_, by simp; omega, ?_, ⟨_, rfl, by simp⟩⟩
  · obtain ⟨m, rfl⟩ : ∃ m, n = m + 1 := ⟨n - 1, by omega⟩
    exact exprs_tup (xs := [t, t']) ⟨t, _, rfl, (h.sh hdr).run m (by omega), t', [], rfl, (h'.sh hdr).run m (by omega), rfl⟩ (by simp) (by simp [joinL]; omega)
  · have h1 := h.row
    have h2 := h'.row
    simp [h1, h2]
noncomputable def ExsGen (src : Nat) (σ : Sto) (d : D) (σ' : Sto) : Prop := ∃ e t, d = .tup [e, .str t] ∧ Exs e t ∧ Go src σ σ'
theorem exprs_gen {src n : Nat} {σ : Sto} (hn : 6 ≤ n) (hs : Src src σ) : RunO (C2 n 25 [.ref src] σ) (ExsGen src σ) := by
  obtain ⟨m, rfl⟩ : ∃ m, n = m + 1 := ⟨n - 1, by omega⟩
  refine call_fn (fd := G2_25) (ve := [some _, none, none]) rfl rfl ?_
  unfold G2_25
  dsimp only [Z1i, Z28, Z1r, Z23, Z26, Z1g, Z1b, Z21, Z1z, Z1y, Z1q, Z1e, Z1s, Z1c, Z1k, Z24, Z1f, Z1d, Z27, Z1u, Z1h, Z0z, Z6, Z7, Z5, Z4, Z0v, Z0u, Z0w, Z11, Z0x, Z10, Z0y, Z0j, Z0i, Zh, Zg, Ze, Zd, Zf, Z19, Z1a, Z13, Z14, Z18, Z17, Z16, Z15, Z0k, Z0l, Z0m, Z0n, Z0o, Z0p, Z0q, Z0r, Z0t, Z0s, w_add_str, w_add_int, w_add_ref, Z25, Z1x, Z1w, Z1j, Z22, w_eq_str, w_ne_str, w_eq_int, w_ne_int, w_eq_ref, Z1o, Z1p, Z1v, Z1t, Z1m, Z1l, Z1n, Z20, b_and_t, b_and_f, b_or_t, b_or_f, b_not_t, b_not_f, Z1, Z0, Z2, Z3, Z9, Zc, Zb, Z8, Za, Nat.reduceBEq, Int.reduceBEq, Int.reduceAdd, Int.reduceSub, Int.reduceNeg, Option.getD_some, Option.getD_none]
  refine (expr_gen (by omega) hs).mono ?_
  rintro _ σ₁ ⟨e, t, rfl, h1, g1⟩
  refine (expr_gen (by omega) g1.2).mono ?_
  rintro _ σ₂ ⟨e', t', rfl, h2, g2⟩
  have l1 := h1.len
  have l2 := h2.len
  dsimp only [Z1i, Z28, Z1r, Z23, Z26, Z1g, Z1b, Z21, Z1z, Z1y, Z1q, Z1e, Z1s, Z1c, Z1k, Z24, Z1f, Z1d, Z27, Z1u, Z1h, Z0z, Z6, Z7, Z5, Z4, Z0v, Z0u, Z0w, Z11, Z0x, Z10, Z0y, Z0j, Z0i, Zh, Zg, Ze, Zd, Zf, Z19, Z1a, Z13, Z14, Z18, Z17, Z16, Z15, Z0k, Z0l, Z0m, Z0n, Z0o, Z0p, Z0q, Z0r, Z0t, Z0s, w_add_str, w_add_int, w_add_ref, Z25, Z1x, Z1w, Z1j, Z22, w_eq_str, w_ne_str, w_eq_int, w_ne_int, w_eq_ref, Z1o, Z1p, Z1v, Z1t, Z1m, Z1l, Z1n, Z20, b_and_t, b_and_f, b_or_t, b_or_f, b_not_t, b_not_f, Z1, Z0, Z2, Z3, Z9, Zc, Zb, Z8, Za, Nat.reduceBEq, Int.reduceBEq, Int.reduceAdd, Int.reduceSub, Int.reduceNeg, Option.getD_some, Option.getD_none]
  refine (take_ok (by omega) g2.2 (by omega) (by omega)).mono ?_
  rintro _ σ₃ ⟨u, rfl, u0, u1, g3⟩
  have g := (g1.trans g2).trans g3
  by_cases hz : u = 0
  · simp only [Z1i, Z28, Z1r, Z23, Z26, Z1g, Z1b, Z21, Z1z, Z1y, Z1q, Z1e, Z1s, Z1c, Z1k, Z24, Z1f, Z1d, Z27, Z1u, Z1h, Z0z, Z6, Z7, Z5, Z4, Z0v, Z0u, Z0w, Z11, Z0x, Z10, Z0y, Z0j, Z0i, Zh, Zg, Ze, Zd, Zf, Z19, Z1a, Z13, Z14, Z18, Z17, Z16, Z15, Z0k, Z0l, Z0m, Z0n, Z0o, Z0p, Z0q, Z0r, Z0t, Z0s, w_add_str, w_add_int, w_add_ref, Z25, Z1x, Z1w, Z1j, Z22, w_eq_str, w_ne_str, w_eq_int, w_ne_int, w_eq_ref, Z1o, Z1p, Z1v, Z1t, Z1m, Z1l, Z1n, Z20, b_and_t, b_and_f, b_or_t, b_or_f, b_not_t, b_not_f, Z1, Z0, Z2, Z3, Z9, Zc, Zb, Z8, Za, Nat.reduceBEq, Int.reduceBEq, Int.reduceAdd, Int.reduceSub, Int.reduceNeg, Option.getD_some, Option.getD_none, item_0, item_1, item_2, item_3, item_4, item_5, item_6, notin_tup, in_tup, in_str, strsOf_nil, strsOf_cons, str_7, len_str, len_ref, range_int, List.any_cons, List.any_nil, Bool.or_false, Bool.false_or, Bool.or_true, Bool.true_or, Bool.true_and, Bool.false_and, Bool.and_true, Bool.and_false, Bool.not_true, Bool.not_false, List.contains_cons, List.contains_nil, beq_self_eq_true, true_and, and_true, Int.reduceEq, Int.reduceLT, Int.reduceLE, decide_true, decide_false, List.length_cons, List.length_nil, Nat.reduceAdd, Nat.reduceLeDiff, eq_self, hz]
    exact ⟨_, _, rfl, exs_one h1, g⟩
  · dsimp only [Z1i, Z28, Z1r, Z23, Z26, Z1g, Z1b, Z21, Z1z, Z1y, Z1q, Z1e, Z1s, Z1c, Z1k, Z24, Z1f, Z1d, Z27, Z1u, Z1h, Z0z, Z6, Z7, Z5, Z4, Z0v, Z0u, Z0w, Z11, Z0x, Z10, Z0y, Z0j, Z0i, Zh, Zg, Ze, Zd, Zf, Z19, Z1a, Z13, Z14, Z18, Z17, Z16, Z15, Z0k, Z0l, Z0m, Z0n, Z0o, Z0p, Z0q, Z0r, Z0t, Z0s, w_add_str, w_add_int, w_add_ref, Z25, Z1x, Z1w, Z1j, Z22, w_eq_str, w_ne_str, w_eq_int, w_ne_int, w_eq_ref, Z1o, Z1p, Z1v, Z1t, Z1m, Z1l, Z1n, Z20, b_and_t, b_and_f, b_or_t, b_or_f, b_not_t, b_not_f, Z1, Z0, Z2, Z3, Z9, Zc, Zb, Z8, Za, Nat.reduceBEq, Int.reduceBEq, Int.reduceAdd, Int.reduceSub, Int.reduceNeg, Option.getD_some, Option.getD_none]
    rw [beq_eq_false_iff_ne.mpr hz]
    dsimp only [Z1i, Z28, Z1r, Z23, Z26, Z1g, Z1b, Z21, Z1z, Z1y, Z1q, Z1e, Z1s, Z1c, Z1k, Z24, Z1f, Z1d, Z27, Z1u, Z1h, Z0z, Z6, Z7, Z5, Z4, Z0v, Z0u, Z0w, Z11, Z0x, Z10, Z0y, Z0j, Z0i, Zh, Zg, Ze, Zd, Zf, Z19, Z1a, Z13, Z14, Z18, Z17, Z16, Z15, Z0k, Z0l, Z0m, Z0n, Z0o, Z0p, Z0q, Z0r, Z0t, Z0s, w_add_str, w_add_int, w_add_ref, Z25, Z1x, Z1w, Z1j, Z22, w_eq_str, w_ne_str, w_eq_int, w_ne_int, w_eq_ref, Z1o, Z1p, Z1v, Z1t, Z1m, Z1l, Z1n, Z20, b_and_t, b_and_f, b_or_t, b_or_f, b_not_t, b_not_f, Z1, Z0, Z2, Z3, Z9, Zc, Zb, Z8, Za, Nat.reduceBEq, Int.reduceBEq, Int.reduceAdd, Int.reduceSub, Int.reduceNeg, Option.getD_some, Option.getD_none]
    exact ⟨by first | (apply cap2; (case h1 => repeat' first | assumption | apply app_le | apply nil_le | apply cons_le); (case h2 => repeat' first | assumption | apply app_le | apply nil_le | apply cons_le); decide) | (apply cap1; (case h1 => repeat' first | assumption | apply app_le | apply nil_le | apply cons_le); decide) | (simp [sizeCap]; omega) | (unfold sizeCap; omega), by first | (apply cap2; (case h1 => repeat' first | assumption | apply app_le | apply nil_le | apply cons_le); (case h2 => repeat' first | assumption | apply app_le | apply nil_le | apply cons_le); decide) | (apply cap1; (case h1 => repeat' first | assumption | apply app_le | apply nil_le | apply cons_le); decide) | (simp [sizeCap]; omega) | (unfold sizeCap; omega), _, _, rfl, exs_two h1 h2, g⟩
end Mine
end

section
open PySem
namespace Mine
/-- a simple statement beside its row -/
structure Sim (tree : D) (t : List Nat) : Prop where
  run : ∀ n hdr, 60 ≤ n → Txt n 14 [tree, .bool hdr] t
  len : t.length ≤ 40
  row : 10 ∉ t
  kind : ∃ kk rest, tree = .tup (.str kk :: rest) ∧ (kk = [101, 120, 112, 114] ∨ kk = [115, 101, 110, 100] ∨ kk = [115, 116, 101, 112] ∨ kk = [97, 115, 115, 105, 103, 110] ∨ kk = [100, 101, 102, 105, 110, 101])
  ne : t ≠ []
theorem sim_expr {i : Int} {e : D} {t : List Nat} (h : Ex e t) : Sim (.tup [.str [101, 120, 112, 114], .int i, e]) t := by
  have := h.len
  refine ⟨fun n hdr hn σ => ?_, by omega, h.row, ⟨_, _, rfl, .inl rfl⟩, (h.sh false).ne⟩
  obtain ⟨m, rfl⟩ : ∃ m, n = m + 1 := ⟨n - 1, by omega⟩
  refine call_fn (fd := G2_14) (ve := [some _, some _, none, none]) rfl rfl ?_
  unfold G2_14
  dsimp only [Z1i, Z28, Z1r, Z23, Z26, Z1g, Z1b, Z21, Z1z, Z1y, Z1q, Z1e, Z1s, Z1c, Z1k, Z24, Z1f, Z1d, Z27, Z1u, Z1h, Z0z, Z6, Z7, Z5, Z4, Z0v, Z0u, Z0w, Z11, Z0x, Z10, Z0y, Z0j, Z0i, Zh, Zg, Ze, Zd, Zf, Z19, Z1a, Z13, Z14, Z18, Z17, Z16, Z15, Z0k, Z0l, Z0m, Z0n, Z0o, Z0p, Z0q, Z0r, Z0t, Z0s, w_add_str, w_add_int, w_add_ref, Z25, Z1x, Z1w, Z1j, Z22, w_eq_str, w_ne_str, w_eq_int, w_ne_int, w_eq_ref, Z1o, Z1p, Z1v, Z1t, Z1m, Z1l, Z1n, Z20, b_and_t, b_and_f, b_or_t, b_or_f, b_not_t, b_not_f, Z1, Z0, Z2, Z3, Z9, Zc, Zb, Z8, Za, Nat.reduceBEq, Int.reduceBEq, Int.reduceAdd, Int.reduceSub, Int.reduceNeg, Option.getD_some, Option.getD_none]
  exact (h.sh hdr).run m (by omega) σ
theorem sim_send {i : Int} {e e' : D} {t t' : List Nat} (h : Ex e t) (h' : Ex e' t') : Sim (.tup [.str [115, 101, 110, 100], .int i, e, e']) (t ++ [32, 60, 45, 32] ++ t') := by
  have l1 := h.len
  have l2 := h'.len
  have r1 := h.row
  have r2 := h'.row
  refine ⟨fun n hdr hn σ => ?_, by simp; omega, by simp [r1, r2], ⟨_, _, rfl, .inr (.inl rfl)⟩, by simp⟩
  obtain ⟨m, rfl⟩ : ∃ m, n = m + 1 := ⟨n - 1, by omega⟩
  refine call_fn (fd := G2_14) (ve := [some _, some _, none, none]) rfl rfl ?_
  unfold G2_14
  dsimp only [Z1i, Z28, Z1r, Z23, Z26, Z1g, Z1b, Z21, Z1z, Z1y, Z1q, Z1e, Z1s, Z1c, Z1k, Z24, Z1f, Z1d, Z27, Z1u, Z1h, Z0z, Z6, Z7, Z5, Z4, Z0v, Z0u, Z0w, Z11, Z0x, Z10, Z0y, Z0j, Z0i, Zh, Zg, Ze, Zd, Zf, Z19, Z1a, Z13, Z14, Z18, Z17, Z16, Z15, Z0k, Z0l, Z0m, Z0n, Z0o, Z0p, Z0q, Z0r, Z0t, Z0s, w_add_str, w_add_int, w_add_ref, Z25, Z1x, Z1w, Z1j, Z22, w_eq_str, w_ne_str, w_eq_int, w_ne_int, w_eq_ref, Z1o, Z1p, Z1v, Z1t, Z1m, Z1l, Z1n, Z20, b_and_t, b_and_f, b_or_t, b_or_f, b_not_t, b_not_f, Z1, Z0, Z2, Z3, Z9, Zc, Zb, Z8, Za, Nat.reduceBEq, Int.reduceBEq, Int.reduceAdd, Int.reduceSub, Int.reduceNeg, Option.getD_some, Option.getD_none]
  refine ((h.sh hdr).run m (by omega) σ).mono ?_
  rintro _ σ₁ ⟨rfl, g1⟩
  dsimp only [Z1i, Z28, Z1r, Z23, Z26, Z1g, Z1b, Z21, Z1z, Z1y, Z1q, Z1e, Z1s, Z1c, Z1k, Z24, Z1f, Z1d, Z27, Z1u, Z1h, Z0z, Z6, Z7, Z5, Z4, Z0v, Z0u, Z0w, Z11, Z0x, Z10, Z0y, Z0j, Z0i, Zh, Zg, Ze, Zd, Zf, Z19, Z1a, Z13, Z14, Z18, Z17, Z16, Z15, Z0k, Z0l, Z0m, Z0n, Z0o, Z0p, Z0q, Z0r, Z0t, Z0s, w_add_str, w_add_int, w_add_ref, Z25, Z1x, Z1w, Z1j, Z22, w_eq_str, w_ne_str, w_eq_int, w_ne_int, w_eq_ref, Z1o, Z1p, Z1v, Z1t, Z1m, Z1l, Z1n, Z20, b_and_t, b_and_f, b_or_t, b_or_f, b_not_t, b_not_f, Z1, Z0, Z2, Z3, Z9, Zc, Zb, Z8, Za, Nat.reduceBEq, Int.reduceBEq, Int.reduceAdd, Int.reduceSub, Int.reduceNeg, Option.getD_some, Option.getD_none]
  refine ⟨by first | (apply cap2; (case h1 => repeat' first | assumption | apply app_le | apply nil_le | apply cons_le); (case h2 => repeat' first | assumption | apply app_le | apply nil_le | apply cons_le); decide) | (apply cap1; (case h1 => repeat' first | assumption | apply app_le | apply nil_le | apply cons_le); decide) | (simp [sizeCap]; omega) | (unfold sizeCap; omega), ?_⟩
  refine ((h'.sh hdr).run m (by omega) σ₁).mono ?_
  rintro _ σ₂ ⟨rfl, g2⟩
  dsimp only [Z1i, Z28, Z1r, Z23, Z26, Z1g, Z1b, Z21, Z1z, Z1y, Z1q, Z1e, Z1s, Z1c, Z1k, Z24, Z1f, Z1d, Z27, Z1u, Z1h, Z0z, Z6, Z7, Z5, Z4, Z0v, Z0u, Z0w, Z11, Z0x, Z10, Z0y, Z0j, Z0i, Zh, Zg, Ze, Zd, Zf, Z19, Z1a, Z13, Z14, Z18, Z17, Z16, Z15, Z0k, Z0l, Z0m, Z0n, Z0o, Z0p, Z0q, Z0r, Z0t, Z0s, w_add_str, w_add_int, w_add_ref, Z25, Z1x, Z1w, Z1j, Z22, w_eq_str, w_ne_str, w_eq_int, w_ne_int, w_eq_ref, Z1o, Z1p, Z1v, Z1t, Z1m, Z1l, Z1n, Z20, b_and_t, b_and_f, b_or_t, b_or_f, b_not_t, b_not_f, Z1, Z0, Z2, Z3, Z9, Zc, Zb, Z8, Za, Nat.reduceBEq, Int.reduceBEq, Int.reduceAdd, Int.reduceSub, Int.reduceNeg, Option.getD_some, Option.getD_none]
  exact ⟨by first | (apply cap2; (case h1 => repeat' first | assumption | apply app_le | apply nil_le | apply cons_le); (case h2 => repeat' first | assumption | apply app_le | apply nil_le | apply cons_le); decide) | (apply cap1; (case h1 => repeat' first | assumption | apply app_le | apply nil_le | apply cons_le); decide) | (simp [sizeCap]; omega) | (unfold sizeCap; omega), rfl, g1.trans g2⟩
theorem sim_step {i : Int} {e : D} {t s : List Nat} (h : Ex e t) (hs : s = [43, 43] ∨ s = [45, 45]) : Sim (.tup [.str [115, 116, 101, 112], .int i, e, .str s]) (t ++ s) := by
  have l1 := h.len
  have r1 := h.row
  have l2 : s.length = 2 := by rcases hs with rfl | rfl <;> rfl
  have r2 : 10 ∉ s := by rcases hs with rfl | rfl <;> decide
  refine ⟨fun n hdr hn σ => ?_, by simp; omega, by simp [r1, r2], ⟨_, _, rfl, .inr (.inr (.inl rfl))⟩, by have := (h.sh false).ne; simp [this]⟩
  obtain ⟨m, rfl⟩ : ∃ m, n = m + 1 := ⟨n - 1, by omega⟩
  refine call_fn (fd := G2_14) (ve := [some _, some _, none, none]) rfl rfl ?_
  unfold G2_14
  dsimp only [Z1i, Z28, Z1r, Z23, Z26, Z1g, Z1b, Z21, Z1z, Z1y, Z1q, Z1e, Z1s, Z1c, Z1k, Z24, Z1f, Z1d, Z27, Z1u, Z1h, Z0z, Z6, Z7, Z5, Z4, Z0v, Z0u, Z0w, Z11, Z0x, Z10, Z0y, Z0j, Z0i, Zh, Zg, Ze, Zd, Zf, Z19, Z1a, Z13, Z14, Z18, Z17, Z16, Z15, Z0k, Z0l, Z0m, Z0n, Z0o, Z0p, Z0q, Z0r, Z0t, Z0s, w_add_str, w_add_int, w_add_ref, Z25, Z1x, Z1w, Z1j, Z22, w_eq_str, w_ne_str, w_eq_int, w_ne_int, w_eq_ref, Z1o, Z1p, Z1v, Z1t, Z1m, Z1l, Z1n, Z20, b_and_t, b_and_f, b_or_t, b_or_f, b_not_t, b_not_f, Z1, Z0, Z2, Z3, Z9, Zc, Zb, Z8, Za, Nat.reduceBEq, Int.reduceBEq, Int.reduceAdd, Int.reduceSub, Int.reduceNeg, Option.getD_some, Option.getD_none]
  refine ((h.sh hdr).run m (by omega) σ).mono ?_
  rintro _ σ₁ ⟨rfl, g1⟩
  dsimp only [Z1i, Z28, Z1r, Z23, Z26, Z1g, Z1b, Z21, Z1z, Z1y, Z1q, Z1e, Z1s, Z1c, Z1k, Z24, Z1f, Z1d, Z27, Z1u, Z1h, Z0z, Z6, Z7, Z5, Z4, Z0v, Z0u, Z0w, Z11, Z0x, Z10, Z0y, Z0j, Z0i, Zh, Zg, Ze, Zd, Zf, Z19, Z1a, Z13, Z14, Z18, Z17, Z16, Z15, Z0k, Z0l, Z0m, Z0n, Z0o, Z0p, Z0q, Z0r, Z0t, Z0s, w_add_str, w_add_int, w_add_ref, Z25, Z1x, Z1w, Z1j, Z22, w_eq_str, w_ne_str, w_eq_int, w_ne_int, w_eq_ref, Z1o, Z1p, Z1v, Z1t, Z1m, Z1l, Z1n, Z20, b_and_t, b_and_f, b_or_t, b_or_f, b_not_t, b_not_f, Z1, Z0, Z2, Z3, Z9, Zc, Zb, Z8, Za, Nat.reduceBEq, Int.reduceBEq, Int.reduceAdd, Int.reduceSub, Int.reduceNeg, Option.getD_some, Option.getD_none]
  exact ⟨by first | (apply cap2; (case h1 => repeat' first | assumption | apply app_le | apply nil_le | apply cons_le); (case h2 => repeat' first | assumption | apply app_le | apply nil_le | apply cons_le); decide) | (apply cap1; (case h1 => repeat' first | assumption | apply app_le | apply nil_le | apply cons_le); decide) | (simp [sizeCap]; omega) | (unfold sizeCap; omega), rfl, g1⟩
theorem join_tup {sep : List Nat} {xs : List (List Nat)} {σ : Sto} {P : D → Sto → Prop} (hs : sep.length ≤ sizeCap) (hl : (joinL sep xs).length ≤ sizeCap) (hp : P (.str (joinL sep xs)) σ) : RunO (opJoin (.str sep) (.tup (xs.map D.str)) σ) P := by
  have e : ∀ xs : List (List Nat), strsOf (xs.map D.str) = some xs := by
    intro xs
    induction xs with
    | nil => rfl
    | cons x xs ih => rw [List.map_cons, strsOf_cons, ih]
  show RunO (match strsOf (xs.map D.str) with | some xs => if sep.length ≤ sizeCap then strOk (joinL sep xs) σ else none | _ => none) P
  rw [e]
  dsimp only
  rw [if_pos hs]
  unfold strOk
  rw [if_pos hl]
  exact hp
theorem sim_define {i : Int} {es : D} {t : List Nat} (h : Exs es t) : Sim (.tup [.str [100, 101, 102, 105, 110, 101], .int i, .tup [.str [120], .str [95]], es]) ([120, 44, 32, 95, 32, 58, 61, 32] ++ t) := by
  have l1 := h.len
  have r1 := h.row
  refine ⟨fun n hdr hn σ => ?_, by simp; omega, by simp [r1], ⟨_, _, rfl, .inr (.inr (.inr (.inr rfl)))⟩, by simp⟩
  obtain ⟨m, rfl⟩ : ∃ m, n = m + 1 := ⟨n - 1, by omega⟩
  refine call_fn (fd := G2_14) (ve := [some _, some _, none, none]) rfl rfl ?_
  unfold G2_14
  dsimp only [Z1i, Z28, Z1r, Z23, Z26, Z1g, Z1b, Z21, Z1z, Z1y, Z1q, Z1e, Z1s, Z1c, Z1k, Z24, Z1f, Z1d, Z27, Z1u, Z1h, Z0z, Z6, Z7, Z5, Z4, Z0v, Z0u, Z0w, Z11, Z0x, Z10, Z0y, Z0j, Z0i, Zh, Zg, Ze, Zd, Zf, Z19, Z1a, Z13, Z14, Z18, Z17, Z16, Z15, Z0k, Z0l, Z0m, Z0n, Z0o, Z0p, Z0q, Z0r, Z0t, Z0s, w_add_str, w_add_int, w_add_ref, Z25, Z1x, Z1w, Z1j, Z22, w_eq_str, w_ne_str, w_eq_int, w_ne_int, w_eq_ref, Z1o, Z1p, Z1v, Z1t, Z1m, Z1l, Z1n, Z20, b_and_t, b_and_f, b_or_t, b_or_f, b_not_t, b_not_f, Z1, Z0, Z2, Z3, Z9, Zc, Zb, Z8, Za, Nat.reduceBEq, Int.reduceBEq, Int.reduceAdd, Int.reduceSub, Int.reduceNeg, Option.getD_some, Option.getD_none]
  refine join_tup (xs := [[120], [95]]) (by decide) (by decide) ?_
  dsimp only [Z1i, Z28, Z1r, Z23, Z26, Z1g, Z1b, Z21, Z1z, Z1y, Z1q, Z1e, Z1s, Z1c, Z1k, Z24, Z1f, Z1d, Z27, Z1u, Z1h, Z0z, Z6, Z7, Z5, Z4, Z0v, Z0u, Z0w, Z11, Z0x, Z10, Z0y, Z0j, Z0i, Zh, Zg, Ze, Zd, Zf, Z19, Z1a, Z13, Z14, Z18, Z17, Z16, Z15, Z0k, Z0l, Z0m, Z0n, Z0o, Z0p, Z0q, Z0r, Z0t, Z0s, w_add_str, w_add_int, w_add_ref, Z25, Z1x, Z1w, Z1j, Z22, w_eq_str, w_ne_str, w_eq_int, w_ne_int, w_eq_ref, Z1o, Z1p, Z1v, Z1t, Z1m, Z1l, Z1n, Z20, b_and_t, b_and_f, b_or_t, b_or_f, b_not_t, b_not_f, Z1, Z0, Z2, Z3, Z9, Zc, Zb, Z8, Za, Nat.reduceBEq, Int.reduceBEq, Int.reduceAdd, Int.reduceSub, Int.reduceNeg, Option.getD_some, Option.getD_none]
  refine ⟨by decide, ?_⟩
  refine (h.run m hdr (by omega) σ).mono ?_
  rintro _ σ₁ ⟨rfl, g1⟩
  dsimp only [Z1i, Z28, Z1r, Z23, Z26, Z1g, Z1b, Z21, Z1z, Z1y, Z1q, Z1e, Z1s, Z1c, Z1k, Z24, Z1f, Z1d, Z27, Z1u, Z1h, Z0z, Z6, Z7, Z5, Z4, Z0v, Z0u, Z0w, Z11, Z0x, Z10, Z0y, Z0j, Z0i, Zh, Zg, Ze, Zd, Zf, Z19, Z1a, Z13, Z14, Z18, Z17, Z16, Z15, Z0k, Z0l, Z0m, Z0n, Z0o, Z0p, Z0q, Z0r, Z0t, Z0s, w_add_str, w_add_int, w_add_ref, Z25, Z1x, Z1w, Z1j, Z22, w_eq_str, w_ne_str, w_eq_int, w_ne_int, w_eq_ref, Z1o, Z1p, Z1v, Z1t, Z1m, Z1l, Z1n, Z20, b_and_t, b_and_f, b_or_t, b_or_f, b_not_t, b_not_f, Z1, Z0, Z2, Z3, Z9, Zc, Zb, Z8, Za, Nat.reduceBEq, Int.reduceBEq, Int.reduceAdd, Int.reduceSub, Int.reduceNeg, Option.getD_some, Option.getD_none]
  exact ⟨by simp [sizeCap, joinL]; omega, rfl, g1⟩
theorem sim_assign {i : Int} {s : List Nat} {es es' : D} {t t' : List Nat} (h : Exs es t) (h' : Exs es' t') (hs : s.length ≤ 3) (hr : 10 ∉ s) : Sim (.tup [.str [97, 115, 115, 105, 103, 110], .int i, .str s, es, es']) (t ++ [32] ++ s ++ [32] ++ t') := by
  have l1 := h.len
  have l2 := h'.len
  have r1 := h.row
  have r2 := h'.row
  refine ⟨fun n hdr hn σ => ?_, by simp; omega, by simp [r1, r2, hr], ⟨_, _, rfl, .inr (.inr (.inr (.inl rfl)))⟩, by simp⟩
  obtain ⟨m, rfl⟩ : ∃ m, n = m + 1 := ⟨n - 1, by omega⟩
  refine call_fn (fd := G2_14) (ve := [some _, some _, none, none]) rfl rfl ?_
  unfold G2_14
  dsimp only [Z1i, Z28, Z1r, Z23, Z26, Z1g, Z1b, Z21, Z1z, Z1y, Z1q, Z1e, Z1s, Z1c, Z1k, Z24, Z1f, Z1d, Z27, Z1u, Z1h, Z0z, Z6, Z7, Z5, Z4, Z0v, Z0u, Z0w, Z11, Z0x, Z10, Z0y, Z0j, Z0i, Zh, Zg, Ze, Zd, Zf, Z19, Z1a, Z13, Z14, Z18, Z17, Z16, Z15, Z0k, Z0l, Z0m, Z0n, Z0o, Z0p, Z0q, Z0r, Z0t, Z0s, w_add_str, w_add_int, w_add_ref, Z25, Z1x, Z1w, Z1j, Z22, w_eq_str, w_ne_str, w_eq_int, w_ne_int, w_eq_ref, Z1o, Z1p, Z1v, Z1t, Z1m, Z1l, Z1n, Z20, b_and_t, b_and_f, b_or_t, b_or_f, b_not_t, b_not_f, Z1, Z0, Z2, Z3, Z9, Zc, Zb, Z8, Za, Nat.reduceBEq, Int.reduceBEq, Int.reduceAdd, Int.reduceSub, Int.reduceNeg, Option.getD_some, Option.getD_none]
  refine (h.run m hdr (by omega) σ).mono ?_
  rintro _ σ₁ ⟨rfl, g1⟩
  dsimp only [Z1i, Z28, Z1r, Z23, Z26, Z1g, Z1b, Z21, Z1z, Z1y, Z1q, Z1e, Z1s, Z1c, Z1k, Z24, Z1f, Z1d, Z27, Z1u, Z1h, Z0z, Z6, Z7, Z5, Z4, Z0v, Z0u, Z0w, Z11, Z0x, Z10, Z0y, Z0j, Z0i, Zh, Zg, Ze, Zd, Zf, Z19, Z1a, Z13, Z14, Z18, Z17, Z16, Z15, Z0k, Z0l, Z0m, Z0n, Z0o, Z0p, Z0q, Z0r, Z0t, Z0s, w_add_str, w_add_int, w_add_ref, Z25, Z1x, Z1w, Z1j, Z22, w_eq_str, w_ne_str, w_eq_int, w_ne_int, w_eq_ref, Z1o, Z1p, Z1v, Z1t, Z1m, Z1l, Z1n, Z20, b_and_t, b_and_f, b_or_t, b_or_f, b_not_t, b_not_f, Z1, Z0, Z2, Z3, Z9, Zc, Zb, Z8, Za, Nat.reduceBEq, Int.reduceBEq, Int.reduceAdd, Int.reduceSub, Int.reduceNeg, Option.getD_some, Option.getD_none]
  refine ⟨by first | (apply cap2; (case h1 => repeat' first | assumption | apply app_le | apply nil_le | apply cons_le); (case h2 => repeat' first | assumption | apply app_le | apply nil_le | apply cons_le); decide) | (apply cap1; (case h1 => repeat' first | assumption | apply app_le | apply nil_le | apply cons_le); decide) | (simp [sizeCap]; omega) | (unfold sizeCap; omega), by first | (apply cap2; (case h1 => repeat' first | assumption | apply app_le | apply nil_le | apply cons_le); (case h2 => repeat' first | assumption | apply app_le | apply nil_le | apply cons_le); decide) | (apply cap1; (case h1 => repeat' first | assumption | apply app_le | apply nil_le | apply cons_le); decide) | (simp [sizeCap]; omega) | (unfold sizeCap; omega), by first | (apply cap2; (case h1 => repeat' first | assumption | apply app_le | apply nil_le | apply cons_le); (case h2 => repeat' first | assumption | apply app_le | apply nil_le | apply cons_le); decide) | (apply cap1; (case h1 => repeat' first | assumption | apply app_le | apply nil_le | apply cons_le); decide) | (simp [sizeCap]; omega) | (unfold sizeCap; omega), ?_⟩
  refine (h'.run m hdr (by omega) σ₁).mono ?_
  rintro _ σ₂ ⟨rfl, g2⟩
  dsimp only [Z1i, Z28, Z1r, Z23, Z26, Z1g, Z1b, Z21, Z1z, Z1y, Z1q, Z1e, Z1s, Z1c, Z1k, Z24, Z1f, Z1d, Z27, Z1u, Z1h, Z0z, Z6, Z7, Z5, Z4, Z0v, Z0u, Z0w, Z11, Z0x, Z10, Z0y, Z0j, Z0i, Zh, Zg, Ze, Zd, Zf, Z19, Z1a, Z13, Z14, Z18, Z17, Z16, Z15, Z0k, Z0l, Z0m, Z0n, Z0o, Z0p, Z0q, Z0r, Z0t, Z0s, w_add_str, w_add_int, w_add_ref, Z25, Z1x, Z1w, Z1j, Z22, w_eq_str, w_ne_str, w_eq_int, w_ne_int, w_eq_ref, Z1o, Z1p, Z1v, Z1t, Z1m, Z1l, Z1n, Z20, b_and_t, b_and_f, b_or_t, b_or_f, b_not_t, b_not_f, Z1, Z0, Z2, Z3, Z9, Zc, Zb, Z8, Za, Nat.reduceBEq, Int.reduceBEq, Int.reduceAdd, Int.reduceSub, Int.reduceNeg, Option.getD_some, Option.getD_none]
  exact ⟨by first | (apply cap2; (case h1 => repeat' first | assumption | apply app_le | apply nil_le | apply cons_le); (case h2 => repeat' first | assumption | apply app_le | apply nil_le | apply cons_le); decide) | (apply cap1; (case h1 => repeat' first | assumption | apply app_le | apply nil_le | apply cons_le); decide) | (simp [sizeCap]; omega) | (unfold sizeCap; omega), rfl, g1.trans g2⟩

noncomputable def SimGen (src : Nat) (σ : Sto) (d : D) (σ' : Sto) : Prop := ∃ tree t, d = .tup [tree, .str t] ∧ Sim tree t ∧ Go src σ σ'
theorem simple_gen {src n : Nat} {σ : Sto} (hn : 8 ≤ n) (hs : Src src σ) : RunO (C2 n 26 [.ref src] σ) (SimGen src σ) := by
  obtain ⟨m, rfl⟩ : ∃ m, n = m + 1 := ⟨n - 1, by omega⟩
  have hm : 7 ≤ m := by omega
  refine call_fn (fd := G2_26) (ve := [some _, none, none, none, none, none]) rfl rfl ?_
  unfold G2_26
  dsimp only [Z1i, Z28, Z1r, Z23, Z26, Z1g, Z1b, Z21, Z1z, Z1y, Z1q, Z1e, Z1s, Z1c, Z1k, Z24, Z1f, Z1d, Z27, Z1u, Z1h, Z0z, Z6, Z7, Z5, Z4, Z0v, Z0u, Z0w, Z11, Z0x, Z10, Z0y, Z0j, Z0i, Zh, Zg, Ze, Zd, Zf, Z19, Z1a, Z13, Z14, Z18, Z17, Z16, Z15, Z0k, Z0l, Z0m, Z0n, Z0o, Z0p, Z0q, Z0r, Z0t, Z0s, w_add_str, w_add_int, w_add_ref, Z25, Z1x, Z1w, Z1j, Z22, w_eq_str, w_ne_str, w_eq_int, w_ne_int, w_eq_ref, Z1o, Z1p, Z1v, Z1t, Z1m, Z1l, Z1n, Z20, b_and_t, b_and_f, b_or_t, b_or_f, b_not_t, b_not_f, Z1, Z0, Z2, Z3, Z9, Zc, Zb, Z8, Za, Nat.reduceBEq, Int.reduceBEq, Int.reduceAdd, Int.reduceSub, Int.reduceNeg, Option.getD_some, Option.getD_none]
  refine (expr_gen (Nat.le_trans (by decide) hm) hs).mono ?_
  rintro _ σ₁ ⟨e, t, rfl, h1, g1⟩
  refine (expr_gen (Nat.le_trans (by decide) hm) g1.2).mono ?_
  rintro _ σ₂ ⟨e', t', rfl, h2, g2⟩
  refine (exprs_gen (Nat.le_trans (by decide) hm) g2.2).mono ?_
  rintro _ σ₃ ⟨s, x, rfl, h3, g3⟩
  refine (exprs_gen (Nat.le_trans (by decide) hm) g3.2).mono ?_
  rintro _ σ₄ ⟨s', x', rfl, h4, g4⟩
  have l1 := h1.len
  have l2 := h2.len
  have l3 := h3.len
  have l4 := h4.len
  have ga := ((g1.trans g2).trans g3).trans g4
  dsimp only [Z1i, Z28, Z1r, Z23, Z26, Z1g, Z1b, Z21, Z1z, Z1y, Z1q, Z1e, Z1s, Z1c, Z1k, Z24, Z1f, Z1d, Z27, Z1u, Z1h, Z0z, Z6, Z7, Z5, Z4, Z0v, Z0u, Z0w, Z11, Z0x, Z10, Z0y, Z0j, Z0i, Zh, Zg, Ze, Zd, Zf, Z19, Z1a, Z13, Z14, Z18, Z17, Z16, Z15, Z0k, Z0l, Z0m, Z0n, Z0o, Z0p, Z0q, Z0r, Z0t, Z0s, w_add_str, w_add_int, w_add_ref, Z25, Z1x, Z1w, Z1j, Z22, w_eq_str, w_ne_str, w_eq_int, w_ne_int, w_eq_ref, Z1o, Z1p, Z1v, Z1t, Z1m, Z1l, Z1n, Z20, b_and_t, b_and_f, b_or_t, b_or_f, b_not_t, b_not_f, Z1, Z0, Z2, Z3, Z9, Zc, Zb, Z8, Za, Nat.reduceBEq, Int.reduceBEq, Int.reduceAdd, Int.reduceSub, Int.reduceNeg, Option.getD_some, Option.getD_none]
  refine (one_new (Nat.le_trans (by decide) hm) ga.2 (by decide) (by decide)).mono ?_
  rintro d σ₅ ⟨hd, g5⟩
  have hsg : ∃ sign, d = .str sign ∧ sign.length ≤ 3 ∧ 10 ∉ sign := by
    simp only [List.mem_cons, List.not_mem_nil, or_false] at hd
    rcases hd with rfl | rfl | rfl | rfl
    all_goals exact ⟨_, rfl, by decide, by decide⟩
  obtain ⟨sign, rfl, hsl, hsr⟩ := hsg
  have g := ga.trans g5
  dsimp only [Z1i, Z28, Z1r, Z23, Z26, Z1g, Z1b, Z21, Z1z, Z1y, Z1q, Z1e, Z1s, Z1c, Z1k, Z24, Z1f, Z1d, Z27, Z1u, Z1h, Z0z, Z6, Z7, Z5, Z4, Z0v, Z0u, Z0w, Z11, Z0x, Z10, Z0y, Z0j, Z0i, Zh, Zg, Ze, Zd, Zf, Z19, Z1a, Z13, Z14, Z18, Z17, Z16, Z15, Z0k, Z0l, Z0m, Z0n, Z0o, Z0p, Z0q, Z0r, Z0t, Z0s, w_add_str, w_add_int, w_add_ref, Z25, Z1x, Z1w, Z1j, Z22, w_eq_str, w_ne_str, w_eq_int, w_ne_int, w_eq_ref, Z1o, Z1p, Z1v, Z1t, Z1m, Z1l, Z1n, Z20, b_and_t, b_and_f, b_or_t, b_or_f, b_not_t, b_not_f, Z1, Z0, Z2, Z3, Z9, Zc, Zb, Z8, Za, Nat.reduceBEq, Int.reduceBEq, Int.reduceAdd, Int.reduceSub, Int.reduceNeg, Option.getD_some, Option.getD_none]
  refine ⟨by first | (apply cap2; (case h1 => repeat' first | assumption | apply app_le | apply nil_le | apply cons_le); (case h2 => repeat' first | assumption | apply app_le | apply nil_le | apply cons_le); decide) | (apply cap1; (case h1 => repeat' first | assumption | apply app_le | apply nil_le | apply cons_le); decide) | (simp [sizeCap]; omega) | (unfold sizeCap; omega), by first | (apply cap2; (case h1 => repeat' first | assumption | apply app_le | apply nil_le | apply cons_le); (case h2 => repeat' first | assumption | apply app_le | apply nil_le | apply cons_le); decide) | (apply cap1; (case h1 => repeat' first | assumption | apply app_le | apply nil_le | apply cons_le); decide) | (simp [sizeCap]; omega) | (unfold sizeCap; omega), by first | (apply cap2; (case h1 => repeat' first | assumption | apply app_le | apply nil_le | apply cons_le); (case h2 => repeat' first | assumption | apply app_le | apply nil_le | apply cons_le); decide) | (apply cap1; (case h1 => repeat' first | assumption | apply app_le | apply nil_le | apply cons_le); decide) | (simp [sizeCap]; omega) | (unfold sizeCap; omega), by first | (apply cap2; (case h1 => repeat' first | assumption | apply app_le | apply nil_le | apply cons_le); (case h2 => repeat' first | assumption | apply app_le | apply nil_le | apply cons_le); decide) | (apply cap1; (case h1 => repeat' first | assumption | apply app_le | apply nil_le | apply cons_le); decide) | (simp [sizeCap]; omega) | (unfold sizeCap; omega), by first | (apply cap2; (case h1 => repeat' first | assumption | apply app_le | apply nil_le | apply cons_le); (case h2 => repeat' first | assumption | apply app_le | apply nil_le | apply cons_le); decide) | (apply cap1; (case h1 => repeat' first | assumption | apply app_le | apply nil_le | apply cons_le); decide) | (simp [sizeCap]; omega) | (unfold sizeCap; omega), by first | (apply cap2; (case h1 => repeat' first | assumption | apply app_le | apply nil_le | apply cons_le); (case h2 => repeat' first | assumption | apply app_le | apply nil_le | apply cons_le); decide) | (apply cap1; (case h1 => repeat' first | assumption | apply app_le | apply nil_le | apply cons_le); decide) | (simp [sizeCap]; omega) | (unfold sizeCap; omega), by first | (apply cap2; (case h1 => repeat' first | assumption | apply app_le | apply nil_le | apply cons_le); (case h2 => repeat' first | assumption | apply app_le | apply nil_le | apply cons_le); decide) | (apply cap1; (case h1 => repeat' first | assumption | apply app_le | apply nil_le | apply cons_le); decide) | (simp [sizeCap]; omega) | (unfold sizeCap; omega), by first | (apply cap2; (case h1 => repeat' first | assumption | apply app_le | apply nil_le | apply cons_le); (case h2 => repeat' first | assumption | apply app_le | apply nil_le | apply cons_le); decide) | (apply cap1; (case h1 => repeat' first | assumption | apply app_le | apply nil_le | apply cons_le); decide) | (simp [sizeCap]; omega) | (unfold sizeCap; omega), by first | (apply cap2; (case h1 => repeat' first | assumption | apply app_le | apply nil_le | apply cons_le); (case h2 => repeat' first | assumption | apply app_le | apply nil_le | apply cons_le); decide) | (apply cap1; (case h1 => repeat' first | assumption | apply app_le | apply nil_le | apply cons_le); decide) | (simp [sizeCap]; omega) | (unfold sizeCap; omega), ?_⟩
  refine (one_new (Nat.le_trans (by decide) hm) g.2 (by simp) (by simp)).mono ?_
  rintro d σ₆ ⟨hd, g6⟩
  simp only [List.mem_cons, List.not_mem_nil, or_false] at hd
  rcases hd with rfl | rfl | rfl | rfl | rfl | rfl
  · exact ⟨_, _, rfl, sim_expr h1, g.trans g6⟩
  · exact ⟨_, _, rfl, sim_send h1 h2, g.trans g6⟩
  · exact ⟨_, _, rfl, sim_step h1 (.inl rfl), g.trans g6⟩
  · exact ⟨_, _, rfl, sim_step h1 (.inr rfl), g.trans g6⟩
  · exact ⟨_, _, rfl, sim_define h3, g.trans g6⟩
  · exact ⟨_, _, rfl, sim_assign h3 h4 hsl hsr, g.trans g6⟩
end Mine
end

section
open PySem
namespace Mine
/-! ### rows -/
theorem splitL_none {c : Nat} : ∀ {l : List Nat}, c ∉ l → splitL c l = [l]
  | [], _ => rfl
  | x :: l, h => by
    rw [List.mem_cons, not_or] at h
    unfold splitL
    rw [if_neg (fun e => h.1 e.symm), splitL_none h.2]
theorem splitL_app {c : Nat} : ∀ {l r : List Nat}, c ∉ l → splitL c (l ++ c :: r) = l :: splitL c r
  | [], r, _ => by
    show (if c = c then [] :: splitL c r else (match splitL c r with | w :: r => (c :: w) :: r | [] => [[c]])) = _
    rw [if_pos rfl]
  | x :: l, r, h => by
    rw [List.mem_cons, not_or] at h
    show (if x = c then [] :: splitL c (l ++ c :: r) else (match splitL c (l ++ c :: r) with | w :: r => (x :: w) :: r | [] => [[x]])) = _
    rw [if_neg (fun e => h.1 e.symm), splitL_app h.2]
theorem rows_split {c : Nat} : ∀ {rows : List (List Nat)}, rows ≠ [] → (∀ r ∈ rows, c ∉ r) → splitL c (joinL [c] rows) = rows
  | [], h, _ => absurd rfl h
  | [r], _, h => splitL_none (h r (List.mem_singleton.mpr rfl))
  | r :: r' :: rs, _, h => by
    show splitL c (r ++ [c] ++ joinL [c] (r' :: rs)) = _
    rw [List.append_assoc]
    show splitL c (r ++ c :: joinL [c] (r' :: rs)) = _
    rw [splitL_app (h r (List.mem_cons_self ..)), rows_split (by simp) fun q hq => h q (List.mem_cons_of_mem _ hq)]
/-- rows, each a step to the right and with its end -/
noncomputable def indentT (rows : List (List Nat)) : List Nat := (rows.map fun r => [9] ++ r ++ [10]).flatten
theorem indent_cons {r : List Nat} {rs : List (List Nat)} : indentT (r :: rs) = [9] ++ r ++ [10] ++ indentT rs := by
  simp [indentT]
theorem indent_app {a b : List (List Nat)} : indentT (a ++ b) = indentT a ++ indentT b := by
  simp [indentT]
theorem joinL_nil : ∀ {xs : List (List Nat)}, joinL [] xs = xs.flatten
  | [] => rfl
  | [x] => by simp [joinL]
  | x :: y :: r => by
    show x ++ [] ++ joinL [] (y :: r) = _
    rw [joinL_nil]
    simp
theorem join_ends {z : List Nat} : ∀ {rows : List (List Nat)}, joinL [10] (rows.map (fun r => 9 :: r) ++ [z]) = indentT rows ++ z
  | [] => by simp [joinL, indentT]
  | r :: rs => by
    have ih := join_ends (z := z) (rows := rs)
    rw [indent_cons, List.map_cons, List.cons_append]
    cases h : rs.map (fun r => 9 :: r) ++ [z] with
    | nil => simp at h
    | cons a l =>
      rw [h] at ih
      show (9 :: r) ++ [10] ++ joinL [10] (a :: l) = _
      rw [ih]
      simp
noncomputable def braceR (rows : List (List Nat)) : List (List Nat) := if rows = [] then [[123, 125]] else [[123]] ++ rows.map (fun r => 9 :: r) ++ [[125]]
theorem braced_join {rows : List (List Nat)} (h : rows ≠ []) : joinL [10] (braceR rows) = [123, 10] ++ indentT rows ++ [125] := by
  unfold braceR
  rw [if_neg h]
  have := join_ends (z := [125]) (rows := rows)
  cases h2 : rows.map (fun r => 9 :: r) ++ [[125]] with
  | nil => simp at h2
  | cons a l =>
    rw [h2] at this
    rw [List.append_assoc, h2]
    show [123] ++ [10] ++ joinL [10] (a :: l) = _
    rw [this]
    simp
theorem indent_len : ∀ {rows : List (List Nat)} {M : Nat}, (∀ r ∈ rows, r.length ≤ M) → (indentT rows).length ≤ rows.length * (M + 2)
  | [], M, _ => by simp [indentT]
  | r :: rs, M, h => by
    have h1 := h r (List.mem_cons_self ..)
    have h2 := indent_len (rows := rs) (M := M) fun q hq => h q (List.mem_cons_of_mem _ hq)
    rw [indent_cons, List.length_cons, Nat.succ_mul]
    simp
    omega
end Mine
end

section
open PySem
namespace Mine
theorem all2_map {α β γ : Type} {R : β → γ → Prop} (f : α → β) (g : α → γ) : ∀ {l : List α}, (∀ p ∈ l, R (f p) (g p)) → All2 R (l.map f) (l.map g)
  | [], _ => rfl
  | a :: l, h => ⟨g a, l.map g, rfl, h a (List.mem_cons_self ..), all2_map f g fun p hp => h p (List.mem_cons_of_mem _ hp)⟩

/-- rows that may be told: some, none with an end in it, not too long -/
structure Rows (rows : List (List Nat)) (N M : Nat) : Prop where
  ne : rows ≠ []
  row : ∀ r ∈ rows, 10 ∉ r
  num : rows.length ≤ N
  len : ∀ r ∈ rows, r.length ≤ M
theorem Rows.join_len {rows : List (List Nat)} {N M : Nat} (h : Rows rows N M) : (joinL [10] rows).length ≤ N * (M + 1) :=
  Nat.le_trans (joinL_len [10] rows M h.len) (Nat.mul_le_mul h.num (Nat.le_refl _))
theorem Rows.indent_len {rows : List (List Nat)} {N M : Nat} (h : Rows rows N M) : (indentT rows).length ≤ N * (M + 2) :=
  Nat.le_trans (Mine.indent_len h.len) (Nat.mul_le_mul h.num (Nat.le_refl _))

theorem indented_ok {m N M : Nat} {rows : List (List Nat)} (h : Rows rows N M) (hb : N * (M + 2) ≤ 400000) : Txt (m + 1) 11 [.str (joinL [10] rows)] (indentT rows) := by
  intro σ
  refine call_fn (fd := G2_11) (ve := [some _]) rfl rfl ?_
  unfold G2_11
  have j1 := h.join_len
  have j2 := h.indent_len
  have j3 : N * (M + 1) ≤ N * (M + 2) := Nat.mul_le_mul (Nat.le_refl _) (by omega)
  have hM : ∀ r ∈ rows, r.length ≤ 400000 := by
    intro r hr
    have h1 := h.len r hr
    have h2 : 1 ≤ N := Nat.le_trans (by cases rows with | nil => exact absurd rfl h.ne | cons => simp) h.num
    have h3 : 1 * (M + 2) ≤ N * (M + 2) := Nat.mul_le_mul h2 (Nat.le_refl _)
    omega
  have hn : rows.length ≤ 400000 := by
    have h1 := h.num
    have h3 : N * 1 ≤ N * (M + 2) := Nat.mul_le_mul (Nat.le_refl _) (by omega)
    omega
  dsimp only [Z1i, Z28, Z1r, Z23, Z26, Z1g, Z1b, Z21, Z1z, Z1y, Z1q, Z1e, Z1s, Z1c, Z1k, Z24, Z1f, Z1d, Z27, Z1u, Z1h, Z0z, Z6, Z7, Z5, Z4, Z0v, Z0u, Z0w, Z11, Z0x, Z10, Z0y, Z0j, Z0i, Zh, Zg, Ze, Zd, Zf, Z19, Z1a, Z13, Z14, Z18, Z17, Z16, Z15, Z0k, Z0l, Z0m, Z0n, Z0o, Z0p, Z0q, Z0r, Z0t, Z0s, w_add_str, w_add_int, w_add_ref, Z25, Z1x, Z1w, Z1j, Z22, w_eq_str, w_ne_str, w_eq_int, w_ne_int, w_eq_ref, Z1o, Z1p, Z1v, Z1t, Z1m, Z1l, Z1n, Z20, b_and_t, b_and_f, b_or_t, b_or_f, b_not_t, b_not_f, Z1, Z0, Z2, Z3, Z9, Zc, Zb, Z8, Za, Nat.reduceBEq, Int.reduceBEq, Int.reduceAdd, Int.reduceSub, Int.reduceNeg, Option.getD_some, Option.getD_none]
  have e : opSplit (.str (joinL [10] rows)) (.str [10]) σ = some (.ref σ.length, σ ++ [rows.map D.str]) := by
    show (if (joinL [10] rows).length < sizeCap then some (D.ref σ.length, σ ++ [(splitL 10 (joinL [10] rows)).map D.str]) else none) = _
    rw [if_pos (by first | (apply cap2; (case h1 => repeat' first | assumption | apply app_le | apply nil_le | apply cons_le); (case h2 => repeat' first | assumption | apply app_le | apply nil_le | apply cons_le); decide) | (apply cap1; (case h1 => repeat' first | assumption | apply app_le | apply nil_le | apply cons_le); decide) | (simp [sizeCap]; omega) | (unfold sizeCap; omega)), rows_split h.ne h.row]
  rw [e, run_ok]
  refine ⟨rows.map D.str, get_new, ?_⟩
  refine RunT.mono (cloop_known (V := fun ve => ∃ a, ve = [a]) tests_nil (fun σ' => σ'[σ.length]? = some (rows.map D.str)) (fun σ' h => ref_stays h) (fun σ' σ'' h1 h2 => h2.at h1 (by simp)) _ ((rows.map fun r => [9] ++ r ++ [10]).map D.str) _ _ [] ?_ ⟨none, rfl⟩
    (by rw [List.getElem?_append_left (by simp)]; exact get_new) get_new (by first | (apply cap2; (case h1 => repeat' first | assumption | apply app_le | apply nil_le | apply cons_le); (case h2 => repeat' first | assumption | apply app_le | apply nil_le | apply cons_le); decide) | (apply cap1; (case h1 => repeat' first | assumption | apply app_le | apply nil_le | apply cons_le); decide) | (simp [sizeCap]; omega) | (unfold sizeCap; omega))) ?_
  · rw [List.map_map]
    refine all2_map _ _ fun r hr ve σ' hv => ?_
    obtain ⟨a, rfl⟩ := hv
    have := hM r hr
    refine runV_of ?_
    dsimp only [Z1i, Z28, Z1r, Z23, Z26, Z1g, Z1b, Z21, Z1z, Z1y, Z1q, Z1e, Z1s, Z1c, Z1k, Z24, Z1f, Z1d, Z27, Z1u, Z1h, Z0z, Z6, Z7, Z5, Z4, Z0v, Z0u, Z0w, Z11, Z0x, Z10, Z0y, Z0j, Z0i, Zh, Zg, Ze, Zd, Zf, Z19, Z1a, Z13, Z14, Z18, Z17, Z16, Z15, Z0k, Z0l, Z0m, Z0n, Z0o, Z0p, Z0q, Z0r, Z0t, Z0s, w_add_str, w_add_int, w_add_ref, Z25, Z1x, Z1w, Z1j, Z22, w_eq_str, w_ne_str, w_eq_int, w_ne_int, w_eq_ref, Z1o, Z1p, Z1v, Z1t, Z1m, Z1l, Z1n, Z20, b_and_t, b_and_f, b_or_t, b_or_f, b_not_t, b_not_f, Z1, Z0, Z2, Z3, Z9, Zc, Zb, Z8, Za, Nat.reduceBEq, Int.reduceBEq, Int.reduceAdd, Int.reduceSub, Int.reduceNeg, Option.getD_some, Option.getD_none]
    refine ⟨⟨_, rfl⟩, wE_ok _ _ _ _ ?_⟩
    dsimp only [Z1i, Z28, Z1r, Z23, Z26, Z1g, Z1b, Z21, Z1z, Z1y, Z1q, Z1e, Z1s, Z1c, Z1k, Z24, Z1f, Z1d, Z27, Z1u, Z1h, Z0z, Z6, Z7, Z5, Z4, Z0v, Z0u, Z0w, Z11, Z0x, Z10, Z0y, Z0j, Z0i, Zh, Zg, Ze, Zd, Zf, Z19, Z1a, Z13, Z14, Z18, Z17, Z16, Z15, Z0k, Z0l, Z0m, Z0n, Z0o, Z0p, Z0q, Z0r, Z0t, Z0s, w_add_str, w_add_int, w_add_ref, Z25, Z1x, Z1w, Z1j, Z22, w_eq_str, w_ne_str, w_eq_int, w_ne_int, w_eq_ref, Z1o, Z1p, Z1v, Z1t, Z1m, Z1l, Z1n, Z20, b_and_t, b_and_f, b_or_t, b_or_f, b_not_t, b_not_f, Z1, Z0, Z2, Z3, Z9, Zc, Zb, Z8, Za, Nat.reduceBEq, Int.reduceBEq, Int.reduceAdd, Int.reduceSub, Int.reduceNeg, Option.getD_some, Option.getD_none]
    exact ⟨by first | (apply cap2; (case h1 => repeat' first | assumption | apply app_le | apply nil_le | apply cons_le); (case h2 => repeat' first | assumption | apply app_le | apply nil_le | apply cons_le); decide) | (apply cap1; (case h1 => repeat' first | assumption | apply app_le | apply nil_le | apply cons_le); decide) | (simp [sizeCap]; omega) | (unfold sizeCap; omega), by first | (apply cap2; (case h1 => repeat' first | assumption | apply app_le | apply nil_le | apply cons_le); (case h2 => repeat' first | assumption | apply app_le | apply nil_le | apply cons_le); decide) | (apply cap1; (case h1 => repeat' first | assumption | apply app_le | apply nil_le | apply cons_le); decide) | (simp [sizeCap]; omega) | (unfold sizeCap; omega), rfl, Gs.refl⟩
  · rintro σ' ⟨h1, h2⟩
    rw [List.nil_append] at h1
    refine join_ref h1 (by decide) (by rw [joinL_nil]; unfold indentT at j2; unfold sizeCap; omega) ?_
    refine ⟨by rw [joinL_nil]; rfl, ?_⟩
    exact (Gs.app (l := [rows.map D.str])).trans h2.comp
end Mine
end

section
open PySem
namespace Mine
theorem eq_empty {q p : Nat} {l : List D} {σ : Sto} {Q : Bool → Prop} (hq : σ[q]? = some l) (hp : σ[p]? = some []) (hne : q ≠ p) (h : Q l.isEmpty) : RunM (opCmp .eq (.ref q) (.ref p) σ) Q := by
  show RunM (if q = p then none else (match σ[q]?, σ[p]? with
      | some l, some r => if l.isEmpty then some r.isEmpty else if r.isEmpty then some false else none
      | _, _ => none)) Q
  rw [if_neg hne, hq, hp]
  dsimp only
  cases hl : l.isEmpty with
  | true => rw [hl] at h; exact h
  | false => rw [hl] at h; exact h
theorem flat_indent : ∀ {rowss : List (List (List Nat))}, (rowss.map indentT).flatten = indentT rowss.flatten
  | [] => rfl
  | r :: rs => by
    rw [List.map_cons, List.flatten_cons, List.flatten_cons, indent_app, flat_indent]
theorem flat_len {K : Nat} : ∀ {xs : List (List Nat)}, (∀ x ∈ xs, x.length ≤ K) → xs.flatten.length ≤ xs.length * K
  | [], _ => by simp
  | x :: xs, h => by
    have h1 := h x (List.mem_cons_self ..)
    have h2 := flat_len (K := K) (xs := xs) fun y hy => h y (List.mem_cons_of_mem _ hy)
    rw [List.flatten_cons, List.length_append, List.length_cons, Nat.succ_mul]
    omega

theorem braced_ok {m N M q : Nat} {rowss : List (List (List Nat))} {σ : Sto} (hq : σ[q]? = some ((rowss.map (joinL [10])).map D.str)) (h : ∀ rows ∈ rowss, Rows rows N M) (hn : rowss.length ≤ 10) (hb : N * (M + 2) ≤ 40000) :
    RunO (C2 (m + 2) 10 [.ref q] σ) fun d σ' => d = .str (joinL [10] (braceR rowss.flatten)) ∧ Gs [] σ σ' := by
  refine call_fn (fd := G2_10) (ve := [some _]) rfl rfl ?_
  unfold G2_10
  have hql := get_lt hq
  have hq' : (σ ++ [[]])[q]? = some ((rowss.map (joinL [10])).map D.str) := by rw [List.getElem?_append_left hql]; exact hq
  dsimp only [Z1i, Z28, Z1r, Z23, Z26, Z1g, Z1b, Z21, Z1z, Z1y, Z1q, Z1e, Z1s, Z1c, Z1k, Z24, Z1f, Z1d, Z27, Z1u, Z1h, Z0z, Z6, Z7, Z5, Z4, Z0v, Z0u, Z0w, Z11, Z0x, Z10, Z0y, Z0j, Z0i, Zh, Zg, Ze, Zd, Zf, Z19, Z1a, Z13, Z14, Z18, Z17, Z16, Z15, Z0k, Z0l, Z0m, Z0n, Z0o, Z0p, Z0q, Z0r, Z0t, Z0s, w_add_str, w_add_int, w_add_ref, Z25, Z1x, Z1w, Z1j, Z22, w_eq_str, w_ne_str, w_eq_int, w_ne_int, w_eq_ref, Z1o, Z1p, Z1v, Z1t, Z1m, Z1l, Z1n, Z20, b_and_t, b_and_f, b_or_t, b_or_f, b_not_t, b_not_f, Z1, Z0, Z2, Z3, Z9, Zc, Zb, Z8, Za, Nat.reduceBEq, Int.reduceBEq, Int.reduceAdd, Int.reduceSub, Int.reduceNeg, Option.getD_some, Option.getD_none]
  refine eq_empty hq' get_new (by omega) ?_
  cases hr : rowss with
  | nil =>
    show OnBool (.bool true) _ _
    dsimp only [Z1i, Z28, Z1r, Z23, Z26, Z1g, Z1b, Z21, Z1z, Z1y, Z1q, Z1e, Z1s, Z1c, Z1k, Z24, Z1f, Z1d, Z27, Z1u, Z1h, Z0z, Z6, Z7, Z5, Z4, Z0v, Z0u, Z0w, Z11, Z0x, Z10, Z0y, Z0j, Z0i, Zh, Zg, Ze, Zd, Zf, Z19, Z1a, Z13, Z14, Z18, Z17, Z16, Z15, Z0k, Z0l, Z0m, Z0n, Z0o, Z0p, Z0q, Z0r, Z0t, Z0s, w_add_str, w_add_int, w_add_ref, Z25, Z1x, Z1w, Z1j, Z22, w_eq_str, w_ne_str, w_eq_int, w_ne_int, w_eq_ref, Z1o, Z1p, Z1v, Z1t, Z1m, Z1l, Z1n, Z20, b_and_t, b_and_f, b_or_t, b_or_f, b_not_t, b_not_f, Z1, Z0, Z2, Z3, Z9, Zc, Zb, Z8, Za, Nat.reduceBEq, Int.reduceBEq, Int.reduceAdd, Int.reduceSub, Int.reduceNeg, Option.getD_some, Option.getD_none]
    exact ⟨rfl, Gs.app⟩
  | cons r0 rs =>
    have hne : rowss.flatten ≠ [] := by
      rw [hr, List.flatten_cons]
      have := (h r0 (by rw [hr]; exact List.mem_cons_self ..)).ne
      simp [this]
    rw [← hr]
    have he : ((rowss.map (joinL [10])).map D.str).isEmpty = false := by rw [hr]; rfl
    rw [he]
    dsimp only [Z1i, Z28, Z1r, Z23, Z26, Z1g, Z1b, Z21, Z1z, Z1y, Z1q, Z1e, Z1s, Z1c, Z1k, Z24, Z1f, Z1d, Z27, Z1u, Z1h, Z0z, Z6, Z7, Z5, Z4, Z0v, Z0u, Z0w, Z11, Z0x, Z10, Z0y, Z0j, Z0i, Zh, Zg, Ze, Zd, Zf, Z19, Z1a, Z13, Z14, Z18, Z17, Z16, Z15, Z0k, Z0l, Z0m, Z0n, Z0o, Z0p, Z0q, Z0r, Z0t, Z0s, w_add_str, w_add_int, w_add_ref, Z25, Z1x, Z1w, Z1j, Z22, w_eq_str, w_ne_str, w_eq_int, w_ne_int, w_eq_ref, Z1o, Z1p, Z1v, Z1t, Z1m, Z1l, Z1n, Z20, b_and_t, b_and_f, b_or_t, b_or_f, b_not_t, b_not_f, Z1, Z0, Z2, Z3, Z9, Zc, Zb, Z8, Za, Nat.reduceBEq, Int.reduceBEq, Int.reduceAdd, Int.reduceSub, Int.reduceNeg, Option.getD_some, Option.getD_none]
    refine ⟨_, (show itemsOf (.ref q) (σ ++ [[]]) = some _ from hq'), ?_⟩
    have hx : ∀ x ∈ rowss.map indentT, x.length ≤ 40000 := by
      intro x hx
      obtain ⟨rows, hm, rfl⟩ := List.mem_map.mp hx
      have := (h rows hm).indent_len
      omega
    have hl2 : (indentT rowss.flatten).length ≤ 400000 := by
      rw [← flat_indent]
      have h1 := flat_len hx
      rw [List.length_map] at h1
      have h2 : rowss.length * 40000 ≤ 10 * 40000 := Nat.mul_le_mul hn (Nat.le_refl _)
      omega
    refine RunT.mono (cloop_known (V := fun ve => ∃ a, ve = [a]) tests_nil (fun σ' => σ'[q]? = some ((rowss.map (joinL [10])).map D.str)) (fun σ' h => ref_stays h) (fun σ' σ'' h1 h2 => h2.at h1 (by simp; omega)) _ ((rowss.map indentT).map D.str) _ _ [] ?_ ⟨none, rfl⟩
      (by rw [List.getElem?_append_left (by simp; omega)]; exact hq') get_new (by first | (apply cap2; (case h1 => repeat' first | assumption | apply app_le | apply nil_le | apply cons_le); (case h2 => repeat' first | assumption | apply app_le | apply nil_le | apply cons_le); decide) | (apply cap1; (case h1 => repeat' first | assumption | apply app_le | apply nil_le | apply cons_le); decide) | (simp [sizeCap]; omega) | (unfold sizeCap; omega))) ?_
    · rw [List.map_map, List.map_map]
      refine all2_map _ _ fun rows hm ve σ' hv => ?_
      obtain ⟨a, rfl⟩ := hv
      refine runV_of ?_
      dsimp only [Z1i, Z28, Z1r, Z23, Z26, Z1g, Z1b, Z21, Z1z, Z1y, Z1q, Z1e, Z1s, Z1c, Z1k, Z24, Z1f, Z1d, Z27, Z1u, Z1h, Z0z, Z6, Z7, Z5, Z4, Z0v, Z0u, Z0w, Z11, Z0x, Z10, Z0y, Z0j, Z0i, Zh, Zg, Ze, Zd, Zf, Z19, Z1a, Z13, Z14, Z18, Z17, Z16, Z15, Z0k, Z0l, Z0m, Z0n, Z0o, Z0p, Z0q, Z0r, Z0t, Z0s, w_add_str, w_add_int, w_add_ref, Z25, Z1x, Z1w, Z1j, Z22, w_eq_str, w_ne_str, w_eq_int, w_ne_int, w_eq_ref, Z1o, Z1p, Z1v, Z1t, Z1m, Z1l, Z1n, Z20, b_and_t, b_and_f, b_or_t, b_or_f, b_not_t, b_not_f, Z1, Z0, Z2, Z3, Z9, Zc, Zb, Z8, Za, Nat.reduceBEq, Int.reduceBEq, Int.reduceAdd, Int.reduceSub, Int.reduceNeg, Option.getD_some, Option.getD_none]
      refine ⟨⟨_, rfl⟩, wE_ok _ _ _ _ ?_⟩
      dsimp only [Z1i, Z28, Z1r, Z23, Z26, Z1g, Z1b, Z21, Z1z, Z1y, Z1q, Z1e, Z1s, Z1c, Z1k, Z24, Z1f, Z1d, Z27, Z1u, Z1h, Z0z, Z6, Z7, Z5, Z4, Z0v, Z0u, Z0w, Z11, Z0x, Z10, Z0y, Z0j, Z0i, Zh, Zg, Ze, Zd, Zf, Z19, Z1a, Z13, Z14, Z18, Z17, Z16, Z15, Z0k, Z0l, Z0m, Z0n, Z0o, Z0p, Z0q, Z0r, Z0t, Z0s, w_add_str, w_add_int, w_add_ref, Z25, Z1x, Z1w, Z1j, Z22, w_eq_str, w_ne_str, w_eq_int, w_ne_int, w_eq_ref, Z1o, Z1p, Z1v, Z1t, Z1m, Z1l, Z1n, Z20, b_and_t, b_and_f, b_or_t, b_or_f, b_not_t, b_not_f, Z1, Z0, Z2, Z3, Z9, Zc, Zb, Z8, Za, Nat.reduceBEq, Int.reduceBEq, Int.reduceAdd, Int.reduceSub, Int.reduceNeg, Option.getD_some, Option.getD_none]
      exact indented_ok (h rows hm) (by omega) σ'
    · rintro σ' ⟨h1, h2⟩
      rw [List.nil_append] at h1
      refine join_ref h1 (by decide) (by rw [joinL_nil, flat_indent]; unfold sizeCap; omega) ?_
      rw [joinL_nil, flat_indent]
      dsimp only [Z1i, Z28, Z1r, Z23, Z26, Z1g, Z1b, Z21, Z1z, Z1y, Z1q, Z1e, Z1s, Z1c, Z1k, Z24, Z1f, Z1d, Z27, Z1u, Z1h, Z0z, Z6, Z7, Z5, Z4, Z0v, Z0u, Z0w, Z11, Z0x, Z10, Z0y, Z0j, Z0i, Zh, Zg, Ze, Zd, Zf, Z19, Z1a, Z13, Z14, Z18, Z17, Z16, Z15, Z0k, Z0l, Z0m, Z0n, Z0o, Z0p, Z0q, Z0r, Z0t, Z0s, w_add_str, w_add_int, w_add_ref, Z25, Z1x, Z1w, Z1j, Z22, w_eq_str, w_ne_str, w_eq_int, w_ne_int, w_eq_ref, Z1o, Z1p, Z1v, Z1t, Z1m, Z1l, Z1n, Z20, b_and_t, b_and_f, b_or_t, b_or_f, b_not_t, b_not_f, Z1, Z0, Z2, Z3, Z9, Zc, Zb, Z8, Za, Nat.reduceBEq, Int.reduceBEq, Int.reduceAdd, Int.reduceSub, Int.reduceNeg, Option.getD_some, Option.getD_none]
      refine ⟨by first | (apply cap2; (case h1 => repeat' first | assumption | apply app_le | apply nil_le | apply cons_le); (case h2 => repeat' first | assumption | apply app_le | apply nil_le | apply cons_le); decide) | (apply cap1; (case h1 => repeat' first | assumption | apply app_le | apply nil_le | apply cons_le); decide) | (simp [sizeCap]; omega) | (unfold sizeCap; omega), by first | (apply cap2; (case h1 => repeat' first | assumption | apply app_le | apply nil_le | apply cons_le); (case h2 => repeat' first | assumption | apply app_le | apply nil_le | apply cons_le); decide) | (apply cap1; (case h1 => repeat' first | assumption | apply app_le | apply nil_le | apply cons_le); decide) | (simp [sizeCap]; omega) | (unfold sizeCap; omega), ?_, ?_⟩
      · rw [braced_join hne]
      · exact (Gs.app (l := [[]])).trans h2.comp
end Mine
end

section
open PySem
namespace Mine
theorem stmt_sim {m : Nat} {tree : D} {t : List Nat} (h : Sim tree t) (hm : 60 ≤ m) : Txt (m + 1) 13 [tree] t := by
  intro σ
  obtain ⟨kk, rest, rfl, hk⟩ := h.kind
  refine call_fn (fd := G2_13) (ve := [some _, none]) rfl rfl ?_
  unfold G2_13
  rcases hk with rfl | rfl | rfl | rfl | rfl
  all_goals
    dsimp only [Z1i, Z28, Z1r, Z23, Z26, Z1g, Z1b, Z21, Z1z, Z1y, Z1q, Z1e, Z1s, Z1c, Z1k, Z24, Z1f, Z1d, Z27, Z1u, Z1h, Z0z, Z6, Z7, Z5, Z4, Z0v, Z0u, Z0w, Z11, Z0x, Z10, Z0y, Z0j, Z0i, Zh, Zg, Ze, Zd, Zf, Z19, Z1a, Z13, Z14, Z18, Z17, Z16, Z15, Z0k, Z0l, Z0m, Z0n, Z0o, Z0p, Z0q, Z0r, Z0t, Z0s, w_add_str, w_add_int, w_add_ref, Z25, Z1x, Z1w, Z1j, Z22, w_eq_str, w_ne_str, w_eq_int, w_ne_int, w_eq_ref, Z1o, Z1p, Z1v, Z1t, Z1m, Z1l, Z1n, Z20, b_and_t, b_and_f, b_or_t, b_or_f, b_not_t, b_not_f, Z1, Z0, Z2, Z3, Z9, Zc, Zb, Z8, Za, Nat.reduceBEq, Int.reduceBEq, Int.reduceAdd, Int.reduceSub, Int.reduceNeg, Option.getD_some, Option.getD_none]
    rw [in_tup]
    simp only [Z1i, Z28, Z1r, Z23, Z26, Z1g, Z1b, Z21, Z1z, Z1y, Z1q, Z1e, Z1s, Z1c, Z1k, Z24, Z1f, Z1d, Z27, Z1u, Z1h, Z0z, Z6, Z7, Z5, Z4, Z0v, Z0u, Z0w, Z11, Z0x, Z10, Z0y, Z0j, Z0i, Zh, Zg, Ze, Zd, Zf, Z19, Z1a, Z13, Z14, Z18, Z17, Z16, Z15, Z0k, Z0l, Z0m, Z0n, Z0o, Z0p, Z0q, Z0r, Z0t, Z0s, w_add_str, w_add_int, w_add_ref, Z25, Z1x, Z1w, Z1j, Z22, w_eq_str, w_ne_str, w_eq_int, w_ne_int, w_eq_ref, Z1o, Z1p, Z1v, Z1t, Z1m, Z1l, Z1n, Z20, b_and_t, b_and_f, b_or_t, b_or_f, b_not_t, b_not_f, Z1, Z0, Z2, Z3, Z9, Zc, Zb, Z8, Za, Nat.reduceBEq, Int.reduceBEq, Int.reduceAdd, Int.reduceSub, Int.reduceNeg, Option.getD_some, Option.getD_none, item_0, item_1, item_2, item_3, item_4, item_5, item_6, notin_tup, in_tup, in_str, strsOf_nil, strsOf_cons, str_7, len_str, len_ref, range_int, List.any_cons, List.any_nil, Bool.or_false, Bool.false_or, Bool.or_true, Bool.true_or, Bool.true_and, Bool.false_and, Bool.and_true, Bool.and_false, Bool.not_true, Bool.not_false, List.contains_cons, List.contains_nil, beq_self_eq_true, true_and, and_true, Int.reduceEq, Int.reduceLT, Int.reduceLE, decide_true, decide_false, List.length_cons, List.length_nil, Nat.reduceAdd, Nat.reduceLeDiff, eq_self, strsOf_cons, strsOf_nil]
    exact h.run m false hm σ

/-- a statement beside its rows -/
structure St2 (K N M : Nat) (tree : D) (rows : List (List Nat)) : Prop where
  run : ∀ n, K ≤ n → Txt n 13 [tree] (joinL [10] rows)
  rows : Rows rows N M
theorem block_ok {m K N M : Nat} {i : D} {trees : List D} {rowss : List (List (List Nat))} (h : All2 (St2 K N M) trees rowss) (hn : trees.length ≤ 10) (hb : N * (M + 2) ≤ 40000) (hm : K ≤ m + 2) :
    Txt (m + 3) 12 [.tup [.str [98, 108, 111, 99, 107], i, .tup trees]] (joinL [10] (braceR rowss.flatten)) := by
  intro σ
  refine call_fn (fd := G2_12) (ve := [some _]) rfl rfl ?_
  unfold G2_12
  have hl := h.len
  dsimp only [Z1i, Z28, Z1r, Z23, Z26, Z1g, Z1b, Z21, Z1z, Z1y, Z1q, Z1e, Z1s, Z1c, Z1k, Z24, Z1f, Z1d, Z27, Z1u, Z1h, Z0z, Z6, Z7, Z5, Z4, Z0v, Z0u, Z0w, Z11, Z0x, Z10, Z0y, Z0j, Z0i, Zh, Zg, Ze, Zd, Zf, Z19, Z1a, Z13, Z14, Z18, Z17, Z16, Z15, Z0k, Z0l, Z0m, Z0n, Z0o, Z0p, Z0q, Z0r, Z0t, Z0s, w_add_str, w_add_int, w_add_ref, Z25, Z1x, Z1w, Z1j, Z22, w_eq_str, w_ne_str, w_eq_int, w_ne_int, w_eq_ref, Z1o, Z1p, Z1v, Z1t, Z1m, Z1l, Z1n, Z20, b_and_t, b_and_f, b_or_t, b_or_f, b_not_t, b_not_f, Z1, Z0, Z2, Z3, Z9, Zc, Zb, Z8, Za, Nat.reduceBEq, Int.reduceBEq, Int.reduceAdd, Int.reduceSub, Int.reduceNeg, Option.getD_some, Option.getD_none]
  refine ⟨trees, rfl, ?_⟩
  refine RunT.mono (cloop_known (V := fun ve => ∃ a, ve = [a]) tests_nil (fun σ' => True) (fun _ _ => rfl) (fun _ _ _ _ => trivial) _ ((rowss.map (joinL [10])).map D.str) _ _ [] ?_ ⟨none, rfl⟩ trivial get_new (by first | (apply cap2; (case h1 => repeat' first | assumption | apply app_le | apply nil_le | apply cons_le); (case h2 => repeat' first | assumption | apply app_le | apply nil_le | apply cons_le); decide) | (apply cap1; (case h1 => repeat' first | assumption | apply app_le | apply nil_le | apply cons_le); decide) | (simp [sizeCap]; omega) | (unfold sizeCap; omega))) ?_
  · rw [List.map_map]
    refine All2.map _ (fun tree rows ht ve σ' hv => ?_) h
    obtain ⟨a, rfl⟩ := hv
    refine runV_of ?_
    dsimp only [Z1i, Z28, Z1r, Z23, Z26, Z1g, Z1b, Z21, Z1z, Z1y, Z1q, Z1e, Z1s, Z1c, Z1k, Z24, Z1f, Z1d, Z27, Z1u, Z1h, Z0z, Z6, Z7, Z5, Z4, Z0v, Z0u, Z0w, Z11, Z0x, Z10, Z0y, Z0j, Z0i, Zh, Zg, Ze, Zd, Zf, Z19, Z1a, Z13, Z14, Z18, Z17, Z16, Z15, Z0k, Z0l, Z0m, Z0n, Z0o, Z0p, Z0q, Z0r, Z0t, Z0s, w_add_str, w_add_int, w_add_ref, Z25, Z1x, Z1w, Z1j, Z22, w_eq_str, w_ne_str, w_eq_int, w_ne_int, w_eq_ref, Z1o, Z1p, Z1v, Z1t, Z1m, Z1l, Z1n, Z20, b_and_t, b_and_f, b_or_t, b_or_f, b_not_t, b_not_f, Z1, Z0, Z2, Z3, Z9, Zc, Zb, Z8, Za, Nat.reduceBEq, Int.reduceBEq, Int.reduceAdd, Int.reduceSub, Int.reduceNeg, Option.getD_some, Option.getD_none]
    refine ⟨⟨_, rfl⟩, wE_ok _ _ _ _ ?_⟩
    dsimp only [Z1i, Z28, Z1r, Z23, Z26, Z1g, Z1b, Z21, Z1z, Z1y, Z1q, Z1e, Z1s, Z1c, Z1k, Z24, Z1f, Z1d, Z27, Z1u, Z1h, Z0z, Z6, Z7, Z5, Z4, Z0v, Z0u, Z0w, Z11, Z0x, Z10, Z0y, Z0j, Z0i, Zh, Zg, Ze, Zd, Zf, Z19, Z1a, Z13, Z14, Z18, Z17, Z16, Z15, Z0k, Z0l, Z0m, Z0n, Z0o, Z0p, Z0q, Z0r, Z0t, Z0s, w_add_str, w_add_int, w_add_ref, Z25, Z1x, Z1w, Z1j, Z22, w_eq_str, w_ne_str, w_eq_int, w_ne_int, w_eq_ref, Z1o, Z1p, Z1v, Z1t, Z1m, Z1l, Z1n, Z20, b_and_t, b_and_f, b_or_t, b_or_f, b_not_t, b_not_f, Z1, Z0, Z2, Z3, Z9, Zc, Zb, Z8, Za, Nat.reduceBEq, Int.reduceBEq, Int.reduceAdd, Int.reduceSub, Int.reduceNeg, Option.getD_some, Option.getD_none]
    exact ht.run (m + 2) hm σ'
  · rintro σ' ⟨h1, h2⟩
    rw [List.nil_append] at h1
    refine (braced_ok (m := m) h1 (fun rows hr => ?_) (by omega) hb).mono ?_
    · obtain ⟨tree, ht⟩ := h.right rows hr
      exact ht.rows
    · rintro d σ'' ⟨rfl, g⟩
      exact ⟨rfl, h2.comp.trans g⟩
end Mine
end

section
open PySem
namespace Mine
noncomputable def toldT (told : List Nat) : List Nat := match told with | [] => [] | x :: s => [32] ++ x :: s
theorem header_none {m : Nat} {word told : List Nat} (h1 : word.length ≤ 1000) (h2 : told.length ≤ 1000) : Txt (m + 1) 17 [.str word, .none, .str told] (word ++ toldT told ++ [32]) := by
  intro σ
  refine call_fn (fd := G2_17) (ve := [some _, some _, some _, none]) rfl rfl ?_
  unfold G2_17
  cases told with
  | nil =>
    dsimp only [Z1i, Z28, Z1r, Z23, Z26, Z1g, Z1b, Z21, Z1z, Z1y, Z1q, Z1e, Z1s, Z1c, Z1k, Z24, Z1f, Z1d, Z27, Z1u, Z1h, Z0z, Z6, Z7, Z5, Z4, Z0v, Z0u, Z0w, Z11, Z0x, Z10, Z0y, Z0j, Z0i, Zh, Zg, Ze, Zd, Zf, Z19, Z1a, Z13, Z14, Z18, Z17, Z16, Z15, Z0k, Z0l, Z0m, Z0n, Z0o, Z0p, Z0q, Z0r, Z0t, Z0s, w_add_str, w_add_int, w_add_ref, Z25, Z1x, Z1w, Z1j, Z22, w_eq_str, w_ne_str, w_eq_int, w_ne_int, w_eq_ref, Z1o, Z1p, Z1v, Z1t, Z1m, Z1l, Z1n, Z20, b_and_t, b_and_f, b_or_t, b_or_f, b_not_t, b_not_f, Z1, Z0, Z2, Z3, Z9, Zc, Zb, Z8, Za, Nat.reduceBEq, Int.reduceBEq, Int.reduceAdd, Int.reduceSub, Int.reduceNeg, Option.getD_some, Option.getD_none]
    exact ⟨by first | (apply cap2; (case h1 => repeat' first | assumption | apply app_le | apply nil_le | apply cons_le); (case h2 => repeat' first | assumption | apply app_le | apply nil_le | apply cons_le); decide) | (apply cap1; (case h1 => repeat' first | assumption | apply app_le | apply nil_le | apply cons_le); decide) | (simp [sizeCap]; omega) | (unfold sizeCap; omega), by first | (apply cap2; (case h1 => repeat' first | assumption | apply app_le | apply nil_le | apply cons_le); (case h2 => repeat' first | assumption | apply app_le | apply nil_le | apply cons_le); decide) | (apply cap1; (case h1 => repeat' first | assumption | apply app_le | apply nil_le | apply cons_le); decide) | (simp [sizeCap]; omega) | (unfold sizeCap; omega), by first | (apply cap2; (case h1 => repeat' first | assumption | apply app_le | apply nil_le | apply cons_le); (case h2 => repeat' first | assumption | apply app_le | apply nil_le | apply cons_le); decide) | (apply cap1; (case h1 => repeat' first | assumption | apply app_le | apply nil_le | apply cons_le); decide) | (simp [sizeCap]; omega) | (unfold sizeCap; omega), by simp [toldT], Gs.refl⟩
  | cons x s =>
    simp only [List.length_cons] at h2
    dsimp only [Z1i, Z28, Z1r, Z23, Z26, Z1g, Z1b, Z21, Z1z, Z1y, Z1q, Z1e, Z1s, Z1c, Z1k, Z24, Z1f, Z1d, Z27, Z1u, Z1h, Z0z, Z6, Z7, Z5, Z4, Z0v, Z0u, Z0w, Z11, Z0x, Z10, Z0y, Z0j, Z0i, Zh, Zg, Ze, Zd, Zf, Z19, Z1a, Z13, Z14, Z18, Z17, Z16, Z15, Z0k, Z0l, Z0m, Z0n, Z0o, Z0p, Z0q, Z0r, Z0t, Z0s, w_add_str, w_add_int, w_add_ref, Z25, Z1x, Z1w, Z1j, Z22, w_eq_str, w_ne_str, w_eq_int, w_ne_int, w_eq_ref, Z1o, Z1p, Z1v, Z1t, Z1m, Z1l, Z1n, Z20, b_and_t, b_and_f, b_or_t, b_or_f, b_not_t, b_not_f, Z1, Z0, Z2, Z3, Z9, Zc, Zb, Z8, Za, Nat.reduceBEq, Int.reduceBEq, Int.reduceAdd, Int.reduceSub, Int.reduceNeg, Option.getD_some, Option.getD_none]
    exact ⟨by first | (apply cap2; (case h1 => repeat' first | assumption | apply app_le | apply nil_le | apply cons_le); (case h2 => repeat' first | assumption | apply app_le | apply nil_le | apply cons_le); decide) | (apply cap1; (case h1 => repeat' first | assumption | apply app_le | apply nil_le | apply cons_le); decide) | (simp [sizeCap]; omega) | (unfold sizeCap; omega), by first | (apply cap2; (case h1 => repeat' first | assumption | apply app_le | apply nil_le | apply cons_le); (case h2 => repeat' first | assumption | apply app_le | apply nil_le | apply cons_le); decide) | (apply cap1; (case h1 => repeat' first | assumption | apply app_le | apply nil_le | apply cons_le); decide) | (simp [sizeCap]; omega) | (unfold sizeCap; omega), by first | (apply cap2; (case h1 => repeat' first | assumption | apply app_le | apply nil_le | apply cons_le); (case h2 => repeat' first | assumption | apply app_le | apply nil_le | apply cons_le); decide) | (apply cap1; (case h1 => repeat' first | assumption | apply app_le | apply nil_le | apply cons_le); decide) | (simp [sizeCap]; omega) | (unfold sizeCap; omega), by first | (apply cap2; (case h1 => repeat' first | assumption | apply app_le | apply nil_le | apply cons_le); (case h2 => repeat' first | assumption | apply app_le | apply nil_le | apply cons_le); decide) | (apply cap1; (case h1 => repeat' first | assumption | apply app_le | apply nil_le | apply cons_le); decide) | (simp [sizeCap]; omega) | (unfold sizeCap; omega), by simp [toldT], Gs.refl⟩
theorem header_some {m : Nat} {word told t : List Nat} {tree : D} (h : Sim tree t) (hm : 60 ≤ m) (h1 : word.length ≤ 1000) (h2 : told.length ≤ 1000) : Txt (m + 1) 17 [.str word, tree, .str told] (word ++ ([32] ++ t ++ [59]) ++ toldT told ++ [32]) := by
  intro σ
  obtain ⟨kk, rest, rfl, hk⟩ := h.kind
  have hl := h.len
  refine call_fn (fd := G2_17) (ve := [some _, some _, some _, none]) rfl rfl ?_
  unfold G2_17
  dsimp only [Z1i, Z28, Z1r, Z23, Z26, Z1g, Z1b, Z21, Z1z, Z1y, Z1q, Z1e, Z1s, Z1c, Z1k, Z24, Z1f, Z1d, Z27, Z1u, Z1h, Z0z, Z6, Z7, Z5, Z4, Z0v, Z0u, Z0w, Z11, Z0x, Z10, Z0y, Z0j, Z0i, Zh, Zg, Ze, Zd, Zf, Z19, Z1a, Z13, Z14, Z18, Z17, Z16, Z15, Z0k, Z0l, Z0m, Z0n, Z0o, Z0p, Z0q, Z0r, Z0t, Z0s, w_add_str, w_add_int, w_add_ref, Z25, Z1x, Z1w, Z1j, Z22, w_eq_str, w_ne_str, w_eq_int, w_ne_int, w_eq_ref, Z1o, Z1p, Z1v, Z1t, Z1m, Z1l, Z1n, Z20, b_and_t, b_and_f, b_or_t, b_or_f, b_not_t, b_not_f, Z1, Z0, Z2, Z3, Z9, Zc, Zb, Z8, Za, Nat.reduceBEq, Int.reduceBEq, Int.reduceAdd, Int.reduceSub, Int.reduceNeg, Option.getD_some, Option.getD_none]
  refine (h.run m true hm σ).mono ?_
  rintro _ σ₁ ⟨rfl, g⟩
  cases told with
  | nil =>
    dsimp only [Z1i, Z28, Z1r, Z23, Z26, Z1g, Z1b, Z21, Z1z, Z1y, Z1q, Z1e, Z1s, Z1c, Z1k, Z24, Z1f, Z1d, Z27, Z1u, Z1h, Z0z, Z6, Z7, Z5, Z4, Z0v, Z0u, Z0w, Z11, Z0x, Z10, Z0y, Z0j, Z0i, Zh, Zg, Ze, Zd, Zf, Z19, Z1a, Z13, Z14, Z18, Z17, Z16, Z15, Z0k, Z0l, Z0m, Z0n, Z0o, Z0p, Z0q, Z0r, Z0t, Z0s, w_add_str, w_add_int, w_add_ref, Z25, Z1x, Z1w, Z1j, Z22, w_eq_str, w_ne_str, w_eq_int, w_ne_int, w_eq_ref, Z1o, Z1p, Z1v, Z1t, Z1m, Z1l, Z1n, Z20, b_and_t, b_and_f, b_or_t, b_or_f, b_not_t, b_not_f, Z1, Z0, Z2, Z3, Z9, Zc, Zb, Z8, Za, Nat.reduceBEq, Int.reduceBEq, Int.reduceAdd, Int.reduceSub, Int.reduceNeg, Option.getD_some, Option.getD_none]
    exact ⟨by first | (apply cap2; (case h1 => repeat' first | assumption | apply app_le | apply nil_le | apply cons_le); (case h2 => repeat' first | assumption | apply app_le | apply nil_le | apply cons_le); decide) | (apply cap1; (case h1 => repeat' first | assumption | apply app_le | apply nil_le | apply cons_le); decide) | (simp [sizeCap]; omega) | (unfold sizeCap; omega), by first | (apply cap2; (case h1 => repeat' first | assumption | apply app_le | apply nil_le | apply cons_le); (case h2 => repeat' first | assumption | apply app_le | apply nil_le | apply cons_le); decide) | (apply cap1; (case h1 => repeat' first | assumption | apply app_le | apply nil_le | apply cons_le); decide) | (simp [sizeCap]; omega) | (unfold sizeCap; omega), by first | (apply cap2; (case h1 => repeat' first | assumption | apply app_le | apply nil_le | apply cons_le); (case h2 => repeat' first | assumption | apply app_le | apply nil_le | apply cons_le); decide) | (apply cap1; (case h1 => repeat' first | assumption | apply app_le | apply nil_le | apply cons_le); decide) | (simp [sizeCap]; omega) | (unfold sizeCap; omega), by first | (apply cap2; (case h1 => repeat' first | assumption | apply app_le | apply nil_le | apply cons_le); (case h2 => repeat' first | assumption | apply app_le | apply nil_le | apply cons_le); decide) | (apply cap1; (case h1 => repeat' first | assumption | apply app_le | apply nil_le | apply cons_le); decide) | (simp [sizeCap]; omega) | (unfold sizeCap; omega), by first | (apply cap2; (case h1 => repeat' first | assumption | apply app_le | apply nil_le | apply cons_le); (case h2 => repeat' first | assumption | apply app_le | apply nil_le | apply cons_le); decide) | (apply cap1; (case h1 => repeat' first | assumption | apply app_le | apply nil_le | apply cons_le); decide) | (simp [sizeCap]; omega) | (unfold sizeCap; omega), by simp [toldT], g⟩
  | cons x s =>
    simp only [List.length_cons] at h2
    dsimp only [Z1i, Z28, Z1r, Z23, Z26, Z1g, Z1b, Z21, Z1z, Z1y, Z1q, Z1e, Z1s, Z1c, Z1k, Z24, Z1f, Z1d, Z27, Z1u, Z1h, Z0z, Z6, Z7, Z5, Z4, Z0v, Z0u, Z0w, Z11, Z0x, Z10, Z0y, Z0j, Z0i, Zh, Zg, Ze, Zd, Zf, Z19, Z1a, Z13, Z14, Z18, Z17, Z16, Z15, Z0k, Z0l, Z0m, Z0n, Z0o, Z0p, Z0q, Z0r, Z0t, Z0s, w_add_str, w_add_int, w_add_ref, Z25, Z1x, Z1w, Z1j, Z22, w_eq_str, w_ne_str, w_eq_int, w_ne_int, w_eq_ref, Z1o, Z1p, Z1v, Z1t, Z1m, Z1l, Z1n, Z20, b_and_t, b_and_f, b_or_t, b_or_f, b_not_t, b_not_f, Z1, Z0, Z2, Z3, Z9, Zc, Zb, Z8, Za, Nat.reduceBEq, Int.reduceBEq, Int.reduceAdd, Int.reduceSub, Int.reduceNeg, Option.getD_some, Option.getD_none]
    exact ⟨by first | (apply cap2; (case h1 => repeat' first | assumption | apply app_le | apply nil_le | apply cons_le); (case h2 => repeat' first | assumption | apply app_le | apply nil_le | apply cons_le); decide) | (apply cap1; (case h1 => repeat' first | assumption | apply app_le | apply nil_le | apply cons_le); decide) | (simp [sizeCap]; omega) | (unfold sizeCap; omega), by first | (apply cap2; (case h1 => repeat' first | assumption | apply app_le | apply nil_le | apply cons_le); (case h2 => repeat' first | assumption | apply app_le | apply nil_le | apply cons_le); decide) | (apply cap1; (case h1 => repeat' first | assumption | apply app_le | apply nil_le | apply cons_le); decide) | (simp [sizeCap]; omega) | (unfold sizeCap; omega), by first | (apply cap2; (case h1 => repeat' first | assumption | apply app_le | apply nil_le | apply cons_le); (case h2 => repeat' first | assumption | apply app_le | apply nil_le | apply cons_le); decide) | (apply cap1; (case h1 => repeat' first | assumption | apply app_le | apply nil_le | apply cons_le); decide) | (simp [sizeCap]; omega) | (unfold sizeCap; omega), by first | (apply cap2; (case h1 => repeat' first | assumption | apply app_le | apply nil_le | apply cons_le); (case h2 => repeat' first | assumption | apply app_le | apply nil_le | apply cons_le); decide) | (apply cap1; (case h1 => repeat' first | assumption | apply app_le | apply nil_le | apply cons_le); decide) | (simp [sizeCap]; omega) | (unfold sizeCap; omega), by first | (apply cap2; (case h1 => repeat' first | assumption | apply app_le | apply nil_le | apply cons_le); (case h2 => repeat' first | assumption | apply app_le | apply nil_le | apply cons_le); decide) | (apply cap1; (case h1 => repeat' first | assumption | apply app_le | apply nil_le | apply cons_le); decide) | (simp [sizeCap]; omega) | (unfold sizeCap; omega), by first | (apply cap2; (case h1 => repeat' first | assumption | apply app_le | apply nil_le | apply cons_le); (case h2 => repeat' first | assumption | apply app_le | apply nil_le | apply cons_le); decide) | (apply cap1; (case h1 => repeat' first | assumption | apply app_le | apply nil_le | apply cons_le); decide) | (simp [sizeCap]; omega) | (unfold sizeCap; omega), by simp [toldT], g⟩
end Mine
end

section
open PySem
namespace Mine
/-- rows, a text behind the last, and rows behind that -/
noncomputable def glue : List (List Nat) → List Nat → List (List Nat) → List (List Nat)
  | _, _, [] => []
  | [], t, m :: ms => (t ++ m) :: ms
  | [r], t, m :: ms => (r ++ t ++ m) :: ms
  | r :: r' :: rs, t, m :: ms => r :: glue (r' :: rs) t (m :: ms)
theorem join_head {a b : List Nat} {ms : List (List Nat)} : joinL [10] ((a ++ b) :: ms) = a ++ joinL [10] (b :: ms) := by
  cases ms with
  | nil => rfl
  | cons m ms =>
    show (a ++ b) ++ [10] ++ joinL [10] (m :: ms) = a ++ (b ++ [10] ++ joinL [10] (m :: ms))
    simp
theorem glue_ne : ∀ {rows : List (List Nat)} {t : List Nat} {m : List Nat} {ms : List (List Nat)}, glue rows t (m :: ms) ≠ []
  | [], _, _, _ => by simp [glue]
  | [r], _, _, _ => by simp [glue]
  | r :: r' :: rs, _, _, _ => by simp [glue]
theorem glue_join : ∀ {rows : List (List Nat)} {t m : List Nat} {ms : List (List Nat)}, joinL [10] (glue rows t (m :: ms)) = joinL [10] rows ++ t ++ joinL [10] (m :: ms)
  | [], t, m, ms => by
    show joinL [10] ((t ++ m) :: ms) = [] ++ t ++ _
    rw [join_head]; simp
  | [r], t, m, ms => by
    show joinL [10] ((r ++ t ++ m) :: ms) = r ++ t ++ _
    rw [join_head]
  | r :: r' :: rs, t, m, ms => by
    have ih := glue_join (rows := r' :: rs) (t := t) (m := m) (ms := ms)
    show joinL [10] (r :: glue (r' :: rs) t (m :: ms)) = (r ++ [10] ++ joinL [10] (r' :: rs)) ++ t ++ _
    cases h : glue (r' :: rs) t (m :: ms) with
    | nil => exact absurd h glue_ne
    | cons a l =>
      rw [h] at ih
      show r ++ [10] ++ joinL [10] (a :: l) = _
      rw [ih]
      simp

theorem glue_mem : ∀ {rows : List (List Nat)} {t m : List Nat} {ms : List (List Nat)} {x : List Nat}, x ∈ glue rows t (m :: ms) → x ∈ rows ∨ x ∈ ms ∨ x = t ++ m ∨ ∃ r ∈ rows, x = r ++ t ++ m
  | [], t, m, ms, x, h => by
    simp only [glue, List.mem_cons] at h
    rcases h with rfl | h
    · exact .inr (.inr (.inl rfl))
    · exact .inr (.inl h)
  | [r], t, m, ms, x, h => by
    simp only [glue, List.mem_cons] at h
    rcases h with rfl | h
    · exact .inr (.inr (.inr ⟨r, List.mem_cons_self .., rfl⟩))
    · exact .inr (.inl h)
  | r :: r' :: rs, t, m, ms, x, h => by
    simp only [glue, List.mem_cons] at h
    rcases h with rfl | h
    · exact .inl (List.mem_cons_self ..)
    · rcases glue_mem (rows := r' :: rs) h with h | h | h | ⟨q, hq, h⟩
      · exact .inl (List.mem_cons_of_mem _ h)
      · exact .inr (.inl h)
      · exact .inr (.inr (.inl h))
      · exact .inr (.inr (.inr ⟨q, List.mem_cons_of_mem _ hq, h⟩))
theorem glue_count : ∀ {rows : List (List Nat)} {t m : List Nat} {ms : List (List Nat)}, (glue rows t (m :: ms)).length ≤ rows.length + ms.length + 1
  | [], _, _, _ => by simp [glue]
  | [r], _, _, _ => by simp [glue]
  | r :: r' :: rs, t, m, ms => by
    have := glue_count (rows := r' :: rs) (t := t) (m := m) (ms := ms)
    show (glue (r' :: rs) t (m :: ms)).length + 1 ≤ _
    simp only [List.length_cons] at this ⊢
    omega
end Mine
end

section
open PySem
namespace Mine
theorem slice_ref {q : Nat} {lo hi : Option Int} {l : List D} {σ : Sto} {P : D → Sto → Prop} (h : σ[q]? = some l) (hl : l.length ≤ sizeCap) (hp : P (.ref σ.length) (σ ++ [cutOf l lo hi])) : RunO (opSlice (.ref q) lo hi none σ) P := by
  show RunO (match σ[q]? with | some l => if l.length ≤ sizeCap then some (D.ref σ.length, σ ++ [cutOf l lo hi]) else none | _ => none) P
  rw [h]
  dsimp only
  rw [if_pos hl]
  exact hp
theorem cut_tail {x : D} {l : List D} : cutOf (x :: l) (some 1) none = l := by
  simp [cutOf, clampIdx]
theorem cut_init {l : List D} {x : D} : cutOf (l ++ [x]) none (some (-1)) = l := by
  simp [cutOf, clampIdx]

theorem glue_snoc {rows : List (List Nat)} {r t m : List Nat} {ms : List (List Nat)} : glue (rows ++ [r]) t (m :: ms) = rows ++ ((r ++ t ++ m) :: ms) := by
  induction rows with
  | nil => rfl
  | cons a rows ih =>
    cases h : rows ++ [r] with
    | nil => simp at h
    | cons b l =>
      rw [h] at ih
      show glue (a :: (rows ++ [r])) t (m :: ms) = _
      rw [h]
      show a :: glue (b :: l) t (m :: ms) = _
      rw [ih]
      rfl
end Mine
end

section
open PySem
namespace Mine
theorem item_last {q : Nat} {x : D} {l : List D} {σ : Sto} {P : D → Sto → Prop} (h : σ[q]? = some (l ++ [x])) (hl : l.length ≤ 1000) (hp : P x σ) : RunO (opItem (.ref q) (.int (-1)) σ) P := by
  have e : seqIdx (-1) (l ++ [x]).length = some l.length := by
    unfold seqIdx
    rw [if_neg (by omega), if_pos (by simp)]
    simp
  have e2 : (l ++ [x])[l.length]? = some x := by simp
  unfold opItem
  dsimp only
  rw [smallInt_of (by omega) (by omega), if_pos rfl, h]
  dsimp only
  rw [e]
  dsimp only
  rw [e2]
  exact hp
theorem Gs.get {σ σ' : Sto} {j : Nat} {l : List D} (e : σ[j]? = some l) (g : Gs [] σ σ') : σ'[j]? = some l := g.at e (fun q => nomatch q)

theorem joined_ok {m q p : Nat} {rows ms : List (List Nat)} {text a : List Nat} {σ : Sto} (hq : σ[q]? = some (rows.map D.str)) (hp : σ[p]? = some ((a :: ms).map D.str)) (h1 : rows.length ≤ 1000) (h2 : ms.length ≤ 1000) (h3 : ∀ r ∈ rows, r.length ≤ 10000) (h4 : text.length ≤ 10000) (h5 : a.length ≤ 10000) :
    RunO (C2 (m + 1) 29 [.ref q, .str text, .ref p] σ) fun d σ' => ∃ r, d = .ref r ∧ σ'[r]? = some ((glue rows text (a :: ms)).map D.str) ∧ Gs [] σ σ' ∧ σ.length ≤ r := by
  refine call_fn (fd := G2_29) (ve := [some _, some _, some _]) rfl rfl ?_
  unfold G2_29
  have hql := get_lt hq
  have g0 : Gs [] σ (σ ++ [[]]) := Gs.app
  have hq' := g0.get hq
  have hp' := g0.get hp
  generalize hs0 : σ.length = s0
  dsimp only [Z1i, Z28, Z1r, Z23, Z26, Z1g, Z1b, Z21, Z1z, Z1y, Z1q, Z1e, Z1s, Z1c, Z1k, Z24, Z1f, Z1d, Z27, Z1u, Z1h, Z0z, Z6, Z7, Z5, Z4, Z0v, Z0u, Z0w, Z11, Z0x, Z10, Z0y, Z0j, Z0i, Zh, Zg, Ze, Zd, Zf, Z19, Z1a, Z13, Z14, Z18, Z17, Z16, Z15, Z0k, Z0l, Z0m, Z0n, Z0o, Z0p, Z0q, Z0r, Z0t, Z0s, w_add_str, w_add_int, w_add_ref, Z25, Z1x, Z1w, Z1j, Z22, w_eq_str, w_ne_str, w_eq_int, w_ne_int, w_eq_ref, Z1o, Z1p, Z1v, Z1t, Z1m, Z1l, Z1n, Z20, b_and_t, b_and_f, b_or_t, b_or_f, b_not_t, b_not_f, Z1, Z0, Z2, Z3, Z9, Zc, Zb, Z8, Za, Nat.reduceBEq, Int.reduceBEq, Int.reduceAdd, Int.reduceSub, Int.reduceNeg, Option.getD_some, Option.getD_none]
  refine eq_empty hq' get_new (by omega) ?_
  have hl0 : s0 ≤ (σ ++ [[]]).length := by simp; omega
  generalize σ ++ [[]] = σ₁ at *
  rcases List.eq_nil_or_concat rows with rfl | ⟨rs, r, hrs⟩
  · show OnBool (.bool true) _ _
    dsimp only [Z1i, Z28, Z1r, Z23, Z26, Z1g, Z1b, Z21, Z1z, Z1y, Z1q, Z1e, Z1s, Z1c, Z1k, Z24, Z1f, Z1d, Z27, Z1u, Z1h, Z0z, Z6, Z7, Z5, Z4, Z0v, Z0u, Z0w, Z11, Z0x, Z10, Z0y, Z0j, Z0i, Zh, Zg, Ze, Zd, Zf, Z19, Z1a, Z13, Z14, Z18, Z17, Z16, Z15, Z0k, Z0l, Z0m, Z0n, Z0o, Z0p, Z0q, Z0r, Z0t, Z0s, w_add_str, w_add_int, w_add_ref, Z25, Z1x, Z1w, Z1j, Z22, w_eq_str, w_ne_str, w_eq_int, w_ne_int, w_eq_ref, Z1o, Z1p, Z1v, Z1t, Z1m, Z1l, Z1n, Z20, b_and_t, b_and_f, b_or_t, b_or_f, b_not_t, b_not_f, Z1, Z0, Z2, Z3, Z9, Zc, Zb, Z8, Za, Nat.reduceBEq, Int.reduceBEq, Int.reduceAdd, Int.reduceSub, Int.reduceNeg, Option.getD_some, Option.getD_none]
    refine item_at hp' ?_
    simp only [Z1i, Z28, Z1r, Z23, Z26, Z1g, Z1b, Z21, Z1z, Z1y, Z1q, Z1e, Z1s, Z1c, Z1k, Z24, Z1f, Z1d, Z27, Z1u, Z1h, Z0z, Z6, Z7, Z5, Z4, Z0v, Z0u, Z0w, Z11, Z0x, Z10, Z0y, Z0j, Z0i, Zh, Zg, Ze, Zd, Zf, Z19, Z1a, Z13, Z14, Z18, Z17, Z16, Z15, Z0k, Z0l, Z0m, Z0n, Z0o, Z0p, Z0q, Z0r, Z0t, Z0s, w_add_str, w_add_int, w_add_ref, Z25, Z1x, Z1w, Z1j, Z22, w_eq_str, w_ne_str, w_eq_int, w_ne_int, w_eq_ref, Z1o, Z1p, Z1v, Z1t, Z1m, Z1l, Z1n, Z20, b_and_t, b_and_f, b_or_t, b_or_f, b_not_t, b_not_f, Z1, Z0, Z2, Z3, Z9, Zc, Zb, Z8, Za, Nat.reduceBEq, Int.reduceBEq, Int.reduceAdd, Int.reduceSub, Int.reduceNeg, Option.getD_some, Option.getD_none, item_0, item_1, item_2, item_3, item_4, item_5, item_6, notin_tup, in_tup, in_str, strsOf_nil, strsOf_cons, str_7, len_str, len_ref, range_int, List.any_cons, List.any_nil, Bool.or_false, Bool.false_or, Bool.or_true, Bool.true_or, Bool.true_and, Bool.false_and, Bool.and_true, Bool.and_false, Bool.not_true, Bool.not_false, List.contains_cons, List.contains_nil, beq_self_eq_true, true_and, and_true, Int.reduceEq, Int.reduceLT, Int.reduceLE, decide_true, decide_false, List.length_cons, List.length_nil, Nat.reduceAdd, Nat.reduceLeDiff, eq_self, item_0, List.map_cons]
    refine ⟨by first | (apply cap2; (case h1 => repeat' first | assumption | apply app_le | apply nil_le | apply cons_le); (case h2 => repeat' first | assumption | apply app_le | apply nil_le | apply cons_le); decide) | (apply cap1; (case h1 => repeat' first | assumption | apply app_le | apply nil_le | apply cons_le); decide) | (simp [sizeCap]; omega) | (unfold sizeCap; omega), ?_⟩
    have hp2 := (Gs.app (l := [[D.str (text ++ a)]])).get hp'
    refine slice_ref hp2 (by first | (apply cap2; (case h1 => repeat' first | assumption | apply app_le | apply nil_le | apply cons_le); (case h2 => repeat' first | assumption | apply app_le | apply nil_le | apply cons_le); decide) | (apply cap1; (case h1 => repeat' first | assumption | apply app_le | apply nil_le | apply cons_le); decide) | (simp [sizeCap]; omega) | (unfold sizeCap; omega)) ?_
    rw [List.map_cons, cut_tail]
    have hx : (σ₁ ++ [[D.str (text ++ a)]] ++ [ms.map D.str])[σ₁.length]? = some [D.str (text ++ a)] := by
      simp [List.getElem?_append]
    have hy : (σ₁ ++ [[D.str (text ++ a)]] ++ [ms.map D.str])[(σ₁ ++ [[D.str (text ++ a)]]).length]? = some (ms.map D.str) := get_new
    try dsimp only [Z1i, Z28, Z1r, Z23, Z26, Z1g, Z1b, Z21, Z1z, Z1y, Z1q, Z1e, Z1s, Z1c, Z1k, Z24, Z1f, Z1d, Z27, Z1u, Z1h, Z0z, Z6, Z7, Z5, Z4, Z0v, Z0u, Z0w, Z11, Z0x, Z10, Z0y, Z0j, Z0i, Zh, Zg, Ze, Zd, Zf, Z19, Z1a, Z13, Z14, Z18, Z17, Z16, Z15, Z0k, Z0l, Z0m, Z0n, Z0o, Z0p, Z0q, Z0r, Z0t, Z0s, w_add_str, w_add_int, w_add_ref, Z25, Z1x, Z1w, Z1j, Z22, w_eq_str, w_ne_str, w_eq_int, w_ne_int, w_eq_ref, Z1o, Z1p, Z1v, Z1t, Z1m, Z1l, Z1n, Z20, b_and_t, b_and_f, b_or_t, b_or_f, b_not_t, b_not_f, Z1, Z0, Z2, Z3, Z9, Zc, Zb, Z8, Za, Nat.reduceBEq, Int.reduceBEq, Int.reduceAdd, Int.reduceSub, Int.reduceNeg, Option.getD_some, Option.getD_none]
    rw [add_ref hx hy (by first | (apply cap2; (case h1 => repeat' first | assumption | apply app_le | apply nil_le | apply cons_le); (case h2 => repeat' first | assumption | apply app_le | apply nil_le | apply cons_le); decide) | (apply cap1; (case h1 => repeat' first | assumption | apply app_le | apply nil_le | apply cons_le); decide) | (simp [sizeCap]; omega) | (unfold sizeCap; omega))]
    refine ⟨_, rfl, ?_, g0.trans ((Gs.app.trans Gs.app).trans Gs.app), by simp; omega⟩
    rw [get_new]; rfl
  · rw [List.concat_eq_append] at hrs
    subst hrs
    rw [List.map_append] at hq' hq
    have he : ((rs ++ [r]).map D.str).isEmpty = false := by simp
    rw [he]
    simp only [List.length_append, List.length_cons, List.length_nil] at h1
    have hr := h3 r (by simp)
    dsimp only [Z1i, Z28, Z1r, Z23, Z26, Z1g, Z1b, Z21, Z1z, Z1y, Z1q, Z1e, Z1s, Z1c, Z1k, Z24, Z1f, Z1d, Z27, Z1u, Z1h, Z0z, Z6, Z7, Z5, Z4, Z0v, Z0u, Z0w, Z11, Z0x, Z10, Z0y, Z0j, Z0i, Zh, Zg, Ze, Zd, Zf, Z19, Z1a, Z13, Z14, Z18, Z17, Z16, Z15, Z0k, Z0l, Z0m, Z0n, Z0o, Z0p, Z0q, Z0r, Z0t, Z0s, w_add_str, w_add_int, w_add_ref, Z25, Z1x, Z1w, Z1j, Z22, w_eq_str, w_ne_str, w_eq_int, w_ne_int, w_eq_ref, Z1o, Z1p, Z1v, Z1t, Z1m, Z1l, Z1n, Z20, b_and_t, b_and_f, b_or_t, b_or_f, b_not_t, b_not_f, Z1, Z0, Z2, Z3, Z9, Zc, Zb, Z8, Za, Nat.reduceBEq, Int.reduceBEq, Int.reduceAdd, Int.reduceSub, Int.reduceNeg, Option.getD_some, Option.getD_none]
    refine slice_ref hq' (by first | (apply cap2; (case h1 => repeat' first | assumption | apply app_le | apply nil_le | apply cons_le); (case h2 => repeat' first | assumption | apply app_le | apply nil_le | apply cons_le); decide) | (apply cap1; (case h1 => repeat' first | assumption | apply app_le | apply nil_le | apply cons_le); decide) | (simp [sizeCap]; omega) | (unfold sizeCap; omega)) ?_
    have ec : cutOf (rs.map D.str ++ [r].map D.str) none (some (-1)) = rs.map D.str := cut_init
    rw [ec]
    have g2 : Gs [] σ₁ (σ₁ ++ [rs.map D.str]) := Gs.app
    have hq2 := g2.get hq'
    have hp2 := g2.get hp'
    have hc2 : (σ₁ ++ [rs.map D.str])[σ₁.length]? = some (rs.map D.str) := get_new
    dsimp only [Z1i, Z28, Z1r, Z23, Z26, Z1g, Z1b, Z21, Z1z, Z1y, Z1q, Z1e, Z1s, Z1c, Z1k, Z24, Z1f, Z1d, Z27, Z1u, Z1h, Z0z, Z6, Z7, Z5, Z4, Z0v, Z0u, Z0w, Z11, Z0x, Z10, Z0y, Z0j, Z0i, Zh, Zg, Ze, Zd, Zf, Z19, Z1a, Z13, Z14, Z18, Z17, Z16, Z15, Z0k, Z0l, Z0m, Z0n, Z0o, Z0p, Z0q, Z0r, Z0t, Z0s, w_add_str, w_add_int, w_add_ref, Z25, Z1x, Z1w, Z1j, Z22, w_eq_str, w_ne_str, w_eq_int, w_ne_int, w_eq_ref, Z1o, Z1p, Z1v, Z1t, Z1m, Z1l, Z1n, Z20, b_and_t, b_and_f, b_or_t, b_or_f, b_not_t, b_not_f, Z1, Z0, Z2, Z3, Z9, Zc, Zb, Z8, Za, Nat.reduceBEq, Int.reduceBEq, Int.reduceAdd, Int.reduceSub, Int.reduceNeg, Option.getD_some, Option.getD_none]
    refine item_last hq2 (by simp; omega) ?_
    dsimp only [Z1i, Z28, Z1r, Z23, Z26, Z1g, Z1b, Z21, Z1z, Z1y, Z1q, Z1e, Z1s, Z1c, Z1k, Z24, Z1f, Z1d, Z27, Z1u, Z1h, Z0z, Z6, Z7, Z5, Z4, Z0v, Z0u, Z0w, Z11, Z0x, Z10, Z0y, Z0j, Z0i, Zh, Zg, Ze, Zd, Zf, Z19, Z1a, Z13, Z14, Z18, Z17, Z16, Z15, Z0k, Z0l, Z0m, Z0n, Z0o, Z0p, Z0q, Z0r, Z0t, Z0s, w_add_str, w_add_int, w_add_ref, Z25, Z1x, Z1w, Z1j, Z22, w_eq_str, w_ne_str, w_eq_int, w_ne_int, w_eq_ref, Z1o, Z1p, Z1v, Z1t, Z1m, Z1l, Z1n, Z20, b_and_t, b_and_f, b_or_t, b_or_f, b_not_t, b_not_f, Z1, Z0, Z2, Z3, Z9, Zc, Zb, Z8, Za, Nat.reduceBEq, Int.reduceBEq, Int.reduceAdd, Int.reduceSub, Int.reduceNeg, Option.getD_some, Option.getD_none]
    refine ⟨by first | (apply cap2; (case h1 => repeat' first | assumption | apply app_le | apply nil_le | apply cons_le); (case h2 => repeat' first | assumption | apply app_le | apply nil_le | apply cons_le); decide) | (apply cap1; (case h1 => repeat' first | assumption | apply app_le | apply nil_le | apply cons_le); decide) | (simp [sizeCap]; omega) | (unfold sizeCap; omega), ?_⟩
    refine item_at hp2 ?_
    simp only [Z1i, Z28, Z1r, Z23, Z26, Z1g, Z1b, Z21, Z1z, Z1y, Z1q, Z1e, Z1s, Z1c, Z1k, Z24, Z1f, Z1d, Z27, Z1u, Z1h, Z0z, Z6, Z7, Z5, Z4, Z0v, Z0u, Z0w, Z11, Z0x, Z10, Z0y, Z0j, Z0i, Zh, Zg, Ze, Zd, Zf, Z19, Z1a, Z13, Z14, Z18, Z17, Z16, Z15, Z0k, Z0l, Z0m, Z0n, Z0o, Z0p, Z0q, Z0r, Z0t, Z0s, w_add_str, w_add_int, w_add_ref, Z25, Z1x, Z1w, Z1j, Z22, w_eq_str, w_ne_str, w_eq_int, w_ne_int, w_eq_ref, Z1o, Z1p, Z1v, Z1t, Z1m, Z1l, Z1n, Z20, b_and_t, b_and_f, b_or_t, b_or_f, b_not_t, b_not_f, Z1, Z0, Z2, Z3, Z9, Zc, Zb, Z8, Za, Nat.reduceBEq, Int.reduceBEq, Int.reduceAdd, Int.reduceSub, Int.reduceNeg, Option.getD_some, Option.getD_none, item_0, item_1, item_2, item_3, item_4, item_5, item_6, notin_tup, in_tup, in_str, strsOf_nil, strsOf_cons, str_7, len_str, len_ref, range_int, List.any_cons, List.any_nil, Bool.or_false, Bool.false_or, Bool.or_true, Bool.true_or, Bool.true_and, Bool.false_and, Bool.and_true, Bool.and_false, Bool.not_true, Bool.not_false, List.contains_cons, List.contains_nil, beq_self_eq_true, true_and, and_true, Int.reduceEq, Int.reduceLT, Int.reduceLE, decide_true, decide_false, List.length_cons, List.length_nil, Nat.reduceAdd, Nat.reduceLeDiff, eq_self, item_0, List.map_cons]
    refine ⟨by first | (apply cap2; (case h1 => repeat' first | assumption | apply app_le | apply nil_le | apply cons_le); (case h2 => repeat' first | assumption | apply app_le | apply nil_le | apply cons_le); decide) | (apply cap1; (case h1 => repeat' first | assumption | apply app_le | apply nil_le | apply cons_le); decide) | (simp [sizeCap]; omega) | (unfold sizeCap; omega), ?_⟩
    have hn2 : (σ₁ ++ [rs.map D.str]).length = σ₁.length + 1 := by simp
    have gl2 : Gs [] σ (σ₁ ++ [rs.map D.str]) := g0.trans g2
    generalize σ₁ ++ [rs.map D.str] = σ₂ at *
    have hc3 := (Gs.app (l := [[D.str (r ++ text ++ a)]])).get hc2
    rw [add_ref hc3 get_new (by first | (apply cap2; (case h1 => repeat' first | assumption | apply app_le | apply nil_le | apply cons_le); (case h2 => repeat' first | assumption | apply app_le | apply nil_le | apply cons_le); decide) | (apply cap1; (case h1 => repeat' first | assumption | apply app_le | apply nil_le | apply cons_le); decide) | (simp [sizeCap]; omega) | (unfold sizeCap; omega))]
    have gl3 : Gs [] σ (σ₂ ++ [[D.str (r ++ text ++ a)]] ++ [rs.map D.str ++ [D.str (r ++ text ++ a)]]) := gl2.trans (Gs.app.trans Gs.app)
    have hp3 := (Gs.app.trans Gs.app : Gs [] σ₂ (σ₂ ++ [[D.str (r ++ text ++ a)]] ++ [rs.map D.str ++ [D.str (r ++ text ++ a)]])).get hp2
    have hd3 : (σ₂ ++ [[D.str (r ++ text ++ a)]] ++ [rs.map D.str ++ [D.str (r ++ text ++ a)]])[(σ₂ ++ [[D.str (r ++ text ++ a)]]).length]? = some (rs.map D.str ++ [D.str (r ++ text ++ a)]) := get_new
    have hn3 : (σ₂ ++ [[D.str (r ++ text ++ a)]] ++ [rs.map D.str ++ [D.str (r ++ text ++ a)]]).length = σ₂.length + 2 := by simp
    generalize (σ₂ ++ [[D.str (r ++ text ++ a)]]).length = d3 at *
    generalize σ₂ ++ [[D.str (r ++ text ++ a)]] ++ [rs.map D.str ++ [D.str (r ++ text ++ a)]] = σ₃ at *
    refine slice_ref hp3 (by first | (apply cap2; (case h1 => repeat' first | assumption | apply app_le | apply nil_le | apply cons_le); (case h2 => repeat' first | assumption | apply app_le | apply nil_le | apply cons_le); decide) | (apply cap1; (case h1 => repeat' first | assumption | apply app_le | apply nil_le | apply cons_le); decide) | (simp [sizeCap]; omega) | (unfold sizeCap; omega)) ?_
    rw [List.map_cons, cut_tail]
    try dsimp only [Z1i, Z28, Z1r, Z23, Z26, Z1g, Z1b, Z21, Z1z, Z1y, Z1q, Z1e, Z1s, Z1c, Z1k, Z24, Z1f, Z1d, Z27, Z1u, Z1h, Z0z, Z6, Z7, Z5, Z4, Z0v, Z0u, Z0w, Z11, Z0x, Z10, Z0y, Z0j, Z0i, Zh, Zg, Ze, Zd, Zf, Z19, Z1a, Z13, Z14, Z18, Z17, Z16, Z15, Z0k, Z0l, Z0m, Z0n, Z0o, Z0p, Z0q, Z0r, Z0t, Z0s, w_add_str, w_add_int, w_add_ref, Z25, Z1x, Z1w, Z1j, Z22, w_eq_str, w_ne_str, w_eq_int, w_ne_int, w_eq_ref, Z1o, Z1p, Z1v, Z1t, Z1m, Z1l, Z1n, Z20, b_and_t, b_and_f, b_or_t, b_or_f, b_not_t, b_not_f, Z1, Z0, Z2, Z3, Z9, Zc, Zb, Z8, Za, Nat.reduceBEq, Int.reduceBEq, Int.reduceAdd, Int.reduceSub, Int.reduceNeg, Option.getD_some, Option.getD_none]
    rw [add_ref ((Gs.app (l := [ms.map D.str])).get hd3) get_new (by first | (apply cap2; (case h1 => repeat' first | assumption | apply app_le | apply nil_le | apply cons_le); (case h2 => repeat' first | assumption | apply app_le | apply nil_le | apply cons_le); decide) | (apply cap1; (case h1 => repeat' first | assumption | apply app_le | apply nil_le | apply cons_le); decide) | (simp [sizeCap]; omega) | (unfold sizeCap; omega))]
    refine ⟨_, rfl, ?_, gl3.trans (Gs.app.trans Gs.app), by simp; omega⟩
    rw [get_new, glue_snoc]
    simp
end Mine
end

section
open PySem
namespace Mine
theorem wloop_ways {α : Type} {test : VEnv → Sto → Option (D × Sto)} {body : VEnv → Sto → Option (Option D × VEnv × Sto)} (Inv : List α → VEnv → Sto → Prop)
    (stop : ∀ ve σ, Inv [] ve σ → RunO (test ve σ) fun d σ' => d = .bool false ∧ Inv [] ve σ')
    (step : ∀ w ws ve σ, Inv (w :: ws) ve σ → RunO (test ve σ) fun d σ₁ => d = .bool true ∧ RunX (body ve σ₁) fun r ve₁ σ₂ => r = none ∧ Inv ws ve₁ σ₂) :
    ∀ (ws : List α) (fuel : Nat) (ve : VEnv) (σ : Sto), ws.length < fuel → Inv ws ve σ → RunX (wloop test body fuel ve σ) fun r ve' σ' => r = none ∧ Inv [] ve' σ'
  | _, 0, _, _, h, _ => absurd h (Nat.not_lt_zero _)
  | [], n + 1, ve, σ, h, hv => by
    obtain ⟨d, σ', e, rfl, h2⟩ := (stop ve σ hv).out
    simp only [wl_S]
    rw [e]
    exact ⟨rfl, h2⟩
  | w :: ws, n + 1, ve, σ, h, hv => by
    obtain ⟨d, σ₁, e, rfl, h2⟩ := (step w ws ve σ hv).out
    obtain ⟨r, ve₁, σ₂, e2, rfl, h3⟩ := h2.out
    simp only [wl_S]
    rw [e]
    dsimp only
    rw [e2]
    exact wloop_ways Inv stop step ws n ve₁ σ₂ (by simp only [List.length_cons] at h; omega) h3
theorem Gs.setNew {r : Nat} {σ σ' : Sto} {l : List D} (h : Gs [] σ σ') (hr : σ.length ≤ r) : Gs [] σ (σ'.set r l) := by
  refine ⟨by rw [List.length_set]; exact h.1, fun j hj hm => ?_⟩
  rw [List.getElem?_set_ne (by omega)]
  exact h.2 j hj hm

/-- a way of a choice, beside its texts -/
structure Way where
  init : D
  told : D
  block : D
  t : List Nat
  head : List Nat
  bt : List Nat
structure WayOK (K : Nat) (w : Way) : Prop where
  cond : ∀ n, K ≤ n → Txt n 2 [w.told, .int 0, .bool true] w.t
  hdr : ∀ n, K ≤ n → Txt n 17 [.str [105, 102], w.init, .str w.t] w.head
  blk : ∀ n, K ≤ n → Txt n 12 [w.block] w.bt
  hl : w.head.length ≤ 1000
  bl : w.bt.length ≤ 20000
noncomputable def LastOK (K : Nat) (last : D) (lt : List (List Nat)) : Prop := (last = .none ∧ lt = []) ∨ ∃ rest bt, last = .tup (.str [98, 108, 111, 99, 107] :: rest) ∧ lt = [bt] ∧ (∀ n, K ≤ n → Txt n 12 [last] bt) ∧ bt.length ≤ 20000
noncomputable def choiceD : List Way → D → D
  | [], last => last
  | w :: ws, last => .tup [.str [105, 102], .int 1, w.init, w.told, w.block, choiceD ws last]

theorem choice_ok {m K : Nat} {ws : List Way} {last : D} {lt : List (List Nat)} (hw : ∀ w ∈ ws, WayOK K w) (hl : LastOK K last lt) (hn : ws.length ≤ 3) (hm : K ≤ m) :
    Txt (m + 1) 18 [choiceD ws last] (joinL [32, 101, 108, 115, 101, 32] (ws.map (fun w => w.head ++ w.bt) ++ lt)) := by
  intro σ
  refine call_fn (fd := G2_18) (ve := [some _, none, none]) rfl rfl ?_
  unfold G2_18
  have g0 : Gs [] σ (σ ++ [[]]) := Gs.app
  have hq0 : (σ ++ [[]])[σ.length]? = some (([] : List (List Nat)).map D.str) := get_new
  dsimp only [Z1i, Z28, Z1r, Z23, Z26, Z1g, Z1b, Z21, Z1z, Z1y, Z1q, Z1e, Z1s, Z1c, Z1k, Z24, Z1f, Z1d, Z27, Z1u, Z1h, Z0z, Z6, Z7, Z5, Z4, Z0v, Z0u, Z0w, Z11, Z0x, Z10, Z0y, Z0j, Z0i, Zh, Zg, Ze, Zd, Zf, Z19, Z1a, Z13, Z14, Z18, Z17, Z16, Z15, Z0k, Z0l, Z0m, Z0n, Z0o, Z0p, Z0q, Z0r, Z0t, Z0s, w_add_str, w_add_int, w_add_ref, Z25, Z1x, Z1w, Z1j, Z22, w_eq_str, w_ne_str, w_eq_int, w_ne_int, w_eq_ref, Z1o, Z1p, Z1v, Z1t, Z1m, Z1l, Z1n, Z20, b_and_t, b_and_f, b_or_t, b_or_f, b_not_t, b_not_f, Z1, Z0, Z2, Z3, Z9, Zc, Zb, Z8, Za, Nat.reduceBEq, Int.reduceBEq, Int.reduceAdd, Int.reduceSub, Int.reduceNeg, Option.getD_some, Option.getD_none, Z12]
  refine RunX.mono (wloop_ways (α := Way) (Inv := fun (l : List Way) ve σ' => ∃ z xs, ve = [some (choiceD l last), some (.ref σ.length), z] ∧ (∀ w ∈ l, WayOK K w) ∧ xs ++ l.map (fun w : Way => w.head ++ w.bt) = ws.map (fun w => w.head ++ w.bt) ∧ σ'[σ.length]? = some (xs.map D.str) ∧ Gs [] σ σ') ?_ ?_ ws 20 _ _ (by omega) ⟨_, [], rfl, hw, rfl, hq0, g0⟩) ?_
  · rintro ve σ' ⟨z, xs, rfl, h1, h2, h3, h4⟩
    have fin : ∃ z' xs', [some last, some (.ref σ.length), z] = [some (choiceD [] last), some (.ref σ.length), z'] ∧ (∀ w ∈ ([] : List Way), WayOK K w) ∧ xs' ++ List.map (fun w : Way => w.head ++ w.bt) [] = ws.map (fun w => w.head ++ w.bt) ∧ σ'[σ.length]? = some (xs'.map D.str) ∧ Gs [] σ σ' := ⟨z, xs, rfl, h1, h2, h3, h4⟩
    refine wE_ok _ _ _ _ ?_
    show wE _ _ _ [some last, some (.ref σ.length), z] _ _
    rcases hl with ⟨rfl, rfl⟩ | ⟨rest, bt, rfl, rfl, hb, hbl⟩
    · dsimp only [Z1i, Z28, Z1r, Z23, Z26, Z1g, Z1b, Z21, Z1z, Z1y, Z1q, Z1e, Z1s, Z1c, Z1k, Z24, Z1f, Z1d, Z27, Z1u, Z1h, Z0z, Z6, Z7, Z5, Z4, Z0v, Z0u, Z0w, Z11, Z0x, Z10, Z0y, Z0j, Z0i, Zh, Zg, Ze, Zd, Zf, Z19, Z1a, Z13, Z14, Z18, Z17, Z16, Z15, Z0k, Z0l, Z0m, Z0n, Z0o, Z0p, Z0q, Z0r, Z0t, Z0s, w_add_str, w_add_int, w_add_ref, Z25, Z1x, Z1w, Z1j, Z22, w_eq_str, w_ne_str, w_eq_int, w_ne_int, w_eq_ref, Z1o, Z1p, Z1v, Z1t, Z1m, Z1l, Z1n, Z20, b_and_t, b_and_f, b_or_t, b_or_f, b_not_t, b_not_f, Z1, Z0, Z2, Z3, Z9, Zc, Zb, Z8, Za, Nat.reduceBEq, Int.reduceBEq, Int.reduceAdd, Int.reduceSub, Int.reduceNeg, Option.getD_some, Option.getD_none]
      exact ⟨rfl, fin⟩
    · dsimp only [Z1i, Z28, Z1r, Z23, Z26, Z1g, Z1b, Z21, Z1z, Z1y, Z1q, Z1e, Z1s, Z1c, Z1k, Z24, Z1f, Z1d, Z27, Z1u, Z1h, Z0z, Z6, Z7, Z5, Z4, Z0v, Z0u, Z0w, Z11, Z0x, Z10, Z0y, Z0j, Z0i, Zh, Zg, Ze, Zd, Zf, Z19, Z1a, Z13, Z14, Z18, Z17, Z16, Z15, Z0k, Z0l, Z0m, Z0n, Z0o, Z0p, Z0q, Z0r, Z0t, Z0s, w_add_str, w_add_int, w_add_ref, Z25, Z1x, Z1w, Z1j, Z22, w_eq_str, w_ne_str, w_eq_int, w_ne_int, w_eq_ref, Z1o, Z1p, Z1v, Z1t, Z1m, Z1l, Z1n, Z20, b_and_t, b_and_f, b_or_t, b_or_f, b_not_t, b_not_f, Z1, Z0, Z2, Z3, Z9, Zc, Zb, Z8, Za, Nat.reduceBEq, Int.reduceBEq, Int.reduceAdd, Int.reduceSub, Int.reduceNeg, Option.getD_some, Option.getD_none]
      exact ⟨rfl, fin⟩
  · rintro w l ve σ' ⟨z, xs, rfl, h1, h2, h3, h4⟩
    have hwk := h1 w (List.mem_cons_self ..)
    have l1 := hwk.hl
    have l2 := hwk.bl
    have hxl : xs.length ≤ 3 := by
      have := congrArg List.length h2
      simp at this
      omega
    refine wE_ok _ _ _ _ ?_
    dsimp only [Z1i, Z28, Z1r, Z23, Z26, Z1g, Z1b, Z21, Z1z, Z1y, Z1q, Z1e, Z1s, Z1c, Z1k, Z24, Z1f, Z1d, Z27, Z1u, Z1h, Z0z, Z6, Z7, Z5, Z4, Z0v, Z0u, Z0w, Z11, Z0x, Z10, Z0y, Z0j, Z0i, Zh, Zg, Ze, Zd, Zf, Z19, Z1a, Z13, Z14, Z18, Z17, Z16, Z15, Z0k, Z0l, Z0m, Z0n, Z0o, Z0p, Z0q, Z0r, Z0t, Z0s, w_add_str, w_add_int, w_add_ref, Z25, Z1x, Z1w, Z1j, Z22, w_eq_str, w_ne_str, w_eq_int, w_ne_int, w_eq_ref, Z1o, Z1p, Z1v, Z1t, Z1m, Z1l, Z1n, Z20, b_and_t, b_and_f, b_or_t, b_or_f, b_not_t, b_not_f, Z1, Z0, Z2, Z3, Z9, Zc, Zb, Z8, Za, Nat.reduceBEq, Int.reduceBEq, Int.reduceAdd, Int.reduceSub, Int.reduceNeg, Option.getD_some, Option.getD_none, choiceD]
    refine ⟨rfl, ?_⟩
    refine wB_ok _ _ _ _ ?_
    dsimp only [Z1i, Z28, Z1r, Z23, Z26, Z1g, Z1b, Z21, Z1z, Z1y, Z1q, Z1e, Z1s, Z1c, Z1k, Z24, Z1f, Z1d, Z27, Z1u, Z1h, Z0z, Z6, Z7, Z5, Z4, Z0v, Z0u, Z0w, Z11, Z0x, Z10, Z0y, Z0j, Z0i, Zh, Zg, Ze, Zd, Zf, Z19, Z1a, Z13, Z14, Z18, Z17, Z16, Z15, Z0k, Z0l, Z0m, Z0n, Z0o, Z0p, Z0q, Z0r, Z0t, Z0s, w_add_str, w_add_int, w_add_ref, Z25, Z1x, Z1w, Z1j, Z22, w_eq_str, w_ne_str, w_eq_int, w_ne_int, w_eq_ref, Z1o, Z1p, Z1v, Z1t, Z1m, Z1l, Z1n, Z20, b_and_t, b_and_f, b_or_t, b_or_f, b_not_t, b_not_f, Z1, Z0, Z2, Z3, Z9, Zc, Zb, Z8, Za, Nat.reduceBEq, Int.reduceBEq, Int.reduceAdd, Int.reduceSub, Int.reduceNeg, Option.getD_some, Option.getD_none, choiceD]
    refine (hwk.cond m hm σ').mono ?_
    rintro _ σ₁ ⟨rfl, g1⟩
    refine (hwk.hdr m hm σ₁).mono ?_
    rintro _ σ₂ ⟨rfl, g2⟩
    refine (hwk.blk m hm σ₂).mono ?_
    rintro _ σ₃ ⟨rfl, g3⟩
    have g13 := (g1.trans g2).trans g3
    have h5 := g13.get h3
    dsimp only [Z1i, Z28, Z1r, Z23, Z26, Z1g, Z1b, Z21, Z1z, Z1y, Z1q, Z1e, Z1s, Z1c, Z1k, Z24, Z1f, Z1d, Z27, Z1u, Z1h, Z0z, Z6, Z7, Z5, Z4, Z0v, Z0u, Z0w, Z11, Z0x, Z10, Z0y, Z0j, Z0i, Zh, Zg, Ze, Zd, Zf, Z19, Z1a, Z13, Z14, Z18, Z17, Z16, Z15, Z0k, Z0l, Z0m, Z0n, Z0o, Z0p, Z0q, Z0r, Z0t, Z0s, w_add_str, w_add_int, w_add_ref, Z25, Z1x, Z1w, Z1j, Z22, w_eq_str, w_ne_str, w_eq_int, w_ne_int, w_eq_ref, Z1o, Z1p, Z1v, Z1t, Z1m, Z1l, Z1n, Z20, b_and_t, b_and_f, b_or_t, b_or_f, b_not_t, b_not_f, Z1, Z0, Z2, Z3, Z9, Zc, Zb, Z8, Za, Nat.reduceBEq, Int.reduceBEq, Int.reduceAdd, Int.reduceSub, Int.reduceNeg, Option.getD_some, Option.getD_none]
    refine ⟨by first | (apply cap2; (case h1 => repeat' first | assumption | apply app_le | apply nil_le | apply cons_le); (case h2 => repeat' first | assumption | apply app_le | apply nil_le | apply cons_le); decide) | (apply cap1; (case h1 => repeat' first | assumption | apply app_le | apply nil_le | apply cons_le); decide) | (simp [sizeCap]; omega) | (unfold sizeCap; omega), ?_⟩
    rw [run_append_ref h5 (by first | (apply cap2; (case h1 => repeat' first | assumption | apply app_le | apply nil_le | apply cons_le); (case h2 => repeat' first | assumption | apply app_le | apply nil_le | apply cons_le); decide) | (apply cap1; (case h1 => repeat' first | assumption | apply app_le | apply nil_le | apply cons_le); decide) | (simp [sizeCap]; omega) | (unfold sizeCap; omega))]
    refine ⟨rfl, _, xs ++ [w.head ++ w.bt], rfl, fun w' hw' => h1 w' (List.mem_cons_of_mem _ hw'), by rw [← h2]; simp, ?_, (h4.trans g13).setNew (Nat.le_refl _)⟩
    rw [List.getElem?_set_self (get_lt h5)]
    simp
  · rintro r ve' σ' ⟨rfl, z, xs, rfl, h1, h2, h3, h4⟩
    rw [List.map_nil, List.append_nil] at h2
    subst h2
    have hx : ∀ x ∈ ws.map (fun w => w.head ++ w.bt) ++ lt, x.length ≤ 21000 := by
      intro x hx
      rcases List.mem_append.mp hx with hx | hx
      · obtain ⟨w, hwm, rfl⟩ := List.mem_map.mp hx
        have := (hw w hwm).hl
        have := (hw w hwm).bl
        simp; omega
      · rcases hl with ⟨rfl, rfl⟩ | ⟨rest, bt, rfl, rfl, hb, hbl⟩
        · cases hx
        · rw [List.mem_singleton.mp hx]; omega
    have hc : (ws.map (fun w => w.head ++ w.bt) ++ lt).length ≤ 4 := by
      rcases hl with ⟨rfl, rfl⟩ | ⟨rest, bt, rfl, rfl, hb, hbl⟩
      · simp; omega
      · simp; omega
    have hj : (joinL [32, 101, 108, 115, 101, 32] (ws.map (fun w => w.head ++ w.bt) ++ lt)).length ≤ 4 * (21000 + 6) := Nat.le_trans (joinL_len _ _ _ hx) (Nat.mul_le_mul hc (Nat.le_refl _))
    show OnNone none _ _ _ _
    unfold choiceD
    rcases hl with ⟨rfl, rfl⟩ | ⟨rest, bt, rfl, rfl, hb, hbl⟩
    · dsimp only [Z1i, Z28, Z1r, Z23, Z26, Z1g, Z1b, Z21, Z1z, Z1y, Z1q, Z1e, Z1s, Z1c, Z1k, Z24, Z1f, Z1d, Z27, Z1u, Z1h, Z0z, Z6, Z7, Z5, Z4, Z0v, Z0u, Z0w, Z11, Z0x, Z10, Z0y, Z0j, Z0i, Zh, Zg, Ze, Zd, Zf, Z19, Z1a, Z13, Z14, Z18, Z17, Z16, Z15, Z0k, Z0l, Z0m, Z0n, Z0o, Z0p, Z0q, Z0r, Z0t, Z0s, w_add_str, w_add_int, w_add_ref, Z25, Z1x, Z1w, Z1j, Z22, w_eq_str, w_ne_str, w_eq_int, w_ne_int, w_eq_ref, Z1o, Z1p, Z1v, Z1t, Z1m, Z1l, Z1n, Z20, b_and_t, b_and_f, b_or_t, b_or_f, b_not_t, b_not_f, Z1, Z0, Z2, Z3, Z9, Zc, Zb, Z8, Za, Nat.reduceBEq, Int.reduceBEq, Int.reduceAdd, Int.reduceSub, Int.reduceNeg, Option.getD_some, Option.getD_none]
      rw [List.append_nil] at hj ⊢
      refine join_ref h3 (by decide) (by first | (apply cap2; (case h1 => repeat' first | assumption | apply app_le | apply nil_le | apply cons_le); (case h2 => repeat' first | assumption | apply app_le | apply nil_le | apply cons_le); decide) | (apply cap1; (case h1 => repeat' first | assumption | apply app_le | apply nil_le | apply cons_le); decide) | (simp [sizeCap]; omega) | (unfold sizeCap; omega)) ?_
      exact ⟨rfl, h4⟩
    · dsimp only [Z1i, Z28, Z1r, Z23, Z26, Z1g, Z1b, Z21, Z1z, Z1y, Z1q, Z1e, Z1s, Z1c, Z1k, Z24, Z1f, Z1d, Z27, Z1u, Z1h, Z0z, Z6, Z7, Z5, Z4, Z0v, Z0u, Z0w, Z11, Z0x, Z10, Z0y, Z0j, Z0i, Zh, Zg, Ze, Zd, Zf, Z19, Z1a, Z13, Z14, Z18, Z17, Z16, Z15, Z0k, Z0l, Z0m, Z0n, Z0o, Z0p, Z0q, Z0r, Z0t, Z0s, w_add_str, w_add_int, w_add_ref, Z25, Z1x, Z1w, Z1j, Z22, w_eq_str, w_ne_str, w_eq_int, w_ne_int, w_eq_ref, Z1o, Z1p, Z1v, Z1t, Z1m, Z1l, Z1n, Z20, b_and_t, b_and_f, b_or_t, b_or_f, b_not_t, b_not_f, Z1, Z0, Z2, Z3, Z9, Zc, Zb, Z8, Za, Nat.reduceBEq, Int.reduceBEq, Int.reduceAdd, Int.reduceSub, Int.reduceNeg, Option.getD_some, Option.getD_none]
      refine (hb m hm σ').mono ?_
      rintro _ σ₁ ⟨rfl, g1⟩
      have h5 := g1.get h3
      rw [run_append_ref h5 (by first | (apply cap2; (case h1 => repeat' first | assumption | apply app_le | apply nil_le | apply cons_le); (case h2 => repeat' first | assumption | apply app_le | apply nil_le | apply cons_le); decide) | (apply cap1; (case h1 => repeat' first | assumption | apply app_le | apply nil_le | apply cons_le); decide) | (simp [sizeCap]; omega) | (unfold sizeCap; omega))]
      refine join_ref (xs := ws.map (fun w => w.head ++ w.bt) ++ [bt]) ?_ (by decide) (by first | (apply cap2; (case h1 => repeat' first | assumption | apply app_le | apply nil_le | apply cons_le); (case h2 => repeat' first | assumption | apply app_le | apply nil_le | apply cons_le); decide) | (apply cap1; (case h1 => repeat' first | assumption | apply app_le | apply nil_le | apply cons_le); decide) | (simp [sizeCap]; omega) | (unfold sizeCap; omega)) ?_
      · rw [List.getElem?_set_self (get_lt h5)]
        simp
      · exact ⟨rfl, (h4.trans g1).setNew (Nat.le_refl _)⟩

theorem stmt_if {m : Nat} {rest : List D} {t : List Nat} (h : Txt m 18 [.tup (.str [105, 102] :: rest)] t) : Txt (m + 1) 13 [.tup (.str [105, 102] :: rest)] t := by
  intro σ
  refine call_fn (fd := G2_13) (ve := [some _, none]) rfl rfl ?_
  unfold G2_13
  simp only [Z1i, Z28, Z1r, Z23, Z26, Z1g, Z1b, Z21, Z1z, Z1y, Z1q, Z1e, Z1s, Z1c, Z1k, Z24, Z1f, Z1d, Z27, Z1u, Z1h, Z0z, Z6, Z7, Z5, Z4, Z0v, Z0u, Z0w, Z11, Z0x, Z10, Z0y, Z0j, Z0i, Zh, Zg, Ze, Zd, Zf, Z19, Z1a, Z13, Z14, Z18, Z17, Z16, Z15, Z0k, Z0l, Z0m, Z0n, Z0o, Z0p, Z0q, Z0r, Z0t, Z0s, w_add_str, w_add_int, w_add_ref, Z25, Z1x, Z1w, Z1j, Z22, w_eq_str, w_ne_str, w_eq_int, w_ne_int, w_eq_ref, Z1o, Z1p, Z1v, Z1t, Z1m, Z1l, Z1n, Z20, b_and_t, b_and_f, b_or_t, b_or_f, b_not_t, b_not_f, Z1, Z0, Z2, Z3, Z9, Zc, Zb, Z8, Za, Nat.reduceBEq, Int.reduceBEq, Int.reduceAdd, Int.reduceSub, Int.reduceNeg, Option.getD_some, Option.getD_none, item_0, item_1, item_2, item_3, item_4, item_5, item_6, notin_tup, in_tup, in_str, strsOf_nil, strsOf_cons, str_7, len_str, len_ref, range_int, List.any_cons, List.any_nil, Bool.or_false, Bool.false_or, Bool.or_true, Bool.true_or, Bool.true_and, Bool.false_and, Bool.and_true, Bool.and_false, Bool.not_true, Bool.not_false, List.contains_cons, List.contains_nil, beq_self_eq_true, true_and, and_true, Int.reduceEq, Int.reduceLT, Int.reduceLE, decide_true, decide_false, List.length_cons, List.length_nil, Nat.reduceAdd, Nat.reduceLeDiff, eq_self, in_tup, strsOf_cons, strsOf_nil]
  exact h σ
end Mine
end

section
open PySem
namespace Mine
/-- what stands ahead of a block -/
structure HeadOK (init told : D) (t head : List Nat) : Prop where
  cond : ∀ n, 70 ≤ n → Txt n 2 [told, .int 0, .bool true] t
  hdr : ∀ n, 70 ≤ n → Txt n 17 [.str [105, 102], init, .str t] head
  len : head.length ≤ 60
  row : 10 ∉ head
theorem told_some {e : D} {t : List Nat} (h : Ex e t) : toldT t = [32] ++ t := by
  have := (h.sh false).ne
  cases t with
  | nil => exact absurd rfl this
  | cons x s => rfl
noncomputable def HeadGen (src : Nat) (σ : Sto) (d : D) (σ' : Sto) : Prop := ∃ init told t head, d = .tup [init, told, .str head] ∧ HeadOK init told t head ∧ Go src σ σ'
theorem header_gen {src n : Nat} {σ : Sto} (hn : 12 ≤ n) (hs : Src src σ) : RunO (C2 n 28 [.ref src, .str [105, 102]] σ) (HeadGen src σ) := by
  obtain ⟨m, rfl⟩ : ∃ m, n = m + 1 := ⟨n - 1, by omega⟩
  have hm : 11 ≤ m := by omega
  refine call_fn (fd := G2_28) (ve := [some _, some _, none, none, none]) rfl rfl ?_
  unfold G2_28
  dsimp only [Z1i, Z28, Z1r, Z23, Z26, Z1g, Z1b, Z21, Z1z, Z1y, Z1q, Z1e, Z1s, Z1c, Z1k, Z24, Z1f, Z1d, Z27, Z1u, Z1h, Z0z, Z6, Z7, Z5, Z4, Z0v, Z0u, Z0w, Z11, Z0x, Z10, Z0y, Z0j, Z0i, Zh, Zg, Ze, Zd, Zf, Z19, Z1a, Z13, Z14, Z18, Z17, Z16, Z15, Z0k, Z0l, Z0m, Z0n, Z0o, Z0p, Z0q, Z0r, Z0t, Z0s, w_add_str, w_add_int, w_add_ref, Z25, Z1x, Z1w, Z1j, Z22, w_eq_str, w_ne_str, w_eq_int, w_ne_int, w_eq_ref, Z1o, Z1p, Z1v, Z1t, Z1m, Z1l, Z1n, Z20, b_and_t, b_and_f, b_or_t, b_or_f, b_not_t, b_not_f, Z1, Z0, Z2, Z3, Z9, Zc, Zb, Z8, Za, Nat.reduceBEq, Int.reduceBEq, Int.reduceAdd, Int.reduceSub, Int.reduceNeg, Option.getD_some, Option.getD_none]
  refine (take_ok (Nat.le_trans (by decide) hm) hs (by decide) (by decide)).mono ?_
  rintro _ σ₁ ⟨t, rfl, t0, t1, g1⟩
  by_cases hz : t = 0
  · simp only [Z1i, Z28, Z1r, Z23, Z26, Z1g, Z1b, Z21, Z1z, Z1y, Z1q, Z1e, Z1s, Z1c, Z1k, Z24, Z1f, Z1d, Z27, Z1u, Z1h, Z0z, Z6, Z7, Z5, Z4, Z0v, Z0u, Z0w, Z11, Z0x, Z10, Z0y, Z0j, Z0i, Zh, Zg, Ze, Zd, Zf, Z19, Z1a, Z13, Z14, Z18, Z17, Z16, Z15, Z0k, Z0l, Z0m, Z0n, Z0o, Z0p, Z0q, Z0r, Z0t, Z0s, w_add_str, w_add_int, w_add_ref, Z25, Z1x, Z1w, Z1j, Z22, w_eq_str, w_ne_str, w_eq_int, w_ne_int, w_eq_ref, Z1o, Z1p, Z1v, Z1t, Z1m, Z1l, Z1n, Z20, b_and_t, b_and_f, b_or_t, b_or_f, b_not_t, b_not_f, Z1, Z0, Z2, Z3, Z9, Zc, Zb, Z8, Za, Nat.reduceBEq, Int.reduceBEq, Int.reduceAdd, Int.reduceSub, Int.reduceNeg, Option.getD_some, Option.getD_none, item_0, item_1, item_2, item_3, item_4, item_5, item_6, notin_tup, in_tup, in_str, strsOf_nil, strsOf_cons, str_7, len_str, len_ref, range_int, List.any_cons, List.any_nil, Bool.or_false, Bool.false_or, Bool.or_true, Bool.true_or, Bool.true_and, Bool.false_and, Bool.and_true, Bool.and_false, Bool.not_true, Bool.not_false, List.contains_cons, List.contains_nil, beq_self_eq_true, true_and, and_true, Int.reduceEq, Int.reduceLT, Int.reduceLE, decide_true, decide_false, List.length_cons, List.length_nil, Nat.reduceAdd, Nat.reduceLeDiff, eq_self, hz]
    refine (simple_gen (Nat.le_trans (by decide) hm) g1.2).mono ?_
    rintro _ σ₂ ⟨tree, s, rfl, h1, g2⟩
    refine (expr_gen (Nat.le_trans (by decide) hm) g2.2).mono ?_
    rintro _ σ₃ ⟨e, x, rfl, h2, g3⟩
    have l1 := h1.len
    have l2 := h2.len
    obtain ⟨kk, rest, hk, -⟩ := h1.kind
    have hnn : isNoneD tree = false := by rw [hk]; rfl
    dsimp only [Z1i, Z28, Z1r, Z23, Z26, Z1g, Z1b, Z21, Z1z, Z1y, Z1q, Z1e, Z1s, Z1c, Z1k, Z24, Z1f, Z1d, Z27, Z1u, Z1h, Z0z, Z6, Z7, Z5, Z4, Z0v, Z0u, Z0w, Z11, Z0x, Z10, Z0y, Z0j, Z0i, Zh, Zg, Ze, Zd, Zf, Z19, Z1a, Z13, Z14, Z18, Z17, Z16, Z15, Z0k, Z0l, Z0m, Z0n, Z0o, Z0p, Z0q, Z0r, Z0t, Z0s, w_add_str, w_add_int, w_add_ref, Z25, Z1x, Z1w, Z1j, Z22, w_eq_str, w_ne_str, w_eq_int, w_ne_int, w_eq_ref, Z1o, Z1p, Z1v, Z1t, Z1m, Z1l, Z1n, Z20, b_and_t, b_and_f, b_or_t, b_or_f, b_not_t, b_not_f, Z1, Z0, Z2, Z3, Z9, Zc, Zb, Z8, Za, Nat.reduceBEq, Int.reduceBEq, Int.reduceAdd, Int.reduceSub, Int.reduceNeg, Option.getD_some, Option.getD_none]
    rw [hnn]
    dsimp only [Z1i, Z28, Z1r, Z23, Z26, Z1g, Z1b, Z21, Z1z, Z1y, Z1q, Z1e, Z1s, Z1c, Z1k, Z24, Z1f, Z1d, Z27, Z1u, Z1h, Z0z, Z6, Z7, Z5, Z4, Z0v, Z0u, Z0w, Z11, Z0x, Z10, Z0y, Z0j, Z0i, Zh, Zg, Ze, Zd, Zf, Z19, Z1a, Z13, Z14, Z18, Z17, Z16, Z15, Z0k, Z0l, Z0m, Z0n, Z0o, Z0p, Z0q, Z0r, Z0t, Z0s, w_add_str, w_add_int, w_add_ref, Z25, Z1x, Z1w, Z1j, Z22, w_eq_str, w_ne_str, w_eq_int, w_ne_int, w_eq_ref, Z1o, Z1p, Z1v, Z1t, Z1m, Z1l, Z1n, Z20, b_and_t, b_and_f, b_or_t, b_or_f, b_not_t, b_not_f, Z1, Z0, Z2, Z3, Z9, Zc, Zb, Z8, Za, Nat.reduceBEq, Int.reduceBEq, Int.reduceAdd, Int.reduceSub, Int.reduceNeg, Option.getD_some, Option.getD_none]
    refine ⟨by first | (apply cap2; (case h1 => repeat' first | assumption | apply app_le | apply nil_le | apply cons_le); (case h2 => repeat' first | assumption | apply app_le | apply nil_le | apply cons_le); decide) | (apply cap1; (case h1 => repeat' first | assumption | apply app_le | apply nil_le | apply cons_le); decide) | (simp [sizeCap]; omega) | (unfold sizeCap; omega), by decide, by first | (apply cap2; (case h1 => repeat' first | assumption | apply app_le | apply nil_le | apply cons_le); (case h2 => repeat' first | assumption | apply app_le | apply nil_le | apply cons_le); decide) | (apply cap1; (case h1 => repeat' first | assumption | apply app_le | apply nil_le | apply cons_le); decide) | (simp [sizeCap]; omega) | (unfold sizeCap; omega), by first | (apply cap2; (case h1 => repeat' first | assumption | apply app_le | apply nil_le | apply cons_le); (case h2 => repeat' first | assumption | apply app_le | apply nil_le | apply cons_le); decide) | (apply cap1; (case h1 => repeat' first | assumption | apply app_le | apply nil_le | apply cons_le); decide) | (simp [sizeCap]; omega) | (unfold sizeCap; omega), by first | (apply cap2; (case h1 => repeat' first | assumption | apply app_le | apply nil_le | apply cons_le); (case h2 => repeat' first | assumption | apply app_le | apply nil_le | apply cons_le); decide) | (apply cap1; (case h1 => repeat' first | assumption | apply app_le | apply nil_le | apply cons_le); decide) | (simp [sizeCap]; omega) | (unfold sizeCap; omega), ?_⟩
    refine ⟨_, _, x, _, rfl, ⟨fun n hn => (h2.sh true).run n (Nat.le_trans (by decide) hn), fun n hn => ?_, by simp; omega, ?_⟩, (g1.trans g2).trans g3⟩
    · obtain ⟨p, rfl⟩ : ∃ p, n = p + 1 := ⟨n - 1, by omega⟩
      have := header_some (m := p) (word := [105, 102]) (told := x) h1 (by omega) (by decide) (by omega)
      rw [told_some h2] at this
      have e2 : [105, 102] ++ ([32] ++ s ++ [59]) ++ ([32] ++ x) ++ [32] = [105, 102, 32] ++ (s ++ [59, 32]) ++ x ++ [32] := by simp
      rw [e2] at this
      exact this
    · have r1 := h1.row
      have r2 := h2.row
      simp [r1, r2]
  · dsimp only [Z1i, Z28, Z1r, Z23, Z26, Z1g, Z1b, Z21, Z1z, Z1y, Z1q, Z1e, Z1s, Z1c, Z1k, Z24, Z1f, Z1d, Z27, Z1u, Z1h, Z0z, Z6, Z7, Z5, Z4, Z0v, Z0u, Z0w, Z11, Z0x, Z10, Z0y, Z0j, Z0i, Zh, Zg, Ze, Zd, Zf, Z19, Z1a, Z13, Z14, Z18, Z17, Z16, Z15, Z0k, Z0l, Z0m, Z0n, Z0o, Z0p, Z0q, Z0r, Z0t, Z0s, w_add_str, w_add_int, w_add_ref, Z25, Z1x, Z1w, Z1j, Z22, w_eq_str, w_ne_str, w_eq_int, w_ne_int, w_eq_ref, Z1o, Z1p, Z1v, Z1t, Z1m, Z1l, Z1n, Z20, b_and_t, b_and_f, b_or_t, b_or_f, b_not_t, b_not_f, Z1, Z0, Z2, Z3, Z9, Zc, Zb, Z8, Za, Nat.reduceBEq, Int.reduceBEq, Int.reduceAdd, Int.reduceSub, Int.reduceNeg, Option.getD_some, Option.getD_none]
    rw [beq_eq_false_iff_ne.mpr hz]
    dsimp only [Z1i, Z28, Z1r, Z23, Z26, Z1g, Z1b, Z21, Z1z, Z1y, Z1q, Z1e, Z1s, Z1c, Z1k, Z24, Z1f, Z1d, Z27, Z1u, Z1h, Z0z, Z6, Z7, Z5, Z4, Z0v, Z0u, Z0w, Z11, Z0x, Z10, Z0y, Z0j, Z0i, Zh, Zg, Ze, Zd, Zf, Z19, Z1a, Z13, Z14, Z18, Z17, Z16, Z15, Z0k, Z0l, Z0m, Z0n, Z0o, Z0p, Z0q, Z0r, Z0t, Z0s, w_add_str, w_add_int, w_add_ref, Z25, Z1x, Z1w, Z1j, Z22, w_eq_str, w_ne_str, w_eq_int, w_ne_int, w_eq_ref, Z1o, Z1p, Z1v, Z1t, Z1m, Z1l, Z1n, Z20, b_and_t, b_and_f, b_or_t, b_or_f, b_not_t, b_not_f, Z1, Z0, Z2, Z3, Z9, Zc, Zb, Z8, Za, Nat.reduceBEq, Int.reduceBEq, Int.reduceAdd, Int.reduceSub, Int.reduceNeg, Option.getD_some, Option.getD_none]
    refine (expr_gen (Nat.le_trans (by decide) hm) g1.2).mono ?_
    rintro _ σ₃ ⟨e, x, rfl, h2, g3⟩
    have l2 := h2.len
    dsimp only [Z1i, Z28, Z1r, Z23, Z26, Z1g, Z1b, Z21, Z1z, Z1y, Z1q, Z1e, Z1s, Z1c, Z1k, Z24, Z1f, Z1d, Z27, Z1u, Z1h, Z0z, Z6, Z7, Z5, Z4, Z0v, Z0u, Z0w, Z11, Z0x, Z10, Z0y, Z0j, Z0i, Zh, Zg, Ze, Zd, Zf, Z19, Z1a, Z13, Z14, Z18, Z17, Z16, Z15, Z0k, Z0l, Z0m, Z0n, Z0o, Z0p, Z0q, Z0r, Z0t, Z0s, w_add_str, w_add_int, w_add_ref, Z25, Z1x, Z1w, Z1j, Z22, w_eq_str, w_ne_str, w_eq_int, w_ne_int, w_eq_ref, Z1o, Z1p, Z1v, Z1t, Z1m, Z1l, Z1n, Z20, b_and_t, b_and_f, b_or_t, b_or_f, b_not_t, b_not_f, Z1, Z0, Z2, Z3, Z9, Zc, Zb, Z8, Za, Nat.reduceBEq, Int.reduceBEq, Int.reduceAdd, Int.reduceSub, Int.reduceNeg, Option.getD_some, Option.getD_none]
    refine ⟨by decide, by simp [sizeCap], by first | (apply cap2; (case h1 => repeat' first | assumption | apply app_le | apply nil_le | apply cons_le); (case h2 => repeat' first | assumption | apply app_le | apply nil_le | apply cons_le); decide) | (apply cap1; (case h1 => repeat' first | assumption | apply app_le | apply nil_le | apply cons_le); decide) | (simp [sizeCap]; omega) | (unfold sizeCap; omega), by first | (apply cap2; (case h1 => repeat' first | assumption | apply app_le | apply nil_le | apply cons_le); (case h2 => repeat' first | assumption | apply app_le | apply nil_le | apply cons_le); decide) | (apply cap1; (case h1 => repeat' first | assumption | apply app_le | apply nil_le | apply cons_le); decide) | (simp [sizeCap]; omega) | (unfold sizeCap; omega), ?_⟩
    refine ⟨_, _, x, _, rfl, ⟨fun n hn => (h2.sh true).run n (Nat.le_trans (by decide) hn), fun n hn => ?_, by simp; omega, ?_⟩, g1.trans g3⟩
    · obtain ⟨p, rfl⟩ : ∃ p, n = p + 1 := ⟨n - 1, by omega⟩
      have := header_none (m := p) (word := [105, 102]) (told := x) (by decide) (by omega)
      rw [told_some h2] at this
      have e2 : [105, 102] ++ ([32] ++ x) ++ [32] = [105, 102] ++ [32] ++ [] ++ x ++ [32] := by simp
      rw [e2] at this
      exact this
    · have r2 := h2.row
      simp [r2]
end Mine
end

section
open PySem
namespace Mine
noncomputable def nn : Nat → Nat | 0 => 1 | d + 1 => 8 * nn d + 8
noncomputable def mm : Nat → Nat | 0 => 40 | d + 1 => 4 * mm d + 404
noncomputable def kk (d : Nat) : Nat := 70 + 10 * d
theorem nn_le {d : Nat} (h : d ≤ 1) : 1 ≤ nn d ∧ nn d ≤ 16 ∧ 40 ≤ mm d ∧ mm d ≤ 564 := by
  rcases Nat.le_one_iff_eq_zero_or_eq_one.mp h with rfl | rfl <;> decide

noncomputable def BlkGen (src d : Nat) (σ : Sto) (x : D) (σ' : Sto) : Prop := ∃ trees rowss r, x = .tup [.tup [.str [98, 108, 111, 99, 107], .int 1, .tup trees], .ref r] ∧ All2 (St2 (kk d) (nn d) (mm d)) trees rowss ∧ trees.length ≤ 2 ∧
  σ'[r]? = some ((braceR rowss.flatten).map D.str) ∧ Go src σ σ' ∧ σ.length ≤ r
noncomputable def BlkOK (src d : Nat) : Prop := ∀ n σ, 20 + 10 * d ≤ n → Src src σ → RunO (C2 n 27 [.ref src, .int (d : Int)] σ) (BlkGen src d σ)
noncomputable def ChGen (src d : Nat) (σ : Sto) (x : D) (σ' : Sto) : Prop := ∃ rest rows r, x = .tup [.tup (.str [105, 102] :: rest), .ref r] ∧ (∀ n, kk (d + 1) ≤ n + 2 → Txt n 18 [.tup (.str [105, 102] :: rest)] (joinL [10] rows)) ∧ Rows rows (nn (d + 1)) (mm (d + 1)) ∧
  σ'[r]? = some (rows.map D.str) ∧ Go src σ σ' ∧ σ.length ≤ r
noncomputable def ChOK (src d : Nat) : Prop := ∀ n σ, 25 + 10 * d ≤ n → Src src σ → RunO (C2 n 30 [.ref src, .int (d : Int)] σ) (ChGen src d σ)

theorem run_extend_ref {r q : Nat} {l es : List D} {σ : Sto} {P : D → Sto → Prop} (h1 : σ[r]? = some l) (h2 : σ[q]? = some es) (hne : r ≠ q) (hl : l.length + es.length < sizeCap) : RunO (opExtend (.ref r) (.ref q) σ) P = P .none (σ.set r (l ++ es)) := by
  show RunO (if r = q then none else (match σ[r]?, σ[q]? with
    | some ds, some es => if ds.length + es.length < sizeCap then some (D.none, σ.set r (ds ++ es)) else none
    | _, _ => none)) P = _
  rw [if_neg hne, h1, h2]
  dsimp only
  rw [if_pos hl]
  rfl
theorem sim_st {K N M : Nat} {tree : D} {t : List Nat} (h : Sim tree t) (hK : 61 ≤ K) (hN : 1 ≤ N) (hM : 40 ≤ M) : St2 K N M tree [t] := by
  refine ⟨fun n hn => ?_, ⟨by simp, ?_, by simpa using hN, ?_⟩⟩
  · obtain ⟨m, rfl⟩ : ∃ m, n = m + 1 := ⟨n - 1, by omega⟩
    exact stmt_sim h (by omega)
  · intro r hr
    rw [List.mem_singleton.mp hr]; exact h.row
  · intro r hr
    have := h.len
    rw [List.mem_singleton.mp hr]; omega
theorem ch_st {K N M : Nat} {rest : List D} {rows : List (List Nat)} (h : ∀ n, K ≤ n + 1 → Txt n 18 [.tup (.str [105, 102] :: rest)] (joinL [10] rows)) (hr : Rows rows N M) (hK : 1 ≤ K) : St2 K N M (.tup (.str [105, 102] :: rest)) rows := by
  refine ⟨fun n hn => ?_, hr⟩
  obtain ⟨m, rfl⟩ : ∃ m, n = m + 1 := ⟨n - 1, by omega⟩
  exact stmt_if (h m hn)

/-- rows, each a step to the right -/
theorem tabs_ok {T : List (List Nat × Int)} {C : CallT} {s : Nat} {rows : List (List Nat)} {σ : Sto} {P : Sto → Prop} (hs : σ[s]? = some (rows.map D.str)) (hl : rows.length ≤ 1000) (hr : ∀ r ∈ rows, r.length ≤ 10000)
    (hp : ∀ σ', σ'[σ.length]? = some ((rows.map fun r => 9 :: r).map D.str) → Gs [] σ σ' → P σ') :
    RunT (cloop (fun ve' σ' => ptests T C .nil ve' σ') (fun ve' σ' => peval T C (.bin .add (.const (.str [9])) (.var 0)) ve' σ') (.one 0) (.ref s) (rows.map D.str) σ.length (rows.map D.str) [none] (σ ++ [[]])) P := by
  have hsl := get_lt hs
  refine RunT.mono (cloop_known (V := fun ve => ∃ a, ve = [a]) tests_nil (fun σ' => σ'[s]? = some (rows.map D.str)) (fun σ' h => ref_stays h) (fun σ' σ'' h1 h2 => h2.at h1 (by simp; omega)) _ ((rows.map fun r => 9 :: r).map D.str) _ _ [] ?_ ⟨none, rfl⟩
    (by rw [List.getElem?_append_left hsl]; exact hs) get_new (by first | (apply cap2; (case h1 => repeat' first | assumption | apply app_le | apply nil_le | apply cons_le); (case h2 => repeat' first | assumption | apply app_le | apply nil_le | apply cons_le); decide) | (apply cap1; (case h1 => repeat' first | assumption | apply app_le | apply nil_le | apply cons_le); decide) | (simp [sizeCap]; omega) | (unfold sizeCap; omega))) ?_
  · rw [List.map_map]
    refine all2_map _ _ fun r hm ve σ' hv => ?_
    obtain ⟨a, rfl⟩ := hv
    have := hr r hm
    refine runV_of ?_
    dsimp only [Z1i, Z28, Z1r, Z23, Z26, Z1g, Z1b, Z21, Z1z, Z1y, Z1q, Z1e, Z1s, Z1c, Z1k, Z24, Z1f, Z1d, Z27, Z1u, Z1h, Z0z, Z6, Z7, Z5, Z4, Z0v, Z0u, Z0w, Z11, Z0x, Z10, Z0y, Z0j, Z0i, Zh, Zg, Ze, Zd, Zf, Z19, Z1a, Z13, Z14, Z18, Z17, Z16, Z15, Z0k, Z0l, Z0m, Z0n, Z0o, Z0p, Z0q, Z0r, Z0t, Z0s, w_add_str, w_add_int, w_add_ref, Z25, Z1x, Z1w, Z1j, Z22, w_eq_str, w_ne_str, w_eq_int, w_ne_int, w_eq_ref, Z1o, Z1p, Z1v, Z1t, Z1m, Z1l, Z1n, Z20, b_and_t, b_and_f, b_or_t, b_or_f, b_not_t, b_not_f, Z1, Z0, Z2, Z3, Z9, Zc, Zb, Z8, Za, Nat.reduceBEq, Int.reduceBEq, Int.reduceAdd, Int.reduceSub, Int.reduceNeg, Option.getD_some, Option.getD_none]
    refine ⟨⟨_, rfl⟩, wE_ok _ _ _ _ ?_⟩
    dsimp only [Z1i, Z28, Z1r, Z23, Z26, Z1g, Z1b, Z21, Z1z, Z1y, Z1q, Z1e, Z1s, Z1c, Z1k, Z24, Z1f, Z1d, Z27, Z1u, Z1h, Z0z, Z6, Z7, Z5, Z4, Z0v, Z0u, Z0w, Z11, Z0x, Z10, Z0y, Z0j, Z0i, Zh, Zg, Ze, Zd, Zf, Z19, Z1a, Z13, Z14, Z18, Z17, Z16, Z15, Z0k, Z0l, Z0m, Z0n, Z0o, Z0p, Z0q, Z0r, Z0t, Z0s, w_add_str, w_add_int, w_add_ref, Z25, Z1x, Z1w, Z1j, Z22, w_eq_str, w_ne_str, w_eq_int, w_ne_int, w_eq_ref, Z1o, Z1p, Z1v, Z1t, Z1m, Z1l, Z1n, Z20, b_and_t, b_and_f, b_or_t, b_or_f, b_not_t, b_not_f, Z1, Z0, Z2, Z3, Z9, Zc, Zb, Z8, Za, Nat.reduceBEq, Int.reduceBEq, Int.reduceAdd, Int.reduceSub, Int.reduceNeg, Option.getD_some, Option.getD_none]
    exact ⟨by first | (apply cap2; (case h1 => repeat' first | assumption | apply app_le | apply nil_le | apply cons_le); (case h2 => repeat' first | assumption | apply app_le | apply nil_le | apply cons_le); decide) | (apply cap1; (case h1 => repeat' first | assumption | apply app_le | apply nil_le | apply cons_le); decide) | (simp [sizeCap]; omega) | (unfold sizeCap; omega), rfl, Gs.refl⟩
  · rintro σ' ⟨h1, h2⟩
    rw [List.nil_append] at h1
    exact hp σ' h1 h2.comp

theorem brace_new {q : Nat} {rows : List (List Nat)} {σ : Sto} {P : D → Sto → Prop} (hq : σ[q]? = some ((rows.map fun r => 9 :: r).map D.str)) (hl : rows.length ≤ 1000)
    (hp : ∀ r σ', σ'[r]? = some ((braceR rows).map D.str) → Gs [] σ σ' → σ.length ≤ r → P (.ref r) σ') :
    wCmp .ne (.ref q) (.ref σ.length) (σ ++ [[]]) fun r => OnBool (.bool r) (RunO (opBin .add (.ref (σ ++ [[]]).length) (.ref q) (σ ++ [[]] ++ [[D.str [123]]])) fun x σ₁ => wBin .add x (.ref σ₁.length) (σ₁ ++ [[D.str [125]]]) P) (P (.ref (σ ++ [[]]).length) (σ ++ [[]] ++ [[D.str [123, 125]]])) := by
  have hql := get_lt hq
  refine eq_empty ((Gs.app (l := [[]])).get hq) get_new (by omega) ?_
  cases hr : rows with
  | nil =>
    refine hp _ _ ?_ (Gs.app.trans Gs.app) (by simp)
    rw [get_new, hr]; rfl
  | cons a l =>
    rw [← hr]
    have he : ((rows.map fun r => 9 :: r).map D.str).isEmpty = false := by rw [hr]; rfl
    rw [he]
    dsimp only [Z1i, Z28, Z1r, Z23, Z26, Z1g, Z1b, Z21, Z1z, Z1y, Z1q, Z1e, Z1s, Z1c, Z1k, Z24, Z1f, Z1d, Z27, Z1u, Z1h, Z0z, Z6, Z7, Z5, Z4, Z0v, Z0u, Z0w, Z11, Z0x, Z10, Z0y, Z0j, Z0i, Zh, Zg, Ze, Zd, Zf, Z19, Z1a, Z13, Z14, Z18, Z17, Z16, Z15, Z0k, Z0l, Z0m, Z0n, Z0o, Z0p, Z0q, Z0r, Z0t, Z0s, w_add_str, w_add_int, w_add_ref, Z25, Z1x, Z1w, Z1j, Z22, w_eq_str, w_ne_str, w_eq_int, w_ne_int, w_eq_ref, Z1o, Z1p, Z1v, Z1t, Z1m, Z1l, Z1n, Z20, b_and_t, b_and_f, b_or_t, b_or_f, b_not_t, b_not_f, Z1, Z0, Z2, Z3, Z9, Zc, Zb, Z8, Za, Nat.reduceBEq, Int.reduceBEq, Int.reduceAdd, Int.reduceSub, Int.reduceNeg, Option.getD_some, Option.getD_none]
    have g1 : Gs [] σ (σ ++ [[]]) := Gs.app
    have hl1 : (σ ++ [[]]).length = σ.length + 1 := by simp
    have hq1 := g1.get hq
    generalize σ ++ [[]] = σ₁ at *
    have g2 : Gs [] σ₁ (σ₁ ++ [[D.str [123]]]) := Gs.app
    rw [add_ref get_new (g2.get hq1) (by first | (apply cap2; (case h1 => repeat' first | assumption | apply app_le | apply nil_le | apply cons_le); (case h2 => repeat' first | assumption | apply app_le | apply nil_le | apply cons_le); decide) | (apply cap1; (case h1 => repeat' first | assumption | apply app_le | apply nil_le | apply cons_le); decide) | (simp [sizeCap]; omega) | (unfold sizeCap; omega))]
    have g3 : Gs [] σ₁ (σ₁ ++ [[D.str [123]]] ++ [[D.str [123]] ++ (rows.map fun r => 9 :: r).map D.str]) := g2.trans Gs.app
    have h3 : (σ₁ ++ [[D.str [123]]] ++ [[D.str [123]] ++ (rows.map fun r => 9 :: r).map D.str])[(σ₁ ++ [[D.str [123]]]).length]? = some ([D.str [123]] ++ (rows.map fun r => 9 :: r).map D.str) := get_new
    have hl3 : (σ₁ ++ [[D.str [123]]] ++ [[D.str [123]] ++ (rows.map fun r => 9 :: r).map D.str]).length = σ₁.length + 2 := by simp
    generalize (σ₁ ++ [[D.str [123]]]).length = x3 at *
    generalize σ₁ ++ [[D.str [123]]] ++ [[D.str [123]] ++ (rows.map fun r => 9 :: r).map D.str] = σ₃ at *
    dsimp only [Z1i, Z28, Z1r, Z23, Z26, Z1g, Z1b, Z21, Z1z, Z1y, Z1q, Z1e, Z1s, Z1c, Z1k, Z24, Z1f, Z1d, Z27, Z1u, Z1h, Z0z, Z6, Z7, Z5, Z4, Z0v, Z0u, Z0w, Z11, Z0x, Z10, Z0y, Z0j, Z0i, Zh, Zg, Ze, Zd, Zf, Z19, Z1a, Z13, Z14, Z18, Z17, Z16, Z15, Z0k, Z0l, Z0m, Z0n, Z0o, Z0p, Z0q, Z0r, Z0t, Z0s, w_add_str, w_add_int, w_add_ref, Z25, Z1x, Z1w, Z1j, Z22, w_eq_str, w_ne_str, w_eq_int, w_ne_int, w_eq_ref, Z1o, Z1p, Z1v, Z1t, Z1m, Z1l, Z1n, Z20, b_and_t, b_and_f, b_or_t, b_or_f, b_not_t, b_not_f, Z1, Z0, Z2, Z3, Z9, Zc, Zb, Z8, Za, Nat.reduceBEq, Int.reduceBEq, Int.reduceAdd, Int.reduceSub, Int.reduceNeg, Option.getD_some, Option.getD_none]
    rw [add_ref ((Gs.app (l := [[D.str [125]]])).get h3) get_new (by first | (apply cap2; (case h1 => repeat' first | assumption | apply app_le | apply nil_le | apply cons_le); (case h2 => repeat' first | assumption | apply app_le | apply nil_le | apply cons_le); decide) | (apply cap1; (case h1 => repeat' first | assumption | apply app_le | apply nil_le | apply cons_le); decide) | (simp [sizeCap]; omega) | (unfold sizeCap; omega))]
    refine hp _ _ ?_ ((g1.trans g3).trans (Gs.app.trans Gs.app)) (by simp; omega)
    rw [get_new]
    unfold braceR
    rw [if_neg (by rw [hr]; simp)]
    simp
theorem flat_num {α : Type} {K : Nat} : ∀ {l : List (List α)}, (∀ x ∈ l, x.length ≤ K) → l.flatten.length ≤ l.length * K
  | [], _ => by simp
  | y :: l, h => by
    have h1 := h y (List.mem_cons_self ..)
    have h2 := flat_num (l := l) fun z hz => h z (List.mem_cons_of_mem _ hz)
    rw [List.flatten_cons, List.length_append, List.length_cons, Nat.succ_mul]
    omega
theorem block_gen {src d : Nat} (ih : d = 0 ∨ (d = 1 ∧ ChOK src 0)) : BlkOK src d := by
  intro n σ hn hs
  have hd : d ≤ 1 := by rcases ih with h | h <;> omega
  obtain ⟨n1, n2, n3, n4⟩ := nn_le hd
  obtain ⟨m, rfl⟩ : ∃ m, n = m + 1 := ⟨n - 1, by omega⟩
  have hm : 19 ≤ m := by omega
  have hmd : 19 + 10 * d ≤ m := by omega
  refine call_fn (fd := G2_27) (ve := [some _, some _, none, none, none, none, none, none]) rfl rfl ?_
  unfold G2_27
  have hsl : src < σ.length := by
    obtain ⟨g, c, h, _⟩ := hs
    exact get_lt h
  have g0 : Go src σ (σ ++ [[]] ++ [[]]) := Go.ext hs (Gs.app.trans Gs.app)
  have hp0 : (σ ++ [[]] ++ [[]])[σ.length]? = some [] := by simp [List.getElem?_append]
  have hq0 : (σ ++ [[]] ++ [[]])[(σ ++ [[]]).length]? = some [] := get_new
  have hqn : (σ ++ [[]]).length = σ.length + 1 := by simp
  dsimp only [Z1i, Z28, Z1r, Z23, Z26, Z1g, Z1b, Z21, Z1z, Z1y, Z1q, Z1e, Z1s, Z1c, Z1k, Z24, Z1f, Z1d, Z27, Z1u, Z1h, Z0z, Z6, Z7, Z5, Z4, Z0v, Z0u, Z0w, Z11, Z0x, Z10, Z0y, Z0j, Z0i, Zh, Zg, Ze, Zd, Zf, Z19, Z1a, Z13, Z14, Z18, Z17, Z16, Z15, Z0k, Z0l, Z0m, Z0n, Z0o, Z0p, Z0q, Z0r, Z0t, Z0s, w_add_str, w_add_int, w_add_ref, Z25, Z1x, Z1w, Z1j, Z22, w_eq_str, w_ne_str, w_eq_int, w_ne_int, w_eq_ref, Z1o, Z1p, Z1v, Z1t, Z1m, Z1l, Z1n, Z20, b_and_t, b_and_f, b_or_t, b_or_f, b_not_t, b_not_f, Z1, Z0, Z2, Z3, Z9, Zc, Zb, Z8, Za, Nat.reduceBEq, Int.reduceBEq, Int.reduceAdd, Int.reduceSub, Int.reduceNeg, Option.getD_some, Option.getD_none]
  generalize (σ ++ [[]]).length = q at *
  generalize hpp : σ.length = p at *
  have nsp : p ≠ src := Nat.ne_of_gt hsl
  have nsq : q ≠ src := by omega
  have npq : p ≠ q := by omega
  have hσp : σ.length ≤ p := Nat.le_of_eq hpp
  have hσq : σ.length ≤ q := by omega
  refine (take_ok (Nat.le_trans (by decide) hm) g0.2 (by decide) (by decide)).mono ?_
  rintro _ σ₁ ⟨t, rfl, t0, t1, g1⟩
  rw [range_int]
  refine ⟨⟨t0, by omega⟩, _, rng_items (by omega), ?_⟩
  have hlen : ((List.range t.toNat).map fun (i : Nat) => D.int i).length ≤ 2 := by simp; omega
  generalize (List.range t.toNat).map (fun (i : Nat) => D.int i) = all at hlen ⊢
  refine RunX.mono (floop_ok (Inv := fun i ve σ' => ∃ a b c e trees rowss, ve = [some (.ref src), some (.int (d : Int)), some (.ref p), some (.ref q), a, b, c, e] ∧ σ'[p]? = some trees ∧ σ'[q]? = some ((rowss.flatten.map fun r => 9 :: r).map D.str) ∧
    trees.length = i ∧ All2 (St2 (kk d) (nn d) (mm d)) trees rowss ∧ Go src σ σ') (fun _ => rfl) ?_ all 0 _ σ₁ (fun _ h => h) (by simp) ?_) ?_
  · rintro i x ve σ₂ hi - ⟨a, b, c, e, trees, rowss, rfl, hp, hq, hti, hall, g2⟩
    refine runV_of ?_
    dsimp only [Z1i, Z28, Z1r, Z23, Z26, Z1g, Z1b, Z21, Z1z, Z1y, Z1q, Z1e, Z1s, Z1c, Z1k, Z24, Z1f, Z1d, Z27, Z1u, Z1h, Z0z, Z6, Z7, Z5, Z4, Z0v, Z0u, Z0w, Z11, Z0x, Z10, Z0y, Z0j, Z0i, Zh, Zg, Ze, Zd, Zf, Z19, Z1a, Z13, Z14, Z18, Z17, Z16, Z15, Z0k, Z0l, Z0m, Z0n, Z0o, Z0p, Z0q, Z0r, Z0t, Z0s, w_add_str, w_add_int, w_add_ref, Z25, Z1x, Z1w, Z1j, Z22, w_eq_str, w_ne_str, w_eq_int, w_ne_int, w_eq_ref, Z1o, Z1p, Z1v, Z1t, Z1m, Z1l, Z1n, Z20, b_and_t, b_and_f, b_or_t, b_or_f, b_not_t, b_not_f, Z1, Z0, Z2, Z3, Z9, Zc, Zb, Z8, Za, Nat.reduceBEq, Int.reduceBEq, Int.reduceAdd, Int.reduceSub, Int.reduceNeg, Option.getD_some, Option.getD_none]
    rw [runB_cons]
    refine RunX.mono (P := fun r ve₁ σ₃ => r = none ∧ ∃ tree rows s z, ve₁ = [some (.ref src), some (.int (d : Int)), some (.ref p), some (.ref q), some x, some tree, some (.ref s), z] ∧ σ₃[s]? = some (rows.map D.str) ∧ σ₂.length ≤ s ∧ St2 (kk d) (nn d) (mm d) tree rows ∧ Go src σ₂ σ₃) ?_ ?_
    · refine wS_ok _ _ _ _ ?_
      have simple : ∀ (σ₃ : Sto), Go src σ₂ σ₃ → RunO (C2 m 26 [.ref src] σ₃) fun y σ₄ => ∃ tree t, y = .tup [tree, .str t] ∧ St2 (kk d) (nn d) (mm d) tree [t] ∧ Go src σ₂ σ₄ := by
        intro σ₃ g
        refine (simple_gen (Nat.le_trans (by decide) hm) g.2).mono ?_
        rintro _ σ₄ ⟨tree, t, rfl, h, g'⟩
        exact ⟨tree, t, rfl, sim_st h (by unfold kk; omega) n1 n3, g.trans g'⟩
      have leaf : ∀ (σ₃ : Sto) (tree : D) (t : List Nat), St2 (kk d) (nn d) (mm d) tree [t] → Go src σ₂ σ₃ → ∃ tree' rows s z, [some (.ref src), some (.int (d : Int)), some (.ref p), some (.ref q), some x, some tree, some (.ref σ₃.length), some (.str t)] = [some (.ref src), some (.int (d : Int)), some (.ref p), some (.ref q), some x, some tree', some (.ref s), z] ∧
          (σ₃ ++ [[D.str t]])[s]? = some (rows.map D.str) ∧ σ₂.length ≤ s ∧ St2 (kk d) (nn d) (mm d) tree' rows ∧ Go src σ₂ (σ₃ ++ [[D.str t]]) :=
        fun σ₃ tree t h g => ⟨tree, [t], _, _, rfl, get_new, g.1.1, h, g.new⟩
      rcases ih with rfl | ⟨rfl, ih⟩
      · have e : decide (((0 : Nat) : Int) > 0) = false := rfl
        dsimp only [Z1i, Z28, Z1r, Z23, Z26, Z1g, Z1b, Z21, Z1z, Z1y, Z1q, Z1e, Z1s, Z1c, Z1k, Z24, Z1f, Z1d, Z27, Z1u, Z1h, Z0z, Z6, Z7, Z5, Z4, Z0v, Z0u, Z0w, Z11, Z0x, Z10, Z0y, Z0j, Z0i, Zh, Zg, Ze, Zd, Zf, Z19, Z1a, Z13, Z14, Z18, Z17, Z16, Z15, Z0k, Z0l, Z0m, Z0n, Z0o, Z0p, Z0q, Z0r, Z0t, Z0s, w_add_str, w_add_int, w_add_ref, Z25, Z1x, Z1w, Z1j, Z22, w_eq_str, w_ne_str, w_eq_int, w_ne_int, w_eq_ref, Z1o, Z1p, Z1v, Z1t, Z1m, Z1l, Z1n, Z20, b_and_t, b_and_f, b_or_t, b_or_f, b_not_t, b_not_f, Z1, Z0, Z2, Z3, Z9, Zc, Zb, Z8, Za, Nat.reduceBEq, Int.reduceBEq, Int.reduceAdd, Int.reduceSub, Int.reduceNeg, Option.getD_some, Option.getD_none]
        rw [e]
        dsimp only [Z1i, Z28, Z1r, Z23, Z26, Z1g, Z1b, Z21, Z1z, Z1y, Z1q, Z1e, Z1s, Z1c, Z1k, Z24, Z1f, Z1d, Z27, Z1u, Z1h, Z0z, Z6, Z7, Z5, Z4, Z0v, Z0u, Z0w, Z11, Z0x, Z10, Z0y, Z0j, Z0i, Zh, Zg, Ze, Zd, Zf, Z19, Z1a, Z13, Z14, Z18, Z17, Z16, Z15, Z0k, Z0l, Z0m, Z0n, Z0o, Z0p, Z0q, Z0r, Z0t, Z0s, w_add_str, w_add_int, w_add_ref, Z25, Z1x, Z1w, Z1j, Z22, w_eq_str, w_ne_str, w_eq_int, w_ne_int, w_eq_ref, Z1o, Z1p, Z1v, Z1t, Z1m, Z1l, Z1n, Z20, b_and_t, b_and_f, b_or_t, b_or_f, b_not_t, b_not_f, Z1, Z0, Z2, Z3, Z9, Zc, Zb, Z8, Za, Nat.reduceBEq, Int.reduceBEq, Int.reduceAdd, Int.reduceSub, Int.reduceNeg, Option.getD_some, Option.getD_none]
        refine (simple σ₂ ⟨Gs.refl, g2.2⟩).mono ?_
        rintro _ σ₄ ⟨tree, t, rfl, h, g⟩
        dsimp only [Z1i, Z28, Z1r, Z23, Z26, Z1g, Z1b, Z21, Z1z, Z1y, Z1q, Z1e, Z1s, Z1c, Z1k, Z24, Z1f, Z1d, Z27, Z1u, Z1h, Z0z, Z6, Z7, Z5, Z4, Z0v, Z0u, Z0w, Z11, Z0x, Z10, Z0y, Z0j, Z0i, Zh, Zg, Ze, Zd, Zf, Z19, Z1a, Z13, Z14, Z18, Z17, Z16, Z15, Z0k, Z0l, Z0m, Z0n, Z0o, Z0p, Z0q, Z0r, Z0t, Z0s, w_add_str, w_add_int, w_add_ref, Z25, Z1x, Z1w, Z1j, Z22, w_eq_str, w_ne_str, w_eq_int, w_ne_int, w_eq_ref, Z1o, Z1p, Z1v, Z1t, Z1m, Z1l, Z1n, Z20, b_and_t, b_and_f, b_or_t, b_or_f, b_not_t, b_not_f, Z1, Z0, Z2, Z3, Z9, Zc, Zb, Z8, Za, Nat.reduceBEq, Int.reduceBEq, Int.reduceAdd, Int.reduceSub, Int.reduceNeg, Option.getD_some, Option.getD_none]
        exact ⟨rfl, leaf σ₄ tree t h g⟩
      · have e : decide (((1 : Nat) : Int) > 0) = true := rfl
        dsimp only [Z1i, Z28, Z1r, Z23, Z26, Z1g, Z1b, Z21, Z1z, Z1y, Z1q, Z1e, Z1s, Z1c, Z1k, Z24, Z1f, Z1d, Z27, Z1u, Z1h, Z0z, Z6, Z7, Z5, Z4, Z0v, Z0u, Z0w, Z11, Z0x, Z10, Z0y, Z0j, Z0i, Zh, Zg, Ze, Zd, Zf, Z19, Z1a, Z13, Z14, Z18, Z17, Z16, Z15, Z0k, Z0l, Z0m, Z0n, Z0o, Z0p, Z0q, Z0r, Z0t, Z0s, w_add_str, w_add_int, w_add_ref, Z25, Z1x, Z1w, Z1j, Z22, w_eq_str, w_ne_str, w_eq_int, w_ne_int, w_eq_ref, Z1o, Z1p, Z1v, Z1t, Z1m, Z1l, Z1n, Z20, b_and_t, b_and_f, b_or_t, b_or_f, b_not_t, b_not_f, Z1, Z0, Z2, Z3, Z9, Zc, Zb, Z8, Za, Nat.reduceBEq, Int.reduceBEq, Int.reduceAdd, Int.reduceSub, Int.reduceNeg, Option.getD_some, Option.getD_none]
        rw [e]
        dsimp only [Z1i, Z28, Z1r, Z23, Z26, Z1g, Z1b, Z21, Z1z, Z1y, Z1q, Z1e, Z1s, Z1c, Z1k, Z24, Z1f, Z1d, Z27, Z1u, Z1h, Z0z, Z6, Z7, Z5, Z4, Z0v, Z0u, Z0w, Z11, Z0x, Z10, Z0y, Z0j, Z0i, Zh, Zg, Ze, Zd, Zf, Z19, Z1a, Z13, Z14, Z18, Z17, Z16, Z15, Z0k, Z0l, Z0m, Z0n, Z0o, Z0p, Z0q, Z0r, Z0t, Z0s, w_add_str, w_add_int, w_add_ref, Z25, Z1x, Z1w, Z1j, Z22, w_eq_str, w_ne_str, w_eq_int, w_ne_int, w_eq_ref, Z1o, Z1p, Z1v, Z1t, Z1m, Z1l, Z1n, Z20, b_and_t, b_and_f, b_or_t, b_or_f, b_not_t, b_not_f, Z1, Z0, Z2, Z3, Z9, Zc, Zb, Z8, Za, Nat.reduceBEq, Int.reduceBEq, Int.reduceAdd, Int.reduceSub, Int.reduceNeg, Option.getD_some, Option.getD_none]
        refine (take_ok (Nat.le_trans (by decide) hm) g2.2 (by decide) (by decide)).mono ?_
        rintro _ σ₃ ⟨t, rfl, u0, u1, g3⟩
        by_cases hz : t = 0
        · simp only [Z1i, Z28, Z1r, Z23, Z26, Z1g, Z1b, Z21, Z1z, Z1y, Z1q, Z1e, Z1s, Z1c, Z1k, Z24, Z1f, Z1d, Z27, Z1u, Z1h, Z0z, Z6, Z7, Z5, Z4, Z0v, Z0u, Z0w, Z11, Z0x, Z10, Z0y, Z0j, Z0i, Zh, Zg, Ze, Zd, Zf, Z19, Z1a, Z13, Z14, Z18, Z17, Z16, Z15, Z0k, Z0l, Z0m, Z0n, Z0o, Z0p, Z0q, Z0r, Z0t, Z0s, w_add_str, w_add_int, w_add_ref, Z25, Z1x, Z1w, Z1j, Z22, w_eq_str, w_ne_str, w_eq_int, w_ne_int, w_eq_ref, Z1o, Z1p, Z1v, Z1t, Z1m, Z1l, Z1n, Z20, b_and_t, b_and_f, b_or_t, b_or_f, b_not_t, b_not_f, Z1, Z0, Z2, Z3, Z9, Zc, Zb, Z8, Za, Nat.reduceBEq, Int.reduceBEq, Int.reduceAdd, Int.reduceSub, Int.reduceNeg, Option.getD_some, Option.getD_none, item_0, item_1, item_2, item_3, item_4, item_5, item_6, notin_tup, in_tup, in_str, strsOf_nil, strsOf_cons, str_7, len_str, len_ref, range_int, List.any_cons, List.any_nil, Bool.or_false, Bool.false_or, Bool.or_true, Bool.true_or, Bool.true_and, Bool.false_and, Bool.and_true, Bool.and_false, Bool.not_true, Bool.not_false, List.contains_cons, List.contains_nil, beq_self_eq_true, true_and, and_true, Int.reduceEq, Int.reduceLT, Int.reduceLE, decide_true, decide_false, List.length_cons, List.length_nil, Nat.reduceAdd, Nat.reduceLeDiff, eq_self, hz]
          refine (ih m σ₃ (Nat.le_trans (by decide) hmd) g3.2).mono ?_
          rintro _ σ₄ ⟨rest, rows, s, rfl, h1, h2, h3, g4, h5⟩
          dsimp only [Z1i, Z28, Z1r, Z23, Z26, Z1g, Z1b, Z21, Z1z, Z1y, Z1q, Z1e, Z1s, Z1c, Z1k, Z24, Z1f, Z1d, Z27, Z1u, Z1h, Z0z, Z6, Z7, Z5, Z4, Z0v, Z0u, Z0w, Z11, Z0x, Z10, Z0y, Z0j, Z0i, Zh, Zg, Ze, Zd, Zf, Z19, Z1a, Z13, Z14, Z18, Z17, Z16, Z15, Z0k, Z0l, Z0m, Z0n, Z0o, Z0p, Z0q, Z0r, Z0t, Z0s, w_add_str, w_add_int, w_add_ref, Z25, Z1x, Z1w, Z1j, Z22, w_eq_str, w_ne_str, w_eq_int, w_ne_int, w_eq_ref, Z1o, Z1p, Z1v, Z1t, Z1m, Z1l, Z1n, Z20, b_and_t, b_and_f, b_or_t, b_or_f, b_not_t, b_not_f, Z1, Z0, Z2, Z3, Z9, Zc, Zb, Z8, Za, Nat.reduceBEq, Int.reduceBEq, Int.reduceAdd, Int.reduceSub, Int.reduceNeg, Option.getD_some, Option.getD_none]
          exact ⟨_, rows, s, _, rfl, h3, Nat.le_trans g3.1.1 h5, ch_st (fun n hn => h1 n (by have e : kk (0 + 1) = kk 1 := rfl; omega)) h2 (by decide), g3.trans g4⟩
        · dsimp only [Z1i, Z28, Z1r, Z23, Z26, Z1g, Z1b, Z21, Z1z, Z1y, Z1q, Z1e, Z1s, Z1c, Z1k, Z24, Z1f, Z1d, Z27, Z1u, Z1h, Z0z, Z6, Z7, Z5, Z4, Z0v, Z0u, Z0w, Z11, Z0x, Z10, Z0y, Z0j, Z0i, Zh, Zg, Ze, Zd, Zf, Z19, Z1a, Z13, Z14, Z18, Z17, Z16, Z15, Z0k, Z0l, Z0m, Z0n, Z0o, Z0p, Z0q, Z0r, Z0t, Z0s, w_add_str, w_add_int, w_add_ref, Z25, Z1x, Z1w, Z1j, Z22, w_eq_str, w_ne_str, w_eq_int, w_ne_int, w_eq_ref, Z1o, Z1p, Z1v, Z1t, Z1m, Z1l, Z1n, Z20, b_and_t, b_and_f, b_or_t, b_or_f, b_not_t, b_not_f, Z1, Z0, Z2, Z3, Z9, Zc, Zb, Z8, Za, Nat.reduceBEq, Int.reduceBEq, Int.reduceAdd, Int.reduceSub, Int.reduceNeg, Option.getD_some, Option.getD_none]
          rw [beq_eq_false_iff_ne.mpr hz]
          dsimp only [Z1i, Z28, Z1r, Z23, Z26, Z1g, Z1b, Z21, Z1z, Z1y, Z1q, Z1e, Z1s, Z1c, Z1k, Z24, Z1f, Z1d, Z27, Z1u, Z1h, Z0z, Z6, Z7, Z5, Z4, Z0v, Z0u, Z0w, Z11, Z0x, Z10, Z0y, Z0j, Z0i, Zh, Zg, Ze, Zd, Zf, Z19, Z1a, Z13, Z14, Z18, Z17, Z16, Z15, Z0k, Z0l, Z0m, Z0n, Z0o, Z0p, Z0q, Z0r, Z0t, Z0s, w_add_str, w_add_int, w_add_ref, Z25, Z1x, Z1w, Z1j, Z22, w_eq_str, w_ne_str, w_eq_int, w_ne_int, w_eq_ref, Z1o, Z1p, Z1v, Z1t, Z1m, Z1l, Z1n, Z20, b_and_t, b_and_f, b_or_t, b_or_f, b_not_t, b_not_f, Z1, Z0, Z2, Z3, Z9, Zc, Zb, Z8, Za, Nat.reduceBEq, Int.reduceBEq, Int.reduceAdd, Int.reduceSub, Int.reduceNeg, Option.getD_some, Option.getD_none]
          refine (simple σ₃ g3).mono ?_
          rintro _ σ₄ ⟨tree, t, rfl, h, g⟩
          dsimp only [Z1i, Z28, Z1r, Z23, Z26, Z1g, Z1b, Z21, Z1z, Z1y, Z1q, Z1e, Z1s, Z1c, Z1k, Z24, Z1f, Z1d, Z27, Z1u, Z1h, Z0z, Z6, Z7, Z5, Z4, Z0v, Z0u, Z0w, Z11, Z0x, Z10, Z0y, Z0j, Z0i, Zh, Zg, Ze, Zd, Zf, Z19, Z1a, Z13, Z14, Z18, Z17, Z16, Z15, Z0k, Z0l, Z0m, Z0n, Z0o, Z0p, Z0q, Z0r, Z0t, Z0s, w_add_str, w_add_int, w_add_ref, Z25, Z1x, Z1w, Z1j, Z22, w_eq_str, w_ne_str, w_eq_int, w_ne_int, w_eq_ref, Z1o, Z1p, Z1v, Z1t, Z1m, Z1l, Z1n, Z20, b_and_t, b_and_f, b_or_t, b_or_f, b_not_t, b_not_f, Z1, Z0, Z2, Z3, Z9, Zc, Zb, Z8, Za, Nat.reduceBEq, Int.reduceBEq, Int.reduceAdd, Int.reduceSub, Int.reduceNeg, Option.getD_some, Option.getD_none]
          exact ⟨rfl, leaf σ₄ tree t h g⟩
    · rintro r ve₁ σ₃ ⟨rfl, tree, rows, s, z, rfl, hs3, hsl3, hst, g3⟩
      rw [Zg]
      refine wB_ok _ _ _ _ ?_
      have hp3 := g3.at hp nsp
      have hq3 := g3.at hq nsq
      have hpl := get_lt hp
      have hql := get_lt hq
      dsimp only [Z1i, Z28, Z1r, Z23, Z26, Z1g, Z1b, Z21, Z1z, Z1y, Z1q, Z1e, Z1s, Z1c, Z1k, Z24, Z1f, Z1d, Z27, Z1u, Z1h, Z0z, Z6, Z7, Z5, Z4, Z0v, Z0u, Z0w, Z11, Z0x, Z10, Z0y, Z0j, Z0i, Zh, Zg, Ze, Zd, Zf, Z19, Z1a, Z13, Z14, Z18, Z17, Z16, Z15, Z0k, Z0l, Z0m, Z0n, Z0o, Z0p, Z0q, Z0r, Z0t, Z0s, w_add_str, w_add_int, w_add_ref, Z25, Z1x, Z1w, Z1j, Z22, w_eq_str, w_ne_str, w_eq_int, w_ne_int, w_eq_ref, Z1o, Z1p, Z1v, Z1t, Z1m, Z1l, Z1n, Z20, b_and_t, b_and_f, b_or_t, b_or_f, b_not_t, b_not_f, Z1, Z0, Z2, Z3, Z9, Zc, Zb, Z8, Za, Nat.reduceBEq, Int.reduceBEq, Int.reduceAdd, Int.reduceSub, Int.reduceNeg, Option.getD_some, Option.getD_none]
      rw [run_append_ref hp3 (by rw [hti]; exact Nat.lt_of_lt_of_le hi (Nat.le_trans hlen (by decide)))]
      have hs4 : (σ₃.set p (trees ++ [tree]))[s]? = some (rows.map D.str) := by rw [List.getElem?_set_ne (Nat.ne_of_lt (Nat.lt_of_lt_of_le hpl hsl3))]; exact hs3
      have hp4 : (σ₃.set p (trees ++ [tree]))[p]? = some (trees ++ [tree]) := List.getElem?_set_self (get_lt hp3)
      have hq4 : (σ₃.set p (trees ++ [tree]))[q]? = some ((rowss.flatten.map fun r => 9 :: r).map D.str) := by rw [List.getElem?_set_ne npq]; exact hq3
      have g4 : Go src σ (σ₃.set p (trees ++ [tree])) := (g2.trans g3).setNew hσp nsp
      have hl4 : (σ₃.set p (trees ++ [tree])).length = σ₃.length := List.length_set
      generalize σ₃.set p (trees ++ [tree]) = σ₄ at *
      have hg31 := g3.1.1
      refine ⟨_, hs4, ?_⟩
      have hrn := hst.rows.num
      refine tabs_ok hs4 (Nat.le_trans hrn (Nat.le_trans n2 (by decide))) (fun r hr => Nat.le_trans (hst.rows.len r hr) (Nat.le_trans n4 (by decide))) fun σ₅ h5 g5 => ?_
      have hp5 := g5.get hp4
      have hq5 := g5.get hq4
      have hfl := flat_num (fun y hy => by obtain ⟨tr, htr⟩ := hall.right y hy; exact htr.rows.num)
      have hfl2 : rowss.length * nn d ≤ 2 * 16 := Nat.mul_le_mul (by rw [hall.len, hti]; exact Nat.le_trans (Nat.le_of_lt hi) hlen) n2
      rw [run_extend_ref hq5 h5 (Nat.ne_of_lt (get_lt hq4)) (by rw [List.length_map, List.length_map, List.length_map, List.length_map]; exact Nat.lt_of_le_of_lt (Nat.add_le_add (Nat.le_trans hfl hfl2) (Nat.le_trans hrn n2)) (by decide))]
      refine ⟨rfl, _, _, _, _, trees ++ [tree], rowss ++ [rows], rfl, ?_, ?_, by simp [hti], hall.snoc hst, (g4.trans (Go.ext g4.2 g5)).setNew hσq nsq⟩
      · rw [List.getElem?_set_ne npq.symm]; exact hp5
      · rw [List.getElem?_set_self (get_lt hq5)]
        simp
  · exact ⟨_, _, _, _, [], [], rfl, g1.at hp0 nsp, g1.at hq0 nsq, rfl, rfl, g0.trans g1⟩
  · rintro r ve σ₂ ⟨rfl, a, b, c, e, trees, rowss, rfl, hp, hq, hti, hall, g2⟩
    have hfl := flat_num (fun y hy => by obtain ⟨tr, htr⟩ := hall.right y hy; exact htr.rows.num)
    have hfl2 : rowss.length * nn d ≤ 2 * 16 := Nat.mul_le_mul (by rw [hall.len, hti]; exact hlen) n2
    rw [Zg]
    dsimp only [Z1i, Z28, Z1r, Z23, Z26, Z1g, Z1b, Z21, Z1z, Z1y, Z1q, Z1e, Z1s, Z1c, Z1k, Z24, Z1f, Z1d, Z27, Z1u, Z1h, Z0z, Z6, Z7, Z5, Z4, Z0v, Z0u, Z0w, Z11, Z0x, Z10, Z0y, Z0j, Z0i, Zh, Zg, Ze, Zd, Zf, Z19, Z1a, Z13, Z14, Z18, Z17, Z16, Z15, Z0k, Z0l, Z0m, Z0n, Z0o, Z0p, Z0q, Z0r, Z0t, Z0s, w_add_str, w_add_int, w_add_ref, Z25, Z1x, Z1w, Z1j, Z22, w_eq_str, w_ne_str, w_eq_int, w_ne_int, w_eq_ref, Z1o, Z1p, Z1v, Z1t, Z1m, Z1l, Z1n, Z20, b_and_t, b_and_f, b_or_t, b_or_f, b_not_t, b_not_f, Z1, Z0, Z2, Z3, Z9, Zc, Zb, Z8, Za, Nat.reduceBEq, Int.reduceBEq, Int.reduceAdd, Int.reduceSub, Int.reduceNeg, Option.getD_some, Option.getD_none]
    rw [tuple_ref hp]
    refine ⟨by first | (apply cap2; (case h1 => repeat' first | assumption | apply app_le | apply nil_le | apply cons_le); (case h2 => repeat' first | assumption | apply app_le | apply nil_le | apply cons_le); decide) | (apply cap1; (case h1 => repeat' first | assumption | apply app_le | apply nil_le | apply cons_le); decide) | (simp [sizeCap]; omega) | (unfold sizeCap; omega), ?_⟩
    refine brace_new hq (Nat.le_trans hfl (Nat.le_trans hfl2 (by decide))) fun r σ₃ h1 g3 h2 => ?_
    exact ⟨trees, rowss, r, rfl, hall, by rw [hti]; exact hlen, h1, g2.trans (Go.ext g2.2 g3), Nat.le_trans g2.1.1 h2⟩
end Mine
end

section
open PySem
namespace Mine
theorem joinL_snoc {sep y : List Nat} : ∀ {xs : List (List Nat)}, xs ≠ [] → joinL sep (xs ++ [y]) = joinL sep xs ++ sep ++ y
  | [], h => absurd rfl h
  | [x], _ => rfl
  | x :: z :: r, _ => by
    have ih := joinL_snoc (sep := sep) (y := y) (xs := z :: r) (by simp)
    show x ++ sep ++ joinL sep (z :: r ++ [y]) = _
    rw [ih]
    show _ = (x ++ sep ++ joinL sep (z :: r)) ++ sep ++ y
    simp
theorem brace_rows {rows : List (List Nat)} {N M : Nat} (h1 : ∀ r ∈ rows, 10 ∉ r) (h2 : rows.length ≤ N) (h3 : ∀ r ∈ rows, r.length ≤ M) (hM : 1 ≤ M) : Rows (braceR rows) (N + 2) (M + 1) := by
  unfold braceR
  split
  · refine ⟨by simp, ?_, by simp, ?_⟩
    · intro r hr; rw [List.mem_singleton.mp hr]; decide
    · intro r hr; rw [List.mem_singleton.mp hr]; simp; omega
  · refine ⟨by simp, ?_, by simp; omega, ?_⟩
    · intro r hr
      simp only [List.mem_append, List.mem_singleton, List.mem_map] at hr
      rcases hr with (rfl | ⟨a, ha, rfl⟩) | rfl
      · decide
      · have := h1 a ha
        simp [this]
      · decide
    · intro r hr
      simp only [List.mem_append, List.mem_singleton, List.mem_map] at hr
      rcases hr with (rfl | ⟨a, ha, rfl⟩) | rfl
      · simp
      · have := h3 a ha
        simpa using this
      · simp
theorem glue_rows {rows ms : List (List Nat)} {t m : List Nat} {N M T Nb Mb : Nat} (h1 : ∀ r ∈ rows, 10 ∉ r) (h2 : rows.length ≤ N) (h3 : ∀ r ∈ rows, r.length ≤ M) (t1 : 10 ∉ t) (t2 : t.length ≤ T) (hb : Rows (m :: ms) Nb Mb) :
    (∀ r ∈ glue rows t (m :: ms), 10 ∉ r) ∧ (glue rows t (m :: ms)).length ≤ N + Nb ∧ ∀ r ∈ glue rows t (m :: ms), r.length ≤ M + (T + Mb) := by
  have b1 := hb.row
  have b2 := hb.num
  have b3 := hb.len
  have m1 := b1 m (List.mem_cons_self ..)
  have m3 := b3 m (List.mem_cons_self ..)
  have hc := glue_count (rows := rows) (t := t) (m := m) (ms := ms)
  rw [List.length_cons] at b2
  refine ⟨fun r hr => ?_, by omega, fun r hr => ?_⟩
  · rcases glue_mem hr with h | h | rfl | ⟨q, hq, rfl⟩
    · exact h1 r h
    · exact b1 r (List.mem_cons_of_mem _ h)
    · simp [t1, m1]
    · have := h1 q hq
      simp [this, t1, m1]
  · rcases glue_mem hr with h | h | rfl | ⟨q, hq, rfl⟩
    · have := h3 r h; omega
    · have := b3 r (List.mem_cons_of_mem _ h); omega
    · simp; omega
    · have := h3 q hq
      simp; omega

structure Acc (K Nb Mb i : Nat) (ws : List Way) (rows : List (List Nat)) : Prop where
  len : ws.length = i
  ways : ∀ w ∈ ws, WayOK K w
  join : joinL [10] rows = joinL [32, 101, 108, 115, 101, 32] (ws.map fun w => w.head ++ w.bt)
  ne : i ≠ 0 → rows ≠ []
  nil : i = 0 → rows = []
  row : ∀ r ∈ rows, 10 ∉ r
  num : rows.length ≤ i * Nb
  rl : ∀ r ∈ rows, r.length ≤ i * (Mb + 100)
theorem acc_nil {K Nb Mb : Nat} : Acc K Nb Mb 0 [] [] := ⟨rfl, by simp, rfl, fun h => absurd rfl h, fun _ => rfl, by simp, by simp, by simp⟩
theorem acc_step {K Nb Mb i : Nat} {ws : List Way} {rows ms : List (List Nat)} {m : List Nat} {w : Way} (h : Acc K Nb Mb i ws rows) (hw : WayOK K w) (hm : Rows (m :: ms) Nb Mb) (hbt : w.bt = joinL [10] (m :: ms)) (hl : w.head.length ≤ 60) (hr : 10 ∉ w.head) :
    Acc K Nb Mb (i + 1) (ws ++ [w]) (glue rows (if i = 0 then w.head else [32, 101, 108, 115, 101, 32] ++ w.head) (m :: ms)) := by
  have ht : 10 ∉ (if i = 0 then w.head else [32, 101, 108, 115, 101, 32] ++ w.head) := by split <;> simp [hr]
  have htl : (if i = 0 then w.head else [32, 101, 108, 115, 101, 32] ++ w.head).length ≤ 100 := by split <;> (try simp) <;> omega
  obtain ⟨g1, g2, g3⟩ := glue_rows h.row h.num h.rl ht htl hm
  refine ⟨by simp [h.len], ?_, ?_, fun _ => glue_ne, fun h => by omega, g1, by rw [Nat.succ_mul]; exact g2, fun r hr => by have := g3 r hr; rw [Nat.succ_mul]; omega⟩
  · intro x hx
    rcases List.mem_append.mp hx with hx | hx
    · exact h.ways x hx
    · rw [List.mem_singleton.mp hx]; exact hw
  · rw [glue_join, List.map_append, ← hbt, h.join]
    by_cases hi : i = 0
    · have : ws = [] := List.eq_nil_of_length_eq_zero (by rw [h.len, hi])
      subst this
      rw [if_pos hi]
      simp [joinL]
    · rw [if_neg hi]
      have : (ws.map fun w => w.head ++ w.bt) ≠ [] := by
        intro e
        have := congrArg List.length e
        rw [List.length_map, h.len] at this
        exact hi this
      rw [List.map_cons, List.map_nil, joinL_snoc this]
      simp

theorem floop_ix {body : VEnv → Sto → Option (Option D × VEnv × Sto)} {t : Tgt} {src : D} {all : List D} (Inv : Nat → VEnv → Sto → Prop) (hst : ∀ i ve σ, Inv i ve σ → stays src all σ = true)
    (step : ∀ i d ve σ, all[i]? = some d → Inv i ve σ → RunV (store t d ve) fun ve' => RunX (body ve' σ) fun r ve₁ σ₁ => r = none ∧ Inv (i + 1) ve₁ σ₁) :
    ∀ (rest : List D) (i : Nat) (ve : VEnv) (σ : Sto), all.drop i = rest → i ≤ all.length → Inv i ve σ → RunX (floop body t src all rest ve σ) fun r ve' σ' => r = none ∧ Inv all.length ve' σ'
  | [], i, ve, σ, hm, hi, hv => by
    simp only [fl_nil, fl_cons, RunX]
    have : all.length ≤ i := List.drop_eq_nil_iff.mp hm
    have : i = all.length := by omega
    exact ⟨trivial, this ▸ hv⟩
  | d :: rest, i, ve, σ, hm, hi, hv => by
    have hd : all[i]? = some d := by
      have := congrArg List.head? hm
      rw [List.head?_drop] at this
      exact this
    have hi2 : i < all.length := (List.getElem?_eq_some_iff.mp hd).1
    have h := step i d ve σ hd hv
    simp only [fl_nil, fl_cons]
    cases hs : store t d ve with
    | none => rw [hs] at h; exact h.elim
    | some ve' =>
      rw [hs] at h
      dsimp only
      have h' : RunX (body ve' σ) fun r ve₁ σ₁ => r = none ∧ Inv (i + 1) ve₁ σ₁ := h
      obtain ⟨r, ve₁, σ₁, e, rfl, h2⟩ := h'.out
      rw [e]
      dsimp only
      rw [if_pos (hst _ _ _ h2)]
      refine floop_ix Inv hst step rest (i + 1) ve₁ σ₁ ?_ (by omega) h2
      have := congrArg List.tail hm
      rw [List.tail_drop] at this
      exact this
theorem slice_rev {q : Nat} {l : List D} {σ : Sto} {P : D → Sto → Prop} (h : σ[q]? = some l) (hl : l.length ≤ sizeCap) (hp : P (.ref σ.length) (σ ++ [l.reverse])) : RunO (opSlice (.ref q) none none (some (-1)) σ) P := by
  show RunO (if (-1 : Int) = -1 ∧ (none : Option Int) = none ∧ (none : Option Int) = none then (match σ[q]? with | some l => if l.length ≤ sizeCap then some (D.ref σ.length, σ ++ [l.reverse]) else none | _ => none) else none) P
  rw [if_pos ⟨rfl, rfl, rfl⟩, h]
  dsimp only
  rw [if_pos hl]
  exact hp

/-- what a block is good for -/
theorem blk_use {src d : Nat} {σ σ' : Sto} {x : D} (hd : d ≤ 1) (h : BlkGen src d σ x σ') : ∃ trees rowss r, x = .tup [.tup [.str [98, 108, 111, 99, 107], .int 1, .tup trees], .ref r] ∧ All2 (St2 (kk d) (nn d) (mm d)) trees rowss ∧ trees.length ≤ 2 ∧
    Rows (braceR rowss.flatten) (2 * nn d + 2) (mm d + 1) ∧ (∀ n, kk d + 1 ≤ n → Txt n 12 [.tup [.str [98, 108, 111, 99, 107], .int 1, .tup trees]] (joinL [10] (braceR rowss.flatten))) ∧ σ'[r]? = some ((braceR rowss.flatten).map D.str) ∧ Go src σ σ' ∧ σ.length ≤ r := by
  obtain ⟨trees, rowss, r, rfl, h1, h2, h3, h4, h5⟩ := h
  obtain ⟨n1, n2, n3, n4⟩ := nn_le hd
  have hx : ∀ y ∈ rowss, Rows y (nn d) (mm d) := fun y hy => by obtain ⟨tr, htr⟩ := h1.right y hy; exact htr.rows
  refine ⟨trees, rowss, r, rfl, h1, h2, ?_, fun n hn => ?_, h3, h4, h5⟩
  · refine brace_rows ?_ ?_ ?_ (by omega)
    · intro r hr
      obtain ⟨y, hy, hr⟩ := List.mem_flatten.mp hr
      exact (hx y hy).row r hr
    · have := flat_num (fun y hy => (hx y hy).num)
      have h6 : rowss.length * nn d ≤ 2 * nn d := Nat.mul_le_mul (by rw [h1.len]; omega) (Nat.le_refl _)
      omega
    · intro r hr
      obtain ⟨y, hy, hr⟩ := List.mem_flatten.mp hr
      exact (hx y hy).len r hr
  · obtain ⟨m, rfl⟩ : ∃ m, n = m + 3 := ⟨n - 3, by unfold kk at hn; omega⟩
    refine block_ok h1 (by omega) ?_ (by omega)
    have : nn d * (mm d + 2) ≤ 16 * 566 := Nat.mul_le_mul n2 (by omega)
    omega
end Mine
end

section
open PySem
namespace Mine
theorem rng_at {n i : Nat} {d : D} (h : ((List.range n).map fun (i : Nat) => D.int i)[i]? = some d) : d = .int (i : Int) ∧ i < n := by
  rw [List.getElem?_map] at h
  cases e : (List.range n)[i]? with
  | none => rw [e] at h; cases h
  | some j =>
    rw [e] at h
    obtain ⟨h1, h2⟩ := List.getElem?_eq_some_iff.mp e
    rw [List.getElem_range] at h2
    rw [List.length_range] at h1
    subst h2
    cases h
    exact ⟨rfl, h1⟩
noncomputable def wayD (w : Way) : D := .tup [w.init, w.told, w.block]
theorem call_fx {T : List (List Nat × Int)} {F : List FnDef} {n i : Nat} {args : List D} {σ : Sto} {P : D → Sto → Prop} {fd : FnDef} {ve : VEnv} (hF : F[i]? = some fd) (hb : fd.bind args = some ve)
    (h : RunX (pexecs T (pcall T F n) fd.body ve σ) fun r _ σ' => P (r.getD .none) σ') : RunO (pcall T F (n + 1) i args σ) P := by
  simp only [pc_S, hF, hb]
  obtain ⟨r, ve', σ', e, hp⟩ := h.out
  rw [e]
  exact hp
/-- one statement, then the others -/
theorem seq_ok {T : List (List Nat × Int)} {C : CallT} {st : PS} {rest : PSs} {ve : VEnv} {σ : Sto} {P : Option D → VEnv → Sto → Prop} (Q : VEnv → Sto → Prop)
    (h1 : wS T C st ve σ fun r ve₁ σ₁ => r = none ∧ Q ve₁ σ₁) (h2 : ∀ ve₁ σ₁, Q ve₁ σ₁ → RunX (pexecs T C rest ve₁ σ₁) P) : RunX (pexecs T C (.cons st rest) ve σ) P := by
  rw [runB_cons]
  refine RunX.mono (wS_ok _ _ _ _ h1) ?_
  rintro r ve₁ σ₁ ⟨rfl, h⟩
  exact h2 ve₁ σ₁ h
noncomputable def LastSt (src p d : Nat) (σ : Sto) (ws : List Way) (ve : VEnv) (σ' : Sto) : Prop := ∃ last lt q a b c e f h rows, ve = [some (.ref src), some (.int (d : Int)), some (.ref p), some (.ref q), some last, a, b, c, e, f, h] ∧ σ'[p]? = some (ws.map wayD) ∧
  LastOK (kk d + 1) last lt ∧ σ'[q]? = some (rows.map D.str) ∧ p < q ∧ joinL [10] rows = joinL [32, 101, 108, 115, 101, 32] (ws.map (fun w => w.head ++ w.bt) ++ lt) ∧ Rows rows (nn (d + 1)) (mm (d + 1)) ∧ Go src σ σ'

theorem head_len {i : Nat} {head : List Nat} (h : head.length ≤ 60) : (if i = 0 then head else [32, 101, 108, 115, 101, 32] ++ head).length ≤ 10000 := by split <;> (try simp) <;> omega
theorem rev_lt {n j : Nat} (h : j < n) : n - 1 - j < n := by omega
theorem rev_lt2 {n j : Nat} (h : j < n) : n - (j + 1) < n := by omega
theorem rev_e1 {n j : Nat} : n - (j + 1) = n - 1 - j := by omega
theorem rev_e2 {n j : Nat} (h : j < n) : n - (j + 1) + 1 = n - j := by omega
theorem kk_z {d n : Nat} (hn : kk (d + 1) ≤ n + 2) : ∃ z, n = z + 1 ∧ kk d + 1 ≤ z := ⟨n - 1, by unfold kk at *; omega, by unfold kk at *; omega⟩
theorem choice_gen {src d : Nat} (hd : d ≤ 1) (hb : BlkOK src d) : ChOK src d := by
  intro n σ hn hs
  obtain ⟨n1, n2, n3, n4⟩ := nn_le hd
  obtain ⟨m, rfl⟩ : ∃ m, n = m + 2 := ⟨n - 2, by omega⟩
  have hm : 24 ≤ m + 1 := by omega
  have hb1 : 20 + 10 * d ≤ m + 1 := by omega
  have k1 : 71 ≤ kk d + 1 := by unfold kk; omega
  have nb : 2 * nn d + 2 ≤ 34 := by omega
  have mb1 : mm d + 1 ≤ 565 := by omega
  have mb : mm d + 1 + 100 ≤ 665 := by omega
  have h6 : (2 * nn d + 2) * (mm d + 1 + 1) ≤ 34 * 566 := Nat.mul_le_mul nb (Nat.succ_le_succ mb1)
  have e3 : 3 * (2 * nn d + 2) + (2 * nn d + 2) ≤ nn (d + 1) := by show _ ≤ 8 * nn d + 8; omega
  have e4 : 3 * (mm d + 1 + 100) + (6 + (mm d + 1)) ≤ mm (d + 1) := by show _ ≤ 4 * mm d + 404; omega
  have hsl : src < σ.length := by
    obtain ⟨g, c, h, _⟩ := hs
    exact get_lt h
  have g0 : Go src σ (σ ++ [[]] ++ [[]]) := Go.ext hs (Gs.app.trans Gs.app)
  have hp0 : (σ ++ [[]] ++ [[]])[σ.length]? = some [] := by simp [List.getElem?_append]
  have hq0 : (σ ++ [[]] ++ [[]])[(σ ++ [[]]).length]? = some [] := get_new
  have hqn : (σ ++ [[]]).length = σ.length + 1 := by simp
  refine call_fx (fd := G2_30) (ve := [some _, some _, none, none, none, none, none, none, none, none, none]) rfl rfl ?_
  unfold G2_30
  refine seq_ok (fun ve σ' => ve = [some (.ref src), some (.int (d : Int)), some (.ref σ.length), some (.ref (σ ++ [[]]).length), some .none, none, none, none, none, none, none] ∧ σ' = σ ++ [[]] ++ [[]]) (by dsimp only [Z1i, Z28, Z1r, Z23, Z26, Z1g, Z1b, Z21, Z1z, Z1y, Z1q, Z1e, Z1s, Z1c, Z1k, Z24, Z1f, Z1d, Z27, Z1u, Z1h, Z0z, Z6, Z7, Z5, Z4, Z0v, Z0u, Z0w, Z11, Z0x, Z10, Z0y, Z0j, Z0i, Zh, Zg, Ze, Zd, Zf, Z19, Z1a, Z13, Z14, Z18, Z17, Z16, Z15, Z0k, Z0l, Z0m, Z0n, Z0o, Z0p, Z0q, Z0r, Z0t, Z0s, w_add_str, w_add_int, w_add_ref, Z25, Z1x, Z1w, Z1j, Z22, w_eq_str, w_ne_str, w_eq_int, w_ne_int, w_eq_ref, Z1o, Z1p, Z1v, Z1t, Z1m, Z1l, Z1n, Z20, b_and_t, b_and_f, b_or_t, b_or_f, b_not_t, b_not_f, Z1, Z0, Z2, Z3, Z9, Zc, Zb, Z8, Za, Nat.reduceBEq, Int.reduceBEq, Int.reduceAdd, Int.reduceSub, Int.reduceNeg, Option.getD_some, Option.getD_none]; exact ⟨rfl, rfl, rfl⟩) ?_
  rintro _ _ ⟨rfl, rfl⟩
  generalize (σ ++ [[]]).length = q0 at *
  generalize hpp : σ.length = p at *
  have nsp : p ≠ src := Nat.ne_of_gt hsl
  have hσp : σ.length ≤ p := Nat.le_of_eq hpp
  have npq0 : p < q0 := by omega
  have nsq0 : q0 ≠ src := by omega
  refine seq_ok (fun ve σ' => ∃ i a b c e f h ws rows q, ve = [some (.ref src), some (.int (d : Int)), some (.ref p), some (.ref q), some .none, a, b, c, e, f, h] ∧ σ'[p]? = some (ws.map wayD) ∧ σ'[q]? = some (rows.map D.str) ∧ p < q ∧
    i ≤ 3 ∧ i ≠ 0 ∧ Acc (kk d + 1) (2 * nn d + 2) (mm d + 1) i ws rows ∧ Go src σ σ') ?_ ?_
  · dsimp only [Z1i, Z28, Z1r, Z23, Z26, Z1g, Z1b, Z21, Z1z, Z1y, Z1q, Z1e, Z1s, Z1c, Z1k, Z24, Z1f, Z1d, Z27, Z1u, Z1h, Z0z, Z6, Z7, Z5, Z4, Z0v, Z0u, Z0w, Z11, Z0x, Z10, Z0y, Z0j, Z0i, Zh, Zg, Ze, Zd, Zf, Z19, Z1a, Z13, Z14, Z18, Z17, Z16, Z15, Z0k, Z0l, Z0m, Z0n, Z0o, Z0p, Z0q, Z0r, Z0t, Z0s, w_add_str, w_add_int, w_add_ref, Z25, Z1x, Z1w, Z1j, Z22, w_eq_str, w_ne_str, w_eq_int, w_ne_int, w_eq_ref, Z1o, Z1p, Z1v, Z1t, Z1m, Z1l, Z1n, Z20, b_and_t, b_and_f, b_or_t, b_or_f, b_not_t, b_not_f, Z1, Z0, Z2, Z3, Z9, Zc, Zb, Z8, Za, Nat.reduceBEq, Int.reduceBEq, Int.reduceAdd, Int.reduceSub, Int.reduceNeg, Option.getD_some, Option.getD_none]
    refine (take_ok (Nat.le_trans (by decide) hm) g0.2 (by decide) (by decide)).mono ?_
    rintro _ σ₁ ⟨t, rfl, t0, t1, g1⟩
    dsimp only [Z1i, Z28, Z1r, Z23, Z26, Z1g, Z1b, Z21, Z1z, Z1y, Z1q, Z1e, Z1s, Z1c, Z1k, Z24, Z1f, Z1d, Z27, Z1u, Z1h, Z0z, Z6, Z7, Z5, Z4, Z0v, Z0u, Z0w, Z11, Z0x, Z10, Z0y, Z0j, Z0i, Zh, Zg, Ze, Zd, Zf, Z19, Z1a, Z13, Z14, Z18, Z17, Z16, Z15, Z0k, Z0l, Z0m, Z0n, Z0o, Z0p, Z0q, Z0r, Z0t, Z0s, w_add_str, w_add_int, w_add_ref, Z25, Z1x, Z1w, Z1j, Z22, w_eq_str, w_ne_str, w_eq_int, w_ne_int, w_eq_ref, Z1o, Z1p, Z1v, Z1t, Z1m, Z1l, Z1n, Z20, b_and_t, b_and_f, b_or_t, b_or_f, b_not_t, b_not_f, Z1, Z0, Z2, Z3, Z9, Zc, Zb, Z8, Za, Nat.reduceBEq, Int.reduceBEq, Int.reduceAdd, Int.reduceSub, Int.reduceNeg, Option.getD_some, Option.getD_none]
    rw [range_int]
    refine ⟨⟨by omega, by omega⟩, _, rng_items (by omega), ?_⟩
    have hlen : ((List.range (1 + t).toNat).map fun (i : Nat) => D.int i).length ≤ 3 := by simp; omega
    have hlen0 : ((List.range (1 + t).toNat).map fun (i : Nat) => D.int i).length ≠ 0 := by simp; omega
    have hat : ∀ (i : Nat) (x : D), ((List.range (1 + t).toNat).map fun (i : Nat) => D.int i)[i]? = some x → x = D.int (i : Int) := fun i x h => (rng_at h).1
    generalize (List.range (1 + t).toNat).map (fun (i : Nat) => D.int i) = all at hlen hlen0 hat ⊢
    refine RunX.mono (floop_ix (Inv := fun i ve σ' => ∃ a b c e f h ws rows q, ve = [some (.ref src), some (.int (d : Int)), some (.ref p), some (.ref q), some .none, a, b, c, e, f, h] ∧ σ'[p]? = some (ws.map wayD) ∧ σ'[q]? = some (rows.map D.str) ∧ p < q ∧
      i ≤ 3 ∧ Acc (kk d + 1) (2 * nn d + 2) (mm d + 1) i ws rows ∧ Go src σ σ') (fun _ _ _ _ => rfl) ?_ all 0 _ σ₁ rfl (Nat.zero_le _) ?_) ?_
    · rintro i x ve σ₂ hix ⟨a, b, c, e, f, h, ws, rows, q, rfl, hp, hq, hpq, hi3, hacc, g2⟩
      have hi : i < all.length := (List.getElem?_eq_some_iff.mp hix).1
      obtain rfl := hat i x hix
      refine runV_of ?_
      dsimp only [Z1i, Z28, Z1r, Z23, Z26, Z1g, Z1b, Z21, Z1z, Z1y, Z1q, Z1e, Z1s, Z1c, Z1k, Z24, Z1f, Z1d, Z27, Z1u, Z1h, Z0z, Z6, Z7, Z5, Z4, Z0v, Z0u, Z0w, Z11, Z0x, Z10, Z0y, Z0j, Z0i, Zh, Zg, Ze, Zd, Zf, Z19, Z1a, Z13, Z14, Z18, Z17, Z16, Z15, Z0k, Z0l, Z0m, Z0n, Z0o, Z0p, Z0q, Z0r, Z0t, Z0s, w_add_str, w_add_int, w_add_ref, Z25, Z1x, Z1w, Z1j, Z22, w_eq_str, w_ne_str, w_eq_int, w_ne_int, w_eq_ref, Z1o, Z1p, Z1v, Z1t, Z1m, Z1l, Z1n, Z20, b_and_t, b_and_f, b_or_t, b_or_f, b_not_t, b_not_f, Z1, Z0, Z2, Z3, Z9, Zc, Zb, Z8, Za, Nat.reduceBEq, Int.reduceBEq, Int.reduceAdd, Int.reduceSub, Int.reduceNeg, Option.getD_some, Option.getD_none]
      refine wB_ok _ _ _ _ ?_
      dsimp only [Z1i, Z28, Z1r, Z23, Z26, Z1g, Z1b, Z21, Z1z, Z1y, Z1q, Z1e, Z1s, Z1c, Z1k, Z24, Z1f, Z1d, Z27, Z1u, Z1h, Z0z, Z6, Z7, Z5, Z4, Z0v, Z0u, Z0w, Z11, Z0x, Z10, Z0y, Z0j, Z0i, Zh, Zg, Ze, Zd, Zf, Z19, Z1a, Z13, Z14, Z18, Z17, Z16, Z15, Z0k, Z0l, Z0m, Z0n, Z0o, Z0p, Z0q, Z0r, Z0t, Z0s, w_add_str, w_add_int, w_add_ref, Z25, Z1x, Z1w, Z1j, Z22, w_eq_str, w_ne_str, w_eq_int, w_ne_int, w_eq_ref, Z1o, Z1p, Z1v, Z1t, Z1m, Z1l, Z1n, Z20, b_and_t, b_and_f, b_or_t, b_or_f, b_not_t, b_not_f, Z1, Z0, Z2, Z3, Z9, Zc, Zb, Z8, Za, Nat.reduceBEq, Int.reduceBEq, Int.reduceAdd, Int.reduceSub, Int.reduceNeg, Option.getD_some, Option.getD_none]
      refine (header_gen (Nat.le_trans (by decide) hm) g2.2).mono ?_
      rintro _ σ₃ ⟨init, told, tt, head, rfl, hh, g3⟩
      dsimp only [Z1i, Z28, Z1r, Z23, Z26, Z1g, Z1b, Z21, Z1z, Z1y, Z1q, Z1e, Z1s, Z1c, Z1k, Z24, Z1f, Z1d, Z27, Z1u, Z1h, Z0z, Z6, Z7, Z5, Z4, Z0v, Z0u, Z0w, Z11, Z0x, Z10, Z0y, Z0j, Z0i, Zh, Zg, Ze, Zd, Zf, Z19, Z1a, Z13, Z14, Z18, Z17, Z16, Z15, Z0k, Z0l, Z0m, Z0n, Z0o, Z0p, Z0q, Z0r, Z0t, Z0s, w_add_str, w_add_int, w_add_ref, Z25, Z1x, Z1w, Z1j, Z22, w_eq_str, w_ne_str, w_eq_int, w_ne_int, w_eq_ref, Z1o, Z1p, Z1v, Z1t, Z1m, Z1l, Z1n, Z20, b_and_t, b_and_f, b_or_t, b_or_f, b_not_t, b_not_f, Z1, Z0, Z2, Z3, Z9, Zc, Zb, Z8, Za, Nat.reduceBEq, Int.reduceBEq, Int.reduceAdd, Int.reduceSub, Int.reduceNeg, Option.getD_some, Option.getD_none]
      refine (hb _ σ₃ hb1 g3.2).mono ?_
      rintro y σ₄ hy
      obtain ⟨trees, rowss, r, rfl, b1, b2, b3, b4, b5, g4, b6⟩ := blk_use hd hy
      generalize hB : braceR rowss.flatten = B at *
      have g34 := g3.trans g4
      have hp4 := g34.at hp nsp
      have hq4 := g34.at hq (Nat.ne_of_gt (Nat.lt_trans hsl hpq))
      have hpl := get_lt hp
      have hql := get_lt hq
      have hwl := hacc.len
      dsimp only [Z1i, Z28, Z1r, Z23, Z26, Z1g, Z1b, Z21, Z1z, Z1y, Z1q, Z1e, Z1s, Z1c, Z1k, Z24, Z1f, Z1d, Z27, Z1u, Z1h, Z0z, Z6, Z7, Z5, Z4, Z0v, Z0u, Z0w, Z11, Z0x, Z10, Z0y, Z0j, Z0i, Zh, Zg, Ze, Zd, Zf, Z19, Z1a, Z13, Z14, Z18, Z17, Z16, Z15, Z0k, Z0l, Z0m, Z0n, Z0o, Z0p, Z0q, Z0r, Z0t, Z0s, w_add_str, w_add_int, w_add_ref, Z25, Z1x, Z1w, Z1j, Z22, w_eq_str, w_ne_str, w_eq_int, w_ne_int, w_eq_ref, Z1o, Z1p, Z1v, Z1t, Z1m, Z1l, Z1n, Z20, b_and_t, b_and_f, b_or_t, b_or_f, b_not_t, b_not_f, Z1, Z0, Z2, Z3, Z9, Zc, Zb, Z8, Za, Nat.reduceBEq, Int.reduceBEq, Int.reduceAdd, Int.reduceSub, Int.reduceNeg, Option.getD_some, Option.getD_none]
      rw [run_append_ref hp4 (by first | (apply cap2; (case h1 => repeat' first | assumption | apply app_le | apply nil_le | apply cons_le); (case h2 => repeat' first | assumption | apply app_le | apply nil_le | apply cons_le); decide) | (apply cap1; (case h1 => repeat' first | assumption | apply app_le | apply nil_le | apply cons_le); decide) | (simp [sizeCap]; omega) | (unfold sizeCap; omega))]
      have hw : WayOK (kk d + 1) ⟨init, told, .tup [.str [98, 108, 111, 99, 107], .int 1, .tup trees], tt, head, joinL [10] B⟩ := by
        refine ⟨fun n hn => hh.cond n (Nat.le_trans (by decide) (Nat.le_trans k1 hn)), fun n hn => hh.hdr n (Nat.le_trans (by decide) (Nat.le_trans k1 hn)), b4, Nat.le_trans hh.len (by decide), ?_⟩
        exact Nat.le_trans b3.join_len (Nat.le_trans h6 (by decide))
      cases B with
      | nil => exact absurd rfl b3.ne
      | cons b0 bs =>
        have hstep := acc_step hacc hw b3 rfl hh.len hh.row
        have wD : ws.map wayD ++ [(D.tup [init, told, .tup [.str [98, 108, 111, 99, 107], .int 1, .tup trees]])] = (ws ++ [(⟨init, told, .tup [.str [98, 108, 111, 99, 107], .int 1, .tup trees], tt, head, joinL [10] (b0 :: bs)⟩ : Way)]).map wayD := by rw [List.map_append]; rfl
        rw [wD]
        generalize ws ++ [(⟨init, told, .tup [.str [98, 108, 111, 99, 107], .int 1, .tup trees], tt, head, joinL [10] (b0 :: bs)⟩ : Way)] = ws' at hstep
        have hb0 := b3.len b0 (List.mem_cons_self ..)
        have hbs := b3.num
        rw [List.length_cons] at hbs
        have hhl := hh.len
        have hn5 : rows.length ≤ 3 * 34 := Nat.le_trans hacc.num (Nat.mul_le_mul hi3 nb)
        have hl5 : ∀ r ∈ rows, r.length ≤ 10000 := fun r hr => by
          have h1 := hacc.rl r hr
          have h2 : i * (mm d + 1 + 100) ≤ 3 * 665 := Nat.mul_le_mul hi3 mb
          exact Nat.le_trans h1 (Nat.le_trans h2 (by decide))
        have hp5 : (σ₄.set p (ws'.map wayD))[p]? = some (ws'.map wayD) := List.getElem?_set_self (get_lt hp4)
        have hq5 : (σ₄.set p (ws'.map wayD))[q]? = some (rows.map D.str) := by rw [List.getElem?_set_ne (Nat.ne_of_lt hpq)]; exact hq4
        have hr5 : (σ₄.set p (ws'.map wayD))[r]? = some ((b0 :: bs).map D.str) := by rw [List.getElem?_set_ne (Nat.ne_of_lt (Nat.lt_of_lt_of_le hpl (Nat.le_trans g3.1.1 b6)))]; exact b5
        have g5 : Go src σ (σ₄.set p (ws'.map wayD)) := (g2.trans g34).setNew hσp nsp
        have hsl5 : (σ₄.set p (ws'.map wayD)).length = σ₄.length := List.length_set
        generalize σ₄.set p (ws'.map wayD) = σ₅ at *
        have close : ∀ text, text = (if i = 0 then head else [32, 101, 108, 115, 101, 32] ++ head) → RunO (C2 (m + 1) 29 [.ref q, .str text, .ref r] σ₅) fun d_1 σ₆ => none = (none : Option D) ∧ ∃ a b c e f h ws rows q,
            [some (.ref src), some (.int (d : Int)), some (.ref p), some d_1, some .none, some (.int (i : Int)), some init, some told, some (.str head), some (.tup [.str [98, 108, 111, 99, 107], .int 1, .tup trees]), some (.ref r)] =
              [some (.ref src), some (.int (d : Int)), some (.ref p), some (.ref q), some .none, a, b, c, e, f, h] ∧ σ₆[p]? = some (ws.map wayD) ∧ σ₆[q]? = some (rows.map D.str) ∧ p < q ∧ i + 1 ≤ 3 ∧ Acc (kk d + 1) (2 * nn d + 2) (mm d + 1) (i + 1) ws rows ∧ Go src σ σ₆ := by
          rintro text rfl
          refine (joined_ok hq5 hr5 (Nat.le_trans hn5 (by decide)) (Nat.le_trans (Nat.le_of_succ_le hbs) (Nat.le_trans nb (by decide))) hl5 (head_len hhl) (Nat.le_trans hb0 (Nat.le_trans mb1 (by decide)))).mono ?_
          rintro _ σ₆ ⟨r', rfl, h1, h2, h3⟩
          exact ⟨rfl, _, _, _, _, _, _, ws', _, r', rfl, h2.get hp5, h1, Nat.lt_of_lt_of_le (get_lt hp5) h3, Nat.le_trans hi hlen, hstep, g5.trans (Go.ext g5.2 h2)⟩
        by_cases hz : i = 0
        · subst hz
          exact close head rfl
        · have e : ((i : Int) == 0) = false := beq_eq_false_iff_ne.mpr (mt Int.ofNat_eq_zero.mp hz)
          rw [e]
          exact ⟨by first | (apply cap2; (case h1 => repeat' first | assumption | apply app_le | apply nil_le | apply cons_le); (case h2 => repeat' first | assumption | apply app_le | apply nil_le | apply cons_le); decide) | (apply cap1; (case h1 => repeat' first | assumption | apply app_le | apply nil_le | apply cons_le); decide) | (simp [sizeCap]; omega) | (unfold sizeCap; omega), close _ (by rw [if_neg hz])⟩
    · exact ⟨_, _, _, _, _, _, [], [], q0, rfl, g1.at hp0 nsp, g1.at hq0 nsq0, npq0, Nat.zero_le _, acc_nil, g0.trans g1⟩
    · rintro r ve σ₂ ⟨rfl, a, b, c, e, f, h, ws, rows, q, rfl, hp, hq, hpq, hi3, hacc, g2⟩
      exact ⟨rfl, all.length, _, _, _, _, _, _, ws, rows, q, rfl, hp, hq, hpq, hi3, hlen0, hacc, g2⟩
  rintro _ σ₂ ⟨i, a, b, c, e, f, h, ws, rows, q, rfl, hp, hq, hpq, hi3, hi0, hacc, g2⟩
  have hwl := hacc.len
  have hpl := get_lt hp
  have hql := get_lt hq
  refine seq_ok (LastSt src p d σ ws) ?_ ?_
  · have hn5 : rows.length ≤ 3 * (2 * nn d + 2) := Nat.le_trans hacc.num (Nat.mul_le_mul hi3 (Nat.le_refl _))
    have hl5 : ∀ r ∈ rows, r.length ≤ 3 * (mm d + 1 + 100) := fun r hr => Nat.le_trans (hacc.rl r hr) (Nat.mul_le_mul hi3 (Nat.le_refl _))
    have e1 : nn (d + 1) = 8 * nn d + 8 := rfl
    have e2 : mm (d + 1) = 4 * mm d + 404 := rfl
    dsimp only [Z1i, Z28, Z1r, Z23, Z26, Z1g, Z1b, Z21, Z1z, Z1y, Z1q, Z1e, Z1s, Z1c, Z1k, Z24, Z1f, Z1d, Z27, Z1u, Z1h, Z0z, Z6, Z7, Z5, Z4, Z0v, Z0u, Z0w, Z11, Z0x, Z10, Z0y, Z0j, Z0i, Zh, Zg, Ze, Zd, Zf, Z19, Z1a, Z13, Z14, Z18, Z17, Z16, Z15, Z0k, Z0l, Z0m, Z0n, Z0o, Z0p, Z0q, Z0r, Z0t, Z0s, w_add_str, w_add_int, w_add_ref, Z25, Z1x, Z1w, Z1j, Z22, w_eq_str, w_ne_str, w_eq_int, w_ne_int, w_eq_ref, Z1o, Z1p, Z1v, Z1t, Z1m, Z1l, Z1n, Z20, b_and_t, b_and_f, b_or_t, b_or_f, b_not_t, b_not_f, Z1, Z0, Z2, Z3, Z9, Zc, Zb, Z8, Za, Nat.reduceBEq, Int.reduceBEq, Int.reduceAdd, Int.reduceSub, Int.reduceNeg, Option.getD_some, Option.getD_none]
    refine (take_ok (Nat.le_trans (by decide) hm) g2.2 (by decide) (by decide)).mono ?_
    rintro _ σ₃ ⟨u, rfl, u0, u1, g3⟩
    by_cases hz : u = 0
    · simp only [Z1i, Z28, Z1r, Z23, Z26, Z1g, Z1b, Z21, Z1z, Z1y, Z1q, Z1e, Z1s, Z1c, Z1k, Z24, Z1f, Z1d, Z27, Z1u, Z1h, Z0z, Z6, Z7, Z5, Z4, Z0v, Z0u, Z0w, Z11, Z0x, Z10, Z0y, Z0j, Z0i, Zh, Zg, Ze, Zd, Zf, Z19, Z1a, Z13, Z14, Z18, Z17, Z16, Z15, Z0k, Z0l, Z0m, Z0n, Z0o, Z0p, Z0q, Z0r, Z0t, Z0s, w_add_str, w_add_int, w_add_ref, Z25, Z1x, Z1w, Z1j, Z22, w_eq_str, w_ne_str, w_eq_int, w_ne_int, w_eq_ref, Z1o, Z1p, Z1v, Z1t, Z1m, Z1l, Z1n, Z20, b_and_t, b_and_f, b_or_t, b_or_f, b_not_t, b_not_f, Z1, Z0, Z2, Z3, Z9, Zc, Zb, Z8, Za, Nat.reduceBEq, Int.reduceBEq, Int.reduceAdd, Int.reduceSub, Int.reduceNeg, Option.getD_some, Option.getD_none, item_0, item_1, item_2, item_3, item_4, item_5, item_6, notin_tup, in_tup, in_str, strsOf_nil, strsOf_cons, str_7, len_str, len_ref, range_int, List.any_cons, List.any_nil, Bool.or_false, Bool.false_or, Bool.or_true, Bool.true_or, Bool.true_and, Bool.false_and, Bool.and_true, Bool.and_false, Bool.not_true, Bool.not_false, List.contains_cons, List.contains_nil, beq_self_eq_true, true_and, and_true, Int.reduceEq, Int.reduceLT, Int.reduceLE, decide_true, decide_false, List.length_cons, List.length_nil, Nat.reduceAdd, Nat.reduceLeDiff, eq_self, hz]
      refine (hb _ σ₃ hb1 g3.2).mono ?_
      rintro y σ₄ hy
      obtain ⟨trees, rowss, r, rfl, b1, b2, b3, b4, b5, g4, b6⟩ := blk_use hd hy
      generalize hB : braceR rowss.flatten = B at *
      have g34 := g3.trans g4
      have hp4 := g34.at hp nsp
      have hq4 := g34.at hq (Nat.ne_of_gt (Nat.lt_trans hsl hpq))
      dsimp only [Z1i, Z28, Z1r, Z23, Z26, Z1g, Z1b, Z21, Z1z, Z1y, Z1q, Z1e, Z1s, Z1c, Z1k, Z24, Z1f, Z1d, Z27, Z1u, Z1h, Z0z, Z6, Z7, Z5, Z4, Z0v, Z0u, Z0w, Z11, Z0x, Z10, Z0y, Z0j, Z0i, Zh, Zg, Ze, Zd, Zf, Z19, Z1a, Z13, Z14, Z18, Z17, Z16, Z15, Z0k, Z0l, Z0m, Z0n, Z0o, Z0p, Z0q, Z0r, Z0t, Z0s, w_add_str, w_add_int, w_add_ref, Z25, Z1x, Z1w, Z1j, Z22, w_eq_str, w_ne_str, w_eq_int, w_ne_int, w_eq_ref, Z1o, Z1p, Z1v, Z1t, Z1m, Z1l, Z1n, Z20, b_and_t, b_and_f, b_or_t, b_or_f, b_not_t, b_not_f, Z1, Z0, Z2, Z3, Z9, Zc, Zb, Z8, Za, Nat.reduceBEq, Int.reduceBEq, Int.reduceAdd, Int.reduceSub, Int.reduceNeg, Option.getD_some, Option.getD_none]
      cases B with
      | nil => exact absurd rfl b3.ne
      | cons b0 bs =>
        have hb0 := b3.len b0 (List.mem_cons_self ..)
        have hbs := b3.num
        rw [List.length_cons] at hbs
        obtain ⟨q1, q2, q3⟩ := glue_rows (t := [32, 101, 108, 115, 101, 32]) hacc.row hn5 hl5 (by decide) (T := 6) (by decide) b3
        have hbl := b3.join_len
        refine (joined_ok hq4 b5 (Nat.le_trans hn5 (Nat.le_trans (Nat.mul_le_mul (Nat.le_refl 3) nb) (by decide))) (Nat.le_trans (Nat.le_of_succ_le hbs) (Nat.le_trans nb (by decide))) (fun r hr => Nat.le_trans (hl5 r hr) (Nat.le_trans (Nat.mul_le_mul (Nat.le_refl 3) mb) (by decide))) (by decide) (Nat.le_trans hb0 (Nat.le_trans mb1 (by decide)))).mono ?_
        rintro _ σ₅ ⟨r', rfl, h1, h2, h3⟩
        refine ⟨_, [joinL [10] (b0 :: bs)], r', _, _, _, _, _, _, glue rows [32, 101, 108, 115, 101, 32] (b0 :: bs), rfl, h2.get hp4, .inr ⟨_, _, rfl, rfl, b4, Nat.le_trans hbl (Nat.le_trans h6 (by decide))⟩, h1, Nat.lt_of_lt_of_le (get_lt hp4) h3, ?_, ⟨glue_ne, q1, Nat.le_trans q2 e3, fun r hr => Nat.le_trans (q3 r hr) e4⟩, (g2.trans g34).trans (Go.ext g4.2 h2)⟩
        rw [glue_join, hacc.join, joinL_snoc]
        intro e
        have := congrArg List.length e
        rw [List.length_map] at this
        exact hi0 (by rw [← hwl, this]; rfl)
    · dsimp only [Z1i, Z28, Z1r, Z23, Z26, Z1g, Z1b, Z21, Z1z, Z1y, Z1q, Z1e, Z1s, Z1c, Z1k, Z24, Z1f, Z1d, Z27, Z1u, Z1h, Z0z, Z6, Z7, Z5, Z4, Z0v, Z0u, Z0w, Z11, Z0x, Z10, Z0y, Z0j, Z0i, Zh, Zg, Ze, Zd, Zf, Z19, Z1a, Z13, Z14, Z18, Z17, Z16, Z15, Z0k, Z0l, Z0m, Z0n, Z0o, Z0p, Z0q, Z0r, Z0t, Z0s, w_add_str, w_add_int, w_add_ref, Z25, Z1x, Z1w, Z1j, Z22, w_eq_str, w_ne_str, w_eq_int, w_ne_int, w_eq_ref, Z1o, Z1p, Z1v, Z1t, Z1m, Z1l, Z1n, Z20, b_and_t, b_and_f, b_or_t, b_or_f, b_not_t, b_not_f, Z1, Z0, Z2, Z3, Z9, Zc, Zb, Z8, Za, Nat.reduceBEq, Int.reduceBEq, Int.reduceAdd, Int.reduceSub, Int.reduceNeg, Option.getD_some, Option.getD_none]
      rw [beq_eq_false_iff_ne.mpr hz]
      dsimp only [Z1i, Z28, Z1r, Z23, Z26, Z1g, Z1b, Z21, Z1z, Z1y, Z1q, Z1e, Z1s, Z1c, Z1k, Z24, Z1f, Z1d, Z27, Z1u, Z1h, Z0z, Z6, Z7, Z5, Z4, Z0v, Z0u, Z0w, Z11, Z0x, Z10, Z0y, Z0j, Z0i, Zh, Zg, Ze, Zd, Zf, Z19, Z1a, Z13, Z14, Z18, Z17, Z16, Z15, Z0k, Z0l, Z0m, Z0n, Z0o, Z0p, Z0q, Z0r, Z0t, Z0s, w_add_str, w_add_int, w_add_ref, Z25, Z1x, Z1w, Z1j, Z22, w_eq_str, w_ne_str, w_eq_int, w_ne_int, w_eq_ref, Z1o, Z1p, Z1v, Z1t, Z1m, Z1l, Z1n, Z20, b_and_t, b_and_f, b_or_t, b_or_f, b_not_t, b_not_f, Z1, Z0, Z2, Z3, Z9, Zc, Zb, Z8, Za, Nat.reduceBEq, Int.reduceBEq, Int.reduceAdd, Int.reduceSub, Int.reduceNeg, Option.getD_some, Option.getD_none]
      refine ⟨rfl, _, [], q, _, _, _, _, _, _, rows, rfl, g3.at hp nsp, .inl ⟨rfl, rfl⟩, g3.at hq (Nat.ne_of_gt (Nat.lt_trans hsl hpq)), hpq, ?_, ⟨hacc.ne hi0, hacc.row, Nat.le_trans hn5 (Nat.le_trans (Nat.le_add_right _ _) e3), fun r hr => Nat.le_trans (hl5 r hr) (Nat.le_trans (Nat.le_add_right _ _) e4)⟩, g2.trans g3⟩
      rw [hacc.join, List.append_nil]
  rintro _ σ₃ ⟨last, lt, q', a', b', c', e', f', h', rows', rfl, hp3, hlast, hq3, hpq3, hjoin, hrows, g3⟩
  refine wB_ok _ _ _ _ ?_
  dsimp only [Z1i, Z28, Z1r, Z23, Z26, Z1g, Z1b, Z21, Z1z, Z1y, Z1q, Z1e, Z1s, Z1c, Z1k, Z24, Z1f, Z1d, Z27, Z1u, Z1h, Z0z, Z6, Z7, Z5, Z4, Z0v, Z0u, Z0w, Z11, Z0x, Z10, Z0y, Z0j, Z0i, Zh, Zg, Ze, Zd, Zf, Z19, Z1a, Z13, Z14, Z18, Z17, Z16, Z15, Z0k, Z0l, Z0m, Z0n, Z0o, Z0p, Z0q, Z0r, Z0t, Z0s, w_add_str, w_add_int, w_add_ref, Z25, Z1x, Z1w, Z1j, Z22, w_eq_str, w_ne_str, w_eq_int, w_ne_int, w_eq_ref, Z1o, Z1p, Z1v, Z1t, Z1m, Z1l, Z1n, Z20, b_and_t, b_and_f, b_or_t, b_or_f, b_not_t, b_not_f, Z1, Z0, Z2, Z3, Z9, Zc, Zb, Z8, Za, Nat.reduceBEq, Int.reduceBEq, Int.reduceAdd, Int.reduceSub, Int.reduceNeg, Option.getD_some, Option.getD_none]
  refine slice_rev hp3 (by first | (apply cap2; (case h1 => repeat' first | assumption | apply app_le | apply nil_le | apply cons_le); (case h2 => repeat' first | assumption | apply app_le | apply nil_le | apply cons_le); decide) | (apply cap1; (case h1 => repeat' first | assumption | apply app_le | apply nil_le | apply cons_le); decide) | (simp [sizeCap]; omega) | (unfold sizeCap; omega)) ?_
  have gN : Gs [] σ₃ (σ₃ ++ [(ws.map wayD).reverse]) := Gs.app
  have hN : (σ₃ ++ [(ws.map wayD).reverse])[σ₃.length]? = some (ws.map wayD).reverse := get_new
  have gN2 := g3.trans (Go.ext g3.2 gN)
  have hq4 := gN.get hq3
  generalize σ₃ ++ [(ws.map wayD).reverse] = σ₄ at *
  refine ⟨(ws.map wayD).reverse, hN, ?_⟩
  refine RunX.mono (floop_ix (Inv := fun i ve σ' => σ' = σ₄ ∧ ∃ a b c e f h, ve = [some (.ref src), some (.int (d : Int)), some (.ref p), some (.ref q'), some (choiceD (ws.drop (ws.length - i)) last), a, b, c, e, f, h]) ?_ ?_ _ 0 _ _ rfl (Nat.zero_le _) ?_) ?_
  · rintro _ _ σ' ⟨rfl, _⟩
    exact ref_stays hN
  · rintro j x ve σ' hj ⟨rfl, a, b, c, e, f, h, rfl⟩
    have hjl := (List.getElem?_eq_some_iff.mp hj).1
    rw [List.length_reverse, List.length_map] at hjl
    rw [List.getElem?_reverse (by rw [List.length_map]; exact hjl), List.length_map, List.getElem?_map, List.getElem?_eq_getElem (rev_lt hjl)] at hj
    have hx : x = wayD (ws[ws.length - 1 - j]'(rev_lt hjl)) := by
      have := Option.some.inj hj
      exact this.symm
    subst hx
    have hdr : ws.drop (ws.length - (j + 1)) = ws[ws.length - 1 - j]'(rev_lt hjl) :: ws.drop (ws.length - j) := by
      rw [List.drop_eq_getElem_cons (rev_lt2 hjl)]
      congr 1
      · congr 1; exact rev_e1
      · congr 1; exact rev_e2 hjl
    rw [hdr]
    refine runV_of ?_
    dsimp only [Z1i, Z28, Z1r, Z23, Z26, Z1g, Z1b, Z21, Z1z, Z1y, Z1q, Z1e, Z1s, Z1c, Z1k, Z24, Z1f, Z1d, Z27, Z1u, Z1h, Z0z, Z6, Z7, Z5, Z4, Z0v, Z0u, Z0w, Z11, Z0x, Z10, Z0y, Z0j, Z0i, Zh, Zg, Ze, Zd, Zf, Z19, Z1a, Z13, Z14, Z18, Z17, Z16, Z15, Z0k, Z0l, Z0m, Z0n, Z0o, Z0p, Z0q, Z0r, Z0t, Z0s, w_add_str, w_add_int, w_add_ref, Z25, Z1x, Z1w, Z1j, Z22, w_eq_str, w_ne_str, w_eq_int, w_ne_int, w_eq_ref, Z1o, Z1p, Z1v, Z1t, Z1m, Z1l, Z1n, Z20, b_and_t, b_and_f, b_or_t, b_or_f, b_not_t, b_not_f, Z1, Z0, Z2, Z3, Z9, Zc, Zb, Z8, Za, Nat.reduceBEq, Int.reduceBEq, Int.reduceAdd, Int.reduceSub, Int.reduceNeg, Option.getD_some, Option.getD_none, wayD]
    refine wB_ok _ _ _ _ ?_
    dsimp only [Z1i, Z28, Z1r, Z23, Z26, Z1g, Z1b, Z21, Z1z, Z1y, Z1q, Z1e, Z1s, Z1c, Z1k, Z24, Z1f, Z1d, Z27, Z1u, Z1h, Z0z, Z6, Z7, Z5, Z4, Z0v, Z0u, Z0w, Z11, Z0x, Z10, Z0y, Z0j, Z0i, Zh, Zg, Ze, Zd, Zf, Z19, Z1a, Z13, Z14, Z18, Z17, Z16, Z15, Z0k, Z0l, Z0m, Z0n, Z0o, Z0p, Z0q, Z0r, Z0t, Z0s, w_add_str, w_add_int, w_add_ref, Z25, Z1x, Z1w, Z1j, Z22, w_eq_str, w_ne_str, w_eq_int, w_ne_int, w_eq_ref, Z1o, Z1p, Z1v, Z1t, Z1m, Z1l, Z1n, Z20, b_and_t, b_and_f, b_or_t, b_or_f, b_not_t, b_not_f, Z1, Z0, Z2, Z3, Z9, Zc, Zb, Z8, Za, Nat.reduceBEq, Int.reduceBEq, Int.reduceAdd, Int.reduceSub, Int.reduceNeg, Option.getD_some, Option.getD_none]
    exact ⟨rfl, rfl, _, _, _, _, _, _, rfl⟩
  · refine ⟨rfl, a', b', c', e', f', h', ?_⟩
    rw [Nat.sub_zero, List.drop_length]
    rfl
  · rintro r ve σ' ⟨rfl, rfl, a, b, c, e, f, h, rfl⟩
    rw [Zg]
    dsimp only [Z1i, Z28, Z1r, Z23, Z26, Z1g, Z1b, Z21, Z1z, Z1y, Z1q, Z1e, Z1s, Z1c, Z1k, Z24, Z1f, Z1d, Z27, Z1u, Z1h, Z0z, Z6, Z7, Z5, Z4, Z0v, Z0u, Z0w, Z11, Z0x, Z10, Z0y, Z0j, Z0i, Zh, Zg, Ze, Zd, Zf, Z19, Z1a, Z13, Z14, Z18, Z17, Z16, Z15, Z0k, Z0l, Z0m, Z0n, Z0o, Z0p, Z0q, Z0r, Z0t, Z0s, w_add_str, w_add_int, w_add_ref, Z25, Z1x, Z1w, Z1j, Z22, w_eq_str, w_ne_str, w_eq_int, w_ne_int, w_eq_ref, Z1o, Z1p, Z1v, Z1t, Z1m, Z1l, Z1n, Z20, b_and_t, b_and_f, b_or_t, b_or_f, b_not_t, b_not_f, Z1, Z0, Z2, Z3, Z9, Zc, Zb, Z8, Za, Nat.reduceBEq, Int.reduceBEq, Int.reduceAdd, Int.reduceSub, Int.reduceNeg, Option.getD_some, Option.getD_none]
    rw [List.length_reverse, List.length_map, Nat.sub_self, List.drop_zero]
    have hch := fun m hm => choice_ok (m := m) hacc.ways hlast (by rw [hwl]; exact hi3) hm
    rw [← hjoin] at hch
    cases ws with
    | nil => exact absurd hwl.symm hi0
    | cons w l =>
      refine ⟨_, rows', q', rfl, fun n hn => ?_, hrows, hq4, gN2, Nat.le_trans hσp (Nat.le_of_lt hpq3)⟩
      obtain ⟨z, rfl, hz⟩ := kk_z hn
      exact hch z hz
end Mine
end

section
open PySem
namespace Mine
theorem blk0 {src : Nat} : BlkOK src 0 := block_gen (.inl rfl)
theorem ch0 {src : Nat} : ChOK src 0 := choice_gen (by omega) blk0
theorem blk1 {src : Nat} : BlkOK src 1 := block_gen (.inr ⟨rfl, ch0⟩)
theorem ch1 {src : Nat} : ChOK src 1 := choice_gen (by omega) blk1

noncomputable def OptSim (d : D) (s : List Nat) : Prop := (d = .none ∧ s = []) ∨ (isNoneD d = false ∧ Sim d s)
noncomputable def OptEx (d : D) (s : List Nat) : Prop := (d = .none ∧ s = []) ∨ (isNoneD d = false ∧ Ex d s)
theorem Sim.some {d : D} {s : List Nat} (h : Sim d s) : OptSim d s := by
  obtain ⟨kk, rest, e, -⟩ := h.kind
  exact .inr ⟨by rw [e]; rfl, h⟩
theorem Ex.some {d : D} {s : List Nat} (h : Ex d s) : OptEx d s := by
  obtain ⟨l, e⟩ := (h.sh false).tup
  exact .inr ⟨by rw [e]; rfl, h⟩
theorem OptSim.len {d : D} {s : List Nat} (h : OptSim d s) : s.length ≤ 40 := by
  rcases h with ⟨_, rfl⟩ | ⟨_, h⟩
  · simp
  · exact h.len
theorem OptEx.len {d : D} {s : List Nat} (h : OptEx d s) : s.length ≤ 5 := by
  rcases h with ⟨_, rfl⟩ | ⟨_, h⟩
  · simp
  · exact h.len
theorem OptSim.row {d : D} {s : List Nat} (h : OptSim d s) : 10 ∉ s := by
  rcases h with ⟨_, rfl⟩ | ⟨_, h⟩
  · simp
  · exact h.row
theorem OptEx.row {d : D} {s : List Nat} (h : OptEx d s) : 10 ∉ s := by
  rcases h with ⟨_, rfl⟩ | ⟨_, h⟩
  · simp
  · exact h.row

/-- what stands ahead of a loop's block -/
noncomputable def forT (init post : D) (s x p : List Nat) : List Nat :=
  if isNoneD init && isNoneD post then [102, 111, 114, 32] ++ (if x = [] then [] else x ++ [32]) else [102, 111, 114, 32] ++ s ++ [59, 32] ++ x ++ [59] ++ (if isNoneD post then [] else [32] ++ p) ++ [32]

theorem loop_ok {m : Nat} {lab init told post block : D} {s x p bt : List Nat} (h1 : OptSim init s) (h2 : OptEx told x) (h3 : OptSim post p) (hb : Txt m 12 [block] bt) (hbl : bt.length ≤ 20000) (hm : 70 ≤ m) :
    Txt (m + 1) 19 [.tup [.str [102, 111, 114], .int 1, lab, init, told, post, block]] (forT init post s x p ++ bt) := by
  intro σ
  have l1 := h1.len
  have l2 := h2.len
  have l3 := h3.len
  have hsl : ∀ σ : Sto, opSlice (.tup [.str [102, 111, 114], .int 1, lab, init, told, post, block]) (some 3) (some 7) none σ = some (.tup [init, told, post, block], σ) := fun σ => rfl
  refine call_fx (fd := G2_19) (ve := [some _, none, none, none, none, none, none, none]) rfl rfl ?_
  unfold G2_19
  refine seq_ok (fun ve σ' => ve = [some (.tup [.str [102, 111, 114], .int 1, lab, init, told, post, block]), some init, some told, some post, some block, none, none, none] ∧ σ = σ') (by
    dsimp only [Z1i, Z28, Z1r, Z23, Z26, Z1g, Z1b, Z21, Z1z, Z1y, Z1q, Z1e, Z1s, Z1c, Z1k, Z24, Z1f, Z1d, Z27, Z1u, Z1h, Z0z, Z6, Z7, Z5, Z4, Z0v, Z0u, Z0w, Z11, Z0x, Z10, Z0y, Z0j, Z0i, Zh, Zg, Ze, Zd, Zf, Z19, Z1a, Z13, Z14, Z18, Z17, Z16, Z15, Z0k, Z0l, Z0m, Z0n, Z0o, Z0p, Z0q, Z0r, Z0t, Z0s, w_add_str, w_add_int, w_add_ref, Z25, Z1x, Z1w, Z1j, Z22, w_eq_str, w_ne_str, w_eq_int, w_ne_int, w_eq_ref, Z1o, Z1p, Z1v, Z1t, Z1m, Z1l, Z1n, Z20, b_and_t, b_and_f, b_or_t, b_or_f, b_not_t, b_not_f, Z1, Z0, Z2, Z3, Z9, Zc, Zb, Z8, Za, Nat.reduceBEq, Int.reduceBEq, Int.reduceAdd, Int.reduceSub, Int.reduceNeg, Option.getD_some, Option.getD_none]
    rw [hsl, run_ok]
    exact ⟨rfl, rfl, rfl⟩) ?_
  rintro _ _ ⟨rfl, rfl⟩
  generalize D.tup [.str [102, 111, 114], .int 1, lab, init, told, post, block] = tree
  refine seq_ok (fun ve σ' => ve = [some tree, some init, some told, some post, some block, some (.str x), none, none] ∧ Gs [] σ σ') ?_ ?_
  · rcases h2 with ⟨rfl, rfl⟩ | ⟨e, h2⟩
    · dsimp only [Z1i, Z28, Z1r, Z23, Z26, Z1g, Z1b, Z21, Z1z, Z1y, Z1q, Z1e, Z1s, Z1c, Z1k, Z24, Z1f, Z1d, Z27, Z1u, Z1h, Z0z, Z6, Z7, Z5, Z4, Z0v, Z0u, Z0w, Z11, Z0x, Z10, Z0y, Z0j, Z0i, Zh, Zg, Ze, Zd, Zf, Z19, Z1a, Z13, Z14, Z18, Z17, Z16, Z15, Z0k, Z0l, Z0m, Z0n, Z0o, Z0p, Z0q, Z0r, Z0t, Z0s, w_add_str, w_add_int, w_add_ref, Z25, Z1x, Z1w, Z1j, Z22, w_eq_str, w_ne_str, w_eq_int, w_ne_int, w_eq_ref, Z1o, Z1p, Z1v, Z1t, Z1m, Z1l, Z1n, Z20, b_and_t, b_and_f, b_or_t, b_or_f, b_not_t, b_not_f, Z1, Z0, Z2, Z3, Z9, Zc, Zb, Z8, Za, Nat.reduceBEq, Int.reduceBEq, Int.reduceAdd, Int.reduceSub, Int.reduceNeg, Option.getD_some, Option.getD_none]
      exact ⟨rfl, rfl, Gs.refl⟩
    · dsimp only [Z1i, Z28, Z1r, Z23, Z26, Z1g, Z1b, Z21, Z1z, Z1y, Z1q, Z1e, Z1s, Z1c, Z1k, Z24, Z1f, Z1d, Z27, Z1u, Z1h, Z0z, Z6, Z7, Z5, Z4, Z0v, Z0u, Z0w, Z11, Z0x, Z10, Z0y, Z0j, Z0i, Zh, Zg, Ze, Zd, Zf, Z19, Z1a, Z13, Z14, Z18, Z17, Z16, Z15, Z0k, Z0l, Z0m, Z0n, Z0o, Z0p, Z0q, Z0r, Z0t, Z0s, w_add_str, w_add_int, w_add_ref, Z25, Z1x, Z1w, Z1j, Z22, w_eq_str, w_ne_str, w_eq_int, w_ne_int, w_eq_ref, Z1o, Z1p, Z1v, Z1t, Z1m, Z1l, Z1n, Z20, b_and_t, b_and_f, b_or_t, b_or_f, b_not_t, b_not_f, Z1, Z0, Z2, Z3, Z9, Zc, Zb, Z8, Za, Nat.reduceBEq, Int.reduceBEq, Int.reduceAdd, Int.reduceSub, Int.reduceNeg, Option.getD_some, Option.getD_none]
      rw [e]
      dsimp only [Z1i, Z28, Z1r, Z23, Z26, Z1g, Z1b, Z21, Z1z, Z1y, Z1q, Z1e, Z1s, Z1c, Z1k, Z24, Z1f, Z1d, Z27, Z1u, Z1h, Z0z, Z6, Z7, Z5, Z4, Z0v, Z0u, Z0w, Z11, Z0x, Z10, Z0y, Z0j, Z0i, Zh, Zg, Ze, Zd, Zf, Z19, Z1a, Z13, Z14, Z18, Z17, Z16, Z15, Z0k, Z0l, Z0m, Z0n, Z0o, Z0p, Z0q, Z0r, Z0t, Z0s, w_add_str, w_add_int, w_add_ref, Z25, Z1x, Z1w, Z1j, Z22, w_eq_str, w_ne_str, w_eq_int, w_ne_int, w_eq_ref, Z1o, Z1p, Z1v, Z1t, Z1m, Z1l, Z1n, Z20, b_and_t, b_and_f, b_or_t, b_or_f, b_not_t, b_not_f, Z1, Z0, Z2, Z3, Z9, Zc, Zb, Z8, Za, Nat.reduceBEq, Int.reduceBEq, Int.reduceAdd, Int.reduceSub, Int.reduceNeg, Option.getD_some, Option.getD_none]
      refine ((h2.sh true).run m (by omega) σ).mono ?_
      rintro _ σ₁ ⟨rfl, g1⟩
      exact ⟨rfl, rfl, g1⟩
  rintro _ σ₁ ⟨rfl, g1⟩
  by_cases hc : (isNoneD init && isNoneD post) = true
  · rw [Bool.and_eq_true] at hc
    unfold forT
    refine wB_ok _ _ _ _ ?_
    dsimp only [Z1i, Z28, Z1r, Z23, Z26, Z1g, Z1b, Z21, Z1z, Z1y, Z1q, Z1e, Z1s, Z1c, Z1k, Z24, Z1f, Z1d, Z27, Z1u, Z1h, Z0z, Z6, Z7, Z5, Z4, Z0v, Z0u, Z0w, Z11, Z0x, Z10, Z0y, Z0j, Z0i, Zh, Zg, Ze, Zd, Zf, Z19, Z1a, Z13, Z14, Z18, Z17, Z16, Z15, Z0k, Z0l, Z0m, Z0n, Z0o, Z0p, Z0q, Z0r, Z0t, Z0s, w_add_str, w_add_int, w_add_ref, Z25, Z1x, Z1w, Z1j, Z22, w_eq_str, w_ne_str, w_eq_int, w_ne_int, w_eq_ref, Z1o, Z1p, Z1v, Z1t, Z1m, Z1l, Z1n, Z20, b_and_t, b_and_f, b_or_t, b_or_f, b_not_t, b_not_f, Z1, Z0, Z2, Z3, Z9, Zc, Zb, Z8, Za, Nat.reduceBEq, Int.reduceBEq, Int.reduceAdd, Int.reduceSub, Int.reduceNeg, Option.getD_some, Option.getD_none]
    rw [hc.1, hc.2]
    dsimp only [Z1i, Z28, Z1r, Z23, Z26, Z1g, Z1b, Z21, Z1z, Z1y, Z1q, Z1e, Z1s, Z1c, Z1k, Z24, Z1f, Z1d, Z27, Z1u, Z1h, Z0z, Z6, Z7, Z5, Z4, Z0v, Z0u, Z0w, Z11, Z0x, Z10, Z0y, Z0j, Z0i, Zh, Zg, Ze, Zd, Zf, Z19, Z1a, Z13, Z14, Z18, Z17, Z16, Z15, Z0k, Z0l, Z0m, Z0n, Z0o, Z0p, Z0q, Z0r, Z0t, Z0s, w_add_str, w_add_int, w_add_ref, Z25, Z1x, Z1w, Z1j, Z22, w_eq_str, w_ne_str, w_eq_int, w_ne_int, w_eq_ref, Z1o, Z1p, Z1v, Z1t, Z1m, Z1l, Z1n, Z20, b_and_t, b_and_f, b_or_t, b_or_f, b_not_t, b_not_f, Z1, Z0, Z2, Z3, Z9, Zc, Zb, Z8, Za, Nat.reduceBEq, Int.reduceBEq, Int.reduceAdd, Int.reduceSub, Int.reduceNeg, Option.getD_some, Option.getD_none]
    cases x with
    | nil =>
      dsimp only [Z1i, Z28, Z1r, Z23, Z26, Z1g, Z1b, Z21, Z1z, Z1y, Z1q, Z1e, Z1s, Z1c, Z1k, Z24, Z1f, Z1d, Z27, Z1u, Z1h, Z0z, Z6, Z7, Z5, Z4, Z0v, Z0u, Z0w, Z11, Z0x, Z10, Z0y, Z0j, Z0i, Zh, Zg, Ze, Zd, Zf, Z19, Z1a, Z13, Z14, Z18, Z17, Z16, Z15, Z0k, Z0l, Z0m, Z0n, Z0o, Z0p, Z0q, Z0r, Z0t, Z0s, w_add_str, w_add_int, w_add_ref, Z25, Z1x, Z1w, Z1j, Z22, w_eq_str, w_ne_str, w_eq_int, w_ne_int, w_eq_ref, Z1o, Z1p, Z1v, Z1t, Z1m, Z1l, Z1n, Z20, b_and_t, b_and_f, b_or_t, b_or_f, b_not_t, b_not_f, Z1, Z0, Z2, Z3, Z9, Zc, Zb, Z8, Za, Nat.reduceBEq, Int.reduceBEq, Int.reduceAdd, Int.reduceSub, Int.reduceNeg, Option.getD_some, Option.getD_none]
      refine ⟨by decide, ?_⟩
      refine (hb σ₁).mono ?_
      rintro _ σ₂ ⟨rfl, g2⟩
      dsimp only [Z1i, Z28, Z1r, Z23, Z26, Z1g, Z1b, Z21, Z1z, Z1y, Z1q, Z1e, Z1s, Z1c, Z1k, Z24, Z1f, Z1d, Z27, Z1u, Z1h, Z0z, Z6, Z7, Z5, Z4, Z0v, Z0u, Z0w, Z11, Z0x, Z10, Z0y, Z0j, Z0i, Zh, Zg, Ze, Zd, Zf, Z19, Z1a, Z13, Z14, Z18, Z17, Z16, Z15, Z0k, Z0l, Z0m, Z0n, Z0o, Z0p, Z0q, Z0r, Z0t, Z0s, w_add_str, w_add_int, w_add_ref, Z25, Z1x, Z1w, Z1j, Z22, w_eq_str, w_ne_str, w_eq_int, w_ne_int, w_eq_ref, Z1o, Z1p, Z1v, Z1t, Z1m, Z1l, Z1n, Z20, b_and_t, b_and_f, b_or_t, b_or_f, b_not_t, b_not_f, Z1, Z0, Z2, Z3, Z9, Zc, Zb, Z8, Za, Nat.reduceBEq, Int.reduceBEq, Int.reduceAdd, Int.reduceSub, Int.reduceNeg, Option.getD_some, Option.getD_none]
      exact ⟨by first | (apply cap2; (case h1 => repeat' first | assumption | apply app_le | apply nil_le | apply cons_le); (case h2 => repeat' first | assumption | apply app_le | apply nil_le | apply cons_le); decide) | (apply cap1; (case h1 => repeat' first | assumption | apply app_le | apply nil_le | apply cons_le); decide) | (simp [sizeCap]; omega) | (unfold sizeCap; omega), rfl, g1.trans g2⟩
    | cons x0 xs =>
      simp only [List.length_cons] at l2
      dsimp only [Z1i, Z28, Z1r, Z23, Z26, Z1g, Z1b, Z21, Z1z, Z1y, Z1q, Z1e, Z1s, Z1c, Z1k, Z24, Z1f, Z1d, Z27, Z1u, Z1h, Z0z, Z6, Z7, Z5, Z4, Z0v, Z0u, Z0w, Z11, Z0x, Z10, Z0y, Z0j, Z0i, Zh, Zg, Ze, Zd, Zf, Z19, Z1a, Z13, Z14, Z18, Z17, Z16, Z15, Z0k, Z0l, Z0m, Z0n, Z0o, Z0p, Z0q, Z0r, Z0t, Z0s, w_add_str, w_add_int, w_add_ref, Z25, Z1x, Z1w, Z1j, Z22, w_eq_str, w_ne_str, w_eq_int, w_ne_int, w_eq_ref, Z1o, Z1p, Z1v, Z1t, Z1m, Z1l, Z1n, Z20, b_and_t, b_and_f, b_or_t, b_or_f, b_not_t, b_not_f, Z1, Z0, Z2, Z3, Z9, Zc, Zb, Z8, Za, Nat.reduceBEq, Int.reduceBEq, Int.reduceAdd, Int.reduceSub, Int.reduceNeg, Option.getD_some, Option.getD_none]
      refine ⟨by first | (apply cap2; (case h1 => repeat' first | assumption | apply app_le | apply nil_le | apply cons_le); (case h2 => repeat' first | assumption | apply app_le | apply nil_le | apply cons_le); decide) | (apply cap1; (case h1 => repeat' first | assumption | apply app_le | apply nil_le | apply cons_le); decide) | (simp [sizeCap]; omega) | (unfold sizeCap; omega), by first | (apply cap2; (case h1 => repeat' first | assumption | apply app_le | apply nil_le | apply cons_le); (case h2 => repeat' first | assumption | apply app_le | apply nil_le | apply cons_le); decide) | (apply cap1; (case h1 => repeat' first | assumption | apply app_le | apply nil_le | apply cons_le); decide) | (simp [sizeCap]; omega) | (unfold sizeCap; omega), ?_⟩
      refine (hb σ₁).mono ?_
      rintro _ σ₂ ⟨rfl, g2⟩
      dsimp only [Z1i, Z28, Z1r, Z23, Z26, Z1g, Z1b, Z21, Z1z, Z1y, Z1q, Z1e, Z1s, Z1c, Z1k, Z24, Z1f, Z1d, Z27, Z1u, Z1h, Z0z, Z6, Z7, Z5, Z4, Z0v, Z0u, Z0w, Z11, Z0x, Z10, Z0y, Z0j, Z0i, Zh, Zg, Ze, Zd, Zf, Z19, Z1a, Z13, Z14, Z18, Z17, Z16, Z15, Z0k, Z0l, Z0m, Z0n, Z0o, Z0p, Z0q, Z0r, Z0t, Z0s, w_add_str, w_add_int, w_add_ref, Z25, Z1x, Z1w, Z1j, Z22, w_eq_str, w_ne_str, w_eq_int, w_ne_int, w_eq_ref, Z1o, Z1p, Z1v, Z1t, Z1m, Z1l, Z1n, Z20, b_and_t, b_and_f, b_or_t, b_or_f, b_not_t, b_not_f, Z1, Z0, Z2, Z3, Z9, Zc, Zb, Z8, Za, Nat.reduceBEq, Int.reduceBEq, Int.reduceAdd, Int.reduceSub, Int.reduceNeg, Option.getD_some, Option.getD_none]
      exact ⟨by first | (apply cap2; (case h1 => repeat' first | assumption | apply app_le | apply nil_le | apply cons_le); (case h2 => repeat' first | assumption | apply app_le | apply nil_le | apply cons_le); decide) | (apply cap1; (case h1 => repeat' first | assumption | apply app_le | apply nil_le | apply cons_le); decide) | (simp [sizeCap]; omega) | (unfold sizeCap; omega), by simp, g1.trans g2⟩
  · have hc' : (isNoneD init && isNoneD post) = false := by cases h : (isNoneD init && isNoneD post) <;> simp_all
    have ef : forT init post s x p = [102, 111, 114, 32] ++ s ++ [59, 32] ++ x ++ [59] ++ (if isNoneD post then [] else [32] ++ p) ++ [32] := by unfold forT; rw [if_neg hc]
    rw [ef]
    refine seq_ok (fun ve σ' => ve = [some tree, some init, some told, some post, some block, some (.str x), none, none] ∧ σ₁ = σ') ?_ ?_
    · dsimp only [Z1i, Z28, Z1r, Z23, Z26, Z1g, Z1b, Z21, Z1z, Z1y, Z1q, Z1e, Z1s, Z1c, Z1k, Z24, Z1f, Z1d, Z27, Z1u, Z1h, Z0z, Z6, Z7, Z5, Z4, Z0v, Z0u, Z0w, Z11, Z0x, Z10, Z0y, Z0j, Z0i, Zh, Zg, Ze, Zd, Zf, Z19, Z1a, Z13, Z14, Z18, Z17, Z16, Z15, Z0k, Z0l, Z0m, Z0n, Z0o, Z0p, Z0q, Z0r, Z0t, Z0s, w_add_str, w_add_int, w_add_ref, Z25, Z1x, Z1w, Z1j, Z22, w_eq_str, w_ne_str, w_eq_int, w_ne_int, w_eq_ref, Z1o, Z1p, Z1v, Z1t, Z1m, Z1l, Z1n, Z20, b_and_t, b_and_f, b_or_t, b_or_f, b_not_t, b_not_f, Z1, Z0, Z2, Z3, Z9, Zc, Zb, Z8, Za, Nat.reduceBEq, Int.reduceBEq, Int.reduceAdd, Int.reduceSub, Int.reduceNeg, Option.getD_some, Option.getD_none]
      cases hi : isNoneD init with
      | false => exact ⟨rfl, rfl, rfl⟩
      | true =>
        rw [hi, Bool.true_and] at hc'
        rw [hc']
        exact ⟨rfl, rfl, rfl⟩
    rintro _ _ ⟨rfl, rfl⟩
    refine seq_ok (fun ve σ' => ve = [some tree, some init, some told, some post, some block, some (.str x), some (.str s), none] ∧ Gs [] σ σ') ?_ ?_
    · rcases h1 with ⟨rfl, rfl⟩ | ⟨e, h1⟩
      · dsimp only [Z1i, Z28, Z1r, Z23, Z26, Z1g, Z1b, Z21, Z1z, Z1y, Z1q, Z1e, Z1s, Z1c, Z1k, Z24, Z1f, Z1d, Z27, Z1u, Z1h, Z0z, Z6, Z7, Z5, Z4, Z0v, Z0u, Z0w, Z11, Z0x, Z10, Z0y, Z0j, Z0i, Zh, Zg, Ze, Zd, Zf, Z19, Z1a, Z13, Z14, Z18, Z17, Z16, Z15, Z0k, Z0l, Z0m, Z0n, Z0o, Z0p, Z0q, Z0r, Z0t, Z0s, w_add_str, w_add_int, w_add_ref, Z25, Z1x, Z1w, Z1j, Z22, w_eq_str, w_ne_str, w_eq_int, w_ne_int, w_eq_ref, Z1o, Z1p, Z1v, Z1t, Z1m, Z1l, Z1n, Z20, b_and_t, b_and_f, b_or_t, b_or_f, b_not_t, b_not_f, Z1, Z0, Z2, Z3, Z9, Zc, Zb, Z8, Za, Nat.reduceBEq, Int.reduceBEq, Int.reduceAdd, Int.reduceSub, Int.reduceNeg, Option.getD_some, Option.getD_none]
        exact ⟨rfl, rfl, g1⟩
      · dsimp only [Z1i, Z28, Z1r, Z23, Z26, Z1g, Z1b, Z21, Z1z, Z1y, Z1q, Z1e, Z1s, Z1c, Z1k, Z24, Z1f, Z1d, Z27, Z1u, Z1h, Z0z, Z6, Z7, Z5, Z4, Z0v, Z0u, Z0w, Z11, Z0x, Z10, Z0y, Z0j, Z0i, Zh, Zg, Ze, Zd, Zf, Z19, Z1a, Z13, Z14, Z18, Z17, Z16, Z15, Z0k, Z0l, Z0m, Z0n, Z0o, Z0p, Z0q, Z0r, Z0t, Z0s, w_add_str, w_add_int, w_add_ref, Z25, Z1x, Z1w, Z1j, Z22, w_eq_str, w_ne_str, w_eq_int, w_ne_int, w_eq_ref, Z1o, Z1p, Z1v, Z1t, Z1m, Z1l, Z1n, Z20, b_and_t, b_and_f, b_or_t, b_or_f, b_not_t, b_not_f, Z1, Z0, Z2, Z3, Z9, Zc, Zb, Z8, Za, Nat.reduceBEq, Int.reduceBEq, Int.reduceAdd, Int.reduceSub, Int.reduceNeg, Option.getD_some, Option.getD_none]
        rw [e]
        dsimp only [Z1i, Z28, Z1r, Z23, Z26, Z1g, Z1b, Z21, Z1z, Z1y, Z1q, Z1e, Z1s, Z1c, Z1k, Z24, Z1f, Z1d, Z27, Z1u, Z1h, Z0z, Z6, Z7, Z5, Z4, Z0v, Z0u, Z0w, Z11, Z0x, Z10, Z0y, Z0j, Z0i, Zh, Zg, Ze, Zd, Zf, Z19, Z1a, Z13, Z14, Z18, Z17, Z16, Z15, Z0k, Z0l, Z0m, Z0n, Z0o, Z0p, Z0q, Z0r, Z0t, Z0s, w_add_str, w_add_int, w_add_ref, Z25, Z1x, Z1w, Z1j, Z22, w_eq_str, w_ne_str, w_eq_int, w_ne_int, w_eq_ref, Z1o, Z1p, Z1v, Z1t, Z1m, Z1l, Z1n, Z20, b_and_t, b_and_f, b_or_t, b_or_f, b_not_t, b_not_f, Z1, Z0, Z2, Z3, Z9, Zc, Zb, Z8, Za, Nat.reduceBEq, Int.reduceBEq, Int.reduceAdd, Int.reduceSub, Int.reduceNeg, Option.getD_some, Option.getD_none]
        refine (h1.run m true (by omega) σ₁).mono ?_
        rintro _ σ₂ ⟨rfl, g2⟩
        exact ⟨rfl, rfl, g1.trans g2⟩
    rintro _ σ₂ ⟨rfl, g2⟩
    refine seq_ok (fun ve σ' => ve = [some tree, some init, some told, some post, some block, some (.str x), some (.str s), some (.str (if isNoneD post then [] else [32] ++ p))] ∧ Gs [] σ σ') ?_ ?_
    · rcases h3 with ⟨rfl, rfl⟩ | ⟨e, h3⟩
      · dsimp only [Z1i, Z28, Z1r, Z23, Z26, Z1g, Z1b, Z21, Z1z, Z1y, Z1q, Z1e, Z1s, Z1c, Z1k, Z24, Z1f, Z1d, Z27, Z1u, Z1h, Z0z, Z6, Z7, Z5, Z4, Z0v, Z0u, Z0w, Z11, Z0x, Z10, Z0y, Z0j, Z0i, Zh, Zg, Ze, Zd, Zf, Z19, Z1a, Z13, Z14, Z18, Z17, Z16, Z15, Z0k, Z0l, Z0m, Z0n, Z0o, Z0p, Z0q, Z0r, Z0t, Z0s, w_add_str, w_add_int, w_add_ref, Z25, Z1x, Z1w, Z1j, Z22, w_eq_str, w_ne_str, w_eq_int, w_ne_int, w_eq_ref, Z1o, Z1p, Z1v, Z1t, Z1m, Z1l, Z1n, Z20, b_and_t, b_and_f, b_or_t, b_or_f, b_not_t, b_not_f, Z1, Z0, Z2, Z3, Z9, Zc, Zb, Z8, Za, Nat.reduceBEq, Int.reduceBEq, Int.reduceAdd, Int.reduceSub, Int.reduceNeg, Option.getD_some, Option.getD_none]
        exact ⟨rfl, rfl, g2⟩
      · dsimp only [Z1i, Z28, Z1r, Z23, Z26, Z1g, Z1b, Z21, Z1z, Z1y, Z1q, Z1e, Z1s, Z1c, Z1k, Z24, Z1f, Z1d, Z27, Z1u, Z1h, Z0z, Z6, Z7, Z5, Z4, Z0v, Z0u, Z0w, Z11, Z0x, Z10, Z0y, Z0j, Z0i, Zh, Zg, Ze, Zd, Zf, Z19, Z1a, Z13, Z14, Z18, Z17, Z16, Z15, Z0k, Z0l, Z0m, Z0n, Z0o, Z0p, Z0q, Z0r, Z0t, Z0s, w_add_str, w_add_int, w_add_ref, Z25, Z1x, Z1w, Z1j, Z22, w_eq_str, w_ne_str, w_eq_int, w_ne_int, w_eq_ref, Z1o, Z1p, Z1v, Z1t, Z1m, Z1l, Z1n, Z20, b_and_t, b_and_f, b_or_t, b_or_f, b_not_t, b_not_f, Z1, Z0, Z2, Z3, Z9, Zc, Zb, Z8, Za, Nat.reduceBEq, Int.reduceBEq, Int.reduceAdd, Int.reduceSub, Int.reduceNeg, Option.getD_some, Option.getD_none]
        rw [e]
        dsimp only [Z1i, Z28, Z1r, Z23, Z26, Z1g, Z1b, Z21, Z1z, Z1y, Z1q, Z1e, Z1s, Z1c, Z1k, Z24, Z1f, Z1d, Z27, Z1u, Z1h, Z0z, Z6, Z7, Z5, Z4, Z0v, Z0u, Z0w, Z11, Z0x, Z10, Z0y, Z0j, Z0i, Zh, Zg, Ze, Zd, Zf, Z19, Z1a, Z13, Z14, Z18, Z17, Z16, Z15, Z0k, Z0l, Z0m, Z0n, Z0o, Z0p, Z0q, Z0r, Z0t, Z0s, w_add_str, w_add_int, w_add_ref, Z25, Z1x, Z1w, Z1j, Z22, w_eq_str, w_ne_str, w_eq_int, w_ne_int, w_eq_ref, Z1o, Z1p, Z1v, Z1t, Z1m, Z1l, Z1n, Z20, b_and_t, b_and_f, b_or_t, b_or_f, b_not_t, b_not_f, Z1, Z0, Z2, Z3, Z9, Zc, Zb, Z8, Za, Nat.reduceBEq, Int.reduceBEq, Int.reduceAdd, Int.reduceSub, Int.reduceNeg, Option.getD_some, Option.getD_none]
        refine (h3.run m true (by omega) σ₂).mono ?_
        rintro _ σ₃ ⟨rfl, g3⟩
        dsimp only [Z1i, Z28, Z1r, Z23, Z26, Z1g, Z1b, Z21, Z1z, Z1y, Z1q, Z1e, Z1s, Z1c, Z1k, Z24, Z1f, Z1d, Z27, Z1u, Z1h, Z0z, Z6, Z7, Z5, Z4, Z0v, Z0u, Z0w, Z11, Z0x, Z10, Z0y, Z0j, Z0i, Zh, Zg, Ze, Zd, Zf, Z19, Z1a, Z13, Z14, Z18, Z17, Z16, Z15, Z0k, Z0l, Z0m, Z0n, Z0o, Z0p, Z0q, Z0r, Z0t, Z0s, w_add_str, w_add_int, w_add_ref, Z25, Z1x, Z1w, Z1j, Z22, w_eq_str, w_ne_str, w_eq_int, w_ne_int, w_eq_ref, Z1o, Z1p, Z1v, Z1t, Z1m, Z1l, Z1n, Z20, b_and_t, b_and_f, b_or_t, b_or_f, b_not_t, b_not_f, Z1, Z0, Z2, Z3, Z9, Zc, Zb, Z8, Za, Nat.reduceBEq, Int.reduceBEq, Int.reduceAdd, Int.reduceSub, Int.reduceNeg, Option.getD_some, Option.getD_none]
        exact ⟨by first | (apply cap2; (case h1 => repeat' first | assumption | apply app_le | apply nil_le | apply cons_le); (case h2 => repeat' first | assumption | apply app_le | apply nil_le | apply cons_le); decide) | (apply cap1; (case h1 => repeat' first | assumption | apply app_le | apply nil_le | apply cons_le); decide) | (simp [sizeCap]; omega) | (unfold sizeCap; omega), rfl, rfl, g2.trans g3⟩
    rintro _ σ₃ ⟨rfl, g3⟩
    have lp : (if isNoneD post = true then [] else [32] ++ p).length ≤ 41 := by split <;> (try simp) <;> omega
    generalize (if isNoneD post = true then [] else [32] ++ p) = p' at *
    refine wB_ok _ _ _ _ ?_
    dsimp only [Z1i, Z28, Z1r, Z23, Z26, Z1g, Z1b, Z21, Z1z, Z1y, Z1q, Z1e, Z1s, Z1c, Z1k, Z24, Z1f, Z1d, Z27, Z1u, Z1h, Z0z, Z6, Z7, Z5, Z4, Z0v, Z0u, Z0w, Z11, Z0x, Z10, Z0y, Z0j, Z0i, Zh, Zg, Ze, Zd, Zf, Z19, Z1a, Z13, Z14, Z18, Z17, Z16, Z15, Z0k, Z0l, Z0m, Z0n, Z0o, Z0p, Z0q, Z0r, Z0t, Z0s, w_add_str, w_add_int, w_add_ref, Z25, Z1x, Z1w, Z1j, Z22, w_eq_str, w_ne_str, w_eq_int, w_ne_int, w_eq_ref, Z1o, Z1p, Z1v, Z1t, Z1m, Z1l, Z1n, Z20, b_and_t, b_and_f, b_or_t, b_or_f, b_not_t, b_not_f, Z1, Z0, Z2, Z3, Z9, Zc, Zb, Z8, Za, Nat.reduceBEq, Int.reduceBEq, Int.reduceAdd, Int.reduceSub, Int.reduceNeg, Option.getD_some, Option.getD_none]
    refine ⟨by first | (apply cap2; (case h1 => repeat' first | assumption | apply app_le | apply nil_le | apply cons_le); (case h2 => repeat' first | assumption | apply app_le | apply nil_le | apply cons_le); decide) | (apply cap1; (case h1 => repeat' first | assumption | apply app_le | apply nil_le | apply cons_le); decide) | (simp [sizeCap]; omega) | (unfold sizeCap; omega), by first | (apply cap2; (case h1 => repeat' first | assumption | apply app_le | apply nil_le | apply cons_le); (case h2 => repeat' first | assumption | apply app_le | apply nil_le | apply cons_le); decide) | (apply cap1; (case h1 => repeat' first | assumption | apply app_le | apply nil_le | apply cons_le); decide) | (simp [sizeCap]; omega) | (unfold sizeCap; omega), by first | (apply cap2; (case h1 => repeat' first | assumption | apply app_le | apply nil_le | apply cons_le); (case h2 => repeat' first | assumption | apply app_le | apply nil_le | apply cons_le); decide) | (apply cap1; (case h1 => repeat' first | assumption | apply app_le | apply nil_le | apply cons_le); decide) | (simp [sizeCap]; omega) | (unfold sizeCap; omega), by first | (apply cap2; (case h1 => repeat' first | assumption | apply app_le | apply nil_le | apply cons_le); (case h2 => repeat' first | assumption | apply app_le | apply nil_le | apply cons_le); decide) | (apply cap1; (case h1 => repeat' first | assumption | apply app_le | apply nil_le | apply cons_le); decide) | (simp [sizeCap]; omega) | (unfold sizeCap; omega), by first | (apply cap2; (case h1 => repeat' first | assumption | apply app_le | apply nil_le | apply cons_le); (case h2 => repeat' first | assumption | apply app_le | apply nil_le | apply cons_le); decide) | (apply cap1; (case h1 => repeat' first | assumption | apply app_le | apply nil_le | apply cons_le); decide) | (simp [sizeCap]; omega) | (unfold sizeCap; omega), by first | (apply cap2; (case h1 => repeat' first | assumption | apply app_le | apply nil_le | apply cons_le); (case h2 => repeat' first | assumption | apply app_le | apply nil_le | apply cons_le); decide) | (apply cap1; (case h1 => repeat' first | assumption | apply app_le | apply nil_le | apply cons_le); decide) | (simp [sizeCap]; omega) | (unfold sizeCap; omega), ?_⟩
    refine (hb σ₃).mono ?_
    rintro _ σ₄ ⟨rfl, g4⟩
    dsimp only [Z1i, Z28, Z1r, Z23, Z26, Z1g, Z1b, Z21, Z1z, Z1y, Z1q, Z1e, Z1s, Z1c, Z1k, Z24, Z1f, Z1d, Z27, Z1u, Z1h, Z0z, Z6, Z7, Z5, Z4, Z0v, Z0u, Z0w, Z11, Z0x, Z10, Z0y, Z0j, Z0i, Zh, Zg, Ze, Zd, Zf, Z19, Z1a, Z13, Z14, Z18, Z17, Z16, Z15, Z0k, Z0l, Z0m, Z0n, Z0o, Z0p, Z0q, Z0r, Z0t, Z0s, w_add_str, w_add_int, w_add_ref, Z25, Z1x, Z1w, Z1j, Z22, w_eq_str, w_ne_str, w_eq_int, w_ne_int, w_eq_ref, Z1o, Z1p, Z1v, Z1t, Z1m, Z1l, Z1n, Z20, b_and_t, b_and_f, b_or_t, b_or_f, b_not_t, b_not_f, Z1, Z0, Z2, Z3, Z9, Zc, Zb, Z8, Za, Nat.reduceBEq, Int.reduceBEq, Int.reduceAdd, Int.reduceSub, Int.reduceNeg, Option.getD_some, Option.getD_none]
    exact ⟨by first | (apply cap2; (case h1 => repeat' first | assumption | apply app_le | apply nil_le | apply cons_le); (case h2 => repeat' first | assumption | apply app_le | apply nil_le | apply cons_le); decide) | (apply cap1; (case h1 => repeat' first | assumption | apply app_le | apply nil_le | apply cons_le); decide) | (simp [sizeCap]; omega) | (unfold sizeCap; omega), rfl, g3.trans g4⟩
end Mine
end

section
open PySem
namespace Mine
/-- a tree beside its rows -/
noncomputable def TreeGen (src f : Nat) (σ : Sto) (d : D) (σ' : Sto) : Prop := ∃ tree rows r, d = .tup [tree, .ref r] ∧ (∀ n, 100 ≤ n → Txt n f [tree] (joinL [10] rows)) ∧ (joinL [10] rows).length ≤ 900000 ∧ σ'[r]? = some (rows.map D.str) ∧ Go src σ σ'

theorem in_ints {x a b : Int} {r : Nat} {σ : Sto} {Q : Bool → Prop} (h : σ[r]? = some [.int a, .int b]) : RunM (opCmp .inn (.int x) (.ref r) σ) Q = Q (decide (a = x) || (decide (b = x) || false)) := by
  show RunM (match σ[r]? with | some l => (if l.all (fun d => match d with | .int _ => true | _ => false) then some (l.any fun d => match d with | .int y => decide (y = x) | _ => false) else none) | _ => none) Q = _
  rw [h]
  rfl
noncomputable def filt (w : List Nat) : List (List Nat) := if w = [] then [] else [w]
theorem filt_one {T : List (List Nat × Int)} {C : CallT} {s : Nat} {w : List Nat} {σ : Sto} {P : Sto → Prop} (hs : σ[s]? = some [.str w]) (hp : P (σ ++ [(filt w).map D.str])) :
    RunT (cloop (fun ve' σ' => ptests T C (.cons (.cmp .ne (.var 0) (.const (.str []))) .nil) ve' σ') (fun ve' σ' => peval T C (.var 0) ve' σ') (.one 0) (.ref s) [.str w] σ.length [.str w] [none] (σ ++ [[]])) P := by
  have hs1 : (σ ++ [[]])[s]? = some [.str w] := (Gs.app : Gs [] σ (σ ++ [[]])).get hs
  have st1 := ref_stays hs1
  have e1 : store (.one 0) (.str w) [none] = some [some (.str w)] := rfl
  simp only [cl_nil, cl_cons, e1]
  have e2 : ptests T C (.cons (.cmp .ne (.var 0) (.const (.str []))) .nil) [some (.str w)] (σ ++ [[]]) = some (!(w == []), σ ++ [[]]) := by
    simp only [Z07, Z06, Zk, Zq, Z03, Zt, Zz, Z01, Zo, Zi, Zy, Zx, Zw, Zs, Zm, Zn, Zl, Zu, Zj, Zr, Z00, Z02, Zv, Zp, opCmp, opEq]
    have : getVar [some (.str w)] 0 = some (.str w) := rfl
    rw [this]
    dsimp only [Option.map]
    cases (!(w == [])) <;> rfl
  rw [e2]
  cases w with
  | nil =>
    show RunT (if stays (.ref s) [.str []] (σ ++ [[]]) then some (σ ++ [[]]) else none) P
    rw [if_pos st1]
    exact hp
  | cons a l =>
    have e3 : peval T C (.var 0) [some (.str (a :: l))] (σ ++ [[]]) = some (.str (a :: l), σ ++ [[]]) := rfl
    show RunT (match peval T C (.var 0) [some (.str (a :: l))] (σ ++ [[]]) with
      | some (x, σ₂) => (match opAppend (.ref σ.length) x σ₂ with
        | some (_, σ₃) => if stays (.ref s) [.str (a :: l)] σ₃ then some σ₃ else none
        | _ => none)
      | _ => none) P
    rw [e3]
    dsimp only
    rw [append_ref get_new (by decide)]
    dsimp only
    have e4 : (σ ++ [[]]).set σ.length ([] ++ [D.str (a :: l)]) = σ ++ [[.str (a :: l)]] := by simp
    rw [e4, if_pos (ref_stays ((Gs.app : Gs [] σ (σ ++ [[.str (a :: l)]])).get hs))]
    exact hp

theorem for_join {t : Int} {init told post : D} {s x p : List Nat} (h1 : OptSim init s) (h3 : OptSim post p) (h0 : t = 0 → isNoneD init = true ∧ isNoneD post = true) (h0' : t ≠ 0 → (isNoneD init && isNoneD post) = false) :
    joinL [32] ([102, 111, 114] :: (if t = 0 then filt x else [s ++ [59], x ++ [59]] ++ filt p)) ++ [32] = forT init post s x p := by
  unfold forT
  by_cases ht : t = 0
  · obtain ⟨a, b⟩ := h0 ht
    rw [if_pos ht, a, b]
    cases x with
    | nil => rfl
    | cons a l => simp [filt, joinL]
  · rw [if_neg ht, h0' ht]
    rcases h3 with ⟨rfl, rfl⟩ | ⟨e, h3⟩
    · simp [filt, joinL, isNoneD]
    · have := h3.ne
      simp [filt, joinL, this, e]

theorem isNone_sim {d : D} {s : List Nat} (h : Sim d s) : isNoneD d = false := by
  obtain ⟨kk, rest, e, -⟩ := h.kind
  rw [e]; rfl
theorem pre1 {n : Nat} (h : 100 ≤ n) : ∃ z, n = z + 1 ∧ 99 ≤ z := ⟨n - 1, by omega, by omega⟩
theorem pre3 {n : Nat} (h : 100 ≤ n) : ∃ z, n = z + 3 := ⟨n - 3, by omega⟩
theorem loop_gen {src n : Nat} {σ : Sto} (hn : 40 ≤ n) (hs : Src src σ) : RunO (C2 n 31 [.ref src] σ) (TreeGen src 19 σ) := by
  obtain ⟨m, rfl⟩ : ∃ m, n = m + 1 := ⟨n - 1, by omega⟩
  have hm : 39 ≤ m := by omega
  refine call_fx (fd := G2_31) (ve := [some _, none, none, none, none, none, none, none, none, none]) rfl rfl ?_
  unfold G2_31
  -- way
  refine seq_ok (fun ve σ' => ∃ t : Int, ve = [some (.ref src), some (.tup [.none, .str []]), some (.int t), none, none, none, none, none, none, none] ∧ 0 ≤ t ∧ t < 4 ∧ Go src σ σ') ?_ ?_
  · dsimp only [Z1i, Z28, Z1r, Z23, Z26, Z1g, Z1b, Z21, Z1z, Z1y, Z1q, Z1e, Z1s, Z1c, Z1k, Z24, Z1f, Z1d, Z27, Z1u, Z1h, Z0z, Z6, Z7, Z5, Z4, Z0v, Z0u, Z0w, Z11, Z0x, Z10, Z0y, Z0j, Z0i, Zh, Zg, Ze, Zd, Zf, Z19, Z1a, Z13, Z14, Z18, Z17, Z16, Z15, Z0k, Z0l, Z0m, Z0n, Z0o, Z0p, Z0q, Z0r, Z0t, Z0s, w_add_str, w_add_int, w_add_ref, Z25, Z1x, Z1w, Z1j, Z22, w_eq_str, w_ne_str, w_eq_int, w_ne_int, w_eq_ref, Z1o, Z1p, Z1v, Z1t, Z1m, Z1l, Z1n, Z20, b_and_t, b_and_f, b_or_t, b_or_f, b_not_t, b_not_f, Z1, Z0, Z2, Z3, Z9, Zc, Zb, Z8, Za, Nat.reduceBEq, Int.reduceBEq, Int.reduceAdd, Int.reduceSub, Int.reduceNeg, Option.getD_some, Option.getD_none]
    refine (take_ok (Nat.le_trans (by decide) hm) hs (by decide) (by decide)).mono ?_
    rintro _ σ₁ ⟨t, rfl, t0, t1, g1⟩
    exact ⟨rfl, t, rfl, t0, t1, g1⟩
  rintro _ σ₁ ⟨t, rfl, t0, t1, g1⟩
  -- told
  refine seq_ok (fun ve σ' => ∃ told x, ve = [some (.ref src), some (.tup [.none, .str []]), some (.int t), some (.tup [told, .str x]), none, none, none, none, none, none] ∧ OptEx told x ∧ Go src σ σ') ?_ ?_
  · dsimp only [Z1i, Z28, Z1r, Z23, Z26, Z1g, Z1b, Z21, Z1z, Z1y, Z1q, Z1e, Z1s, Z1c, Z1k, Z24, Z1f, Z1d, Z27, Z1u, Z1h, Z0z, Z6, Z7, Z5, Z4, Z0v, Z0u, Z0w, Z11, Z0x, Z10, Z0y, Z0j, Z0i, Zh, Zg, Ze, Zd, Zf, Z19, Z1a, Z13, Z14, Z18, Z17, Z16, Z15, Z0k, Z0l, Z0m, Z0n, Z0o, Z0p, Z0q, Z0r, Z0t, Z0s, w_add_str, w_add_int, w_add_ref, Z25, Z1x, Z1w, Z1j, Z22, w_eq_str, w_ne_str, w_eq_int, w_ne_int, w_eq_ref, Z1o, Z1p, Z1v, Z1t, Z1m, Z1l, Z1n, Z20, b_and_t, b_and_f, b_or_t, b_or_f, b_not_t, b_not_f, Z1, Z0, Z2, Z3, Z9, Zc, Zb, Z8, Za, Nat.reduceBEq, Int.reduceBEq, Int.reduceAdd, Int.reduceSub, Int.reduceNeg, Option.getD_some, Option.getD_none]
    refine (take_ok (Nat.le_trans (by decide) hm) g1.2 (by decide) (by decide)).mono ?_
    rintro _ σ₂ ⟨u, rfl, u0, u1, g2⟩
    by_cases hz : u = 0
    · simp only [Z1i, Z28, Z1r, Z23, Z26, Z1g, Z1b, Z21, Z1z, Z1y, Z1q, Z1e, Z1s, Z1c, Z1k, Z24, Z1f, Z1d, Z27, Z1u, Z1h, Z0z, Z6, Z7, Z5, Z4, Z0v, Z0u, Z0w, Z11, Z0x, Z10, Z0y, Z0j, Z0i, Zh, Zg, Ze, Zd, Zf, Z19, Z1a, Z13, Z14, Z18, Z17, Z16, Z15, Z0k, Z0l, Z0m, Z0n, Z0o, Z0p, Z0q, Z0r, Z0t, Z0s, w_add_str, w_add_int, w_add_ref, Z25, Z1x, Z1w, Z1j, Z22, w_eq_str, w_ne_str, w_eq_int, w_ne_int, w_eq_ref, Z1o, Z1p, Z1v, Z1t, Z1m, Z1l, Z1n, Z20, b_and_t, b_and_f, b_or_t, b_or_f, b_not_t, b_not_f, Z1, Z0, Z2, Z3, Z9, Zc, Zb, Z8, Za, Nat.reduceBEq, Int.reduceBEq, Int.reduceAdd, Int.reduceSub, Int.reduceNeg, Option.getD_some, Option.getD_none, item_0, item_1, item_2, item_3, item_4, item_5, item_6, notin_tup, in_tup, in_str, strsOf_nil, strsOf_cons, str_7, len_str, len_ref, range_int, List.any_cons, List.any_nil, Bool.or_false, Bool.false_or, Bool.or_true, Bool.true_or, Bool.true_and, Bool.false_and, Bool.and_true, Bool.and_false, Bool.not_true, Bool.not_false, List.contains_cons, List.contains_nil, beq_self_eq_true, true_and, and_true, Int.reduceEq, Int.reduceLT, Int.reduceLE, decide_true, decide_false, List.length_cons, List.length_nil, Nat.reduceAdd, Nat.reduceLeDiff, eq_self, hz]
      refine (expr_gen (Nat.le_trans (by decide) hm) g2.2).mono ?_
      rintro _ σ₃ ⟨e, x, rfl, h, g3⟩
      exact ⟨e, x, rfl, h.some, (g1.trans g2).trans g3⟩
    · dsimp only [Z1i, Z28, Z1r, Z23, Z26, Z1g, Z1b, Z21, Z1z, Z1y, Z1q, Z1e, Z1s, Z1c, Z1k, Z24, Z1f, Z1d, Z27, Z1u, Z1h, Z0z, Z6, Z7, Z5, Z4, Z0v, Z0u, Z0w, Z11, Z0x, Z10, Z0y, Z0j, Z0i, Zh, Zg, Ze, Zd, Zf, Z19, Z1a, Z13, Z14, Z18, Z17, Z16, Z15, Z0k, Z0l, Z0m, Z0n, Z0o, Z0p, Z0q, Z0r, Z0t, Z0s, w_add_str, w_add_int, w_add_ref, Z25, Z1x, Z1w, Z1j, Z22, w_eq_str, w_ne_str, w_eq_int, w_ne_int, w_eq_ref, Z1o, Z1p, Z1v, Z1t, Z1m, Z1l, Z1n, Z20, b_and_t, b_and_f, b_or_t, b_or_f, b_not_t, b_not_f, Z1, Z0, Z2, Z3, Z9, Zc, Zb, Z8, Za, Nat.reduceBEq, Int.reduceBEq, Int.reduceAdd, Int.reduceSub, Int.reduceNeg, Option.getD_some, Option.getD_none]
      rw [beq_eq_false_iff_ne.mpr hz]
      dsimp only [Z1i, Z28, Z1r, Z23, Z26, Z1g, Z1b, Z21, Z1z, Z1y, Z1q, Z1e, Z1s, Z1c, Z1k, Z24, Z1f, Z1d, Z27, Z1u, Z1h, Z0z, Z6, Z7, Z5, Z4, Z0v, Z0u, Z0w, Z11, Z0x, Z10, Z0y, Z0j, Z0i, Zh, Zg, Ze, Zd, Zf, Z19, Z1a, Z13, Z14, Z18, Z17, Z16, Z15, Z0k, Z0l, Z0m, Z0n, Z0o, Z0p, Z0q, Z0r, Z0t, Z0s, w_add_str, w_add_int, w_add_ref, Z25, Z1x, Z1w, Z1j, Z22, w_eq_str, w_ne_str, w_eq_int, w_ne_int, w_eq_ref, Z1o, Z1p, Z1v, Z1t, Z1m, Z1l, Z1n, Z20, b_and_t, b_and_f, b_or_t, b_or_f, b_not_t, b_not_f, Z1, Z0, Z2, Z3, Z9, Zc, Zb, Z8, Za, Nat.reduceBEq, Int.reduceBEq, Int.reduceAdd, Int.reduceSub, Int.reduceNeg, Option.getD_some, Option.getD_none]
      exact ⟨rfl, _, _, rfl, .inl ⟨rfl, rfl⟩, g1.trans g2⟩
  rintro _ σ₂ ⟨told, x, rfl, hx, g2⟩
  -- init, post
  refine seq_ok (fun ve σ' => ∃ init s post p, ve = [some (.ref src), some (.tup [.none, .str []]), some (.int t), some (.tup [told, .str x]), some (.tup [init, .str s]), some (.tup [post, .str p]), none, none, none, none] ∧ OptSim init s ∧ OptSim post p ∧
    (t = 0 → isNoneD init = true ∧ isNoneD post = true) ∧ (t ≠ 0 → (isNoneD init && isNoneD post) = false) ∧ Go src σ σ') ?_ ?_
  · dsimp only [Z1i, Z28, Z1r, Z23, Z26, Z1g, Z1b, Z21, Z1z, Z1y, Z1q, Z1e, Z1s, Z1c, Z1k, Z24, Z1f, Z1d, Z27, Z1u, Z1h, Z0z, Z6, Z7, Z5, Z4, Z0v, Z0u, Z0w, Z11, Z0x, Z10, Z0y, Z0j, Z0i, Zh, Zg, Ze, Zd, Zf, Z19, Z1a, Z13, Z14, Z18, Z17, Z16, Z15, Z0k, Z0l, Z0m, Z0n, Z0o, Z0p, Z0q, Z0r, Z0t, Z0s, w_add_str, w_add_int, w_add_ref, Z25, Z1x, Z1w, Z1j, Z22, w_eq_str, w_ne_str, w_eq_int, w_ne_int, w_eq_ref, Z1o, Z1p, Z1v, Z1t, Z1m, Z1l, Z1n, Z20, b_and_t, b_and_f, b_or_t, b_or_f, b_not_t, b_not_f, Z1, Z0, Z2, Z3, Z9, Zc, Zb, Z8, Za, Nat.reduceBEq, Int.reduceBEq, Int.reduceAdd, Int.reduceSub, Int.reduceNeg, Option.getD_some, Option.getD_none]
    have g2n := g2.new (l := [.int 1, .int 3])
    rw [in_ints get_new]
    have ht : t = 0 ∨ t = 1 ∨ t = 2 ∨ t = 3 := by omega
    rcases ht with rfl | rfl | rfl | rfl
    · show OnBool (.bool false) _ _
      dsimp only [Z1i, Z28, Z1r, Z23, Z26, Z1g, Z1b, Z21, Z1z, Z1y, Z1q, Z1e, Z1s, Z1c, Z1k, Z24, Z1f, Z1d, Z27, Z1u, Z1h, Z0z, Z6, Z7, Z5, Z4, Z0v, Z0u, Z0w, Z11, Z0x, Z10, Z0y, Z0j, Z0i, Zh, Zg, Ze, Zd, Zf, Z19, Z1a, Z13, Z14, Z18, Z17, Z16, Z15, Z0k, Z0l, Z0m, Z0n, Z0o, Z0p, Z0q, Z0r, Z0t, Z0s, w_add_str, w_add_int, w_add_ref, Z25, Z1x, Z1w, Z1j, Z22, w_eq_str, w_ne_str, w_eq_int, w_ne_int, w_eq_ref, Z1o, Z1p, Z1v, Z1t, Z1m, Z1l, Z1n, Z20, b_and_t, b_and_f, b_or_t, b_or_f, b_not_t, b_not_f, Z1, Z0, Z2, Z3, Z9, Zc, Zb, Z8, Za, Nat.reduceBEq, Int.reduceBEq, Int.reduceAdd, Int.reduceSub, Int.reduceNeg, Option.getD_some, Option.getD_none]
      rw [in_ints get_new]
      show OnBool (.bool false) _ _
      dsimp only [Z1i, Z28, Z1r, Z23, Z26, Z1g, Z1b, Z21, Z1z, Z1y, Z1q, Z1e, Z1s, Z1c, Z1k, Z24, Z1f, Z1d, Z27, Z1u, Z1h, Z0z, Z6, Z7, Z5, Z4, Z0v, Z0u, Z0w, Z11, Z0x, Z10, Z0y, Z0j, Z0i, Zh, Zg, Ze, Zd, Zf, Z19, Z1a, Z13, Z14, Z18, Z17, Z16, Z15, Z0k, Z0l, Z0m, Z0n, Z0o, Z0p, Z0q, Z0r, Z0t, Z0s, w_add_str, w_add_int, w_add_ref, Z25, Z1x, Z1w, Z1j, Z22, w_eq_str, w_ne_str, w_eq_int, w_ne_int, w_eq_ref, Z1o, Z1p, Z1v, Z1t, Z1m, Z1l, Z1n, Z20, b_and_t, b_and_f, b_or_t, b_or_f, b_not_t, b_not_f, Z1, Z0, Z2, Z3, Z9, Zc, Zb, Z8, Za, Nat.reduceBEq, Int.reduceBEq, Int.reduceAdd, Int.reduceSub, Int.reduceNeg, Option.getD_some, Option.getD_none]
      exact ⟨rfl, _, _, _, _, rfl, .inl ⟨rfl, rfl⟩, .inl ⟨rfl, rfl⟩, fun _ => ⟨rfl, rfl⟩, fun h => absurd rfl h, g2n.new⟩
    · show OnBool (.bool true) _ _
      dsimp only [Z1i, Z28, Z1r, Z23, Z26, Z1g, Z1b, Z21, Z1z, Z1y, Z1q, Z1e, Z1s, Z1c, Z1k, Z24, Z1f, Z1d, Z27, Z1u, Z1h, Z0z, Z6, Z7, Z5, Z4, Z0v, Z0u, Z0w, Z11, Z0x, Z10, Z0y, Z0j, Z0i, Zh, Zg, Ze, Zd, Zf, Z19, Z1a, Z13, Z14, Z18, Z17, Z16, Z15, Z0k, Z0l, Z0m, Z0n, Z0o, Z0p, Z0q, Z0r, Z0t, Z0s, w_add_str, w_add_int, w_add_ref, Z25, Z1x, Z1w, Z1j, Z22, w_eq_str, w_ne_str, w_eq_int, w_ne_int, w_eq_ref, Z1o, Z1p, Z1v, Z1t, Z1m, Z1l, Z1n, Z20, b_and_t, b_and_f, b_or_t, b_or_f, b_not_t, b_not_f, Z1, Z0, Z2, Z3, Z9, Zc, Zb, Z8, Za, Nat.reduceBEq, Int.reduceBEq, Int.reduceAdd, Int.reduceSub, Int.reduceNeg, Option.getD_some, Option.getD_none]
      refine (simple_gen (Nat.le_trans (by decide) hm) g2n.2).mono ?_
      rintro _ σ₃ ⟨tree, s, rfl, h, g3⟩
      rw [in_ints get_new]
      show OnBool (.bool false) _ _
      dsimp only [Z1i, Z28, Z1r, Z23, Z26, Z1g, Z1b, Z21, Z1z, Z1y, Z1q, Z1e, Z1s, Z1c, Z1k, Z24, Z1f, Z1d, Z27, Z1u, Z1h, Z0z, Z6, Z7, Z5, Z4, Z0v, Z0u, Z0w, Z11, Z0x, Z10, Z0y, Z0j, Z0i, Zh, Zg, Ze, Zd, Zf, Z19, Z1a, Z13, Z14, Z18, Z17, Z16, Z15, Z0k, Z0l, Z0m, Z0n, Z0o, Z0p, Z0q, Z0r, Z0t, Z0s, w_add_str, w_add_int, w_add_ref, Z25, Z1x, Z1w, Z1j, Z22, w_eq_str, w_ne_str, w_eq_int, w_ne_int, w_eq_ref, Z1o, Z1p, Z1v, Z1t, Z1m, Z1l, Z1n, Z20, b_and_t, b_and_f, b_or_t, b_or_f, b_not_t, b_not_f, Z1, Z0, Z2, Z3, Z9, Zc, Zb, Z8, Za, Nat.reduceBEq, Int.reduceBEq, Int.reduceAdd, Int.reduceSub, Int.reduceNeg, Option.getD_some, Option.getD_none]
      have hn := isNone_sim h
      exact ⟨rfl, _, _, _, _, rfl, h.some, .inl ⟨rfl, rfl⟩, fun h => absurd h (by decide), fun _ => by rw [hn]; rfl, (g2n.trans g3).new⟩
    · show OnBool (.bool false) _ _
      dsimp only [Z1i, Z28, Z1r, Z23, Z26, Z1g, Z1b, Z21, Z1z, Z1y, Z1q, Z1e, Z1s, Z1c, Z1k, Z24, Z1f, Z1d, Z27, Z1u, Z1h, Z0z, Z6, Z7, Z5, Z4, Z0v, Z0u, Z0w, Z11, Z0x, Z10, Z0y, Z0j, Z0i, Zh, Zg, Ze, Zd, Zf, Z19, Z1a, Z13, Z14, Z18, Z17, Z16, Z15, Z0k, Z0l, Z0m, Z0n, Z0o, Z0p, Z0q, Z0r, Z0t, Z0s, w_add_str, w_add_int, w_add_ref, Z25, Z1x, Z1w, Z1j, Z22, w_eq_str, w_ne_str, w_eq_int, w_ne_int, w_eq_ref, Z1o, Z1p, Z1v, Z1t, Z1m, Z1l, Z1n, Z20, b_and_t, b_and_f, b_or_t, b_or_f, b_not_t, b_not_f, Z1, Z0, Z2, Z3, Z9, Zc, Zb, Z8, Za, Nat.reduceBEq, Int.reduceBEq, Int.reduceAdd, Int.reduceSub, Int.reduceNeg, Option.getD_some, Option.getD_none]
      rw [in_ints get_new]
      show OnBool (.bool true) _ _
      dsimp only [Z1i, Z28, Z1r, Z23, Z26, Z1g, Z1b, Z21, Z1z, Z1y, Z1q, Z1e, Z1s, Z1c, Z1k, Z24, Z1f, Z1d, Z27, Z1u, Z1h, Z0z, Z6, Z7, Z5, Z4, Z0v, Z0u, Z0w, Z11, Z0x, Z10, Z0y, Z0j, Z0i, Zh, Zg, Ze, Zd, Zf, Z19, Z1a, Z13, Z14, Z18, Z17, Z16, Z15, Z0k, Z0l, Z0m, Z0n, Z0o, Z0p, Z0q, Z0r, Z0t, Z0s, w_add_str, w_add_int, w_add_ref, Z25, Z1x, Z1w, Z1j, Z22, w_eq_str, w_ne_str, w_eq_int, w_ne_int, w_eq_ref, Z1o, Z1p, Z1v, Z1t, Z1m, Z1l, Z1n, Z20, b_and_t, b_and_f, b_or_t, b_or_f, b_not_t, b_not_f, Z1, Z0, Z2, Z3, Z9, Zc, Zb, Z8, Za, Nat.reduceBEq, Int.reduceBEq, Int.reduceAdd, Int.reduceSub, Int.reduceNeg, Option.getD_some, Option.getD_none]
      refine (simple_gen (Nat.le_trans (by decide) hm) g2n.new.2).mono ?_
      rintro _ σ₃ ⟨tree, s, rfl, h, g3⟩
      have hn := isNone_sim h
      exact ⟨rfl, _, _, _, _, rfl, .inl ⟨rfl, rfl⟩, h.some, fun h => absurd h (by decide), fun _ => by rw [hn]; rfl, g2n.new.trans g3⟩
    · show OnBool (.bool true) _ _
      dsimp only [Z1i, Z28, Z1r, Z23, Z26, Z1g, Z1b, Z21, Z1z, Z1y, Z1q, Z1e, Z1s, Z1c, Z1k, Z24, Z1f, Z1d, Z27, Z1u, Z1h, Z0z, Z6, Z7, Z5, Z4, Z0v, Z0u, Z0w, Z11, Z0x, Z10, Z0y, Z0j, Z0i, Zh, Zg, Ze, Zd, Zf, Z19, Z1a, Z13, Z14, Z18, Z17, Z16, Z15, Z0k, Z0l, Z0m, Z0n, Z0o, Z0p, Z0q, Z0r, Z0t, Z0s, w_add_str, w_add_int, w_add_ref, Z25, Z1x, Z1w, Z1j, Z22, w_eq_str, w_ne_str, w_eq_int, w_ne_int, w_eq_ref, Z1o, Z1p, Z1v, Z1t, Z1m, Z1l, Z1n, Z20, b_and_t, b_and_f, b_or_t, b_or_f, b_not_t, b_not_f, Z1, Z0, Z2, Z3, Z9, Zc, Zb, Z8, Za, Nat.reduceBEq, Int.reduceBEq, Int.reduceAdd, Int.reduceSub, Int.reduceNeg, Option.getD_some, Option.getD_none]
      refine (simple_gen (Nat.le_trans (by decide) hm) g2n.2).mono ?_
      rintro _ σ₃ ⟨tree, s, rfl, h, g3⟩
      rw [in_ints get_new]
      show OnBool (.bool true) _ _
      dsimp only [Z1i, Z28, Z1r, Z23, Z26, Z1g, Z1b, Z21, Z1z, Z1y, Z1q, Z1e, Z1s, Z1c, Z1k, Z24, Z1f, Z1d, Z27, Z1u, Z1h, Z0z, Z6, Z7, Z5, Z4, Z0v, Z0u, Z0w, Z11, Z0x, Z10, Z0y, Z0j, Z0i, Zh, Zg, Ze, Zd, Zf, Z19, Z1a, Z13, Z14, Z18, Z17, Z16, Z15, Z0k, Z0l, Z0m, Z0n, Z0o, Z0p, Z0q, Z0r, Z0t, Z0s, w_add_str, w_add_int, w_add_ref, Z25, Z1x, Z1w, Z1j, Z22, w_eq_str, w_ne_str, w_eq_int, w_ne_int, w_eq_ref, Z1o, Z1p, Z1v, Z1t, Z1m, Z1l, Z1n, Z20, b_and_t, b_and_f, b_or_t, b_or_f, b_not_t, b_not_f, Z1, Z0, Z2, Z3, Z9, Zc, Zb, Z8, Za, Nat.reduceBEq, Int.reduceBEq, Int.reduceAdd, Int.reduceSub, Int.reduceNeg, Option.getD_some, Option.getD_none]
      have hn := isNone_sim h
      refine (simple_gen (Nat.le_trans (by decide) hm) (g2n.trans g3).new.2).mono ?_
      rintro _ σ₄ ⟨tree', s', rfl, h', g4⟩
      exact ⟨rfl, _, _, _, _, rfl, h.some, h'.some, fun h => absurd h (by decide), fun _ => by rw [hn]; rfl, (g2n.trans g3).new.trans g4⟩
  rintro _ σ₃ ⟨init, s, post, p, rfl, hs3, hp3, e1, e2, g3⟩
  -- the block
  refine seq_ok (fun ve σ' => ∃ trees rowss r, ve = [some (.ref src), some (.tup [.none, .str []]), some (.int t), some (.tup [told, .str x]), some (.tup [init, .str s]), some (.tup [post, .str p]), some (.tup [.str [98, 108, 111, 99, 107], .int 1, .tup trees]), some (.ref r), none, none] ∧
    Rows (braceR rowss) (2 * nn 1 + 2) (mm 1 + 1) ∧ (∀ n, kk 1 + 1 ≤ n → Txt n 12 [.tup [.str [98, 108, 111, 99, 107], .int 1, .tup trees]] (joinL [10] (braceR rowss))) ∧ σ'[r]? = some ((braceR rowss).map D.str) ∧ r ≠ src ∧ Go src σ σ') ?_ ?_
  · dsimp only [Z1i, Z28, Z1r, Z23, Z26, Z1g, Z1b, Z21, Z1z, Z1y, Z1q, Z1e, Z1s, Z1c, Z1k, Z24, Z1f, Z1d, Z27, Z1u, Z1h, Z0z, Z6, Z7, Z5, Z4, Z0v, Z0u, Z0w, Z11, Z0x, Z10, Z0y, Z0j, Z0i, Zh, Zg, Ze, Zd, Zf, Z19, Z1a, Z13, Z14, Z18, Z17, Z16, Z15, Z0k, Z0l, Z0m, Z0n, Z0o, Z0p, Z0q, Z0r, Z0t, Z0s, w_add_str, w_add_int, w_add_ref, Z25, Z1x, Z1w, Z1j, Z22, w_eq_str, w_ne_str, w_eq_int, w_ne_int, w_eq_ref, Z1o, Z1p, Z1v, Z1t, Z1m, Z1l, Z1n, Z20, b_and_t, b_and_f, b_or_t, b_or_f, b_not_t, b_not_f, Z1, Z0, Z2, Z3, Z9, Zc, Zb, Z8, Za, Nat.reduceBEq, Int.reduceBEq, Int.reduceAdd, Int.reduceSub, Int.reduceNeg, Option.getD_some, Option.getD_none]
    refine (blk1 m σ₃ (Nat.le_trans (by decide) hm) g3.2).mono ?_
    rintro y σ₄ hy
    obtain ⟨trees, rowss, r, rfl, b1, b2, b3, b4, b5, g4, b6⟩ := blk_use (by decide) hy
    dsimp only [Z1i, Z28, Z1r, Z23, Z26, Z1g, Z1b, Z21, Z1z, Z1y, Z1q, Z1e, Z1s, Z1c, Z1k, Z24, Z1f, Z1d, Z27, Z1u, Z1h, Z0z, Z6, Z7, Z5, Z4, Z0v, Z0u, Z0w, Z11, Z0x, Z10, Z0y, Z0j, Z0i, Zh, Zg, Ze, Zd, Zf, Z19, Z1a, Z13, Z14, Z18, Z17, Z16, Z15, Z0k, Z0l, Z0m, Z0n, Z0o, Z0p, Z0q, Z0r, Z0t, Z0s, w_add_str, w_add_int, w_add_ref, Z25, Z1x, Z1w, Z1j, Z22, w_eq_str, w_ne_str, w_eq_int, w_ne_int, w_eq_ref, Z1o, Z1p, Z1v, Z1t, Z1m, Z1l, Z1n, Z20, b_and_t, b_and_f, b_or_t, b_or_f, b_not_t, b_not_f, Z1, Z0, Z2, Z3, Z9, Zc, Zb, Z8, Za, Nat.reduceBEq, Int.reduceBEq, Int.reduceAdd, Int.reduceSub, Int.reduceNeg, Option.getD_some, Option.getD_none]
    refine ⟨rfl, trees, rowss.flatten, r, rfl, b3, b4, b5, ?_, g3.trans g4⟩
    obtain ⟨_, _, h, _⟩ := g3.2
    have := get_lt h
    omega
  rintro _ σ₄ ⟨trees, B0, r, rfl, hB, hblk, hr, hrs, g4⟩
  generalize braceR B0 = B at *
  -- words
  refine seq_ok (fun ve σ' => ∃ q, ve = [some (.ref src), some (.tup [.none, .str []]), some (.int t), some (.tup [told, .str x]), some (.tup [init, .str s]), some (.tup [post, .str p]), some (.tup [.str [98, 108, 111, 99, 107], .int 1, .tup trees]), some (.ref r), some (.ref q), none] ∧ σ'[q]? = some ((filt x).map D.str) ∧ Gs [] σ₄ σ') ?_ ?_
  · dsimp only [Z1i, Z28, Z1r, Z23, Z26, Z1g, Z1b, Z21, Z1z, Z1y, Z1q, Z1e, Z1s, Z1c, Z1k, Z24, Z1f, Z1d, Z27, Z1u, Z1h, Z0z, Z6, Z7, Z5, Z4, Z0v, Z0u, Z0w, Z11, Z0x, Z10, Z0y, Z0j, Z0i, Zh, Zg, Ze, Zd, Zf, Z19, Z1a, Z13, Z14, Z18, Z17, Z16, Z15, Z0k, Z0l, Z0m, Z0n, Z0o, Z0p, Z0q, Z0r, Z0t, Z0s, w_add_str, w_add_int, w_add_ref, Z25, Z1x, Z1w, Z1j, Z22, w_eq_str, w_ne_str, w_eq_int, w_ne_int, w_eq_ref, Z1o, Z1p, Z1v, Z1t, Z1m, Z1l, Z1n, Z20, b_and_t, b_and_f, b_or_t, b_or_f, b_not_t, b_not_f, Z1, Z0, Z2, Z3, Z9, Zc, Zb, Z8, Za, Nat.reduceBEq, Int.reduceBEq, Int.reduceAdd, Int.reduceSub, Int.reduceNeg, Option.getD_some, Option.getD_none]
    refine ⟨_, get_new, ?_⟩
    refine filt_one get_new ?_
    exact ⟨rfl, _, rfl, get_new, Gs.app.trans Gs.app⟩
  rintro _ σ₅ ⟨q, rfl, hq, g5⟩
  have lx := hx.len
  have ls := hs3.len
  have lp := hp3.len
  refine seq_ok (fun ve σ' => ∃ q, ve = [some (.ref src), some (.tup [.none, .str []]), some (.int t), some (.tup [told, .str x]), some (.tup [init, .str s]), some (.tup [post, .str p]), some (.tup [.str [98, 108, 111, 99, 107], .int 1, .tup trees]), some (.ref r), some (.ref q), none] ∧
    σ'[q]? = some ((if t = 0 then filt x else [s ++ [59], x ++ [59]] ++ filt p).map D.str) ∧ Gs [] σ₄ σ') ?_ ?_
  · dsimp only [Z1i, Z28, Z1r, Z23, Z26, Z1g, Z1b, Z21, Z1z, Z1y, Z1q, Z1e, Z1s, Z1c, Z1k, Z24, Z1f, Z1d, Z27, Z1u, Z1h, Z0z, Z6, Z7, Z5, Z4, Z0v, Z0u, Z0w, Z11, Z0x, Z10, Z0y, Z0j, Z0i, Zh, Zg, Ze, Zd, Zf, Z19, Z1a, Z13, Z14, Z18, Z17, Z16, Z15, Z0k, Z0l, Z0m, Z0n, Z0o, Z0p, Z0q, Z0r, Z0t, Z0s, w_add_str, w_add_int, w_add_ref, Z25, Z1x, Z1w, Z1j, Z22, w_eq_str, w_ne_str, w_eq_int, w_ne_int, w_eq_ref, Z1o, Z1p, Z1v, Z1t, Z1m, Z1l, Z1n, Z20, b_and_t, b_and_f, b_or_t, b_or_f, b_not_t, b_not_f, Z1, Z0, Z2, Z3, Z9, Zc, Zb, Z8, Za, Nat.reduceBEq, Int.reduceBEq, Int.reduceAdd, Int.reduceSub, Int.reduceNeg, Option.getD_some, Option.getD_none]
    by_cases ht : t = 0
    · rw [decide_eq_false (by omega), if_pos ht]
      exact ⟨rfl, q, rfl, hq, g5⟩
    · rw [decide_eq_true (by omega : t > 0), if_neg ht]
      dsimp only [Z1i, Z28, Z1r, Z23, Z26, Z1g, Z1b, Z21, Z1z, Z1y, Z1q, Z1e, Z1s, Z1c, Z1k, Z24, Z1f, Z1d, Z27, Z1u, Z1h, Z0z, Z6, Z7, Z5, Z4, Z0v, Z0u, Z0w, Z11, Z0x, Z10, Z0y, Z0j, Z0i, Zh, Zg, Ze, Zd, Zf, Z19, Z1a, Z13, Z14, Z18, Z17, Z16, Z15, Z0k, Z0l, Z0m, Z0n, Z0o, Z0p, Z0q, Z0r, Z0t, Z0s, w_add_str, w_add_int, w_add_ref, Z25, Z1x, Z1w, Z1j, Z22, w_eq_str, w_ne_str, w_eq_int, w_ne_int, w_eq_ref, Z1o, Z1p, Z1v, Z1t, Z1m, Z1l, Z1n, Z20, b_and_t, b_and_f, b_or_t, b_or_f, b_not_t, b_not_f, Z1, Z0, Z2, Z3, Z9, Zc, Zb, Z8, Za, Nat.reduceBEq, Int.reduceBEq, Int.reduceAdd, Int.reduceSub, Int.reduceNeg, Option.getD_some, Option.getD_none]
      refine ⟨by first | (apply cap2; (case h1 => repeat' first | assumption | apply app_le | apply nil_le | apply cons_le); (case h2 => repeat' first | assumption | apply app_le | apply nil_le | apply cons_le); decide) | (apply cap1; (case h1 => repeat' first | assumption | apply app_le | apply nil_le | apply cons_le); decide) | (simp [sizeCap]; omega) | (unfold sizeCap; omega), by first | (apply cap2; (case h1 => repeat' first | assumption | apply app_le | apply nil_le | apply cons_le); (case h2 => repeat' first | assumption | apply app_le | apply nil_le | apply cons_le); decide) | (apply cap1; (case h1 => repeat' first | assumption | apply app_le | apply nil_le | apply cons_le); decide) | (simp [sizeCap]; omega) | (unfold sizeCap; omega), _, get_new, ?_⟩
      refine filt_one get_new ?_
      have hA : (σ₅ ++ [[.str (s ++ [59]), .str (x ++ [59])]])[σ₅.length]? = some [.str (s ++ [59]), .str (x ++ [59])] := get_new
      have gA : Gs [] σ₅ (σ₅ ++ [[.str (s ++ [59]), .str (x ++ [59])]]) := Gs.app
      generalize σ₅ ++ [[.str (s ++ [59]), .str (x ++ [59])]] = σA at hA gA ⊢
      rw [add_ref ((Gs.app.trans Gs.app : Gs [] σA _).get hA) get_new (by unfold filt; split <;> simp [sizeCap])]
      refine ⟨rfl, _, rfl, ?_, (g5.trans gA).trans ((Gs.app.trans Gs.app).trans Gs.app)⟩
      rw [get_new]
      simp
  rintro _ σ₆ ⟨q', rfl, hq6, g6⟩
  have hj := for_join hs3 hp3 e1 e2 (x := x) (told := told)
  have lw : (if t = 0 then filt x else [s ++ [59], x ++ [59]] ++ filt p).length ≤ 3 := by
    unfold filt
    repeat' split
    all_goals simp
  have lf : (forT init post s x p).length ≤ 200 := by
    unfold forT
    repeat' split
    all_goals simp
    all_goals omega
  have rf : 10 ∉ forT init post s x p := by
    have r1 := hs3.row
    have r2 := hx.row
    have r3 := hp3.row
    unfold forT
    repeat' split
    all_goals simp [r1, r2, r3]
  generalize (if t = 0 then filt x else [s ++ [59], x ++ [59]] ++ filt p) = ws at *
  refine seq_ok (fun ve σ' => ve = [some (.ref src), some (.tup [.none, .str []]), some (.int t), some (.tup [told, .str x]), some (.tup [init, .str s]), some (.tup [post, .str p]), some (.tup [.str [98, 108, 111, 99, 107], .int 1, .tup trees]), some (.ref r), some (.ref q'), some (.str (forT init post s x p))] ∧ Gs [] σ₄ σ') ?_ ?_
  · dsimp only [Z1i, Z28, Z1r, Z23, Z26, Z1g, Z1b, Z21, Z1z, Z1y, Z1q, Z1e, Z1s, Z1c, Z1k, Z24, Z1f, Z1d, Z27, Z1u, Z1h, Z0z, Z6, Z7, Z5, Z4, Z0v, Z0u, Z0w, Z11, Z0x, Z10, Z0y, Z0j, Z0i, Zh, Zg, Ze, Zd, Zf, Z19, Z1a, Z13, Z14, Z18, Z17, Z16, Z15, Z0k, Z0l, Z0m, Z0n, Z0o, Z0p, Z0q, Z0r, Z0t, Z0s, w_add_str, w_add_int, w_add_ref, Z25, Z1x, Z1w, Z1j, Z22, w_eq_str, w_ne_str, w_eq_int, w_ne_int, w_eq_ref, Z1o, Z1p, Z1v, Z1t, Z1m, Z1l, Z1n, Z20, b_and_t, b_and_f, b_or_t, b_or_f, b_not_t, b_not_f, Z1, Z0, Z2, Z3, Z9, Zc, Zb, Z8, Za, Nat.reduceBEq, Int.reduceBEq, Int.reduceAdd, Int.reduceSub, Int.reduceNeg, Option.getD_some, Option.getD_none]
    rw [add_ref get_new ((Gs.app : Gs [] σ₆ _).get hq6) (by first | (apply cap2; (case h1 => repeat' first | assumption | apply app_le | apply nil_le | apply cons_le); (case h2 => repeat' first | assumption | apply app_le | apply nil_le | apply cons_le); decide) | (apply cap1; (case h1 => repeat' first | assumption | apply app_le | apply nil_le | apply cons_le); decide) | (simp [sizeCap]; omega) | (unfold sizeCap; omega))]
    have ljn : (joinL [32] ([102, 111, 114] :: ws)).length + 1 = (forT init post s x p).length := by rw [← hj]; simp
    refine join_ref (xs := [102, 111, 114] :: ws) get_new (by decide) (by first | (apply cap2; (case h1 => repeat' first | assumption | apply app_le | apply nil_le | apply cons_le); (case h2 => repeat' first | assumption | apply app_le | apply nil_le | apply cons_le); decide) | (apply cap1; (case h1 => repeat' first | assumption | apply app_le | apply nil_le | apply cons_le); decide) | (simp [sizeCap]; omega) | (unfold sizeCap; omega)) ?_
    dsimp only [Z1i, Z28, Z1r, Z23, Z26, Z1g, Z1b, Z21, Z1z, Z1y, Z1q, Z1e, Z1s, Z1c, Z1k, Z24, Z1f, Z1d, Z27, Z1u, Z1h, Z0z, Z6, Z7, Z5, Z4, Z0v, Z0u, Z0w, Z11, Z0x, Z10, Z0y, Z0j, Z0i, Zh, Zg, Ze, Zd, Zf, Z19, Z1a, Z13, Z14, Z18, Z17, Z16, Z15, Z0k, Z0l, Z0m, Z0n, Z0o, Z0p, Z0q, Z0r, Z0t, Z0s, w_add_str, w_add_int, w_add_ref, Z25, Z1x, Z1w, Z1j, Z22, w_eq_str, w_ne_str, w_eq_int, w_ne_int, w_eq_ref, Z1o, Z1p, Z1v, Z1t, Z1m, Z1l, Z1n, Z20, b_and_t, b_and_f, b_or_t, b_or_f, b_not_t, b_not_f, Z1, Z0, Z2, Z3, Z9, Zc, Zb, Z8, Za, Nat.reduceBEq, Int.reduceBEq, Int.reduceAdd, Int.reduceSub, Int.reduceNeg, Option.getD_some, Option.getD_none]
    rw [hj]
    exact ⟨by first | (apply cap2; (case h1 => repeat' first | assumption | apply app_le | apply nil_le | apply cons_le); (case h2 => repeat' first | assumption | apply app_le | apply nil_le | apply cons_le); decide) | (apply cap1; (case h1 => repeat' first | assumption | apply app_le | apply nil_le | apply cons_le); decide) | (simp [sizeCap]; omega) | (unfold sizeCap; omega), rfl, rfl, g6.trans (Gs.app.trans Gs.app)⟩
  rintro _ σ₇ ⟨rfl, g7⟩
  refine wB_ok _ _ _ _ ?_
  dsimp only [Z1i, Z28, Z1r, Z23, Z26, Z1g, Z1b, Z21, Z1z, Z1y, Z1q, Z1e, Z1s, Z1c, Z1k, Z24, Z1f, Z1d, Z27, Z1u, Z1h, Z0z, Z6, Z7, Z5, Z4, Z0v, Z0u, Z0w, Z11, Z0x, Z10, Z0y, Z0j, Z0i, Zh, Zg, Ze, Zd, Zf, Z19, Z1a, Z13, Z14, Z18, Z17, Z16, Z15, Z0k, Z0l, Z0m, Z0n, Z0o, Z0p, Z0q, Z0r, Z0t, Z0s, w_add_str, w_add_int, w_add_ref, Z25, Z1x, Z1w, Z1j, Z22, w_eq_str, w_ne_str, w_eq_int, w_ne_int, w_eq_ref, Z1o, Z1p, Z1v, Z1t, Z1m, Z1l, Z1n, Z20, b_and_t, b_and_f, b_or_t, b_or_f, b_not_t, b_not_f, Z1, Z0, Z2, Z3, Z9, Zc, Zb, Z8, Za, Nat.reduceBEq, Int.reduceBEq, Int.reduceAdd, Int.reduceSub, Int.reduceNeg, Option.getD_some, Option.getD_none]
  cases B with
  | nil => exact absurd rfl hB.ne
  | cons b0 bs =>
    have hb0 : b0.length ≤ 565 := hB.len b0 (List.mem_cons_self ..)
    have hbs : (b0 :: bs).length ≤ 34 := hB.num
    rw [List.length_cons] at hbs
    have hr7 := g7.get hr
    refine item_at hr7 ?_
    simp only [Z1i, Z28, Z1r, Z23, Z26, Z1g, Z1b, Z21, Z1z, Z1y, Z1q, Z1e, Z1s, Z1c, Z1k, Z24, Z1f, Z1d, Z27, Z1u, Z1h, Z0z, Z6, Z7, Z5, Z4, Z0v, Z0u, Z0w, Z11, Z0x, Z10, Z0y, Z0j, Z0i, Zh, Zg, Ze, Zd, Zf, Z19, Z1a, Z13, Z14, Z18, Z17, Z16, Z15, Z0k, Z0l, Z0m, Z0n, Z0o, Z0p, Z0q, Z0r, Z0t, Z0s, w_add_str, w_add_int, w_add_ref, Z25, Z1x, Z1w, Z1j, Z22, w_eq_str, w_ne_str, w_eq_int, w_ne_int, w_eq_ref, Z1o, Z1p, Z1v, Z1t, Z1m, Z1l, Z1n, Z20, b_and_t, b_and_f, b_or_t, b_or_f, b_not_t, b_not_f, Z1, Z0, Z2, Z3, Z9, Zc, Zb, Z8, Za, Nat.reduceBEq, Int.reduceBEq, Int.reduceAdd, Int.reduceSub, Int.reduceNeg, Option.getD_some, Option.getD_none, item_0, item_1, item_2, item_3, item_4, item_5, item_6, notin_tup, in_tup, in_str, strsOf_nil, strsOf_cons, str_7, len_str, len_ref, range_int, List.any_cons, List.any_nil, Bool.or_false, Bool.false_or, Bool.or_true, Bool.true_or, Bool.true_and, Bool.false_and, Bool.and_true, Bool.and_false, Bool.not_true, Bool.not_false, List.contains_cons, List.contains_nil, beq_self_eq_true, true_and, and_true, Int.reduceEq, Int.reduceLT, Int.reduceLE, decide_true, decide_false, List.length_cons, List.length_nil, Nat.reduceAdd, Nat.reduceLeDiff, eq_self, item_0, List.map_cons]
    refine ⟨by first | (apply cap2; (case h1 => repeat' first | assumption | apply app_le | apply nil_le | apply cons_le); (case h2 => repeat' first | assumption | apply app_le | apply nil_le | apply cons_le); decide) | (apply cap1; (case h1 => repeat' first | assumption | apply app_le | apply nil_le | apply cons_le); decide) | (simp [sizeCap]; omega) | (unfold sizeCap; omega), ?_⟩
    have hrA := (Gs.app (l := [[D.str (forT init post s x p ++ b0)]])).get hr7
    have hnA : (σ₇ ++ [[D.str (forT init post s x p ++ b0)]])[σ₇.length]? = some [D.str (forT init post s x p ++ b0)] := get_new
    have gA : Gs [] σ₇ (σ₇ ++ [[D.str (forT init post s x p ++ b0)]]) := Gs.app
    generalize σ₇ ++ [[D.str (forT init post s x p ++ b0)]] = σA at *
    refine slice_ref hrA (by first | (apply cap2; (case h1 => repeat' first | assumption | apply app_le | apply nil_le | apply cons_le); (case h2 => repeat' first | assumption | apply app_le | apply nil_le | apply cons_le); decide) | (apply cap1; (case h1 => repeat' first | assumption | apply app_le | apply nil_le | apply cons_le); decide) | (simp [sizeCap]; omega) | (unfold sizeCap; omega)) ?_
    rw [List.map_cons, cut_tail]
    try dsimp only [Z1i, Z28, Z1r, Z23, Z26, Z1g, Z1b, Z21, Z1z, Z1y, Z1q, Z1e, Z1s, Z1c, Z1k, Z24, Z1f, Z1d, Z27, Z1u, Z1h, Z0z, Z6, Z7, Z5, Z4, Z0v, Z0u, Z0w, Z11, Z0x, Z10, Z0y, Z0j, Z0i, Zh, Zg, Ze, Zd, Zf, Z19, Z1a, Z13, Z14, Z18, Z17, Z16, Z15, Z0k, Z0l, Z0m, Z0n, Z0o, Z0p, Z0q, Z0r, Z0t, Z0s, w_add_str, w_add_int, w_add_ref, Z25, Z1x, Z1w, Z1j, Z22, w_eq_str, w_ne_str, w_eq_int, w_ne_int, w_eq_ref, Z1o, Z1p, Z1v, Z1t, Z1m, Z1l, Z1n, Z20, b_and_t, b_and_f, b_or_t, b_or_f, b_not_t, b_not_f, Z1, Z0, Z2, Z3, Z9, Zc, Zb, Z8, Za, Nat.reduceBEq, Int.reduceBEq, Int.reduceAdd, Int.reduceSub, Int.reduceNeg, Option.getD_some, Option.getD_none]
    rw [add_ref ((Gs.app : Gs [] σA _).get hnA) get_new (by first | (apply cap2; (case h1 => repeat' first | assumption | apply app_le | apply nil_le | apply cons_le); (case h2 => repeat' first | assumption | apply app_le | apply nil_le | apply cons_le); decide) | (apply cap1; (case h1 => repeat' first | assumption | apply app_le | apply nil_le | apply cons_le); decide) | (simp [sizeCap]; omega) | (unfold sizeCap; omega))]
    have hjl := hB.join_len
    have h6 : (2 * nn 1 + 2) * (mm 1 + 1 + 1) ≤ 34 * 566 := by decide
    refine ⟨_, (forT init post s x p ++ b0) :: bs, _, rfl, fun n hn => ?_, ?_, ?_, g4.trans (Go.ext g4.2 ((g7.trans gA).trans (Gs.app.trans Gs.app)))⟩
    · obtain ⟨z, rfl, hz⟩ := pre1 hn
      rw [join_head]
      exact loop_ok hs3 hx hp3 (hblk z (Nat.le_trans (by decide) hz)) (Nat.le_trans hjl (Nat.le_trans h6 (by decide))) (Nat.le_trans (by decide) hz)
    · rw [join_head, List.length_append]
      omega
    · rw [get_new]
      simp
end Mine
end

section
open PySem
namespace Mine
theorem joinL_flat : ∀ {l : List (List Nat)} {h : List Nat}, joinL [10] (h :: l) = h ++ (l.map fun r => 10 :: r).flatten
  | [], h => by simp [joinL]
  | a :: l, h => by
    show h ++ [10] ++ joinL [10] (a :: l) = _
    rw [joinL_flat]
    simp
theorem indent_join {rows : List (List Nat)} (h : rows ≠ []) : indentT rows = joinL [10] (rows.map fun r => 9 :: r) ++ [10] := by
  cases rows with
  | nil => exact absurd rfl h
  | cons r rs =>
    rw [List.map_cons, joinL_flat]
    clear h
    induction rs generalizing r with
    | nil => simp [indentT]
    | cons a rs ih =>
      rw [indent_cons, ih]
      simp
theorem cut_last {α : Type} {l : List α} {x : α} : cutOf (l ++ [x]) none (some (-1)) = l := by
  simp [cutOf, clampIdx]
theorem cut_mid {α : Type} {l : List α} {x y : α} : cutOf (x :: (l ++ [y])) (some 1) (some (-1)) = l := by
  simp [cutOf, clampIdx]
theorem slice_str {s : List Nat} {lo hi : Option Int} {σ : Sto} {P : D → Sto → Prop} (hl : s.length ≤ sizeCap) (hp : P (.str (cutOf s lo hi)) σ) : RunO (opSlice (.str s) lo hi none σ) P := by
  show RunO (if s.length ≤ sizeCap then some (D.str (cutOf s lo hi), σ) else none) P
  rw [if_pos hl]
  exact hp
theorem All2.at {α β : Type} {R : α → β → Prop} : ∀ {l : List α} {r : List β} {i : Nat} {x : α}, All2 R l r → l[i]? = some x → ∃ y, r[i]? = some y ∧ R x y
  | [], _, i, x, _, h => by simp at h
  | a :: l, r, i, x, hr, h => by
    unfold All2 at hr
    obtain ⟨y, r', rfl, h1, h2⟩ := hr
    cases i with
    | zero => simp at h; subst h; exact ⟨y, rfl, h1⟩
    | succ i => exact All2.at (i := i) h2 (by simpa using h)

noncomputable def headC (b : Bool) (text : List Nat) : List Nat := if b then [100, 101, 102, 97, 117, 108, 116, 58] else [99, 97, 115, 101, 32] ++ text ++ [58]
/-- a case of a switch beside its rows -/
noncomputable def CaseOK (c : D) (rp : List (List Nat)) : Prop := ∃ text b body rowss, c = .tup [.str text, .bool b, .tup body] ∧ All2 (St2 80 16 564) body rowss ∧ body.length ≤ 2 ∧ text.length ≤ 5 ∧ 10 ∉ text ∧ rp = headC b text :: rowss.flatten.map fun r => 9 :: r
theorem CaseOK.rows {c : D} {rp : List (List Nat)} (h : CaseOK c rp) : Rows rp 33 565 := by
  obtain ⟨text, b, body, rowss, rfl, h1, h2, h3, h4, rfl⟩ := h
  have hx : ∀ y ∈ rowss, Rows y 16 564 := fun y hy => by obtain ⟨tr, htr⟩ := h1.right y hy; exact htr.rows
  refine ⟨by simp, ?_, ?_, ?_⟩
  · intro r hr
    rcases List.mem_cons.mp hr with rfl | hr
    · unfold headC; split
      · decide
      · simp [h4]
    · obtain ⟨a, ha, rfl⟩ := List.mem_map.mp hr
      obtain ⟨y, hy, ha⟩ := List.mem_flatten.mp ha
      have := (hx y hy).row a ha
      simp [this]
  · have := flat_num (fun y hy => (hx y hy).num)
    have h6 : rowss.length * 16 ≤ 2 * 16 := Nat.mul_le_mul (by rw [h1.len]; omega) (Nat.le_refl _)
    simp only [List.length_cons, List.length_map]
    omega
  · intro r hr
    rcases List.mem_cons.mp hr with rfl | hr
    · unfold headC; split
      · decide
      · simp; omega
    · obtain ⟨a, ha, rfl⟩ := List.mem_map.mp hr
      obtain ⟨y, hy, ha⟩ := List.mem_flatten.mp ha
      have := (hx y hy).len a ha
      simp; omega
theorem case_join {h : List Nat} {rowss : List (List (List Nat))} (hr : ∀ y ∈ rowss, y ≠ []) : h ++ (rowss.map fun rows => 10 :: joinL [10] (rows.map fun r => 9 :: r)).flatten = joinL [10] (h :: rowss.flatten.map fun r => 9 :: r) := by
  rw [joinL_flat]
  congr 1
  induction rowss with
  | nil => rfl
  | cons y l ih =>
    rw [List.map_cons, List.flatten_cons, ih fun z hz => hr z (List.mem_cons_of_mem _ hz), List.flatten_cons, List.map_append, List.map_append, List.flatten_append]
    congr 1
    have hy := hr y (List.mem_cons_self ..)
    cases y with
    | nil => exact absurd rfl hy
    | cons a z =>
      rw [List.map_cons, joinL_flat]
      simp

set_option maxHeartbeats 1000000 in
theorem cases_ok {n q : Nat} {cs : List D} {rps : List (List (List Nat))} {σ : Sto} (hn : 100 ≤ n) (hq : σ[q]? = some cs) (h : All2 CaseOK cs rps) (hl : cs.length ≤ 3) :
    RunO (C2 n 20 [.ref q] σ) fun d σ' => d = .str (joinL [10] (braceR rps.flatten)) ∧ Gs [] σ σ' := by
  obtain ⟨m, rfl⟩ : ∃ m, n = m + 1 := ⟨n - 1, by omega⟩
  have hql := get_lt hq
  refine call_fx (fd := G2_20) (ve := [some _, none, none, none, none, none]) rfl rfl ?_
  unfold G2_20
  refine seq_ok (fun ve σ' => ve = [some (.ref q), some (.ref σ.length), none, none, none, none] ∧ σ ++ [[]] = σ') (by dsimp only [Z1i, Z28, Z1r, Z23, Z26, Z1g, Z1b, Z21, Z1z, Z1y, Z1q, Z1e, Z1s, Z1c, Z1k, Z24, Z1f, Z1d, Z27, Z1u, Z1h, Z0z, Z6, Z7, Z5, Z4, Z0v, Z0u, Z0w, Z11, Z0x, Z10, Z0y, Z0j, Z0i, Zh, Zg, Ze, Zd, Zf, Z19, Z1a, Z13, Z14, Z18, Z17, Z16, Z15, Z0k, Z0l, Z0m, Z0n, Z0o, Z0p, Z0q, Z0r, Z0t, Z0s, w_add_str, w_add_int, w_add_ref, Z25, Z1x, Z1w, Z1j, Z22, w_eq_str, w_ne_str, w_eq_int, w_ne_int, w_eq_ref, Z1o, Z1p, Z1v, Z1t, Z1m, Z1l, Z1n, Z20, b_and_t, b_and_f, b_or_t, b_or_f, b_not_t, b_not_f, Z1, Z0, Z2, Z3, Z9, Zc, Zb, Z8, Za, Nat.reduceBEq, Int.reduceBEq, Int.reduceAdd, Int.reduceSub, Int.reduceNeg, Option.getD_some, Option.getD_none]; exact ⟨rfl, rfl, rfl⟩) ?_
  rintro _ _ ⟨rfl, rfl⟩
  have g0 : Gs [] σ (σ ++ [[]]) := Gs.app
  have hq0 := g0.get hq
  have hp0 : (σ ++ [[]])[σ.length]? = some [] := get_new
  generalize σ ++ [[]] = σ₀ at *
  generalize hpp : σ.length = p at *
  refine seq_ok (fun ve σ' => ∃ a b c e, ve = [some (.ref q), some (.ref p), a, b, c, e] ∧ σ'[p]? = some ((rps.map (joinL [10])).map D.str) ∧ Gs [] σ σ') ?_ ?_
  · dsimp only [Z1i, Z28, Z1r, Z23, Z26, Z1g, Z1b, Z21, Z1z, Z1y, Z1q, Z1e, Z1s, Z1c, Z1k, Z24, Z1f, Z1d, Z27, Z1u, Z1h, Z0z, Z6, Z7, Z5, Z4, Z0v, Z0u, Z0w, Z11, Z0x, Z10, Z0y, Z0j, Z0i, Zh, Zg, Ze, Zd, Zf, Z19, Z1a, Z13, Z14, Z18, Z17, Z16, Z15, Z0k, Z0l, Z0m, Z0n, Z0o, Z0p, Z0q, Z0r, Z0t, Z0s, w_add_str, w_add_int, w_add_ref, Z25, Z1x, Z1w, Z1j, Z22, w_eq_str, w_ne_str, w_eq_int, w_ne_int, w_eq_ref, Z1o, Z1p, Z1v, Z1t, Z1m, Z1l, Z1n, Z20, b_and_t, b_and_f, b_or_t, b_or_f, b_not_t, b_not_f, Z1, Z0, Z2, Z3, Z9, Zc, Zb, Z8, Za, Nat.reduceBEq, Int.reduceBEq, Int.reduceAdd, Int.reduceSub, Int.reduceNeg, Option.getD_some, Option.getD_none]
    refine ⟨cs, hq0, ?_⟩
    refine RunX.mono (floop_ix (Inv := fun i ve σ' => ∃ a b c e, ve = [some (.ref q), some (.ref p), a, b, c, e] ∧ σ'[p]? = some (((rps.take i).map (joinL [10])).map D.str) ∧ σ'[q]? = some cs ∧ Gs [] σ σ') ?_ ?_ cs 0 _ _ rfl (Nat.zero_le _) ?_) ?_
    · rintro i ve σ' ⟨a, b, c, e, rfl, h1, h2, h3⟩
      exact ref_stays h2
    · rintro i x ve σ₁ hi ⟨a, b, c, e, rfl, h1, h2, h3⟩
      obtain ⟨rp, hrp, hc⟩ := h.at hi
      have hcr := hc.rows
      obtain ⟨text, b', body, rowss, rfl, c1, c2, c3, c4, rfl⟩ := hc
      have hhl : (headC b' text).length ≤ 20 := by unfold headC; split <;> (try simp) <;> omega
      refine runV_of ?_
      dsimp only [Z1i, Z28, Z1r, Z23, Z26, Z1g, Z1b, Z21, Z1z, Z1y, Z1q, Z1e, Z1s, Z1c, Z1k, Z24, Z1f, Z1d, Z27, Z1u, Z1h, Z0z, Z6, Z7, Z5, Z4, Z0v, Z0u, Z0w, Z11, Z0x, Z10, Z0y, Z0j, Z0i, Zh, Zg, Ze, Zd, Zf, Z19, Z1a, Z13, Z14, Z18, Z17, Z16, Z15, Z0k, Z0l, Z0m, Z0n, Z0o, Z0p, Z0q, Z0r, Z0t, Z0s, w_add_str, w_add_int, w_add_ref, Z25, Z1x, Z1w, Z1j, Z22, w_eq_str, w_ne_str, w_eq_int, w_ne_int, w_eq_ref, Z1o, Z1p, Z1v, Z1t, Z1m, Z1l, Z1n, Z20, b_and_t, b_and_f, b_or_t, b_or_f, b_not_t, b_not_f, Z1, Z0, Z2, Z3, Z9, Zc, Zb, Z8, Za, Nat.reduceBEq, Int.reduceBEq, Int.reduceAdd, Int.reduceSub, Int.reduceNeg, Option.getD_some, Option.getD_none]
      rw [runB_cons]
      refine RunX.mono (P := fun r ve₁ σ₂ => r = none ∧ ve₁ = [some (.ref q), some (.ref p), some (.str text), some (.bool b'), some (.tup body), some (.str (headC b' text))] ∧ σ₁ = σ₂) (wS_ok _ _ _ _ ?_) ?_
      · unfold headC
        cases b' with
        | true =>
          dsimp only [Z1i, Z28, Z1r, Z23, Z26, Z1g, Z1b, Z21, Z1z, Z1y, Z1q, Z1e, Z1s, Z1c, Z1k, Z24, Z1f, Z1d, Z27, Z1u, Z1h, Z0z, Z6, Z7, Z5, Z4, Z0v, Z0u, Z0w, Z11, Z0x, Z10, Z0y, Z0j, Z0i, Zh, Zg, Ze, Zd, Zf, Z19, Z1a, Z13, Z14, Z18, Z17, Z16, Z15, Z0k, Z0l, Z0m, Z0n, Z0o, Z0p, Z0q, Z0r, Z0t, Z0s, w_add_str, w_add_int, w_add_ref, Z25, Z1x, Z1w, Z1j, Z22, w_eq_str, w_ne_str, w_eq_int, w_ne_int, w_eq_ref, Z1o, Z1p, Z1v, Z1t, Z1m, Z1l, Z1n, Z20, b_and_t, b_and_f, b_or_t, b_or_f, b_not_t, b_not_f, Z1, Z0, Z2, Z3, Z9, Zc, Zb, Z8, Za, Nat.reduceBEq, Int.reduceBEq, Int.reduceAdd, Int.reduceSub, Int.reduceNeg, Option.getD_some, Option.getD_none]
          exact ⟨rfl, rfl, rfl⟩
        | false =>
          dsimp only [Z1i, Z28, Z1r, Z23, Z26, Z1g, Z1b, Z21, Z1z, Z1y, Z1q, Z1e, Z1s, Z1c, Z1k, Z24, Z1f, Z1d, Z27, Z1u, Z1h, Z0z, Z6, Z7, Z5, Z4, Z0v, Z0u, Z0w, Z11, Z0x, Z10, Z0y, Z0j, Z0i, Zh, Zg, Ze, Zd, Zf, Z19, Z1a, Z13, Z14, Z18, Z17, Z16, Z15, Z0k, Z0l, Z0m, Z0n, Z0o, Z0p, Z0q, Z0r, Z0t, Z0s, w_add_str, w_add_int, w_add_ref, Z25, Z1x, Z1w, Z1j, Z22, w_eq_str, w_ne_str, w_eq_int, w_ne_int, w_eq_ref, Z1o, Z1p, Z1v, Z1t, Z1m, Z1l, Z1n, Z20, b_and_t, b_and_f, b_or_t, b_or_f, b_not_t, b_not_f, Z1, Z0, Z2, Z3, Z9, Zc, Zb, Z8, Za, Nat.reduceBEq, Int.reduceBEq, Int.reduceAdd, Int.reduceSub, Int.reduceNeg, Option.getD_some, Option.getD_none]
          exact ⟨by first | (apply cap2; (case h1 => repeat' first | assumption | apply app_le | apply nil_le | apply cons_le); (case h2 => repeat' first | assumption | apply app_le | apply nil_le | apply cons_le); decide) | (apply cap1; (case h1 => repeat' first | assumption | apply app_le | apply nil_le | apply cons_le); decide) | (simp [sizeCap]; omega) | (unfold sizeCap; omega), by first | (apply cap2; (case h1 => repeat' first | assumption | apply app_le | apply nil_le | apply cons_le); (case h2 => repeat' first | assumption | apply app_le | apply nil_le | apply cons_le); decide) | (apply cap1; (case h1 => repeat' first | assumption | apply app_le | apply nil_le | apply cons_le); decide) | (simp [sizeCap]; omega) | (unfold sizeCap; omega), rfl, rfl, rfl⟩
      rintro _ _ _ ⟨rfl, rfl, rfl⟩
      rw [Zg]
      refine wB_ok _ _ _ _ ?_
      dsimp only [Z1i, Z28, Z1r, Z23, Z26, Z1g, Z1b, Z21, Z1z, Z1y, Z1q, Z1e, Z1s, Z1c, Z1k, Z24, Z1f, Z1d, Z27, Z1u, Z1h, Z0z, Z6, Z7, Z5, Z4, Z0v, Z0u, Z0w, Z11, Z0x, Z10, Z0y, Z0j, Z0i, Zh, Zg, Ze, Zd, Zf, Z19, Z1a, Z13, Z14, Z18, Z17, Z16, Z15, Z0k, Z0l, Z0m, Z0n, Z0o, Z0p, Z0q, Z0r, Z0t, Z0s, w_add_str, w_add_int, w_add_ref, Z25, Z1x, Z1w, Z1j, Z22, w_eq_str, w_ne_str, w_eq_int, w_ne_int, w_eq_ref, Z1o, Z1p, Z1v, Z1t, Z1m, Z1l, Z1n, Z20, b_and_t, b_and_f, b_or_t, b_or_f, b_not_t, b_not_f, Z1, Z0, Z2, Z3, Z9, Zc, Zb, Z8, Za, Nat.reduceBEq, Int.reduceBEq, Int.reduceAdd, Int.reduceSub, Int.reduceNeg, Option.getD_some, Option.getD_none]
      refine ⟨body, rfl, ?_⟩
      refine RunT.mono (cloop_known (V := fun ve => ∃ a, ve = [a]) tests_nil (fun σ' => True) (fun _ _ => rfl) (fun _ _ _ _ => trivial) body ((rowss.map fun rows => 10 :: joinL [10] (rows.map fun r => 9 :: r)).map D.str) _ _ [] ?_ ⟨none, rfl⟩ trivial get_new (by first | (apply cap2; (case h1 => repeat' first | assumption | apply app_le | apply nil_le | apply cons_le); (case h2 => repeat' first | assumption | apply app_le | apply nil_le | apply cons_le); decide) | (apply cap1; (case h1 => repeat' first | assumption | apply app_le | apply nil_le | apply cons_le); decide) | (simp [sizeCap]; omega) | (unfold sizeCap; omega))) ?_
      · rw [List.map_map]
        refine All2.map _ (fun tree rows ht ve σ' hv => ?_) c1
        obtain ⟨a, rfl⟩ := hv
        refine runV_of ?_
        dsimp only [Z1i, Z28, Z1r, Z23, Z26, Z1g, Z1b, Z21, Z1z, Z1y, Z1q, Z1e, Z1s, Z1c, Z1k, Z24, Z1f, Z1d, Z27, Z1u, Z1h, Z0z, Z6, Z7, Z5, Z4, Z0v, Z0u, Z0w, Z11, Z0x, Z10, Z0y, Z0j, Z0i, Zh, Zg, Ze, Zd, Zf, Z19, Z1a, Z13, Z14, Z18, Z17, Z16, Z15, Z0k, Z0l, Z0m, Z0n, Z0o, Z0p, Z0q, Z0r, Z0t, Z0s, w_add_str, w_add_int, w_add_ref, Z25, Z1x, Z1w, Z1j, Z22, w_eq_str, w_ne_str, w_eq_int, w_ne_int, w_eq_ref, Z1o, Z1p, Z1v, Z1t, Z1m, Z1l, Z1n, Z20, b_and_t, b_and_f, b_or_t, b_or_f, b_not_t, b_not_f, Z1, Z0, Z2, Z3, Z9, Zc, Zb, Z8, Za, Nat.reduceBEq, Int.reduceBEq, Int.reduceAdd, Int.reduceSub, Int.reduceNeg, Option.getD_some, Option.getD_none]
        refine ⟨⟨_, rfl⟩, wE_ok _ _ _ _ ?_⟩
        dsimp only [Z1i, Z28, Z1r, Z23, Z26, Z1g, Z1b, Z21, Z1z, Z1y, Z1q, Z1e, Z1s, Z1c, Z1k, Z24, Z1f, Z1d, Z27, Z1u, Z1h, Z0z, Z6, Z7, Z5, Z4, Z0v, Z0u, Z0w, Z11, Z0x, Z10, Z0y, Z0j, Z0i, Zh, Zg, Ze, Zd, Zf, Z19, Z1a, Z13, Z14, Z18, Z17, Z16, Z15, Z0k, Z0l, Z0m, Z0n, Z0o, Z0p, Z0q, Z0r, Z0t, Z0s, w_add_str, w_add_int, w_add_ref, Z25, Z1x, Z1w, Z1j, Z22, w_eq_str, w_ne_str, w_eq_int, w_ne_int, w_eq_ref, Z1o, Z1p, Z1v, Z1t, Z1m, Z1l, Z1n, Z20, b_and_t, b_and_f, b_or_t, b_or_f, b_not_t, b_not_f, Z1, Z0, Z2, Z3, Z9, Zc, Zb, Z8, Za, Nat.reduceBEq, Int.reduceBEq, Int.reduceAdd, Int.reduceSub, Int.reduceNeg, Option.getD_some, Option.getD_none]
        refine (ht.run m (by omega) σ').mono ?_
        rintro _ σ'' ⟨rfl, g1⟩
        obtain ⟨z, rfl⟩ : ∃ z, m = z + 1 := ⟨m - 1, by omega⟩
        refine (indented_ok ht.rows (by omega) σ'').mono ?_
        rintro _ σ₃ ⟨rfl, g2⟩
        have hil := ht.rows.indent_len
        refine slice_str (by first | (apply cap2; (case h1 => repeat' first | assumption | apply app_le | apply nil_le | apply cons_le); (case h2 => repeat' first | assumption | apply app_le | apply nil_le | apply cons_le); decide) | (apply cap1; (case h1 => repeat' first | assumption | apply app_le | apply nil_le | apply cons_le); decide) | (simp [sizeCap]; omega) | (unfold sizeCap; omega)) ?_
        rw [indent_join ht.rows.ne] at hil ⊢
        rw [cut_last]
        rw [List.length_append] at hil
        dsimp only [Z1i, Z28, Z1r, Z23, Z26, Z1g, Z1b, Z21, Z1z, Z1y, Z1q, Z1e, Z1s, Z1c, Z1k, Z24, Z1f, Z1d, Z27, Z1u, Z1h, Z0z, Z6, Z7, Z5, Z4, Z0v, Z0u, Z0w, Z11, Z0x, Z10, Z0y, Z0j, Z0i, Zh, Zg, Ze, Zd, Zf, Z19, Z1a, Z13, Z14, Z18, Z17, Z16, Z15, Z0k, Z0l, Z0m, Z0n, Z0o, Z0p, Z0q, Z0r, Z0t, Z0s, w_add_str, w_add_int, w_add_ref, Z25, Z1x, Z1w, Z1j, Z22, w_eq_str, w_ne_str, w_eq_int, w_ne_int, w_eq_ref, Z1o, Z1p, Z1v, Z1t, Z1m, Z1l, Z1n, Z20, b_and_t, b_and_f, b_or_t, b_or_f, b_not_t, b_not_f, Z1, Z0, Z2, Z3, Z9, Zc, Zb, Z8, Za, Nat.reduceBEq, Int.reduceBEq, Int.reduceAdd, Int.reduceSub, Int.reduceNeg, Option.getD_some, Option.getD_none]
        exact ⟨by simp only [List.length_cons, List.length_nil]; unfold sizeCap; omega, rfl, g1.trans g2⟩
      · rintro σ₂ ⟨h4, h5⟩
        rw [List.nil_append] at h4
        have hj := case_join (h := headC b' text) (rowss := rowss) (fun y hy => by obtain ⟨tr, htr⟩ := c1.right y hy; exact htr.rows.ne)
        have hjl := hcr.join_len
        rw [← hj, List.length_append] at hjl
        refine join_ref h4 (by decide) (by rw [joinL_nil]; unfold sizeCap; omega) ?_
        rw [joinL_nil]
        dsimp only [Z1i, Z28, Z1r, Z23, Z26, Z1g, Z1b, Z21, Z1z, Z1y, Z1q, Z1e, Z1s, Z1c, Z1k, Z24, Z1f, Z1d, Z27, Z1u, Z1h, Z0z, Z6, Z7, Z5, Z4, Z0v, Z0u, Z0w, Z11, Z0x, Z10, Z0y, Z0j, Z0i, Zh, Zg, Ze, Zd, Zf, Z19, Z1a, Z13, Z14, Z18, Z17, Z16, Z15, Z0k, Z0l, Z0m, Z0n, Z0o, Z0p, Z0q, Z0r, Z0t, Z0s, w_add_str, w_add_int, w_add_ref, Z25, Z1x, Z1w, Z1j, Z22, w_eq_str, w_ne_str, w_eq_int, w_ne_int, w_eq_ref, Z1o, Z1p, Z1v, Z1t, Z1m, Z1l, Z1n, Z20, b_and_t, b_and_f, b_or_t, b_or_f, b_not_t, b_not_f, Z1, Z0, Z2, Z3, Z9, Zc, Zb, Z8, Za, Nat.reduceBEq, Int.reduceBEq, Int.reduceAdd, Int.reduceSub, Int.reduceNeg, Option.getD_some, Option.getD_none]
        refine ⟨by first | (apply cap2; (case h1 => repeat' first | assumption | apply app_le | apply nil_le | apply cons_le); (case h2 => repeat' first | assumption | apply app_le | apply nil_le | apply cons_le); decide) | (apply cap1; (case h1 => repeat' first | assumption | apply app_le | apply nil_le | apply cons_le); decide) | (simp [sizeCap]; omega) | (unfold sizeCap; omega), ?_⟩
        rw [hj]
        have g12 := h5.comp
        have h6 := g12.get h1
        have hrl := h.len
        rw [run_append_ref h6 (by first | (apply cap2; (case h1 => repeat' first | assumption | apply app_le | apply nil_le | apply cons_le); (case h2 => repeat' first | assumption | apply app_le | apply nil_le | apply cons_le); decide) | (apply cap1; (case h1 => repeat' first | assumption | apply app_le | apply nil_le | apply cons_le); decide) | (simp [sizeCap]; omega) | (unfold sizeCap; omega))]
        refine ⟨rfl, _, _, _, _, rfl, ?_, ?_, (h3.trans g12).setNew (by omega)⟩
        · rw [List.getElem?_set_self (get_lt h6), List.take_add_one, hrp]
          simp
        · rw [List.getElem?_set_ne (by omega)]
          exact g12.get h2
    · exact ⟨_, _, _, _, rfl, hp0, hq0, g0⟩
    · rintro r ve σ₁ ⟨rfl, a, b, c, e, rfl, h1, h2, h3⟩
      rw [← h.len, List.take_length] at h1
      exact ⟨rfl, a, b, c, e, rfl, h1, h3⟩
  rintro _ σ₁ ⟨a, b, c, e, rfl, h1, h2⟩
  refine wB_ok _ _ _ _ ?_
  dsimp only [Z1i, Z28, Z1r, Z23, Z26, Z1g, Z1b, Z21, Z1z, Z1y, Z1q, Z1e, Z1s, Z1c, Z1k, Z24, Z1f, Z1d, Z27, Z1u, Z1h, Z0z, Z6, Z7, Z5, Z4, Z0v, Z0u, Z0w, Z11, Z0x, Z10, Z0y, Z0j, Z0i, Zh, Zg, Ze, Zd, Zf, Z19, Z1a, Z13, Z14, Z18, Z17, Z16, Z15, Z0k, Z0l, Z0m, Z0n, Z0o, Z0p, Z0q, Z0r, Z0t, Z0s, w_add_str, w_add_int, w_add_ref, Z25, Z1x, Z1w, Z1j, Z22, w_eq_str, w_ne_str, w_eq_int, w_ne_int, w_eq_ref, Z1o, Z1p, Z1v, Z1t, Z1m, Z1l, Z1n, Z20, b_and_t, b_and_f, b_or_t, b_or_f, b_not_t, b_not_f, Z1, Z0, Z2, Z3, Z9, Zc, Zb, Z8, Za, Nat.reduceBEq, Int.reduceBEq, Int.reduceAdd, Int.reduceSub, Int.reduceNeg, Option.getD_some, Option.getD_none]
  obtain ⟨z, rfl⟩ : ∃ z, m = z + 2 := ⟨m - 2, by omega⟩
  refine (braced_ok (N := 33) (M := 565) h1 (fun rp hr => ?_) (by rw [h.len]; omega) (by omega)).mono ?_
  · obtain ⟨c', hc⟩ := h.right rp hr
    exact hc.rows
  · rintro _ σ₂ ⟨rfl, g⟩
    exact ⟨rfl, h2.trans g⟩
end Mine
end

section
open PySem
namespace Mine
/-- the rows of a block, without its braces -/
theorem brace_mid {R : List (List Nat)} : cutOf ((braceR R).map D.str) (some 1) (some (-1)) = (R.map fun r => 9 :: r).map D.str := by
  unfold braceR
  split
  · rename_i h
    subst h
    rfl
  · rw [List.map_append, List.map_append]
    exact cut_mid (x := .str [123]) (y := .str [125]) (l := (R.map fun r => 9 :: r).map D.str)
theorem on_head {q : Nat} {b : Bool} {text : List Nat} {l : List D} {σ : Sto} {K : D → Sto → Prop} (hq : σ[q]? = some l) (hl : l.length < sizeCap) (ht : text.length ≤ 5) (hK : K .none (σ.set q (l ++ [.str (9 :: headC b text)]))) :
    OnBool (.bool b) (RunO (opAppend (.ref q) (.str [9, 100, 101, 102, 97, 117, 108, 116, 58]) σ) K) ([9, 99, 97, 115, 101, 32].length + text.length ≤ sizeCap ∧ ([9, 99, 97, 115, 101, 32] ++ text).length + [58].length ≤ sizeCap ∧ RunO (opAppend (.ref q) (.str ([9, 99, 97, 115, 101, 32] ++ text ++ [58])) σ) K) := by
  cases b with
  | true =>
    dsimp only [Z1i, Z28, Z1r, Z23, Z26, Z1g, Z1b, Z21, Z1z, Z1y, Z1q, Z1e, Z1s, Z1c, Z1k, Z24, Z1f, Z1d, Z27, Z1u, Z1h, Z0z, Z6, Z7, Z5, Z4, Z0v, Z0u, Z0w, Z11, Z0x, Z10, Z0y, Z0j, Z0i, Zh, Zg, Ze, Zd, Zf, Z19, Z1a, Z13, Z14, Z18, Z17, Z16, Z15, Z0k, Z0l, Z0m, Z0n, Z0o, Z0p, Z0q, Z0r, Z0t, Z0s, w_add_str, w_add_int, w_add_ref, Z25, Z1x, Z1w, Z1j, Z22, w_eq_str, w_ne_str, w_eq_int, w_ne_int, w_eq_ref, Z1o, Z1p, Z1v, Z1t, Z1m, Z1l, Z1n, Z20, b_and_t, b_and_f, b_or_t, b_or_f, b_not_t, b_not_f, Z1, Z0, Z2, Z3, Z9, Zc, Zb, Z8, Za, Nat.reduceBEq, Int.reduceBEq, Int.reduceAdd, Int.reduceSub, Int.reduceNeg, Option.getD_some, Option.getD_none]
    rw [run_append_ref hq hl]
    exact hK
  | false =>
    dsimp only [Z1i, Z28, Z1r, Z23, Z26, Z1g, Z1b, Z21, Z1z, Z1y, Z1q, Z1e, Z1s, Z1c, Z1k, Z24, Z1f, Z1d, Z27, Z1u, Z1h, Z0z, Z6, Z7, Z5, Z4, Z0v, Z0u, Z0w, Z11, Z0x, Z10, Z0y, Z0j, Z0i, Zh, Zg, Ze, Zd, Zf, Z19, Z1a, Z13, Z14, Z18, Z17, Z16, Z15, Z0k, Z0l, Z0m, Z0n, Z0o, Z0p, Z0q, Z0r, Z0t, Z0s, w_add_str, w_add_int, w_add_ref, Z25, Z1x, Z1w, Z1j, Z22, w_eq_str, w_ne_str, w_eq_int, w_ne_int, w_eq_ref, Z1o, Z1p, Z1v, Z1t, Z1m, Z1l, Z1n, Z20, b_and_t, b_and_f, b_or_t, b_or_f, b_not_t, b_not_f, Z1, Z0, Z2, Z3, Z9, Zc, Zb, Z8, Za, Nat.reduceBEq, Int.reduceBEq, Int.reduceAdd, Int.reduceSub, Int.reduceNeg, Option.getD_some, Option.getD_none]
    rw [run_append_ref hq hl]
    exact ⟨by first | (apply cap2; (case h1 => repeat' first | assumption | apply app_le | apply nil_le | apply cons_le); (case h2 => repeat' first | assumption | apply app_le | apply nil_le | apply cons_le); decide) | (apply cap1; (case h1 => repeat' first | assumption | apply app_le | apply nil_le | apply cons_le); decide) | (simp [sizeCap]; omega) | (unfold sizeCap; omega), by first | (apply cap2; (case h1 => repeat' first | assumption | apply app_le | apply nil_le | apply cons_le); (case h2 => repeat' first | assumption | apply app_le | apply nil_le | apply cons_le); decide) | (apply cap1; (case h1 => repeat' first | assumption | apply app_le | apply nil_le | apply cons_le); decide) | (simp [sizeCap]; omega) | (unfold sizeCap; omega), hK⟩

noncomputable def CasesGen (src : Nat) (σ : Sto) (d : D) (σ' : Sto) : Prop := ∃ q cs rps r, d = .tup [.ref q, .ref r] ∧ σ'[q]? = some cs ∧ All2 CaseOK cs rps ∧ cs.length ≤ 3 ∧ σ'[r]? = some ((braceR rps.flatten).map D.str) ∧ Go src σ σ'
theorem cases_gen {src n : Nat} {σ : Sto} (hn : 40 ≤ n) (hs : Src src σ) : RunO (C2 n 32 [.ref src] σ) (CasesGen src σ) := by
  obtain ⟨m, rfl⟩ : ∃ m, n = m + 1 := ⟨n - 1, by omega⟩
  have hm : 39 ≤ m := by omega
  have hsl : src < σ.length := by
    obtain ⟨g, c, h, _⟩ := hs
    exact get_lt h
  have g0 : Go src σ (σ ++ [[]] ++ [[]]) := Go.ext hs (Gs.app.trans Gs.app)
  have hp0 : (σ ++ [[]] ++ [[]])[σ.length]? = some [] := by simp [List.getElem?_append]
  have hq0 : (σ ++ [[]] ++ [[]])[(σ ++ [[]]).length]? = some [] := get_new
  have hqn : (σ ++ [[]]).length = σ.length + 1 := by simp
  refine call_fx (fd := G2_32) (ve := [some _, none, none, none, none, none, none, none]) rfl rfl ?_
  unfold G2_32
  refine seq_ok (fun ve σ' => ve = [some (.ref src), some (.ref σ.length), some (.ref (σ ++ [[]]).length), none, none, none, none, none] ∧ σ ++ [[]] ++ [[]] = σ') (by dsimp only [Z1i, Z28, Z1r, Z23, Z26, Z1g, Z1b, Z21, Z1z, Z1y, Z1q, Z1e, Z1s, Z1c, Z1k, Z24, Z1f, Z1d, Z27, Z1u, Z1h, Z0z, Z6, Z7, Z5, Z4, Z0v, Z0u, Z0w, Z11, Z0x, Z10, Z0y, Z0j, Z0i, Zh, Zg, Ze, Zd, Zf, Z19, Z1a, Z13, Z14, Z18, Z17, Z16, Z15, Z0k, Z0l, Z0m, Z0n, Z0o, Z0p, Z0q, Z0r, Z0t, Z0s, w_add_str, w_add_int, w_add_ref, Z25, Z1x, Z1w, Z1j, Z22, w_eq_str, w_ne_str, w_eq_int, w_ne_int, w_eq_ref, Z1o, Z1p, Z1v, Z1t, Z1m, Z1l, Z1n, Z20, b_and_t, b_and_f, b_or_t, b_or_f, b_not_t, b_not_f, Z1, Z0, Z2, Z3, Z9, Zc, Zb, Z8, Za, Nat.reduceBEq, Int.reduceBEq, Int.reduceAdd, Int.reduceSub, Int.reduceNeg, Option.getD_some, Option.getD_none]; exact ⟨rfl, rfl, rfl⟩) ?_
  rintro _ _ ⟨rfl, rfl⟩
  generalize (σ ++ [[]]).length = q at *
  generalize hpp : σ.length = p at *
  have nsp : p ≠ src := Nat.ne_of_gt hsl
  have nsq : q ≠ src := by omega
  have npq : p ≠ q := by omega
  have hσp : σ.length ≤ p := Nat.le_of_eq hpp
  have hσq : σ.length ≤ q := by omega
  generalize σ ++ [[]] ++ [[]] = σ₀ at *
  have hnum : ∀ {cs : List D} {rps : List (List (List Nat))}, All2 CaseOK cs rps → cs.length ≤ 3 → rps.flatten.length ≤ 3 * 33 := by
    intro cs rps h hl
    have h1 := flat_num (fun y hy => by obtain ⟨c, hc⟩ := h.right y hy; exact hc.rows.num)
    exact Nat.le_trans h1 (Nat.mul_le_mul (by rw [h.len]; exact hl) (Nat.le_refl _))
  refine seq_ok (fun ve σ' => ∃ a b c d e cs rps, ve = [some (.ref src), some (.ref p), some (.ref q), a, b, c, d, e] ∧ σ'[p]? = some cs ∧ σ'[q]? = some ((rps.flatten.map fun r => 9 :: r).map D.str) ∧ cs.length ≤ 3 ∧ All2 CaseOK cs rps ∧ Go src σ σ') ?_ ?_
  · dsimp only [Z1i, Z28, Z1r, Z23, Z26, Z1g, Z1b, Z21, Z1z, Z1y, Z1q, Z1e, Z1s, Z1c, Z1k, Z24, Z1f, Z1d, Z27, Z1u, Z1h, Z0z, Z6, Z7, Z5, Z4, Z0v, Z0u, Z0w, Z11, Z0x, Z10, Z0y, Z0j, Z0i, Zh, Zg, Ze, Zd, Zf, Z19, Z1a, Z13, Z14, Z18, Z17, Z16, Z15, Z0k, Z0l, Z0m, Z0n, Z0o, Z0p, Z0q, Z0r, Z0t, Z0s, w_add_str, w_add_int, w_add_ref, Z25, Z1x, Z1w, Z1j, Z22, w_eq_str, w_ne_str, w_eq_int, w_ne_int, w_eq_ref, Z1o, Z1p, Z1v, Z1t, Z1m, Z1l, Z1n, Z20, b_and_t, b_and_f, b_or_t, b_or_f, b_not_t, b_not_f, Z1, Z0, Z2, Z3, Z9, Zc, Zb, Z8, Za, Nat.reduceBEq, Int.reduceBEq, Int.reduceAdd, Int.reduceSub, Int.reduceNeg, Option.getD_some, Option.getD_none]
    refine (take_ok (Nat.le_trans (by decide) hm) g0.2 (by decide) (by decide)).mono ?_
    rintro _ σ₁ ⟨t, rfl, t0, t1, g1⟩
    rw [range_int]
    refine ⟨⟨t0, by omega⟩, _, rng_items (by omega), ?_⟩
    have hlen : ((List.range t.toNat).map fun (i : Nat) => D.int i).length ≤ 3 := by simp; omega
    generalize (List.range t.toNat).map (fun (i : Nat) => D.int i) = all at hlen ⊢
    refine RunX.mono (floop_ok (Inv := fun i ve σ' => ∃ a b c d e cs rps, ve = [some (.ref src), some (.ref p), some (.ref q), a, b, c, d, e] ∧ σ'[p]? = some cs ∧ σ'[q]? = some ((rps.flatten.map fun r => 9 :: r).map D.str) ∧ cs.length = i ∧ All2 CaseOK cs rps ∧ Go src σ σ') (fun _ => rfl) ?_ all 0 _ σ₁ (fun _ h => h) (by simp) ?_) ?_
    · rintro i x ve σ₂ hi - ⟨a, b, c, d, e, cs, rps, rfl, hp, hq, hci, hall, g2⟩
      have hpl := get_lt hp
      have hql := get_lt hq
      refine runV_of ?_
      dsimp only [Z1i, Z28, Z1r, Z23, Z26, Z1g, Z1b, Z21, Z1z, Z1y, Z1q, Z1e, Z1s, Z1c, Z1k, Z24, Z1f, Z1d, Z27, Z1u, Z1h, Z0z, Z6, Z7, Z5, Z4, Z0v, Z0u, Z0w, Z11, Z0x, Z10, Z0y, Z0j, Z0i, Zh, Zg, Ze, Zd, Zf, Z19, Z1a, Z13, Z14, Z18, Z17, Z16, Z15, Z0k, Z0l, Z0m, Z0n, Z0o, Z0p, Z0q, Z0r, Z0t, Z0s, w_add_str, w_add_int, w_add_ref, Z25, Z1x, Z1w, Z1j, Z22, w_eq_str, w_ne_str, w_eq_int, w_ne_int, w_eq_ref, Z1o, Z1p, Z1v, Z1t, Z1m, Z1l, Z1n, Z20, b_and_t, b_and_f, b_or_t, b_or_f, b_not_t, b_not_f, Z1, Z0, Z2, Z3, Z9, Zc, Zb, Z8, Za, Nat.reduceBEq, Int.reduceBEq, Int.reduceAdd, Int.reduceSub, Int.reduceNeg, Option.getD_some, Option.getD_none]
      refine wB_ok _ _ _ _ ?_
      dsimp only [Z1i, Z28, Z1r, Z23, Z26, Z1g, Z1b, Z21, Z1z, Z1y, Z1q, Z1e, Z1s, Z1c, Z1k, Z24, Z1f, Z1d, Z27, Z1u, Z1h, Z0z, Z6, Z7, Z5, Z4, Z0v, Z0u, Z0w, Z11, Z0x, Z10, Z0y, Z0j, Z0i, Zh, Zg, Ze, Zd, Zf, Z19, Z1a, Z13, Z14, Z18, Z17, Z16, Z15, Z0k, Z0l, Z0m, Z0n, Z0o, Z0p, Z0q, Z0r, Z0t, Z0s, w_add_str, w_add_int, w_add_ref, Z25, Z1x, Z1w, Z1j, Z22, w_eq_str, w_ne_str, w_eq_int, w_ne_int, w_eq_ref, Z1o, Z1p, Z1v, Z1t, Z1m, Z1l, Z1n, Z20, b_and_t, b_and_f, b_or_t, b_or_f, b_not_t, b_not_f, Z1, Z0, Z2, Z3, Z9, Zc, Zb, Z8, Za, Nat.reduceBEq, Int.reduceBEq, Int.reduceAdd, Int.reduceSub, Int.reduceNeg, Option.getD_some, Option.getD_none]
      refine (expr_gen (Nat.le_trans (by decide) hm) g2.2).mono ?_
      rintro _ σ₃ ⟨ex, text, rfl, hex, g3⟩
      dsimp only [Z1i, Z28, Z1r, Z23, Z26, Z1g, Z1b, Z21, Z1z, Z1y, Z1q, Z1e, Z1s, Z1c, Z1k, Z24, Z1f, Z1d, Z27, Z1u, Z1h, Z0z, Z6, Z7, Z5, Z4, Z0v, Z0u, Z0w, Z11, Z0x, Z10, Z0y, Z0j, Z0i, Zh, Zg, Ze, Zd, Zf, Z19, Z1a, Z13, Z14, Z18, Z17, Z16, Z15, Z0k, Z0l, Z0m, Z0n, Z0o, Z0p, Z0q, Z0r, Z0t, Z0s, w_add_str, w_add_int, w_add_ref, Z25, Z1x, Z1w, Z1j, Z22, w_eq_str, w_ne_str, w_eq_int, w_ne_int, w_eq_ref, Z1o, Z1p, Z1v, Z1t, Z1m, Z1l, Z1n, Z20, b_and_t, b_and_f, b_or_t, b_or_f, b_not_t, b_not_f, Z1, Z0, Z2, Z3, Z9, Zc, Zb, Z8, Za, Nat.reduceBEq, Int.reduceBEq, Int.reduceAdd, Int.reduceSub, Int.reduceNeg, Option.getD_some, Option.getD_none]
      refine (take_ok (Nat.le_trans (by decide) hm) g3.2 (by decide) (by decide)).mono ?_
      rintro _ σ₄ ⟨u, rfl, u0, u1, g4⟩
      dsimp only [Z1i, Z28, Z1r, Z23, Z26, Z1g, Z1b, Z21, Z1z, Z1y, Z1q, Z1e, Z1s, Z1c, Z1k, Z24, Z1f, Z1d, Z27, Z1u, Z1h, Z0z, Z6, Z7, Z5, Z4, Z0v, Z0u, Z0w, Z11, Z0x, Z10, Z0y, Z0j, Z0i, Zh, Zg, Ze, Zd, Zf, Z19, Z1a, Z13, Z14, Z18, Z17, Z16, Z15, Z0k, Z0l, Z0m, Z0n, Z0o, Z0p, Z0q, Z0r, Z0t, Z0s, w_add_str, w_add_int, w_add_ref, Z25, Z1x, Z1w, Z1j, Z22, w_eq_str, w_ne_str, w_eq_int, w_ne_int, w_eq_ref, Z1o, Z1p, Z1v, Z1t, Z1m, Z1l, Z1n, Z20, b_and_t, b_and_f, b_or_t, b_or_f, b_not_t, b_not_f, Z1, Z0, Z2, Z3, Z9, Zc, Zb, Z8, Za, Nat.reduceBEq, Int.reduceBEq, Int.reduceAdd, Int.reduceSub, Int.reduceNeg, Option.getD_some, Option.getD_none]
      generalize (u == 0) = b'
      refine (blk1 m σ₄ (Nat.le_trans (by decide) hm) g4.2).mono ?_
      rintro y σ₅ hy
      obtain ⟨trees, rowss, r, rfl, b1, b2, b3, b4, b5, g5, b6⟩ := blk_use (by decide) hy
      have g25 := (g3.trans g4).trans g5
      have hp5 := g25.at hp nsp
      have hq5 := g25.at hq nsq
      dsimp only [Z1i, Z28, Z1r, Z23, Z26, Z1g, Z1b, Z21, Z1z, Z1y, Z1q, Z1e, Z1s, Z1c, Z1k, Z24, Z1f, Z1d, Z27, Z1u, Z1h, Z0z, Z6, Z7, Z5, Z4, Z0v, Z0u, Z0w, Z11, Z0x, Z10, Z0y, Z0j, Z0i, Zh, Zg, Ze, Zd, Zf, Z19, Z1a, Z13, Z14, Z18, Z17, Z16, Z15, Z0k, Z0l, Z0m, Z0n, Z0o, Z0p, Z0q, Z0r, Z0t, Z0s, w_add_str, w_add_int, w_add_ref, Z25, Z1x, Z1w, Z1j, Z22, w_eq_str, w_ne_str, w_eq_int, w_ne_int, w_eq_ref, Z1o, Z1p, Z1v, Z1t, Z1m, Z1l, Z1n, Z20, b_and_t, b_and_f, b_or_t, b_or_f, b_not_t, b_not_f, Z1, Z0, Z2, Z3, Z9, Zc, Zb, Z8, Za, Nat.reduceBEq, Int.reduceBEq, Int.reduceAdd, Int.reduceSub, Int.reduceNeg, Option.getD_some, Option.getD_none]
      have hcase : CaseOK (.tup [.str text, .bool b', .tup trees]) (headC b' text :: rowss.flatten.map fun r => 9 :: r) := ⟨text, b', trees, rowss, rfl, b1, b2, hex.len, hex.row, rfl⟩
      rw [run_append_ref hp5 (by first | (apply cap2; (case h1 => repeat' first | assumption | apply app_le | apply nil_le | apply cons_le); (case h2 => repeat' first | assumption | apply app_le | apply nil_le | apply cons_le); decide) | (apply cap1; (case h1 => repeat' first | assumption | apply app_le | apply nil_le | apply cons_le); decide) | (simp [sizeCap]; omega) | (unfold sizeCap; omega))]
      have hp6 : (σ₅.set p (cs ++ [.tup [.str text, .bool b', .tup trees]]))[p]? = some (cs ++ [.tup [.str text, .bool b', .tup trees]]) := List.getElem?_set_self (get_lt hp5)
      have hq6 : (σ₅.set p (cs ++ [.tup [.str text, .bool b', .tup trees]]))[q]? = some ((rps.flatten.map fun r => 9 :: r).map D.str) := by rw [List.getElem?_set_ne npq]; exact hq5
      have hr6 : (σ₅.set p (cs ++ [.tup [.str text, .bool b', .tup trees]]))[r]? = some ((braceR rowss.flatten).map D.str) := by rw [List.getElem?_set_ne (Nat.ne_of_lt (Nat.lt_of_lt_of_le hpl (Nat.le_trans (g3.trans g4).1.1 b6)))]; exact b5
      have g6 : Go src σ (σ₅.set p (cs ++ [.tup [.str text, .bool b', .tup trees]])) := (g2.trans g25).setNew hσp nsp
      have hrq : q < r := Nat.lt_of_lt_of_le hql (Nat.le_trans (g3.trans g4).1.1 b6)
      generalize σ₅.set p (cs ++ [.tup [.str text, .bool b', .tup trees]]) = σ₆ at *
      have hcl := hnum hall (by rw [hci]; exact Nat.le_trans (Nat.le_of_lt hi) hlen)
      have hex1 := hex.len
      refine on_head hq6 (by rw [List.length_map, List.length_map]; exact Nat.lt_of_le_of_lt hcl (by decide)) hex1 ?_
      have hr7 : (σ₆.set q ((rps.flatten.map fun r => 9 :: r).map D.str ++ [.str (9 :: headC b' text)]))[r]? = some ((braceR rowss.flatten).map D.str) := by rw [List.getElem?_set_ne (Nat.ne_of_lt hrq)]; exact hr6
      have hp7 : (σ₆.set q ((rps.flatten.map fun r => 9 :: r).map D.str ++ [.str (9 :: headC b' text)]))[p]? = some (cs ++ [.tup [.str text, .bool b', .tup trees]]) := by rw [List.getElem?_set_ne npq.symm]; exact hp6
      have hq7 : (σ₆.set q ((rps.flatten.map fun r => 9 :: r).map D.str ++ [.str (9 :: headC b' text)]))[q]? = some ((rps.flatten.map fun r => 9 :: r).map D.str ++ [.str (9 :: headC b' text)]) := List.getElem?_set_self (get_lt hq6)
      have g7 : Go src σ (σ₆.set q ((rps.flatten.map fun r => 9 :: r).map D.str ++ [.str (9 :: headC b' text)])) := g6.setNew hσq nsq
      generalize σ₆.set q ((rps.flatten.map fun r => 9 :: r).map D.str ++ [.str (9 :: headC b' text)]) = σ₇ at *
      have hbn := b3.num
      refine slice_ref hr7 (by rw [List.length_map]; exact Nat.le_trans hbn (by decide)) ?_
      rw [brace_mid]
      have hN : (σ₇ ++ [(rowss.flatten.map fun r => 9 :: r).map D.str])[σ₇.length]? = some ((rowss.flatten.map fun r => 9 :: r).map D.str) := get_new
      have gN : Gs [] σ₇ (σ₇ ++ [(rowss.flatten.map fun r => 9 :: r).map D.str]) := Gs.app
      generalize σ₇ ++ [(rowss.flatten.map fun r => 9 :: r).map D.str] = σ₈ at *
      have hcr := hcase.rows
      have hcn := hcr.num
      rw [List.length_cons, List.length_map] at hcn
      refine ⟨_, hN, ?_⟩
      refine tabs_ok hN (by rw [List.length_map]; exact Nat.le_trans (Nat.le_of_succ_le hcn) (by decide)) (fun r hr => Nat.le_trans (hcr.len r (List.mem_cons_of_mem _ hr)) (by decide)) fun σ₉ h9 g9 => ?_
      have hp9 := g9.get (gN.get hp7)
      have hq9 := g9.get (gN.get hq7)
      have hl8 := gN.1
      have hql7 := get_lt hq7
      rw [run_extend_ref hq9 h9 (Nat.ne_of_lt (Nat.lt_of_lt_of_le hql7 hl8)) (by rw [List.length_append, List.length_map, List.length_map, List.length_map, List.length_map, List.length_map]; exact Nat.lt_of_le_of_lt (Nat.add_le_add (Nat.add_le_add_right hcl _) (Nat.le_of_succ_le hcn)) (show 3 * 33 + 1 + 33 < sizeCap by decide))]
      refine ⟨rfl, _, _, _, _, _, cs ++ [.tup [.str text, .bool b', .tup trees]], rps ++ [headC b' text :: rowss.flatten.map fun r => 9 :: r], rfl, ?_, ?_, by simp [hci], hall.snoc hcase, (g7.trans (Go.ext g7.2 (gN.trans g9))).setNew hσq nsq⟩
      · rw [List.getElem?_set_ne npq.symm]; exact hp9
      · rw [List.getElem?_set_self (get_lt hq9)]
        simp
    · exact ⟨_, _, _, _, _, [], [], rfl, g1.at hp0 nsp, g1.at hq0 nsq, rfl, rfl, g0.trans g1⟩
    · rintro r ve σ₂ ⟨rfl, a, b, c, d, e, cs, rps, rfl, hp, hq, hci, hall, g2⟩
      exact ⟨rfl, a, b, c, d, e, cs, rps, rfl, hp, hq, by rw [hci]; exact hlen, hall, g2⟩
  rintro _ σ₁ ⟨a, b, c, d, e, cs, rps, rfl, hp, hq, hcl, hall, g1⟩
  refine wB_ok _ _ _ _ ?_
  dsimp only [Z1i, Z28, Z1r, Z23, Z26, Z1g, Z1b, Z21, Z1z, Z1y, Z1q, Z1e, Z1s, Z1c, Z1k, Z24, Z1f, Z1d, Z27, Z1u, Z1h, Z0z, Z6, Z7, Z5, Z4, Z0v, Z0u, Z0w, Z11, Z0x, Z10, Z0y, Z0j, Z0i, Zh, Zg, Ze, Zd, Zf, Z19, Z1a, Z13, Z14, Z18, Z17, Z16, Z15, Z0k, Z0l, Z0m, Z0n, Z0o, Z0p, Z0q, Z0r, Z0t, Z0s, w_add_str, w_add_int, w_add_ref, Z25, Z1x, Z1w, Z1j, Z22, w_eq_str, w_ne_str, w_eq_int, w_ne_int, w_eq_ref, Z1o, Z1p, Z1v, Z1t, Z1m, Z1l, Z1n, Z20, b_and_t, b_and_f, b_or_t, b_or_f, b_not_t, b_not_f, Z1, Z0, Z2, Z3, Z9, Zc, Zb, Z8, Za, Nat.reduceBEq, Int.reduceBEq, Int.reduceAdd, Int.reduceSub, Int.reduceNeg, Option.getD_some, Option.getD_none]
  have hn3 := hnum hall hcl
  refine brace_new hq (Nat.le_trans hn3 (by decide)) fun r σ₃ h1 g3 h2 => ?_
  exact ⟨p, cs, rps, r, rfl, g3.get hp, hall, hcl, h1, g1.trans (Go.ext g1.2 g3)⟩
end Mine
end

section
open PySem
namespace Mine
theorem seq_ret {T : List (List Nat × Int)} {C : CallT} {st : PS} {rest : PSs} {ve : VEnv} {σ : Sto} {P : Option D → VEnv → Sto → Prop}
    (h1 : wS T C st ve σ fun r ve₁ σ₁ => ∃ d, r = some d ∧ P (some d) ve₁ σ₁) : RunX (pexecs T C (.cons st rest) ve σ) P := by
  rw [runB_cons]
  refine RunX.mono (wS_ok _ _ _ _ h1) ?_
  rintro r ve₁ σ₁ ⟨d, rfl, h⟩
  exact h
theorem eq_tup0 {l : List D} {σ : Sto} {Q : Bool → Prop} (h : Q l.isEmpty) : RunM (opCmp .eq (.tup l) (.tup []) σ) Q := by
  show RunM (if l.isEmpty then some ([] : List D).isEmpty else if ([] : List D).isEmpty then some false else none) Q
  cases hl : l.isEmpty with
  | true => rw [hl] at h; exact h
  | false => rw [hl] at h; exact h

theorem ne_nil {σ : Sto} {Q : Bool → Prop} : wCmp .ne (.tup []) (.tup []) σ Q = Q false := rfl
noncomputable def tD : D := .tup [.str [110, 97, 109, 101], .int 4, .none, .str [84]]
theorem type_ptr {m : Nat} {i : Int} : Txt (m + 2) 0 [.tup [.str [112, 116, 114], .int i, tD]] [42, 84] := by
  intro σ
  refine call_fn (fd := G2_0) (ve := [some _, none, none]) rfl rfl ?_
  unfold G2_0
  dsimp only [Z1i, Z28, Z1r, Z23, Z26, Z1g, Z1b, Z21, Z1z, Z1y, Z1q, Z1e, Z1s, Z1c, Z1k, Z24, Z1f, Z1d, Z27, Z1u, Z1h, Z0z, Z6, Z7, Z5, Z4, Z0v, Z0u, Z0w, Z11, Z0x, Z10, Z0y, Z0j, Z0i, Zh, Zg, Ze, Zd, Zf, Z19, Z1a, Z13, Z14, Z18, Z17, Z16, Z15, Z0k, Z0l, Z0m, Z0n, Z0o, Z0p, Z0q, Z0r, Z0t, Z0s, w_add_str, w_add_int, w_add_ref, Z25, Z1x, Z1w, Z1j, Z22, w_eq_str, w_ne_str, w_eq_int, w_ne_int, w_eq_ref, Z1o, Z1p, Z1v, Z1t, Z1m, Z1l, Z1n, Z20, b_and_t, b_and_f, b_or_t, b_or_f, b_not_t, b_not_f, Z1, Z0, Z2, Z3, Z9, Zc, Zb, Z8, Za, Nat.reduceBEq, Int.reduceBEq, Int.reduceAdd, Int.reduceSub, Int.reduceNeg, Option.getD_some, Option.getD_none]
  refine (type_name (m := m) σ).mono ?_
  rintro _ σ₁ ⟨rfl, g⟩
  dsimp only [Z1i, Z28, Z1r, Z23, Z26, Z1g, Z1b, Z21, Z1z, Z1y, Z1q, Z1e, Z1s, Z1c, Z1k, Z24, Z1f, Z1d, Z27, Z1u, Z1h, Z0z, Z6, Z7, Z5, Z4, Z0v, Z0u, Z0w, Z11, Z0x, Z10, Z0y, Z0j, Z0i, Zh, Zg, Ze, Zd, Zf, Z19, Z1a, Z13, Z14, Z18, Z17, Z16, Z15, Z0k, Z0l, Z0m, Z0n, Z0o, Z0p, Z0q, Z0r, Z0t, Z0s, w_add_str, w_add_int, w_add_ref, Z25, Z1x, Z1w, Z1j, Z22, w_eq_str, w_ne_str, w_eq_int, w_ne_int, w_eq_ref, Z1o, Z1p, Z1v, Z1t, Z1m, Z1l, Z1n, Z20, b_and_t, b_and_f, b_or_t, b_or_f, b_not_t, b_not_f, Z1, Z0, Z2, Z3, Z9, Zc, Zb, Z8, Za, Nat.reduceBEq, Int.reduceBEq, Int.reduceAdd, Int.reduceSub, Int.reduceNeg, Option.getD_some, Option.getD_none]
  exact ⟨by decide, rfl, g⟩

/-- a type and values beside what stands behind the names -/
noncomputable def RowF (told values : D) (t : List Nat) : Prop := (told = .none ∧ ∃ x, Exs values x ∧ t = [32, 61, 32] ++ x) ∨ (told = tD ∧ ∃ x, Exs values x ∧ t = [32, 84, 32, 61, 32] ++ x) ∨ (told = tD ∧ values = .tup [] ∧ t = [32, 84])
theorem RowF.len {told values : D} {t : List Nat} (h : RowF told values t) : t.length ≤ 20 ∧ 10 ∉ t := by
  rcases h with ⟨_, x, h, rfl⟩ | ⟨_, x, h, rfl⟩ | ⟨_, _, rfl⟩
  · have := h.len
    have := h.row
    exact ⟨by simp; omega, by simp [this]⟩
  · have := h.len
    have := h.row
    exact ⟨by simp; omega, by simp [this]⟩
  · exact ⟨by decide, by decide⟩
theorem row_ok {m : Nat} {xs : List (List Nat)} {told values : D} {t : List Nat} (h : RowF told values t) (hm : 60 ≤ m) (hx : (joinL [44, 32] xs).length ≤ 10) : Txt (m + 1) 16 [.tup (xs.map D.str), told, values] (joinL [44, 32] xs ++ t) := by
  intro σ
  obtain ⟨z, rfl⟩ : ∃ z, m = z + 1 := ⟨m - 1, by omega⟩
  have hty : Txt (z + 1) 0 [tD] [84] := type_name
  refine call_fx (fd := G2_16) (ve := [some _, some _, some _, none]) rfl rfl ?_
  unfold G2_16
  have ex : ∀ (pre : List Nat) (σ₁ : Sto) (x : List Nat), Exs values x → pre.length ≤ 20 → Gs [] σ σ₁ →
      wB ops2 (C2 (z + 1)) (.cons (.ret (.bin .add (.var 3) (.ite (.cmp .ne (.var 2) (.tup .nil)) (.bin .add (.const (.str [32, 61, 32])) (.call 3 (.cons (.var 2) .nil))) (.const (.str []))))) .nil) [some (.tup (xs.map D.str)), some told, some values, some (.str pre)] σ₁ fun r _ σ' => r.getD .none = .str (pre ++ ([32, 61, 32] ++ x)) ∧ Gs [] σ σ' := by
    intro pre σ₁ x hx hp g
    obtain ⟨l, rfl, hl⟩ := hx.some
    have hxl := hx.len
    dsimp only [Z1i, Z28, Z1r, Z23, Z26, Z1g, Z1b, Z21, Z1z, Z1y, Z1q, Z1e, Z1s, Z1c, Z1k, Z24, Z1f, Z1d, Z27, Z1u, Z1h, Z0z, Z6, Z7, Z5, Z4, Z0v, Z0u, Z0w, Z11, Z0x, Z10, Z0y, Z0j, Z0i, Zh, Zg, Ze, Zd, Zf, Z19, Z1a, Z13, Z14, Z18, Z17, Z16, Z15, Z0k, Z0l, Z0m, Z0n, Z0o, Z0p, Z0q, Z0r, Z0t, Z0s, w_add_str, w_add_int, w_add_ref, Z25, Z1x, Z1w, Z1j, Z22, w_eq_str, w_ne_str, w_eq_int, w_ne_int, w_eq_ref, Z1o, Z1p, Z1v, Z1t, Z1m, Z1l, Z1n, Z20, b_and_t, b_and_f, b_or_t, b_or_f, b_not_t, b_not_f, Z1, Z0, Z2, Z3, Z9, Zc, Zb, Z8, Za, Nat.reduceBEq, Int.reduceBEq, Int.reduceAdd, Int.reduceSub, Int.reduceNeg, Option.getD_some, Option.getD_none]
    refine eq_tup0 ?_
    have : l.isEmpty = false := by cases l with | nil => exact absurd rfl hl | cons => rfl
    rw [this]
    dsimp only [Z1i, Z28, Z1r, Z23, Z26, Z1g, Z1b, Z21, Z1z, Z1y, Z1q, Z1e, Z1s, Z1c, Z1k, Z24, Z1f, Z1d, Z27, Z1u, Z1h, Z0z, Z6, Z7, Z5, Z4, Z0v, Z0u, Z0w, Z11, Z0x, Z10, Z0y, Z0j, Z0i, Zh, Zg, Ze, Zd, Zf, Z19, Z1a, Z13, Z14, Z18, Z17, Z16, Z15, Z0k, Z0l, Z0m, Z0n, Z0o, Z0p, Z0q, Z0r, Z0t, Z0s, w_add_str, w_add_int, w_add_ref, Z25, Z1x, Z1w, Z1j, Z22, w_eq_str, w_ne_str, w_eq_int, w_ne_int, w_eq_ref, Z1o, Z1p, Z1v, Z1t, Z1m, Z1l, Z1n, Z20, b_and_t, b_and_f, b_or_t, b_or_f, b_not_t, b_not_f, Z1, Z0, Z2, Z3, Z9, Zc, Zb, Z8, Za, Nat.reduceBEq, Int.reduceBEq, Int.reduceAdd, Int.reduceSub, Int.reduceNeg, Option.getD_some, Option.getD_none]
    refine (exprs_d (hx.run (z + 1) false (by omega)) σ₁).mono ?_
    rintro _ σ₂ ⟨rfl, g2⟩
    dsimp only [Z1i, Z28, Z1r, Z23, Z26, Z1g, Z1b, Z21, Z1z, Z1y, Z1q, Z1e, Z1s, Z1c, Z1k, Z24, Z1f, Z1d, Z27, Z1u, Z1h, Z0z, Z6, Z7, Z5, Z4, Z0v, Z0u, Z0w, Z11, Z0x, Z10, Z0y, Z0j, Z0i, Zh, Zg, Ze, Zd, Zf, Z19, Z1a, Z13, Z14, Z18, Z17, Z16, Z15, Z0k, Z0l, Z0m, Z0n, Z0o, Z0p, Z0q, Z0r, Z0t, Z0s, w_add_str, w_add_int, w_add_ref, Z25, Z1x, Z1w, Z1j, Z22, w_eq_str, w_ne_str, w_eq_int, w_ne_int, w_eq_ref, Z1o, Z1p, Z1v, Z1t, Z1m, Z1l, Z1n, Z20, b_and_t, b_and_f, b_or_t, b_or_f, b_not_t, b_not_f, Z1, Z0, Z2, Z3, Z9, Zc, Zb, Z8, Za, Nat.reduceBEq, Int.reduceBEq, Int.reduceAdd, Int.reduceSub, Int.reduceNeg, Option.getD_some, Option.getD_none]
    exact ⟨by first | (apply cap2; (case h1 => repeat' first | assumption | apply app_le | apply nil_le | apply cons_le); (case h2 => repeat' first | assumption | apply app_le | apply nil_le | apply cons_le); decide) | (apply cap1; (case h1 => repeat' first | assumption | apply app_le | apply nil_le | apply cons_le); decide) | (simp [sizeCap]; omega) | (unfold sizeCap; omega), by first | (apply cap2; (case h1 => repeat' first | assumption | apply app_le | apply nil_le | apply cons_le); (case h2 => repeat' first | assumption | apply app_le | apply nil_le | apply cons_le); decide) | (apply cap1; (case h1 => repeat' first | assumption | apply app_le | apply nil_le | apply cons_le); decide) | (simp [sizeCap]; omega) | (unfold sizeCap; omega), rfl, g.trans g2⟩
  rcases h with ⟨rfl, x, h, rfl⟩ | ⟨rfl, x, h, rfl⟩ | ⟨rfl, rfl, rfl⟩
  · refine seq_ok (fun ve σ' => ve = [some (.tup (xs.map D.str)), some .none, some values, some (.str (joinL [44, 32] xs))] ∧ σ = σ') ?_ ?_
    · dsimp only [Z1i, Z28, Z1r, Z23, Z26, Z1g, Z1b, Z21, Z1z, Z1y, Z1q, Z1e, Z1s, Z1c, Z1k, Z24, Z1f, Z1d, Z27, Z1u, Z1h, Z0z, Z6, Z7, Z5, Z4, Z0v, Z0u, Z0w, Z11, Z0x, Z10, Z0y, Z0j, Z0i, Zh, Zg, Ze, Zd, Zf, Z19, Z1a, Z13, Z14, Z18, Z17, Z16, Z15, Z0k, Z0l, Z0m, Z0n, Z0o, Z0p, Z0q, Z0r, Z0t, Z0s, w_add_str, w_add_int, w_add_ref, Z25, Z1x, Z1w, Z1j, Z22, w_eq_str, w_ne_str, w_eq_int, w_ne_int, w_eq_ref, Z1o, Z1p, Z1v, Z1t, Z1m, Z1l, Z1n, Z20, b_and_t, b_and_f, b_or_t, b_or_f, b_not_t, b_not_f, Z1, Z0, Z2, Z3, Z9, Zc, Zb, Z8, Za, Nat.reduceBEq, Int.reduceBEq, Int.reduceAdd, Int.reduceSub, Int.reduceNeg, Option.getD_some, Option.getD_none]
      refine join_tup (by decide) (by first | (apply cap2; (case h1 => repeat' first | assumption | apply app_le | apply nil_le | apply cons_le); (case h2 => repeat' first | assumption | apply app_le | apply nil_le | apply cons_le); decide) | (apply cap1; (case h1 => repeat' first | assumption | apply app_le | apply nil_le | apply cons_le); decide) | (simp [sizeCap]; omega) | (unfold sizeCap; omega)) ?_
      dsimp only [Z1i, Z28, Z1r, Z23, Z26, Z1g, Z1b, Z21, Z1z, Z1y, Z1q, Z1e, Z1s, Z1c, Z1k, Z24, Z1f, Z1d, Z27, Z1u, Z1h, Z0z, Z6, Z7, Z5, Z4, Z0v, Z0u, Z0w, Z11, Z0x, Z10, Z0y, Z0j, Z0i, Zh, Zg, Ze, Zd, Zf, Z19, Z1a, Z13, Z14, Z18, Z17, Z16, Z15, Z0k, Z0l, Z0m, Z0n, Z0o, Z0p, Z0q, Z0r, Z0t, Z0s, w_add_str, w_add_int, w_add_ref, Z25, Z1x, Z1w, Z1j, Z22, w_eq_str, w_ne_str, w_eq_int, w_ne_int, w_eq_ref, Z1o, Z1p, Z1v, Z1t, Z1m, Z1l, Z1n, Z20, b_and_t, b_and_f, b_or_t, b_or_f, b_not_t, b_not_f, Z1, Z0, Z2, Z3, Z9, Zc, Zb, Z8, Za, Nat.reduceBEq, Int.reduceBEq, Int.reduceAdd, Int.reduceSub, Int.reduceNeg, Option.getD_some, Option.getD_none]
      rw [List.append_nil]
      exact ⟨by first | (apply cap2; (case h1 => repeat' first | assumption | apply app_le | apply nil_le | apply cons_le); (case h2 => repeat' first | assumption | apply app_le | apply nil_le | apply cons_le); decide) | (apply cap1; (case h1 => repeat' first | assumption | apply app_le | apply nil_le | apply cons_le); decide) | (simp [sizeCap]; omega) | (unfold sizeCap; omega), rfl, rfl, rfl⟩
    rintro _ _ ⟨rfl, rfl⟩
    exact wB_ok _ _ _ _ (ex _ σ x h (by omega) Gs.refl)
  · refine seq_ok (fun ve σ' => ve = [some (.tup (xs.map D.str)), some tD, some values, some (.str (joinL [44, 32] xs ++ [32, 84]))] ∧ Gs [] σ σ') ?_ ?_
    · dsimp only [Z1i, Z28, Z1r, Z23, Z26, Z1g, Z1b, Z21, Z1z, Z1y, Z1q, Z1e, Z1s, Z1c, Z1k, Z24, Z1f, Z1d, Z27, Z1u, Z1h, Z0z, Z6, Z7, Z5, Z4, Z0v, Z0u, Z0w, Z11, Z0x, Z10, Z0y, Z0j, Z0i, Zh, Zg, Ze, Zd, Zf, Z19, Z1a, Z13, Z14, Z18, Z17, Z16, Z15, Z0k, Z0l, Z0m, Z0n, Z0o, Z0p, Z0q, Z0r, Z0t, Z0s, w_add_str, w_add_int, w_add_ref, Z25, Z1x, Z1w, Z1j, Z22, w_eq_str, w_ne_str, w_eq_int, w_ne_int, w_eq_ref, Z1o, Z1p, Z1v, Z1t, Z1m, Z1l, Z1n, Z20, b_and_t, b_and_f, b_or_t, b_or_f, b_not_t, b_not_f, Z1, Z0, Z2, Z3, Z9, Zc, Zb, Z8, Za, Nat.reduceBEq, Int.reduceBEq, Int.reduceAdd, Int.reduceSub, Int.reduceNeg, Option.getD_some, Option.getD_none]
      refine join_tup (by decide) (by first | (apply cap2; (case h1 => repeat' first | assumption | apply app_le | apply nil_le | apply cons_le); (case h2 => repeat' first | assumption | apply app_le | apply nil_le | apply cons_le); decide) | (apply cap1; (case h1 => repeat' first | assumption | apply app_le | apply nil_le | apply cons_le); decide) | (simp [sizeCap]; omega) | (unfold sizeCap; omega)) ?_
      show OnBool (.bool false) _ _
      dsimp only [Z1i, Z28, Z1r, Z23, Z26, Z1g, Z1b, Z21, Z1z, Z1y, Z1q, Z1e, Z1s, Z1c, Z1k, Z24, Z1f, Z1d, Z27, Z1u, Z1h, Z0z, Z6, Z7, Z5, Z4, Z0v, Z0u, Z0w, Z11, Z0x, Z10, Z0y, Z0j, Z0i, Zh, Zg, Ze, Zd, Zf, Z19, Z1a, Z13, Z14, Z18, Z17, Z16, Z15, Z0k, Z0l, Z0m, Z0n, Z0o, Z0p, Z0q, Z0r, Z0t, Z0s, w_add_str, w_add_int, w_add_ref, Z25, Z1x, Z1w, Z1j, Z22, w_eq_str, w_ne_str, w_eq_int, w_ne_int, w_eq_ref, Z1o, Z1p, Z1v, Z1t, Z1m, Z1l, Z1n, Z20, b_and_t, b_and_f, b_or_t, b_or_f, b_not_t, b_not_f, Z1, Z0, Z2, Z3, Z9, Zc, Zb, Z8, Za, Nat.reduceBEq, Int.reduceBEq, Int.reduceAdd, Int.reduceSub, Int.reduceNeg, Option.getD_some, Option.getD_none]
      refine (hty σ).mono ?_
      rintro _ σ₁ ⟨rfl, g⟩
      dsimp only [Z1i, Z28, Z1r, Z23, Z26, Z1g, Z1b, Z21, Z1z, Z1y, Z1q, Z1e, Z1s, Z1c, Z1k, Z24, Z1f, Z1d, Z27, Z1u, Z1h, Z0z, Z6, Z7, Z5, Z4, Z0v, Z0u, Z0w, Z11, Z0x, Z10, Z0y, Z0j, Z0i, Zh, Zg, Ze, Zd, Zf, Z19, Z1a, Z13, Z14, Z18, Z17, Z16, Z15, Z0k, Z0l, Z0m, Z0n, Z0o, Z0p, Z0q, Z0r, Z0t, Z0s, w_add_str, w_add_int, w_add_ref, Z25, Z1x, Z1w, Z1j, Z22, w_eq_str, w_ne_str, w_eq_int, w_ne_int, w_eq_ref, Z1o, Z1p, Z1v, Z1t, Z1m, Z1l, Z1n, Z20, b_and_t, b_and_f, b_or_t, b_or_f, b_not_t, b_not_f, Z1, Z0, Z2, Z3, Z9, Zc, Zb, Z8, Za, Nat.reduceBEq, Int.reduceBEq, Int.reduceAdd, Int.reduceSub, Int.reduceNeg, Option.getD_some, Option.getD_none]
      exact ⟨by simp [sizeCap], by first | (apply cap2; (case h1 => repeat' first | assumption | apply app_le | apply nil_le | apply cons_le); (case h2 => repeat' first | assumption | apply app_le | apply nil_le | apply cons_le); decide) | (apply cap1; (case h1 => repeat' first | assumption | apply app_le | apply nil_le | apply cons_le); decide) | (simp [sizeCap]; omega) | (unfold sizeCap; omega), rfl, rfl, g⟩
    rintro _ σ₁ ⟨rfl, g⟩
    have := ex (joinL [44, 32] xs ++ [32, 84]) σ₁ x h (by simp; omega) g
    have e : joinL [44, 32] xs ++ ([32, 84, 32, 61, 32] ++ x) = joinL [44, 32] xs ++ [32, 84] ++ ([32, 61, 32] ++ x) := by simp
    rw [e]
    exact wB_ok _ _ _ _ this
  · refine seq_ok (fun ve σ' => ve = [some (.tup (xs.map D.str)), some tD, some (.tup []), some (.str (joinL [44, 32] xs ++ [32, 84]))] ∧ Gs [] σ σ') ?_ ?_
    · dsimp only [Z1i, Z28, Z1r, Z23, Z26, Z1g, Z1b, Z21, Z1z, Z1y, Z1q, Z1e, Z1s, Z1c, Z1k, Z24, Z1f, Z1d, Z27, Z1u, Z1h, Z0z, Z6, Z7, Z5, Z4, Z0v, Z0u, Z0w, Z11, Z0x, Z10, Z0y, Z0j, Z0i, Zh, Zg, Ze, Zd, Zf, Z19, Z1a, Z13, Z14, Z18, Z17, Z16, Z15, Z0k, Z0l, Z0m, Z0n, Z0o, Z0p, Z0q, Z0r, Z0t, Z0s, w_add_str, w_add_int, w_add_ref, Z25, Z1x, Z1w, Z1j, Z22, w_eq_str, w_ne_str, w_eq_int, w_ne_int, w_eq_ref, Z1o, Z1p, Z1v, Z1t, Z1m, Z1l, Z1n, Z20, b_and_t, b_and_f, b_or_t, b_or_f, b_not_t, b_not_f, Z1, Z0, Z2, Z3, Z9, Zc, Zb, Z8, Za, Nat.reduceBEq, Int.reduceBEq, Int.reduceAdd, Int.reduceSub, Int.reduceNeg, Option.getD_some, Option.getD_none]
      refine join_tup (by decide) (by first | (apply cap2; (case h1 => repeat' first | assumption | apply app_le | apply nil_le | apply cons_le); (case h2 => repeat' first | assumption | apply app_le | apply nil_le | apply cons_le); decide) | (apply cap1; (case h1 => repeat' first | assumption | apply app_le | apply nil_le | apply cons_le); decide) | (simp [sizeCap]; omega) | (unfold sizeCap; omega)) ?_
      show OnBool (.bool false) _ _
      dsimp only [Z1i, Z28, Z1r, Z23, Z26, Z1g, Z1b, Z21, Z1z, Z1y, Z1q, Z1e, Z1s, Z1c, Z1k, Z24, Z1f, Z1d, Z27, Z1u, Z1h, Z0z, Z6, Z7, Z5, Z4, Z0v, Z0u, Z0w, Z11, Z0x, Z10, Z0y, Z0j, Z0i, Zh, Zg, Ze, Zd, Zf, Z19, Z1a, Z13, Z14, Z18, Z17, Z16, Z15, Z0k, Z0l, Z0m, Z0n, Z0o, Z0p, Z0q, Z0r, Z0t, Z0s, w_add_str, w_add_int, w_add_ref, Z25, Z1x, Z1w, Z1j, Z22, w_eq_str, w_ne_str, w_eq_int, w_ne_int, w_eq_ref, Z1o, Z1p, Z1v, Z1t, Z1m, Z1l, Z1n, Z20, b_and_t, b_and_f, b_or_t, b_or_f, b_not_t, b_not_f, Z1, Z0, Z2, Z3, Z9, Zc, Zb, Z8, Za, Nat.reduceBEq, Int.reduceBEq, Int.reduceAdd, Int.reduceSub, Int.reduceNeg, Option.getD_some, Option.getD_none]
      refine (hty σ).mono ?_
      rintro _ σ₁ ⟨rfl, g⟩
      dsimp only [Z1i, Z28, Z1r, Z23, Z26, Z1g, Z1b, Z21, Z1z, Z1y, Z1q, Z1e, Z1s, Z1c, Z1k, Z24, Z1f, Z1d, Z27, Z1u, Z1h, Z0z, Z6, Z7, Z5, Z4, Z0v, Z0u, Z0w, Z11, Z0x, Z10, Z0y, Z0j, Z0i, Zh, Zg, Ze, Zd, Zf, Z19, Z1a, Z13, Z14, Z18, Z17, Z16, Z15, Z0k, Z0l, Z0m, Z0n, Z0o, Z0p, Z0q, Z0r, Z0t, Z0s, w_add_str, w_add_int, w_add_ref, Z25, Z1x, Z1w, Z1j, Z22, w_eq_str, w_ne_str, w_eq_int, w_ne_int, w_eq_ref, Z1o, Z1p, Z1v, Z1t, Z1m, Z1l, Z1n, Z20, b_and_t, b_and_f, b_or_t, b_or_f, b_not_t, b_not_f, Z1, Z0, Z2, Z3, Z9, Zc, Zb, Z8, Za, Nat.reduceBEq, Int.reduceBEq, Int.reduceAdd, Int.reduceSub, Int.reduceNeg, Option.getD_some, Option.getD_none]
      exact ⟨by simp [sizeCap], by first | (apply cap2; (case h1 => repeat' first | assumption | apply app_le | apply nil_le | apply cons_le); (case h2 => repeat' first | assumption | apply app_le | apply nil_le | apply cons_le); decide) | (apply cap1; (case h1 => repeat' first | assumption | apply app_le | apply nil_le | apply cons_le); decide) | (simp [sizeCap]; omega) | (unfold sizeCap; omega), rfl, rfl, g⟩
    rintro _ σ₁ ⟨rfl, g⟩
    refine wB_ok _ _ _ _ ?_
    dsimp only [Z1i, Z28, Z1r, Z23, Z26, Z1g, Z1b, Z21, Z1z, Z1y, Z1q, Z1e, Z1s, Z1c, Z1k, Z24, Z1f, Z1d, Z27, Z1u, Z1h, Z0z, Z6, Z7, Z5, Z4, Z0v, Z0u, Z0w, Z11, Z0x, Z10, Z0y, Z0j, Z0i, Zh, Zg, Ze, Zd, Zf, Z19, Z1a, Z13, Z14, Z18, Z17, Z16, Z15, Z0k, Z0l, Z0m, Z0n, Z0o, Z0p, Z0q, Z0r, Z0t, Z0s, w_add_str, w_add_int, w_add_ref, Z25, Z1x, Z1w, Z1j, Z22, w_eq_str, w_ne_str, w_eq_int, w_ne_int, w_eq_ref, Z1o, Z1p, Z1v, Z1t, Z1m, Z1l, Z1n, Z20, b_and_t, b_and_f, b_or_t, b_or_f, b_not_t, b_not_f, Z1, Z0, Z2, Z3, Z9, Zc, Zb, Z8, Za, Nat.reduceBEq, Int.reduceBEq, Int.reduceAdd, Int.reduceSub, Int.reduceNeg, Option.getD_some, Option.getD_none]
    rw [ne_nil]
    dsimp only [Z1i, Z28, Z1r, Z23, Z26, Z1g, Z1b, Z21, Z1z, Z1y, Z1q, Z1e, Z1s, Z1c, Z1k, Z24, Z1f, Z1d, Z27, Z1u, Z1h, Z0z, Z6, Z7, Z5, Z4, Z0v, Z0u, Z0w, Z11, Z0x, Z10, Z0y, Z0j, Z0i, Zh, Zg, Ze, Zd, Zf, Z19, Z1a, Z13, Z14, Z18, Z17, Z16, Z15, Z0k, Z0l, Z0m, Z0n, Z0o, Z0p, Z0q, Z0r, Z0t, Z0s, w_add_str, w_add_int, w_add_ref, Z25, Z1x, Z1w, Z1j, Z22, w_eq_str, w_ne_str, w_eq_int, w_ne_int, w_eq_ref, Z1o, Z1p, Z1v, Z1t, Z1m, Z1l, Z1n, Z20, b_and_t, b_and_f, b_or_t, b_or_f, b_not_t, b_not_f, Z1, Z0, Z2, Z3, Z9, Zc, Zb, Z8, Za, Nat.reduceBEq, Int.reduceBEq, Int.reduceAdd, Int.reduceSub, Int.reduceNeg, Option.getD_some, Option.getD_none]
    rw [List.append_nil]
    exact ⟨by first | (apply cap2; (case h1 => repeat' first | assumption | apply app_le | apply nil_le | apply cons_le); (case h2 => repeat' first | assumption | apply app_le | apply nil_le | apply cons_le); decide) | (apply cap1; (case h1 => repeat' first | assumption | apply app_le | apply nil_le | apply cons_le); decide) | (simp [sizeCap]; omega) | (unfold sizeCap; omega), rfl, g⟩

theorem decl_type {m : Nat} {i j : Int} {b : Bool} : Txt (m + 3) 15 [.tup [.str [116, 121, 112, 101, 100, 101, 99, 108], .int i, .str [78], .tup [.str [112, 116, 114], .int j, tD], .bool b]] (if b then [116, 121, 112, 101, 32, 78, 32, 61, 32, 42, 84] else [116, 121, 112, 101, 32, 78, 32, 42, 84]) := by
  intro σ
  refine call_fx (fd := G2_15) (ve := [some _, none, none]) rfl rfl ?_
  unfold G2_15
  refine seq_ok (fun ve σ' => ve = [some (.tup [.str [116, 121, 112, 101, 100, 101, 99, 108], .int i, .str [78], .tup [.str [112, 116, 114], .int j, tD], .bool b]), some (.str [116, 121, 112, 101, 100, 101, 99, 108]), none] ∧ σ = σ') (by dsimp only [Z1i, Z28, Z1r, Z23, Z26, Z1g, Z1b, Z21, Z1z, Z1y, Z1q, Z1e, Z1s, Z1c, Z1k, Z24, Z1f, Z1d, Z27, Z1u, Z1h, Z0z, Z6, Z7, Z5, Z4, Z0v, Z0u, Z0w, Z11, Z0x, Z10, Z0y, Z0j, Z0i, Zh, Zg, Ze, Zd, Zf, Z19, Z1a, Z13, Z14, Z18, Z17, Z16, Z15, Z0k, Z0l, Z0m, Z0n, Z0o, Z0p, Z0q, Z0r, Z0t, Z0s, w_add_str, w_add_int, w_add_ref, Z25, Z1x, Z1w, Z1j, Z22, w_eq_str, w_ne_str, w_eq_int, w_ne_int, w_eq_ref, Z1o, Z1p, Z1v, Z1t, Z1m, Z1l, Z1n, Z20, b_and_t, b_and_f, b_or_t, b_or_f, b_not_t, b_not_f, Z1, Z0, Z2, Z3, Z9, Zc, Zb, Z8, Za, Nat.reduceBEq, Int.reduceBEq, Int.reduceAdd, Int.reduceSub, Int.reduceNeg, Option.getD_some, Option.getD_none]; exact ⟨rfl, rfl, rfl⟩) ?_
  rintro _ _ ⟨rfl, rfl⟩
  refine seq_ret ?_
  cases b
  all_goals
    dsimp only [Z1i, Z28, Z1r, Z23, Z26, Z1g, Z1b, Z21, Z1z, Z1y, Z1q, Z1e, Z1s, Z1c, Z1k, Z24, Z1f, Z1d, Z27, Z1u, Z1h, Z0z, Z6, Z7, Z5, Z4, Z0v, Z0u, Z0w, Z11, Z0x, Z10, Z0y, Z0j, Z0i, Zh, Zg, Ze, Zd, Zf, Z19, Z1a, Z13, Z14, Z18, Z17, Z16, Z15, Z0k, Z0l, Z0m, Z0n, Z0o, Z0p, Z0q, Z0r, Z0t, Z0s, w_add_str, w_add_int, w_add_ref, Z25, Z1x, Z1w, Z1j, Z22, w_eq_str, w_ne_str, w_eq_int, w_ne_int, w_eq_ref, Z1o, Z1p, Z1v, Z1t, Z1m, Z1l, Z1n, Z20, b_and_t, b_and_f, b_or_t, b_or_f, b_not_t, b_not_f, Z1, Z0, Z2, Z3, Z9, Zc, Zb, Z8, Za, Nat.reduceBEq, Int.reduceBEq, Int.reduceAdd, Int.reduceSub, Int.reduceNeg, Option.getD_some, Option.getD_none]
    refine ⟨by decide, by decide, ?_⟩
    refine (type_ptr (m := m) σ).mono ?_
    rintro _ σ₁ ⟨rfl, g⟩
    dsimp only [Z1i, Z28, Z1r, Z23, Z26, Z1g, Z1b, Z21, Z1z, Z1y, Z1q, Z1e, Z1s, Z1c, Z1k, Z24, Z1f, Z1d, Z27, Z1u, Z1h, Z0z, Z6, Z7, Z5, Z4, Z0v, Z0u, Z0w, Z11, Z0x, Z10, Z0y, Z0j, Z0i, Zh, Zg, Ze, Zd, Zf, Z19, Z1a, Z13, Z14, Z18, Z17, Z16, Z15, Z0k, Z0l, Z0m, Z0n, Z0o, Z0p, Z0q, Z0r, Z0t, Z0s, w_add_str, w_add_int, w_add_ref, Z25, Z1x, Z1w, Z1j, Z22, w_eq_str, w_ne_str, w_eq_int, w_ne_int, w_eq_ref, Z1o, Z1p, Z1v, Z1t, Z1m, Z1l, Z1n, Z20, b_and_t, b_and_f, b_or_t, b_or_f, b_not_t, b_not_f, Z1, Z0, Z2, Z3, Z9, Zc, Zb, Z8, Za, Nat.reduceBEq, Int.reduceBEq, Int.reduceAdd, Int.reduceSub, Int.reduceNeg, Option.getD_some, Option.getD_none]
    exact ⟨by decide, _, rfl, rfl, g⟩
theorem decl_var {m : Nat} {i : Int} {xs : List (List Nat)} {told values : D} {t : List Nat} (h : RowF told values t) (hm : 61 ≤ m) (hx : (joinL [44, 32] xs).length ≤ 10) : Txt (m + 1) 15 [.tup [.str [118, 97, 114], .int i, .tup (xs.map D.str), told, values]] ([118, 97, 114, 32] ++ (joinL [44, 32] xs ++ t)) := by
  intro σ
  obtain ⟨z, rfl⟩ : ∃ z, m = z + 1 := ⟨m - 1, by omega⟩
  have ht := h.len
  refine call_fx (fd := G2_15) (ve := [some _, none, none]) rfl rfl ?_
  unfold G2_15
  refine seq_ok (fun ve σ' => ve = [some (.tup [.str [118, 97, 114], .int i, .tup (xs.map D.str), told, values]), some (.str [118, 97, 114]), none] ∧ σ = σ') (by dsimp only [Z1i, Z28, Z1r, Z23, Z26, Z1g, Z1b, Z21, Z1z, Z1y, Z1q, Z1e, Z1s, Z1c, Z1k, Z24, Z1f, Z1d, Z27, Z1u, Z1h, Z0z, Z6, Z7, Z5, Z4, Z0v, Z0u, Z0w, Z11, Z0x, Z10, Z0y, Z0j, Z0i, Zh, Zg, Ze, Zd, Zf, Z19, Z1a, Z13, Z14, Z18, Z17, Z16, Z15, Z0k, Z0l, Z0m, Z0n, Z0o, Z0p, Z0q, Z0r, Z0t, Z0s, w_add_str, w_add_int, w_add_ref, Z25, Z1x, Z1w, Z1j, Z22, w_eq_str, w_ne_str, w_eq_int, w_ne_int, w_eq_ref, Z1o, Z1p, Z1v, Z1t, Z1m, Z1l, Z1n, Z20, b_and_t, b_and_f, b_or_t, b_or_f, b_not_t, b_not_f, Z1, Z0, Z2, Z3, Z9, Zc, Zb, Z8, Za, Nat.reduceBEq, Int.reduceBEq, Int.reduceAdd, Int.reduceSub, Int.reduceNeg, Option.getD_some, Option.getD_none]; exact ⟨rfl, rfl, rfl⟩) ?_
  rintro _ _ ⟨rfl, rfl⟩
  refine seq_ok (fun ve σ' => ve = [some (.tup [.str [118, 97, 114], .int i, .tup (xs.map D.str), told, values]), some (.str [118, 97, 114]), none] ∧ σ = σ') (by dsimp only [Z1i, Z28, Z1r, Z23, Z26, Z1g, Z1b, Z21, Z1z, Z1y, Z1q, Z1e, Z1s, Z1c, Z1k, Z24, Z1f, Z1d, Z27, Z1u, Z1h, Z0z, Z6, Z7, Z5, Z4, Z0v, Z0u, Z0w, Z11, Z0x, Z10, Z0y, Z0j, Z0i, Zh, Zg, Ze, Zd, Zf, Z19, Z1a, Z13, Z14, Z18, Z17, Z16, Z15, Z0k, Z0l, Z0m, Z0n, Z0o, Z0p, Z0q, Z0r, Z0t, Z0s, w_add_str, w_add_int, w_add_ref, Z25, Z1x, Z1w, Z1j, Z22, w_eq_str, w_ne_str, w_eq_int, w_ne_int, w_eq_ref, Z1o, Z1p, Z1v, Z1t, Z1m, Z1l, Z1n, Z20, b_and_t, b_and_f, b_or_t, b_or_f, b_not_t, b_not_f, Z1, Z0, Z2, Z3, Z9, Zc, Zb, Z8, Za, Nat.reduceBEq, Int.reduceBEq, Int.reduceAdd, Int.reduceSub, Int.reduceNeg, Option.getD_some, Option.getD_none]; exact ⟨rfl, rfl, rfl⟩) ?_
  rintro _ _ ⟨rfl, rfl⟩
  refine seq_ret ?_
  dsimp only [Z1i, Z28, Z1r, Z23, Z26, Z1g, Z1b, Z21, Z1z, Z1y, Z1q, Z1e, Z1s, Z1c, Z1k, Z24, Z1f, Z1d, Z27, Z1u, Z1h, Z0z, Z6, Z7, Z5, Z4, Z0v, Z0u, Z0w, Z11, Z0x, Z10, Z0y, Z0j, Z0i, Zh, Zg, Ze, Zd, Zf, Z19, Z1a, Z13, Z14, Z18, Z17, Z16, Z15, Z0k, Z0l, Z0m, Z0n, Z0o, Z0p, Z0q, Z0r, Z0t, Z0s, w_add_str, w_add_int, w_add_ref, Z25, Z1x, Z1w, Z1j, Z22, w_eq_str, w_ne_str, w_eq_int, w_ne_int, w_eq_ref, Z1o, Z1p, Z1v, Z1t, Z1m, Z1l, Z1n, Z20, b_and_t, b_and_f, b_or_t, b_or_f, b_not_t, b_not_f, Z1, Z0, Z2, Z3, Z9, Zc, Zb, Z8, Za, Nat.reduceBEq, Int.reduceBEq, Int.reduceAdd, Int.reduceSub, Int.reduceNeg, Option.getD_some, Option.getD_none]
  refine (row_ok (m := z) h (by omega) hx σ).mono ?_
  rintro _ σ₁ ⟨rfl, g⟩
  dsimp only [Z1i, Z28, Z1r, Z23, Z26, Z1g, Z1b, Z21, Z1z, Z1y, Z1q, Z1e, Z1s, Z1c, Z1k, Z24, Z1f, Z1d, Z27, Z1u, Z1h, Z0z, Z6, Z7, Z5, Z4, Z0v, Z0u, Z0w, Z11, Z0x, Z10, Z0y, Z0j, Z0i, Zh, Zg, Ze, Zd, Zf, Z19, Z1a, Z13, Z14, Z18, Z17, Z16, Z15, Z0k, Z0l, Z0m, Z0n, Z0o, Z0p, Z0q, Z0r, Z0t, Z0s, w_add_str, w_add_int, w_add_ref, Z25, Z1x, Z1w, Z1j, Z22, w_eq_str, w_ne_str, w_eq_int, w_ne_int, w_eq_ref, Z1o, Z1p, Z1v, Z1t, Z1m, Z1l, Z1n, Z20, b_and_t, b_and_f, b_or_t, b_or_f, b_not_t, b_not_f, Z1, Z0, Z2, Z3, Z9, Zc, Zb, Z8, Za, Nat.reduceBEq, Int.reduceBEq, Int.reduceAdd, Int.reduceSub, Int.reduceNeg, Option.getD_some, Option.getD_none]
  exact ⟨by first | (apply cap2; (case h1 => repeat' first | assumption | apply app_le | apply nil_le | apply cons_le); (case h2 => repeat' first | assumption | apply app_le | apply nil_le | apply cons_le); decide) | (apply cap1; (case h1 => repeat' first | assumption | apply app_le | apply nil_le | apply cons_le); decide) | (simp [sizeCap]; omega) | (unfold sizeCap; omega), _, rfl, rfl, g⟩
end Mine
end

section
open PySem
namespace Mine
/-- a row of constants beside its text -/
noncomputable def ConstRow (tree : D) (text : List Nat) : Prop := ∃ xs told values at' t, tree = .tup [.tup (xs.map D.str), told, values, .int at'] ∧ RowF told values t ∧ (joinL [44, 32] xs).length ≤ 10 ∧ 10 ∉ joinL [44, 32] xs ∧ text = joinL [44, 32] xs ++ t
theorem ConstRow.row {tree : D} {text : List Nat} (h : ConstRow tree text) : text.length ≤ 30 ∧ 10 ∉ text := by
  obtain ⟨xs, told, values, a, t, rfl, h1, h2, h3, rfl⟩ := h
  have := h1.len
  exact ⟨by simp; omega, by simp [this.2, h3]⟩
noncomputable def constT (rows : List (List Nat)) : List Nat := match rows with | [r] => [99, 111, 110, 115, 116, 32] ++ r | rows => [99, 111, 110, 115, 116, 32, 40, 10] ++ indentT rows ++ [41]
noncomputable def constR (rows : List (List Nat)) : List (List Nat) := match rows with | [r] => [[99, 111, 110, 115, 116, 32] ++ r] | rows => [[99, 111, 110, 115, 116, 32, 40]] ++ rows.map (fun r => 9 :: r) ++ [[41]]
theorem const_join {rows : List (List Nat)} : joinL [10] (constR rows) = constT rows := by
  have gen : ∀ rows : List (List Nat), joinL [10] ([[99, 111, 110, 115, 116, 32, 40]] ++ rows.map (fun r => 9 :: r) ++ [[41]]) = [99, 111, 110, 115, 116, 32, 40, 10] ++ indentT rows ++ [41] := by
    intro rows
    have := join_ends (z := [41]) (rows := rows)
    cases h2 : rows.map (fun r => 9 :: r) ++ [[41]] with
    | nil => simp at h2
    | cons a l =>
      rw [h2] at this
      rw [List.append_assoc, h2]
      show [99, 111, 110, 115, 116, 32, 40] ++ [10] ++ joinL [10] (a :: l) = _
      rw [this]
      simp
  cases rows with
  | nil => exact gen []
  | cons a l =>
    cases l with
    | nil => rfl
    | cons b l => exact gen (a :: b :: l)
theorem single_flat {rows : List (List Nat)} : (rows.map fun r => indentT [r]).flatten = indentT rows := by
  induction rows with
  | nil => rfl
  | cons r rs ih => rw [List.map_cons, List.flatten_cons, ih, indent_cons, indent_cons]; simp [indentT]

theorem decl_const {m : Nat} {i : Int} {trees : List D} {rows : List (List Nat)} (h : All2 ConstRow trees rows) (h1 : trees.length ≤ 3) (hm : 62 ≤ m) : Txt (m + 1) 15 [.tup [.str [99, 111, 110, 115, 116], .int i, .tup trees]] (constT rows) := by
  intro σ
  obtain ⟨z, rfl⟩ : ∃ z, m = z + 1 := ⟨m - 1, by omega⟩
  have hl := h.len
  have hr : ∀ r ∈ rows, r.length ≤ 30 ∧ 10 ∉ r := fun r hr => by obtain ⟨tr, ht⟩ := h.right r hr; exact ht.row
  refine call_fx (fd := G2_15) (ve := [some _, none, none]) rfl rfl ?_
  unfold G2_15
  refine seq_ok (fun ve σ' => ve = [some (.tup [.str [99, 111, 110, 115, 116], .int i, .tup trees]), some (.str [99, 111, 110, 115, 116]), none] ∧ σ = σ') (by dsimp only [Z1i, Z28, Z1r, Z23, Z26, Z1g, Z1b, Z21, Z1z, Z1y, Z1q, Z1e, Z1s, Z1c, Z1k, Z24, Z1f, Z1d, Z27, Z1u, Z1h, Z0z, Z6, Z7, Z5, Z4, Z0v, Z0u, Z0w, Z11, Z0x, Z10, Z0y, Z0j, Z0i, Zh, Zg, Ze, Zd, Zf, Z19, Z1a, Z13, Z14, Z18, Z17, Z16, Z15, Z0k, Z0l, Z0m, Z0n, Z0o, Z0p, Z0q, Z0r, Z0t, Z0s, w_add_str, w_add_int, w_add_ref, Z25, Z1x, Z1w, Z1j, Z22, w_eq_str, w_ne_str, w_eq_int, w_ne_int, w_eq_ref, Z1o, Z1p, Z1v, Z1t, Z1m, Z1l, Z1n, Z20, b_and_t, b_and_f, b_or_t, b_or_f, b_not_t, b_not_f, Z1, Z0, Z2, Z3, Z9, Zc, Zb, Z8, Za, Nat.reduceBEq, Int.reduceBEq, Int.reduceAdd, Int.reduceSub, Int.reduceNeg, Option.getD_some, Option.getD_none]; exact ⟨rfl, rfl, rfl⟩) ?_
  rintro _ _ ⟨rfl, rfl⟩
  refine seq_ok (fun ve σ' => ve = [some (.tup [.str [99, 111, 110, 115, 116], .int i, .tup trees]), some (.str [99, 111, 110, 115, 116]), none] ∧ σ = σ') (by dsimp only [Z1i, Z28, Z1r, Z23, Z26, Z1g, Z1b, Z21, Z1z, Z1y, Z1q, Z1e, Z1s, Z1c, Z1k, Z24, Z1f, Z1d, Z27, Z1u, Z1h, Z0z, Z6, Z7, Z5, Z4, Z0v, Z0u, Z0w, Z11, Z0x, Z10, Z0y, Z0j, Z0i, Zh, Zg, Ze, Zd, Zf, Z19, Z1a, Z13, Z14, Z18, Z17, Z16, Z15, Z0k, Z0l, Z0m, Z0n, Z0o, Z0p, Z0q, Z0r, Z0t, Z0s, w_add_str, w_add_int, w_add_ref, Z25, Z1x, Z1w, Z1j, Z22, w_eq_str, w_ne_str, w_eq_int, w_ne_int, w_eq_ref, Z1o, Z1p, Z1v, Z1t, Z1m, Z1l, Z1n, Z20, b_and_t, b_and_f, b_or_t, b_or_f, b_not_t, b_not_f, Z1, Z0, Z2, Z3, Z9, Zc, Zb, Z8, Za, Nat.reduceBEq, Int.reduceBEq, Int.reduceAdd, Int.reduceSub, Int.reduceNeg, Option.getD_some, Option.getD_none]; exact ⟨rfl, rfl, rfl⟩) ?_
  rintro _ _ ⟨rfl, rfl⟩
  refine seq_ok (fun ve σ' => ve = [some (.tup [.str [99, 111, 110, 115, 116], .int i, .tup trees]), some (.str [99, 111, 110, 115, 116]), none] ∧ σ = σ') (by dsimp only [Z1i, Z28, Z1r, Z23, Z26, Z1g, Z1b, Z21, Z1z, Z1y, Z1q, Z1e, Z1s, Z1c, Z1k, Z24, Z1f, Z1d, Z27, Z1u, Z1h, Z0z, Z6, Z7, Z5, Z4, Z0v, Z0u, Z0w, Z11, Z0x, Z10, Z0y, Z0j, Z0i, Zh, Zg, Ze, Zd, Zf, Z19, Z1a, Z13, Z14, Z18, Z17, Z16, Z15, Z0k, Z0l, Z0m, Z0n, Z0o, Z0p, Z0q, Z0r, Z0t, Z0s, w_add_str, w_add_int, w_add_ref, Z25, Z1x, Z1w, Z1j, Z22, w_eq_str, w_ne_str, w_eq_int, w_ne_int, w_eq_ref, Z1o, Z1p, Z1v, Z1t, Z1m, Z1l, Z1n, Z20, b_and_t, b_and_f, b_or_t, b_or_f, b_not_t, b_not_f, Z1, Z0, Z2, Z3, Z9, Zc, Zb, Z8, Za, Nat.reduceBEq, Int.reduceBEq, Int.reduceAdd, Int.reduceSub, Int.reduceNeg, Option.getD_some, Option.getD_none]; exact ⟨rfl, rfl, rfl⟩) ?_
  rintro _ _ ⟨rfl, rfl⟩
  refine seq_ok (fun ve σ' => ve = [some (.tup [.str [99, 111, 110, 115, 116], .int i, .tup trees]), some (.str [99, 111, 110, 115, 116]), some (.ref σ.length)] ∧ σ'[σ.length]? = some (rows.map D.str) ∧ Gs [] σ σ') ?_ ?_
  · dsimp only [Z1i, Z28, Z1r, Z23, Z26, Z1g, Z1b, Z21, Z1z, Z1y, Z1q, Z1e, Z1s, Z1c, Z1k, Z24, Z1f, Z1d, Z27, Z1u, Z1h, Z0z, Z6, Z7, Z5, Z4, Z0v, Z0u, Z0w, Z11, Z0x, Z10, Z0y, Z0j, Z0i, Zh, Zg, Ze, Zd, Zf, Z19, Z1a, Z13, Z14, Z18, Z17, Z16, Z15, Z0k, Z0l, Z0m, Z0n, Z0o, Z0p, Z0q, Z0r, Z0t, Z0s, w_add_str, w_add_int, w_add_ref, Z25, Z1x, Z1w, Z1j, Z22, w_eq_str, w_ne_str, w_eq_int, w_ne_int, w_eq_ref, Z1o, Z1p, Z1v, Z1t, Z1m, Z1l, Z1n, Z20, b_and_t, b_and_f, b_or_t, b_or_f, b_not_t, b_not_f, Z1, Z0, Z2, Z3, Z9, Zc, Zb, Z8, Za, Nat.reduceBEq, Int.reduceBEq, Int.reduceAdd, Int.reduceSub, Int.reduceNeg, Option.getD_some, Option.getD_none]
    refine ⟨trees, rfl, ?_⟩
    refine RunT.mono (cloop_known (V := fun ve => ∃ a b c d, ve = [a, b, c, d]) tests_nil (fun σ' => True) (fun _ _ => rfl) (fun _ _ _ _ => trivial) trees (rows.map D.str) _ _ [] ?_ ⟨none, none, none, none, rfl⟩ trivial get_new (by first | (apply cap2; (case h1 => repeat' first | assumption | apply app_le | apply nil_le | apply cons_le); (case h2 => repeat' first | assumption | apply app_le | apply nil_le | apply cons_le); decide) | (apply cap1; (case h1 => repeat' first | assumption | apply app_le | apply nil_le | apply cons_le); decide) | (simp [sizeCap]; omega) | (unfold sizeCap; omega))) ?_
    · refine All2.map _ (fun tree row ht ve σ' hv => ?_) h
      obtain ⟨a, b, c, d, rfl⟩ := hv
      obtain ⟨xs, told, values, at', t, rfl, q1, q2, q3, rfl⟩ := ht
      refine runV_of ?_
      dsimp only [Z1i, Z28, Z1r, Z23, Z26, Z1g, Z1b, Z21, Z1z, Z1y, Z1q, Z1e, Z1s, Z1c, Z1k, Z24, Z1f, Z1d, Z27, Z1u, Z1h, Z0z, Z6, Z7, Z5, Z4, Z0v, Z0u, Z0w, Z11, Z0x, Z10, Z0y, Z0j, Z0i, Zh, Zg, Ze, Zd, Zf, Z19, Z1a, Z13, Z14, Z18, Z17, Z16, Z15, Z0k, Z0l, Z0m, Z0n, Z0o, Z0p, Z0q, Z0r, Z0t, Z0s, w_add_str, w_add_int, w_add_ref, Z25, Z1x, Z1w, Z1j, Z22, w_eq_str, w_ne_str, w_eq_int, w_ne_int, w_eq_ref, Z1o, Z1p, Z1v, Z1t, Z1m, Z1l, Z1n, Z20, b_and_t, b_and_f, b_or_t, b_or_f, b_not_t, b_not_f, Z1, Z0, Z2, Z3, Z9, Zc, Zb, Z8, Za, Nat.reduceBEq, Int.reduceBEq, Int.reduceAdd, Int.reduceSub, Int.reduceNeg, Option.getD_some, Option.getD_none]
      refine ⟨⟨_, _, _, _, rfl⟩, wE_ok _ _ _ _ ?_⟩
      dsimp only [Z1i, Z28, Z1r, Z23, Z26, Z1g, Z1b, Z21, Z1z, Z1y, Z1q, Z1e, Z1s, Z1c, Z1k, Z24, Z1f, Z1d, Z27, Z1u, Z1h, Z0z, Z6, Z7, Z5, Z4, Z0v, Z0u, Z0w, Z11, Z0x, Z10, Z0y, Z0j, Z0i, Zh, Zg, Ze, Zd, Zf, Z19, Z1a, Z13, Z14, Z18, Z17, Z16, Z15, Z0k, Z0l, Z0m, Z0n, Z0o, Z0p, Z0q, Z0r, Z0t, Z0s, w_add_str, w_add_int, w_add_ref, Z25, Z1x, Z1w, Z1j, Z22, w_eq_str, w_ne_str, w_eq_int, w_ne_int, w_eq_ref, Z1o, Z1p, Z1v, Z1t, Z1m, Z1l, Z1n, Z20, b_and_t, b_and_f, b_or_t, b_or_f, b_not_t, b_not_f, Z1, Z0, Z2, Z3, Z9, Zc, Zb, Z8, Za, Nat.reduceBEq, Int.reduceBEq, Int.reduceAdd, Int.reduceSub, Int.reduceNeg, Option.getD_some, Option.getD_none]
      exact row_ok q1 (by omega) q2 σ'
    · rintro σ' ⟨h4, h5⟩
      rw [List.nil_append] at h4
      exact ⟨rfl, rfl, h4, h5.comp⟩
  rintro _ σ₁ ⟨rfl, hr1, g1⟩
  generalize σ.length = q at *
  by_cases hone : ∃ r, rows = [r]
  · obtain ⟨r, rfl⟩ := hone
    have hrl := (hr r (List.mem_cons_self ..)).1
    refine seq_ret ?_
    dsimp only [Z1i, Z28, Z1r, Z23, Z26, Z1g, Z1b, Z21, Z1z, Z1y, Z1q, Z1e, Z1s, Z1c, Z1k, Z24, Z1f, Z1d, Z27, Z1u, Z1h, Z0z, Z6, Z7, Z5, Z4, Z0v, Z0u, Z0w, Z11, Z0x, Z10, Z0y, Z0j, Z0i, Zh, Zg, Ze, Zd, Zf, Z19, Z1a, Z13, Z14, Z18, Z17, Z16, Z15, Z0k, Z0l, Z0m, Z0n, Z0o, Z0p, Z0q, Z0r, Z0t, Z0s, w_add_str, w_add_int, w_add_ref, Z25, Z1x, Z1w, Z1j, Z22, w_eq_str, w_ne_str, w_eq_int, w_ne_int, w_eq_ref, Z1o, Z1p, Z1v, Z1t, Z1m, Z1l, Z1n, Z20, b_and_t, b_and_f, b_or_t, b_or_f, b_not_t, b_not_f, Z1, Z0, Z2, Z3, Z9, Zc, Zb, Z8, Za, Nat.reduceBEq, Int.reduceBEq, Int.reduceAdd, Int.reduceSub, Int.reduceNeg, Option.getD_some, Option.getD_none]
    rw [len_ref, hr1]
    refine ⟨by simp [sizeCap], ?_⟩
    dsimp only [Z1i, Z28, Z1r, Z23, Z26, Z1g, Z1b, Z21, Z1z, Z1y, Z1q, Z1e, Z1s, Z1c, Z1k, Z24, Z1f, Z1d, Z27, Z1u, Z1h, Z0z, Z6, Z7, Z5, Z4, Z0v, Z0u, Z0w, Z11, Z0x, Z10, Z0y, Z0j, Z0i, Zh, Zg, Ze, Zd, Zf, Z19, Z1a, Z13, Z14, Z18, Z17, Z16, Z15, Z0k, Z0l, Z0m, Z0n, Z0o, Z0p, Z0q, Z0r, Z0t, Z0s, w_add_str, w_add_int, w_add_ref, Z25, Z1x, Z1w, Z1j, Z22, w_eq_str, w_ne_str, w_eq_int, w_ne_int, w_eq_ref, Z1o, Z1p, Z1v, Z1t, Z1m, Z1l, Z1n, Z20, b_and_t, b_and_f, b_or_t, b_or_f, b_not_t, b_not_f, Z1, Z0, Z2, Z3, Z9, Zc, Zb, Z8, Za, Nat.reduceBEq, Int.reduceBEq, Int.reduceAdd, Int.reduceSub, Int.reduceNeg, Option.getD_some, Option.getD_none]
    show OnBool (.bool true) _ _
    dsimp only [Z1i, Z28, Z1r, Z23, Z26, Z1g, Z1b, Z21, Z1z, Z1y, Z1q, Z1e, Z1s, Z1c, Z1k, Z24, Z1f, Z1d, Z27, Z1u, Z1h, Z0z, Z6, Z7, Z5, Z4, Z0v, Z0u, Z0w, Z11, Z0x, Z10, Z0y, Z0j, Z0i, Zh, Zg, Ze, Zd, Zf, Z19, Z1a, Z13, Z14, Z18, Z17, Z16, Z15, Z0k, Z0l, Z0m, Z0n, Z0o, Z0p, Z0q, Z0r, Z0t, Z0s, w_add_str, w_add_int, w_add_ref, Z25, Z1x, Z1w, Z1j, Z22, w_eq_str, w_ne_str, w_eq_int, w_ne_int, w_eq_ref, Z1o, Z1p, Z1v, Z1t, Z1m, Z1l, Z1n, Z20, b_and_t, b_and_f, b_or_t, b_or_f, b_not_t, b_not_f, Z1, Z0, Z2, Z3, Z9, Zc, Zb, Z8, Za, Nat.reduceBEq, Int.reduceBEq, Int.reduceAdd, Int.reduceSub, Int.reduceNeg, Option.getD_some, Option.getD_none]
    refine item_at hr1 ?_
    simp only [Z1i, Z28, Z1r, Z23, Z26, Z1g, Z1b, Z21, Z1z, Z1y, Z1q, Z1e, Z1s, Z1c, Z1k, Z24, Z1f, Z1d, Z27, Z1u, Z1h, Z0z, Z6, Z7, Z5, Z4, Z0v, Z0u, Z0w, Z11, Z0x, Z10, Z0y, Z0j, Z0i, Zh, Zg, Ze, Zd, Zf, Z19, Z1a, Z13, Z14, Z18, Z17, Z16, Z15, Z0k, Z0l, Z0m, Z0n, Z0o, Z0p, Z0q, Z0r, Z0t, Z0s, w_add_str, w_add_int, w_add_ref, Z25, Z1x, Z1w, Z1j, Z22, w_eq_str, w_ne_str, w_eq_int, w_ne_int, w_eq_ref, Z1o, Z1p, Z1v, Z1t, Z1m, Z1l, Z1n, Z20, b_and_t, b_and_f, b_or_t, b_or_f, b_not_t, b_not_f, Z1, Z0, Z2, Z3, Z9, Zc, Zb, Z8, Za, Nat.reduceBEq, Int.reduceBEq, Int.reduceAdd, Int.reduceSub, Int.reduceNeg, Option.getD_some, Option.getD_none, item_0, item_1, item_2, item_3, item_4, item_5, item_6, notin_tup, in_tup, in_str, strsOf_nil, strsOf_cons, str_7, len_str, len_ref, range_int, List.any_cons, List.any_nil, Bool.or_false, Bool.false_or, Bool.or_true, Bool.true_or, Bool.true_and, Bool.false_and, Bool.and_true, Bool.and_false, Bool.not_true, Bool.not_false, List.contains_cons, List.contains_nil, beq_self_eq_true, true_and, and_true, Int.reduceEq, Int.reduceLT, Int.reduceLE, decide_true, decide_false, List.length_cons, List.length_nil, Nat.reduceAdd, Nat.reduceLeDiff, eq_self, item_0, List.map_cons]
    exact ⟨by first | (apply cap2; (case h1 => repeat' first | assumption | apply app_le | apply nil_le | apply cons_le); (case h2 => repeat' first | assumption | apply app_le | apply nil_le | apply cons_le); decide) | (apply cap1; (case h1 => repeat' first | assumption | apply app_le | apply nil_le | apply cons_le); decide) | (simp [sizeCap]; omega) | (unfold sizeCap; omega), _, rfl, rfl, g1⟩
  · have hc : constT rows = [99, 111, 110, 115, 116, 32, 40, 10] ++ indentT rows ++ [41] := by
      unfold constT
      split
      · rename_i r; exact absurd ⟨r, rfl⟩ hone
      · rfl
    have hn1 : rows.length ≠ 1 := by
      intro e
      obtain ⟨r, e⟩ := List.length_eq_one_iff.mp e
      exact hone ⟨r, e⟩
    rw [hc]
    refine seq_ok (fun ve σ' => ve = [some (.tup [.str [99, 111, 110, 115, 116], .int i, .tup trees]), some (.str [99, 111, 110, 115, 116]), some (.ref q)] ∧ σ₁ = σ') ?_ ?_
    · dsimp only [Z1i, Z28, Z1r, Z23, Z26, Z1g, Z1b, Z21, Z1z, Z1y, Z1q, Z1e, Z1s, Z1c, Z1k, Z24, Z1f, Z1d, Z27, Z1u, Z1h, Z0z, Z6, Z7, Z5, Z4, Z0v, Z0u, Z0w, Z11, Z0x, Z10, Z0y, Z0j, Z0i, Zh, Zg, Ze, Zd, Zf, Z19, Z1a, Z13, Z14, Z18, Z17, Z16, Z15, Z0k, Z0l, Z0m, Z0n, Z0o, Z0p, Z0q, Z0r, Z0t, Z0s, w_add_str, w_add_int, w_add_ref, Z25, Z1x, Z1w, Z1j, Z22, w_eq_str, w_ne_str, w_eq_int, w_ne_int, w_eq_ref, Z1o, Z1p, Z1v, Z1t, Z1m, Z1l, Z1n, Z20, b_and_t, b_and_f, b_or_t, b_or_f, b_not_t, b_not_f, Z1, Z0, Z2, Z3, Z9, Zc, Zb, Z8, Za, Nat.reduceBEq, Int.reduceBEq, Int.reduceAdd, Int.reduceSub, Int.reduceNeg, Option.getD_some, Option.getD_none]
      rw [len_ref, hr1]
      refine ⟨by rw [List.length_map]; unfold sizeCap; omega, ?_⟩
      dsimp only [Z1i, Z28, Z1r, Z23, Z26, Z1g, Z1b, Z21, Z1z, Z1y, Z1q, Z1e, Z1s, Z1c, Z1k, Z24, Z1f, Z1d, Z27, Z1u, Z1h, Z0z, Z6, Z7, Z5, Z4, Z0v, Z0u, Z0w, Z11, Z0x, Z10, Z0y, Z0j, Z0i, Zh, Zg, Ze, Zd, Zf, Z19, Z1a, Z13, Z14, Z18, Z17, Z16, Z15, Z0k, Z0l, Z0m, Z0n, Z0o, Z0p, Z0q, Z0r, Z0t, Z0s, w_add_str, w_add_int, w_add_ref, Z25, Z1x, Z1w, Z1j, Z22, w_eq_str, w_ne_str, w_eq_int, w_ne_int, w_eq_ref, Z1o, Z1p, Z1v, Z1t, Z1m, Z1l, Z1n, Z20, b_and_t, b_and_f, b_or_t, b_or_f, b_not_t, b_not_f, Z1, Z0, Z2, Z3, Z9, Zc, Zb, Z8, Za, Nat.reduceBEq, Int.reduceBEq, Int.reduceAdd, Int.reduceSub, Int.reduceNeg, Option.getD_some, Option.getD_none]
      rw [List.length_map, beq_eq_false_iff_ne.mpr (by omega)]
      exact ⟨rfl, rfl, rfl⟩
    rintro _ _ ⟨rfl, rfl⟩
    refine wB_ok _ _ _ _ ?_
    dsimp only [Z1i, Z28, Z1r, Z23, Z26, Z1g, Z1b, Z21, Z1z, Z1y, Z1q, Z1e, Z1s, Z1c, Z1k, Z24, Z1f, Z1d, Z27, Z1u, Z1h, Z0z, Z6, Z7, Z5, Z4, Z0v, Z0u, Z0w, Z11, Z0x, Z10, Z0y, Z0j, Z0i, Zh, Zg, Ze, Zd, Zf, Z19, Z1a, Z13, Z14, Z18, Z17, Z16, Z15, Z0k, Z0l, Z0m, Z0n, Z0o, Z0p, Z0q, Z0r, Z0t, Z0s, w_add_str, w_add_int, w_add_ref, Z25, Z1x, Z1w, Z1j, Z22, w_eq_str, w_ne_str, w_eq_int, w_ne_int, w_eq_ref, Z1o, Z1p, Z1v, Z1t, Z1m, Z1l, Z1n, Z20, b_and_t, b_and_f, b_or_t, b_or_f, b_not_t, b_not_f, Z1, Z0, Z2, Z3, Z9, Zc, Zb, Z8, Za, Nat.reduceBEq, Int.reduceBEq, Int.reduceAdd, Int.reduceSub, Int.reduceNeg, Option.getD_some, Option.getD_none]
    refine ⟨rows.map D.str, hr1, ?_⟩
    have hql := get_lt hr1
    have hil : (indentT rows).length ≤ 3 * (30 + 2) := Nat.le_trans (Mine.indent_len fun r h => (hr r h).1) (Nat.mul_le_mul (by omega) (Nat.le_refl _))
    refine RunT.mono (cloop_known (V := fun ve => ∃ a, ve = [a]) tests_nil (fun σ' => σ'[q]? = some (rows.map D.str)) (fun σ' h => ref_stays h) (fun σ' σ'' h1 h2 => h2.at h1 (by simp; omega)) _ ((rows.map fun r => indentT [r]).map D.str) _ _ [] ?_ ⟨none, rfl⟩
      (by rw [List.getElem?_append_left hql]; exact hr1) get_new (by first | (apply cap2; (case h1 => repeat' first | assumption | apply app_le | apply nil_le | apply cons_le); (case h2 => repeat' first | assumption | apply app_le | apply nil_le | apply cons_le); decide) | (apply cap1; (case h1 => repeat' first | assumption | apply app_le | apply nil_le | apply cons_le); decide) | (simp [sizeCap]; omega) | (unfold sizeCap; omega))) ?_
    · rw [List.map_map]
      refine all2_map _ _ fun r hm ve σ' hv => ?_
      obtain ⟨a, rfl⟩ := hv
      obtain ⟨r1, r2⟩ := hr r hm
      refine runV_of ?_
      dsimp only [Z1i, Z28, Z1r, Z23, Z26, Z1g, Z1b, Z21, Z1z, Z1y, Z1q, Z1e, Z1s, Z1c, Z1k, Z24, Z1f, Z1d, Z27, Z1u, Z1h, Z0z, Z6, Z7, Z5, Z4, Z0v, Z0u, Z0w, Z11, Z0x, Z10, Z0y, Z0j, Z0i, Zh, Zg, Ze, Zd, Zf, Z19, Z1a, Z13, Z14, Z18, Z17, Z16, Z15, Z0k, Z0l, Z0m, Z0n, Z0o, Z0p, Z0q, Z0r, Z0t, Z0s, w_add_str, w_add_int, w_add_ref, Z25, Z1x, Z1w, Z1j, Z22, w_eq_str, w_ne_str, w_eq_int, w_ne_int, w_eq_ref, Z1o, Z1p, Z1v, Z1t, Z1m, Z1l, Z1n, Z20, b_and_t, b_and_f, b_or_t, b_or_f, b_not_t, b_not_f, Z1, Z0, Z2, Z3, Z9, Zc, Zb, Z8, Za, Nat.reduceBEq, Int.reduceBEq, Int.reduceAdd, Int.reduceSub, Int.reduceNeg, Option.getD_some, Option.getD_none]
      refine ⟨⟨_, rfl⟩, wE_ok _ _ _ _ ?_⟩
      dsimp only [Z1i, Z28, Z1r, Z23, Z26, Z1g, Z1b, Z21, Z1z, Z1y, Z1q, Z1e, Z1s, Z1c, Z1k, Z24, Z1f, Z1d, Z27, Z1u, Z1h, Z0z, Z6, Z7, Z5, Z4, Z0v, Z0u, Z0w, Z11, Z0x, Z10, Z0y, Z0j, Z0i, Zh, Zg, Ze, Zd, Zf, Z19, Z1a, Z13, Z14, Z18, Z17, Z16, Z15, Z0k, Z0l, Z0m, Z0n, Z0o, Z0p, Z0q, Z0r, Z0t, Z0s, w_add_str, w_add_int, w_add_ref, Z25, Z1x, Z1w, Z1j, Z22, w_eq_str, w_ne_str, w_eq_int, w_ne_int, w_eq_ref, Z1o, Z1p, Z1v, Z1t, Z1m, Z1l, Z1n, Z20, b_and_t, b_and_f, b_or_t, b_or_f, b_not_t, b_not_f, Z1, Z0, Z2, Z3, Z9, Zc, Zb, Z8, Za, Nat.reduceBEq, Int.reduceBEq, Int.reduceAdd, Int.reduceSub, Int.reduceNeg, Option.getD_some, Option.getD_none]
      exact indented_ok (N := 1) (M := 30) (rows := [r]) ⟨by simp, by simpa using r2, by simp, by simpa using r1⟩ (by omega) σ'
    · rintro σ' ⟨h4, h5⟩
      rw [List.nil_append] at h4
      refine join_ref h4 (by decide) (by rw [joinL_nil, single_flat]; unfold sizeCap; omega) ?_
      rw [joinL_nil, single_flat]
      dsimp only [Z1i, Z28, Z1r, Z23, Z26, Z1g, Z1b, Z21, Z1z, Z1y, Z1q, Z1e, Z1s, Z1c, Z1k, Z24, Z1f, Z1d, Z27, Z1u, Z1h, Z0z, Z6, Z7, Z5, Z4, Z0v, Z0u, Z0w, Z11, Z0x, Z10, Z0y, Z0j, Z0i, Zh, Zg, Ze, Zd, Zf, Z19, Z1a, Z13, Z14, Z18, Z17, Z16, Z15, Z0k, Z0l, Z0m, Z0n, Z0o, Z0p, Z0q, Z0r, Z0t, Z0s, w_add_str, w_add_int, w_add_ref, Z25, Z1x, Z1w, Z1j, Z22, w_eq_str, w_ne_str, w_eq_int, w_ne_int, w_eq_ref, Z1o, Z1p, Z1v, Z1t, Z1m, Z1l, Z1n, Z20, b_and_t, b_and_f, b_or_t, b_or_f, b_not_t, b_not_f, Z1, Z0, Z2, Z3, Z9, Zc, Zb, Z8, Za, Nat.reduceBEq, Int.reduceBEq, Int.reduceAdd, Int.reduceSub, Int.reduceNeg, Option.getD_some, Option.getD_none]
      exact ⟨by first | (apply cap2; (case h1 => repeat' first | assumption | apply app_le | apply nil_le | apply cons_le); (case h2 => repeat' first | assumption | apply app_le | apply nil_le | apply cons_le); decide) | (apply cap1; (case h1 => repeat' first | assumption | apply app_le | apply nil_le | apply cons_le); decide) | (simp [sizeCap]; omega) | (unfold sizeCap; omega), by first | (apply cap2; (case h1 => repeat' first | assumption | apply app_le | apply nil_le | apply cons_le); (case h2 => repeat' first | assumption | apply app_le | apply nil_le | apply cons_le); decide) | (apply cap1; (case h1 => repeat' first | assumption | apply app_le | apply nil_le | apply cons_le); decide) | (simp [sizeCap]; omega) | (unfold sizeCap; omega), rfl, g1.trans h5.comp⟩
end Mine
end

section
open PySem
namespace Mine
theorem ne_one {n : Nat} (h : n ≠ 1) : ((n : Int) == 1) = false := beq_eq_false_iff_ne.mpr (by omega)
noncomputable def FormD (d : D) : Prop := ∃ told values t, d = .tup [told, values, .str t] ∧ RowF told values t
theorem const_rows {rows : List (List Nat)} (hn : rows.length ≤ 3) (h : ∀ r ∈ rows, r.length ≤ 30) : (joinL [10] (constR rows)).length ≤ 900000 := by
  have hil : (indentT rows).length ≤ 3 * (30 + 2) := Nat.le_trans (Mine.indent_len h) (Nat.mul_le_mul hn (Nat.le_refl _))
  rw [const_join]
  unfold constT
  split
  · rename_i r
    have := h r (List.mem_cons_self ..)
    simp; omega
  · simp; omega

theorem decl_gen {src n : Nat} {σ : Sto} (hn : 20 ≤ n) (hs : Src src σ) : RunO (C2 n 33 [.ref src] σ) (TreeGen src 15 σ) := by
  obtain ⟨m, rfl⟩ : ∃ m, n = m + 1 := ⟨n - 1, by omega⟩
  have hm : 19 ≤ m := by omega
  refine call_fx (fd := G2_33) (ve := [some _, none, none, none, none, none, none, none, none, none, none, none]) rfl rfl ?_
  unfold G2_33
  refine seq_ok (fun ve σ' => ∃ es x, ∃ t : Int, ve = [some (.ref src), some tD, some (.tup [es, .str x]), some (.int t), none, none, none, none, none, none, none, none] ∧ Exs es x ∧ 0 ≤ t ∧ t < 6 ∧ Go src σ σ') ?_ ?_
  · dsimp only [Z1i, Z28, Z1r, Z23, Z26, Z1g, Z1b, Z21, Z1z, Z1y, Z1q, Z1e, Z1s, Z1c, Z1k, Z24, Z1f, Z1d, Z27, Z1u, Z1h, Z0z, Z6, Z7, Z5, Z4, Z0v, Z0u, Z0w, Z11, Z0x, Z10, Z0y, Z0j, Z0i, Zh, Zg, Ze, Zd, Zf, Z19, Z1a, Z13, Z14, Z18, Z17, Z16, Z15, Z0k, Z0l, Z0m, Z0n, Z0o, Z0p, Z0q, Z0r, Z0t, Z0s, w_add_str, w_add_int, w_add_ref, Z25, Z1x, Z1w, Z1j, Z22, w_eq_str, w_ne_str, w_eq_int, w_ne_int, w_eq_ref, Z1o, Z1p, Z1v, Z1t, Z1m, Z1l, Z1n, Z20, b_and_t, b_and_f, b_or_t, b_or_f, b_not_t, b_not_f, Z1, Z0, Z2, Z3, Z9, Zc, Zb, Z8, Za, Nat.reduceBEq, Int.reduceBEq, Int.reduceAdd, Int.reduceSub, Int.reduceNeg, Option.getD_some, Option.getD_none]
    refine (exprs_gen (by omega) hs).mono ?_
    rintro _ σ₁ ⟨es, x, rfl, h, g1⟩
    refine (take_ok (Nat.le_trans (by decide) hm) g1.2 (by decide) (by decide)).mono ?_
    rintro _ σ₂ ⟨t, rfl, t0, t1, g2⟩
    exact ⟨rfl, es, x, t, rfl, h, t0, t1, g1.trans g2⟩
  rintro _ σ₁ ⟨es, x, t, rfl, hes, t0, t1, g1⟩
  have lx := hes.len
  by_cases h2 : t < 2
  · refine seq_ret ?_
    dsimp only [Z1i, Z28, Z1r, Z23, Z26, Z1g, Z1b, Z21, Z1z, Z1y, Z1q, Z1e, Z1s, Z1c, Z1k, Z24, Z1f, Z1d, Z27, Z1u, Z1h, Z0z, Z6, Z7, Z5, Z4, Z0v, Z0u, Z0w, Z11, Z0x, Z10, Z0y, Z0j, Z0i, Zh, Zg, Ze, Zd, Zf, Z19, Z1a, Z13, Z14, Z18, Z17, Z16, Z15, Z0k, Z0l, Z0m, Z0n, Z0o, Z0p, Z0q, Z0r, Z0t, Z0s, w_add_str, w_add_int, w_add_ref, Z25, Z1x, Z1w, Z1j, Z22, w_eq_str, w_ne_str, w_eq_int, w_ne_int, w_eq_ref, Z1o, Z1p, Z1v, Z1t, Z1m, Z1l, Z1n, Z20, b_and_t, b_and_f, b_or_t, b_or_f, b_not_t, b_not_f, Z1, Z0, Z2, Z3, Z9, Zc, Zb, Z8, Za, Nat.reduceBEq, Int.reduceBEq, Int.reduceAdd, Int.reduceSub, Int.reduceNeg, Option.getD_some, Option.getD_none]
    rw [decide_eq_true h2]
    dsimp only [Z1i, Z28, Z1r, Z23, Z26, Z1g, Z1b, Z21, Z1z, Z1y, Z1q, Z1e, Z1s, Z1c, Z1k, Z24, Z1f, Z1d, Z27, Z1u, Z1h, Z0z, Z6, Z7, Z5, Z4, Z0v, Z0u, Z0w, Z11, Z0x, Z10, Z0y, Z0j, Z0i, Zh, Zg, Ze, Zd, Zf, Z19, Z1a, Z13, Z14, Z18, Z17, Z16, Z15, Z0k, Z0l, Z0m, Z0n, Z0o, Z0p, Z0q, Z0r, Z0t, Z0s, w_add_str, w_add_int, w_add_ref, Z25, Z1x, Z1w, Z1j, Z22, w_eq_str, w_ne_str, w_eq_int, w_ne_int, w_eq_ref, Z1o, Z1p, Z1v, Z1t, Z1m, Z1l, Z1n, Z20, b_and_t, b_and_f, b_or_t, b_or_f, b_not_t, b_not_f, Z1, Z0, Z2, Z3, Z9, Zc, Zb, Z8, Za, Nat.reduceBEq, Int.reduceBEq, Int.reduceAdd, Int.reduceSub, Int.reduceNeg, Option.getD_some, Option.getD_none]
    cases (t == 0)
    all_goals
      dsimp only [Z1i, Z28, Z1r, Z23, Z26, Z1g, Z1b, Z21, Z1z, Z1y, Z1q, Z1e, Z1s, Z1c, Z1k, Z24, Z1f, Z1d, Z27, Z1u, Z1h, Z0z, Z6, Z7, Z5, Z4, Z0v, Z0u, Z0w, Z11, Z0x, Z10, Z0y, Z0j, Z0i, Zh, Zg, Ze, Zd, Zf, Z19, Z1a, Z13, Z14, Z18, Z17, Z16, Z15, Z0k, Z0l, Z0m, Z0n, Z0o, Z0p, Z0q, Z0r, Z0t, Z0s, w_add_str, w_add_int, w_add_ref, Z25, Z1x, Z1w, Z1j, Z22, w_eq_str, w_ne_str, w_eq_int, w_ne_int, w_eq_ref, Z1o, Z1p, Z1v, Z1t, Z1m, Z1l, Z1n, Z20, b_and_t, b_and_f, b_or_t, b_or_f, b_not_t, b_not_f, Z1, Z0, Z2, Z3, Z9, Zc, Zb, Z8, Za, Nat.reduceBEq, Int.reduceBEq, Int.reduceAdd, Int.reduceSub, Int.reduceNeg, Option.getD_some, Option.getD_none]
      refine ⟨_, rfl, _, [_], _, rfl, fun n hn => ?_, ?_, get_new, g1.new⟩
      rotate_left
      · decide
      · obtain ⟨z, rfl⟩ := pre3 hn
        exact decl_type
  · refine seq_ok (fun ve σ' => ve = [some (.ref src), some tD, some (.tup [es, .str x]), some (.int t), none, none, none, none, none, none, none, none] ∧ σ₁ = σ') ?_ ?_
    · dsimp only [Z1i, Z28, Z1r, Z23, Z26, Z1g, Z1b, Z21, Z1z, Z1y, Z1q, Z1e, Z1s, Z1c, Z1k, Z24, Z1f, Z1d, Z27, Z1u, Z1h, Z0z, Z6, Z7, Z5, Z4, Z0v, Z0u, Z0w, Z11, Z0x, Z10, Z0y, Z0j, Z0i, Zh, Zg, Ze, Zd, Zf, Z19, Z1a, Z13, Z14, Z18, Z17, Z16, Z15, Z0k, Z0l, Z0m, Z0n, Z0o, Z0p, Z0q, Z0r, Z0t, Z0s, w_add_str, w_add_int, w_add_ref, Z25, Z1x, Z1w, Z1j, Z22, w_eq_str, w_ne_str, w_eq_int, w_ne_int, w_eq_ref, Z1o, Z1p, Z1v, Z1t, Z1m, Z1l, Z1n, Z20, b_and_t, b_and_f, b_or_t, b_or_f, b_not_t, b_not_f, Z1, Z0, Z2, Z3, Z9, Zc, Zb, Z8, Za, Nat.reduceBEq, Int.reduceBEq, Int.reduceAdd, Int.reduceSub, Int.reduceNeg, Option.getD_some, Option.getD_none]
      rw [decide_eq_false h2]
      exact ⟨rfl, rfl, rfl⟩
    rintro _ _ ⟨rfl, rfl⟩
    refine seq_ok (fun ve σ' => ve = [some (.ref src), some tD, some (.tup [es, .str x]), some (.int t), some (.ref σ₁.length), none, none, none, none, none, none, none] ∧
      σ'[σ₁.length]? = some [.tup [.none, es, .str ([32, 61, 32] ++ x)], .tup [tD, es, .str ([32, 84, 32, 61, 32] ++ x)], .tup [tD, .tup [], .str [32, 84]]] ∧ Gs [] σ₁ σ') ?_ ?_
    · dsimp only [Z1i, Z28, Z1r, Z23, Z26, Z1g, Z1b, Z21, Z1z, Z1y, Z1q, Z1e, Z1s, Z1c, Z1k, Z24, Z1f, Z1d, Z27, Z1u, Z1h, Z0z, Z6, Z7, Z5, Z4, Z0v, Z0u, Z0w, Z11, Z0x, Z10, Z0y, Z0j, Z0i, Zh, Zg, Ze, Zd, Zf, Z19, Z1a, Z13, Z14, Z18, Z17, Z16, Z15, Z0k, Z0l, Z0m, Z0n, Z0o, Z0p, Z0q, Z0r, Z0t, Z0s, w_add_str, w_add_int, w_add_ref, Z25, Z1x, Z1w, Z1j, Z22, w_eq_str, w_ne_str, w_eq_int, w_ne_int, w_eq_ref, Z1o, Z1p, Z1v, Z1t, Z1m, Z1l, Z1n, Z20, b_and_t, b_and_f, b_or_t, b_or_f, b_not_t, b_not_f, Z1, Z0, Z2, Z3, Z9, Zc, Zb, Z8, Za, Nat.reduceBEq, Int.reduceBEq, Int.reduceAdd, Int.reduceSub, Int.reduceNeg, Option.getD_some, Option.getD_none]
      exact ⟨by first | (apply cap2; (case h1 => repeat' first | assumption | apply app_le | apply nil_le | apply cons_le); (case h2 => repeat' first | assumption | apply app_le | apply nil_le | apply cons_le); decide) | (apply cap1; (case h1 => repeat' first | assumption | apply app_le | apply nil_le | apply cons_le); decide) | (simp [sizeCap]; omega) | (unfold sizeCap; omega), by first | (apply cap2; (case h1 => repeat' first | assumption | apply app_le | apply nil_le | apply cons_le); (case h2 => repeat' first | assumption | apply app_le | apply nil_le | apply cons_le); decide) | (apply cap1; (case h1 => repeat' first | assumption | apply app_le | apply nil_le | apply cons_le); decide) | (simp [sizeCap]; omega) | (unfold sizeCap; omega), rfl, rfl, get_new, Gs.app⟩
    rintro _ σ₂ ⟨rfl, hf, g2⟩
    have hsl : src < σ₁.length := by
      obtain ⟨_, _, h, _⟩ := g1.2
      exact get_lt h
    have f1 : FormD (.tup [.none, es, .str ([32, 61, 32] ++ x)]) := ⟨_, _, _, rfl, .inl ⟨rfl, x, hes, rfl⟩⟩
    have f2 : FormD (.tup [tD, es, .str ([32, 84, 32, 61, 32] ++ x)]) := ⟨_, _, _, rfl, .inr (.inl ⟨rfl, x, hes, rfl⟩)⟩
    have f3 : FormD (.tup [tD, .tup [], .str [32, 84]]) := ⟨_, _, _, rfl, .inr (.inr ⟨rfl, rfl, rfl⟩)⟩
    have s2 := g1.2.ext g2
    have g12 := g1.trans (Go.ext g1.2 g2)
    generalize D.tup [.none, es, .str ([32, 61, 32] ++ x)] = d1 at *
    generalize D.tup [tD, es, .str ([32, 84, 32, 61, 32] ++ x)] = d2 at *
    generalize D.tup [tD, .tup [], .str [32, 84]] = d3 at *
    have hq : src < σ₁.length := hsl
    generalize σ₁.length = q at *
    by_cases h3 : t = 2
    · refine seq_ret ?_
      dsimp only [Z1i, Z28, Z1r, Z23, Z26, Z1g, Z1b, Z21, Z1z, Z1y, Z1q, Z1e, Z1s, Z1c, Z1k, Z24, Z1f, Z1d, Z27, Z1u, Z1h, Z0z, Z6, Z7, Z5, Z4, Z0v, Z0u, Z0w, Z11, Z0x, Z10, Z0y, Z0j, Z0i, Zh, Zg, Ze, Zd, Zf, Z19, Z1a, Z13, Z14, Z18, Z17, Z16, Z15, Z0k, Z0l, Z0m, Z0n, Z0o, Z0p, Z0q, Z0r, Z0t, Z0s, w_add_str, w_add_int, w_add_ref, Z25, Z1x, Z1w, Z1j, Z22, w_eq_str, w_ne_str, w_eq_int, w_ne_int, w_eq_ref, Z1o, Z1p, Z1v, Z1t, Z1m, Z1l, Z1n, Z20, b_and_t, b_and_f, b_or_t, b_or_f, b_not_t, b_not_f, Z1, Z0, Z2, Z3, Z9, Zc, Zb, Z8, Za, Nat.reduceBEq, Int.reduceBEq, Int.reduceAdd, Int.reduceSub, Int.reduceNeg, Option.getD_some, Option.getD_none]
      rw [beq_iff_eq.mpr h3]
      dsimp only [Z1i, Z28, Z1r, Z23, Z26, Z1g, Z1b, Z21, Z1z, Z1y, Z1q, Z1e, Z1s, Z1c, Z1k, Z24, Z1f, Z1d, Z27, Z1u, Z1h, Z0z, Z6, Z7, Z5, Z4, Z0v, Z0u, Z0w, Z11, Z0x, Z10, Z0y, Z0j, Z0i, Zh, Zg, Ze, Zd, Zf, Z19, Z1a, Z13, Z14, Z18, Z17, Z16, Z15, Z0k, Z0l, Z0m, Z0n, Z0o, Z0p, Z0q, Z0r, Z0t, Z0s, w_add_str, w_add_int, w_add_ref, Z25, Z1x, Z1w, Z1j, Z22, w_eq_str, w_ne_str, w_eq_int, w_ne_int, w_eq_ref, Z1o, Z1p, Z1v, Z1t, Z1m, Z1l, Z1n, Z20, b_and_t, b_and_f, b_or_t, b_or_f, b_not_t, b_not_f, Z1, Z0, Z2, Z3, Z9, Zc, Zb, Z8, Za, Nat.reduceBEq, Int.reduceBEq, Int.reduceAdd, Int.reduceSub, Int.reduceNeg, Option.getD_some, Option.getD_none]
      refine (one_ok (Nat.le_trans (by decide) hm) s2 hf (by simp) (by simp) (Nat.ne_of_gt hq)).mono ?_
      rintro d σ₃ ⟨hd, g3⟩
      have hform : FormD d := by
        simp only [List.mem_cons, List.not_mem_nil, or_false] at hd
        rcases hd with rfl | rfl | rfl
        · exact f1
        · exact f2
        · exact f3
      obtain ⟨told, values, tx, rfl, hrow⟩ := hform
      have htx := hrow.len
      dsimp only [Z1i, Z28, Z1r, Z23, Z26, Z1g, Z1b, Z21, Z1z, Z1y, Z1q, Z1e, Z1s, Z1c, Z1k, Z24, Z1f, Z1d, Z27, Z1u, Z1h, Z0z, Z6, Z7, Z5, Z4, Z0v, Z0u, Z0w, Z11, Z0x, Z10, Z0y, Z0j, Z0i, Zh, Zg, Ze, Zd, Zf, Z19, Z1a, Z13, Z14, Z18, Z17, Z16, Z15, Z0k, Z0l, Z0m, Z0n, Z0o, Z0p, Z0q, Z0r, Z0t, Z0s, w_add_str, w_add_int, w_add_ref, Z25, Z1x, Z1w, Z1j, Z22, w_eq_str, w_ne_str, w_eq_int, w_ne_int, w_eq_ref, Z1o, Z1p, Z1v, Z1t, Z1m, Z1l, Z1n, Z20, b_and_t, b_and_f, b_or_t, b_or_f, b_not_t, b_not_f, Z1, Z0, Z2, Z3, Z9, Zc, Zb, Z8, Za, Nat.reduceBEq, Int.reduceBEq, Int.reduceAdd, Int.reduceSub, Int.reduceNeg, Option.getD_some, Option.getD_none]
      refine ⟨by first | (apply cap2; (case h1 => repeat' first | assumption | apply app_le | apply nil_le | apply cons_le); (case h2 => repeat' first | assumption | apply app_le | apply nil_le | apply cons_le); decide) | (apply cap1; (case h1 => repeat' first | assumption | apply app_le | apply nil_le | apply cons_le); decide) | (simp [sizeCap]; omega) | (unfold sizeCap; omega), _, rfl, _, [_], _, rfl, fun n hn => ?_, ?_, get_new, (g12.trans g3).new⟩
      · obtain ⟨z, rfl, hz⟩ := pre1 hn
        exact decl_var (xs := [[120], [121]]) hrow (Nat.le_trans (by decide) hz) (by decide)
      · exact Nat.le_trans (app_le (x := [118, 97, 114, 32, 120, 44, 32, 121]) (Nat.le_refl _) htx.1) (by decide)
    · refine seq_ok (fun ve σ' => ve = [some (.ref src), some tD, some (.tup [es, .str x]), some (.int t), some (.ref q), none, none, none, none, none, none, none] ∧ σ₂ = σ') ?_ ?_
      · dsimp only [Z1i, Z28, Z1r, Z23, Z26, Z1g, Z1b, Z21, Z1z, Z1y, Z1q, Z1e, Z1s, Z1c, Z1k, Z24, Z1f, Z1d, Z27, Z1u, Z1h, Z0z, Z6, Z7, Z5, Z4, Z0v, Z0u, Z0w, Z11, Z0x, Z10, Z0y, Z0j, Z0i, Zh, Zg, Ze, Zd, Zf, Z19, Z1a, Z13, Z14, Z18, Z17, Z16, Z15, Z0k, Z0l, Z0m, Z0n, Z0o, Z0p, Z0q, Z0r, Z0t, Z0s, w_add_str, w_add_int, w_add_ref, Z25, Z1x, Z1w, Z1j, Z22, w_eq_str, w_ne_str, w_eq_int, w_ne_int, w_eq_ref, Z1o, Z1p, Z1v, Z1t, Z1m, Z1l, Z1n, Z20, b_and_t, b_and_f, b_or_t, b_or_f, b_not_t, b_not_f, Z1, Z0, Z2, Z3, Z9, Zc, Zb, Z8, Za, Nat.reduceBEq, Int.reduceBEq, Int.reduceAdd, Int.reduceSub, Int.reduceNeg, Option.getD_some, Option.getD_none]
        rw [beq_eq_false_iff_ne.mpr h3]
        exact ⟨rfl, rfl, rfl⟩
      rintro _ _ ⟨rfl, rfl⟩
      have hql := get_lt hf
      refine seq_ok (fun ve σ' => ve = [some (.ref src), some tD, some (.tup [es, .str x]), some (.int t), some (.ref q), none, none, none, some (.ref σ₂.length), some (.ref (σ₂ ++ [[]]).length), none, none] ∧ σ₂ ++ [[]] ++ [[]] = σ') ?_ ?_
      · dsimp only [Z1i, Z28, Z1r, Z23, Z26, Z1g, Z1b, Z21, Z1z, Z1y, Z1q, Z1e, Z1s, Z1c, Z1k, Z24, Z1f, Z1d, Z27, Z1u, Z1h, Z0z, Z6, Z7, Z5, Z4, Z0v, Z0u, Z0w, Z11, Z0x, Z10, Z0y, Z0j, Z0i, Zh, Zg, Ze, Zd, Zf, Z19, Z1a, Z13, Z14, Z18, Z17, Z16, Z15, Z0k, Z0l, Z0m, Z0n, Z0o, Z0p, Z0q, Z0r, Z0t, Z0s, w_add_str, w_add_int, w_add_ref, Z25, Z1x, Z1w, Z1j, Z22, w_eq_str, w_ne_str, w_eq_int, w_ne_int, w_eq_ref, Z1o, Z1p, Z1v, Z1t, Z1m, Z1l, Z1n, Z20, b_and_t, b_and_f, b_or_t, b_or_f, b_not_t, b_not_f, Z1, Z0, Z2, Z3, Z9, Zc, Zb, Z8, Za, Nat.reduceBEq, Int.reduceBEq, Int.reduceAdd, Int.reduceSub, Int.reduceNeg, Option.getD_some, Option.getD_none]
        exact ⟨rfl, rfl, rfl⟩
      rintro _ _ ⟨rfl, rfl⟩
      have gA : Gs [] σ₂ (σ₂ ++ [[]] ++ [[]]) := Gs.app.trans Gs.app
      have hp0 : (σ₂ ++ [[]] ++ [[]])[σ₂.length]? = some [] := by simp [List.getElem?_append]
      have hp0' : (σ₂ ++ [[]] ++ [[]])[(σ₂ ++ [[]]).length]? = some [] := get_new
      have hpn : (σ₂ ++ [[]]).length = σ₂.length + 1 := by simp
      have hf0 := gA.get hf
      have g0 : Go src σ (σ₂ ++ [[]] ++ [[]]) := g12.trans (Go.ext g12.2 gA)
      have hpσ := g12.1.1
      have nsq : q ≠ src := Nat.ne_of_gt hq
      generalize (σ₂ ++ [[]]).length = p' at *
      generalize σ₂.length = p at *
      have nsp : p ≠ src := Nat.ne_of_gt (Nat.lt_trans hq hql)
      have hpp' : p < p' := by rw [hpn]; exact Nat.lt_succ_self p
      have nsp' : p' ≠ src := Nat.ne_of_gt (Nat.lt_trans (Nat.lt_trans hq hql) hpp')
      have hσp' : σ.length ≤ p' := Nat.le_trans hpσ (Nat.le_of_lt hpp')
      generalize σ₂ ++ [[]] ++ [[]] = σ₃ at *
      refine seq_ok (fun ve σ' => ∃ a b c e f trees rows, ve = [some (.ref src), some tD, some (.tup [es, .str x]), some (.int t), some (.ref q), a, b, c, some (.ref p), some (.ref p'), e, f] ∧ σ'[p]? = some trees ∧ σ'[p']? = some (rows.map D.str) ∧
        trees.length ≤ 3 ∧ All2 ConstRow trees rows ∧ Go src σ σ') ?_ ?_
      · dsimp only [Z1i, Z28, Z1r, Z23, Z26, Z1g, Z1b, Z21, Z1z, Z1y, Z1q, Z1e, Z1s, Z1c, Z1k, Z24, Z1f, Z1d, Z27, Z1u, Z1h, Z0z, Z6, Z7, Z5, Z4, Z0v, Z0u, Z0w, Z11, Z0x, Z10, Z0y, Z0j, Z0i, Zh, Zg, Ze, Zd, Zf, Z19, Z1a, Z13, Z14, Z18, Z17, Z16, Z15, Z0k, Z0l, Z0m, Z0n, Z0o, Z0p, Z0q, Z0r, Z0t, Z0s, w_add_str, w_add_int, w_add_ref, Z25, Z1x, Z1w, Z1j, Z22, w_eq_str, w_ne_str, w_eq_int, w_ne_int, w_eq_ref, Z1o, Z1p, Z1v, Z1t, Z1m, Z1l, Z1n, Z20, b_and_t, b_and_f, b_or_t, b_or_f, b_not_t, b_not_f, Z1, Z0, Z2, Z3, Z9, Zc, Zb, Z8, Za, Nat.reduceBEq, Int.reduceBEq, Int.reduceAdd, Int.reduceSub, Int.reduceNeg, Option.getD_some, Option.getD_none]
        refine (take_ok (Nat.le_trans (by decide) hm) g0.2 (by decide) (by decide)).mono ?_
        rintro _ σ₄ ⟨u, rfl, u0, u1, g4⟩
        dsimp only [Z1i, Z28, Z1r, Z23, Z26, Z1g, Z1b, Z21, Z1z, Z1y, Z1q, Z1e, Z1s, Z1c, Z1k, Z24, Z1f, Z1d, Z27, Z1u, Z1h, Z0z, Z6, Z7, Z5, Z4, Z0v, Z0u, Z0w, Z11, Z0x, Z10, Z0y, Z0j, Z0i, Zh, Zg, Ze, Zd, Zf, Z19, Z1a, Z13, Z14, Z18, Z17, Z16, Z15, Z0k, Z0l, Z0m, Z0n, Z0o, Z0p, Z0q, Z0r, Z0t, Z0s, w_add_str, w_add_int, w_add_ref, Z25, Z1x, Z1w, Z1j, Z22, w_eq_str, w_ne_str, w_eq_int, w_ne_int, w_eq_ref, Z1o, Z1p, Z1v, Z1t, Z1m, Z1l, Z1n, Z20, b_and_t, b_and_f, b_or_t, b_or_f, b_not_t, b_not_f, Z1, Z0, Z2, Z3, Z9, Zc, Zb, Z8, Za, Nat.reduceBEq, Int.reduceBEq, Int.reduceAdd, Int.reduceSub, Int.reduceNeg, Option.getD_some, Option.getD_none]
        rw [range_int]
        refine ⟨⟨by omega, by omega⟩, _, rng_items (by omega), ?_⟩
        have hlen : ((List.range (1 + u).toNat).map fun (i : Nat) => D.int i).length ≤ 3 := by simp; omega
        have hat : ∀ d ∈ (List.range (1 + u).toNat).map fun (i : Nat) => D.int i, ∃ j : Int, d = .int j := by
          intro d hd
          obtain ⟨j, _, rfl⟩ := List.mem_map.mp hd
          exact ⟨_, rfl⟩
        generalize (List.range (1 + u).toNat).map (fun (i : Nat) => D.int i) = all at hlen hat ⊢
        refine RunX.mono (floop_ok (Inv := fun i ve σ' => ∃ a b c e f trees rows, ve = [some (.ref src), some tD, some (.tup [es, .str x]), some (.int t), some (.ref q), a, b, c, some (.ref p), some (.ref p'), e, f] ∧ σ'[p]? = some trees ∧ σ'[p']? = some (rows.map D.str) ∧
          trees.length = i ∧ All2 ConstRow trees rows ∧ σ'[q]? = some [d1, d2, d3] ∧ Go src σ σ') (fun _ => rfl) ?_ all 0 _ σ₄ (fun _ h => h) (by simp) ?_) ?_
        · rintro i y ve σ₅ hi hy ⟨a, b, c, e, f, trees, rows, rfl, hp, hp', hti, hall, hq5, g5⟩
          obtain ⟨j, rfl⟩ := hat y hy
          have hpl := get_lt hp
          have hpl' := get_lt hp'
          refine runV_of ?_
          dsimp only [Z1i, Z28, Z1r, Z23, Z26, Z1g, Z1b, Z21, Z1z, Z1y, Z1q, Z1e, Z1s, Z1c, Z1k, Z24, Z1f, Z1d, Z27, Z1u, Z1h, Z0z, Z6, Z7, Z5, Z4, Z0v, Z0u, Z0w, Z11, Z0x, Z10, Z0y, Z0j, Z0i, Zh, Zg, Ze, Zd, Zf, Z19, Z1a, Z13, Z14, Z18, Z17, Z16, Z15, Z0k, Z0l, Z0m, Z0n, Z0o, Z0p, Z0q, Z0r, Z0t, Z0s, w_add_str, w_add_int, w_add_ref, Z25, Z1x, Z1w, Z1j, Z22, w_eq_str, w_ne_str, w_eq_int, w_ne_int, w_eq_ref, Z1o, Z1p, Z1v, Z1t, Z1m, Z1l, Z1n, Z20, b_and_t, b_and_f, b_or_t, b_or_f, b_not_t, b_not_f, Z1, Z0, Z2, Z3, Z9, Zc, Zb, Z8, Za, Nat.reduceBEq, Int.reduceBEq, Int.reduceAdd, Int.reduceSub, Int.reduceNeg, Option.getD_some, Option.getD_none]
          rw [runB_cons]
          refine RunX.mono (P := fun r ve₁ σ₆ => r = none ∧ ∃ told values tx, ve₁ = [some (.ref src), some tD, some (.tup [es, .str x]), some (.int t), some (.ref q), some told, some values, some (.str tx), some (.ref p), some (.ref p'), some (.int j), f] ∧ RowF told values tx ∧ Go src σ₅ σ₆) (wS_ok _ _ _ _ ?_) ?_
          · dsimp only [Z1i, Z28, Z1r, Z23, Z26, Z1g, Z1b, Z21, Z1z, Z1y, Z1q, Z1e, Z1s, Z1c, Z1k, Z24, Z1f, Z1d, Z27, Z1u, Z1h, Z0z, Z6, Z7, Z5, Z4, Z0v, Z0u, Z0w, Z11, Z0x, Z10, Z0y, Z0j, Z0i, Zh, Zg, Ze, Zd, Zf, Z19, Z1a, Z13, Z14, Z18, Z17, Z16, Z15, Z0k, Z0l, Z0m, Z0n, Z0o, Z0p, Z0q, Z0r, Z0t, Z0s, w_add_str, w_add_int, w_add_ref, Z25, Z1x, Z1w, Z1j, Z22, w_eq_str, w_ne_str, w_eq_int, w_ne_int, w_eq_ref, Z1o, Z1p, Z1v, Z1t, Z1m, Z1l, Z1n, Z20, b_and_t, b_and_f, b_or_t, b_or_f, b_not_t, b_not_f, Z1, Z0, Z2, Z3, Z9, Zc, Zb, Z8, Za, Nat.reduceBEq, Int.reduceBEq, Int.reduceAdd, Int.reduceSub, Int.reduceNeg, Option.getD_some, Option.getD_none]
            refine slice_ref hq5 (by simp [sizeCap]) ?_
            have hcut : cutOf [d1, d2, d3] none (some 2) = [d1, d2] := rfl
            rw [hcut]
            refine (one_new (Nat.le_trans (by decide) hm) g5.2 (by simp) (by simp)).mono ?_
            rintro d σ₆ ⟨hd, g6⟩
            have hform : FormD d := by
              simp only [List.mem_cons, List.not_mem_nil, or_false] at hd
              rcases hd with rfl | rfl
              · exact f1
              · exact f2
            obtain ⟨told, values, tx, rfl, hrow⟩ := hform
            dsimp only [Z1i, Z28, Z1r, Z23, Z26, Z1g, Z1b, Z21, Z1z, Z1y, Z1q, Z1e, Z1s, Z1c, Z1k, Z24, Z1f, Z1d, Z27, Z1u, Z1h, Z0z, Z6, Z7, Z5, Z4, Z0v, Z0u, Z0w, Z11, Z0x, Z10, Z0y, Z0j, Z0i, Zh, Zg, Ze, Zd, Zf, Z19, Z1a, Z13, Z14, Z18, Z17, Z16, Z15, Z0k, Z0l, Z0m, Z0n, Z0o, Z0p, Z0q, Z0r, Z0t, Z0s, w_add_str, w_add_int, w_add_ref, Z25, Z1x, Z1w, Z1j, Z22, w_eq_str, w_ne_str, w_eq_int, w_ne_int, w_eq_ref, Z1o, Z1p, Z1v, Z1t, Z1m, Z1l, Z1n, Z20, b_and_t, b_and_f, b_or_t, b_or_f, b_not_t, b_not_f, Z1, Z0, Z2, Z3, Z9, Zc, Zb, Z8, Za, Nat.reduceBEq, Int.reduceBEq, Int.reduceAdd, Int.reduceSub, Int.reduceNeg, Option.getD_some, Option.getD_none]
            exact ⟨rfl, told, values, tx, rfl, hrow, g6⟩
          rintro _ _ σ₆ ⟨rfl, told, values, tx, rfl, hrow, g6⟩
          rw [Zg, runB_cons]
          refine RunX.mono (P := fun r ve₁ σ₇ => r = none ∧ ∃ xs, ve₁ = [some (.ref src), some tD, some (.tup [es, .str x]), some (.int t), some (.ref q), some told, some values, some (.str tx), some (.ref p), some (.ref p'), some (.int j), some (.tup (xs.map D.str))] ∧ (joinL [44, 32] xs).length ≤ 10 ∧ 10 ∉ joinL [44, 32] xs ∧ σ₆ = σ₇) (wS_ok _ _ _ _ ?_) ?_
          · dsimp only [Z1i, Z28, Z1r, Z23, Z26, Z1g, Z1b, Z21, Z1z, Z1y, Z1q, Z1e, Z1s, Z1c, Z1k, Z24, Z1f, Z1d, Z27, Z1u, Z1h, Z0z, Z6, Z7, Z5, Z4, Z0v, Z0u, Z0w, Z11, Z0x, Z10, Z0y, Z0j, Z0i, Zh, Zg, Ze, Zd, Zf, Z19, Z1a, Z13, Z14, Z18, Z17, Z16, Z15, Z0k, Z0l, Z0m, Z0n, Z0o, Z0p, Z0q, Z0r, Z0t, Z0s, w_add_str, w_add_int, w_add_ref, Z25, Z1x, Z1w, Z1j, Z22, w_eq_str, w_ne_str, w_eq_int, w_ne_int, w_eq_ref, Z1o, Z1p, Z1v, Z1t, Z1m, Z1l, Z1n, Z20, b_and_t, b_and_f, b_or_t, b_or_f, b_not_t, b_not_f, Z1, Z0, Z2, Z3, Z9, Zc, Zb, Z8, Za, Nat.reduceBEq, Int.reduceBEq, Int.reduceAdd, Int.reduceSub, Int.reduceNeg, Option.getD_some, Option.getD_none]
            cases (j == 1)
            · exact ⟨rfl, [[99], [95]], rfl, by decide, by decide, rfl⟩
            · exact ⟨rfl, [[99]], rfl, by decide, by decide, rfl⟩
          rintro _ _ _ ⟨rfl, xs, rfl, hx1, hx2, rfl⟩
          rw [Zg]
          refine wB_ok _ _ _ _ ?_
          have hp6 := g6.at hp nsp
          have hp6' := g6.at hp' nsp'
          have hq6 := g6.at hq5 nsq
          have hrl := hall.len
          have htx := hrow.len
          dsimp only [Z1i, Z28, Z1r, Z23, Z26, Z1g, Z1b, Z21, Z1z, Z1y, Z1q, Z1e, Z1s, Z1c, Z1k, Z24, Z1f, Z1d, Z27, Z1u, Z1h, Z0z, Z6, Z7, Z5, Z4, Z0v, Z0u, Z0w, Z11, Z0x, Z10, Z0y, Z0j, Z0i, Zh, Zg, Ze, Zd, Zf, Z19, Z1a, Z13, Z14, Z18, Z17, Z16, Z15, Z0k, Z0l, Z0m, Z0n, Z0o, Z0p, Z0q, Z0r, Z0t, Z0s, w_add_str, w_add_int, w_add_ref, Z25, Z1x, Z1w, Z1j, Z22, w_eq_str, w_ne_str, w_eq_int, w_ne_int, w_eq_ref, Z1o, Z1p, Z1v, Z1t, Z1m, Z1l, Z1n, Z20, b_and_t, b_and_f, b_or_t, b_or_f, b_not_t, b_not_f, Z1, Z0, Z2, Z3, Z9, Zc, Zb, Z8, Za, Nat.reduceBEq, Int.reduceBEq, Int.reduceAdd, Int.reduceSub, Int.reduceNeg, Option.getD_some, Option.getD_none]
          rw [run_append_ref hp6 (by first | (apply cap2; (case h1 => repeat' first | assumption | apply app_le | apply nil_le | apply cons_le); (case h2 => repeat' first | assumption | apply app_le | apply nil_le | apply cons_le); decide) | (apply cap1; (case h1 => repeat' first | assumption | apply app_le | apply nil_le | apply cons_le); decide) | (simp [sizeCap]; omega) | (unfold sizeCap; omega))]
          refine join_tup (by decide) (by first | (apply cap2; (case h1 => repeat' first | assumption | apply app_le | apply nil_le | apply cons_le); (case h2 => repeat' first | assumption | apply app_le | apply nil_le | apply cons_le); decide) | (apply cap1; (case h1 => repeat' first | assumption | apply app_le | apply nil_le | apply cons_le); decide) | (simp [sizeCap]; omega) | (unfold sizeCap; omega)) ?_
          dsimp only [Z1i, Z28, Z1r, Z23, Z26, Z1g, Z1b, Z21, Z1z, Z1y, Z1q, Z1e, Z1s, Z1c, Z1k, Z24, Z1f, Z1d, Z27, Z1u, Z1h, Z0z, Z6, Z7, Z5, Z4, Z0v, Z0u, Z0w, Z11, Z0x, Z10, Z0y, Z0j, Z0i, Zh, Zg, Ze, Zd, Zf, Z19, Z1a, Z13, Z14, Z18, Z17, Z16, Z15, Z0k, Z0l, Z0m, Z0n, Z0o, Z0p, Z0q, Z0r, Z0t, Z0s, w_add_str, w_add_int, w_add_ref, Z25, Z1x, Z1w, Z1j, Z22, w_eq_str, w_ne_str, w_eq_int, w_ne_int, w_eq_ref, Z1o, Z1p, Z1v, Z1t, Z1m, Z1l, Z1n, Z20, b_and_t, b_and_f, b_or_t, b_or_f, b_not_t, b_not_f, Z1, Z0, Z2, Z3, Z9, Zc, Zb, Z8, Za, Nat.reduceBEq, Int.reduceBEq, Int.reduceAdd, Int.reduceSub, Int.reduceNeg, Option.getD_some, Option.getD_none]
          refine ⟨by first | (apply cap2; (case h1 => repeat' first | assumption | apply app_le | apply nil_le | apply cons_le); (case h2 => repeat' first | assumption | apply app_le | apply nil_le | apply cons_le); decide) | (apply cap1; (case h1 => repeat' first | assumption | apply app_le | apply nil_le | apply cons_le); decide) | (simp [sizeCap]; omega) | (unfold sizeCap; omega), ?_⟩
          have hp7 : (σ₆.set p (trees ++ [.tup [.tup (xs.map D.str), told, values, .int j]]))[p']? = some (rows.map D.str) := by rw [List.getElem?_set_ne (Nat.ne_of_lt hpp')]; exact hp6'
          rw [run_append_ref hp7 (by rw [List.length_map, hrl, hti]; exact Nat.lt_of_lt_of_le hi (Nat.le_trans hlen (by decide)))]
          refine ⟨rfl, _, _, _, _, _, trees ++ [.tup [.tup (xs.map D.str), told, values, .int j]], rows ++ [joinL [44, 32] xs ++ tx], rfl, ?_, ?_, by simp [hti], hall.snoc ⟨xs, told, values, j, tx, rfl, hrow, hx1, hx2, rfl⟩, ?_, ((g5.trans g6).setNew hpσ nsp).setNew hσp' nsp'⟩
          · rw [List.getElem?_set_ne (Nat.ne_of_gt hpp'), List.getElem?_set_self (get_lt hp6)]
          · rw [List.getElem?_set_self (get_lt hp7)]
            simp
          · rw [List.getElem?_set_ne (Nat.ne_of_gt (Nat.lt_trans hql hpp')), List.getElem?_set_ne (Nat.ne_of_gt hql)]
            exact hq6
        · exact ⟨_, _, _, _, _, [], [], rfl, g4.at hp0 nsp, g4.at hp0' nsp', rfl, rfl, g4.at hf0 nsq, g0.trans g4⟩
        · rintro r ve σ₅ ⟨rfl, a, b, c, e, f, trees, rows, rfl, hp, hp', hti, hall, hq5, g5⟩
          exact ⟨rfl, a, b, c, e, f, trees, rows, rfl, hp, hp', by rw [hti]; exact hlen, hall, g5⟩
      rintro _ σ₅ ⟨a, b, c, e, f, trees, rows, rfl, hp, hp', hti, hall, g5⟩
      have hrl := hall.len
      have hr : ∀ r ∈ rows, r.length ≤ 30 ∧ 10 ∉ r := fun r hr => by obtain ⟨tr, ht⟩ := hall.right r hr; exact ht.row
      have hrun : ∀ n, 100 ≤ n → Txt n 15 [.tup [.str [99, 111, 110, 115, 116], .int 1, .tup trees]] (joinL [10] (constR rows)) := by
        intro n hn
        obtain ⟨z, rfl, hz⟩ := pre1 hn
        rw [const_join]
        exact decl_const hall hti (Nat.le_trans (by decide) hz)
      have hcl := const_rows (by rw [hrl]; exact hti) fun r h => (hr r h).1
      by_cases hone : ∃ r, rows = [r]
      · obtain ⟨r, rfl⟩ := hone
        have hrl2 := (hr r (List.mem_cons_self ..)).1
        refine seq_ret ?_
        dsimp only [Z1i, Z28, Z1r, Z23, Z26, Z1g, Z1b, Z21, Z1z, Z1y, Z1q, Z1e, Z1s, Z1c, Z1k, Z24, Z1f, Z1d, Z27, Z1u, Z1h, Z0z, Z6, Z7, Z5, Z4, Z0v, Z0u, Z0w, Z11, Z0x, Z10, Z0y, Z0j, Z0i, Zh, Zg, Ze, Zd, Zf, Z19, Z1a, Z13, Z14, Z18, Z17, Z16, Z15, Z0k, Z0l, Z0m, Z0n, Z0o, Z0p, Z0q, Z0r, Z0t, Z0s, w_add_str, w_add_int, w_add_ref, Z25, Z1x, Z1w, Z1j, Z22, w_eq_str, w_ne_str, w_eq_int, w_ne_int, w_eq_ref, Z1o, Z1p, Z1v, Z1t, Z1m, Z1l, Z1n, Z20, b_and_t, b_and_f, b_or_t, b_or_f, b_not_t, b_not_f, Z1, Z0, Z2, Z3, Z9, Zc, Zb, Z8, Za, Nat.reduceBEq, Int.reduceBEq, Int.reduceAdd, Int.reduceSub, Int.reduceNeg, Option.getD_some, Option.getD_none]
        rw [len_ref, hp']
        refine ⟨by simp [sizeCap], ?_⟩
        dsimp only [Z1i, Z28, Z1r, Z23, Z26, Z1g, Z1b, Z21, Z1z, Z1y, Z1q, Z1e, Z1s, Z1c, Z1k, Z24, Z1f, Z1d, Z27, Z1u, Z1h, Z0z, Z6, Z7, Z5, Z4, Z0v, Z0u, Z0w, Z11, Z0x, Z10, Z0y, Z0j, Z0i, Zh, Zg, Ze, Zd, Zf, Z19, Z1a, Z13, Z14, Z18, Z17, Z16, Z15, Z0k, Z0l, Z0m, Z0n, Z0o, Z0p, Z0q, Z0r, Z0t, Z0s, w_add_str, w_add_int, w_add_ref, Z25, Z1x, Z1w, Z1j, Z22, w_eq_str, w_ne_str, w_eq_int, w_ne_int, w_eq_ref, Z1o, Z1p, Z1v, Z1t, Z1m, Z1l, Z1n, Z20, b_and_t, b_and_f, b_or_t, b_or_f, b_not_t, b_not_f, Z1, Z0, Z2, Z3, Z9, Zc, Zb, Z8, Za, Nat.reduceBEq, Int.reduceBEq, Int.reduceAdd, Int.reduceSub, Int.reduceNeg, Option.getD_some, Option.getD_none]
        show OnBool (.bool true) _ _
        dsimp only [Z1i, Z28, Z1r, Z23, Z26, Z1g, Z1b, Z21, Z1z, Z1y, Z1q, Z1e, Z1s, Z1c, Z1k, Z24, Z1f, Z1d, Z27, Z1u, Z1h, Z0z, Z6, Z7, Z5, Z4, Z0v, Z0u, Z0w, Z11, Z0x, Z10, Z0y, Z0j, Z0i, Zh, Zg, Ze, Zd, Zf, Z19, Z1a, Z13, Z14, Z18, Z17, Z16, Z15, Z0k, Z0l, Z0m, Z0n, Z0o, Z0p, Z0q, Z0r, Z0t, Z0s, w_add_str, w_add_int, w_add_ref, Z25, Z1x, Z1w, Z1j, Z22, w_eq_str, w_ne_str, w_eq_int, w_ne_int, w_eq_ref, Z1o, Z1p, Z1v, Z1t, Z1m, Z1l, Z1n, Z20, b_and_t, b_and_f, b_or_t, b_or_f, b_not_t, b_not_f, Z1, Z0, Z2, Z3, Z9, Zc, Zb, Z8, Za, Nat.reduceBEq, Int.reduceBEq, Int.reduceAdd, Int.reduceSub, Int.reduceNeg, Option.getD_some, Option.getD_none]
        rw [tuple_ref hp]
        refine ⟨by first | (apply cap2; (case h1 => repeat' first | assumption | apply app_le | apply nil_le | apply cons_le); (case h2 => repeat' first | assumption | apply app_le | apply nil_le | apply cons_le); decide) | (apply cap1; (case h1 => repeat' first | assumption | apply app_le | apply nil_le | apply cons_le); decide) | (simp [sizeCap]; omega) | (unfold sizeCap; omega), ?_⟩
        refine item_at hp' ?_
        simp only [Z1i, Z28, Z1r, Z23, Z26, Z1g, Z1b, Z21, Z1z, Z1y, Z1q, Z1e, Z1s, Z1c, Z1k, Z24, Z1f, Z1d, Z27, Z1u, Z1h, Z0z, Z6, Z7, Z5, Z4, Z0v, Z0u, Z0w, Z11, Z0x, Z10, Z0y, Z0j, Z0i, Zh, Zg, Ze, Zd, Zf, Z19, Z1a, Z13, Z14, Z18, Z17, Z16, Z15, Z0k, Z0l, Z0m, Z0n, Z0o, Z0p, Z0q, Z0r, Z0t, Z0s, w_add_str, w_add_int, w_add_ref, Z25, Z1x, Z1w, Z1j, Z22, w_eq_str, w_ne_str, w_eq_int, w_ne_int, w_eq_ref, Z1o, Z1p, Z1v, Z1t, Z1m, Z1l, Z1n, Z20, b_and_t, b_and_f, b_or_t, b_or_f, b_not_t, b_not_f, Z1, Z0, Z2, Z3, Z9, Zc, Zb, Z8, Za, Nat.reduceBEq, Int.reduceBEq, Int.reduceAdd, Int.reduceSub, Int.reduceNeg, Option.getD_some, Option.getD_none, item_0, item_1, item_2, item_3, item_4, item_5, item_6, notin_tup, in_tup, in_str, strsOf_nil, strsOf_cons, str_7, len_str, len_ref, range_int, List.any_cons, List.any_nil, Bool.or_false, Bool.false_or, Bool.or_true, Bool.true_or, Bool.true_and, Bool.false_and, Bool.and_true, Bool.and_false, Bool.not_true, Bool.not_false, List.contains_cons, List.contains_nil, beq_self_eq_true, true_and, and_true, Int.reduceEq, Int.reduceLT, Int.reduceLE, decide_true, decide_false, List.length_cons, List.length_nil, Nat.reduceAdd, Nat.reduceLeDiff, eq_self, item_0, List.map_cons]
        refine ⟨by first | (apply cap2; (case h1 => repeat' first | assumption | apply app_le | apply nil_le | apply cons_le); (case h2 => repeat' first | assumption | apply app_le | apply nil_le | apply cons_le); decide) | (apply cap1; (case h1 => repeat' first | assumption | apply app_le | apply nil_le | apply cons_le); decide) | (simp [sizeCap]; omega) | (unfold sizeCap; omega), _, rfl, _, _, _, rfl, hrun, hcl, ?_, g5.new⟩
        rw [get_new]; rfl
      · have hcR : constR rows = [99, 111, 110, 115, 116, 32, 40] :: (rows.map (fun r => 9 :: r) ++ [[41]]) := by
          unfold constR
          split
          · rename_i r; exact absurd ⟨r, rfl⟩ hone
          · rfl
        have hn1 : rows.length ≠ 1 := by
          intro e
          obtain ⟨r, e⟩ := List.length_eq_one_iff.mp e
          exact hone ⟨r, e⟩
        refine seq_ok (fun ve σ' => ve = [some (.ref src), some tD, some (.tup [es, .str x]), some (.int t), some (.ref q), a, b, c, some (.ref p), some (.ref p'), e, f] ∧ σ₅ = σ') ?_ ?_
        · dsimp only [Z1i, Z28, Z1r, Z23, Z26, Z1g, Z1b, Z21, Z1z, Z1y, Z1q, Z1e, Z1s, Z1c, Z1k, Z24, Z1f, Z1d, Z27, Z1u, Z1h, Z0z, Z6, Z7, Z5, Z4, Z0v, Z0u, Z0w, Z11, Z0x, Z10, Z0y, Z0j, Z0i, Zh, Zg, Ze, Zd, Zf, Z19, Z1a, Z13, Z14, Z18, Z17, Z16, Z15, Z0k, Z0l, Z0m, Z0n, Z0o, Z0p, Z0q, Z0r, Z0t, Z0s, w_add_str, w_add_int, w_add_ref, Z25, Z1x, Z1w, Z1j, Z22, w_eq_str, w_ne_str, w_eq_int, w_ne_int, w_eq_ref, Z1o, Z1p, Z1v, Z1t, Z1m, Z1l, Z1n, Z20, b_and_t, b_and_f, b_or_t, b_or_f, b_not_t, b_not_f, Z1, Z0, Z2, Z3, Z9, Zc, Zb, Z8, Za, Nat.reduceBEq, Int.reduceBEq, Int.reduceAdd, Int.reduceSub, Int.reduceNeg, Option.getD_some, Option.getD_none]
          rw [len_ref, hp']
          refine ⟨by rw [List.length_map, hrl]; exact Nat.le_trans hti (by decide), ?_⟩
          dsimp only [Z1i, Z28, Z1r, Z23, Z26, Z1g, Z1b, Z21, Z1z, Z1y, Z1q, Z1e, Z1s, Z1c, Z1k, Z24, Z1f, Z1d, Z27, Z1u, Z1h, Z0z, Z6, Z7, Z5, Z4, Z0v, Z0u, Z0w, Z11, Z0x, Z10, Z0y, Z0j, Z0i, Zh, Zg, Ze, Zd, Zf, Z19, Z1a, Z13, Z14, Z18, Z17, Z16, Z15, Z0k, Z0l, Z0m, Z0n, Z0o, Z0p, Z0q, Z0r, Z0t, Z0s, w_add_str, w_add_int, w_add_ref, Z25, Z1x, Z1w, Z1j, Z22, w_eq_str, w_ne_str, w_eq_int, w_ne_int, w_eq_ref, Z1o, Z1p, Z1v, Z1t, Z1m, Z1l, Z1n, Z20, b_and_t, b_and_f, b_or_t, b_or_f, b_not_t, b_not_f, Z1, Z0, Z2, Z3, Z9, Zc, Zb, Z8, Za, Nat.reduceBEq, Int.reduceBEq, Int.reduceAdd, Int.reduceSub, Int.reduceNeg, Option.getD_some, Option.getD_none]
          rw [List.length_map, ne_one hn1]
          exact ⟨rfl, rfl, rfl⟩
        rintro _ _ ⟨rfl, rfl⟩
        refine wB_ok _ _ _ _ ?_
        dsimp only [Z1i, Z28, Z1r, Z23, Z26, Z1g, Z1b, Z21, Z1z, Z1y, Z1q, Z1e, Z1s, Z1c, Z1k, Z24, Z1f, Z1d, Z27, Z1u, Z1h, Z0z, Z6, Z7, Z5, Z4, Z0v, Z0u, Z0w, Z11, Z0x, Z10, Z0y, Z0j, Z0i, Zh, Zg, Ze, Zd, Zf, Z19, Z1a, Z13, Z14, Z18, Z17, Z16, Z15, Z0k, Z0l, Z0m, Z0n, Z0o, Z0p, Z0q, Z0r, Z0t, Z0s, w_add_str, w_add_int, w_add_ref, Z25, Z1x, Z1w, Z1j, Z22, w_eq_str, w_ne_str, w_eq_int, w_ne_int, w_eq_ref, Z1o, Z1p, Z1v, Z1t, Z1m, Z1l, Z1n, Z20, b_and_t, b_and_f, b_or_t, b_or_f, b_not_t, b_not_f, Z1, Z0, Z2, Z3, Z9, Zc, Zb, Z8, Za, Nat.reduceBEq, Int.reduceBEq, Int.reduceAdd, Int.reduceSub, Int.reduceNeg, Option.getD_some, Option.getD_none]
        rw [tuple_ref hp]
        refine ⟨by first | (apply cap2; (case h1 => repeat' first | assumption | apply app_le | apply nil_le | apply cons_le); (case h2 => repeat' first | assumption | apply app_le | apply nil_le | apply cons_le); decide) | (apply cap1; (case h1 => repeat' first | assumption | apply app_le | apply nil_le | apply cons_le); decide) | (simp [sizeCap]; omega) | (unfold sizeCap; omega), ?_⟩
        have gB : Gs [] σ₅ (σ₅ ++ [[.str [99, 111, 110, 115, 116, 32, 40]]]) := Gs.app
        have hB : (σ₅ ++ [[.str [99, 111, 110, 115, 116, 32, 40]]])[σ₅.length]? = some [.str [99, 111, 110, 115, 116, 32, 40]] := get_new
        generalize σ₅ ++ [[.str [99, 111, 110, 115, 116, 32, 40]]] = σ₆ at *
        generalize σ₅.length = b6 at *
        refine ⟨_, gB.get hp', ?_⟩
        refine tabs_ok (gB.get hp') (by rw [hrl]; exact Nat.le_trans hti (by decide)) (fun r h => Nat.le_trans (hr r h).1 (by decide)) fun σ₇ h7 g7 => ?_
        have hB7 := g7.get hB
        generalize σ₆.length = b7 at *
        rw [add_ref hB7 h7 (by first | (apply cap2; (case h1 => repeat' first | assumption | apply app_le | apply nil_le | apply cons_le); (case h2 => repeat' first | assumption | apply app_le | apply nil_le | apply cons_le); decide) | (apply cap1; (case h1 => repeat' first | assumption | apply app_le | apply nil_le | apply cons_le); decide) | (simp [sizeCap]; omega) | (unfold sizeCap; omega))]
        have gC : Gs [] σ₇ (σ₇ ++ [[D.str [99, 111, 110, 115, 116, 32, 40]] ++ (rows.map fun r => 9 :: r).map D.str]) := Gs.app
        have hC : (σ₇ ++ [[D.str [99, 111, 110, 115, 116, 32, 40]] ++ (rows.map fun r => 9 :: r).map D.str])[σ₇.length]? = some ([D.str [99, 111, 110, 115, 116, 32, 40]] ++ (rows.map fun r => 9 :: r).map D.str) := get_new
        generalize σ₇ ++ [[D.str [99, 111, 110, 115, 116, 32, 40]] ++ (rows.map fun r => 9 :: r).map D.str] = σ₈ at *
        try dsimp only [Z1i, Z28, Z1r, Z23, Z26, Z1g, Z1b, Z21, Z1z, Z1y, Z1q, Z1e, Z1s, Z1c, Z1k, Z24, Z1f, Z1d, Z27, Z1u, Z1h, Z0z, Z6, Z7, Z5, Z4, Z0v, Z0u, Z0w, Z11, Z0x, Z10, Z0y, Z0j, Z0i, Zh, Zg, Ze, Zd, Zf, Z19, Z1a, Z13, Z14, Z18, Z17, Z16, Z15, Z0k, Z0l, Z0m, Z0n, Z0o, Z0p, Z0q, Z0r, Z0t, Z0s, w_add_str, w_add_int, w_add_ref, Z25, Z1x, Z1w, Z1j, Z22, w_eq_str, w_ne_str, w_eq_int, w_ne_int, w_eq_ref, Z1o, Z1p, Z1v, Z1t, Z1m, Z1l, Z1n, Z20, b_and_t, b_and_f, b_or_t, b_or_f, b_not_t, b_not_f, Z1, Z0, Z2, Z3, Z9, Zc, Zb, Z8, Za, Nat.reduceBEq, Int.reduceBEq, Int.reduceAdd, Int.reduceSub, Int.reduceNeg, Option.getD_some, Option.getD_none]
        rw [add_ref ((Gs.app : Gs [] σ₈ _).get hC) get_new (by first | (apply cap2; (case h1 => repeat' first | assumption | apply app_le | apply nil_le | apply cons_le); (case h2 => repeat' first | assumption | apply app_le | apply nil_le | apply cons_le); decide) | (apply cap1; (case h1 => repeat' first | assumption | apply app_le | apply nil_le | apply cons_le); decide) | (simp [sizeCap]; omega) | (unfold sizeCap; omega))]
        refine ⟨_, constR rows, _, rfl, hrun, hcl, ?_, g5.trans (Go.ext g5.2 (((gB.trans g7).trans gC).trans (Gs.app.trans Gs.app)))⟩
        rw [get_new, hcR]
        simp
end Mine
end

section
open PySem
namespace Mine
noncomputable def xD : D := .tup [.str [115, 116, 101, 112], .int 1, .tup [.str [110, 97, 109, 101], .int 2, .str [120]], .str [43, 43]]
theorem sim_x : Sim xD [120, 43, 43] := sim_step (i := 1) (e := nameD 2 [120]) (t := [120]) (s := [43, 43]) ⟨fun _ => sh_name (by omega) (by decide) (by decide), by decide, by decide⟩ (.inl rfl)
theorem ex_b : Ex (nameD 3 [98]) [98] := ⟨fun _ => sh_name (by omega) (by decide) (by decide), by decide, by decide⟩
noncomputable def firstD : D := .tup [.str [102, 111, 114], .int 1, .none, xD, nameD 3 [98], .none, .tup [.str [98, 108, 111, 99, 107], .int 4, .tup [xD]]]
theorem first_loop : Txt 600 19 [firstD] [102, 111, 114, 32, 120, 43, 43, 59, 32, 98, 59, 32, 123, 10, 9, 120, 43, 43, 10, 125] := by
  have hb : Txt 599 12 [.tup [.str [98, 108, 111, 99, 107], .int 4, .tup [xD]]] (joinL [10] (braceR [[120, 43, 43]])) :=
    block_ok (m := 596) (K := 61) (N := 1) (M := 40) (trees := [xD]) (rowss := [[[120, 43, 43]]]) ⟨_, [], rfl, sim_st sim_x (by omega) (by omega) (by omega), rfl⟩ (by simp) (by omega) (by omega)
  exact loop_ok (m := 599) (lab := .none) (p := []) sim_x.some ex_b.some (.inl ⟨rfl, rfl⟩) hb (by decide) (by omega)

theorem cut_told {tt : List Nat} (h : tt = [] ∨ tt = [97, 32]) : ∃ a, cutOf tt none (some 1) = a ∧ a.length ≤ 1 ∧ toldT a ++ [32] = [32] ++ tt := by
  rcases h with rfl | rfl
  · exact ⟨[], rfl, by decide, rfl⟩
  · exact ⟨[97], rfl, by decide, rfl⟩

set_option maxHeartbeats 1000000 in
theorem plain2 (zs : List Int) (hl : zs.length ≤ 63) : RunX (pexecs ops2 (C2 600) G2_34.body (some (.script zs) :: List.replicate 8 none) []) fun r _ _ => r = some (.bool true) := by
  unfold G2_34
  simp only [List.replicate]
  refine seq_ok (fun ve σ' => ve = [some (.script zs), some xD, none, none, none, none, none, none, none] ∧ [] = σ') (by dsimp only [Z1i, Z28, Z1r, Z23, Z26, Z1g, Z1b, Z21, Z1z, Z1y, Z1q, Z1e, Z1s, Z1c, Z1k, Z24, Z1f, Z1d, Z27, Z1u, Z1h, Z0z, Z6, Z7, Z5, Z4, Z0v, Z0u, Z0w, Z11, Z0x, Z10, Z0y, Z0j, Z0i, Zh, Zg, Ze, Zd, Zf, Z19, Z1a, Z13, Z14, Z18, Z17, Z16, Z15, Z0k, Z0l, Z0m, Z0n, Z0o, Z0p, Z0q, Z0r, Z0t, Z0s, w_add_str, w_add_int, w_add_ref, Z25, Z1x, Z1w, Z1j, Z22, w_eq_str, w_ne_str, w_eq_int, w_ne_int, w_eq_ref, Z1o, Z1p, Z1v, Z1t, Z1m, Z1l, Z1n, Z20, b_and_t, b_and_f, b_or_t, b_or_f, b_not_t, b_not_f, Z1, Z0, Z2, Z3, Z9, Zc, Zb, Z8, Za, Nat.reduceBEq, Int.reduceBEq, Int.reduceAdd, Int.reduceSub, Int.reduceNeg, Option.getD_some, Option.getD_none]; exact ⟨rfl, rfl, rfl⟩) ?_
  rintro _ _ ⟨rfl, rfl⟩
  refine seq_ok (fun ve σ' => ve = [some (.script zs), some xD, none, none, none, none, none, none, none]) ?_ ?_
  · dsimp only [Z1i, Z28, Z1r, Z23, Z26, Z1g, Z1b, Z21, Z1z, Z1y, Z1q, Z1e, Z1s, Z1c, Z1k, Z24, Z1f, Z1d, Z27, Z1u, Z1h, Z0z, Z6, Z7, Z5, Z4, Z0v, Z0u, Z0w, Z11, Z0x, Z10, Z0y, Z0j, Z0i, Zh, Zg, Ze, Zd, Zf, Z19, Z1a, Z13, Z14, Z18, Z17, Z16, Z15, Z0k, Z0l, Z0m, Z0n, Z0o, Z0p, Z0q, Z0r, Z0t, Z0s, w_add_str, w_add_int, w_add_ref, Z25, Z1x, Z1w, Z1j, Z22, w_eq_str, w_ne_str, w_eq_int, w_ne_int, w_eq_ref, Z1o, Z1p, Z1v, Z1t, Z1m, Z1l, Z1n, Z20, b_and_t, b_and_f, b_or_t, b_or_f, b_not_t, b_not_f, Z1, Z0, Z2, Z3, Z9, Zc, Zb, Z8, Za, Nat.reduceBEq, Int.reduceBEq, Int.reduceAdd, Int.reduceSub, Int.reduceNeg, Option.getD_some, Option.getD_none]
    refine (first_loop []).mono ?_
    rintro _ σ₁ ⟨rfl, -⟩
    dsimp only [Z1i, Z28, Z1r, Z23, Z26, Z1g, Z1b, Z21, Z1z, Z1y, Z1q, Z1e, Z1s, Z1c, Z1k, Z24, Z1f, Z1d, Z27, Z1u, Z1h, Z0z, Z6, Z7, Z5, Z4, Z0v, Z0u, Z0w, Z11, Z0x, Z10, Z0y, Z0j, Z0i, Zh, Zg, Ze, Zd, Zf, Z19, Z1a, Z13, Z14, Z18, Z17, Z16, Z15, Z0k, Z0l, Z0m, Z0n, Z0o, Z0p, Z0q, Z0r, Z0t, Z0s, w_add_str, w_add_int, w_add_ref, Z25, Z1x, Z1w, Z1j, Z22, w_eq_str, w_ne_str, w_eq_int, w_ne_int, w_eq_ref, Z1o, Z1p, Z1v, Z1t, Z1m, Z1l, Z1n, Z20, b_and_t, b_and_f, b_or_t, b_or_f, b_not_t, b_not_f, Z1, Z0, Z2, Z3, Z9, Zc, Zb, Z8, Za, Nat.reduceBEq, Int.reduceBEq, Int.reduceAdd, Int.reduceSub, Int.reduceNeg, Option.getD_some, Option.getD_none]
    try rw [beq_self_eq_true]
    exact ⟨rfl, rfl⟩
  rintro _ σ₁ rfl
  refine seq_ok (fun ve σ' => ∃ src, ve = [some (.script zs), some xD, some (.ref src), none, none, none, none, none, none] ∧ Src src σ') ?_ ?_
  · dsimp only [Z1i, Z28, Z1r, Z23, Z26, Z1g, Z1b, Z21, Z1z, Z1y, Z1q, Z1e, Z1s, Z1c, Z1k, Z24, Z1f, Z1d, Z27, Z1u, Z1h, Z0z, Z6, Z7, Z5, Z4, Z0v, Z0u, Z0w, Z11, Z0x, Z10, Z0y, Z0j, Z0i, Zh, Zg, Ze, Zd, Zf, Z19, Z1a, Z13, Z14, Z18, Z17, Z16, Z15, Z0k, Z0l, Z0m, Z0n, Z0o, Z0p, Z0q, Z0r, Z0t, Z0s, w_add_str, w_add_int, w_add_ref, Z25, Z1x, Z1w, Z1j, Z22, w_eq_str, w_ne_str, w_eq_int, w_ne_int, w_eq_ref, Z1o, Z1p, Z1v, Z1t, Z1m, Z1l, Z1n, Z20, b_and_t, b_and_f, b_or_t, b_or_f, b_not_t, b_not_f, Z1, Z0, Z2, Z3, Z9, Zc, Zb, Z8, Za, Nat.reduceBEq, Int.reduceBEq, Int.reduceAdd, Int.reduceSub, Int.reduceNeg, Option.getD_some, Option.getD_none]
    refine (pool_ok (by decide) hl).mono ?_
    rintro _ σ₂ ⟨src, rfl, _, hs, _⟩
    exact ⟨rfl, src, rfl, hs⟩
  rintro _ σ₂ ⟨src, rfl, hs⟩
  -- the choice
  refine seq_ok (fun ve σ' => ∃ rest rows r, ve = [some (.script zs), some xD, some (.ref src), some (.tup (.str [105, 102] :: rest)), some (.ref r), none, none, none, none] ∧ Txt 600 18 [.tup (.str [105, 102] :: rest)] (joinL [10] rows) ∧ (joinL [10] rows).length ≤ 900000 ∧ σ'[r]? = some (rows.map D.str) ∧ Src src σ') ?_ ?_
  · dsimp only [Z1i, Z28, Z1r, Z23, Z26, Z1g, Z1b, Z21, Z1z, Z1y, Z1q, Z1e, Z1s, Z1c, Z1k, Z24, Z1f, Z1d, Z27, Z1u, Z1h, Z0z, Z6, Z7, Z5, Z4, Z0v, Z0u, Z0w, Z11, Z0x, Z10, Z0y, Z0j, Z0i, Zh, Zg, Ze, Zd, Zf, Z19, Z1a, Z13, Z14, Z18, Z17, Z16, Z15, Z0k, Z0l, Z0m, Z0n, Z0o, Z0p, Z0q, Z0r, Z0t, Z0s, w_add_str, w_add_int, w_add_ref, Z25, Z1x, Z1w, Z1j, Z22, w_eq_str, w_ne_str, w_eq_int, w_ne_int, w_eq_ref, Z1o, Z1p, Z1v, Z1t, Z1m, Z1l, Z1n, Z20, b_and_t, b_and_f, b_or_t, b_or_f, b_not_t, b_not_f, Z1, Z0, Z2, Z3, Z9, Zc, Zb, Z8, Za, Nat.reduceBEq, Int.reduceBEq, Int.reduceAdd, Int.reduceSub, Int.reduceNeg, Option.getD_some, Option.getD_none]
    refine (ch1 600 σ₂ (by decide) hs).mono ?_
    rintro _ σ₃ ⟨rest, rows, r, rfl, h1, h2, h3, g, -⟩
    have hj := h2.join_len
    have e : nn (1 + 1) * (mm (1 + 1) + 1) ≤ 900000 := by decide
    exact ⟨rfl, rest, rows, r, rfl, h1 600 (by decide), by omega, h3, g.2⟩
  rintro _ σ₃ ⟨rest, rows, r, rfl, h1, h2, h3, hs3⟩
  generalize D.tup (.str [105, 102] :: rest) = tree at *
  refine seq_ok (fun ve σ' => ve = [some (.script zs), some xD, some (.ref src), some tree, some (.ref r), none, none, none, none] ∧ Src src σ') ?_ ?_
  · dsimp only [Z1i, Z28, Z1r, Z23, Z26, Z1g, Z1b, Z21, Z1z, Z1y, Z1q, Z1e, Z1s, Z1c, Z1k, Z24, Z1f, Z1d, Z27, Z1u, Z1h, Z0z, Z6, Z7, Z5, Z4, Z0v, Z0u, Z0w, Z11, Z0x, Z10, Z0y, Z0j, Z0i, Zh, Zg, Ze, Zd, Zf, Z19, Z1a, Z13, Z14, Z18, Z17, Z16, Z15, Z0k, Z0l, Z0m, Z0n, Z0o, Z0p, Z0q, Z0r, Z0t, Z0s, w_add_str, w_add_int, w_add_ref, Z25, Z1x, Z1w, Z1j, Z22, w_eq_str, w_ne_str, w_eq_int, w_ne_int, w_eq_ref, Z1o, Z1p, Z1v, Z1t, Z1m, Z1l, Z1n, Z20, b_and_t, b_and_f, b_or_t, b_or_f, b_not_t, b_not_f, Z1, Z0, Z2, Z3, Z9, Zc, Zb, Z8, Za, Nat.reduceBEq, Int.reduceBEq, Int.reduceAdd, Int.reduceSub, Int.reduceNeg, Option.getD_some, Option.getD_none]
    refine (h1 σ₃).mono ?_
    rintro _ σ₄ ⟨rfl, g⟩
    refine join_ref (g.get h3) (by decide) (by first | (apply cap2; (case h1 => repeat' first | assumption | apply app_le | apply nil_le | apply cons_le); (case h2 => repeat' first | assumption | apply app_le | apply nil_le | apply cons_le); decide) | (apply cap1; (case h1 => repeat' first | assumption | apply app_le | apply nil_le | apply cons_le); decide) | (simp [sizeCap]; omega) | (unfold sizeCap; omega)) ?_
    dsimp only [Z1i, Z28, Z1r, Z23, Z26, Z1g, Z1b, Z21, Z1z, Z1y, Z1q, Z1e, Z1s, Z1c, Z1k, Z24, Z1f, Z1d, Z27, Z1u, Z1h, Z0z, Z6, Z7, Z5, Z4, Z0v, Z0u, Z0w, Z11, Z0x, Z10, Z0y, Z0j, Z0i, Zh, Zg, Ze, Zd, Zf, Z19, Z1a, Z13, Z14, Z18, Z17, Z16, Z15, Z0k, Z0l, Z0m, Z0n, Z0o, Z0p, Z0q, Z0r, Z0t, Z0s, w_add_str, w_add_int, w_add_ref, Z25, Z1x, Z1w, Z1j, Z22, w_eq_str, w_ne_str, w_eq_int, w_ne_int, w_eq_ref, Z1o, Z1p, Z1v, Z1t, Z1m, Z1l, Z1n, Z20, b_and_t, b_and_f, b_or_t, b_or_f, b_not_t, b_not_f, Z1, Z0, Z2, Z3, Z9, Zc, Zb, Z8, Za, Nat.reduceBEq, Int.reduceBEq, Int.reduceAdd, Int.reduceSub, Int.reduceNeg, Option.getD_some, Option.getD_none]
    rw [beq_self_eq_true]
    exact ⟨rfl, rfl, hs3.ext g⟩
  rintro _ σ₄ ⟨rfl, hs4⟩
  clear h1 h2 h3
  -- the loop
  refine seq_ok (fun ve σ' => ∃ tree rows r, ve = [some (.script zs), some xD, some (.ref src), some tree, some (.ref r), none, none, none, none] ∧ Txt 600 19 [tree] (joinL [10] rows) ∧ (joinL [10] rows).length ≤ 900000 ∧ σ'[r]? = some (rows.map D.str) ∧ Src src σ') ?_ ?_
  · dsimp only [Z1i, Z28, Z1r, Z23, Z26, Z1g, Z1b, Z21, Z1z, Z1y, Z1q, Z1e, Z1s, Z1c, Z1k, Z24, Z1f, Z1d, Z27, Z1u, Z1h, Z0z, Z6, Z7, Z5, Z4, Z0v, Z0u, Z0w, Z11, Z0x, Z10, Z0y, Z0j, Z0i, Zh, Zg, Ze, Zd, Zf, Z19, Z1a, Z13, Z14, Z18, Z17, Z16, Z15, Z0k, Z0l, Z0m, Z0n, Z0o, Z0p, Z0q, Z0r, Z0t, Z0s, w_add_str, w_add_int, w_add_ref, Z25, Z1x, Z1w, Z1j, Z22, w_eq_str, w_ne_str, w_eq_int, w_ne_int, w_eq_ref, Z1o, Z1p, Z1v, Z1t, Z1m, Z1l, Z1n, Z20, b_and_t, b_and_f, b_or_t, b_or_f, b_not_t, b_not_f, Z1, Z0, Z2, Z3, Z9, Zc, Zb, Z8, Za, Nat.reduceBEq, Int.reduceBEq, Int.reduceAdd, Int.reduceSub, Int.reduceNeg, Option.getD_some, Option.getD_none]
    refine (loop_gen (by decide) hs4).mono ?_
    rintro _ σ₅ ⟨tree, rows, r, rfl, h1, h2, h3, g⟩
    exact ⟨rfl, tree, rows, r, rfl, h1 600 (by decide), h2, h3, g.2⟩
  rintro _ σ₅ ⟨tree', rows', r', rfl, h1, h2, h3, hs5⟩
  refine seq_ok (fun ve σ' => ve = [some (.script zs), some xD, some (.ref src), some tree', some (.ref r'), none, none, none, none] ∧ Src src σ') ?_ ?_
  · dsimp only [Z1i, Z28, Z1r, Z23, Z26, Z1g, Z1b, Z21, Z1z, Z1y, Z1q, Z1e, Z1s, Z1c, Z1k, Z24, Z1f, Z1d, Z27, Z1u, Z1h, Z0z, Z6, Z7, Z5, Z4, Z0v, Z0u, Z0w, Z11, Z0x, Z10, Z0y, Z0j, Z0i, Zh, Zg, Ze, Zd, Zf, Z19, Z1a, Z13, Z14, Z18, Z17, Z16, Z15, Z0k, Z0l, Z0m, Z0n, Z0o, Z0p, Z0q, Z0r, Z0t, Z0s, w_add_str, w_add_int, w_add_ref, Z25, Z1x, Z1w, Z1j, Z22, w_eq_str, w_ne_str, w_eq_int, w_ne_int, w_eq_ref, Z1o, Z1p, Z1v, Z1t, Z1m, Z1l, Z1n, Z20, b_and_t, b_and_f, b_or_t, b_or_f, b_not_t, b_not_f, Z1, Z0, Z2, Z3, Z9, Zc, Zb, Z8, Za, Nat.reduceBEq, Int.reduceBEq, Int.reduceAdd, Int.reduceSub, Int.reduceNeg, Option.getD_some, Option.getD_none]
    refine (h1 σ₅).mono ?_
    rintro _ σ₄ ⟨rfl, g⟩
    refine join_ref (g.get h3) (by decide) (by first | (apply cap2; (case h1 => repeat' first | assumption | apply app_le | apply nil_le | apply cons_le); (case h2 => repeat' first | assumption | apply app_le | apply nil_le | apply cons_le); decide) | (apply cap1; (case h1 => repeat' first | assumption | apply app_le | apply nil_le | apply cons_le); decide) | (simp [sizeCap]; omega) | (unfold sizeCap; omega)) ?_
    dsimp only [Z1i, Z28, Z1r, Z23, Z26, Z1g, Z1b, Z21, Z1z, Z1y, Z1q, Z1e, Z1s, Z1c, Z1k, Z24, Z1f, Z1d, Z27, Z1u, Z1h, Z0z, Z6, Z7, Z5, Z4, Z0v, Z0u, Z0w, Z11, Z0x, Z10, Z0y, Z0j, Z0i, Zh, Zg, Ze, Zd, Zf, Z19, Z1a, Z13, Z14, Z18, Z17, Z16, Z15, Z0k, Z0l, Z0m, Z0n, Z0o, Z0p, Z0q, Z0r, Z0t, Z0s, w_add_str, w_add_int, w_add_ref, Z25, Z1x, Z1w, Z1j, Z22, w_eq_str, w_ne_str, w_eq_int, w_ne_int, w_eq_ref, Z1o, Z1p, Z1v, Z1t, Z1m, Z1l, Z1n, Z20, b_and_t, b_and_f, b_or_t, b_or_f, b_not_t, b_not_f, Z1, Z0, Z2, Z3, Z9, Zc, Zb, Z8, Za, Nat.reduceBEq, Int.reduceBEq, Int.reduceAdd, Int.reduceSub, Int.reduceNeg, Option.getD_some, Option.getD_none]
    rw [beq_self_eq_true]
    exact ⟨rfl, rfl, hs5.ext g⟩
  rintro _ σ₆ ⟨rfl, hs6⟩
  clear h1 h2 h3
  -- the cases
  refine seq_ok (fun ve σ' => ∃ q cs rps r, ve = [some (.script zs), some xD, some (.ref src), some tree', some (.ref r), some (.ref q), none, none, none] ∧ σ'[q]? = some cs ∧ All2 CaseOK cs rps ∧ cs.length ≤ 3 ∧ σ'[r]? = some ((braceR rps.flatten).map D.str) ∧ Src src σ') ?_ ?_
  · dsimp only [Z1i, Z28, Z1r, Z23, Z26, Z1g, Z1b, Z21, Z1z, Z1y, Z1q, Z1e, Z1s, Z1c, Z1k, Z24, Z1f, Z1d, Z27, Z1u, Z1h, Z0z, Z6, Z7, Z5, Z4, Z0v, Z0u, Z0w, Z11, Z0x, Z10, Z0y, Z0j, Z0i, Zh, Zg, Ze, Zd, Zf, Z19, Z1a, Z13, Z14, Z18, Z17, Z16, Z15, Z0k, Z0l, Z0m, Z0n, Z0o, Z0p, Z0q, Z0r, Z0t, Z0s, w_add_str, w_add_int, w_add_ref, Z25, Z1x, Z1w, Z1j, Z22, w_eq_str, w_ne_str, w_eq_int, w_ne_int, w_eq_ref, Z1o, Z1p, Z1v, Z1t, Z1m, Z1l, Z1n, Z20, b_and_t, b_and_f, b_or_t, b_or_f, b_not_t, b_not_f, Z1, Z0, Z2, Z3, Z9, Zc, Zb, Z8, Za, Nat.reduceBEq, Int.reduceBEq, Int.reduceAdd, Int.reduceSub, Int.reduceNeg, Option.getD_some, Option.getD_none]
    refine (cases_gen (by decide) hs6).mono ?_
    rintro _ σ₇ ⟨q, cs, rps, r, rfl, h1, h2, h3, h4, g⟩
    exact ⟨rfl, q, cs, rps, r, rfl, h1, h2, h3, h4, g.2⟩
  rintro _ σ₇ ⟨q, cs, rps, r₂, rfl, h1, h2, h3, h4, hs7⟩
  refine seq_ok (fun ve σ' => ve = [some (.script zs), some xD, some (.ref src), some tree', some (.ref r₂), some (.ref q), none, none, none] ∧ Src src σ') ?_ ?_
  · dsimp only [Z1i, Z28, Z1r, Z23, Z26, Z1g, Z1b, Z21, Z1z, Z1y, Z1q, Z1e, Z1s, Z1c, Z1k, Z24, Z1f, Z1d, Z27, Z1u, Z1h, Z0z, Z6, Z7, Z5, Z4, Z0v, Z0u, Z0w, Z11, Z0x, Z10, Z0y, Z0j, Z0i, Zh, Zg, Ze, Zd, Zf, Z19, Z1a, Z13, Z14, Z18, Z17, Z16, Z15, Z0k, Z0l, Z0m, Z0n, Z0o, Z0p, Z0q, Z0r, Z0t, Z0s, w_add_str, w_add_int, w_add_ref, Z25, Z1x, Z1w, Z1j, Z22, w_eq_str, w_ne_str, w_eq_int, w_ne_int, w_eq_ref, Z1o, Z1p, Z1v, Z1t, Z1m, Z1l, Z1n, Z20, b_and_t, b_and_f, b_or_t, b_or_f, b_not_t, b_not_f, Z1, Z0, Z2, Z3, Z9, Zc, Zb, Z8, Za, Nat.reduceBEq, Int.reduceBEq, Int.reduceAdd, Int.reduceSub, Int.reduceNeg, Option.getD_some, Option.getD_none]
    refine (cases_ok (by decide) h1 h2 h3).mono ?_
    rintro _ σ₈ ⟨rfl, g⟩
    have hlen : (joinL [10] (braceR rps.flatten)).length ≤ 900000 := by
      have hx : ∀ y ∈ rps, Rows y 33 565 := fun y hy => by obtain ⟨c, hc⟩ := h2.right y hy; exact hc.rows
      have hb : Rows (braceR rps.flatten) (99 + 2) (565 + 1) := by
        refine brace_rows ?_ ?_ ?_ (by omega)
        · intro r hr
          obtain ⟨y, hy, hr⟩ := List.mem_flatten.mp hr
          exact (hx y hy).row r hr
        · have := flat_num (fun y hy => (hx y hy).num)
          have h6 : rps.length * 33 ≤ 3 * 33 := Nat.mul_le_mul (by rw [h2.len]; omega) (Nat.le_refl _)
          omega
        · intro r hr
          obtain ⟨y, hy, hr⟩ := List.mem_flatten.mp hr
          exact (hx y hy).len r hr
      have := hb.join_len
      omega
    refine join_ref (g.get h4) (by decide) (by first | (apply cap2; (case h1 => repeat' first | assumption | apply app_le | apply nil_le | apply cons_le); (case h2 => repeat' first | assumption | apply app_le | apply nil_le | apply cons_le); decide) | (apply cap1; (case h1 => repeat' first | assumption | apply app_le | apply nil_le | apply cons_le); decide) | (simp [sizeCap]; omega) | (unfold sizeCap; omega)) ?_
    dsimp only [Z1i, Z28, Z1r, Z23, Z26, Z1g, Z1b, Z21, Z1z, Z1y, Z1q, Z1e, Z1s, Z1c, Z1k, Z24, Z1f, Z1d, Z27, Z1u, Z1h, Z0z, Z6, Z7, Z5, Z4, Z0v, Z0u, Z0w, Z11, Z0x, Z10, Z0y, Z0j, Z0i, Zh, Zg, Ze, Zd, Zf, Z19, Z1a, Z13, Z14, Z18, Z17, Z16, Z15, Z0k, Z0l, Z0m, Z0n, Z0o, Z0p, Z0q, Z0r, Z0t, Z0s, w_add_str, w_add_int, w_add_ref, Z25, Z1x, Z1w, Z1j, Z22, w_eq_str, w_ne_str, w_eq_int, w_ne_int, w_eq_ref, Z1o, Z1p, Z1v, Z1t, Z1m, Z1l, Z1n, Z20, b_and_t, b_and_f, b_or_t, b_or_f, b_not_t, b_not_f, Z1, Z0, Z2, Z3, Z9, Zc, Zb, Z8, Za, Nat.reduceBEq, Int.reduceBEq, Int.reduceAdd, Int.reduceSub, Int.reduceNeg, Option.getD_some, Option.getD_none]
    rw [beq_self_eq_true]
    exact ⟨rfl, rfl, hs7.ext g⟩
  rintro _ σ₈ ⟨rfl, hs8⟩
  clear h1 h2 h3 h4
  -- a simple statement and headers
  refine seq_ok (fun ve σ' => ∃ tree t, ve = [some (.script zs), some xD, some (.ref src), some tree, some (.ref r₂), some (.ref q), some (.str t), none, none] ∧ Sim tree t ∧ Src src σ') ?_ ?_
  · dsimp only [Z1i, Z28, Z1r, Z23, Z26, Z1g, Z1b, Z21, Z1z, Z1y, Z1q, Z1e, Z1s, Z1c, Z1k, Z24, Z1f, Z1d, Z27, Z1u, Z1h, Z0z, Z6, Z7, Z5, Z4, Z0v, Z0u, Z0w, Z11, Z0x, Z10, Z0y, Z0j, Z0i, Zh, Zg, Ze, Zd, Zf, Z19, Z1a, Z13, Z14, Z18, Z17, Z16, Z15, Z0k, Z0l, Z0m, Z0n, Z0o, Z0p, Z0q, Z0r, Z0t, Z0s, w_add_str, w_add_int, w_add_ref, Z25, Z1x, Z1w, Z1j, Z22, w_eq_str, w_ne_str, w_eq_int, w_ne_int, w_eq_ref, Z1o, Z1p, Z1v, Z1t, Z1m, Z1l, Z1n, Z20, b_and_t, b_and_f, b_or_t, b_or_f, b_not_t, b_not_f, Z1, Z0, Z2, Z3, Z9, Zc, Zb, Z8, Za, Nat.reduceBEq, Int.reduceBEq, Int.reduceAdd, Int.reduceSub, Int.reduceNeg, Option.getD_some, Option.getD_none]
    refine (simple_gen (by decide) hs8).mono ?_
    rintro _ σ₉ ⟨tree, t, rfl, h, g⟩
    exact ⟨rfl, tree, t, rfl, h, g.2⟩
  rintro _ σ₉ ⟨tree, t, rfl, hsim, hs9⟩
  have lt := hsim.len
  refine seq_ok (fun ve σ' => ∃ word tt, ve = [some (.script zs), some xD, some (.ref src), some tree, some (.ref r₂), some (.ref q), some (.str t), some (.str word), some (.str tt)] ∧ word.length ≤ 10 ∧ (tt = [] ∨ tt = [97, 32]) ∧ Src src σ') ?_ ?_
  · dsimp only [Z1i, Z28, Z1r, Z23, Z26, Z1g, Z1b, Z21, Z1z, Z1y, Z1q, Z1e, Z1s, Z1c, Z1k, Z24, Z1f, Z1d, Z27, Z1u, Z1h, Z0z, Z6, Z7, Z5, Z4, Z0v, Z0u, Z0w, Z11, Z0x, Z10, Z0y, Z0j, Z0i, Zh, Zg, Ze, Zd, Zf, Z19, Z1a, Z13, Z14, Z18, Z17, Z16, Z15, Z0k, Z0l, Z0m, Z0n, Z0o, Z0p, Z0q, Z0r, Z0t, Z0s, w_add_str, w_add_int, w_add_ref, Z25, Z1x, Z1w, Z1j, Z22, w_eq_str, w_ne_str, w_eq_int, w_ne_int, w_eq_ref, Z1o, Z1p, Z1v, Z1t, Z1m, Z1l, Z1n, Z20, b_and_t, b_and_f, b_or_t, b_or_f, b_not_t, b_not_f, Z1, Z0, Z2, Z3, Z9, Zc, Zb, Z8, Za, Nat.reduceBEq, Int.reduceBEq, Int.reduceAdd, Int.reduceSub, Int.reduceNeg, Option.getD_some, Option.getD_none]
    refine (one_new (by decide) hs9 (by decide) (by decide)).mono ?_
    rintro d σ' ⟨hd, g1⟩
    have hw : ∃ word, d = .str word ∧ word.length ≤ 10 := by
      simp only [List.mem_cons, List.not_mem_nil, or_false] at hd
      rcases hd with rfl | rfl
      · exact ⟨_, rfl, by decide⟩
      · exact ⟨_, rfl, by decide⟩
    obtain ⟨word, rfl, hwl⟩ := hw
    refine (one_new (by decide) g1.2 (by decide) (by decide)).mono ?_
    rintro d σ'' ⟨hd, g2⟩
    have hw : ∃ tt, d = .str tt ∧ (tt = [] ∨ tt = [97, 32]) := by
      simp only [List.mem_cons, List.not_mem_nil, or_false] at hd
      rcases hd with rfl | rfl
      · exact ⟨_, rfl, .inl rfl⟩
      · exact ⟨_, rfl, .inr rfl⟩
    obtain ⟨tt, rfl, htt⟩ := hw
    exact ⟨rfl, word, tt, rfl, hwl, htt, g2.2⟩
  rintro _ σa ⟨word, tt, rfl, hwl, htt, hsa⟩
  obtain ⟨cut, hc1, hc2, hc3⟩ := cut_told htt
  have ltt : tt.length ≤ 2 := by rcases htt with rfl | rfl <;> decide
  refine seq_ok (fun ve σ' => ve = [some (.script zs), some xD, some (.ref src), some tree, some (.ref r₂), some (.ref q), some (.str t), some (.str word), some (.str tt)] ∧ Src src σ') ?_ ?_
  · dsimp only [Z1i, Z28, Z1r, Z23, Z26, Z1g, Z1b, Z21, Z1z, Z1y, Z1q, Z1e, Z1s, Z1c, Z1k, Z24, Z1f, Z1d, Z27, Z1u, Z1h, Z0z, Z6, Z7, Z5, Z4, Z0v, Z0u, Z0w, Z11, Z0x, Z10, Z0y, Z0j, Z0i, Zh, Zg, Ze, Zd, Zf, Z19, Z1a, Z13, Z14, Z18, Z17, Z16, Z15, Z0k, Z0l, Z0m, Z0n, Z0o, Z0p, Z0q, Z0r, Z0t, Z0s, w_add_str, w_add_int, w_add_ref, Z25, Z1x, Z1w, Z1j, Z22, w_eq_str, w_ne_str, w_eq_int, w_ne_int, w_eq_ref, Z1o, Z1p, Z1v, Z1t, Z1m, Z1l, Z1n, Z20, b_and_t, b_and_f, b_or_t, b_or_f, b_not_t, b_not_f, Z1, Z0, Z2, Z3, Z9, Zc, Zb, Z8, Za, Nat.reduceBEq, Int.reduceBEq, Int.reduceAdd, Int.reduceSub, Int.reduceNeg, Option.getD_some, Option.getD_none]
    refine (take_ok (by decide) hsa (by decide) (by decide)).mono ?_
    rintro _ σb ⟨u, rfl, u0, u1, g1⟩
    dsimp only [Z1i, Z28, Z1r, Z23, Z26, Z1g, Z1b, Z21, Z1z, Z1y, Z1q, Z1e, Z1s, Z1c, Z1k, Z24, Z1f, Z1d, Z27, Z1u, Z1h, Z0z, Z6, Z7, Z5, Z4, Z0v, Z0u, Z0w, Z11, Z0x, Z10, Z0y, Z0j, Z0i, Zh, Zg, Ze, Zd, Zf, Z19, Z1a, Z13, Z14, Z18, Z17, Z16, Z15, Z0k, Z0l, Z0m, Z0n, Z0o, Z0p, Z0q, Z0r, Z0t, Z0s, w_add_str, w_add_int, w_add_ref, Z25, Z1x, Z1w, Z1j, Z22, w_eq_str, w_ne_str, w_eq_int, w_ne_int, w_eq_ref, Z1o, Z1p, Z1v, Z1t, Z1m, Z1l, Z1n, Z20, b_and_t, b_and_f, b_or_t, b_or_f, b_not_t, b_not_f, Z1, Z0, Z2, Z3, Z9, Zc, Zb, Z8, Za, Nat.reduceBEq, Int.reduceBEq, Int.reduceAdd, Int.reduceSub, Int.reduceNeg, Option.getD_some, Option.getD_none]
    refine (hsim.run 600 _ (by decide) σb).mono ?_
    rintro _ σc ⟨rfl, g2⟩
    dsimp only [Z1i, Z28, Z1r, Z23, Z26, Z1g, Z1b, Z21, Z1z, Z1y, Z1q, Z1e, Z1s, Z1c, Z1k, Z24, Z1f, Z1d, Z27, Z1u, Z1h, Z0z, Z6, Z7, Z5, Z4, Z0v, Z0u, Z0w, Z11, Z0x, Z10, Z0y, Z0j, Z0i, Zh, Zg, Ze, Zd, Zf, Z19, Z1a, Z13, Z14, Z18, Z17, Z16, Z15, Z0k, Z0l, Z0m, Z0n, Z0o, Z0p, Z0q, Z0r, Z0t, Z0s, w_add_str, w_add_int, w_add_ref, Z25, Z1x, Z1w, Z1j, Z22, w_eq_str, w_ne_str, w_eq_int, w_ne_int, w_eq_ref, Z1o, Z1p, Z1v, Z1t, Z1m, Z1l, Z1n, Z20, b_and_t, b_and_f, b_or_t, b_or_f, b_not_t, b_not_f, Z1, Z0, Z2, Z3, Z9, Zc, Zb, Z8, Za, Nat.reduceBEq, Int.reduceBEq, Int.reduceAdd, Int.reduceSub, Int.reduceNeg, Option.getD_some, Option.getD_none]
    rw [beq_self_eq_true]
    dsimp only [Z1i, Z28, Z1r, Z23, Z26, Z1g, Z1b, Z21, Z1z, Z1y, Z1q, Z1e, Z1s, Z1c, Z1k, Z24, Z1f, Z1d, Z27, Z1u, Z1h, Z0z, Z6, Z7, Z5, Z4, Z0v, Z0u, Z0w, Z11, Z0x, Z10, Z0y, Z0j, Z0i, Zh, Zg, Ze, Zd, Zf, Z19, Z1a, Z13, Z14, Z18, Z17, Z16, Z15, Z0k, Z0l, Z0m, Z0n, Z0o, Z0p, Z0q, Z0r, Z0t, Z0s, w_add_str, w_add_int, w_add_ref, Z25, Z1x, Z1w, Z1j, Z22, w_eq_str, w_ne_str, w_eq_int, w_ne_int, w_eq_ref, Z1o, Z1p, Z1v, Z1t, Z1m, Z1l, Z1n, Z20, b_and_t, b_and_f, b_or_t, b_or_f, b_not_t, b_not_f, Z1, Z0, Z2, Z3, Z9, Zc, Zb, Z8, Za, Nat.reduceBEq, Int.reduceBEq, Int.reduceAdd, Int.reduceSub, Int.reduceNeg, Option.getD_some, Option.getD_none]
    refine slice_str (by first | (apply cap2; (case h1 => repeat' first | assumption | apply app_le | apply nil_le | apply cons_le); (case h2 => repeat' first | assumption | apply app_le | apply nil_le | apply cons_le); decide) | (apply cap1; (case h1 => repeat' first | assumption | apply app_le | apply nil_le | apply cons_le); decide) | (simp [sizeCap]; omega) | (unfold sizeCap; omega)) ?_
    rw [hc1]
    refine (header_none (m := 599) (word := word) (told := cut) (Nat.le_trans hwl (by decide)) (Nat.le_trans hc2 (by decide)) σc).mono ?_
    rintro _ σd ⟨rfl, g3⟩
    dsimp only [Z1i, Z28, Z1r, Z23, Z26, Z1g, Z1b, Z21, Z1z, Z1y, Z1q, Z1e, Z1s, Z1c, Z1k, Z24, Z1f, Z1d, Z27, Z1u, Z1h, Z0z, Z6, Z7, Z5, Z4, Z0v, Z0u, Z0w, Z11, Z0x, Z10, Z0y, Z0j, Z0i, Zh, Zg, Ze, Zd, Zf, Z19, Z1a, Z13, Z14, Z18, Z17, Z16, Z15, Z0k, Z0l, Z0m, Z0n, Z0o, Z0p, Z0q, Z0r, Z0t, Z0s, w_add_str, w_add_int, w_add_ref, Z25, Z1x, Z1w, Z1j, Z22, w_eq_str, w_ne_str, w_eq_int, w_ne_int, w_eq_ref, Z1o, Z1p, Z1v, Z1t, Z1m, Z1l, Z1n, Z20, b_and_t, b_and_f, b_or_t, b_or_f, b_not_t, b_not_f, Z1, Z0, Z2, Z3, Z9, Zc, Zb, Z8, Za, Nat.reduceBEq, Int.reduceBEq, Int.reduceAdd, Int.reduceSub, Int.reduceNeg, Option.getD_some, Option.getD_none]
    refine ⟨by first | (apply cap2; (case h1 => repeat' first | assumption | apply app_le | apply nil_le | apply cons_le); (case h2 => repeat' first | assumption | apply app_le | apply nil_le | apply cons_le); decide) | (apply cap1; (case h1 => repeat' first | assumption | apply app_le | apply nil_le | apply cons_le); decide) | (simp [sizeCap]; omega) | (unfold sizeCap; omega), by first | (apply cap2; (case h1 => repeat' first | assumption | apply app_le | apply nil_le | apply cons_le); (case h2 => repeat' first | assumption | apply app_le | apply nil_le | apply cons_le); decide) | (apply cap1; (case h1 => repeat' first | assumption | apply app_le | apply nil_le | apply cons_le); decide) | (simp [sizeCap]; omega) | (unfold sizeCap; omega), ?_⟩
    rw [List.append_assoc, hc3, ← List.append_assoc, beq_self_eq_true]
    exact ⟨rfl, rfl, (g1.2.ext g2).ext g3⟩
  rintro _ σb ⟨rfl, hsb⟩
  refine seq_ok (fun ve σ' => ve = [some (.script zs), some xD, some (.ref src), some tree, some (.ref r₂), some (.ref q), some (.str t), some (.str word), some (.str tt)] ∧ Src src σ') ?_ ?_
  · dsimp only [Z1i, Z28, Z1r, Z23, Z26, Z1g, Z1b, Z21, Z1z, Z1y, Z1q, Z1e, Z1s, Z1c, Z1k, Z24, Z1f, Z1d, Z27, Z1u, Z1h, Z0z, Z6, Z7, Z5, Z4, Z0v, Z0u, Z0w, Z11, Z0x, Z10, Z0y, Z0j, Z0i, Zh, Zg, Ze, Zd, Zf, Z19, Z1a, Z13, Z14, Z18, Z17, Z16, Z15, Z0k, Z0l, Z0m, Z0n, Z0o, Z0p, Z0q, Z0r, Z0t, Z0s, w_add_str, w_add_int, w_add_ref, Z25, Z1x, Z1w, Z1j, Z22, w_eq_str, w_ne_str, w_eq_int, w_ne_int, w_eq_ref, Z1o, Z1p, Z1v, Z1t, Z1m, Z1l, Z1n, Z20, b_and_t, b_and_f, b_or_t, b_or_f, b_not_t, b_not_f, Z1, Z0, Z2, Z3, Z9, Zc, Zb, Z8, Za, Nat.reduceBEq, Int.reduceBEq, Int.reduceAdd, Int.reduceSub, Int.reduceNeg, Option.getD_some, Option.getD_none]
    refine slice_str (by first | (apply cap2; (case h1 => repeat' first | assumption | apply app_le | apply nil_le | apply cons_le); (case h2 => repeat' first | assumption | apply app_le | apply nil_le | apply cons_le); decide) | (apply cap1; (case h1 => repeat' first | assumption | apply app_le | apply nil_le | apply cons_le); decide) | (simp [sizeCap]; omega) | (unfold sizeCap; omega)) ?_
    rw [hc1]
    refine (header_some (m := 599) (word := word) (told := cut) hsim (by decide) (Nat.le_trans hwl (by decide)) (Nat.le_trans hc2 (by decide)) σb).mono ?_
    rintro _ σd ⟨rfl, g3⟩
    dsimp only [Z1i, Z28, Z1r, Z23, Z26, Z1g, Z1b, Z21, Z1z, Z1y, Z1q, Z1e, Z1s, Z1c, Z1k, Z24, Z1f, Z1d, Z27, Z1u, Z1h, Z0z, Z6, Z7, Z5, Z4, Z0v, Z0u, Z0w, Z11, Z0x, Z10, Z0y, Z0j, Z0i, Zh, Zg, Ze, Zd, Zf, Z19, Z1a, Z13, Z14, Z18, Z17, Z16, Z15, Z0k, Z0l, Z0m, Z0n, Z0o, Z0p, Z0q, Z0r, Z0t, Z0s, w_add_str, w_add_int, w_add_ref, Z25, Z1x, Z1w, Z1j, Z22, w_eq_str, w_ne_str, w_eq_int, w_ne_int, w_eq_ref, Z1o, Z1p, Z1v, Z1t, Z1m, Z1l, Z1n, Z20, b_and_t, b_and_f, b_or_t, b_or_f, b_not_t, b_not_f, Z1, Z0, Z2, Z3, Z9, Zc, Zb, Z8, Za, Nat.reduceBEq, Int.reduceBEq, Int.reduceAdd, Int.reduceSub, Int.reduceNeg, Option.getD_some, Option.getD_none]
    refine ⟨by first | (apply cap2; (case h1 => repeat' first | assumption | apply app_le | apply nil_le | apply cons_le); (case h2 => repeat' first | assumption | apply app_le | apply nil_le | apply cons_le); decide) | (apply cap1; (case h1 => repeat' first | assumption | apply app_le | apply nil_le | apply cons_le); decide) | (simp [sizeCap]; omega) | (unfold sizeCap; omega), by first | (apply cap2; (case h1 => repeat' first | assumption | apply app_le | apply nil_le | apply cons_le); (case h2 => repeat' first | assumption | apply app_le | apply nil_le | apply cons_le); decide) | (apply cap1; (case h1 => repeat' first | assumption | apply app_le | apply nil_le | apply cons_le); decide) | (simp [sizeCap]; omega) | (unfold sizeCap; omega), by first | (apply cap2; (case h1 => repeat' first | assumption | apply app_le | apply nil_le | apply cons_le); (case h2 => repeat' first | assumption | apply app_le | apply nil_le | apply cons_le); decide) | (apply cap1; (case h1 => repeat' first | assumption | apply app_le | apply nil_le | apply cons_le); decide) | (simp [sizeCap]; omega) | (unfold sizeCap; omega), by first | (apply cap2; (case h1 => repeat' first | assumption | apply app_le | apply nil_le | apply cons_le); (case h2 => repeat' first | assumption | apply app_le | apply nil_le | apply cons_le); decide) | (apply cap1; (case h1 => repeat' first | assumption | apply app_le | apply nil_le | apply cons_le); decide) | (simp [sizeCap]; omega) | (unfold sizeCap; omega), ?_⟩
    have e : word ++ ([32] ++ t ++ [59]) ++ toldT cut ++ [32] = word ++ [32] ++ t ++ [59, 32] ++ tt := by
      rw [List.append_assoc, hc3]
      simp
    rw [e, beq_self_eq_true]
    exact ⟨rfl, rfl, hsb.ext g3⟩
  rintro _ σc ⟨rfl, hsc⟩
  -- what is declared
  refine wB_ok _ _ _ _ ?_
  dsimp only [Z1i, Z28, Z1r, Z23, Z26, Z1g, Z1b, Z21, Z1z, Z1y, Z1q, Z1e, Z1s, Z1c, Z1k, Z24, Z1f, Z1d, Z27, Z1u, Z1h, Z0z, Z6, Z7, Z5, Z4, Z0v, Z0u, Z0w, Z11, Z0x, Z10, Z0y, Z0j, Z0i, Zh, Zg, Ze, Zd, Zf, Z19, Z1a, Z13, Z14, Z18, Z17, Z16, Z15, Z0k, Z0l, Z0m, Z0n, Z0o, Z0p, Z0q, Z0r, Z0t, Z0s, w_add_str, w_add_int, w_add_ref, Z25, Z1x, Z1w, Z1j, Z22, w_eq_str, w_ne_str, w_eq_int, w_ne_int, w_eq_ref, Z1o, Z1p, Z1v, Z1t, Z1m, Z1l, Z1n, Z20, b_and_t, b_and_f, b_or_t, b_or_f, b_not_t, b_not_f, Z1, Z0, Z2, Z3, Z9, Zc, Zb, Z8, Za, Nat.reduceBEq, Int.reduceBEq, Int.reduceAdd, Int.reduceSub, Int.reduceNeg, Option.getD_some, Option.getD_none]
  refine (decl_gen (by decide) hsc).mono ?_
  rintro _ σd ⟨tree, rows, r, rfl, h1, h2, h3, g⟩
  dsimp only [Z1i, Z28, Z1r, Z23, Z26, Z1g, Z1b, Z21, Z1z, Z1y, Z1q, Z1e, Z1s, Z1c, Z1k, Z24, Z1f, Z1d, Z27, Z1u, Z1h, Z0z, Z6, Z7, Z5, Z4, Z0v, Z0u, Z0w, Z11, Z0x, Z10, Z0y, Z0j, Z0i, Zh, Zg, Ze, Zd, Zf, Z19, Z1a, Z13, Z14, Z18, Z17, Z16, Z15, Z0k, Z0l, Z0m, Z0n, Z0o, Z0p, Z0q, Z0r, Z0t, Z0s, w_add_str, w_add_int, w_add_ref, Z25, Z1x, Z1w, Z1j, Z22, w_eq_str, w_ne_str, w_eq_int, w_ne_int, w_eq_ref, Z1o, Z1p, Z1v, Z1t, Z1m, Z1l, Z1n, Z20, b_and_t, b_and_f, b_or_t, b_or_f, b_not_t, b_not_f, Z1, Z0, Z2, Z3, Z9, Zc, Zb, Z8, Za, Nat.reduceBEq, Int.reduceBEq, Int.reduceAdd, Int.reduceSub, Int.reduceNeg, Option.getD_some, Option.getD_none]
  refine (h1 600 (by decide) σd).mono ?_
  rintro _ σe ⟨rfl, g2⟩
  refine join_ref (g2.get h3) (by decide) (by first | (apply cap2; (case h1 => repeat' first | assumption | apply app_le | apply nil_le | apply cons_le); (case h2 => repeat' first | assumption | apply app_le | apply nil_le | apply cons_le); decide) | (apply cap1; (case h1 => repeat' first | assumption | apply app_le | apply nil_le | apply cons_le); decide) | (simp [sizeCap]; omega) | (unfold sizeCap; omega)) ?_
  dsimp only [Z1i, Z28, Z1r, Z23, Z26, Z1g, Z1b, Z21, Z1z, Z1y, Z1q, Z1e, Z1s, Z1c, Z1k, Z24, Z1f, Z1d, Z27, Z1u, Z1h, Z0z, Z6, Z7, Z5, Z4, Z0v, Z0u, Z0w, Z11, Z0x, Z10, Z0y, Z0j, Z0i, Zh, Zg, Ze, Zd, Zf, Z19, Z1a, Z13, Z14, Z18, Z17, Z16, Z15, Z0k, Z0l, Z0m, Z0n, Z0o, Z0p, Z0q, Z0r, Z0t, Z0s, w_add_str, w_add_int, w_add_ref, Z25, Z1x, Z1w, Z1j, Z22, w_eq_str, w_ne_str, w_eq_int, w_ne_int, w_eq_ref, Z1o, Z1p, Z1v, Z1t, Z1m, Z1l, Z1n, Z20, b_and_t, b_and_f, b_or_t, b_or_f, b_not_t, b_not_f, Z1, Z0, Z2, Z3, Z9, Zc, Zb, Z8, Za, Nat.reduceBEq, Int.reduceBEq, Int.reduceAdd, Int.reduceSub, Int.reduceNeg, Option.getD_some, Option.getD_none]
  rw [beq_self_eq_true]
end Mine
end

section
open PySem PySem.W PyProof.Rows
namespace Mine
/-! ### what is seen of the written part -/
noncomputable def fragOf (h : Heap) (as : List Addr) : Frag := as.filterMap fun a => (h.get? a).map fun o => (a, o)
theorem fragOf_in {h : Heap} : ∀ {as : List Addr}, (fragOf h as).In h
  | [], a, o, e => by cases e
  | b :: as, a, o, e => by
    have ih := @fragOf_in h as
    unfold fragOf at e
    rw [List.filterMap_cons] at e
    cases hb : h.get? b with
    | none => rw [hb] at e; exact ih a o e
    | some ob =>
      rw [hb] at e
      simp only [Option.map_some, List.lookup_cons] at e
      split at e
      · rename_i hab
        have : a = b := beq_iff_eq.mp hab
        subst this
        cases e
        exact hb
      · exact ih a o e

structure Told (fns : List Str) (consts : List (Str × D)) (tab : Str) (T : List (List Nat × Int)) (F : List FnDef) (P : Params) (K : Frag) : Prop where
  fns : fns.map (compName K fns consts tab) = F.map some
  consts : consts.map (fun p => constAt K p.1) = consts.map (fun p => some p.2)
  bins : biNames.map (fun p => nsIn K mainGlobals p.1) = biNames.map (fun _ => some none)
  tab : ∃ ta es k, nsIn K mainGlobals tab = some (some (.ref ta)) ∧ T.map (fun p => intAt K ta ⟨p.1.toArray⟩) = T.map (fun p => some p.2) ∧ dictAt K ta = some (es, k) ∧ KeysLit P es.toList

noncomputable abbrev Seen := List (Option FnDef) × List (Option D) × List (Option (Option Value)) × Option (List (Option Int) × List (Option Str) × List Int)
noncomputable def seenOf (fns : List Str) (consts : List (Str × D)) (tab : Str) (T : List (List Nat × Int)) (K : Frag) : Seen :=
  (fns.map (compName K fns consts tab), consts.map (fun p => constAt K p.1), biNames.map (fun p => nsIn K mainGlobals p.1), match nsIn K mainGlobals tab with
    | some (some (.ref ta)) => (match dictAt K ta with
      | some p => some (T.map (fun q => intAt K ta ⟨q.1.toArray⟩), p.1.toList.map (fun e => keyStr e.key), p.1.toList.map fun e => e.hash)
      | none => none)
    | _ => none)
noncomputable def seenGood (consts : List (Str × D)) (T : List (List Nat × Int)) (F : List FnDef) (P : Params) : Seen :=
  (F.map some, consts.map (fun p => some p.2), biNames.map (fun _ => some none), some (T.map (fun p => some p.2), T.map (fun p => some ⟨p.1.toArray⟩), T.map fun p => PyData.keyHash P ⟨p.1.toArray⟩))
theorem told_of {fns : List Str} {consts : List (Str × D)} {tab : Str} {T : List (List Nat × Int)} {F : List FnDef} {P : Params} {K : Frag} (h : seenOf fns consts tab T K = seenGood consts T F P) : Told fns consts tab T F P K := by
  unfold seenOf seenGood at h
  obtain ⟨h1, h2, h3, h4⟩ : _ ∧ _ ∧ _ ∧ _ := by
    rw [Prod.mk.injEq, Prod.mk.injEq, Prod.mk.injEq] at h
    exact h
  refine ⟨h1, h2, h3, ?_⟩
  cases e : nsIn K mainGlobals tab with
  | none => rw [e] at h4; cases h4
  | some v =>
    rw [e] at h4
    cases v with
    | none => cases h4
    | some v =>
      cases v with
      | ref ta =>
        dsimp only at h4
        cases e2 : dictAt K ta with
        | none => rw [e2] at h4; cases h4
        | some p =>
          rw [e2] at h4
          dsimp only at h4
          rw [Option.some.injEq, Prod.mk.injEq, Prod.mk.injEq] at h4
          obtain ⟨a, b, c⟩ := h4
          refine ⟨ta, p.1, p.2, rfl, a, e2, keysLit_of (xs := T.map fun p => (⟨p.1.toArray⟩ : Str)) ?_ ?_⟩
          · rw [b, List.map_map]; rfl
          · rw [c, List.map_map]; rfl
      | _ => cases h4

noncomputable def hookOf (fns : List Str) (consts : List (Str × D)) (tab : Str) (T : List (List Nat × Int)) (F : List FnDef) (as : List Addr) : Hook :=
  ⟨Seen, fun s => seenOf fns consts tab T (fragOf s.heap as), fun w => seenGood consts T F w.params, fun w h => ∃ K : Frag, K.In h ∧ Told fns consts tab T F w.params K,
    fun w s h => ⟨fragOf s.heap as, fragOf_in, told_of h⟩, fun w h h' ⟨K, k1, k2⟩ hk => ⟨K, k1.keeps hk, k2⟩⟩
theorem joinHalves {α β : Type} {o : Option α} {f g : α → Option β} {a b : β} (h1 : o.map f = some (some a)) (h2 : o.map g = some (some b)) : o.map (fun x => (f x, g x)) = some (some a, some b) := by
  cases o with
  | none => cases h1
  | some x =>
    have e1 : f x = some a := Option.some.inj h1
    have e2 : g x = some b := Option.some.inj h2
    rw [Option.map_some, e1, e2]
end Mine
end

section
open PySem PySem.W PyProof.Rows
set_option maxRecDepth 100000
set_option maxHeartbeats 8000000
namespace Mine
noncomputable def fns2 : List Str := ["type_text", "level_of_expr", "expr_text", "exprs_text", "bare_text", "ahead_text", "behind_text", "cut_ends", "int_text", "values_text", "braced_rows", "indented_rows", "block_text", "statement_text", "simple_text", "declared_text", "told_row", "header_text", "choice_text", "loop_text", "cases_text", "_law_pool", "_law_take", "_law_one", "_law_expr", "_law_exprs", "_law_simple", "_law_block", "_law_header", "_law_joined", "_law_choice", "_law_loop", "_law_cases", "_law_declared"].map Str.ofString
noncomputable def txt (s : String) : List Nat := (Str.ofString s).cps.toList
noncomputable def consts2 : List (Str × D) := [(Str.ofString "LITERAL_TYPES", .tup [.str (txt "array"), .str (txt "slice"), .str (txt "map"), .str (txt "struct")]), (Str.ofString "WHOLE_LEVEL", .int 0), (Str.ofString "AHEAD_LEVEL", .int 6), (Str.ofString "TIGHT_LEVEL", .int 7), (Str.ofString "ROW_INDENT", .str [9]), (Str.ofString "LONGEST_NUMBER", .int 100)]
noncomputable def tabn2 : Str := Str.ofString "OPERATOR_LEVELS"
noncomputable def nameOf : Stmt → Option Str
  | .FunctionDef n .. => some n
  | _ => none
noncomputable def q2 : Program := { PySem.Challenge.pw_xm0217_02 with main := { PySem.Challenge.pw_xm0217_02.main with body := PySem.Challenge.pw_xm0217_02.main.body.filter fun s => nameOf s == some (Str.ofString "law") } }
noncomputable def bound : Stmt → List Str
  | .FunctionDef n .. => if n == Str.ofString "law" then [] else [n]
  | .Assign [.Name x _] _ _ => [x]
  | _ => []
noncomputable def loose2 : List Str := PySem.Challenge.pw_xm0217_02.main.body.flatMap bound
noncomputable def H2 : Hook := hookOf fns2 consts2 tabn2 ops2 FF2 (List.range 400)
/-- the top's run in a world of one kind -/
noncomputable def Half (b : Bool) : Prop := ∀ w : World, (fencedOpening treeTable PySem.Challenge.pw_xm0217_02 w 3680).map (fun s₀ =>
  (topFrom treeTable PySem.Challenge.pw_xm0217_02 (w.withFollow "special-get-raises" b) 3680 s₀).map (fun s => (openSeen q2 loose2 (importedModules PySem.Challenge.pw_xm0217_02.main.body) (fun s => xlAt q2 [] s && recOk (RowW.records PySem.Challenge.rw_xm0217_02.row.toRowW) s) true s, H2.obs s))) =
  some (some (openGood q2 loose2, H2.val (w.withFollow "special-get-raises" b)))
theorem half_f : Half false := fun w => by kernel_rfl
theorem half_t : Half true := fun w => by kernel_rfl
theorem hl2 : LeftO PySem.Challenge.pw_xm0217_02 q2 loose2 (fun s => xlAt q2 [] s && recOk (RowW.records PySem.Challenge.rw_xm0217_02.row.toRowW) s) H2.obs H2.val 3680 :=
  LeftO.of_split "special-get-raises" (fun w => joinHalves (half_f w) (half_t w))
end Mine
end

section
open PySem PySem.W PyProof.Rows
set_option maxRecDepth 100000
set_option maxHeartbeats 8000000
namespace Mine
/-! the row is well said: each look by itself -/
theorem looks_ok : looksOpen PySem.Challenge.rw_xm0217_02.row.prog = true := by
  delta looksOpen
  repeat' with_reducible refine look_both ?_ ?_
  all_goals decide +kernel
theorem part_ok : OpenRow.partSaid PySem.Challenge.rw_xm0217_02.row = true := by
  delta OpenRow.partSaid
  repeat' with_reducible refine look_both ?_ ?_
  all_goals first | with_reducible exact looks_ok | decide +kernel
theorem row_said : OpenRow.wellSaid PySem.Challenge.rw_xm0217_02.row = true := by
  delta OpenRow.wellSaid
  repeat' with_reducible refine look_both ?_ ?_
  all_goals first | with_reducible exact part_ok | decide +kernel
theorem law_said : OpenLaw.wellSaid PySem.Challenge.rw_xm0217_02 = true := by
  delta OpenLaw.wellSaid
  repeat' with_reducible refine look_both ?_ ?_
  all_goals first | with_reducible exact row_said | decide +kernel
end Mine
end

section
open PySem PySem.W PyProof.Rows
set_option maxRecDepth 100000
set_option maxHeartbeats 8000000
namespace Mine
theorem plain2' (zs : List Int) (hl : zs.length ≤ 63) : ∃ ve' σ', pexecs ops2 (pcall ops2 FF2 600) G2_34.body (some (.script zs) :: List.replicate (G2_34.ns - 1) none) [] = some (some (.bool true), ve', σ') := by
  obtain ⟨r, ve', σ', e, rfl⟩ := (plain2 zs hl).out
  exact ⟨ve', σ', e⟩

theorem law_go {x : Cx} (O : x.Ok) {F : List FnDef} (hF : Defs x F) {fd : FuncData} {m : FnDef} (hm : compFd x.K x.fns x.consts x.tab fd = some m) {a : Addr} {o : Obj} (ho : x.h₀.get? a = some o) (hd : o.data = .func fd) (hc : x.h₀.CodeRec fd.code fd.qualname)
    {zs : List Int} {vs : List Value} {b : Addr} (hL : x.h₀.IsList b vs.toArray) (hI : IntsAre vs zs) (hnp : m.np = 1) (hdf : m.dflt = []) (hpl : ∃ ve' σ', pexecs x.T (pcall x.T F 600) m.body (some (.script zs) :: List.replicate (m.ns - 1) none) [] = some (some (.bool true), ve', σ'))
    {s : Shared} (hs : s.heap = x.h₀) {R : Result → Shared → Prop} (hR : ∀ h' tk, (∀ c o, s.heap.get? c = some o → h'.get? c = some o) → R (.ok (.ret (.bool true))) { s with heap := h', toks := tk }) :
    codeAny (model x.prog x.w) callerA (.call (.ref a) ⟨[.ref b], []⟩) R s := by
  obtain ⟨ve', σ', hp⟩ := hpl
  obtain ⟨ps, kd, ds, body, H⟩ := compFd_ok O.kin hm hc
  have W : Wd x.h₀ s.heap [] [] := by
    rw [hs]
    exact ⟨fun _ _ e => e, fun _ h => (nomatch h), List.nodup_nil, rfl, fun i a ds h _ => by cases h⟩
  have hb : m.bind [.script zs] = some (some (.script zs) :: List.replicate (m.ns - 1) none) := by
    unfold FnDef.bind
    rw [hnp, hdf]
    simp
  have hA : AOk callerA (600 + 1) := ⟨rfl, by decide, by decide⟩
  refine func_sound O (calls_ok O hF 600) H ho hd hb hp hA W (RepL.cons ?_ RepL.nil) ?_
  · unfold Rep
    exact ⟨b, vs, rfl, by rw [hs]; exact hL, fun h => (nomatch h), hI⟩
  · intro v ρ' h' tk W' S' r
    have e : v = .bool true := by unfold Rep at r; exact r
    subst e
    exact hR h' tk fun c o e => S'.keep c o (fun h => (nomatch h)) id e

theorem cx_ok {prog : Program} {w : World} {h : Heap} {K : Frag} {mb : Str → Option Value} {fns : List Str} {consts : List (Str × D)} {tab : Str} {T : List (List Nat × Int)} {F : List FnDef} (kin : K.In h) (nolim : h.NoLimit) (hb : h.Ns builtinsNs mb) (hbi : ∀ y : Str, y ≠ Str.ofString "__name__" → mb y = bootBuiltins y)
    (hT : Told fns consts tab T F w.params K) : ∃ ta, (Cx.Ok ⟨prog, w, h, K, mb, fns, consts, tab, ta, T⟩) ∧ Defs ⟨prog, w, h, K, mb, fns, consts, tab, ta, T⟩ F := by
  obtain ⟨ta, es, k, t1, t2, t3, t4⟩ := hT.tab
  have hDefs : Defs ⟨prog, w, h, K, mb, fns, consts, tab, ta, T⟩ F := defs_ok kin hT.fns
  refine ⟨ta, ⟨kin, nolim, hb, hbi, consts_ok hT.consts, t1, ⟨es, k, dictAt_ok t3, t4⟩, tab_ok t2, ?_, ?_⟩, hDefs⟩
  · intro p hp
    obtain ⟨i, hi⟩ := List.getElem?_of_mem hp
    have e := congrArg (fun l => l[i]?) hT.bins
    simp only [List.getElem?_map, hi, Option.map_some, Option.some.injEq] at e
    exact e
  · intro i f hf
    obtain ⟨a, o, fd, m, ps, kd, ds, body, h1, h2, h3, h4, h5⟩ := hDefs i f hf
    exact ⟨a, o, fd, h1, h2, h3⟩

theorem J2 : PySem.Challenge.rw_xm0217_02.Holds := by
  w_on
  refine holds_law law_said fun said => ?_
  refine PySem.W.holds_open (q := q2) (loose := loose2) (Xt := fun s => xlAt q2 [] s && recOk (RowW.records PySem.Challenge.rw_xm0217_02.row.toRowW) s) (XP := XL q2 []) (Yf := H2.obs) (Ya := H2.val) (YP := H2.says) (N := 3680) hl2 H2.of H2.keeps (fun s e => xl_of s (Bool.and_eq_true_iff.mp e).1) XL.keeps (by rfl) (by rfl) (by rfl) (fun s e => recFacts_of (Bool.and_eq_true_iff.mp e).2) (by rfl) (by first | assumption | decide +kernel) (by decide +kernel) ⟨rfl, rfl, rfl, rfl, rfl, by decide +kernel⟩ ?hw ?hc
  case hw => w_witness2
  w_strict skip
  intro w s₀ s₁ mg mb G Y fa o pm cd doc dV kV ho hd hcd hD hmg hg args vals as hpre hlay hrd hwl hlo
  obtain ⟨K, KX, hT⟩ := Y
  refine Ground.open G ?_
  intro T B D TE TW
  try (refine guard_noD D (by decide +kernel) ?_; clear D)
  try (obtain ⟨_, _, he, B0⟩ := based_of_top T rfl hmg ho hd; have he' : cd = _ := he; subst he'; clear he)
  clear hmg
  wrow_args hpre hlay hrd hwl hlo
  all_goals (
    first | refine callC_kw (enter_call ?_) | refine enter_call ?_ | refine callC_kw (enter_callW ?_) | refine enter_callW ?_ | w_how
    w_top on
    try refine codeAny_mono ?_ (fun _ _ g => GoodW.toG g)
    )
  have hdV : dV = .none := Dflts.pos_none hD rfl
  subst hdV
  rename_i zs _ _ _ _ _ _ _ b vs _ hL _ _ _ hI _ hc _
  have hlen : zs.length ≤ 63 := by omega
  obtain ⟨ta, O, hDefs⟩ := cx_ok (prog := PySem.Challenge.rw_xm0217_02.row.prog) KX T.nolimit T.b T.builtins hT
  refine law_go O hDefs (m := G2_34) (by kernel_rfl) ho hd hcd hL hI rfl rfl (plain2' zs hlen) rfl ?_
  intro h' tk hkeep
  exact ⟨.inl ⟨.bool true, .bool true, [], rfl, fun _ => rfl, by constructor, by kernel_rfl, fun _ => ⟨List.nodup_nil, fun _ h => nomatch h⟩⟩, hkeep, rfl, hg⟩
end Mine
end

theorem PySem.Challenge.cw_xm0217_02_holds : PySem.Challenge.rw_xm0217_02.Holds :=
  Mine.J2
