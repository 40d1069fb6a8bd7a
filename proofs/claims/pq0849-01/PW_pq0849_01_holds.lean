import PyProof.Rows.All
import Wide.All
import OpenK.AllK
import Wide.FinOn
import KE.KDictSum
import KE.LcSums
import KE.KDictObj
import KE.KRevIter
import KE.KUnpack
import Lean
import PySem.Challenge.RW_pq0849_01
set_option Elab.async false
set_option bootstrap.genMatcherCode false
set_option genSizeOf false
set_option genSizeOfSpec false
set_option compiler.extract_closed false
set_option backward.match.sparseCases false
set_option linter.unusedSimpArgs false
set_option linter.unusedVariables false
/- GcA -/
section
namespace Gc

inductive Tag
  | heap | cells | vars | log | plan | tables
  | buf (e : Nat) | cell (n : Int) | slots (n : Int)
  deriving DecidableEq

inductive Name
  | tmp (k : Nat)
  | obj (i : Nat) (t : Tag)
  deriving DecidableEq

inductive AV
  | none | bool (b : Bool) | int (i : Int) | str (s : String) | ref (a : Name) | tup (xs : List AV)

inductive AO
  | list (xs : List AV)
  | dict (es : List (Int × AV)) (fz : Bool)
  | inst (c : String) (fs : List (String × AV))
  | dead

noncomputable abbrev Sto := Name → Option AO
noncomputable abbrev Loc := String → Option AV

noncomputable def Sto.set (σ : Sto) (a : Name) (o : AO) : Sto := fun b => if b = a then some o else σ b
noncomputable def upd (m : Loc) (x : String) (v : AV) : Loc := fun y => bif y == x then some v else m y
theorem upd_if (m : Loc) (x : String) (v : AV) (y : String) : upd m x v y = if y = x then some v else m y := by
  unfold upd
  by_cases h : y = x
  · rw [if_pos h, beq_iff_eq.mpr h]; rfl
  · rw [if_neg h, beq_eq_false_iff_ne.mpr h]; rfl
noncomputable def vcase (o : Option AV) (k : AV → Prop) : Prop := match o with
  | some v => k v
  | none => False
theorem vcase_iff {o : Option AV} {k : AV → Prop} : vcase o k ↔ ∃ v, o = some v ∧ k v := by
  cases o with
  | none => exact ⟨fun h => h.elim, fun ⟨_, h, _⟩ => by cases h⟩
  | some v => exact ⟨fun h => ⟨v, rfl, h⟩, fun ⟨_, h, k⟩ => by cases h; exact k⟩

noncomputable def isFrz : Option AO → Bool
  | some (.dict _ true) => true
  | _ => false
noncomputable def frz (v : AV) (σ : Sto) : Sto := match v with
  | .ref a => (match σ a with
    | some (.dict es _) => σ.set a (.dict es true)
    | _ => σ)
  | _ => σ
noncomputable def unfrz (v : AV) (σ₀ τ : Sto) : Sto := match v with
  | .ref a => (match σ₀ a with
    | some (.dict es fz) => τ.set a (.dict es fz)
    | _ => τ)
  | _ => τ

noncomputable def wpNew (σ : Sto) (o : AO) (Q : Name → Sto → Prop) : Prop :=
  (∀ k, σ (.tmp k) = Option.none → Q (.tmp k) (σ.set (.tmp k) o)) ∨ ∃ i t, σ (.obj i t) = Option.none ∧ Q (.obj i t) (σ.set (.obj i t) o)

noncomputable def dget (es : List (Int × AV)) (k : Int) : Option AV := (es.find? fun p => decide (p.1 = k)).map (·.2)
noncomputable def dset (es : List (Int × AV)) (k : Int) (v : AV) : List (Int × AV) :=
  if es.any (fun p => decide (p.1 = k)) then es.map (fun p => if p.1 = k then (p.1, v) else p) else es ++ [(k, v)]
noncomputable def ddel (es : List (Int × AV)) (k : Int) : List (Int × AV) := es.filter fun p => decide (p.1 ≠ k)
noncomputable def fget (fs : List (String × AV)) (k : String) : Option AV := (fs.find? fun p => p.1 == k).map (·.2)
noncomputable def fset : List (String × AV) → String → AV → List (String × AV)
  | [], k, v => [(k, v)]
  | (a, x) :: r, k, v => if a == k then (a, v) :: r else (a, x) :: fset r k v

noncomputable def lim : Nat := 65536

inductive Op | add | sub | mod | fdiv
inductive Cmp | eq | ne | lt | gt | ge | is | isnot | isin | notin
inductive Bi | len | sorted | reversed | all | range
inductive Meth | append | extend | pop | remove | get

set_option genInjectivity false in
set_option genCtorIdx false in
mutual
inductive Ex
  | cst (c : AV)
  | var (x : String)
  | attr (e : Ex) (a : String)
  | sub (e i : Ex)
  | upto (e : Ex) (n : Nat)
  | frm (e : Ex) (n : Nat)
  | bin (o : Op) (a b : Ex)
  | cmp (o : Cmp) (a b : Ex)
  | and (a b : Ex)
  | or (a b : Ex)
  | not (a : Ex)
  | ite (t a b : Ex)
  | tup (es : Exs)
  | list (es : Exs)
  | dict0
  | call (f : String) (es : Exs)
  | mk (c : String) (es : Exs)
  | bi (f : Bi) (e : Ex)
  | listOf (e : Ex)
  | listVals (e : Ex)
  | meth (o : Ex) (m : Meth) (es : Exs)
  | comp (elt : Ex) (x : String) (src : Ex) (cond : Ex)
  | compAll (elt : Ex) (x : String) (src : Ex)
inductive Exs
  | nil
  | cons (e : Ex) (es : Exs)
end

set_option genInjectivity false in
set_option genCtorIdx false in
mutual
inductive St
  | expr (e : Ex)
  | set (x : String) (e : Ex)
  | setAttr (o : Ex) (a : String) (e : Ex)
  | setSub (o i e : Ex)
  | set2 (x y : String) (a b : Ex)
  | setAttr2 (o1 : Ex) (a1 : String) (o2 : Ex) (a2 : String) (e1 e2 : Ex)
  | unpack (xs : List String) (e : Ex)
  | aug (o : Ex) (a : String) (op : Op) (e : Ex)
  | delSub (o i : Ex)
  | ret (e : Ex)
  | ret0
  | ite (t : Ex) (a b : Sts)
  | while (t : Ex) (b : Sts)
  | forr (x : String) (src : Ex) (b : Sts)
  | dead
inductive Sts
  | nil
  | cons (s : St) (ss : Sts)
end

set_option genInjectivity false in
set_option genCtorIdx false in
set_option genInjectivity false in
inductive Out
  | next
  | ret (v : AV)

noncomputable abbrev FnSem := String → List AV → Sto → (AV → Sto → Prop) → Prop

noncomputable def itemsOf (v : AV) (σ : Sto) : Option (List AV) := match v with
  | .ref a => (match σ a with
    | some (.list xs) => some xs
    | some (.dict es _) => some (es.map fun p => .int p.1)
    | _ => Option.none)
  | _ => Option.none
noncomputable def sameSrc (v : AV) (σ₀ σ : Sto) : Prop := match v with
  | .ref a => σ a = σ₀ a
  | _ => True

noncomputable def forL (step : AV → Loc → Sto → (Out → Loc → Sto → Prop) → Prop) (same : Sto → Prop) (Q : Out → Loc → Sto → Prop) (xs : List AV) (m : Loc) (σ : Sto) : Prop :=
  ∃ I : List AV → Loc → Sto → Prop, I xs m σ ∧ (∀ r m σ, I r m σ → same σ) ∧ (∀ v r m σ, I (v :: r) m σ → step v m σ fun o m' σ' => match o with
    | .next => I r m' σ'
    | .ret w => Q (.ret w) m' σ') ∧ ∀ m σ, I [] m σ → Q .next m σ

noncomputable def compL (cond : AV → Sto → (Bool → Sto → Prop) → Prop) (elt : AV → Sto → (AV → Sto → Prop) → Prop) (same : Sto → Prop) (k : Name) (Q : AV → Sto → Prop) (xs acc : List AV) (σ : Sto) : Prop :=
  ∃ I : List AV → List AV → Sto → Prop, I xs acc σ ∧ (∀ r acc σ, I r acc σ → same σ ∧ σ k = some (.list acc)) ∧ (∀ v r acc σ, I (v :: r) acc σ → cond v σ fun c σ1 => match c with
    | true => elt v σ1 fun y σ' => σ' k = some (.list acc) ∧ acc.length < lim ∧ I r (acc ++ [y]) (σ'.set k (.list (acc ++ [y])))
    | false => I r acc σ1) ∧ ∀ acc σ, I [] acc σ → Q (.ref k) σ

noncomputable def whileN (test : Loc → Sto → (Bool → Sto → Prop) → Prop) (body : Loc → Sto → (Out → Loc → Sto → Prop) → Prop) (Q : Out → Loc → Sto → Prop) (m : Loc) (σ : Sto) : Prop :=
  ∃ (α : Type) (I : α → Loc → Sto → Prop) (μ : α → Nat) (a : α), I a m σ ∧ ∀ a m σ, I a m σ → test m σ fun c σ' => match c with
    | true => body m σ' fun o m' σ'' => match o with
      | .next => True ∧ ∃ a', μ a' < μ a ∧ I a' m' σ''
      | .ret w => Q (.ret w) m' σ''
    | false => Q .next m σ'

noncomputable def truthy (v : AV) (σ : Sto) : Option Bool := match v with
  | .bool b => some b
  | .ref a => (match σ a with
    | some (.list xs) => some (!xs.isEmpty)
    | _ => Option.none)
  | _ => Option.none

noncomputable def kindOf (v : AV) (σ : Sto) : Option Bool := match v with
  | .ref a => (match σ a with
    | some (.list _) => some true
    | some (.dict _ _) => some false
    | _ => Option.none)
  | _ => Option.none

noncomputable def methOn : Meth → Bool → Bool
  | .append, k => k
  | .extend, k => k
  | .pop, _ => true
  | .remove, k => k
  | .get, k => !k

noncomputable def wpBin (o : Op) (a b : AV) (σ : Sto) (Q : AV → Sto → Prop) : Prop := match o, a, b with
  | .add, .int x, .int y => Q (.int (x + y)) σ
  | .sub, .int x, .int y => Q (.int (x - y)) σ
  | .mod, .int x, .int y => 0 < y ∧ Q (.int (x % y)) σ
  | .fdiv, .int x, .int y => 0 < y ∧ y < lim ∧ Q (.int (x / y)) σ
  | .add, .ref a, .ref b => ∃ xs ys, σ a = some (.list xs) ∧ σ b = some (.list ys) ∧ xs.length + ys.length < lim ∧ wpNew σ (.list (xs ++ ys)) fun n σ' => Q (.ref n) σ'
  | _, _, _ => False

noncomputable def AV.scal : AV → Bool
  | .tup _ => false
  | _ => true
noncomputable def AV.flat : AV → Bool
  | .tup xs => xs.all AV.scal
  | _ => true

noncomputable def wpCmp (o : Cmp) (a b : AV) (σ : Sto) (Q : Bool → Prop) : Prop := match o, a, b with
  | .eq, .int x, .int y => Q (decide (x = y))
  | .ne, .int x, .int y => Q (decide (x ≠ y))
  | .lt, .int x, .int y => Q (decide (x < y))
  | .gt, .int x, .int y => Q (decide (x > y))
  | .ge, .int x, .int y => Q (decide (x ≥ y))
  | .eq, .str x, .str y => Q (decide (x = y))
  | .ne, .str x, .str y => Q (decide (x ≠ y))
  | .eq, .ref a, .ref b => (∃ xs, σ a = some (.list xs) ∧ σ b = some (.list xs) ∧ xs.all AV.flat = true) ∧ Q true
  | .ne, .ref a, .ref b => ((∃ xs, σ a = some (.list xs) ∧ σ b = some (.list xs) ∧ xs.all AV.flat = true) ∧ Q false) ∨ ∃ xs ys, σ a = some (.list xs) ∧ σ b = some (.list ys) ∧ xs.length ≠ ys.length ∧ Q true
  | .is, .none, .none => Q true
  | .is, .ref _, .none => Q false
  | .isnot, .none, .none => Q false
  | .isnot, .ref _, .none => Q true
  | .isin, .int k, .ref a => ∃ es fz, σ a = some (.dict es fz) ∧ Q (dget es k).isSome
  | .notin, .int k, .ref a => ∃ es fz, σ a = some (.dict es fz) ∧ Q (!(dget es k).isSome)
  | _, _, _ => False

noncomputable def wpSub (a i : AV) (σ : Sto) (Q : AV → Prop) : Prop := match a, i with
  | .tup xs, .int k => 0 ≤ k ∧ k < lim ∧ ∃ v, xs[k.toNat]? = some v ∧ Q v
  | .ref a, .int k => (∃ xs v, σ a = some (.list xs) ∧ 0 ≤ k ∧ k < lim ∧ xs[k.toNat]? = some v ∧ Q v) ∨ ∃ es fz v, σ a = some (.dict es fz) ∧ dget es k = some v ∧ Q v
  | _, _ => False

noncomputable def isort : List Int → List Int
  | [] => []
  | x :: r => ins x (isort r)
where
  ins (x : Int) : List Int → List Int
    | [] => [x]
    | y :: r => if x ≤ y then x :: y :: r else y :: ins x r

noncomputable def wpBi (f : Bi) (v : AV) (σ : Sto) (Q : AV → Sto → Prop) : Prop := match f, v with
  | .len, .ref a => (∃ xs, σ a = some (.list xs) ∧ Q (.int xs.length) σ) ∨ ∃ es fz, σ a = some (.dict es fz) ∧ Q (.int es.length) σ
  | .sorted, .ref a => ∃ ns : List Int, ns.length < 64 ∧ (σ a = some (.list (ns.map .int)) ∨ ∃ es fz, σ a = some (.dict es fz) ∧ es.map (·.1) = ns) ∧ wpNew σ (.list ((isort ns).map .int)) fun n σ' => Q (.ref n) σ'
  | .all, .ref a => ∃ bs : List Bool, σ a = some (.list (bs.map .bool)) ∧ Q (.bool (bs.all id)) σ
  | _, _ => False

noncomputable def wpMeth (f : Meth) (v : AV) (as : List AV) (σ : Sto) (Q : AV → Sto → Prop) : Prop := match f, v, as with
  | .append, .ref a, [x] => ∃ xs, σ a = some (.list xs) ∧ xs.length < lim ∧ Q .none (σ.set a (.list (xs ++ [x])))
  | .extend, .ref a, [.ref b] => ∃ xs ys, a ≠ b ∧ σ a = some (.list xs) ∧ σ b = some (.list ys) ∧ xs.length + ys.length < lim ∧ Q .none (σ.set a (.list (xs ++ ys)))
  | .pop, .ref a, [] => ∃ xs x, σ a = some (.list (xs ++ [x])) ∧ Q x (σ.set a (.list xs))
  | .pop, .ref a, [.int k] => ∃ es v, σ a = some (.dict es false) ∧ dget es k = some v ∧ Q v (σ.set a (.dict (ddel es k) false))
  | .remove, .ref a, [.int k] => ∃ ns : List Int, σ a = some (.list (ns.map .int)) ∧ k ∈ ns ∧ Q .none (σ.set a (.list ((ns.erase k).map .int)))
  | .get, .ref a, [.int k] => ∃ es fz, σ a = some (.dict es fz) ∧ Q ((dget es k).getD .none) σ
  | .get, .ref a, [.int k, d] => ∃ es fz, σ a = some (.dict es fz) ∧ Q ((dget es k).getD d) σ
  | _, _, _ => False

noncomputable def attrsOf : String → List String
  | "Cell" => ["sort", "number", "count", "slots", "colour", "is_buffered", "has_destructor", "is_destructed", "is_freed", "weak"]
  | "Counted" => ["cells", "vars", "log", "last", "buffer", "full", "freed", "plan", "tables"]
  | _ => []

noncomputable def getsAttr (v : AV) (a : String) (σ : Sto) : Option AV := match v with
  | .ref n => (match σ n with
    | some (.inst c fs) => if a ∈ attrsOf c then fget fs a else Option.none
    | _ => Option.none)
  | _ => Option.none

noncomputable def wpSetAttr (v : AV) (a : String) (x : AV) (σ : Sto) (Q : Sto → Prop) : Prop := match v with
  | .ref n => ∃ c fs, σ n = some (.inst c fs) ∧ a ∈ attrsOf c ∧ fs.length < 100 ∧ Q (σ.set n (.inst c (fset fs a x)))
  | _ => False
noncomputable def wpSetSub (v i x : AV) (σ : Sto) (Q : Sto → Prop) : Prop := match v, i with
  | .ref n, .int k => ∃ es, σ n = some (.dict es false) ∧ es.length < lim ∧ Q (σ.set n (.dict (dset es k x) false))
  | _, _ => False
noncomputable def wpDelSub (v i : AV) (σ : Sto) (Q : Sto → Prop) : Prop := match v, i with
  | .ref n, .int k => ∃ es, σ n = some (.dict es false) ∧ (dget es k).isSome = true ∧ Q (σ.set n (.dict (ddel es k) false))
  | _, _ => False

noncomputable def itemsFit (v : AV) (n : Nat) (σ : Sto) : Option (List AV) := match v with
  | .tup xs => if xs.length = n then some xs else Option.none
  | .ref a => (match σ a with
    | some (.list xs) => if xs.length = n then some xs else Option.none
    | _ => Option.none)
  | _ => Option.none
noncomputable def updAll (m : Loc) : List String → List AV → Loc
  | x :: xs, v :: vs => updAll (upd m x v) xs vs
  | _, _ => m

noncomputable def plainSrc : Ex → Bool
  | .bi .range _ => false
  | .bi .reversed _ => false
  | _ => true

mutual
noncomputable def wpE (F : FnSem) : Ex → Loc → Sto → (AV → Sto → Prop) → Prop
  | .cst c, _, σ, Q => Q c σ
  | .var x, m, σ, Q => vcase (m x) fun v => Q v σ
  | .attr e a, m, σ, Q => wpE F e m σ fun v σ' => ∃ r, getsAttr v a σ' = some r ∧ Q r σ'
  | .sub e i, m, σ, Q => wpE F e m σ fun v σ' => wpE F i m σ' fun k σ'' => wpSub v k σ'' fun r => Q r σ''
  | .upto e n, m, σ, Q => wpE F e m σ fun v σ' => ∃ a xs, v = .ref a ∧ σ' a = some (.list xs) ∧ wpNew σ' (.list (xs.take n)) fun b σ'' => Q (.ref b) σ''
  | .frm e n, m, σ, Q => wpE F e m σ fun v σ' => ∃ a xs, v = .ref a ∧ σ' a = some (.list xs) ∧ wpNew σ' (.list (xs.drop n)) fun b σ'' => Q (.ref b) σ''
  | .bin o a b, m, σ, Q => wpE F a m σ fun x σ' => wpE F b m σ' fun y σ'' => wpBin o x y σ'' Q
  | .cmp o a b, m, σ, Q => wpE F a m σ fun x σ' => wpE F b m σ' fun y σ'' => wpCmp o x y σ'' fun r => Q (.bool r) σ''
  | .and a b, m, σ, Q => wpE F a m σ fun x σ' => ∃ t, truthy x σ' = some t ∧ match t with | true => wpE F b m σ' Q | false => Q x σ'
  | .or a b, m, σ, Q => wpE F a m σ fun x σ' => ∃ t, truthy x σ' = some t ∧ match t with | true => Q x σ' | false => wpE F b m σ' Q
  | .not a, m, σ, Q => wpE F a m σ fun x σ' => ∃ t, truthy x σ' = some t ∧ Q (.bool (!t)) σ'
  | .ite t a b, m, σ, Q => wpT F t m σ fun c σ' => match c with | true => wpE F a m σ' Q | false => wpE F b m σ' Q
  | .tup es, m, σ, Q => wpEs F es m σ fun vs σ' => Q (.tup vs) σ'
  | .list es, m, σ, Q => wpEs F es m σ fun vs σ' => wpNew σ' (.list vs) fun n σ'' => Q (.ref n) σ''
  | .dict0, _, σ, Q => wpNew σ (.dict [] false) fun n σ' => Q (.ref n) σ'
  | .call f es, m, σ, Q => wpEs F es m σ fun vs σ' => F f vs σ' Q
  | .mk c es, m, σ, Q => wpEs F es m σ fun vs σ' => wpNew σ' (.inst c []) fun n σ'' => F (c ++ ".__init__") (.ref n :: vs) σ'' fun r τ => r = .none ∧ Q (.ref n) τ
  | .bi f e, m, σ, Q => wpE F e m σ fun v σ' => wpBi f v σ' Q
  | .listOf e, m, σ, Q => wpE F e m σ fun v σ' => ∃ a xs, v = .ref a ∧ σ' a = some (.list xs) ∧ wpNew σ' (.list xs) fun n σ'' => Q (.ref n) σ''
  | .listVals e, m, σ, Q => wpE F e m σ fun v σ' => ∃ a es fz, v = .ref a ∧ σ' a = some (.dict es fz) ∧ wpNew σ' (.list (es.map (·.2))) fun n σ'' => Q (.ref n) σ''
  | .meth o f es, m, σ, Q => wpE F o m σ fun v σ' => ∃ k, kindOf v σ' = some k ∧ methOn f k = true ∧ wpEs F es m σ' fun vs σ'' => kindOf v σ'' = some k ∧ wpMeth f v vs σ'' Q
  | .comp elt x src cond, m, σ, Q => plainSrc src = true ∧ wpE F src m σ fun v σ' => ∃ xs, itemsOf v σ' = some xs ∧ frz v σ' = σ' ∧ wpNew σ' (.list []) fun k σ'' =>
      compL (fun it τ Q' => wpT F cond (upd m x it) τ Q') (fun it τ Q' => wpE F elt (upd m x it) τ Q') (sameSrc v σ') k Q xs [] σ''
  | .compAll elt x src, m, σ, Q => match src with
    | .bi .reversed e => wpE F e m σ fun v σ' => ∃ a xs, v = .ref a ∧ σ' a = some (.list xs) ∧ frz v σ' = σ' ∧ wpNew σ' (.list []) fun k σ'' =>
      compL (fun _ τ Q' => Q' true τ) (fun it τ Q' => wpE F elt (upd m x it) τ Q') (sameSrc v σ') k Q xs.reverse [] σ''
    | src => plainSrc src = true ∧ wpE F src m σ fun v σ' => ∃ xs, itemsOf v σ' = some xs ∧ frz v σ' = σ' ∧ wpNew σ' (.list []) fun k σ'' =>
      compL (fun _ τ Q' => Q' true τ) (fun it τ Q' => wpE F elt (upd m x it) τ Q') (sameSrc v σ') k Q xs [] σ''
noncomputable def wpEs (F : FnSem) : Exs → Loc → Sto → (List AV → Sto → Prop) → Prop
  | .nil, _, σ, Q => Q [] σ
  | .cons e es, m, σ, Q => wpE F e m σ fun v σ' => wpEs F es m σ' fun vs σ'' => Q (v :: vs) σ''
noncomputable def wpT (F : FnSem) : Ex → Loc → Sto → (Bool → Sto → Prop) → Prop
  | .and a b, m, σ, Q => wpT F a m σ fun t σ' => match t with | true => wpT F b m σ' Q | false => Q false σ'
  | .or a b, m, σ, Q => wpT F a m σ fun t σ' => match t with | true => Q true σ' | false => wpT F b m σ' Q
  | .not a, m, σ, Q => wpT F a m σ fun t σ' => Q (!t) σ'
  | .cmp o a b, m, σ, Q => wpE F a m σ fun x σ' => wpE F b m σ' fun y σ'' => wpCmp o x y σ'' fun r => Q r σ''
  | .cst c, _, σ, Q => ∃ t, truthy c σ = some t ∧ Q t σ
  | .var c, m, σ, Q => vcase (m c) fun x => ∃ t, truthy x σ = some t ∧ Q t σ
  | .attr e a, m, σ, Q => wpE F e m σ fun v σ' => ∃ r, getsAttr v a σ' = some r ∧ ∃ t, truthy r σ' = some t ∧ Q t σ'
  | .call f es, m, σ, Q => wpEs F es m σ fun vs σ' => F f vs σ' fun x τ => ∃ t, truthy x τ = some t ∧ Q t τ
  | _, _, _, _ => False
end

noncomputable def wpSrc (F : FnSem) : Ex → Loc → Sto → (AV → List AV → Sto → Prop) → Prop
  | .bi .range (.cst (.int n)), _, σ, Q => 0 ≤ n ∧ Q .none ((List.range n.toNat).map fun i => AV.int (Int.ofNat i)) σ
  | .bi .reversed e, m, σ, Q => wpE F e m σ fun v σ' => ∃ a xs, v = .ref a ∧ σ' a = some (.list xs) ∧ Q v xs.reverse σ'
  | e, m, σ, Q => wpE F e m σ fun v σ' => ∃ xs, itemsOf v σ' = some xs ∧ Q v xs σ'

theorem src_of_plain {F : FnSem} {e : Ex} {m : Loc} {σ : Sto} {Q : AV → List AV → Sto → Prop} (h : plainSrc e = true) : wpSrc F e m σ Q ↔ wpE F e m σ fun v σ' => ∃ xs, itemsOf v σ' = some xs ∧ Q v xs σ' := by
  cases e with
  | bi f a => cases f <;> first | exact Iff.rfl | exact Bool.noConfusion h
  | _ => exact Iff.rfl
theorem src_of_all {F : FnSem} {elt src : Ex} {x : String} {m : Loc} {σ : Sto} {Q : AV → Sto → Prop} (h : wpE F (.compAll elt x src) m σ Q) : wpSrc F src m σ fun v xs σ' => frz v σ' = σ' ∧ wpNew σ' (.list []) fun k σ'' =>
    compL (fun _ τ Q' => Q' true τ) (fun it τ Q' => wpE F elt (upd m x it) τ Q') (sameSrc v σ') k Q xs [] σ'' := by
  cases src with
  | bi f a => cases f <;> first | exact h | exact (src_of_plain h.1).mpr h.2
  | _ => exact h.2
theorem wpE_var {F : FnSem} {x : String} {m : Loc} {σ : Sto} {Q : AV → Sto → Prop} : wpE F (.var x) m σ Q ↔ ∃ v, m x = some v ∧ Q v σ := vcase_iff

mutual
noncomputable def wpS (F : FnSem) : St → Loc → Sto → (Out → Loc → Sto → Prop) → Prop
  | .expr e, m, σ, Q => wpE F e m σ fun _ σ' => Q .next m σ'
  | .set x e, m, σ, Q => wpE F e m σ fun v σ' => Q .next (upd m x v) σ'
  | .setAttr o a e, m, σ, Q => wpE F e m σ fun v σ' => wpE F o m σ' fun ov σ'' => wpSetAttr ov a v σ'' fun τ => Q .next m τ
  | .setSub o i e, m, σ, Q => wpE F e m σ fun v σ' => wpE F o m σ' fun ov σ'' => wpE F i m σ'' fun iv τ => wpSetSub ov iv v τ fun τ' => Q .next m τ'
  | .set2 x y a b, m, σ, Q => wpE F a m σ fun v σ' => wpE F b m σ' fun u σ'' => Q .next (upd (upd m y u) x v) σ''
  | .setAttr2 o1 a1 o2 a2 e1 e2, m, σ, Q => wpE F e1 m σ fun v1 σ1 => wpE F e2 m σ1 fun v2 σ2 => wpE F o1 m σ2 fun r1 σ3 => wpSetAttr r1 a1 v1 σ3 fun σ4 =>
      wpE F o2 m σ4 fun r2 σ5 => wpSetAttr r2 a2 v2 σ5 fun σ6 => Q .next m σ6
  | .unpack xs e, m, σ, Q => wpE F e m σ fun v σ' => ∃ vs, itemsFit v xs.length σ' = some vs ∧ Q .next (updAll m xs vs) σ'
  | .aug o a op e, m, σ, Q => wpE F o m σ fun ov σ' => ∃ old, getsAttr ov a σ' = some old ∧ wpE F e m σ' fun v σ'' => ∃ x y, old = .int x ∧ v = .int y ∧ wpBin op old v σ'' fun r τ => wpSetAttr ov a r τ fun τ' => Q .next m τ'
  | .delSub o i, m, σ, Q => wpE F o m σ fun ov σ' => wpE F i m σ' fun iv σ'' => wpDelSub ov iv σ'' fun τ => Q .next m τ
  | .ret e, m, σ, Q => wpE F e m σ fun v σ' => Q (.ret v) m σ'
  | .ret0, m, σ, Q => Q (.ret .none) m σ
  | .ite t a b, m, σ, Q => wpT F t m σ fun c σ' => match c with | true => wpSs F a m σ' Q | false => wpSs F b m σ' Q
  | .while t b, m, σ, Q => whileN (fun m σ Q' => wpT F t m σ Q') (fun m σ Q' => wpSs F b m σ Q') Q m σ
  | .forr x src b, m, σ, Q => wpSrc F src m σ fun v xs σ' => forL (fun it m σ Q' => wpSs F b (upd m x it) σ Q') (sameSrc v (frz v σ')) (fun o m' τ => Q o m' (unfrz v σ' τ)) xs m (frz v σ')
  | .dead, _, _, _ => False
noncomputable def wpSs (F : FnSem) : Sts → Loc → Sto → (Out → Loc → Sto → Prop) → Prop
  | .nil, m, σ, Q => Q .next m σ
  | .cons s ss, m, σ, Q => wpS F s m σ fun o m' σ' => match o with
    | .next => wpSs F ss m' σ' Q
    | .ret v => Q (.ret v) m' σ'
end

set_option genInjectivity false in
structure Def where
  params : List String
  body : Sts

noncomputable def Out.val : Out → AV
  | .next => .none
  | .ret v => v

noncomputable def noLoc : Loc := fun _ => Option.none

noncomputable def wpFn (P : String → Option Def) : Nat → FnSem
  | 0 => fun _ _ _ _ => False
  | d + 1 => fun f vs σ Q => ∃ D, P f = some D ∧ D.params.length = vs.length ∧
      wpSs (wpFn P d) D.body (updAll noLoc D.params vs) σ fun o _ σ' => Q o.val σ'

end Gc
end
/- GcB1 -/
section
set_option maxRecDepth 100000
namespace Gc
open PySem PySem.W PySem.Calls PyProof.Rows

noncomputable abbrev Rho := Name → Option (Nat × Nat)
theorem hlt {h : Heap} {b : Nat} {o : Obj} (e : h.get? b = some o) : b < h.objs.size := Heap.lt_size e
noncomputable abbrev S (x : String) : PySem.Str := PySem.Str.ofString x

noncomputable def Unowned (ρ : Rho) (t : Nat) : Prop := ∀ a x d, ρ a = some (x, d) → t ≠ x ∧ t ≠ d
noncomputable def Safe (ρ : Rho) (σ : Sto) (t : Nat) : Prop := ∀ a x d, ρ a = some (x, d) → t = x ∨ t = d → isFrz (σ a) = true
theorem Unowned.safe {ρ : Rho} {σ : Sto} {t : Nat} (u : Unowned ρ t) : Safe ρ σ t := fun a x d e q => (q.elim (u a x d e).1 (u a x d e).2).elim

mutual
inductive VRel (ρ : Rho) (h : Heap) : AV → Value → Prop
  | none : VRel ρ h .none .none
  | bool (b : Bool) : VRel ρ h (.bool b) (.bool b)
  | int (i : Int) (t : Tok) : VRel ρ h (.int i) (.int i t)
  | str (x : String) (t : Tok) : VRel ρ h (.str x) (.str (S x) t)
  | ref {a : Name} {x d : Nat} : ρ a = some (x, d) → VRel ρ h (.ref a) (.ref x)
  | tup {xs : List AV} {t : Nat} {vs : List Value} : IsTup h t vs.toArray → Unowned ρ t → VRels ρ h xs vs → VRel ρ h (.tup xs) (.ref t)
inductive VRels (ρ : Rho) (h : Heap) : List AV → List Value → Prop
  | nil : VRels ρ h [] []
  | cons {av : AV} {v : Value} {avs : List AV} {vs : List Value} : VRel ρ h av v → VRels ρ h avs vs → VRels ρ h (av :: avs) (v :: vs)
end

section
variable {ρ : Rho} {h : Heap} {v : Value}
theorem VRel.nn (r : VRel ρ h .none v) : v = .none := by cases r; rfl
theorem VRel.bb {b : Bool} (r : VRel ρ h (.bool b) v) : v = .bool b := by cases r; rfl
theorem VRel.ii {i : Int} (r : VRel ρ h (.int i) v) : ∃ t, v = .int i t := by cases r; exact ⟨_, rfl⟩
theorem VRel.ss {x : String} (r : VRel ρ h (.str x) v) : ∃ t, v = .str (S x) t := by cases r; exact ⟨_, rfl⟩
theorem VRel.rr {a : Name} (r : VRel ρ h (.ref a) v) : ∃ x d, ρ a = some (x, d) ∧ v = .ref x := by cases r; exact ⟨_, _, ‹_›, rfl⟩
theorem VRels.n0 {vs : List Value} (r : VRels ρ h [] vs) : vs = [] := by cases r; rfl
theorem VRels.cc {a : AV} {as : List AV} {vs : List Value} (r : VRels ρ h (a :: as) vs) : ∃ v ws, vs = v :: ws ∧ VRel ρ h a v ∧ VRels ρ h as ws := by cases r; exact ⟨_, _, rfl, ‹_›, ‹_›⟩
end

structure Up (ρ : Rho) (h : Heap) (ρ' : Rho) (h' : Heap) : Prop where
  ext : ∀ a p, ρ a = some p → ρ' a = some p
  tup : ∀ (t : Nat) vs, IsTup h t vs → Unowned ρ t → IsTup h' t vs ∧ Unowned ρ' t

theorem VRel.up {ρ ρ' : Rho} {h h' : Heap} (u : Up ρ h ρ' h') {av : AV} {v : Value} (r : VRel ρ h av v) : VRel ρ' h' av v :=
  VRel.rec (motive_1 := fun av v _ => VRel ρ' h' av v) (motive_2 := fun avs vs _ => VRels ρ' h' avs vs) .none .bool .int .str (fun e => .ref (u.ext _ _ e))
    (fun ht hu _ ih => .tup (u.tup _ _ ht hu).1 (u.tup _ _ ht hu).2 ih) .nil (fun _ _ a b => .cons a b) r
section
variable {ρ : Rho} {h : Heap} {avs : List AV} {vs : List Value}
theorem VRels.up {ρ' : Rho} {h' : Heap} (u : Up ρ h ρ' h') (r : VRels ρ h avs vs) : VRels ρ' h' avs vs := by
  induction avs generalizing vs with
  | nil => rw [r.n0]; exact .nil
  | cons a as ih => obtain ⟨v, ws, rfl, p, q⟩ := r.cc; exact .cons (p.up u) (ih q)
theorem VRels.length (r : VRels ρ h avs vs) : avs.length = vs.length := by
  induction avs generalizing vs with
  | nil => rw [r.n0]; rfl
  | cons a as ih => obtain ⟨v, ws, rfl, p, q⟩ := r.cc; rw [List.length_cons, List.length_cons, ih q]
theorem VRels.append {b : List AV} {y : List Value} (r : VRels ρ h avs vs) (s : VRels ρ h b y) : VRels ρ h (avs ++ b) (vs ++ y) := by
  induction avs generalizing vs with
  | nil => rw [r.n0]; exact s
  | cons a as ih => obtain ⟨v, ws, rfl, p, q⟩ := r.cc; exact .cons p (ih q)
theorem VRels.get {i : Nat} {av : AV} (r : VRels ρ h avs vs) (e : avs[i]? = some av) : ∃ v, vs[i]? = some v ∧ VRel ρ h av v := by
  induction avs generalizing vs i with
  | nil => exact nomatch e
  | cons a as ih =>
    obtain ⟨v, ws, rfl, p, q⟩ := r.cc
    cases i with
    | zero => exact ⟨v, rfl, Option.some.inj e ▸ p⟩
    | succ i =>
      have := ih (i := i) q e
      exact this
theorem VRels.get' {i : Nat} {v : Value} (r : VRels ρ h avs vs) (e : vs[i]? = some v) : ∃ av, avs[i]? = some av ∧ VRel ρ h av v := by
  induction avs generalizing vs i with
  | nil => rw [r.n0] at e; exact nomatch e
  | cons a as ih =>
    obtain ⟨v, ws, rfl, p, q⟩ := r.cc
    cases i with
    | zero => exact ⟨a, rfl, Option.some.inj e ▸ p⟩
    | succ i =>
      have := ih (i := i) q e
      exact this
theorem VRels.take (n : Nat) (r : VRels ρ h avs vs) : VRels ρ h (avs.take n) (vs.take n) := by
  induction avs generalizing vs n with
  | nil => rw [r.n0]; cases n <;> exact .nil
  | cons a as ih =>
    obtain ⟨v, ws, rfl, p, q⟩ := r.cc
    cases n with
    | zero => exact .nil
    | succ n =>
      have := ih n q
      exact .cons p this
theorem VRels.drop (n : Nat) (r : VRels ρ h avs vs) : VRels ρ h (avs.drop n) (vs.drop n) := by
  induction avs generalizing vs n with
  | nil => rw [r.n0]; cases n <;> exact .nil
  | cons a as ih =>
    obtain ⟨v, ws, rfl, p, q⟩ := r.cc
    cases n with
    | zero => exact .cons p q
    | succ n =>
      have := ih n q
      exact this
theorem VRels.snocInv {av : AV} (r : VRels ρ h (avs ++ [av]) vs) : ∃ ws w, vs = ws ++ [w] ∧ VRels ρ h avs ws ∧ VRel ρ h av w := by
  induction avs generalizing vs with
  | nil => obtain ⟨v, ws, rfl, p, q⟩ := r.cc; rw [q.n0]; exact ⟨[], v, rfl, .nil, p⟩
  | cons a as ih =>
    obtain ⟨v, us, rfl, p, q⟩ := r.cc
    obtain ⟨ws, w, rfl, a, b⟩ := ih q
    exact ⟨v :: ws, w, rfl, .cons p a, b⟩
end

inductive PairsR (ρ : Rho) (h : Heap) : List (Int × AV) → List (Int × Value) → Prop
  | nil : PairsR ρ h [] []
  | cons {k : Int} {av : AV} {v : Value} {es : List (Int × AV)} {kvs : List (Int × Value)} : VRel ρ h av v → PairsR ρ h es kvs → PairsR ρ h ((k, av) :: es) ((k, v) :: kvs)
theorem PairsR.up {ρ ρ' : Rho} {h h' : Heap} (u : Up ρ h ρ' h') {es kvs} (r : PairsR ρ h es kvs) : PairsR ρ' h' es kvs := by
  induction r with
  | nil => exact .nil
  | cons p _ ih => exact .cons (p.up u) ih

inductive FieldsR (w : World) (ρ : Rho) (h : Heap) : List (String × AV) → List DictEntry → Prop
  | nil : FieldsR w ρ h [] []
  | cons {k : String} {av : AV} {v : Value} {t : Tok} {fs : List (String × AV)} {es : List DictEntry} :
      VRel ρ h av v → FieldsR w ρ h fs es → FieldsR w ρ h ((k, av) :: fs) (⟨PyData.keyHash w.params (S k), .str (S k) t, v⟩ :: es)
theorem FieldsR.up {w : World} {ρ ρ' : Rho} {h h' : Heap} (u : Up ρ h ρ' h') {fs es} (r : FieldsR w ρ h fs es) : FieldsR w ρ' h' fs es := by
  induction r with
  | nil => exact .nil
  | cons p _ ih => exact .cons (p.up u) ih

section
variable (prog : Program) (w : World) (cl : String → Nat)

noncomputable def ObjAt (ρ : Rho) (h : Heap) (x d : Nat) : AO → Prop
  | .list xs => xs.length ≤ lim ∧ ∃ (vs : List Value) (n : Nat), IsL h x vs.toArray n ∧ VRels ρ h xs vs
  | .dict es _ => es.length ≤ lim ∧ ∃ o kvs, h.get? x = some o ∧ o.IsDictOf (intKind prog w) kvs ∧ PairsR ρ h es kvs
  | .inst c fs => ∃ es n, h.get? x = some (instObj (cl c) d) ∧ h.get? d = some (dictOf es n) ∧ FieldsR w ρ h fs es
  | .dead => True

theorem ObjAt.at {ρ ρ' : Rho} {h h' : Heap} {x d : Nat} {o : AO} (u : Up ρ h ρ' h') (hx : ∀ o, h.get? x = some o → h'.get? x = some o) (hd : ∀ o, h.get? d = some o → h'.get? d = some o)
    (r : ObjAt prog w cl ρ h x d o) : ObjAt prog w cl ρ' h' x d o := by
  cases o with
  | list xs => obtain ⟨z, vs, n, a, b⟩ := r; exact ⟨z, vs, n, hx _ a, b.up u⟩
  | dict es fz => obtain ⟨z, o, kvs, a, b, c⟩ := r; exact ⟨z, o, kvs, hx _ a, b, c.up u⟩
  | inst c fs => obtain ⟨es, n, a, b, e⟩ := r; exact ⟨es, n, hx _ a, hd _ b, e.up u⟩
  | dead => trivial

structure Rel (base : Heap) (ρ : Rho) (σ : Sto) (h : Heap) : Prop where
  inj : ∀ a b x d x' d', ρ a = some (x, d) → ρ b = some (x', d') → a ≠ b → x ≠ x' ∧ x ≠ d' ∧ d ≠ x' ∧ d ≠ d'
  lo : ∀ a x d, ρ a = some (x, d) → base.objs.size ≤ x ∧ base.objs.size ≤ d ∧ x < h.objs.size ∧ d < h.objs.size
  obj : ∀ a o, σ a = some o → ∃ x d, ρ a = some (x, d) ∧ ObjAt prog w cl ρ h x d o
  fresh : ∀ i t, σ (.obj i t) = none → ρ (.obj i t) = none
  fin : ∃ N, ∀ k, N ≤ k → ρ (.tmp k) = none
  bas : ∀ (b : Nat) o, base.get? b = some o → h.get? b = some o
  blo : base.objs.size ≤ h.objs.size
end

structure Step (X : Nat → Prop) (ρ : Rho) (σ : Sto) (h : Heap) (ρ' : Rho) (σ' : Sto) (h' : Heap) : Prop where
  sz : h.objs.size ≤ h'.objs.size
  keep : ∀ (b : Nat) o, h.get? b = some o → ¬ X b → Safe ρ σ b → h'.get? b = some o
  ext : ∀ a p, ρ a = some p → ρ' a = some p
  new : ∀ a x d, ρ' a = some (x, d) → ρ a = none → h.objs.size ≤ x ∧ h.objs.size ≤ d
  frz : ∀ a, isFrz (σ a) = true → σ' a = σ a

noncomputable abbrev No : Nat → Prop := fun _ => False

theorem Step.refl {X : Nat → Prop} {ρ : Rho} {σ : Sto} {h : Heap} : Step X ρ σ h ρ σ h := ⟨Nat.le_refl _, fun _ _ e _ _ => e, fun _ _ e => e, (fun a x d e e' => by rw [e'] at e; cases e), fun _ _ => rfl⟩
section
variable {X Y : Nat → Prop} {ρ ρ' ρ'' : Rho} {σ σ' σ'' : Sto} {h h' h'' : Heap}
theorem Step.unowned (s : Step X ρ σ h ρ' σ' h') {b : Nat} (hb : b < h.objs.size) (u : Unowned ρ b) : Unowned ρ' b := fun a x d e => by
  cases q : ρ a with
  | none => have := s.new a x d e q; lia
  | some p =>
    have := s.ext a p q
    rw [e] at this; cases this
    exact u a x d q
theorem Step.safe (s : Step X ρ σ h ρ' σ' h') {b : Nat} (hb : b < h.objs.size) (u : Safe ρ σ b) : Safe ρ' σ' b := fun a x d e t => by
  cases q : ρ a with
  | none => have := s.new a x d e q; lia
  | some p =>
    have := s.ext a p q
    rw [e] at this; cases this
    have f := u a x d q t
    rw [s.frz a f]; exact f
theorem Step.trans (s : Step X ρ σ h ρ' σ' h') (t : Step X ρ' σ' h' ρ'' σ'' h'') : Step X ρ σ h ρ'' σ'' h'' where
  sz := Nat.le_trans s.sz t.sz
  keep b o e hx hu := t.keep b o (s.keep b o e hx hu) hx (s.safe (hlt e) hu)
  ext a p e := t.ext a p (s.ext a p e)
  new a x d e e' := by
    cases q : ρ' a with
    | none => have := t.new a x d e q; have := s.sz; lia
    | some p =>
      have := t.ext a p q
      rw [e] at this; cases this
      exact s.new a x d q e'
  frz a f := by
    have e := s.frz a f
    rw [t.frz a (by rw [e]; exact f), e]
theorem Step.mono (s : Step X ρ σ h ρ' σ' h') (xy : ∀ b, X b → Y b) : Step Y ρ σ h ρ' σ' h' := ⟨s.sz, fun b o e hx hu => s.keep b o e (fun q => hx (xy b q)) hu, s.ext, s.new, s.frz⟩
theorem Step.low (s : Step X ρ σ h ρ' σ' h') (xy : ∀ b, X b → h.objs.size ≤ b) : Step No ρ σ h ρ' σ' h' :=
  ⟨s.sz, fun b o e _ hu => s.keep b o e (fun q => by have := xy b q; have := hlt e; lia) hu, s.ext, s.new, s.frz⟩
theorem Step.up (s : Step X ρ σ h ρ' σ' h') (hX : ∀ (b : Nat) vs, X b → IsTup h b vs → False) : Up ρ h ρ' h' where
  ext := s.ext
  tup t vs ht hu := by
    obtain ⟨o, ho, r⟩ := ht
    exact ⟨⟨o, s.keep t o ho (fun q => hX t vs q ⟨o, ho, r⟩) hu.safe, r⟩, s.unowned (hlt ho) hu⟩
theorem Step.up0 (s : Step No ρ σ h ρ' σ' h') : Up ρ h ρ' h' := s.up fun _ _ q => q.elim
theorem Step.pushed (k : ∀ (b : Nat) o, h.get? b = some o → h'.get? b = some o) (sz : h.objs.size ≤ h'.objs.size) : Step X ρ σ h ρ σ h' :=
  ⟨sz, fun b o e _ _ => k b o e, fun _ _ e => e, (fun a x d e e' => by rw [e'] at e; cases e), fun _ _ => rfl⟩
end

section
variable {prog : Program} {w : World} {cl : String → Nat} {base : Heap} {ρ : Rho} {σ : Sto} {h h' : Heap}

theorem Rel.grown (R : Rel prog w cl base ρ σ h) (k : ∀ (b : Nat) o, h.get? b = some o → h'.get? b = some o) (sz : h.objs.size ≤ h'.objs.size) : Rel prog w cl base ρ σ h' where
  inj := R.inj
  lo a x d e := by have := R.lo a x d e; lia
  obj a o e := by
    obtain ⟨x, d, e1, e2⟩ := R.obj a o e
    exact ⟨x, d, e1, ObjAt.at prog w cl (Step.pushed (X := No) (σ := σ) k sz).up0 (fun o => k x o) (fun o => k d o) e2⟩
  fresh := R.fresh
  fin := R.fin
  bas b o e := k b o (R.bas b o e)
  blo := Nat.le_trans R.blo sz

theorem Rel.frame {X : Nat → Prop} (R : Rel prog w cl base ρ σ h) (hX : ∀ (b : Nat) vs, X b → IsTup h b vs → False) (hu : ∀ b, X b → Unowned ρ b)
    (hk : ∀ (b : Nat) o, h.get? b = some o → ¬ X b → h'.get? b = some o) (hlo : ∀ b, X b → base.objs.size ≤ b) (sz : h.objs.size ≤ h'.objs.size) : Rel prog w cl base ρ σ h' ∧ Step X ρ σ h ρ σ h' := by
  have st : Step X ρ σ h ρ σ h' := ⟨sz, fun b o e hx _ => hk b o e hx, fun _ _ e => e, (fun a x d e e' => by rw [e'] at e; cases e), fun _ _ => rfl⟩
  refine ⟨⟨R.inj, fun a x d e => by have := R.lo a x d e; lia, fun a o e => ?_, R.fresh, R.fin, fun b o e => hk b o (R.bas b o e) fun q => by have := hlo b q; have := hlt e; lia, Nat.le_trans R.blo sz⟩, st⟩
  obtain ⟨x, d, e1, e2⟩ := R.obj a o e
  refine ⟨x, d, e1, ObjAt.at prog w cl (st.up hX) (fun o e => hk x o e fun q => ?_) (fun o e => hk d o e fun q => ?_) e2⟩
  · exact ((hu x q) a x d e1).1 rfl
  · exact ((hu d q) a x d e1).2 rfl

theorem Rel.turned {a : Name} {x d y : Nat} {o' : AO} (R : Rel prog w cl base ρ σ h) (e : ρ a = some (x, d)) (hz : isFrz (σ a) = false) (hy : y = x ∨ y = d) (hs : Heap.SameBut y h h')
    (hnt : ∀ o, h.get? y = some o → o.cls ≠ .type "tuple") (ho : Up ρ h ρ h' → ObjAt prog w cl ρ h' x d o') :
    Rel prog w cl base ρ (σ.set a o') h' ∧ Step No ρ σ h ρ (σ.set a o') h' := by
  have nu : ∀ b, Safe ρ σ b → b ≠ y := fun b hb q => by
    have := hb a x d e (by rcases hy with rfl | rfl <;> simp [q])
    rw [hz] at this; cases this
  have st : Step No ρ σ h ρ (σ.set a o') h' := ⟨Nat.le_of_eq hs.1.symm, fun b o e' _ hu => (hs.2 b (nu b hu)).trans e', fun _ _ e => e, (fun a x d e e' => by rw [e'] at e; cases e), fun b f => by
    unfold Sto.set
    rw [if_neg]
    rintro rfl
    rw [hz] at f; cases f⟩
  refine ⟨⟨R.inj, fun b x d e => by have := R.lo b x d e; rw [hs.1]; exact this, fun b o eb => ?_, fun i t eb => ?_, R.fin, fun b o eb => ?_, hs.1 ▸ R.blo⟩, st⟩
  · unfold Sto.set at eb
    by_cases q : b = a
    · rw [if_pos q] at eb; cases eb
      exact ⟨x, d, q ▸ e, ho st.up0⟩
    · rw [if_neg q] at eb
      obtain ⟨x', d', e1, e2⟩ := R.obj b o eb
      have ne := R.inj b a x' d' x d e1 e q
      refine ⟨x', d', e1, ObjAt.at prog w cl st.up0 (fun o e => (hs.2 x' ?_).trans e) (fun o e => (hs.2 d' ?_).trans e) e2⟩
      · rcases hy with rfl | rfl
        · exact ne.1
        · exact ne.2.1
      · rcases hy with rfl | rfl
        · exact ne.2.2.1
        · exact ne.2.2.2
  · unfold Sto.set at eb
    by_cases q : Name.obj i t = a
    · rw [if_pos q] at eb; cases eb
    · rw [if_neg q] at eb; exact R.fresh i t eb
  · have hl := R.lo a x d e
    refine (hs.2 b fun q => ?_).trans (R.bas b o eb)
    have := hlt eb
    subst q
    rcases hy with rfl | rfl <;> lia

theorem Rel.added {a : Name} {x d : Nat} {o' : AO} (R : Rel prog w cl base ρ σ h) (e : ρ a = none) (hx : h.objs.size ≤ x) (hd : h.objs.size ≤ d) (hx' : x < h'.objs.size) (hd' : d < h'.objs.size)
    (hk : ∀ (b : Nat) o, h.get? b = some o → h'.get? b = some o) (sz : h.objs.size ≤ h'.objs.size) (ho : ∀ ρ', Up ρ h ρ' h' → ObjAt prog w cl ρ' h' x d o') :
    ∃ ρ', ρ' a = some (x, d) ∧ Rel prog w cl base ρ' (σ.set a o') h' ∧ Step No ρ σ h ρ' (σ.set a o') h' := by
  have hb := R.blo
  have ne : ∀ b p, ρ b = some p → b ≠ a := fun b p eb q => by rw [q, e] at eb; cases eb
  have e0 : (fun b => if b = a then some (x, d) else ρ b) a = some (x, d) := if_pos rfl
  have e1 : ∀ b p, ρ b = some p → (fun b => if b = a then some (x, d) else ρ b) b = some p := fun b p eb => (if_neg (ne b p eb)).trans eb
  have e2 : ∀ b p, (fun b => if b = a then some (x, d) else ρ b) b = some p → (b = a ∧ p = (x, d)) ∨ ρ b = some p := fun b p eb => by
    dsimp only at eb
    by_cases q : b = a
    · rw [if_pos q] at eb; cases eb; exact .inl ⟨q, rfl⟩
    · rw [if_neg q] at eb; exact .inr eb
  generalize (fun b => if b = a then some (x, d) else ρ b) = ρ' at e0 e1 e2
  have st : Step No ρ σ h ρ' (σ.set a o') h' := ⟨sz, fun b o eb _ _ => hk b o eb, e1, (fun b x' d' eb eb' => by
    rcases e2 b _ eb with ⟨_, q⟩ | q
    · cases q; exact ⟨hx, hd⟩
    · rw [eb'] at q; cases q), fun b f => by
      unfold Sto.set
      rw [if_neg]
      rintro rfl
      cases q : σ b with
      | none => rw [q] at f; cases f
      | some o => obtain ⟨_, _, q1, _⟩ := R.obj b o q; rw [e] at q1; cases q1⟩
  refine ⟨ρ', e0, ⟨?_, fun b x' d' eb => ?_, fun b o eb => ?_, fun i t eb => ?_, ?_, fun b o eb => hk b o (R.bas b o eb), Nat.le_trans hb sz⟩, st⟩
  · intro b c x1 d1 x2 d2 eb ec hne
    rcases e2 b _ eb with ⟨q1, q⟩ | q1 <;> rcases e2 c _ ec with ⟨q2, q'⟩ | q2
    · exact absurd (q1.trans q2.symm) hne
    · cases q; have := R.lo c _ _ q2; lia
    · cases q'; have := R.lo b _ _ q1; lia
    · exact R.inj b c _ _ _ _ q1 q2 hne
  · rcases e2 b _ eb with ⟨_, q⟩ | q
    · cases q; lia
    · have := R.lo b _ _ q; lia
  · unfold Sto.set at eb
    by_cases q : b = a
    · rw [if_pos q] at eb; cases eb
      exact ⟨x, d, q ▸ e0, ho ρ' st.up0⟩
    · rw [if_neg q] at eb
      obtain ⟨x', d', q1, q2⟩ := R.obj b o eb
      exact ⟨x', d', e1 _ _ q1, ObjAt.at prog w cl st.up0 (fun o => hk x' o) (fun o => hk d' o) q2⟩
  · unfold Sto.set at eb
    by_cases q : Name.obj i t = a
    · rw [if_pos q] at eb; cases eb
    · rw [if_neg q] at eb
      have := R.fresh i t eb
      cases q' : ρ' (.obj i t) with
      | none => rfl
      | some p =>
        rcases e2 _ _ q' with ⟨q2, _⟩ | q2
        · exact absurd q2 q
        · rw [this] at q2; cases q2
  · obtain ⟨N, hN⟩ := R.fin
    cases a with
    | tmp k =>
      refine ⟨N + k + 1, fun j hj => ?_⟩
      cases q' : ρ' (.tmp j) with
      | none => rfl
      | some p =>
        rcases e2 _ _ q' with ⟨q2, _⟩ | q2
        · cases q2; lia
        · rw [hN j (by lia)] at q2; cases q2
    | obj i t =>
      refine ⟨N, fun j hj => ?_⟩
      cases q' : ρ' (.tmp j) with
      | none => rfl
      | some p =>
        rcases e2 _ _ q' with ⟨q2, _⟩ | q2
        · cases q2
        · rw [hN j hj] at q2; cases q2

inductive NewIs (prog : Program) (w : World) (cl : String → Nat) (base : Heap) (ρ : Rho) (σ : Sto) (h h' : Heap) (o' : AO) (x d : Nat) (P : Name → Sto → Prop) : Prop
  | mk (a : Name) (σ' : Sto) (ρ' : Rho) (p : P a σ') (e : σ' a = some o') (eo : ∀ b, b ≠ a → σ' b = σ b) (en : σ a = none) (eρ : ρ' a = some (x, d)) (R : Rel prog w cl base ρ' σ' h') (st : Step No ρ σ h ρ' σ' h') : NewIs prog w cl base ρ σ h h' o' x d P
theorem Rel.new {o' : AO} {x d : Nat} {P : Name → Sto → Prop} (R : Rel prog w cl base ρ σ h) (n : wpNew σ o' P) (hx : h.objs.size ≤ x) (hd : h.objs.size ≤ d) (hx' : x < h'.objs.size) (hd' : d < h'.objs.size)
    (hk : ∀ (b : Nat) o, h.get? b = some o → h'.get? b = some o) (sz : h.objs.size ≤ h'.objs.size) (ho : ∀ ρ', Up ρ h ρ' h' → ObjAt prog w cl ρ' h' x d o') :
    NewIs prog w cl base ρ σ h h' o' x d P := by
  have s1 : ∀ a : Name, (σ.set a o') a = some o' := fun a => if_pos rfl
  have s2 : ∀ a b : Name, b ≠ a → (σ.set a o') b = σ b := fun a b q => if_neg q
  rcases n with n | ⟨i, t, e, n⟩
  · obtain ⟨N, hN⟩ := R.fin
    have e : ρ (.tmp N) = none := hN N (Nat.le_refl _)
    have es : σ (.tmp N) = none := by
      cases q : σ (.tmp N) with
      | none => rfl
      | some o =>
        obtain ⟨x, d, e1, _⟩ := R.obj _ _ q
        rw [e] at e1; cases e1
    obtain ⟨ρ', a, b, c⟩ := R.added (o' := o') e hx hd hx' hd' hk sz ho
    exact ⟨_, _, ρ', n N es, s1 _, s2 _, es, a, b, c⟩
  · obtain ⟨ρ', a, b, c⟩ := R.added (o' := o') (R.fresh i t e) hx hd hx' hd' hk sz ho
    exact ⟨_, _, ρ', n, s1 _, s2 _, e, a, b, c⟩
end

end Gc
end
/- GcB2 -/
section
set_option maxRecDepth 100000
namespace Gc
open PySem PySem.W PySem.Calls PyProof.Rows

noncomputable abbrev Nm := List (Str × NameKind)

noncomputable def isVar (nm : Nm) (x : Str) : Bool := nm.lookup x == some .local || nm.lookup x == some .cell || nm.lookup x == some .free
noncomputable def isGlob (nm : Nm) (x : Str) : Bool := nm.lookup x == some .globalImplicit
noncomputable def plainName (x : Str) : Bool := !(x == ("__debug__" : Str)) && !(x == ("__classdict__" : Str)) && !(x == (".0" : Str))

noncomputable def baseOk : Expr → Bool
  | .Call (.Name _ _) [] [] _ => false
  | _ => true
noncomputable def notSlice : Expr → Bool
  | .Slice .. => false
  | _ => true
noncomputable def notComp : Expr → Bool
  | .ListComp .. | .SetComp .. | .DictComp .. => false
  | _ => true
noncomputable def notTuple : Expr → Bool
  | .Tuple .. => false
  | _ => true
noncomputable def notSet : Expr → Bool
  | .Set .. => false
  | _ => true

noncomputable def Op.is : Op → Operator
  | .add => .Add
  | .sub => .Sub
  | .mod => .Mod
  | .fdiv => .FloorDiv
noncomputable def Cmp.op : Cmp → CmpOp
  | .eq => .Eq
  | .ne => .NotEq
  | .lt => .Lt
  | .gt => .Gt
  | .ge => .GtE
  | .is => .Is
  | .isnot => .IsNot
  | .isin => .In
  | .notin => .NotIn
noncomputable def opIs (o : Op) (op : Operator) : Bool := decide (op = o.is)
noncomputable def cmpIs (o : Cmp) (op : CmpOp) : Bool := decide (op = o.op)
noncomputable def Bi.name : Bi → String
  | .len => "len"
  | .sorted => "sorted"
  | .reversed => "reversed"
  | .all => "all"
  | .range => "range"
noncomputable def Meth.name : Meth → String
  | .append => "append"
  | .extend => "extend"
  | .pop => "pop"
  | .remove => "remove"
  | .get => "get"
noncomputable def fnNames : List String := ["new_cell", "cell_of", "is_ref", "inner", "value_of", "gain", "held_by", "replaced", "taken_out", "written", "ref_in", "in_copy", "copied", "has_elements", "container", "set_int", "new_array", "new_object", "assign", "put", "take", "make_ref", "unset", "unset_at", "change", "suspect", "cleared", "free_cell", "wants_destructor", "losing", "lose", "settle", "do_deed", "children", "mark_grey", "scan_black", "scan", "gather", "find_rings", "free_all", "turn", "collect", "collect_when_full", "run_deed", "_law_told", "_law_row", "_law_deed", "_law_told_value", "_law_tells", "_law_objects", "_law_do", "_law_are_alike", "law"]
noncomputable def clsNames : List String := ["Cell", "Counted"]

noncomputable def innerNm (nm inner : Nm) : Nm := inner.map fun x => if x.2 == .free && nm.lookup x.1 == some .cell then (x.1, .cell) else x
noncomputable def scopeOk (nm : Nm) (x : Str) (sc : Scope) : Bool :=
  sc.kind == .function && sc.names.all (fun y => !(y.2 == .cell)) && sc.names.all (fun y => !(y.2 == .local) || sc.names.lookup y.1 == some .local) && sc.names.lookup x == some .local &&
  sc.names.all (fun y => !(y.2 == .free) || nm.lookup y.1 == some .cell) && sc.names.all (fun y => sc.names.lookup y.1 == some y.2) &&
  sc.names.all (fun y => !(y.2 == .local) || y.1 == x || y.1 == (".0" : Str)) && decide (sc.names.map (·.1)).Nodup

noncomputable def srcForm : Ex → Bool
  | .bi .range (.cst (.int n)) => decide (n < 1000)
  | .bi .reversed _ => true
  | .attr _ _ => true
  | .var _ => true
  | .call _ _ => true
  | .bi .sorted _ => true
  | .frm _ _ => true
  | _ => false

/- views of a term: what a check asks of it, told to a continuation -/
noncomputable def xCst (E : Expr) (k : Const → Bool) : Bool := match E with
  | .Constant c _ _ => k c
  | _ => false
@[elab_as_elim] theorem xCst_e {P : Expr → Prop} {E : Expr} {k : Const → Bool} (h : xCst E k = true) (f : ∀ c n p, k c = true → P (.Constant c n p)) : P E := by
  cases E <;> first | exact f _ _ _ h | exact Bool.noConfusion h
noncomputable def xName (E : Expr) (k : Str → Pos → Bool) : Bool := match E with
  | .Name id p => k id p
  | _ => false
@[elab_as_elim] theorem xName_e {P : Expr → Prop} {E : Expr} {k : Str → Pos → Bool} (h : xName E k = true) (f : ∀ id p, k id p = true → P (.Name id p)) : P E := by
  cases E <;> first | exact f _ _ h | exact Bool.noConfusion h
noncomputable def xAttr (E : Expr) (k : Expr → Str → Pos → Bool) : Bool := match E with
  | .Attribute o n p => k o n p
  | _ => false
@[elab_as_elim] theorem xAttr_e {P : Expr → Prop} {E : Expr} {k : Expr → Str → Pos → Bool} (h : xAttr E k = true) (f : ∀ o n p, k o n p = true → P (.Attribute o n p)) : P E := by
  cases E <;> first | exact f _ _ _ h | exact Bool.noConfusion h
noncomputable def xSub (E : Expr) (k : Expr → Expr → Bool) : Bool := match E with
  | .Subscript v s _ => k v s
  | _ => false
@[elab_as_elim] theorem xSub_e {P : Expr → Prop} {E : Expr} {k : Expr → Expr → Bool} (h : xSub E k = true) (f : ∀ v s p, k v s = true → P (.Subscript v s p)) : P E := by
  cases E <;> first | exact f _ _ _ h | exact Bool.noConfusion h
noncomputable def xSlice (E : Expr) (k : Option Expr → Option Expr → Option Expr → Bool) : Bool := match E with
  | .Slice l u st _ => k l u st
  | _ => false
@[elab_as_elim] theorem xSlice_e {P : Expr → Prop} {E : Expr} {k : Option Expr → Option Expr → Option Expr → Bool} (h : xSlice E k = true) (f : ∀ l u st p, k l u st = true → P (.Slice l u st p)) : P E := by
  cases E <;> first | exact f _ _ _ _ h | exact Bool.noConfusion h
noncomputable def xBin (E : Expr) (k : Expr → Operator → Expr → Bool) : Bool := match E with
  | .BinOp l op r _ => k l op r
  | _ => false
@[elab_as_elim] theorem xBin_e {P : Expr → Prop} {E : Expr} {k : Expr → Operator → Expr → Bool} (h : xBin E k = true) (f : ∀ l op r p, k l op r = true → P (.BinOp l op r p)) : P E := by
  cases E <;> first | exact f _ _ _ _ h | exact Bool.noConfusion h
noncomputable def xCmp (E : Expr) (k : Expr → List CmpOp → List Expr → Bool) : Bool := match E with
  | .Compare l ops rs _ => k l ops rs
  | _ => false
@[elab_as_elim] theorem xCmp_e {P : Expr → Prop} {E : Expr} {k : Expr → List CmpOp → List Expr → Bool} (h : xCmp E k = true) (f : ∀ l ops rs p, k l ops rs = true → P (.Compare l ops rs p)) : P E := by
  cases E <;> first | exact f _ _ _ _ h | exact Bool.noConfusion h
noncomputable def xBool (E : Expr) (k : BoolOp → List Expr → Pos → Bool) : Bool := match E with
  | .BoolOp op vs p => k op vs p
  | _ => false
@[elab_as_elim] theorem xBool_e {P : Expr → Prop} {E : Expr} {k : BoolOp → List Expr → Pos → Bool} (h : xBool E k = true) (f : ∀ op vs p, k op vs p = true → P (.BoolOp op vs p)) : P E := by
  cases E <;> first | exact f _ _ _ h | exact Bool.noConfusion h
noncomputable def xUn (E : Expr) (k : UnaryOp → Expr → Bool) : Bool := match E with
  | .UnaryOp op x _ => k op x
  | _ => false
@[elab_as_elim] theorem xUn_e {P : Expr → Prop} {E : Expr} {k : UnaryOp → Expr → Bool} (h : xUn E k = true) (f : ∀ op x p, k op x = true → P (.UnaryOp op x p)) : P E := by
  cases E <;> first | exact f _ _ _ h | exact Bool.noConfusion h
noncomputable def xIf (E : Expr) (k : Expr → Expr → Expr → Bool) : Bool := match E with
  | .IfExp t b o _ => k t b o
  | _ => false
@[elab_as_elim] theorem xIf_e {P : Expr → Prop} {E : Expr} {k : Expr → Expr → Expr → Bool} (h : xIf E k = true) (f : ∀ t b o p, k t b o = true → P (.IfExp t b o p)) : P E := by
  cases E <;> first | exact f _ _ _ _ h | exact Bool.noConfusion h
noncomputable def xTup (E : Expr) (k : List Expr → Bool) : Bool := match E with
  | .Tuple es _ _ => k es
  | _ => false
@[elab_as_elim] theorem xTup_e {P : Expr → Prop} {E : Expr} {k : List Expr → Bool} (h : xTup E k = true) (f : ∀ es n p, k es = true → P (.Tuple es n p)) : P E := by
  cases E <;> first | exact f _ _ _ h | exact Bool.noConfusion h
noncomputable def xLst (E : Expr) (k : List Expr → Bool) : Bool := match E with
  | .List es _ => k es
  | _ => false
@[elab_as_elim] theorem xLst_e {P : Expr → Prop} {E : Expr} {k : List Expr → Bool} (h : xLst E k = true) (f : ∀ es p, k es = true → P (.List es p)) : P E := by
  cases E <;> first | exact f _ _ h | exact Bool.noConfusion h
noncomputable def xDict (E : Expr) (k : List (Option Expr) → List Expr → Bool) : Bool := match E with
  | .Dict ks vs _ => k ks vs
  | _ => false
@[elab_as_elim] theorem xDict_e {P : Expr → Prop} {E : Expr} {k : List (Option Expr) → List Expr → Bool} (h : xDict E k = true) (f : ∀ ks vs p, k ks vs = true → P (.Dict ks vs p)) : P E := by
  cases E <;> first | exact f _ _ _ h | exact Bool.noConfusion h
noncomputable def xCall (E : Expr) (k : Expr → List Expr → List Keyword → Pos → Bool) : Bool := match E with
  | .Call f as ks p => k f as ks p
  | _ => false
@[elab_as_elim] theorem xCall_e {P : Expr → Prop} {E : Expr} {k : Expr → List Expr → List Keyword → Pos → Bool} (h : xCall E k = true) (f : ∀ f as ks p, k f as ks p = true → P (.Call f as ks p)) : P E := by
  cases E <;> first | exact f _ _ _ _ h | exact Bool.noConfusion h
noncomputable def xComp (E : Expr) (k : Expr → List Comprehension → Scope → Bool) : Bool := match E with
  | .ListComp e gs sc _ => k e gs sc
  | _ => false
@[elab_as_elim] theorem xComp_e {P : Expr → Prop} {E : Expr} {k : Expr → List Comprehension → Scope → Bool} (h : xComp E k = true) (f : ∀ e gs sc p, k e gs sc = true → P (.ListComp e gs sc p)) : P E := by
  cases E <;> first | exact f _ _ _ _ h | exact Bool.noConfusion h
noncomputable def sExpr (E : Stmt) (k : Expr → Bool) : Bool := match E with
  | .Expr v _ => k v
  | _ => false
@[elab_as_elim] theorem sExpr_e {P : Stmt → Prop} {E : Stmt} {k : Expr → Bool} (h : sExpr E k = true) (f : ∀ v p, k v = true → P (.Expr v p)) : P E := by
  cases E <;> first | exact f _ _ h | exact Bool.noConfusion h
noncomputable def sAsg (E : Stmt) (k : List Expr → Expr → Bool) : Bool := match E with
  | .Assign ts v _ => k ts v
  | _ => false
@[elab_as_elim] theorem sAsg_e {P : Stmt → Prop} {E : Stmt} {k : List Expr → Expr → Bool} (h : sAsg E k = true) (f : ∀ ts v p, k ts v = true → P (.Assign ts v p)) : P E := by
  cases E <;> first | exact f _ _ _ h | exact Bool.noConfusion h
noncomputable def sAug (E : Stmt) (k : Expr → Operator → Expr → Bool) : Bool := match E with
  | .AugAssign t op v _ => k t op v
  | _ => false
@[elab_as_elim] theorem sAug_e {P : Stmt → Prop} {E : Stmt} {k : Expr → Operator → Expr → Bool} (h : sAug E k = true) (f : ∀ t op v p, k t op v = true → P (.AugAssign t op v p)) : P E := by
  cases E <;> first | exact f _ _ _ _ h | exact Bool.noConfusion h
noncomputable def sDel (E : Stmt) (k : List Expr → Bool) : Bool := match E with
  | .Delete ts _ => k ts
  | _ => false
@[elab_as_elim] theorem sDel_e {P : Stmt → Prop} {E : Stmt} {k : List Expr → Bool} (h : sDel E k = true) (f : ∀ ts p, k ts = true → P (.Delete ts p)) : P E := by
  cases E <;> first | exact f _ _ h | exact Bool.noConfusion h
noncomputable def sRet (E : Stmt) (k : Option Expr → Bool) : Bool := match E with
  | .Return v _ => k v
  | _ => false
@[elab_as_elim] theorem sRet_e {P : Stmt → Prop} {E : Stmt} {k : Option Expr → Bool} (h : sRet E k = true) (f : ∀ v p, k v = true → P (.Return v p)) : P E := by
  cases E <;> first | exact f _ _ h | exact Bool.noConfusion h
noncomputable def sIf (E : Stmt) (k : Expr → List Stmt → List Stmt → Bool) : Bool := match E with
  | .If t a b _ => k t a b
  | _ => false
@[elab_as_elim] theorem sIf_e {P : Stmt → Prop} {E : Stmt} {k : Expr → List Stmt → List Stmt → Bool} (h : sIf E k = true) (f : ∀ t a b p, k t a b = true → P (.If t a b p)) : P E := by
  cases E <;> first | exact f _ _ _ _ h | exact Bool.noConfusion h
noncomputable def sWhile (E : Stmt) (k : Expr → List Stmt → List Stmt → Bool) : Bool := match E with
  | .While t b o _ => k t b o
  | _ => false
@[elab_as_elim] theorem sWhile_e {P : Stmt → Prop} {E : Stmt} {k : Expr → List Stmt → List Stmt → Bool} (h : sWhile E k = true) (f : ∀ t b o p, k t b o = true → P (.While t b o p)) : P E := by
  cases E <;> first | exact f _ _ _ _ h | exact Bool.noConfusion h
noncomputable def sFor (E : Stmt) (k : Expr → Expr → List Stmt → List Stmt → Bool) : Bool := match E with
  | .For x it b o _ => k x it b o
  | _ => false
@[elab_as_elim] theorem sFor_e {P : Stmt → Prop} {E : Stmt} {k : Expr → Expr → List Stmt → List Stmt → Bool} (h : sFor E k = true) (f : ∀ x it b o p, k x it b o = true → P (.For x it b o p)) : P E := by
  cases E <;> first | exact f _ _ _ _ _ h | exact Bool.noConfusion h
noncomputable def l1 {α : Type} (l : List α) (k : α → Bool) : Bool := match l with
  | [a] => k a
  | _ => false
@[elab_as_elim] theorem l1_e {α : Type} {P : List α → Prop} {l : List α} {k : α → Bool} (h : l1 l k = true) (f : ∀ a, k a = true → P [a]) : P l := by
  match l, h with
  | [a], h => exact f a h
noncomputable def l2 {α : Type} (l : List α) (k : α → α → List α → Bool) : Bool := match l with
  | a :: b :: r => k a b r
  | _ => false
@[elab_as_elim] theorem l2_e {α : Type} {P : List α → Prop} {l : List α} {k : α → α → List α → Bool} (h : l2 l k = true) (f : ∀ a b r, k a b r = true → P (a :: b :: r)) : P l := by
  match l, h with
  | a :: b :: r, h => exact f a b r h
@[elab_as_elim] theorem l0_e {α : Type} {P : List α → Prop} {l : List α} (h : l.isEmpty = true) (f : P []) : P l := by
  cases l with
  | nil => exact f
  | cons _ _ => exact Bool.noConfusion h
noncomputable def lc {α : Type} (l : List α) (k : α → List α → Bool) : Bool := match l with
  | a :: r => k a r
  | _ => false
@[elab_as_elim] theorem lc_e {α : Type} {P : List α → Prop} {l : List α} {k : α → List α → Bool} (h : lc l k = true) (f : ∀ a r, k a r = true → P (a :: r)) : P l := by
  cases l with
  | nil => exact Bool.noConfusion h
  | cons a r => exact f a r h
noncomputable def o1 {α : Type} (o : Option α) (k : α → Bool) : Bool := match o with
  | some a => k a
  | none => false
@[elab_as_elim] theorem o1_e {α : Type} {P : Option α → Prop} {o : Option α} {k : α → Bool} (h : o1 o k = true) (f : ∀ a, k a = true → P (some a)) : P o := by
  cases o with
  | none => exact Bool.noConfusion h
  | some a => exact f a h
@[elab_as_elim] theorem o0_e {α : Type} {P : Option α → Prop} {o : Option α} (h : o.isNone = true) (f : P none) : P o := by
  cases o with
  | none => exact f
  | some _ => exact Bool.noConfusion h
noncomputable def gen (g : Comprehension) (k : Expr → Expr → List Expr → Bool) : Bool := g.is_async == 0 && k g.target g.iter g.ifs
noncomputable def isAnd : BoolOp → Bool
  | .And => true
  | .Or => false
@[elab_as_elim] theorem isAnd_e {P : BoolOp → Prop} {o : BoolOp} (h : isAnd o = true) (f : P .And) : P o := by
  cases o with
  | And => exact f
  | Or => exact Bool.noConfusion h
@[elab_as_elim] theorem isOr_e {P : BoolOp → Prop} {o : BoolOp} (h : (!isAnd o) = true) (f : P .Or) : P o := by
  cases o with
  | Or => exact f
  | And => exact Bool.noConfusion h
noncomputable def isNot : UnaryOp → Bool
  | .Not => true
  | _ => false
@[elab_as_elim] theorem isNot_e {P : UnaryOp → Prop} {o : UnaryOp} (h : isNot o = true) (f : P .Not) : P o := by
  cases o <;> first | exact f | exact Bool.noConfusion h
noncomputable def intIs (c : Const) (n : Int) : Bool := match c with
  | .int k => k == n
  | _ => false
@[elab_as_elim] theorem beq_e {α : Type} [BEq α] [LawfulBEq α] {P : α → Prop} {a b : α} (h : (a == b) = true) (f : P b) : P a := (beq_iff_eq.mp h) ▸ f
@[elab_as_elim] theorem intIs_e {P : Const → Prop} {c : Const} {n : Int} (h : intIs c n = true) (f : P (.int n)) : P c := by
  cases c <;> first | exact beq_e h f | exact Bool.noConfusion h
noncomputable def boolIs (c : Const) (n : Bool) : Bool := match c with
  | .bool k => k == n
  | _ => false
@[elab_as_elim] theorem boolIs_e {P : Const → Prop} {c : Const} {n : Bool} (h : boolIs c n = true) (f : P (.bool n)) : P c := by
  cases c <;> first | exact beq_e h f | exact Bool.noConfusion h
noncomputable def strIs (c : Const) (n : Str) : Bool := match c with
  | .str k => k == n
  | _ => false
@[elab_as_elim] theorem strIs_e {P : Const → Prop} {c : Const} {n : Str} (h : strIs c n = true) (f : P (.str n)) : P c := by
  cases c <;> first | exact beq_e h f | exact Bool.noConfusion h
noncomputable def noneIs (c : Const) : Bool := match c with
  | .none => true
  | _ => false
@[elab_as_elim] theorem noneIs_e {P : Const → Prop} {c : Const} (h : noneIs c = true) (f : P .none) : P c := by
  cases c <;> first | exact f | exact Bool.noConfusion h
noncomputable def cstIs (c : AV) (k : Const) : Bool := match c with
  | .none => noneIs k
  | .bool b => boolIs k b
  | .int i => intIs k i
  | .str x => strIs k (S x)
  | _ => false
@[elab_as_elim] theorem gen_e {P : Comprehension → Prop} {g : Comprehension} {k : Expr → Expr → List Expr → Bool} (h : gen g k = true) (f : ∀ t it ifs, k t it ifs = true → P ⟨t, it, ifs, 0⟩) : P g := by
  cases g with
  | mk t it ifs a =>
    have h := (Bool.and_eq_true _ _).mp h
    exact beq_e (P := fun a => P ⟨t, it, ifs, a⟩) h.1 (f t it ifs h.2)
theorem band2 {a b : Bool} {P : Prop} (h : (a && b) = true) (f : a = true → b = true → P) : P := have h := (Bool.and_eq_true _ _).mp h; f h.1 h.2
theorem band3 {a b c : Bool} {P : Prop} (h : (a && b && c) = true) (f : a = true → b = true → c = true → P) : P := band2 h fun h => band2 h f
theorem band4 {a b c d : Bool} {P : Prop} (h : (a && b && c && d) = true) (f : a = true → b = true → c = true → d = true → P) : P := band2 h fun h => band3 h f
theorem band5 {a b c d e : Bool} {P : Prop} (h : (a && b && c && d && e) = true) (f : a = true → b = true → c = true → d = true → e = true → P) : P := band2 h fun h => band4 h f
theorem band6 {a b c d e g : Bool} {P : Prop} (h : (a && b && c && d && e && g) = true) (f : a = true → b = true → c = true → d = true → e = true → g = true → P) : P := band2 h fun h => band5 h f
noncomputable def tailB (op : BoolOp) (y : Expr) (r : List Expr) (p : Pos) : Expr := match r with
  | [] => y
  | z :: r => .BoolOp op (y :: z :: r) p

mutual
noncomputable def chkE (nm : Nm) : Ex → Expr → Bool
  | .cst c, E => xCst E fun k => cstIs c k
  | .var x, E => xName E fun id _ => id == S x && isVar nm (S x) && plainName (S x)
  | .attr e a, E => xAttr E fun o n _ => n == S a && baseOk o && chkE nm e o
  | .sub e i, E => xSub E fun v s => notSlice s && chkE nm e v && chkE nm i s
  | .upto e n, E => xSub E fun v s => xSlice s fun l u st => l.isNone && st.isNone && (o1 u fun u => xCst u fun c => intIs c n) && chkE nm e v
  | .frm e n, E => xSub E fun v s => xSlice s fun l u st => (o1 l fun l => xCst l fun c => intIs c n) && u.isNone && st.isNone && chkE nm e v
  | .bin o a b, E => xBin E fun l op r => opIs o op && chkE nm a l && chkE nm b r
  | .cmp o a b, E => xCmp E fun l ops rs => l1 ops fun op => l1 rs fun r => cmpIs o op && notSet r && chkE nm a l && chkE nm b r
  | .and a b, E => xBool E fun op vs p => isAnd op && l2 vs fun x y r => chkE nm a x && chkE nm b (tailB .And y r p)
  | .or a b, E => xBool E fun op vs p => !isAnd op && l2 vs fun x y r => chkE nm a x && chkE nm b (tailB .Or y r p)
  | .not a, E => xUn E fun op x => isNot op && chkE nm a x
  | .ite t a b, E => xIf E fun t' b' o' => chkE nm t t' && chkE nm a b' && chkE nm b o'
  | .tup es, E => xTup E fun elts => chkEs nm es elts && decide (elts.length < 1000)
  | .list es, E => xLst E fun elts => chkEs nm es elts && decide (elts.length < 1000)
  | .dict0, E => xDict E fun ks vs => ks.isEmpty && vs.isEmpty
  | .call f es, E => xCall E fun g args kws _ => kws.isEmpty && xName g fun id _ => id == S f && fnNames.contains f && isGlob nm (S f) && plainName (S f) && chkEs nm es args
  | .mk c es, E => xCall E fun g args kws _ => kws.isEmpty && xName g fun id _ => id == S c && clsNames.contains c && isGlob nm (S c) && plainName (S c) && chkEs nm es args
  | .bi f e, E => xCall E fun g args kws _ => kws.isEmpty && xName g fun id _ => l1 args fun arg => id == S f.name && isGlob nm (S f.name) && chkE nm e arg
  | .listOf e, E => xCall E fun g args kws _ => kws.isEmpty && xName g fun id _ => l1 args fun arg => id == S "list" && isGlob nm (S "list") && chkE nm e arg
  | .listVals e, E => xCall E fun g args kws _ => kws.isEmpty && xName g fun id _ => l1 args fun arg => xCall arg fun g' args' kws' pos => kws'.isEmpty && args'.isEmpty && (id == S "list" && isGlob nm (S "list")) &&
      xAttr g' fun o' n apos => n == S "values" && baseOk o' && apos.endLine == pos.line && chkE nm e o'
  | .meth o m es, E => xCall E fun g args kws pos => kws.isEmpty && xAttr g fun o' n apos => n == S m.name && baseOk o' && apos.endLine == pos.line && decide (args.length < 20) && chkE nm o o' && chkEs nm es args
  | .comp elt x src cond, E => xComp E fun elt' gs sc => l1 gs fun g => gen g fun t iter ifs => xName t fun id _ => l1 ifs fun c =>
      id == S x && scopeOk nm (S x) sc && notSet iter && (srcForm src && chkE nm src iter) && chkE (innerNm nm sc.names) elt elt' && chkE (innerNm nm sc.names) cond c
  | .compAll elt x src, E => xComp E fun elt' gs sc => l1 gs fun g => gen g fun t iter ifs => xName t fun id _ =>
      ifs.isEmpty && (id == S x) && scopeOk nm (S x) sc && notSet iter && (srcForm src && chkE nm src iter) && chkE (innerNm nm sc.names) elt elt'
noncomputable def chkEs (nm : Nm) : Exs → List Expr → Bool
  | .nil, l => l.isEmpty
  | .cons e es, l => lc l fun E Es => chkE nm e E && chkEs nm es Es
end

noncomputable def chkSrc (nm : Nm) (e : Ex) (E : Expr) : Bool := srcForm e && chkE nm e E

noncomputable def isComp (e : Ex) : Bool := match e with
  | .comp .. => true
  | .compAll .. => true
  | _ => false
noncomputable def swapOk (nm : Nm) (x : Str) (np : Pos) (E : Expr) : Bool := match E with
  | .ListComp _ _ sc pos => nm.lookup x == some .local && np.line == pos.line && !(sc.names.any fun y => y.1 == x && (y.2 == .local || y.2 == .cell))
  | _ => false
noncomputable def storable (nm : Nm) (x : Str) : Bool := nm.lookup x == some .local || nm.lookup x == some .cell

noncomputable def chkNames (nm : Nm) : List String → List Expr → Bool
  | [], l => l.isEmpty
  | x :: xs, l => lc l fun E Es => xName E fun id _ => id == S x && nm.lookup (S x) == some .local && chkNames nm xs Es

mutual
noncomputable def chkS (nm : Nm) : St → Stmt → Bool
  | .expr e, T => sExpr T fun v => notComp v && chkE nm e v
  | .set x e, T => sAsg T fun ts v => l1 ts fun t => xName t fun id np => id == S x && storable nm (S x) && (if isComp e then swapOk nm (S x) np v else notComp v && !isComp e) && chkE nm e v
  | .setAttr o a e, T => sAsg T fun ts v => l1 ts fun t => xAttr t fun o' n _ => n == S a && notComp v && chkE nm e v && chkE nm o o'
  | .setSub o i e, T => sAsg T fun ts v => l1 ts fun t => xSub t fun o' i' => notSlice i' && notComp v && chkE nm e v && chkE nm o o' && chkE nm i i'
  | .set2 x y a b, T => sAsg T fun ts v => l1 ts fun t => xTup t fun es => l2 es fun t1 t2 r => r.isEmpty && xTup v fun vs => l2 vs fun a' b' r' => r'.isEmpty && xName t1 fun x' p1 => xName t2 fun y' p2 =>
      (x' == S x) && (y' == S y) && (nm.lookup (S x) == some .local && nm.lookup (S y) == some .local) && (!(S x == S y) && p1.line == p2.line) &&
      (!(foldedForSure 8 a' && foldedForSure 8 b') && !(constantsAlone 8 a' && constantsAlone 8 b')) && (chkE nm a a' && chkE nm b b')
  | .setAttr2 o1 a1 o2 a2 e1 e2, T => sAsg T fun ts v => l1 ts fun t => xTup t fun es => l2 es fun t1 t2 r => r.isEmpty && xTup v fun vs => l2 vs fun e1' e2' r' => r'.isEmpty && xAttr t1 fun o1' n1 _ => xAttr t2 fun o2' n2 _ =>
      n1 == S a1 && n2 == S a2 && chkE nm e1 e1' && chkE nm e2 e2' && chkE nm o1 o1' && chkE nm o2 o2'
  | .unpack xs e, T => sAsg T fun ts v => l1 ts fun t => xTup t fun ts => notComp v && notTuple v && chkNames nm xs ts && decide (ts.length < 1000) && chkE nm e v
  | .aug o a op e, T => sAug T fun t op' v => xAttr t fun o' n _ => n == S a && opIs op op' && chkE nm o o' && chkE nm e v
  | .delSub o i, T => sDel T fun ts => l1 ts fun t => xSub t fun o' i' => notSlice i' && chkE nm o o' && chkE nm i i'
  | .ret e, T => sRet T fun v => o1 v fun v => chkE nm e v
  | .ret0, T => sRet T fun v => v.isNone
  | .ite t a b, T => sIf T fun t' a' b' => chkE nm t t' && chkSs nm a a' && chkSs nm b b'
  | .while t b, T => sWhile T fun t' b' o => o.isEmpty && chkE nm t t' && chkSs nm b b'
  | .forr x src b, T => sFor T fun t iter body o => o.isEmpty && xName t fun id _ => id == S x && storable nm (S x) && notSet iter && chkSrc nm src iter && chkSs nm b body
  | .dead, _ => true
noncomputable def chkSs (nm : Nm) : Sts → List Stmt → Bool
  | .nil, l => l.isEmpty
  | .cons s ss, l => lc l fun T Ts => chkS nm s T && chkSs nm ss Ts
end

noncomputable def chkDef (D : Def) (params : Arguments) (body : List Stmt) (sc : Scope) : Bool :=
  params.posonlyargs.isEmpty && params.vararg.isNone && params.kwonlyargs.isEmpty && params.kwarg.isNone && params.defaults.isEmpty && (params.args.map (·.arg) == D.params.map S) &&
  D.params.all (fun x => storable sc.names (S x)) && decide (D.params.map S).Nodup && sc.kind == .function && !sc.isGenerator && !sc.isCoroutine && decide (sc.names.map (·.1)).Nodup && sc.names.all (fun y => !(y.2 == .free)) && chkSs sc.names D.body body

end Gc
end
/- GcB3 -/
section
set_option maxRecDepth 100000
namespace Gc
open PySem PySem.W PySem.Calls PyProof.Rows

inductive NsAt (nm : Nm) (m : Loc) (ρ : Rho) (h : Heap) (l : Addr) : Prop
  | mk (ml : Str → Option Value) (hns : h.Ns l ml) (r : ∀ x av, m x = some av → plainName (S x) = true → nm.lookup (S x) = some .local → ∃ v, ml (S x) = some v ∧ VRel ρ h av v) : NsAt nm m ρ h l
inductive CellAt (nm : Nm) (m : Loc) (ρ : Rho) (h : Heap) (x : String) (c : Addr) : Prop
  | mk (cv : Option Value) (hc : h.IsCell c cv) (r : ∀ av, m x = some av → (nm.lookup (S x) = some .cell ∨ nm.lookup (S x) = some .free) → ∃ v, cv = some v ∧ VRel ρ h av v) : CellAt nm m ρ h x c
inductive OwnAt (base : Heap) (env : Env) (ρ : Rho) (h : Heap) (c : Nat) : Prop
  | mk (un : Unowned ρ c) (ne : c ≠ env.locals) (lo : base.objs.size ≤ c) (cv : Option Value) (o : Obj) (ho : h.get? c = some o) (hd : o.data = .cell cv) : OwnAt base env ρ h c
theorem OwnAt.un {base : Heap} {env : Env} {ρ : Rho} {h : Heap} {c : Nat} (w : OwnAt base env ρ h c) : Unowned ρ c := by cases w; assumption
theorem OwnAt.ne {base : Heap} {env : Env} {ρ : Rho} {h : Heap} {c : Nat} (w : OwnAt base env ρ h c) : c ≠ env.locals := by cases w; assumption
theorem OwnAt.lo {base : Heap} {env : Env} {ρ : Rho} {h : Heap} {c : Nat} (w : OwnAt base env ρ h c) : base.objs.size ≤ c := by cases w; assumption
structure Fm (base : Heap) (env : Env) (nm : Nm) (m : Loc) (ρ : Rho) (h : Heap) : Prop where
  kind : env.scope.kind = .function
  names : env.scope.names = nm
  glob : env.globals = mainGlobals
  blt : env.builtins = builtinsNs
  ns : NsAt nm m ρ h env.locals
  cell : ∀ x c, env.cells.lookup (S x) = some c → CellAt nm m ρ h x c
  has : ∀ y : Str, nm.lookup y = some .cell ∨ nm.lookup y = some .free → ∃ c, env.cells.lookup y = some c
  own : ∀ (y : Str) (c : Nat), (y, c) ∈ env.cells → OwnAt base env ρ h c
  loc : Unowned ρ env.locals ∧ base.objs.size ≤ (env.locals : Nat)
  apart : env.cells.Pairwise fun x y => x.2 ≠ y.2

noncomputable def Xf (env : Env) (b : Nat) : Prop := b = env.locals ∨ ∃ y, (y, b) ∈ env.cells

theorem Fm.step {base : Heap} {env : Env} {nm : Nm} {m : Loc} {ρ ρ' : Rho} {σ σ' : Sto} {h h' : Heap} (F : Fm base env nm m ρ h) (s : Step No ρ σ h ρ' σ' h') : Fm base env nm m ρ' h' where
  kind := F.kind
  names := F.names
  glob := F.glob
  blt := F.blt
  ns := by
    obtain ⟨ml, ⟨o, es, ep, ho, r⟩, q⟩ := F.ns
    refine ⟨ml, ⟨o, es, ep, s.keep _ _ ho id F.loc.1.safe, r⟩, fun x av e hp k => ?_⟩
    obtain ⟨v, a, b⟩ := q x av e hp k
    exact ⟨v, a, b.up s.up0⟩
  cell x c e := by
    obtain ⟨cv, ⟨o, ho, hd⟩, q⟩ := F.cell x c e
    refine ⟨cv, ⟨o, s.keep _ _ ho id (F.own _ _ (mem_of_lookup e)).un.safe, hd⟩, fun av ea k => ?_⟩
    obtain ⟨v, a, b⟩ := q av ea k
    exact ⟨v, a, b.up s.up0⟩
  has := F.has
  own y c e := by
    obtain ⟨a, b, d, cv, o, ho, hd⟩ := F.own y c e
    exact ⟨s.unowned (hlt ho) a, b, d, cv, o, s.keep _ _ ho id a.safe, hd⟩
  loc := by
    obtain ⟨ml, ⟨o, es, ep, ho, r⟩, q⟩ := F.ns
    exact ⟨s.unowned (hlt ho) F.loc.1, F.loc.2⟩
  apart := F.apart

theorem Xf.notTuple {base : Heap} {env : Env} {nm : Nm} {m : Loc} {ρ : Rho} {h : Heap} (F : Fm base env nm m ρ h) : ∀ (b : Nat) vs, Xf env b → IsTup h b vs → False := by
  intro b vs x t
  obtain ⟨o, e, _, n, hd⟩ := t
  rcases x with rfl | ⟨y, hy⟩
  · obtain ⟨ml, ⟨o1, es, ep, ho, hd1, _⟩, _⟩ := F.ns
    rw [e] at ho; cases ho; rw [hd] at hd1; cases hd1
  · obtain ⟨_, _, _, cv, o1, ho, hd1⟩ := F.own y b hy
    rw [e] at ho; cases ho; rw [hd] at hd1; cases hd1

structure Same (s s' : Shared) : Prop where
  gens : s'.gens = s.gens
  drawn : s'.drawn = s.drawn
  os : s'.os = s.os
theorem Same.refl {s : Shared} : Same s s := ⟨rfl, rfl, rfl⟩
theorem Same.trans {s s' s'' : Shared} (a : Same s s') (b : Same s' s'') : Same s s'' := ⟨b.gens.trans a.gens, b.drawn.trans a.drawn, b.os.trans a.os⟩
theorem Same.mk' {s : Shared} {h : Heap} {t : Nat} : Same s { s with heap := h, toks := t } := ⟨rfl, rfl, rfl⟩

section
variable (prog : Program) (w : World) (cl : String → Nat) (base : Heap)
structure Stt (env : Env) (nm : Nm) (m : Loc) (ρ : Rho) (σ : Sto) (h : Heap) : Prop where
  rel : Rel prog w cl base ρ σ h
  fm : Fm base env nm m ρ h
end

section
variable {prog : Program} {w : World} {cl : String → Nat} {base : Heap} {A : Around} {E : Value → Shared → Prop} {s : Shared} {env : Env} {nm : Nm} {m : Loc} {ρ : Rho} {σ : Sto}

theorem Stt.step {σ' : Sto} {ρ' : Rho} {h h' : Heap} (Z : Stt prog w cl base env nm m ρ σ h) (R : Rel prog w cl base ρ' σ' h') (s : Step No ρ σ h ρ' σ' h') : Stt prog w cl base env nm m ρ' σ' h' := ⟨R, Z.fm.step s⟩
theorem Stt.grown {h h' : Heap} (Z : Stt prog w cl base env nm m ρ σ h) (k : ∀ (b : Nat) o, h.get? b = some o → h'.get? b = some o) (sz : h.objs.size ≤ h'.objs.size) : Stt prog w cl base env nm m ρ σ h' :=
  ⟨Z.rel.grown k sz, Z.fm.step (Step.pushed (σ := σ) k sz)⟩

theorem op_var {x : String} {av : AV} {pos : Pos} {Q : Value → Shared → Prop} (Z : Stt prog w cl base env nm m ρ σ s.heap) (hv : isVar nm (S x) = true) (hp : plainName (S x) = true) (e : m x = some av)
    (h : ∀ v, VRel ρ s.heap av v → Q v s) : wpAny (model prog w) A (eval (.Name (S x) pos) env) Q E s := by
  have hp0 := hp
  simp only [plainName, Bool.and_eq_true, Bool.not_eq_true'] at hp
  refine wpAny_Name ?_ hp.1.1
  have hn := Z.fm.names
  simp only [isVar, Bool.or_eq_true, beq_iff_eq] at hv
  rcases hv with (q | q) | q
  · obtain ⟨ml, hns, r⟩ := Z.fm.ns
    obtain ⟨v, a, b⟩ := r x av e hp0 q
    exact wpAny_loadName_local Z.fm.kind (by unfold Env.kindOf; rw [hn]; exact q) hns a (h v b)
  · obtain ⟨c, hc⟩ := Z.fm.has (S x) (.inl q)
    obtain ⟨cv, hcv, r⟩ := Z.fm.cell x c hc
    obtain ⟨v, rfl, b⟩ := r av e (.inl q)
    exact wpAny_loadName_cell Z.fm.kind (by unfold Env.kindOf; rw [hn]; exact q) hc hcv (h v b)
  · obtain ⟨c, hc⟩ := Z.fm.has (S x) (.inr q)
    obtain ⟨cv, hcv, r⟩ := Z.fm.cell x c hc
    obtain ⟨v, rfl, b⟩ := r av e (.inr q)
    exact wpAny_loadName_free Z.fm.kind (by unfold Env.kindOf; rw [hn]; exact q) hc hcv (h v b) hp.1.2

theorem op_glob {K : Frag} {p : Program} {loose : List Str} {mg mb : Str → Option Value} {x : Str} {v : Value} {pos : Pos} {Q : Value → Shared → Prop} (Z : Stt prog w cl base env nm m ρ σ s.heap)
    (X : K.In base) (T : TopRead p loose mg mb base) (hg : isGlob nm x = true) (hp : plainName x = true) (e : nsIn K mainGlobals x = some (some v)) (h : Q v s) : wpAny (model prog w) A (eval (.Name x pos) env) Q E s := by
  simp only [plainName, Bool.and_eq_true, Bool.not_eq_true'] at hp
  simp only [isGlob, beq_iff_eq] at hg
  refine Name_function_global Z.fm.kind (by unfold Env.kindOf; rw [Z.fm.names]; exact hg) ?_ hp.1.1
  exact loadGlobal_global (by rw [Z.fm.glob]; exact T.g.keeps Z.rel.bas) (mg_of X T.g e) h
theorem op_builtin {K : Frag} {p : Program} {loose : List Str} {mg mb : Str → Option Value} {x : Str} {v : Value} {pos : Pos} {Q : Value → Shared → Prop} (Z : Stt prog w cl base env nm m ρ σ s.heap)
    (X : K.In base) (T : TopRead p loose mg mb base) (hg : isGlob nm x = true) (hp : plainName x = true) (e : nsIn K mainGlobals x = some none) (hv : bootBuiltins x = some v) (hx : x ≠ "__name__") (h : Q v s) : wpAny (model prog w) A (eval (.Name x pos) env) Q E s := by
  simp only [plainName, Bool.and_eq_true, Bool.not_eq_true'] at hp
  simp only [isGlob, beq_iff_eq] at hg
  refine Name_function_global Z.fm.kind (by unfold Env.kindOf; rw [Z.fm.names]; exact hg) ?_ hp.1.1
  exact loadGlobal_builtin (by rw [Z.fm.glob]; exact T.g.keeps Z.rel.bas) (mg_none_of X T.g e) (by rw [Z.fm.blt]; exact T.b.keeps Z.rel.bas) ((T.builtins x hx).trans hv) h

structure ClsOK (K : Frag) (C : Nat) (c : String) : Prop where
  glob : nsIn K mainGlobals (S c) = some (some (.ref C))
  plain : plainName (S c) = true
  keep : keepIn K (.ref C) = true
  makes : makesIn K C = true
  hasD : hasDictIn K C = true
  get : ∀ a ∈ attrsOf c, plainGet K C (S a) = true ∧ ∃ attr, findIn K (.ref C) (S a) = some attr ∧ noGet K attr = true
  setA : findIn K (.ref C) "__setattr__" = some (some (.builtin "object.__setattr__"))
  over : plainOver K C = true
  taker : ∀ a ∈ attrsOf c, takerIn K C (S a) = some none

theorem VRel.handed {h : Heap} {av : AV} {v : Value} (r : VRel ρ h av v) : handedIn v = true := by cases r <;> rfl

theorem S_inj {a b : String} (h : S a = S b) : a = b := by
  have h1 : a.toList.map Char.toNat = b.toList.map Char.toNat := by
    have := congrArg (fun s => s.cps.toList) h
    simpa [S, PySem.Str.ofString_eq_toList] using this
  have h2 : a.toList = b.toList := by
    generalize a.toList = x at h1
    generalize b.toList = y at h1
    induction x generalizing y with
    | nil => cases y <;> simp_all
    | cons c r ih =>
      cases y with
      | nil => simp at h1
      | cons d r' =>
        simp only [List.map_cons, List.cons.injEq] at h1
        rw [ih r' h1.2, Char.toNat_inj.mp h1.1]
  exact String.toList_inj.mp h2
end
end Gc
end
/- GcB4 -/
section
set_option maxRecDepth 100000
namespace Gc
open PySem PySem.W PySem.Calls PyProof.Rows

theorem ne_dt : Value.type "dict" ≠ Value.type "tuple" := by decide +kernel
theorem ne_lt : Value.type "list" ≠ Value.type "tuple" := by decide +kernel
theorem str_beq (k a : String) : (S k == S a) = (k == a) := by
  by_cases q : k = a
  · subst q; simp
  · have : S k ≠ S a := fun e => q (S_inj e)
    rw [beq_eq_false_iff_ne.mpr q, beq_eq_false_iff_ne.mpr this]

theorem FieldsR.find {w : World} {ρ : Rho} {h : Heap} {fs : List (String × AV)} {es : List DictEntry} (r : FieldsR w ρ h fs es) (a : String) :
    (∀ av, fget fs a = some av → ∃ v, getL (S a) es = some (some v) ∧ VRel ρ h av v) ∧ (fget fs a = none → getL (S a) es = some none) := by
  have noref : ∀ {fs : List (String × AV)} {es : List DictEntry}, FieldsR w ρ h fs es → es.any (·.refKey) = false := by
    intro fs es r
    induction r with
    | nil => rfl
    | cons _ _ ih => rw [List.any_cons, ih]; rfl
  have key : (∀ av, fget fs a = some av → ∃ e v, es.find? (·.key.isStr (S a)) = some e ∧ e.val = v ∧ VRel ρ h av v) ∧ (fget fs a = none → es.find? (·.key.isStr (S a)) = none) := by
    induction r with
    | nil => exact ⟨fun av e => by simp [fget] at e, fun _ => rfl⟩
    | @cons k av v t fs es p _ ih =>
      have hk : (Value.str (S k) t).isStr (S a) = (k == a) := by
        exact str_beq k a
      refine ⟨fun av' e => ?_, fun e => ?_⟩
      · rw [List.find?_cons]
        simp only [hk]
        unfold fget at e
        rw [List.find?_cons] at e
        cases hka : k == a with
        | true => simp only [hka] at e; simp only [Option.map_some, Option.some.injEq] at e; subst e; exact ⟨_, v, rfl, rfl, p⟩
        | false => simp only [hka] at e; exact ih.1 av' e
      · rw [List.find?_cons]
        simp only [hk]
        unfold fget at e
        rw [List.find?_cons] at e
        cases hka : k == a with
        | true => simp only [hka] at e; simp at e
        | false => simp only [hka] at e; exact ih.2 e
  refine ⟨fun av e => ?_, fun e => ?_⟩
  · obtain ⟨en, v, a1, a2, a3⟩ := key.1 av e
    exact ⟨v, by unfold getL; rw [a1]; dsimp only; rw [a2], a3⟩
  · unfold getL; rw [key.2 e, noref r]; rfl

theorem FieldsR.put {w : World} {ρ : Rho} {h : Heap} {fs : List (String × AV)} {es : List DictEntry} (r : FieldsR w ρ h fs es) (a : String) {t : Tok} {av : AV} {v : Value} (hv : VRel ρ h av v) :
    FieldsR w ρ h (fset fs a av) (putL (S a) (PyData.keyHash w.params (S a)) (.str (S a) t) v es) := by
  induction r with
  | nil => exact .cons hv .nil
  | @cons k av' v' t' fs es p r' ih =>
    have hk : (Value.str (S k) t').isStr (S a) = (k == a) := str_beq k a
    simp only [putL, hk, fset]
    cases hka : k == a with
    | true => exact .cons hv r'
    | false => exact .cons p ih
theorem FieldsR.length {w : World} {ρ : Rho} {h : Heap} {fs : List (String × AV)} {es : List DictEntry} (r : FieldsR w ρ h fs es) : es.length = fs.length := by
  induction r with
  | nil => rfl
  | cons _ _ ih => simp [ih]

section
variable {prog : Program} {w : World} {cl : String → Nat} {base : Heap} {A : Around} {E : Value → Shared → Prop} {s : Shared} {ρ : Rho} {σ : Sto} {K : Frag}

theorem op_getAttr {c : String} {n : Name} {fs : List (String × AV)} {a : String} {av : AV} {v : Value} {expr : Bool} {Q : Value → Shared → Prop} (R : Rel prog w cl base ρ σ s.heap) (X : K.In base) (C : ClsOK K (cl c) c)
    (hv : VRel ρ s.heap (.ref n) v) (hn : σ n = some (.inst c fs)) (ha : a ∈ attrsOf c) (e : fget fs a = some av)
    (h : ∀ r, VRel ρ s.heap av r → Q r { s with toks := s.toks + 1 }) : wpAny (model prog w) A (getAttr v (S a) expr) Q E s := by
  cases hv with
  | ref hρ =>
    rename_i x d
    obtain ⟨x', d', e1, es, k, hx, hd, hf⟩ := R.obj _ _ hn
    rw [hρ] at e1; cases e1
    obtain ⟨r, hr, hvr⟩ := (hf.find a).1 av e
    obtain ⟨hg, attr, h1, h2⟩ := C.get a ha
    have I : InstAt s.heap x (instObj (cl c) d) (cl c) (some (dictOf es k)) := ⟨hx, rfl, rfl, hd⟩
    exact get_value (X.keeps R.bas) I (plainGet_of hg).1 (findObj_own (od := dictOf es k) C.hasD h1 h2 hr) hvr.handed (h r hvr)

theorem putL_length (name : PySem.Str) (hsh : Int) (key v : Value) : ∀ es : List DictEntry, (putL name hsh key v es).length ≤ es.length + 1
  | [] => Nat.le_refl _
  | e :: r => by
    unfold putL
    split
    · simp
    · simp only [List.length_cons]; exact Nat.succ_le_succ (putL_length name hsh key v r)

theorem op_setAttr {c : String} {n : Name} {fs : List (String × AV)} {a : String} {av : AV} {v x : Value} {Q : Unit → Shared → Prop} (R : Rel prog w cl base ρ σ s.heap) (X : K.In base) (C : ClsOK K (cl c) c)
    (hv : VRel ρ s.heap (.ref n) v) (hn : σ n = some (.inst c fs)) (ha : a ∈ attrsOf c) (hfs : fs.length < 100) (hx : VRel ρ s.heap av x)
    (h : ∀ s', Same s s' → Rel prog w cl base ρ (σ.set n (.inst c (fset fs a av))) s'.heap → Step No ρ σ s.heap ρ (σ.set n (.inst c (fset fs a av))) s'.heap → Q () s') : wpAny (model prog w) A (setAttr v (S a) x) Q E s := by
  cases hv with
  | ref hρ =>
    rename_i y d
    obtain ⟨y', d', e1, es, k, hy, hd, hf⟩ := R.obj _ _ hn
    rw [hρ] at e1; cases e1
    have XK := X.keeps R.bas
    obtain ⟨hp, gs, dr, tks, os⟩ := s
    have I : InstAt hp y (instObj (cl c) d) (cl c) (some (dictOf es k)) := ⟨hy, rfl, rfl, hd⟩
    refine set_plain XK I C.setA (osa_open (s := ⟨hp, gs, dr, tks + 1, os⟩) XK I C.over (C.taker a ha) fun b => ?_)
    obtain ⟨cd, hc, hh⟩ := any_some C.hasD
    dsimp only
    refine wpAny_bind (wpAny_pure (wpAny_bind (wpAny_bind (wpAny_loadPart hy (wpAny_bind ((looks_clsIn XK hc).at ?_))))))
    rw [hh]
    refine wpAny_pure (a := some d) (wpAny_bind (wpAny_pure (wpAny_bind ?_)))
    have hsome : (getL (S a) es).isSome = true := by
      cases q : fget fs a with
      | none => rw [(hf.find a).2 q]; rfl
      | some av' => obtain ⟨r, hr, _⟩ := (hf.find a).1 av' q; rw [hr]; rfl
    have hkey : aRefKeyMayBeTheName (S a) es.toArray = false := by
      rw [aRefKeyMayBeTheName_at, ← Array.any_toList, ← Array.any_toList]
      unfold getL at hsome
      split at hsome
      · rename_i en he
        rw [List.any_eq_true.mpr ⟨en, List.mem_of_find?_eq_some he, List.find?_some he⟩]; rfl
      · split at hsome
        · cases hsome
        · rename_i z; rw [Bool.not_eq_true] at z; rw [z, Bool.and_false]
    have key : ∀ tk, wpAny (model prog w) A.in1 (nsSet d (S a) x) (fun _ s' => ∃ h' tk', s' = ⟨h', gs, dr, tk', os⟩ ∧ Heap.SameBut d hp h' ∧ h'.get? d = some (Obj.putName (S a) (PyData.keyHash w.params (S a)) (.str (S a) tk) x (dictOf es k))) E ⟨hp, gs, dr, tk, os⟩ := by
      intro tk
      unfold nsSet
      refine wpAny_bind (wpAny_bind (wpAny_askSetting (wpAny_pure (wpAny_bind (wpAny_mkText (wpAny_bind (wpAny_loadPart hd ?_)))))))
      dsimp only
      rw [hkey]
      refine wpAny_updatePart hd ?_
      refine ⟨_, _, rfl, Heap.SameBut.update _ _ _, Heap.get?_update_self _ hd ?_⟩
      rw [putName_dict]; rfl
    refine wpAny_mono (key _) (fun _ s' q => ?_) (fun e s' z => z)
    · obtain ⟨h', tk', rfl, hs, hg⟩ := q
      rw [putName_dict] at hg
      have hl := hf.length
      have hpl := putL_length (S a) (PyData.keyHash w.params (S a)) (.str (S a) (tks + 1)) x es
      refine wpAny_bind (wpAny_lookBehind hg (pastItsLine_dict (by rw [List.size_toArray, sizeLine_eq]; lia)) ?_)
      obtain ⟨R', st⟩ := R.turned (o' := .inst c (fset fs a av)) hρ (by rw [hn]; rfl) (.inr rfl) hs (fun o e => by rw [hd] at e; cases e; exact ne_dt) fun u => by
        refine ⟨_, _, (hs.2 _ ?_).trans hy, hg, (hf.up u).put a (hx.up u)⟩
        rintro rfl
        rw [hy] at hd; cases hd
      exact wpAny_pure (h _ ⟨rfl, rfl, rfl⟩ R' st)

inductive IsLst (ρ : Rho) (h : Heap) (a : Name) (xs : List AV) (v : Value) : Prop
  | mk (x d : Nat) (vs : List Value) (n : Nat) (e : v = .ref x) (hρ : ρ a = some (x, d)) (L : IsL h x vs.toArray n) (V : VRels ρ h xs vs) (hl : xs.length ≤ lim) : IsLst ρ h a xs v
inductive IsDct (prog : Program) (w : World) (base : Heap) (ρ : Rho) (h : Heap) (a : Name) (es : List (Int × AV)) (v : Value) : Prop
  | mk (x d : Nat) (o : Obj) (kvs : List (Int × Value)) (e : v = .ref x) (hρ : ρ a = some (x, d)) (ho : h.get? x = some o) (hD : o.IsDictOf (intKind prog w) kvs) (hp : PairsR ρ h es kvs) (hl : es.length ≤ lim) (lo : base.objs.size ≤ x) : IsDct prog w base ρ h a es v
theorem Rel.isList {a : Name} {v : Value} {xs : List AV} {h : Heap} (R : Rel prog w cl base ρ σ h) (hv : VRel ρ h (.ref a) v) (ha : σ a = some (.list xs)) : IsLst ρ h a xs v := by
  cases hv with
  | ref hρ =>
    obtain ⟨x', d', e1, hl, vs, n, a1, a2⟩ := R.obj _ _ ha
    rw [hρ] at e1; cases e1
    exact ⟨_, _, vs, n, rfl, hρ, a1, a2, hl⟩
theorem Rel.isDict {a : Name} {v : Value} {es : List (Int × AV)} {fz : Bool} {h : Heap} (R : Rel prog w cl base ρ σ h) (hv : VRel ρ h (.ref a) v) (ha : σ a = some (.dict es fz)) : IsDct prog w base ρ h a es v := by
  cases hv with
  | ref hρ =>
    obtain ⟨x', d', e1, hl, o, kvs, a1, a2, a3⟩ := R.obj _ _ ha
    rw [hρ] at e1; cases e1
    exact ⟨_, _, o, kvs, rfl, hρ, a1, a2, a3, hl, (R.lo _ _ _ hρ).1⟩

theorem PairsR.length {h : Heap} {es : List (Int × AV)} {kvs : List (Int × Value)} (r : PairsR ρ h es kvs) : kvs.length = es.length := by
  induction r with
  | nil => rfl
  | cons _ _ ih => simp [ih]
theorem PairsR.find {h : Heap} {es : List (Int × AV)} {kvs : List (Int × Value)} (r : PairsR ρ h es kvs) (k : Int) :
    (∀ av, dget es k = some av → ∃ v, valueAt kvs k = some v ∧ VRel ρ h av v) ∧ (dget es k = none → valueAt kvs k = none) := by
  induction r with
  | nil => exact ⟨fun av e => by simp [dget] at e, fun _ => rfl⟩
  | @cons k' av' v' es kvs p _ ih =>
    unfold dget valueAt at *
    simp only [List.find?_cons]
    by_cases q : k' = k
    · simp only [q, decide_true]
      exact ⟨fun av e => by simp only [Option.map_some, Option.some.injEq] at e ⊢; subst e; exact ⟨v', rfl, p⟩, fun e => by simp at e⟩
    · simp only [decide_eq_false q]
      exact ih
theorem PairsR.isSome {h : Heap} {es : List (Int × AV)} {kvs : List (Int × Value)} (r : PairsR ρ h es kvs) (k : Int) : (valueAt kvs k).isSome = (dget es k).isSome := by
  cases q : dget es k with
  | none => rw [(r.find k).2 q]; rfl
  | some av => obtain ⟨v, e, _⟩ := (r.find k).1 av q; rw [e]; rfl
theorem PairsR.any {h : Heap} {es : List (Int × AV)} {kvs : List (Int × Value)} (r : PairsR ρ h es kvs) (k : Int) : (kvs.any fun kv => decide (kv.1 = k)) = (es.any fun p => decide (p.1 = k)) := by
  induction r with
  | nil => rfl
  | cons _ _ ih => simp only [List.any_cons, ih]
theorem PairsR.mapSet {h : Heap} {es : List (Int × AV)} {kvs : List (Int × Value)} (r : PairsR ρ h es kvs) (k : Int) {av : AV} {v : Value} (hv : VRel ρ h av v) :
    PairsR ρ h (es.map fun p => if p.1 = k then (p.1, av) else p) (kvs.map fun kv => if kv.1 = k then (kv.1, v) else kv) := by
  induction r with
  | nil => exact .nil
  | @cons k' av' v' es kvs p _ ih =>
    simp only [List.map_cons]
    by_cases q : k' = k
    · simp only [q, if_true]; exact .cons hv ih
    · simp only [q, if_false]; exact .cons p ih
theorem PairsR.snoc {h : Heap} {es : List (Int × AV)} {kvs : List (Int × Value)} (r : PairsR ρ h es kvs) (k : Int) {av : AV} {v : Value} (hv : VRel ρ h av v) : PairsR ρ h (es ++ [(k, av)]) (kvs ++ [(k, v)]) := by
  induction r with
  | nil => exact .cons hv .nil
  | cons p _ ih => exact .cons p ih
theorem PairsR.set {h : Heap} {es : List (Int × AV)} {kvs : List (Int × Value)} (r : PairsR ρ h es kvs) (k : Int) {av : AV} {v : Value} (hv : VRel ρ h av v) : PairsR ρ h (dset es k av) (stored kvs k v) := by
  unfold dset stored
  rw [r.any k]
  split
  · exact r.mapSet k hv
  · exact r.snoc k hv
theorem PairsR.del {h : Heap} {es : List (Int × AV)} {kvs : List (Int × Value)} (r : PairsR ρ h es kvs) (k : Int) : PairsR ρ h (ddel es k) (without kvs k) := by
  unfold ddel without
  induction r with
  | nil => exact .nil
  | @cons k' av' v' es kvs p _ ih =>
    simp only [List.filter_cons]
    by_cases q : k' = k
    · simp only [q]; simpa using ih
    · simp only [ne_eq, q, not_false_eq_true, decide_true, if_true]; exact .cons p ih
theorem dset_length (es : List (Int × AV)) (k : Int) (v : AV) : (dset es k v).length ≤ es.length + 1 := by unfold dset; split <;> simp
theorem ddel_length (es : List (Int × AV)) (k : Int) : (ddel es k).length ≤ es.length := List.length_filter_le _ _

theorem lim_is : lim = 65536 := rfl
theorem notModules {x : Nat} {b : Nat} (h : sysModules < b) (hx : b ≤ x) : (x == sysModules) = false := by
  rw [beq_eq_false_iff_ne]
  have h' : @LT.lt Nat _ sysModules b := h
  intro e
  have e' : (x : Nat) = sysModules := e
  lia

theorem op_sub {value slice : Expr} {av kv : AV} {v k : Value} {P : AV → Prop} {Q : Value → Shared → Prop} (hsl : notSlice slice = true) (R : Rel prog w cl base ρ σ s.heap) (h1 : VRel ρ s.heap av v) (h2 : VRel ρ s.heap kv k)
    (hq : wpSub av kv σ P) (h : ∀ r rv tk, P r → VRel ρ s.heap r rv → Q rv { s with toks := tk }) : wpAny (model prog w) A (subscriptTail value slice v k) Q E s := by
  have hs : ∀ o i, subscripted slice false o i = operate [o, i] (getItem o i) := by
    intro o i; cases slice <;> first | rfl | cases hsl
  have hself : ∀ r rv, P r → VRel ρ s.heap r rv → Q rv s := fun r rv a b => by have := h r rv s.toks a b; simpa using this
  cases kv with
  | int k' =>
    cases h2
    rename_i t
    cases av with
    | tup xs =>
      obtain ⟨h0, hl, r, hr, hp⟩ := hq
      cases h1 with
      | tup ht hu hs' =>
        obtain ⟨rv, e1, e2⟩ := hs'.get hr
        have hlim := lim_is
        rename_i t' vs
        have hlt : k'.toNat < vs.length := (List.getElem?_eq_some_iff.mp e1).1
        have hj : seqIndex? k' vs.toArray.size = some k'.toNat := seqIndex_of h0 (by rw [List.size_toArray]; lia)
        exact tail_any ht.typeIs PySem.F.slot_tuple_getitem.lookup (getItem_tuple ht (by lia) (by lia) hj (by simpa using e1) (hself r rv hp e2)) (hs _ _)
    | ref a =>
      rcases hq with ⟨xs, r, ha, h0, hl, hr, hp⟩ | ⟨es, fz, r, ha, hr, hp⟩
      · obtain ⟨x, d, vs, n, rfl, _, hL, hvs, _⟩ := R.isList h1 ha
        obtain ⟨rv, e1, e2⟩ := hvs.get hr
        have hlim := lim_is
        exact tail_any hL.isList.typeIs slot_list_getitem.lookup (wpAny_getItem_list hL.isList h0 (by lia) (by simpa using e1) (hself r rv hp e2)) (hs _ _)
      · obtain ⟨x, d, o, kvs, rfl, _, ho, hD, hps, _⟩ := R.isDict h1 ha
        obtain ⟨rv, e1, e2⟩ := (hps.find k').1 r hr
        have hd : s.heap.DictOf (intKind prog w) x kvs := Heap.dictOf_iff.mpr ⟨o, ho, hD⟩
        exact tail_any hd.typeIs slot_dict_getitem.lookup (wpAny_getItem_of (intKind_is prog w k' t) hd.mapOf e1 (h r rv _ hp e2)) (hs _ _)
    | _ => exact hq.elim
  | _ => cases av <;> exact hq.elim
end
end Gc
end
/- GcB5 -/
section
set_option maxRecDepth 100000
namespace Gc
open PySem PySem.W PySem.Calls PyProof.Rows

structure AOk (A : Around) (d : Nat) : Prop where
  handled : A.handled = none
  depth : A.depth + 2 * d + 4 ≤ 990
  units : A.units + 10 * d + 100 < 9900

theorem AOk.cl {A : Around} {d : Nat} (h : AOk A d) : A.units < cLine := by have := h.units; rw [cLine_is]; lia
theorem AOk.cl1 {A : Around} {d : Nat} (h : AOk A d) : A.in1.units < cLine := by have := h.units; rw [cLine_is, units_in1]; lia

theorem opIs_e {o : Op} {op : Operator} (h : opIs o op = true) : op = o.is := of_decide_eq_true h
theorem cmpIs_e {o : Cmp} {op : CmpOp} (h : cmpIs o op = true) : op = o.op := of_decide_eq_true h

theorem small63 {n : Nat} (h : n ≤ lim) : (n : Int) < 2 ^ 63 := by have := lim_is; lia
theorem truthy_inv {a : AV} {σ : Sto} {t : Bool} (e : truthy a σ = some t) : a = .bool t ∨ ∃ n xs, a = .ref n ∧ σ n = some (.list xs) ∧ (!xs.isEmpty) = t := by
  cases a with
  | bool b => exact .inl (by cases e; rfl)
  | ref n =>
    unfold truthy at e
    dsimp only at e
    cases q : σ n with
    | none => rw [q] at e; exact nomatch e
    | some o =>
      rw [q] at e
      cases o with
      | list xs => exact .inr ⟨_, _, rfl, q, Option.some.inj e⟩
      | _ => exact nomatch e
  | _ => exact nomatch e
theorem kindOf_inv {a : AV} {σ : Sto} {k : Bool} (e : kindOf a σ = some k) : ∃ n, a = .ref n ∧ ((∃ xs, σ n = some (.list xs) ∧ k = true) ∨ ∃ es fz, σ n = some (.dict es fz) ∧ k = false) := by
  cases a with
  | ref n =>
    unfold kindOf at e
    dsimp only at e
    cases q : σ n with
    | none => rw [q] at e; exact nomatch e
    | some o =>
      rw [q] at e
      cases o with
      | list xs => exact ⟨_, rfl, .inl ⟨_, q, (Option.some.inj e).symm⟩⟩
      | dict es fz => exact ⟨_, rfl, .inr ⟨_, _, q, (Option.some.inj e).symm⟩⟩
      | _ => exact nomatch e
  | _ => exact nomatch e
theorem itemsOf_inv {a : AV} {σ : Sto} {xs : List AV} (e : itemsOf a σ = some xs) : ∃ n, a = .ref n ∧ (σ n = some (.list xs) ∨ ∃ es fz, σ n = some (.dict es fz) ∧ es.map (fun p => AV.int p.1) = xs) := by
  cases a with
  | ref n =>
    unfold itemsOf at e
    dsimp only at e
    cases q : σ n with
    | none => rw [q] at e; exact nomatch e
    | some o =>
      rw [q] at e
      cases o with
      | list ys => exact ⟨_, rfl, .inl (by rw [q, Option.some.inj e])⟩
      | dict es fz => exact ⟨_, rfl, .inr ⟨_, _, q, Option.some.inj e⟩⟩
      | _ => exact nomatch e
  | _ => exact nomatch e
theorem getsAttr_inv {v : AV} {a : String} {σ : Sto} {r : AV} (h : getsAttr v a σ = some r) : ∃ n c fs, v = .ref n ∧ σ n = some (.inst c fs) ∧ fget fs a = some r ∧ a ∈ attrsOf c := by
  cases v with
  | ref n =>
    unfold getsAttr at h
    dsimp only at h
    cases q : σ n with
    | none => rw [q] at h; exact nomatch h
    | some o =>
      rw [q] at h
      cases o with
      | inst c fs =>
        dsimp only at h
        by_cases m : a ∈ attrsOf c
        · rw [if_pos m] at h; exact ⟨_, _, _, rfl, q, h, m⟩
        · rw [if_neg m] at h; exact nomatch h
      | _ => exact nomatch h
  | _ => exact nomatch h
section
variable {a b : AV} {σ : Sto}
noncomputable def IntsOr (a b : AV) (p : Int → Int → Prop) (q : Prop) : Prop := (∃ i j, a = .int i ∧ b = .int j ∧ p i j) ∨ q
theorem inv_add {P : AV → Sto → Prop} (h : wpBin .add a b σ P) : IntsOr a b (fun i j => P (.int (i + j)) σ) (∃ n n', a = .ref n ∧ b = .ref n' ∧ wpBin .add (.ref n) (.ref n') σ P) := by
  cases a with
  | int i => cases b with
    | int j => exact .inl ⟨_, _, rfl, rfl, h⟩
    | _ => exact h.elim
  | ref n => cases b with
    | ref n' => exact .inr ⟨_, _, rfl, rfl, h⟩
    | _ => exact h.elim
  | _ => exact h.elim
theorem inv_sub {P : AV → Sto → Prop} (h : wpBin .sub a b σ P) : ∃ i j, a = .int i ∧ b = .int j ∧ P (.int (i - j)) σ := by
  cases a with
  | int i => cases b with
    | int j => exact ⟨_, _, rfl, rfl, h⟩
    | _ => exact h.elim
  | _ => exact h.elim
theorem inv_mod {P : AV → Sto → Prop} (h : wpBin .mod a b σ P) : ∃ i j, a = .int i ∧ b = .int j ∧ 0 < j ∧ P (.int (i % j)) σ := by
  cases a with
  | int i => cases b with
    | int j => exact ⟨_, _, rfl, rfl, h⟩
    | _ => exact h.elim
  | _ => exact h.elim
theorem inv_fdiv {P : AV → Sto → Prop} (h : wpBin .fdiv a b σ P) : ∃ i j, a = .int i ∧ b = .int j ∧ 0 < j ∧ j < lim ∧ P (.int (i / j)) σ := by
  cases a with
  | int i => cases b with
    | int j => exact ⟨_, _, rfl, rfl, h⟩
    | _ => exact h.elim
  | _ => exact h.elim
variable {P : Bool → Prop}
theorem inv_eq (h : wpCmp .eq a b σ P) : IntsOr a b (fun i j => P (decide (i = j))) ((∃ i j, a = .str i ∧ b = .str j ∧ P (decide (i = j))) ∨ ∃ n n', a = .ref n ∧ b = .ref n' ∧ wpCmp .eq (.ref n) (.ref n') σ P) := by
  cases a with
  | int i => cases b with
    | int j => exact .inl ⟨_, _, rfl, rfl, h⟩
    | _ => exact h.elim
  | str i => cases b with
    | str j => exact .inr (.inl ⟨_, _, rfl, rfl, h⟩)
    | _ => exact h.elim
  | ref n => cases b with
    | ref n' => exact .inr (.inr ⟨_, _, rfl, rfl, h⟩)
    | _ => exact h.elim
  | _ => exact h.elim
theorem inv_ne (h : wpCmp .ne a b σ P) : IntsOr a b (fun i j => P (decide (i ≠ j))) ((∃ i j, a = .str i ∧ b = .str j ∧ P (decide (i ≠ j))) ∨ ∃ n n', a = .ref n ∧ b = .ref n' ∧ wpCmp .ne (.ref n) (.ref n') σ P) := by
  cases a with
  | int i => cases b with
    | int j => exact .inl ⟨_, _, rfl, rfl, h⟩
    | _ => exact h.elim
  | str i => cases b with
    | str j => exact .inr (.inl ⟨_, _, rfl, rfl, h⟩)
    | _ => exact h.elim
  | ref n => cases b with
    | ref n' => exact .inr (.inr ⟨_, _, rfl, rfl, h⟩)
    | _ => exact h.elim
  | _ => exact h.elim
theorem inv_lt (h : wpCmp .lt a b σ P) : ∃ i j, a = .int i ∧ b = .int j ∧ P (decide (i < j)) := by
  cases a with
  | int i => cases b with
    | int j => exact ⟨_, _, rfl, rfl, h⟩
    | _ => exact h.elim
  | _ => exact h.elim
theorem inv_gt (h : wpCmp .gt a b σ P) : ∃ i j, a = .int i ∧ b = .int j ∧ P (decide (i > j)) := by
  cases a with
  | int i => cases b with
    | int j => exact ⟨_, _, rfl, rfl, h⟩
    | _ => exact h.elim
  | _ => exact h.elim
theorem inv_ge (h : wpCmp .ge a b σ P) : ∃ i j, a = .int i ∧ b = .int j ∧ P (decide (i ≥ j)) := by
  cases a with
  | int i => cases b with
    | int j => exact ⟨_, _, rfl, rfl, h⟩
    | _ => exact h.elim
  | _ => exact h.elim
theorem inv_is (h : wpCmp .is a b σ P) : b = .none ∧ (a = .none ∧ P true ∨ ∃ n, a = .ref n ∧ P false) := by
  cases a with
  | none => cases b with
    | none => exact ⟨rfl, .inl ⟨rfl, h⟩⟩
    | _ => exact h.elim
  | ref n => cases b with
    | none => exact ⟨rfl, .inr ⟨_, rfl, h⟩⟩
    | _ => exact h.elim
  | _ => exact h.elim
theorem inv_isnot (h : wpCmp .isnot a b σ P) : b = .none ∧ (a = .none ∧ P false ∨ ∃ n, a = .ref n ∧ P true) := by
  cases a with
  | none => cases b with
    | none => exact ⟨rfl, .inl ⟨rfl, h⟩⟩
    | _ => exact h.elim
  | ref n => cases b with
    | none => exact ⟨rfl, .inr ⟨_, rfl, h⟩⟩
    | _ => exact h.elim
  | _ => exact h.elim
theorem inv_isin (h : wpCmp .isin a b σ P) : ∃ k n es fz, a = .int k ∧ b = .ref n ∧ σ n = some (.dict es fz) ∧ P (dget es k).isSome := by
  cases a with
  | int i => cases b with
    | ref n => obtain ⟨es, fz, e, p⟩ := h; exact ⟨_, _, _, _, rfl, rfl, e, p⟩
    | _ => exact h.elim
  | _ => exact h.elim
theorem inv_notin (h : wpCmp .notin a b σ P) : ∃ k n es fz, a = .int k ∧ b = .ref n ∧ σ n = some (.dict es fz) ∧ P (!(dget es k).isSome) := by
  cases a with
  | int i => cases b with
    | ref n => obtain ⟨es, fz, e, p⟩ := h; exact ⟨_, _, _, _, rfl, rfl, e, p⟩
    | _ => exact h.elim
  | _ => exact h.elim
end
theorem dec_eqI (i j : Int) : decide (i = j) = (i == j) := by rw [Bool.eq_iff_iff]; simp
theorem dec_neI (i j : Int) : decide (i ≠ j) = (i != j) := by rw [Bool.eq_iff_iff]; simp
theorem dec_eqS (i j : String) : decide (i = j) = (S i == S j) := by rw [str_beq, Bool.eq_iff_iff]; simp
theorem dec_neS (i j : String) : decide (i ≠ j) = (S i != S j) := by rw [bne, str_beq, Bool.eq_iff_iff]; simp

section
variable {prog : Program} {w : World} {cl : String → Nat} {base : Heap} {A : Around} {E : Value → Shared → Prop} {s : Shared} {ρ : Rho} {σ : Sto} {d : Nat}

theorem op_add {a b : AV} {x y : Value} {P : AV → Sto → Prop} {Q : Value → Shared → Prop} (R : Rel prog w cl base ρ σ s.heap) (hx : VRel ρ s.heap a x) (hy : VRel ρ s.heap b y)
    (hq : wpBin .add a b σ P) (h : ∀ r rv ρ' σ' s', P r σ' → Same s s' → Rel prog w cl base ρ' σ' s'.heap → Step No ρ σ s.heap ρ' σ' s'.heap → VRel ρ' s'.heap r rv → Q rv s') : wpAny (model prog w) A (binaryOp .Add x y) Q E s := by
  rcases inv_add hq with ⟨i, j, rfl, rfl, p⟩ | ⟨n, n', rfl, rfl, xs, ys, e1, e2, hl, hn⟩
  · obtain ⟨t, rfl⟩ := hx.ii
    obtain ⟨u, rfl⟩ := hy.ii
    exact add_int (h _ _ ρ σ _ p ⟨rfl, rfl, rfl⟩ R .refl (.int _ _))
  · obtain ⟨x1, d1, vs, k1, rfl, _, L1, V1, _⟩ := R.isList hx e1
    obtain ⟨x2, d2, ws, k2, rfl, _, L2, V2, _⟩ := R.isList hy e2
    have hlim := lim_is
    have l1 := V1.length
    have l2 := V2.length
    have sz : vs.toArray.size + ws.toArray.size ≤ sizeLine := by rw [List.size_toArray, List.size_toArray, sizeLine_eq]; lia
    refine concat_meets ⟨_, L1, rfl⟩ ⟨_, L2, rfl⟩ noFill_list_add seq_list_add PySem.F.slot_list_add PySem.F.entry_list_add (PySem.F.args_list_add_2 _ _) (list_addW x1 x2 vs.toArray ws.toArray k1 k2 none none #[] #[] sz) ⟨L1, L2, ?_⟩
    have nt := R.new (o' := .list (xs ++ ys)) (x := s.heap.objs.size) (d := s.heap.objs.size) (h' := s.heap.push { cls := .type "list", data := .seq (vs.toArray ++ ws.toArray) }) hn (Nat.le_refl _) (Nat.le_refl _)
      (by rw [Heap.size_push]; exact Nat.lt_succ_self _) (by rw [Heap.size_push]; exact Nat.lt_succ_self _) (fun b o e => Heap.get?_push_of_some _ e) (by rw [Heap.size_push]; exact Nat.le_succ _)
      (fun ρ' u => ⟨by rw [List.length_append]; exact Nat.le_of_lt hl, vs ++ ws, 0, by simpa using Heap.get?_push_size s.heap (o := { cls := .type "list", data := .seq (vs.toArray ++ ws.toArray) }) rfl, (V1.append V2).up u⟩)
    obtain ⟨n, σ', ρ', p, _, _, _, e, R', st⟩ := nt
    exact h _ _ ρ' σ' _ p ⟨rfl, rfl, rfl⟩ R' st (.ref e)
theorem op_bin {o : Op} {op : Operator} {a b : AV} {x y : Value} {P : AV → Sto → Prop} {Q : Value → Shared → Prop} (ho : opIs o op = true) (R : Rel prog w cl base ρ σ s.heap) (hx : VRel ρ s.heap a x) (hy : VRel ρ s.heap b y)
    (hq : wpBin o a b σ P) (h : ∀ r rv ρ' σ' s', P r σ' → Same s s' → Rel prog w cl base ρ' σ' s'.heap → Step No ρ σ s.heap ρ' σ' s'.heap → VRel ρ' s'.heap r rv → Q rv s') : wpAny (model prog w) A (binaryOp op x y) Q E s := by
  rw [opIs_e ho]
  cases o
  · exact op_add R hx hy hq h
  · obtain ⟨i, j, rfl, rfl, p⟩ := inv_sub hq
    obtain ⟨t, rfl⟩ := hx.ii
    obtain ⟨u, rfl⟩ := hy.ii
    exact sub_int (h _ _ ρ σ _ p ⟨rfl, rfl, rfl⟩ R .refl (.int _ _))
  · obtain ⟨i, j, rfl, rfl, p0, p⟩ := inv_mod hq
    obtain ⟨t, rfl⟩ := hx.ii
    obtain ⟨u, rfl⟩ := hy.ii
    refine mod_int (Int.ne_of_gt p0) ?_
    rw [Int.fmod_eq_emod_of_nonneg _ (Int.le_of_lt p0)]
    exact h _ _ ρ σ _ p ⟨rfl, rfl, rfl⟩ R .refl (.int _ _)
  · obtain ⟨i, j, rfl, rfl, p0, p1, p⟩ := inv_fdiv hq
    obtain ⟨t, rfl⟩ := hx.ii
    obtain ⟨u, rfl⟩ := hy.ii
    refine floordiv_int (Int.ne_of_gt p0) ?_ (.inl (PyProof.noPylong_small (by have hlim := lim_is; lia)))
    rw [Int.fdiv_eq_ediv_of_nonneg _ (Int.le_of_lt p0)]
    exact h _ _ ρ σ _ p ⟨rfl, rfl, rfl⟩ R .refl (.int _ _)

theorem op_inplace {o : Op} {op : Operator} {i j : Int} {t u : Tok} {P : AV → Sto → Prop} {Q : Value → Shared → Prop} (ho : opIs o op = true) (R : Rel prog w cl base ρ σ s.heap)
    (hq : wpBin o (.int i) (.int j) σ P) (h : ∀ r rv ρ' σ' s', P r σ' → Same s s' → Rel prog w cl base ρ' σ' s'.heap → Step No ρ σ s.heap ρ' σ' s'.heap → VRel ρ' s'.heap r rv → Q rv s') : wpAny (model prog w) A (inplaceOp op (.int i t) (.int j u)) Q E s := by
  rw [opIs_e ho]
  cases o
  · exact iadd_int (h _ _ ρ σ _ hq ⟨rfl, rfl, rfl⟩ R .refl (.int _ _))
  · exact PyProof.Rows.isub_int (h _ _ ρ σ _ hq ⟨rfl, rfl, rfl⟩ R .refl (.int _ _))
  · refine PyProof.Rows.imod_int (Int.ne_of_gt hq.1) ?_
    rw [Int.fmod_eq_emod_of_nonneg _ (Int.le_of_lt hq.1)]
    exact h _ _ ρ σ _ hq.2 ⟨rfl, rfl, rfl⟩ R .refl (.int _ _)
  · refine PyProof.Rows.ifloordiv_int (Int.ne_of_gt hq.1) ?_ (.inl (PyProof.noPylong_small (by have hlim := lim_is; have := hq.1; have := hq.2.1; lia)))
    rw [Int.fdiv_eq_ediv_of_nonneg _ (Int.le_of_lt hq.1)]
    exact h _ _ ρ σ _ hq.2.2 ⟨rfl, rfl, rfl⟩ R .refl (.int _ _)

theorem eqAt_scal {av : AV} {v v' : Value} (hs : av.scal = true) (h1 : VRel ρ s.heap av v) (h2 : VRel ρ s.heap av v') : SeqAt.EqAt A s v v' true := by
  cases h1 with
  | none => cases h2; exact SeqAt.EqAt.same _
  | bool b => cases h2; exact SeqAt.EqAt.same _
  | int i t => cases h2; have := SeqAt.EqAt.int_int (A := A) (s := s) i t i ‹_›; simpa using this
  | str x t => cases h2; have := SeqAt.EqAt.str_str (A := A) (s := s) (S x) t (S x) ‹_›; simpa using this
  | ref e => cases h2 with | ref e' => rw [e] at e'; cases e'; exact SeqAt.EqAt.same _
  | tup => cases hs
theorem eqAt_flat {av : AV} {v v' : Value} (hu : A.units < cLine) (hs : av.flat = true) (h1 : VRel ρ s.heap av v) (h2 : VRel ρ s.heap av v') : SeqAt.EqAt A s v v' true := by
  cases av with
  | tup xs =>
    cases h1 with
    | @tup _ a vs t1 _ v1 =>
      cases h2 with
      | @tup _ b ws t2 _ v2 =>
        by_cases q : a = b
        · subst q; exact SeqAt.EqAt.same _
        · refine SeqAt.EqAt.of_refs q ?_
          have l1 := v1.length
          have l2 := v2.length
          have := SeqAt.RcAt.tuples (A := A) (s := s) (l := a) (b := b) (e := fun _ => true) t1 t2 hu (fun j h1 h2 => by
            have e1 : vs[j]? = some vs.toArray[j] := by simp [List.getElem?_eq_getElem (by simpa using h1)]
            have e2 : ws[j]? = some ws.toArray[j] := by simp [List.getElem?_eq_getElem (by simpa using h2)]
            obtain ⟨av, f1, f2⟩ := v1.get' e1
            obtain ⟨av', f3, f4⟩ := v2.get' e2
            rw [f1] at f3; cases f3
            refine eqAt_scal ?_ f2 f4
            exact List.all_eq_true.mp hs _ (List.mem_of_getElem? f1))
          have e : ((List.range (min vs.toArray.size ws.toArray.size)).all (fun _ => true) && vs.toArray.size == ws.toArray.size) = true := by
            simp [← l1, ← l2]
          rw [e] at this; exact this
  | _ => exact eqAt_scal rfl h1 h2

theorem eqs_flat {xs : List AV} {vs ws : List Value} (hu : A.units < cLine) (hf : xs.all AV.flat = true) (v1 : VRels ρ s.heap xs vs) (v2 : VRels ρ s.heap xs ws) :
    ∀ j (h1 : j < vs.toArray.size) (h2 : j < ws.toArray.size), SeqAt.EqAt A s vs.toArray[j] ws.toArray[j] ((fun _ => true) j) := fun j h1 h2 => by
  have e1 : vs[j]? = some vs.toArray[j] := by simp [List.getElem?_eq_getElem (by simpa using h1)]
  have e2 : ws[j]? = some ws.toArray[j] := by simp [List.getElem?_eq_getElem (by simpa using h2)]
  obtain ⟨av, f1, f2⟩ := v1.get' e1
  obtain ⟨av', f3, f4⟩ := v2.get' e2
  rw [f1] at f3; cases f3
  exact eqAt_flat hu (List.all_eq_true.mp hf _ (List.mem_of_getElem? f1)) f2 f4

theorem op_ne {a b : AV} {x y : Value} {P : Bool → Prop} {Q : Value → Shared → Prop} (K : AOk A d) (R : Rel prog w cl base ρ σ s.heap)
    (hx : VRel ρ s.heap a x) (hy : VRel ρ s.heap b y) (hq : wpCmp .ne a b σ P) (h : ∀ r tk, P r → Q (.bool r) { s with toks := tk }) : wpAny (model prog w) A (compareOp .NotEq x y) Q E s := by
  rcases inv_ne hq with ⟨i, j, rfl, rfl, p⟩ | ⟨i, j, rfl, rfl, p⟩ | ⟨n, n', rfl, rfl, p⟩
  · obtain ⟨t, rfl⟩ := hx.ii
    obtain ⟨u, rfl⟩ := hy.ii
    exact ne_int (dec_neI i j ▸ h _ s.toks p)
  · obtain ⟨t, rfl⟩ := hx.ss
    obtain ⟨u, rfl⟩ := hy.ss
    exact ne_str (dec_neS i j ▸ h _ s.toks p)
  · rcases p with ⟨⟨xs, e1, e2, hf⟩, p⟩ | ⟨xs, ys, e1, e2, hne, p⟩
    · obtain ⟨x1, d1, vs, k1, rfl, _, L1, V1, _⟩ := R.isList hx e1
      obtain ⟨x2, d2, ws, k2, rfl, _, L2, V2, _⟩ := R.isList hy e2
      refine cmp_ofNotEq (SeqAt.RcNeAt.lists L1.isList L2.isList (by rw [List.size_toArray, List.size_toArray, ← V1.length, ← V2.length]) K.cl (eqs_flat (A := A.in1) K.cl1 hf V1 V2) prog w E Q ?_)
      rw [show (List.range vs.toArray.size).all (fun _ => true) = true from List.all_eq_true.mpr fun _ _ => rfl]
      exact h _ s.toks p
    · obtain ⟨x1, d1, vs, k1, rfl, _, L1, V1, _⟩ := R.isList hx e1
      obtain ⟨x2, d2, ws, k2, rfl, _, L2, V2, _⟩ := R.isList hy e2
      exact cmp_ofNotEq (SeqAt.RcNeAt.lists_lengths L1.isList L2.isList (by rw [List.size_toArray, List.size_toArray, ← V1.length, ← V2.length, bne_iff_ne]; exact hne) K.cl prog w E Q (h _ s.toks p))
theorem op_eq {a b : AV} {x y : Value} {P : Bool → Prop} {Q : Value → Shared → Prop} (K : AOk A d) (R : Rel prog w cl base ρ σ s.heap)
    (hx : VRel ρ s.heap a x) (hy : VRel ρ s.heap b y) (hq : wpCmp .eq a b σ P) (h : ∀ r tk, P r → Q (.bool r) { s with toks := tk }) : wpAny (model prog w) A (compareOp .Eq x y) Q E s := by
  rcases inv_eq hq with ⟨i, j, rfl, rfl, p⟩ | ⟨i, j, rfl, rfl, p⟩ | ⟨n, n', rfl, rfl, ⟨xs, e1, e2, hf⟩, p⟩
  · obtain ⟨t, rfl⟩ := hx.ii
    obtain ⟨u, rfl⟩ := hy.ii
    exact eq_int (dec_eqI i j ▸ h _ s.toks p)
  · obtain ⟨t, rfl⟩ := hx.ss
    obtain ⟨u, rfl⟩ := hy.ss
    exact PyProof.Rows.eq_str (dec_eqS i j ▸ h _ s.toks p)
  · obtain ⟨x1, d1, vs, k1, rfl, _, L1, V1, _⟩ := R.isList hx e1
    obtain ⟨x2, d2, ws, k2, rfl, _, L2, V2, _⟩ := R.isList hy e2
    refine SeqAt.eq_listAt L1.isList L2.isList (by rw [List.size_toArray, List.size_toArray, ← V1.length, ← V2.length]) K.cl (eqs_flat (A := A.in1) K.cl1 hf V1 V2) ?_
    rw [show (List.range vs.toArray.size).all (fun _ => true) = true from List.all_eq_true.mpr fun _ _ => rfl]
    exact h _ s.toks p
theorem op_cmp {o : Cmp} {op : CmpOp} {a b : AV} {x y : Value} {P : Bool → Prop} {Q : Value → Shared → Prop} (K : AOk A d) (hm : sysModules < base.objs.size) (ho : cmpIs o op = true) (R : Rel prog w cl base ρ σ s.heap)
    (hx : VRel ρ s.heap a x) (hy : VRel ρ s.heap b y) (hq : wpCmp o a b σ P) (h : ∀ r tk, P r → Q (.bool r) { s with toks := tk }) : wpAny (model prog w) A (compareOp op x y) Q E s := by
  rw [cmpIs_e ho]
  cases o
  · exact op_eq K R hx hy hq h
  · exact op_ne K R hx hy hq h
  · obtain ⟨i, j, rfl, rfl, p⟩ := inv_lt hq
    obtain ⟨t, rfl⟩ := hx.ii
    obtain ⟨u, rfl⟩ := hy.ii
    exact lt_int (h _ s.toks p)
  · obtain ⟨i, j, rfl, rfl, p⟩ := inv_gt hq
    obtain ⟨t, rfl⟩ := hx.ii
    obtain ⟨u, rfl⟩ := hy.ii
    exact gt_int (h _ s.toks p)
  · obtain ⟨i, j, rfl, rfl, p⟩ := inv_ge hq
    obtain ⟨t, rfl⟩ := hx.ii
    obtain ⟨u, rfl⟩ := hy.ii
    exact ge_int (h _ s.toks p)
  · obtain ⟨rfl, p⟩ := inv_is hq
    rw [hy.nn]
    rcases p with ⟨rfl, p⟩ | ⟨n, rfl, p⟩
    · rw [hx.nn]; exact is_none (h _ s.toks p)
    · obtain ⟨x1, d1, _, rfl⟩ := hx.rr; exact is_none (h _ s.toks p)
  · obtain ⟨rfl, p⟩ := inv_isnot hq
    rw [hy.nn]
    rcases p with ⟨rfl, p⟩ | ⟨n, rfl, p⟩
    · rw [hx.nn]; exact isNot_none (h _ s.toks p)
    · obtain ⟨x1, d1, _, rfl⟩ := hx.rr; exact isNot_none (h _ s.toks p)
  · obtain ⟨k, n, es, fz, rfl, rfl, e, p⟩ := inv_isin hq
    obtain ⟨x1, d1, o, kvs, rfl, _, ho, hD, hp, _, hlo⟩ := R.isDict hy e
    obtain ⟨t, rfl⟩ := hx.ii
    exact wpAny_in_of (intKind_is prog w _ _) (notModules hm hlo) (Heap.dictOf_iff.mpr ⟨o, ho, hD⟩ : s.heap.DictOf (intKind prog w) x1 kvs).mapOf (by rw [hp.isSome]; exact h _ _ p)
  · obtain ⟨k, n, es, fz, rfl, rfl, e, p⟩ := inv_notin hq
    obtain ⟨x1, d1, o, kvs, rfl, _, ho, hD, hp, _, hlo⟩ := R.isDict hy e
    obtain ⟨t, rfl⟩ := hx.ii
    exact wpAny_notIn_of (intKind_is prog w _ _) (notModules hm hlo) (Heap.dictOf_iff.mpr ⟨o, ho, hD⟩ : s.heap.DictOf (intKind prog w) x1 kvs).mapOf (by rw [hp.isSome]; exact h _ _ p)

theorem op_truthy {a : AV} {x : Value} {t : Bool} {Q : Bool → Shared → Prop} (R : Rel prog w cl base ρ σ s.heap) (hx : VRel ρ s.heap a x) (e : truthy a σ = some t) (h : ∀ tk, Q t { s with toks := tk }) :
    wpAny (model prog w) A (PySem.truthy x) Q E s := by
  rcases truthy_inv e with rfl | ⟨n, xs, rfl, hn, rfl⟩
  · rw [hx.bb]; exact wpAny_truthy_bool (h s.toks)
  · obtain ⟨x1, d1, vs, k1, rfl, _, L1, V1, hl⟩ := R.isList hx hn
    refine wpAny_truthy_list L1.isList (by rw [List.size_toArray, ← V1.length]; exact small63 hl) ?_
    have : (!vs.toArray.isEmpty) = !xs.isEmpty := by
      cases xs with
      | nil => rw [V1.n0]; rfl
      | cons a xs => obtain ⟨v, ws, rfl, _⟩ := V1.cc; rfl
    rw [this]; exact h _
end
end Gc
end
/- GcB6 -/
section
set_option maxRecDepth 100000
namespace Gc
open PySem PySem.W PySem.Calls PyProof.Rows

theorem runs_size {M : Model} {Γ : Ctx} {p : Pos} {t : Sem Fin} {fs : List Frame} {s s' : Shared} {e : End} (h : Runs M Γ p t fs s e s') : s.heap.objs.size ≤ s'.heap.objs.size := by
  induction h <;> (try simp only [Shared.setGen, Heap.size_push, Heap.size_after_update] at *) <;> lia

theorem wakes_size {M : Model} {Γ : Ctx} {p : Pos} {g : Nat} {r : Resume} {s s' : Shared} {res : GenResult} (h : Wakes M Γ p g r s res s') : s.heap.objs.size ≤ s'.heap.objs.size := by
  unfold Wakes at h
  split at h
  · exact h.elim
  · split at h
    · obtain ⟨e₁, s₁, hr, _, _, rfl⟩ := h; exact (runs_size hr : (s.setGen g .running).heap.objs.size ≤ s₁.heap.objs.size)
    · rw [h.2]; exact Nat.le_refl _
    · rw [h.2]; exact Nat.le_refl _
  · obtain ⟨e₁, s₁, hr, _, _, rfl⟩ := h; exact (runs_size hr : (s.setGen g .running).heap.objs.size ≤ s₁.heap.objs.size)
  · rw [h.2]; exact Nat.le_refl _
  · rw [h.2]; exact Nat.le_refl _

theorem wp_size {α : Type} (M : Model) (Γ : Ctx) (n : Nat) (t : Sem α) : ∀ (Q : α → Pos → Shared → Prop) (E : Value → Pos → Shared → Prop) (p : Pos) (s : Shared), n ≤ s.heap.objs.size → Sem.wp M Γ t Q E p s →
    Sem.wp M Γ t (fun a p' s' => n ≤ s'.heap.objs.size ∧ Q a p' s') E p s := by
  induction t with
  | pure a => intro Q E p s hn h; exact ⟨hn, h⟩
  | raise e | unsupported _ | finish _ | register _ _ | yield _ _ _ _ | fork _ _ | await _ _ _ _ _ => intro Q E p s _ h; exact h
  | rule _ k ih => intro Q E p s hn h; exact ih () Q E p s hn h
  | «at» p' k ih => intro Q E p s hn h; exact ih () Q E p' s hn h
  | load a _ k ih => intro Q E p s hn ⟨o, ho, h⟩; exact ⟨o, ho, ih o Q E p s hn h⟩
  | update a _ f k ih => intro Q E p s hn h; exact ⟨h.1, ih () Q E p _ (by rw [Heap.size_after_update]; exact hn) h.2⟩
  | alloc o k ih => intro Q E p s hn h; exact ih _ Q E p _ (by rw [Heap.size_push]; exact Nat.le_succ_of_le hn) h
  | choose src m k ih => intro Q E p s hn h; exact ⟨h.1, ih _ Q E p _ hn h.2⟩
  | call c hd _ _ k ih => intro Q E p s hn ⟨r, s', hr, h⟩; exact ⟨r, s', hr, ih r Q E p s' (Nat.le_trans hn (runs_size hr)) h⟩
  | genState g k ih => intro Q E p s hn ⟨st, hs, h⟩; exact ⟨st, hs, ih _ Q E p s hn h⟩
  | resume g r _ k ih => intro Q E p s hn ⟨res, s', hw, h⟩; exact ⟨res, s', hw, ih res Q E p s' (Nat.le_trans hn (wakes_size hw)) h⟩
  | loadIfAlive a k ih => intro Q E p s hn h; exact ih _ Q E p _ hn h
  | point _ k ih => intro Q E p s hn h; exact ih _ Q E p _ hn h
  | fresh k ih => intro Q E p s hn h; exact ih _ Q E p _ hn h
  | ask k ih => intro Q E p s hn h; exact ih _ Q E p _ hn h
  | os q _ k ih => intro Q E p s hn h; exact ih _ Q E p _ hn h
  | handled own k ih => intro Q E p s hn h; exact ih _ Q E p _ hn h
  | newGen c k ih => intro Q E p s hn h; exact ih _ Q E p _ hn h
  | stack k ih => intro Q E p s hn h; exact ih _ Q E p _ hn h
  | thread k ih => intro Q E p s hn h; exact ih _ Q E p _ hn h

section
variable {M : Model} {A : Around} {E : Value → Shared → Prop} {s : Shared}
theorem wpAny_sized {α : Type} {t : Sem α} {Q : α → Shared → Prop} (h : wpAny M A t (fun a s' => s.heap.objs.size ≤ s'.heap.objs.size → Q a s') E s) : wpAny M A t Q E s :=
  fun Γ p hΓ => Sem.wp_mono M Γ t (fun _ _ _ x => x.2 x.1) (fun _ _ _ x => x) _ _ (wp_size M Γ _ t _ _ p s (Nat.le_refl _) (h Γ p hΓ))
end
end Gc
end
/- GcB7 -/
section
set_option maxRecDepth 100000
namespace Gc
open PySem PySem.W PySem.Calls PyProof.Rows

/- sorting -/
theorem ins_perm (x : Int) : ∀ l : List Int, (isort.ins x l).Perm (x :: l)
  | [] => .refl _
  | y :: r => by
    unfold isort.ins
    split
    · exact .refl _
    · exact ((ins_perm x r).cons y).trans (.swap x y r)
theorem isort_perm : ∀ l : List Int, (isort l).Perm l
  | [] => .refl _
  | x :: r => (ins_perm x (isort r)).trans ((isort_perm r).cons x)
theorem ins_sorted (x : Int) : ∀ l : List Int, l.Pairwise (· ≤ ·) → (isort.ins x l).Pairwise (· ≤ ·)
  | [], _ => List.pairwise_singleton _ _
  | y :: r, h => by
    unfold isort.ins
    have h' := List.pairwise_cons.mp h
    split
    · rename_i q
      exact List.pairwise_cons.mpr ⟨fun z hz => by
        rcases List.mem_cons.mp hz with rfl | hz
        · exact q
        · have := h'.1 z hz; lia, h⟩
    · rename_i q
      exact List.pairwise_cons.mpr ⟨fun z hz => by
        rcases List.mem_cons.mp ((ins_perm x r).mem_iff.mp hz) with rfl | hz
        · lia
        · exact h'.1 z hz, ins_sorted x r h'.2⟩
theorem isort_sorted : ∀ l : List Int, (isort l).Pairwise (· ≤ ·)
  | [] => .nil
  | x :: r => ins_sorted x _ (isort_sorted r)
theorem sorted_eq {a b : List Int} (p : a.Perm b) (ha : a.Pairwise (· ≤ ·)) (hb : b.Pairwise (· ≤ ·)) : a = b := by
  induction a generalizing b with
  | nil => exact (List.nil_perm.mp p).symm
  | cons x r ih =>
    cases b with
    | nil => exact absurd (List.perm_nil.mp p) (by simp)
    | cons y t =>
      have a1 := List.pairwise_cons.mp ha
      have b1 := List.pairwise_cons.mp hb
      have e : x = y := by
        have h1 : x = y ∨ y ≤ x := by
          rcases List.mem_cons.mp (p.mem_iff.mp (.head _)) with e | e
          · exact .inl e
          · exact .inr (b1.1 x e)
        have h2 : y = x ∨ x ≤ y := by
          rcases List.mem_cons.mp (p.mem_iff.mpr (.head _)) with e | e
          · exact .inl e
          · exact .inr (a1.1 y e)
        lia
      subst e
      rw [ih ((List.perm_cons x).mp p) a1.2 b1.2]
theorem isort_eq {a b : List Int} (p : a.Perm b) (ha : a.Pairwise (· ≤ ·)) : a = isort b := sorted_eq (p.trans (isort_perm b).symm) ha (isort_sorted b)

section
variable {prog : Program} {w : World} {cl : String → Nat} {base : Heap} {A : Around} {E : Value → Shared → Prop} {s : Shared} {ρ : Rho} {σ : Sto} {d : Nat}

noncomputable def Post (prog : Program) (w : World) (cl : String → Nat) (base : Heap) (ρ : Rho) (σ : Sto) (s : Shared) (P : AV → Sto → Prop) (Q : Value → Shared → Prop) : Prop :=
  ∀ r rv ρ' σ' s', P r σ' → Same s s' → Rel prog w cl base ρ' σ' s'.heap → Step No ρ σ s.heap ρ' σ' s'.heap → VRel ρ' s'.heap r rv → Q rv s'

theorem VRels.ints {h : Heap} {ns : List Int} {vs : List Value} (r : VRels ρ h (ns.map .int) vs) : IntsAre vs ns := by
  induction ns generalizing vs with
  | nil => rw [r.n0]; exact .nil
  | cons n ns ih => obtain ⟨v, ws, rfl, p, q⟩ := r.cc; obtain ⟨t, rfl⟩ := p.ii; exact .cons _ _ (ih q)
theorem VRels.ofInts {h : Heap} {ns : List Int} {vs : List Value} (r : IntsAre vs ns) : VRels ρ h (ns.map .int) vs := by
  induction r with
  | nil => exact .nil
  | cons n t _ ih => exact .cons (.int n t) ih
theorem VRels.bools {h : Heap} {bs : List Bool} {vs : List Value} (r : VRels ρ h (bs.map .bool) vs) : LSm.BoolsAre vs bs := by
  induction bs generalizing vs with
  | nil => rw [r.n0]; exact .nil
  | cons b bs ih => obtain ⟨v, ws, rfl, p, q⟩ := r.cc; rw [p.bb]; exact .cons _ (ih q)
theorem PairsR.vals {h : Heap} {es : List (Int × AV)} {kvs : List (Int × Value)} (r : PairsR ρ h es kvs) : VRels ρ h (es.map (·.2)) (kvs.map (·.2)) := by
  induction r with
  | nil => exact .nil
  | cons p _ ih => exact .cons p ih
theorem PairsR.keys {h : Heap} {es : List (Int × AV)} {kvs : List (Int × Value)} (r : PairsR ρ h es kvs) : kvs.map (·.1) = es.map (·.1) := by
  induction r with
  | nil => rfl
  | cons p _ ih => simp [ih]
theorem ints_of : ∀ {ns : List Int} {vs : List Value}, vs.length = ns.length → (∀ (j : Nat) (v : Value), vs[j]? = some v → ∃ n, ns[j]? = some n ∧ ∃ t, v = .int n t) → IntsAre vs ns
  | [], [], _, _ => .nil
  | [], _ :: _, e, _ => by cases e
  | _ :: _, [], e, _ => by cases e
  | n :: ns, v :: vs, e, h => by
    obtain ⟨n', e1, t, rfl⟩ := h 0 v rfl
    cases e1
    exact .cons _ _ (ints_of (by simpa using e) fun j v e => h (j + 1) v e)

theorem Rel.newList {xs : List AV} {vs : List Value} {x n : Nat} {P : AV → Sto → Prop} {Q : Value → Shared → Prop} {s' : Shared} (R : Rel prog w cl base ρ σ s.heap) (hn : wpNew σ (.list xs) fun n σ' => P (.ref n) σ') (hl : xs.length ≤ lim) (hx : s.heap.objs.size ≤ x)
    (hk : ∀ (b : Nat) o, s.heap.get? b = some o → s'.heap.get? b = some o) (hL : IsL s'.heap x vs.toArray n) (hv : VRels ρ s.heap xs vs) (hs : Same s s') (h : Post prog w cl base ρ σ s P Q) : Q (.ref x) s' := by
  have hlt' := hlt hL
  obtain ⟨a, σ', ρ', p, _, _, _, e, R', st⟩ := R.new (x := x) (d := x) hn hx hx hlt' hlt' hk (by lia) fun ρ' u => ⟨hl, vs, n, hL, hv.up u⟩
  exact h _ _ ρ' σ' _ p hs R' st (.ref e)

theorem Post.self {P : AV → Sto → Prop} {Q : Value → Shared → Prop} {r : AV} {rv : Value} {s' : Shared} (R : Rel prog w cl base ρ σ s.heap) (h : Post prog w cl base ρ σ s P Q) (p : P r σ)
    (hk : ∀ (b : Nat) o, s.heap.get? b = some o → s'.heap.get? b = some o) (sz : s.heap.objs.size ≤ s'.heap.objs.size) (hs : Same s s') (hv : VRel ρ s.heap r rv) : Q rv s' :=
  h _ _ ρ σ _ p hs (R.grown hk sz) (.pushed hk sz) (hv.up (Step.pushed (X := No) (σ := σ) hk sz).up0)

theorem op_bi {f : Bi} {a : AV} {x : Value} {P : AV → Sto → Prop} {Q : Value → Shared → Prop} (K : AOk A d) (hm : sysModules < base.objs.size) (R : Rel prog w cl base ρ σ s.heap) (hx : VRel ρ s.heap a x)
    (hq : wpBi f a σ P) (h : Post prog w cl base ρ σ s P Q) : wpAny (model prog w) A (call (.builtin f.name) [x]) Q E s := by
  have hlim := lim_is
  cases f with
  | len =>
    cases a with
    | ref n =>
      rcases hq with ⟨xs, e, p⟩ | ⟨es, fz, e, p⟩
      · obtain ⟨x1, d1, vs, k1, rfl, _, L1, V1, hl⟩ := R.isList hx e
        have l1 := V1.length
        refine call_len_list L1.isList (by rw [List.size_toArray]; lia) ?_
        rw [List.size_toArray, ← l1]
        exact h.self R p (fun _ _ e => e) (Nat.le_refl _) ⟨rfl, rfl, rfl⟩ (.int _ _)
      · obtain ⟨x1, d1, o, kvs, rfl, _, ho, hD, hp, hl, hlo⟩ := R.isDict hx e
        have l1 := hp.length
        refine call_len_dict (notModules hm hlo) (Heap.dictOf_iff.mpr ⟨o, ho, hD⟩ : s.heap.DictOf (intKind prog w) x1 kvs) (by lia) ?_
        rw [l1]
        exact h.self R p (fun _ _ e => e) (Nat.le_refl _) ⟨rfl, rfl, rfl⟩ (.int _ _)
    | _ => exact hq.elim
  | sorted =>
    cases a with
    | ref n =>
      obtain ⟨ns, h64, hs, hn⟩ := hq
      have len : (isort ns).length = ns.length := (isort_perm ns).length_eq
      rcases hs with e | ⟨es, fz, e, rfl⟩
      · obtain ⟨x1, d1, vs, k1, rfl, _, L1, V1, hl⟩ := R.isList hx e
        have hI := V1.ints
        refine sorted_ints L1.isList hI (by rw [hI.length]; exact h64) fun out ns' a1 a2 a3 => ?_
        obtain ⟨c, hc⟩ := sortedAll_at s.heap vs out
        have := isort_eq a2 a3
        subst this
        exact R.newList (vs := out.toList) (n := c) (x := s.heap.objs.size + 1) hn (by rw [List.length_map]; lia) (Nat.le_succ _) (fun b o e => sortedAll_old e) (by rw [Array.toArray_toList]; exact hc) (VRels.ofInts a1) ⟨rfl, rfl, rfl⟩ h
      · obtain ⟨x1, d1, o, kvs, rfl, _, ho, hD, hp, hl, hlo⟩ := R.isDict hx e
        have l1 := hp.length
        have hd : s.heap.DictOf (intKind prog w) x1 kvs := Heap.dictOf_iff.mpr ⟨o, ho, hD⟩
        obtain ⟨ep, hat⟩ := hd.dictAt
        show wpAny (model prog w) A (call (.builtin "sorted") [.ref x1]) Q E s
        refine call_function_entry kind_sorted plain_sorted entry_sorted (args_sorted1 _) ?_
        unfold Builtin.«sorted»
        refine wpAny_bind (m := checkCount "sorted" 1 1 _) (wpAny_pure ?_)
        rw [List.length_map] at h64
        have hsz := sizeLine_eq
        refine wpAny_bind (wpAny_sized (kdu_collect (A := A.in1) (kdl_dict (knd := intKind prog w) (kvs := kvs) (ep := ep) (notModules hm hlo)) K.handled hat (by lia) fun h' tk acc hk hacc sz => ?_))
        have hl : acc.toList.length = kvs.length := by rw [Array.length_toList]; exact hacc.1
        have hI : IntsAre acc.toList (es.map (·.1)) := by
          rw [← hp.keys]
          refine ints_of (by rw [hl, List.length_map]) fun j v ej => ?_
          obtain ⟨k, x, e1, e2⟩ := hacc.2 j v (by rw [← Array.getElem?_toList]; exact ej)
          refine ⟨k, by rw [List.getElem?_map, e1]; rfl, ?_⟩
          cases v with
          | int n t => simp [intKind, Value.isInt] at e2; exact ⟨t, by rw [e2]⟩
          | _ => simp [intKind, Value.isInt] at e2
        refine wpAny_bind (wpAny_newList ?_ (by rw [hl]; lia))
        have hoL : (h'.push { cls := .type "list", data := .seq acc.toList.toArray }).get? h'.objs.size = some (seqObj "list" acc.toList.toArray 0) := Heap.get?_push_size _ rfl
        refine wpAny_bind (wpAny_holding (wpAny_call_entry slot_list_sort ⟨_, hoL, rfl⟩ entry_list_sort (list_sort_tree hoL hI (by lia) fun out ns' a1 a2 a3 => ⟨_, rfl, ?_⟩) (args_list_sort _)))
        refine wpAny_pure ⟨_, rfl, ?_⟩
        obtain ⟨c, hc⟩ := sortedHeap_at (vs := acc.toList) (out := out) hoL
        have := isort_eq a2 a3
        subst this
        refine R.newList (vs := out.toList) (n := c) (x := h'.objs.size) hn (by rw [List.length_map]; rw [List.length_map] at len; lia) sz (fun b o e => ?_) (by rw [Array.toArray_toList]; exact hc) (VRels.ofInts a1) ⟨rfl, rfl, rfl⟩ h
        have b1 := hlt (hk _ _ e)
        rw [show ({ s with heap := sortedHeap (h'.push { cls := .type "list", data := .seq acc.toList.toArray }) h'.objs.size acc.toList out, toks := tk } : Shared).heap = sortedHeap (h'.push { cls := .type "list", data := .seq acc.toList.toArray }) h'.objs.size acc.toList out from rfl]
        rw [sortedHeap_old (Nat.ne_of_lt b1) (by rw [Heap.size_push]; exact Nat.lt_succ_of_lt b1)]
        exact Heap.get?_push_of_some _ (hk _ _ e)
    | _ => exact hq.elim
  | all =>
    cases a with
    | ref n =>
      obtain ⟨bs, e, p⟩ := hq
      obtain ⟨x1, d1, vs, k1, rfl, _, L1, V1, hl⟩ := R.isList hx e
      have hb := V1.bools
      have hlt' := hlt L1
      refine wpAny_sized (call_all_walk (wpAny_pyIter_list L1.isList ?_))
      refine ⟨s.heap.objs.size, [s.heap.objs.size, x1], [s.heap.objs.size], vs.toArray.size, _, _, fun i => (bs[i]?).getD true, rfl, Walks.list (A := A.in1) K.handled _ x1 (Nat.ne_of_lt hlt') vs.toArray,
        ⟨⟨_, Heap.get?_push_size _ rfl, rfl, rfl⟩, L1.isList.push _⟩, fun i v s' Q' E' hP hQ => ?_, fun h' tk hk sz => ?_⟩
      · obtain ⟨b, e, rfl⟩ := hb.get i v (by simpa using hP)
        simp only [e, Option.getD_some] at hQ
        exact wpAny_truthy_bool hQ
      · have e : ((List.range vs.toArray.size).all fun i => (bs[i]?).getD true) = bs.all id := by
          rw [List.size_toArray, hb.length]; exact LSm.range_all bs
        rw [e]
        exact h.self R p (LSm.kept_iter hk) sz ⟨rfl, rfl, rfl⟩ (.bool _)
    | _ => exact hq.elim
  | _ => exact hq.elim

theorem op_listOf {xs : List AV} {n : Name} {x : Value} {P : AV → Sto → Prop} {Q : Value → Shared → Prop} (R : Rel prog w cl base ρ σ s.heap) (hx : VRel ρ s.heap (.ref n) x) (e : σ n = some (.list xs))
    (hn : wpNew σ (.list xs) fun n σ' => P (.ref n) σ') (h : Post prog w cl base ρ σ s P Q) : wpAny (model prog w) A (call (.type "list") [x]) Q E s := by
  have hlim := lim_is
  have hsz := sizeLine_eq
  obtain ⟨x1, d1, vs, k1, rfl, _, L1, V1, hl⟩ := R.isList hx e
  have l1 := V1.length
  refine call_list_seq (hsz := by rw [List.size_toArray]; lia) x1 (.inl rfl) L1 rfl rfl fun h' c' hk hD => ?_
  exact R.newList hn hl (Nat.le_refl _) hk hD V1 ⟨rfl, rfl, rfl⟩ h

theorem op_listVals {es : List (Int × AV)} {fz : Bool} {n : Name} {x : Value} {v : Nat} {P : AV → Sto → Prop} {Q : Value → Shared → Prop} (K : AOk A d) (R : Rel prog w cl base ρ σ s.heap) (hx : VRel ρ s.heap (.ref n) x) (e : σ n = some (.dict es fz))
    (hv : ∃ x1 : Nat, x = .ref x1 ∧ s.heap.IsValuesView v x1)
    (hn : wpNew σ (.list (es.map (·.2))) fun n σ' => P (.ref n) σ') (h : Post prog w cl base ρ σ s P Q) : wpAny (model prog w) A (call (.type "list") [.ref v]) Q E s := by
  have hlim := lim_is
  have hsz := sizeLine_eq
  obtain ⟨x1, d1, o, kvs, rfl, _, ho, hD, hp, hl, hlo⟩ := R.isDict hx e
  obtain ⟨x2, e2, hv⟩ := hv
  cases e2
  have l1 := hp.length
  have hd : s.heap.DictOf (intKind prog w) x1 kvs := Heap.dictOf_iff.mpr ⟨o, ho, hD⟩
  obtain ⟨ep, hat⟩ := hd.dictAt
  refine kdl_call (kdl_values (knd := intKind prog w) (kvs := kvs) (ep := ep)) K.handled ⟨hv, hat⟩ (by lia) fun h' tk acc c hk hD hacc => ?_
  have e3 : acc.toList = kvs.map (·.2) := kdl_vals_eq _ (by rw [Array.length_toList]; exact hacc.1) fun j v e => hacc.2 j v (by rw [← Array.getElem?_toList]; exact e)
  refine R.newList (vs := kvs.map (·.2)) (n := c) hn (by rw [List.length_map]; exact hl) (Nat.le_refl _) hk ?_ hp.vals ⟨rfl, rfl, rfl⟩ h
  rw [← e3, Array.toArray_toList]
  exact hD
end
end Gc
end
/- GcB8 -/
section
set_option maxRecDepth 100000
namespace Gc
open PySem PySem.W PySem.Calls PyProof.Rows

noncomputable def methId : Meth → Bool → String
  | .append, _ => "list.append"
  | .extend, _ => "list.extend"
  | .pop, k => cond k "list.pop" "dict.pop"
  | .remove, _ => "list.remove"
  | .get, _ => "dict.get"
noncomputable def typeName : Bool → String
  | true => "list"
  | false => "dict"
section
variable {prog : Program} {w : World} {cl : String → Nat} {base : Heap} {A : Around} {E : Value → Shared → Prop} {s : Shared} {ρ : Rho} {σ : Sto} {d : Nat}

theorem kind_typeIs {a : AV} {x : Value} {k : Bool} (R : Rel prog w cl base ρ σ s.heap) (hx : VRel ρ s.heap a x) (e : kindOf a σ = some k) :
    s.TypeIs x (typeName k) ∧ ∀ b, x = .ref b → ∃ ob, s.heap.get? b = some ob ∧ ob.dict = none := by
  obtain ⟨n, rfl, ⟨xs, en, rfl⟩ | ⟨es, fz, en, rfl⟩⟩ := kindOf_inv e
  · obtain ⟨x1, d1, vs, k1, rfl, _, L1, V1, hl⟩ := R.isList hx en
    exact ⟨L1.isList.typeIs, fun b eb => by cases eb; exact ⟨_, L1, rfl⟩⟩
  · obtain ⟨x1, d1, o, kvs, rfl, _, ho, hD, hp, hl, hlo⟩ := R.isDict hx en
    have hd : s.heap.DictOf (intKind prog w) x1 kvs := Heap.dictOf_iff.mpr ⟨o, ho, hD⟩
    exact ⟨hd.typeIs, fun b eb => hd.mapOf.noDict b eb⟩

theorem meth_slot {m : Meth} {k : Bool} (h : methOn m k = true) : PlainAttrs (typeName k) ∧ Slot (typeName k) (S m.name) (methId m k) ∧ typeOf (.builtin (methId m k)) = pure (.type "method_descriptor") := by
  cases m <;> cases k <;> first | cases h | skip
  · exact ⟨PySem.F.plainAttrs_list, PySem.F.slot_list_append, PySem.F.type_list_append⟩
  · exact ⟨PySem.F.plainAttrs_list, PySem.F.slot_list_extend, PySem.F.type_list_extend⟩
  · exact ⟨PySem.F.plainAttrs_dict, PySem.F.slot_dict_pop, PySem.F.type_dict_pop⟩
  · exact ⟨PySem.F.plainAttrs_list, PySem.F.slot_list_pop, PySem.F.type_list_pop⟩
  · exact ⟨PySem.F.plainAttrs_list, PySem.F.slot_list_remove, PySem.F.type_list_remove⟩
  · exact ⟨PySem.F.plainAttrs_dict, PySem.F.slot_dict_get, PySem.F.type_dict_get⟩

theorem eraseIdx_last (xs : List Value) (w : Value) : (xs ++ [w]).toArray.eraseIdxIfInBounds ((xs ++ [w]).toArray.size - 1) = xs.toArray := by
  have : (xs ++ [w]).toArray.size - 1 = xs.length := by simp
  rw [this]
  unfold Array.eraseIdxIfInBounds
  rw [dif_pos (by simp)]
  simp [List.eraseIdx_append_of_length_le]
theorem eraseIdx_at (vs : List Value) (j : Nat) (h : j < vs.length) : vs.toArray.eraseIdxIfInBounds j = (vs.eraseIdx j).toArray := by
  unfold Array.eraseIdxIfInBounds
  rw [dif_pos (by simpa using h)]
  simp

theorem eraseIdx_mapped {α β : Type} (f : α → β) : ∀ (l : List α) (i : Nat), (l.eraseIdx i).map f = (l.map f).eraseIdx i
  | [], _ => by simp
  | _ :: _, 0 => by simp
  | _ :: r, i + 1 => by simp [eraseIdx_mapped f r i]
theorem VRels.eraseIdx {h : Heap} {avs : List AV} {vs : List Value} (i : Nat) (r : VRels ρ h avs vs) : VRels ρ h (avs.eraseIdx i) (vs.eraseIdx i) := by
  induction avs generalizing vs i with
  | nil => rw [r.n0]; exact .nil
  | cons a as ih =>
    obtain ⟨v, ws, rfl, p, q⟩ := r.cc
    cases i with
    | zero => exact q
    | succ i =>
      have := ih i q
      exact .cons p this

theorem Rel.listTurned {xs xs' : List AV} {vs vs' : List Value} {n : Name} {x d : Nat} {c : Nat} {P : AV → Sto → Prop} {Q : Value → Shared → Prop} {r : AV} {rv : Value} {tk : Nat} {f : Array Value → Array Value} (R : Rel prog w cl base ρ σ s.heap)
    (e : σ n = some (.list xs)) (hρ : ρ n = some (x, d)) (L : IsL s.heap x vs.toArray c) (hl : xs'.length ≤ lim) (hf : f vs.toArray = vs'.toArray) (hv : VRels ρ s.heap xs' vs') (hr : VRel ρ s.heap r rv)
    (p : P r (σ.set n (.list xs'))) (h : Post prog w cl base ρ σ s P Q) : Q rv { s with heap := s.heap.update x (Obj.mapSeq f), toks := tk } := by
  obtain ⟨R', st⟩ := R.turned (o' := .list xs') hρ (by rw [e]; rfl) (.inl rfl) (Heap.SameBut.update ..) (fun o e => by rw [L] at e; cases e; exact ne_lt)
    (fun u => ⟨hl, vs', _, by have := L.update f; rw [hf] at this; exact this, hv.up u⟩)
  exact h _ _ ρ _ _ p ⟨rfl, rfl, rfl⟩ R' st (hr.up st.up0)

theorem op_meth {m : Meth} {a : AV} {as : List AV} {k : Bool} {x : Value} {vs : List Value} {P : AV → Sto → Prop} {Q : Value → Shared → Prop} (hm : sysModules < base.objs.size) (R : Rel prog w cl base ρ σ s.heap) (hx : VRel ρ s.heap a x) (hvs : VRels ρ s.heap as vs)
    (ek : kindOf a σ = some k) (hq : wpMeth m a as σ P) (h : Post prog w cl base ρ σ s P Q) : wpAny (model prog w) A (call (.builtin (methId m k)) (x :: vs)) Q E s := by
  have hlim := lim_is
  have hsz := sizeLine_eq
  cases a with
  | ref n =>
    cases m with
    | append =>
      show wpAny _ _ (call (.builtin "list.append") _) _ _ _
      cases hvs with
      | nil => exact hq.elim
      | cons hv r =>
        cases r with
        | cons _ _ => exact hq.elim
        | nil =>
          obtain ⟨xs, e, hl, p⟩ := hq
          obtain ⟨x1, d1, ws, k1, rfl, hρ, L1, V1, _⟩ := R.isList hx e
          have l1 := V1.length
          refine call_meets PySem.F.slot_list_append ⟨_, L1, rfl⟩ PySem.F.entry_list_append (PySem.F.args_list_append_2 _ _) (PySem.list_append x1 ws.toArray k1 _ (by rw [List.size_toArray]; lia)) ⟨L1, ?_⟩
          exact R.listTurned (vs' := ws ++ [_]) e hρ L1 (by rw [List.length_append]; simp; lia) (by simp) (V1.append (.cons hv .nil)) .none p h
    | extend =>
      show wpAny _ _ (call (.builtin "list.extend") _) _ _ _
      cases hvs with
      | nil => exact hq.elim
      | cons hv r =>
        rename_i av v _ _
        cases r with
        | cons _ _ => cases av <;> exact hq.elim
        | nil =>
          cases av with
          | ref n2 =>
            obtain ⟨xs, ys, hne, e, e2, hl, p⟩ := hq
            obtain ⟨x1, d1, ws, k1, rfl, hρ, L1, V1, _⟩ := R.isList hx e
            obtain ⟨x2, d2, us, k2, rfl, hρ2, L2, V2, _⟩ := R.isList hv e2
            have l1 := V1.length
            have l2 := V2.length
            have hltl : Builtin.List.listTooLong (ws.toArray.size + us.toArray.size) = false := by
              unfold Builtin.List.listTooLong
              simp; lia
            refine call_meets PySem.F.slot_list_extend ⟨_, L1, rfl⟩ PySem.F.entry_list_extend (PySem.F.args_list_extend_2 _ _) (PySem.AutoSeq1.list_extend_list_list_0 x1 ws.toArray k1 x2 us.toArray k2 (by rw [hltl, Bool.and_false]; decide) (by rw [List.size_toArray]; lia) (by rw [List.size_toArray, List.size_toArray]; lia)) ⟨L1, L2, ?_⟩
            exact R.listTurned (vs' := ws ++ us) e hρ L1 (by rw [List.length_append]; lia) (by simp) (V1.append V2) .none p h
          | _ => exact hq.elim
    | pop =>
      cases hvs with
      | nil =>
        obtain ⟨xs, y, e, p⟩ := hq
        have hk : k = true := by unfold kindOf at ek; dsimp only at ek; rw [e] at ek; cases ek; rfl
        subst hk
        obtain ⟨x1, d1, ws, k1, rfl, hρ, L1, V1, hl⟩ := R.isList hx e
        obtain ⟨us, w1, rfl, V2, hw⟩ := V1.snocInv
        have l2 := V2.length
        rw [List.length_append] at hl
        refine call_meets PySem.F.slot_list_pop ⟨_, L1, rfl⟩ PySem.F.entry_list_pop (PySem.F.args_list_pop_1 _) (PySem.MeetsSeq.list_pop_last x1 (us ++ [w1]).toArray k1 w1 (by simp) (by rw [List.size_toArray, List.length_append]; simp; lia)) ⟨L1, ?_⟩
        exact R.listTurned (vs' := us) e hρ L1 (by lia) (eraseIdx_last us w1) V2 hw p h
      | cons hv r =>
        rename_i av v _ _
        cases r with
        | cons _ _ => cases av <;> exact hq.elim
        | nil =>
          cases av with
          | int key =>
            obtain ⟨es, y, e, hg, p⟩ := hq
            have hk : k = false := by unfold kindOf at ek; dsimp only at ek; rw [e] at ek; cases ek; rfl
            subst hk
            obtain ⟨x1, d1, o, kvs, rfl, hρ, ho, hD, hp, hl, hlo⟩ := R.isDict hx e
            cases hv
            rename_i t
            have l1 := hp.length
            obtain ⟨rv, e1, e2⟩ := (hp.find key).1 _ hg
            have hd : s.heap.DictOf (intKind prog w) x1 kvs := Heap.dictOf_iff.mpr ⟨o, ho, hD⟩
            refine call_meetsIn PySem.F.slot_dict_pop hd.typeIs PySem.F.entry_dict_pop (PySem.F.args_dict_pop_2 _ _) (meets_dict_pop_there (intKind prog w) x1 (intKind_is prog w key t) [] (.inl rfl) rfl) ⟨kvs, rv, hd, by lia, e1, fun h' hmm hs => ?_⟩
            obtain ⟨o', ho', hd'⟩ := Heap.dictOf_iff.mp hmm
            obtain ⟨R', st⟩ := R.turned (o' := .dict (ddel es key) false) hρ (by rw [e]; rfl) (.inl rfl) hs (fun o1 e1 => by obtain ⟨o2, e2, e3⟩ := hd.typeIs; rw [e1] at e2; cases e2; rw [e3]; exact ne_dt)
              (fun u => ⟨Nat.le_trans (ddel_length es key) hl, o', _, ho', hd', (hp.del key).up u⟩)
            exact h _ _ ρ _ _ p ⟨rfl, rfl, rfl⟩ R' st (e2.up st.up0)
          | _ => exact hq.elim
    | remove =>
      show wpAny _ _ (call (.builtin "list.remove") _) _ _ _
      cases hvs with
      | nil => exact hq.elim
      | cons hv r =>
        rename_i av v _ _
        cases r with
        | cons _ _ => cases av <;> exact hq.elim
        | nil =>
          cases av with
          | int key =>
            obtain ⟨ns, e, hin, p⟩ := hq
            obtain ⟨x1, d1, ws, k1, rfl, hρ, L1, V1, hl⟩ := R.isList hx e
            cases hv
            rename_i t
            have hI := V1.ints
            have l1 := hI.length
            rw [List.length_map] at hl
            have hj : ns.idxOf key < ns.length := List.idxOf_lt_length_of_mem hin
            let eqv : Value → Bool := fun y => match y with | .int n _ => n == key | _ => false
            have at' : ∀ (i : Nat) (hi : i < ws.toArray.size), ∃ n t, ns[i]? = some n ∧ ws.toArray[i] = .int n t := fun i hi => by
              have hi' : i < ns.length := by rw [List.size_toArray] at hi; lia
              obtain ⟨t, et⟩ := hI.get i ns[i] (List.getElem?_eq_getElem hi')
              refine ⟨ns[i], t, List.getElem?_eq_getElem hi', ?_⟩
              rw [List.getElem?_eq_getElem (by rw [List.size_toArray] at hi; exact hi)] at et
              simpa using et
            refine call_meets PySem.F.slot_list_remove ⟨_, L1, rfl⟩ PySem.F.entry_list_remove (PySem.F.args_list_remove_2 _ _)
              (PySem.MeetsSeq.list_remove x1 ws.toArray k1 (.int key t) eqv (fun y hy => ?_) (ns.idxOf key) (by rw [List.size_toArray]; lia) ?_ (fun i hi hlt' => ?_) (by rw [List.size_toArray]; lia)) ⟨L1, ?_⟩
            · obtain ⟨i, hi, rfl⟩ := Array.getElem_of_mem hy
              obtain ⟨n, t', _, e2⟩ := at' i hi
              rw [e2]
              exact PySem.MeetsSeq.EqGives.int n key t' t
            · obtain ⟨n, t', e1, e2⟩ := at' _ (show ns.idxOf key < ws.toArray.size by rw [List.size_toArray]; lia)
              rw [e2]
              rw [List.getElem?_eq_getElem hj, List.getElem_idxOf hj] at e1
              cases e1
              simp [eqv]
            · obtain ⟨n, t', e1, e2⟩ := at' i hi
              rw [e2]
              have hi' : i < ns.length := by rw [List.size_toArray] at hi; lia
              have := List.not_of_lt_findIdx (p := (· == key)) (xs := ns) (i := i) hlt'
              rw [List.getElem?_eq_getElem hi'] at e1
              cases e1
              simpa [eqv] using this
            · refine R.listTurned (xs' := (ns.erase key).map .int) (vs' := ws.eraseIdx (ns.idxOf key)) e hρ L1 (by rw [List.length_map]; have := List.length_erase_le (a := key) (l := ns); lia) (eraseIdx_at ws _ (by lia)) ?_ .none p h
              have := V1.eraseIdx (ns.idxOf key)
              rw [← eraseIdx_mapped, ← List.erase_eq_eraseIdx_of_idxOf rfl] at this
              exact this
          | _ => exact hq.elim
    | get =>
      show wpAny _ _ (call (.builtin "dict.get") _) _ _ _
      cases hvs with
      | nil => exact hq.elim
      | cons hv r =>
        rename_i av v _ _
        cases r with
        | nil =>
          cases av with
          | int key =>
            obtain ⟨es, fz, e, p⟩ := hq
            obtain ⟨x1, d1, o, kvs, rfl, hρ, ho, hD, hp, hl, hlo⟩ := R.isDict hx e
            cases hv
            rename_i t
            have hd : s.heap.DictOf (intKind prog w) x1 kvs := Heap.dictOf_iff.mpr ⟨o, ho, hD⟩
            refine call_meetsIn PySem.F.slot_dict_get hd.typeIs PySem.F.entry_dict_get (PySem.F.args_dict_get_2 _ _) (meets_dict_get (intKind prog w) x1 (intKind_is prog w key t) (notModules hm hlo)) ⟨_, hd.mapOf, ?_⟩
            refine h.self R p (fun _ _ e => e) (Nat.le_refl _) ⟨rfl, rfl, rfl⟩ ?_
            cases q : dget es key with
            | none => rw [(hp.find key).2 q]; exact .none
            | some av => obtain ⟨rv, e1, e2⟩ := (hp.find key).1 _ q; rw [e1]; exact e2
          | _ => exact hq.elim
        | cons hv2 r2 =>
          cases r2 with
          | cons _ _ => cases av <;> exact hq.elim
          | nil =>
            cases av with
            | int key =>
              obtain ⟨es, fz, e, p⟩ := hq
              obtain ⟨x1, d1, o, kvs, rfl, hρ, ho, hD, hp, hl, hlo⟩ := R.isDict hx e
              cases hv
              rename_i t
              have hd : s.heap.DictOf (intKind prog w) x1 kvs := Heap.dictOf_iff.mpr ⟨o, ho, hD⟩
              refine call_meetsIn PySem.F.slot_dict_get hd.typeIs PySem.F.entry_dict_get (PySem.F.args_dict_get_3 _ _ _) (meets_dict_get_default (intKind prog w) x1 (intKind_is prog w key t) (notModules hm hlo) _) ⟨_, hd.mapOf, ?_⟩
              refine h.self R p (fun _ _ e => e) (Nat.le_refl _) ⟨rfl, rfl, rfl⟩ ?_
              cases q : dget es key with
              | none => rw [(hp.find key).2 q]; exact hv2
              | some av => obtain ⟨rv, e1, e2⟩ := (hp.find key).1 _ q; rw [e1]; exact e2
            | _ => exact hq.elim
  | _ => cases ek

theorem op_setSub {a i av : AV} {x k v : Value} {P : Sto → Prop} {Q : Unit → Shared → Prop} (R : Rel prog w cl base ρ σ s.heap) (hx : VRel ρ s.heap a x) (hk : VRel ρ s.heap i k) (hv : VRel ρ s.heap av v)
    (hq : wpSetSub a i av σ P) (h : ∀ ρ' σ' s', P σ' → Same s s' → Rel prog w cl base ρ' σ' s'.heap → Step No ρ σ s.heap ρ' σ' s'.heap → Q () s') : wpAny (model prog w) A (setItem x k v) Q E s := by
  have hlim := lim_is
  have hsz := sizeLine_eq
  cases a with
  | ref n =>
    cases i with
    | int key =>
      obtain ⟨es, e, hl, p⟩ := hq
      obtain ⟨x1, d1, o, kvs, rfl, hρ, ho, hD, hp, _, hlo⟩ := R.isDict hx e
      cases hk
      rename_i t
      have l1 := hp.length
      have hd : s.heap.DictOf (intKind prog w) x1 kvs := Heap.dictOf_iff.mpr ⟨o, ho, hD⟩
      refine wpAny_setItem_pairs (intKind_is prog w key t) hd (fun h' hmm hs => ?_) (by lia)
      obtain ⟨o', ho', hd'⟩ := Heap.dictOf_iff.mp hmm
      have := dset_length es key av
      obtain ⟨R', st⟩ := R.turned (o' := .dict (dset es key av) false) hρ (by rw [e]; rfl) (.inl rfl) hs (fun o1 e1 => by obtain ⟨o2, e2, e3⟩ := hd.typeIs; rw [e1] at e2; cases e2; rw [e3]; exact ne_dt)
        (fun u => ⟨by lia, o', _, ho', hd', (hp.set key hv).up u⟩)
      exact h ρ _ _ p ⟨rfl, rfl, rfl⟩ R' st
    | _ => exact hq.elim
  | _ => cases i <;> exact hq.elim

theorem op_delSub {a i : AV} {x k : Value} {P : Sto → Prop} {Q : Unit → Shared → Prop} (R : Rel prog w cl base ρ σ s.heap) (hx : VRel ρ s.heap a x) (hk : VRel ρ s.heap i k)
    (hq : wpDelSub a i σ P) (h : ∀ ρ' σ' s', P σ' → Same s s' → Rel prog w cl base ρ' σ' s'.heap → Step No ρ σ s.heap ρ' σ' s'.heap → Q () s') : wpAny (model prog w) A (delItem x k) Q E s := by
  have hlim := lim_is
  have hsz := sizeLine_eq
  cases a with
  | ref n =>
    cases i with
    | int key =>
      obtain ⟨es, e, hin, p⟩ := hq
      obtain ⟨x1, d1, o, kvs, rfl, hρ, ho, hD, hp, hl, hlo⟩ := R.isDict hx e
      cases hk
      rename_i t
      have l1 := hp.length
      have hd : s.heap.DictOf (intKind prog w) x1 kvs := Heap.dictOf_iff.mpr ⟨o, ho, hD⟩
      unfold delItem
      try with_reducible refine wpAny_holding ?_
      refine wpAny_bind (wpAny_sequenceKey hd.typeIs (by decide) ?_)
      refine wpAny_bind (wpAny_callSpecial?_slot (name := Str.ofString "__delitem__") hd.typeIs PySem.F.slot_dict_delitem
        (call_meetsIn PySem.F.slot_dict_delitem hd.typeIs PySem.F.entry_dict_delitem (PySem.F.args_dict_delitem_2 _ _) (meets_dict_delitem_pairs (intKind prog w) x1 (intKind_is prog w key t)) ⟨kvs, hd, by lia, by rw [hp.isSome]; exact hin, fun h' hmm hs => ?_⟩))
      obtain ⟨o', ho', hd'⟩ := Heap.dictOf_iff.mp hmm
      obtain ⟨R', st⟩ := R.turned (o' := .dict (ddel es key) false) hρ (by rw [e]; rfl) (.inl rfl) hs (fun o1 e1 => by obtain ⟨o2, e2, e3⟩ := hd.typeIs; rw [e1] at e2; cases e2; rw [e3]; exact ne_dt)
        (fun u => ⟨Nat.le_trans (ddel_length es key) hl, o', _, ho', hd', (hp.del key).up u⟩)
      exact wpAny_pure (h ρ _ _ p ⟨rfl, rfl, rfl⟩ R' st)
    | _ => exact hq.elim
  | _ => cases i <;> exact hq.elim
end
end Gc
end
/- GcB9 -/
section
set_option maxRecDepth 100000
namespace Gc
open PySem PySem.W PySem.Calls PyProof.Rows

structure Prg (prog : Program) (w : World) (cl fa : String → Nat) (base : Heap) (K : Frag) : Prop where
  X : K.In base
  T : ∃ p loose mg mb, TopRead p loose mg mb base
  hm : sysModules < base.objs.size
  fn : ∀ f ∈ fnNames, nsIn K mainGlobals (S f) = some (some (.ref (fa f))) ∧ keepIn K (.ref (fa f)) = true
  cls : ∀ c ∈ clsNames, ClsOK K (cl c) c
  bi : ∀ x ∈ ["len", "sorted", "reversed", "all", "range", "list"], nsIn K mainGlobals (S x) = some none

section
variable {prog : Program} {w : World} {cl fa : String → Nat} {base : Heap} {K : Frag} {F : FnSem} {d : Nat}

noncomputable def FnOK (prog : Program) (w : World) (cl fa : String → Nat) (base : Heap) (d : Nat) (F : FnSem) : Prop :=
  ∀ ⦃A : Around⦄ ⦃f : String⦄ ⦃vs : List AV⦄ ⦃σ : Sto⦄ ⦃Q : AV → Sto → Prop⦄ ⦃ρ : Rho⦄ ⦃s : Shared⦄ ⦃xs : List Value⦄ ⦃E Qv : Value → Shared → Prop⦄, AOk A d → Rel prog w cl base ρ σ s.heap → VRels ρ s.heap vs xs → F f vs σ Q →
    Post prog w cl base ρ σ s Q Qv → f ∈ fnNames → wpAny (model prog w) A (call (.ref (fa f)) xs) Qv E s
noncomputable def MkOK (prog : Program) (w : World) (cl : String → Nat) (base : Heap) (d : Nat) (F : FnSem) : Prop :=
  ∀ ⦃A : Around⦄ ⦃c : String⦄ ⦃vs : List AV⦄ ⦃σ : Sto⦄ ⦃Q : AV → Sto → Prop⦄ ⦃ρ : Rho⦄ ⦃s : Shared⦄ ⦃xs : List Value⦄ ⦃E Qv : Value → Shared → Prop⦄, AOk A d → Rel prog w cl base ρ σ s.heap → VRels ρ s.heap vs xs → c ∈ clsNames →
    (wpNew σ (.inst c []) fun n σ'' => F (c ++ ".__init__") (.ref n :: vs) σ'' fun r τ => r = .none ∧ Q (.ref n) τ) → Post prog w cl base ρ σ s Q Qv → wpAny (model prog w) A (call (.ref (cl c)) xs) Qv E s

noncomputable def PostB (prog : Program) (w : World) (cl : String → Nat) (base : Heap) (ρ : Rho) (σ : Sto) (s : Shared) (P : Bool → Sto → Prop) (Q : Bool → Shared → Prop) : Prop :=
  ∀ b ρ' σ' s', P b σ' → Same s s' → Rel prog w cl base ρ' σ' s'.heap → Step No ρ σ s.heap ρ' σ' s'.heap → Q b s'
noncomputable def PostL (prog : Program) (w : World) (cl : String → Nat) (base : Heap) (ρ : Rho) (σ : Sto) (s : Shared) (P : List AV → Sto → Prop) (Q : List Value → Shared → Prop) : Prop :=
  ∀ vs xs ρ' σ' s', P vs σ' → Same s s' → Rel prog w cl base ρ' σ' s'.heap → Step No ρ σ s.heap ρ' σ' s'.heap → VRels ρ' s'.heap vs xs → Q xs s'

noncomputable def SE (prog : Program) (w : World) (cl : String → Nat) (base : Heap) (d : Nat) (F : FnSem) (e : Ex) : Prop :=
  ∀ ⦃A : Around⦄ ⦃env : Env⦄ ⦃nm : Nm⦄ ⦃m : Loc⦄ ⦃ρ : Rho⦄ ⦃σ : Sto⦄ ⦃s : Shared⦄ ⦃E Qv : Value → Shared → Prop⦄ ⦃Q : AV → Sto → Prop⦄ ⦃t : PySem.Expr⦄, AOk A d → chkE nm e t = true → Stt prog w cl base env nm m ρ σ s.heap → wpE F e m σ Q →
    Post prog w cl base ρ σ s Q Qv → wpAny (model prog w) A (eval t env) Qv E s
noncomputable def ST (prog : Program) (w : World) (cl : String → Nat) (base : Heap) (d : Nat) (F : FnSem) (e : Ex) : Prop :=
  ∀ ⦃A : Around⦄ ⦃env : Env⦄ ⦃nm : Nm⦄ ⦃m : Loc⦄ ⦃ρ : Rho⦄ ⦃σ : Sto⦄ ⦃s : Shared⦄ ⦃E : Value → Shared → Prop⦄ ⦃Qv : Bool → Shared → Prop⦄ ⦃Q : Bool → Sto → Prop⦄ ⦃t : PySem.Expr⦄, AOk A d → chkE nm e t = true → Stt prog w cl base env nm m ρ σ s.heap → wpT F e m σ Q →
    PostB prog w cl base ρ σ s Q Qv → wpAny (model prog w) A (isTrue t env (eval t env)) Qv E s
noncomputable def SEs (prog : Program) (w : World) (cl : String → Nat) (base : Heap) (d : Nat) (F : FnSem) (es : Exs) : Prop :=
  ∀ ⦃A : Around⦄ ⦃env : Env⦄ ⦃nm : Nm⦄ ⦃m : Loc⦄ ⦃ρ : Rho⦄ ⦃σ : Sto⦄ ⦃s : Shared⦄ ⦃E : Value → Shared → Prop⦄ ⦃Qv : List Value → Shared → Prop⦄ ⦃Q : List AV → Sto → Prop⦄ ⦃ts : List PySem.Expr⦄ ⦃pos : Pos⦄, AOk A d → chkEs nm es ts = true → Stt prog w cl base env nm m ρ σ s.heap → wpEs F es m σ Q →
    PostL prog w cl base ρ σ s Q (fun xs s' => xs.length = ts.length → Qv xs s') → wpAny (model prog w) A (spliced (backTo pos (starEach ts env))) Qv E s

section
variable {A : Around} {env : Env} {nm : Nm} {m : Loc} {ρ : Rho} {σ : Sto} {s : Shared} {E Qv : Value → Shared → Prop} {Q : AV → Sto → Prop}

theorem Post.then {ρ' : Rho} {σ' : Sto} {s' : Shared} {P : AV → Sto → Prop} {Qv : Value → Shared → Prop} (h : Post prog w cl base ρ σ s P Qv) (sm : Same s s') (st : Step No ρ σ s.heap ρ' σ' s'.heap) : Post prog w cl base ρ' σ' s' P Qv :=
  fun r rv ρ'' σ'' s'' p sm' R' st' hv => h r rv ρ'' σ'' s'' p (sm.trans sm') R' (st.trans st') hv
theorem PostB.then {ρ' : Rho} {σ' : Sto} {s' : Shared} {P : Bool → Sto → Prop} {Qv : Bool → Shared → Prop} (h : PostB prog w cl base ρ σ s P Qv) (sm : Same s s') (st : Step No ρ σ s.heap ρ' σ' s'.heap) : PostB prog w cl base ρ' σ' s' P Qv :=
  fun r ρ'' σ'' s'' p sm' R' st' => h r ρ'' σ'' s'' p (sm.trans sm') R' (st.trans st')
theorem base_of {o : PySem.Expr} (hb : baseOk o = true) (name : PySem.Str) : attributeBase o name env (eval o env) = eval o env := by
  cases o with
  | Call g as ks p =>
    cases g with
    | Name id q =>
      cases as with
      | nil =>
        cases ks with
        | nil => exact nomatch hb
        | cons _ _ => rfl
      | cons _ _ => rfl
    | _ => rfl
  | _ => rfl

theorem snd_cst {c : AV} : SE prog w cl base d F (.cst c) := by
  intro A env nm m ρ σ s E Qv Q t _ hc Z hq h
  refine xCst_e hc fun k n p hc => ?_
  have sf : ∀ {r rv tk}, VRel ρ s.heap r rv → Q r σ → Qv rv { s with toks := tk } := fun hv p => h.self Z.rel p (fun _ _ e => e) (Nat.le_refl _) ⟨rfl, rfl, rfl⟩ hv
  have sf0 : ∀ {r rv}, VRel ρ s.heap r rv → Q r σ → Qv rv s := fun hv p => h.self Z.rel p (fun _ _ e => e) (Nat.le_refl _) ⟨rfl, rfl, rfl⟩ hv
  cases c with
  | none => exact noneIs_e hc (wpAny_Constant_none (sf0 .none hq))
  | bool b => exact boolIs_e hc (wpAny_Constant_bool (sf0 (.bool _) hq))
  | int i => exact intIs_e hc (wpAny_Constant_int (sf (.int _ _) hq))
  | str x => exact strIs_e hc (wpAny_Constant_str (sf (.str _ _) hq))
  | _ => exact Bool.noConfusion hc

theorem snd_var {x : String} : SE prog w cl base d F (.var x) := by
  intro A env nm m ρ σ s E Qv Q t _ hc Z hq h
  refine xName_e hc fun id p hc => band3 hc fun h0 h1 h2 => beq_e h0 ?_
  · obtain ⟨v, e, p⟩ := vcase_iff.mp hq
    exact op_var Z h1 h2 e fun rv hv => h.self Z.rel p (fun _ _ e => e) (Nat.le_refl _) ⟨rfl, rfl, rfl⟩ hv

theorem attrs_cls {c a : String} (h : a ∈ attrsOf c) : c ∈ clsNames := by
  unfold attrsOf at h
  split at h <;> simp_all [clsNames]
theorem snd_attr {e : Ex} {a : String} (PR : Prg prog w cl fa base K) (ih : SE prog w cl base d F e) : SE prog w cl base d F (.attr e a) := by
  intro A env nm m ρ σ s E Qv Q t hA hc Z hq h
  refine xAttr_e hc fun o n p hc => band3 hc fun h0 h1 h2 => beq_e h0 ?_
  · refine Attribute_any_ ?_ ?_
    · refine ih hA h2 Z hq fun v rv ρ' σ' s' p sm R st hv => ?_
      obtain ⟨r, e1, q⟩ := p
      obtain ⟨n, c, fs, rfl, e2, e3, e4⟩ := getsAttr_inv e1
      refine op_getAttr R PR.X (PR.cls c (attrs_cls e4)) hv e2 e4 e3 fun rv' hv' => ?_
      exact (h.then sm st).self R q (fun _ _ e => e) (Nat.le_refl _) ⟨rfl, rfl, rfl⟩ hv'
    · rw [arm_eval_Attribute, base_of h1]

theorem notStar {e : Ex} {t : PySem.Expr} {nm : Nm} (h : chkE nm e t = true) : ∀ a p, t ≠ .Starred a p := by
  rintro a p rfl
  cases e <;> exact Bool.noConfusion h
theorem starEach_cons {e : Ex} {t : PySem.Expr} {r : List PySem.Expr} (h : chkE nm e t = true) : starEach (t :: r) env = (false, eval t env) :: starEach r env := by
  have ns := notStar h
  cases t <;> first | rfl | exact absurd rfl (ns _ _)
theorem starEach_plain {es : Exs} : ∀ {ts : List PySem.Expr}, chkEs nm es ts = true → starEach ts env = ts.map fun t => (false, eval t env) := by
  intro ts h
  induction ts generalizing es with
  | nil => rfl
  | cons t r ih =>
    cases es with
    | nil => exact Bool.noConfusion h
    | cons e es =>
      refine band2 h fun h1 h2 => ?_
      have e1 : starEach (t :: r) env = (false, eval t env) :: starEach r env := starEach_cons h1
      rw [e1, ih h2]; rfl
theorem starEach_one {e : Ex} {t : PySem.Expr} (h : chkE nm e t = true) : starEach [t] env = [(false, eval t env)] := starEach_cons h
theorem plain_any {ts : List PySem.Expr} {pos : Pos} (hs : starEach ts env = ts.map fun t => (false, eval t env)) : (backTo pos (starEach ts env)).any (·.1) = false := by
  rw [hs]; unfold backTo
  rw [List.any_eq_false]
  intro x hx
  simp only [List.map_map, List.mem_map, Function.comp] at hx
  obtain ⟨t, _, rfl⟩ := hx
  simp
theorem plain_all {ts : List PySem.Expr} {pos : Pos} (hs : starEach ts env = ts.map fun t => (false, eval t env)) : (backTo pos (starEach ts env)).all (fun x => !x.1) = true := by
  rw [hs]; unfold backTo
  rw [List.all_eq_true]
  intro x hx
  simp only [List.map_map, List.mem_map, Function.comp] at hx
  obtain ⟨t, _, rfl⟩ := hx
  simp

theorem evalArgs_spliced {M : Model} {f : Value} {ts : List PySem.Expr} {pos : Pos} {Q : Args → Shared → Prop} (hs : starEach ts env = ts.map fun t => (false, eval t env))
    (h : wpAny M A (spliced (backTo pos (starEach ts env))) (fun vs s₁ => Q ⟨vs, []⟩ s₁) E s) : wpAny M A (evalArgs f true (backTo pos (starEach ts env)) []) Q E s := by
  cases ts with
  | nil =>
    unfold evalArgs
    show wpAny M A (spliced [] >>= _) Q E s
    refine wpAny_bind (wpAny_mono h (fun vs s₁ h₁ => wpAny_bind (wpAny_pure ?_)) fun _ _ x => x)
    refine wpAny_holding ?_
    exact wpAny_bind (wpAny_pure (wpAny_bind (wpAny_pure (wpAny_pure h₁))))
  | cons t r =>
    have e : backTo pos (starEach (t :: r) env) = (false, eval t env) :: backTo pos (r.map fun t => (false, eval t env)) := by rw [hs]; rfl
    rw [e] at h ⊢
    exact evalArgs_plain h

theorem PostB.self {P : Bool → Sto → Prop} {Qv : Bool → Shared → Prop} {r : Bool} {s' : Shared} (R : Rel prog w cl base ρ σ s.heap) (h : PostB prog w cl base ρ σ s P Qv) (p : P r σ)
    (hk : ∀ (b : Nat) o, s.heap.get? b = some o → s'.heap.get? b = some o) (sz : s.heap.objs.size ≤ s'.heap.objs.size) (hs : Same s s') : Qv r s' :=
  h _ ρ σ _ p hs (R.grown hk sz) (.pushed hk sz)

theorem two {a b : Ex} {ta tb : PySem.Expr} {P : AV → AV → Sto → Prop} {Qw : Value → Value → Shared → Prop} (iha : SE prog w cl base d F a) (ihb : SE prog w cl base d F b) (hA : AOk A d) (ca : chkE nm a ta = true) (cb : chkE nm b tb = true)
    (Z : Stt prog w cl base env nm m ρ σ s.heap) (hq : wpE F a m σ fun x σ' => wpE F b m σ' fun y σ'' => P x y σ'')
    (h : ∀ x y rx ry ρ' σ' s', P x y σ' → Same s s' → Rel prog w cl base ρ' σ' s'.heap → Step No ρ σ s.heap ρ' σ' s'.heap → VRel ρ' s'.heap x rx → VRel ρ' s'.heap y ry → Qw rx ry s') :
    wpAny (model prog w) A (eval ta env) (fun rx s₁ => wpAny (model prog w) A (eval tb env) (fun ry s₂ => Qw rx ry s₂) E s₁) E s := by
  refine iha hA ca Z hq fun x rx ρ1 σ1 s1 p sm1 R1 st1 hx => ?_
  refine ihb hA cb (Z.step R1 st1) p fun y ry ρ2 σ2 s2 p sm2 R2 st2 hy => ?_
  exact h x y rx ry ρ2 σ2 s2 p (sm1.trans sm2) R2 (st1.trans st2) (hx.up st2.up0) hy

theorem snd_sub {e i : Ex} (ih : SE prog w cl base d F e) (ihi : SE prog w cl base d F i) : SE prog w cl base d F (.sub e i) := by
  intro A env nm m ρ σ s E Qv Q t hA hc Z hq h
  refine xSub_e hc fun v i p hc => band3 hc fun h1 h2 h3 => ?_
  · refine Subscript_ (two ih ihi hA h2 h3 Z hq fun x y rx ry ρ' σ' s' p sm R st hx hy => ?_)
    exact op_sub h1 R hx hy p fun r rv tk q hv => (h.then sm st).self R q (fun _ _ e => e) (Nat.le_refl _) ⟨rfl, rfl, rfl⟩ hv

theorem snd_bin {o : Op} {a b : Ex} (iha : SE prog w cl base d F a) (ihb : SE prog w cl base d F b) : SE prog w cl base d F (.bin o a b) := by
  intro A env nm m ρ σ s E Qv Q t hA hc Z hq h
  refine xBin_e hc fun l op r p hc => band3 hc fun h1 h2 h3 => ?_
  · refine wpAny_BinOp (two iha ihb hA h2 h3 Z hq fun x y rx ry ρ' σ' s' p sm R st hx hy => ?_)
    exact op_bin h1 R hx hy p (h.then sm st)

theorem notSet_marks {op : CmpOp} {r : PySem.Expr} (h : notSet r = true) : behindInMarks op r = false := by
  cases r <;> first | rfl | cases h

theorem snd_cmp {o : Cmp} {a b : Ex} (PR : Prg prog w cl fa base K) (iha : SE prog w cl base d F a) (ihb : SE prog w cl base d F b) : SE prog w cl base d F (.cmp o a b) := by
  intro A env nm m ρ σ s E Qv Q t hA hc Z hq h
  refine xCmp_e hc fun l ops rs p hc => l1_e hc fun op hc => l1_e hc fun r hc => band4 hc fun h1 h2 h3 h4 => ?_
  · refine wpAny_Compare1 (two iha ihb hA h3 h4 Z hq fun x y rx ry ρ' σ' s' p sm R st hx hy => ?_) (notSet_marks h2)
    exact op_cmp hA PR.hm h1 R hx hy p fun r tk q => (h.then sm st).self R q (fun _ _ e => e) (Nat.le_refl _) ⟨rfl, rfl, rfl⟩ (.bool r)

theorem snd_not {a : Ex} (iha : SE prog w cl base d F a) : SE prog w cl base d F (.not a) := by
  intro A env nm m ρ σ s E Qv Q t hA hc Z hq h
  refine xUn_e hc fun op x p hc => band2 hc fun h0 hc => isNot_e h0 ?_
  · refine UnaryOp_ (iha hA hc Z hq fun x rx ρ1 σ1 s1 p sm1 R1 st1 hx => not_of ?_)
    obtain ⟨t, e, q⟩ := p
    exact op_truthy R1 hx e fun tk => (h.then sm1 st1).self R1 q (fun _ _ e => e) (Nat.le_refl _) ⟨rfl, rfl, rfl⟩ (.bool _)

theorem snd_and {a b : Ex} (iha : SE prog w cl base d F a) (ihb : SE prog w cl base d F b) : SE prog w cl base d F (.and a b) := by
  intro A env nm m ρ σ s E Qv Q t hA hc Z hq h
  have key : ∀ {ta tb : PySem.Expr}, chkE nm a ta = true → chkE nm b tb = true →
      wpAny (model prog w) A (eval ta env) (fun v s₁ => wpAny (model prog w) A (PySem.truthy v) (fun c s₂ => if c then wpAny (model prog w) A (eval tb env) Qv E s₂ else Qv v s₂) E s₁) E s := by
    intro ta tb c1 c2
    refine iha hA c1 Z hq fun x rx ρ1 σ1 s1 p sm1 R1 st1 hx => ?_
    obtain ⟨t, e, q⟩ := p
    refine op_truthy R1 hx e fun tk => ?_
    cases t with
    | true => exact ihb hA c2 (s := { s1 with toks := tk }) (Z.step R1 st1) q ((h.then sm1 st1).then (s' := { s1 with toks := tk }) ⟨rfl, rfl, rfl⟩ .refl)
    | false => exact (h.then sm1 st1).self R1 q (fun _ _ e => e) (Nat.le_refl _) ⟨rfl, rfl, rfl⟩ hx
  refine xBool_e hc fun op vs p hc => band2 hc fun h0 hc => isAnd_e h0 (l2_e hc fun x y r hc => band2 hc fun h1 h2 => ?_)
  cases r with
  | nil => have k := key h1 h2; exact BoolOp_and (rest := []) k
  | cons z r => exact BoolOp_and (key h1 h2)

theorem snd_or {a b : Ex} (iha : SE prog w cl base d F a) (ihb : SE prog w cl base d F b) : SE prog w cl base d F (.or a b) := by
  intro A env nm m ρ σ s E Qv Q t hA hc Z hq h
  have key : ∀ {ta tb : PySem.Expr}, chkE nm a ta = true → chkE nm b tb = true →
      wpAny (model prog w) A (eval ta env) (fun v s₁ => wpAny (model prog w) A (PySem.truthy v) (fun c s₂ => if c then Qv v s₂ else wpAny (model prog w) A (eval tb env) Qv E s₂) E s₁) E s := by
    intro ta tb c1 c2
    refine iha hA c1 Z hq fun x rx ρ1 σ1 s1 p sm1 R1 st1 hx => ?_
    obtain ⟨t, e, q⟩ := p
    refine op_truthy R1 hx e fun tk => ?_
    cases t with
    | false => exact ihb hA c2 (s := { s1 with toks := tk }) (Z.step R1 st1) q ((h.then sm1 st1).then (s' := { s1 with toks := tk }) ⟨rfl, rfl, rfl⟩ .refl)
    | true => exact (h.then sm1 st1).self R1 q (fun _ _ e => e) (Nat.le_refl _) ⟨rfl, rfl, rfl⟩ hx
  refine xBool_e hc fun op vs p hc => band2 hc fun h0 hc => isOr_e h0 (l2_e hc fun x y r hc => band2 hc fun h1 h2 => ?_)
  cases r with
  | nil => have k := key h1 h2; exact BoolOp_or (rest := []) k
  | cons z r => exact BoolOp_or (key h1 h2)

theorem snd_ite {t a b : Ex} (iht : ST prog w cl base d F t) (iha : SE prog w cl base d F a) (ihb : SE prog w cl base d F b) : SE prog w cl base d F (.ite t a b) := by
  intro A env nm m ρ σ s E Qv Q t hA hc Z hq h
  refine xIf_e hc fun t b o p hc => band3 hc fun h1 h2 h3 => ?_
  · refine IfExp_ (iht hA h1 Z hq fun c ρ1 σ1 s1 p sm1 R1 st1 => ?_)
    cases c with
    | true => exact iha hA h2 (Z.step R1 st1) p (h.then sm1 st1)
    | false => exact ihb hA h3 (Z.step R1 st1) p (h.then sm1 st1)

theorem snd_nil : SEs prog w cl base d F .nil := by
  intro A env nm m ρ σ s E Qv Q ts pos hA hc Z hq h
  cases ts with
  | nil => exact wpAny_items_nil (h _ _ ρ σ s hq .refl Z.rel .refl .nil rfl)
  | cons _ _ => exact Bool.noConfusion hc
theorem snd_cons {e : Ex} {es : Exs} (ih : SE prog w cl base d F e) (ihs : SEs prog w cl base d F es) : SEs prog w cl base d F (.cons e es) := by
  intro A env nm m ρ σ s E Qv Q ts pos hA hc Z hq h
  cases ts with
  | nil => exact Bool.noConfusion hc
  | cons t r =>
    refine band2 hc fun h1 h2 => ?_
    have hs : starEach (t :: r) env = (false, eval t env) :: starEach r env := starEach_cons h1
    refine wpAny_items_cons (ih hA h1 Z hq fun v rv ρ1 σ1 s1 p sm1 R1 st1 hv => ?_) hs
    exact ihs hA h2 (Z.step R1 st1) p fun vs xs ρ2 σ2 s2 p sm2 R2 st2 hvs hl => h _ _ ρ2 σ2 s2 p (sm1.trans sm2) R2 (st1.trans st2) (.cons (hv.up st2.up0) hvs) (by simp [hl])


theorem callWith_K' {f : Value} {first : List Value} {ts : List PySem.Expr} {es : Exs} {pos : Pos} {Qv : Value → Shared → Prop} (PR : Prg prog w cl fa base K) (hk : keepIn K f = true) (h3 : chkEs nm es ts = true)
    (h : wpAny (model prog w) A (spliced (backTo pos (starEach ts env))) (fun xs s₁ => (∀ (b : Nat) o, base.get? b = some o → s₁.heap.get? b = some o) ∧ wpAny (model prog w) A (call f (first ++ xs)) Qv E s₁) E s) :
    wpAny (model prog w) A (callWith pos f first (backTo pos (starEach ts env)) []) Qv E s := by
  have hs := starEach_plain (env := env) h3
  refine callWith_of (P := fun h => K.In h) (by rw [plain_any hs]; rfl) (keeps_K hk) (evalArgs_spliced hs (wpAny_mono h (fun xs s₁ h₁ => ⟨PR.X.keeps h₁.1, h₁.2⟩) fun _ _ x => x))

theorem snd_call {f : String} {es : Exs} (PR : Prg prog w cl fa base K) (hF : FnOK prog w cl fa base d F) (ihs : SEs prog w cl base d F es) : SE prog w cl base d F (.call f es) := by
  intro A env nm m ρ σ s E Qv Q t hA hc Z hq h
  refine xCall_e hc fun g as ks pos hc => band2 hc fun hk hc => xName_e hc fun id p hc => l0_e hk (band5 hc fun hx h0 h1 h2 h3 => beq_e hx ?_)
  · obtain ⟨p, loose, mg, mb, T⟩ := PR.T
    replace h0 := List.contains_iff_mem.mp h0
    obtain ⟨e1, e2⟩ := PR.fn f h0
    refine wpAny_Call_Name_kw (op_glob Z PR.X T h1 h2 e1 (callWith_K' PR e2 h3 ?_))
    refine ihs hA h3 Z hq fun vs xs ρ1 σ1 s1 p sm1 R1 st1 hvs hl => ?_
    exact ⟨R1.bas, hF hA R1 hvs p (h.then sm1 st1) h0⟩

theorem snd_mk {c : String} {es : Exs} (PR : Prg prog w cl fa base K) (hF : MkOK prog w cl base d F) (ihs : SEs prog w cl base d F es) : SE prog w cl base d F (.mk c es) := by
  intro A env nm m ρ σ s E Qv Q t hA hc Z hq h
  refine xCall_e hc fun g as ks pos hc => band2 hc fun hk hc => xName_e hc fun id p hc => l0_e hk (band5 hc fun hx h0 h1 h2 h3 => beq_e hx ?_)
  · obtain ⟨p, loose, mg, mb, T⟩ := PR.T
    replace h0 := List.contains_iff_mem.mp h0
    have C := PR.cls c h0
    refine wpAny_Call_Name_kw (op_glob Z PR.X T h1 h2 C.glob (callWith_K' PR C.keep h3 ?_))
    refine ihs hA h3 Z hq fun vs xs ρ1 σ1 s1 p sm1 R1 st1 hvs hl => ?_
    exact ⟨R1.bas, hF hA R1 hvs h0 p (h.then sm1 st1)⟩


theorem call_boot {nf : String} {ar : PySem.Expr} {p1 pos : Pos} {v : Value} (PR : Prg prog w cl fa base K) (Z : Stt prog w cl base env nm m ρ σ s.heap) (hn : nf ∈ ["len", "sorted", "reversed", "all", "range", "list"]) (hb : bootBuiltins (S nf) = some v)
    (hv : (∃ id, v = .builtin id) ∨ ∃ T, v = .type T) (h1 : isGlob nm (S nf) = true) (hs : starEach [ar] env = [(false, eval ar env)])
    (h : wpAny (model prog w) A (eval ar env) (fun x s₁ => wpAny (model prog w) A (call v [x]) Qv E s₁) E s) :
    wpAny (model prog w) A (eval (.Call (.Name (S nf) p1) [ar] [] pos) env) Qv E s := by
  obtain ⟨p, loose, mg, mb, T⟩ := PR.T
  have hs' : starEach [ar] env = [ar].map fun t => (false, eval t env) := by rw [hs]; rfl
  have hp : plainName (S nf) = true ∧ S nf ≠ "__name__" := by
    simp only [List.mem_cons, List.not_mem_nil, or_false] at hn
    rcases hn with rfl | rfl | rfl | rfl | rfl | rfl <;> exact ⟨by decide +kernel, by decide +kernel⟩
  refine wpAny_Call_Name_kw (op_builtin Z PR.X T h1 hp.1 (PR.bi _ hn) hb hp.2 ?_)
  have body : wpAny (model prog w) A (spliced (backTo pos (starEach [ar] env))) (fun vs s₁ => wpAny (model prog w) A (call v ([] ++ vs)) Qv E s₁) E s :=
    wpAny_items_cons (wpAny_mono h (fun x s₁ h₁ => wpAny_items_nil h₁) fun _ _ x => x) (by rw [hs]; rfl)
  rcases hv with ⟨id, rfl⟩ | ⟨T', rfl⟩
  · exact callWith_builtin (plain_any hs') (evalArgs_spliced hs' body)
  · exact PyProof.Rows.callWith_type (plain_any hs') (evalArgs_spliced hs' body)

theorem boot_bi : bootBuiltins (S "len") = some (.builtin "len") ∧ bootBuiltins (S "sorted") = some (.builtin "sorted") ∧ bootBuiltins (S "all") = some (.builtin "all") ∧ bootBuiltins (S "list") = some (.type "list") ∧
    bootBuiltins (S "range") = some (.type "range") ∧ bootBuiltins (S "reversed") = some (.type "reversed") := by decide +kernel

theorem snd_bi {f : Bi} {e : Ex} (PR : Prg prog w cl fa base K) (ih : SE prog w cl base d F e) : SE prog w cl base d F (.bi f e) := by
  intro A env nm m ρ σ s E Qv Q t hA hc Z hq h
  refine xCall_e hc fun g as ks pos hc => band2 hc fun hk hc => xName_e hc fun id p hc => l1_e hc fun ar hc => l0_e hk (band3 hc fun hx h1 h3 => beq_e hx ?_)
  · have nxt : f ≠ .range → f ≠ .reversed → bootBuiltins (S f.name) = some (.builtin f.name) := by
      intro n1 n2
      cases f <;> first | exact boot_bi.1 | exact boot_bi.2.1 | exact boot_bi.2.2.1 | exact absurd rfl n1 | exact absurd rfl n2
    by_cases n1 : f = .range
    · subst n1
      refine call_boot PR Z (by decide) boot_bi.2.2.2.2.1 (.inr ⟨_, rfl⟩) h1 (starEach_one h3) (ih hA h3 Z hq fun v rv ρ1 σ1 s1 p sm1 R1 st1 hv => ?_)
      exact p.elim
    · by_cases n2 : f = .reversed
      · subst n2
        refine call_boot PR Z (by decide) boot_bi.2.2.2.2.2 (.inr ⟨_, rfl⟩) h1 (starEach_one h3) (ih hA h3 Z hq fun v rv ρ1 σ1 s1 p sm1 R1 st1 hv => ?_)
        exact p.elim
      · refine call_boot PR Z (by cases f <;> simp [Bi.name]) (nxt n1 n2) (.inl ⟨_, rfl⟩) h1 (starEach_one h3) (ih hA h3 Z hq fun v rv ρ1 σ1 s1 p sm1 R1 st1 hv => ?_)
        exact op_bi hA PR.hm R1 hv p (h.then sm1 st1)

theorem snd_listOf {e : Ex} (PR : Prg prog w cl fa base K) (ih : SE prog w cl base d F e) : SE prog w cl base d F (.listOf e) := by
  intro A env nm m ρ σ s E Qv Q t hA hc Z hq h
  refine xCall_e hc fun g as ks pos hc => band2 hc fun hk hc => xName_e hc fun id p hc => l1_e hc fun ar hc => l0_e hk (band3 hc fun hx h1 h3 => beq_e hx ?_)
  · refine call_boot PR Z (by decide) boot_bi.2.2.2.1 (.inr ⟨_, rfl⟩) h1 (starEach_one h3) (ih hA h3 Z hq fun v rv ρ1 σ1 s1 p sm1 R1 st1 hv => ?_)
    obtain ⟨a, xs, rfl, e1, n⟩ := p
    exact op_listOf R1 hv e1 n (h.then sm1 st1)

theorem snd_listVals {e : Ex} (PR : Prg prog w cl fa base K) (ih : SE prog w cl base d F e) : SE prog w cl base d F (.listVals e) := by
  intro A env nm m ρ σ s E Qv Q t hA hc Z hq h
  refine xCall_e hc fun g as ks pos hc => band2 hc fun hk hc => xName_e hc fun id p hc => l1_e hc fun ar hc => l0_e hk (xCall_e hc fun g as ks pos2 hc => band4 hc fun h6 h7 h8 hc => xAttr_e hc fun o n apos hc => l0_e h6 (l0_e h7 (band2 h8 fun hx h1 => beq_e hx (band4 hc fun hn h4 h5 h3 => beq_e hn ?_))))
  · refine call_boot PR Z (by decide) boot_bi.2.2.2.1 (.inr ⟨_, rfl⟩) h1 rfl ?_
    refine wpAny_Call_method0_late (base_of h4 _) (by simpa using h5) (ih hA h3 Z hq fun v rv ρ1 σ1 s1 p sm1 R1 st1 hv => ?_)
    obtain ⟨a, es, fz, rfl, e1, n⟩ := p
    obtain ⟨x1, d1, o, kvs, rfl, _, ho, hD, hp, hl, hlo⟩ := R1.isDict hv e1
    have hd : s1.heap.DictOf (intKind prog w) x1 kvs := Heap.dictOf_iff.mpr ⟨o, ho, hD⟩
    refine ⟨"dict", "dict.values", PySem.F.plainAttrs_dict, PySem.F.slot_dict_values, PySem.F.type_dict_values, hd.typeIs, fun b eb => hd.mapOf.noDict b eb, ?_⟩
    refine callWith_builtin rfl (evalArgs_nil3 ?_)
    refine call_meetsIn PySem.F.slot_dict_values hd.typeIs PySem.F.entry_dict_values (PySem.F.args_dict_values_1 _) (meets_dict_values (intKind prog w) x1 (notModules PR.hm hlo)) ⟨⟨kvs, hd⟩, ?_⟩
    have hk : ∀ (b : Nat) o, s1.heap.get? b = some o → (s1.heap.push { cls := .type "dict_values", data := .fields #[.ref x1] }).get? b = some o := fun b o e => Heap.get?_push_of_some _ e
    have sz : s1.heap.objs.size ≤ (s1.heap.push { cls := .type "dict_values", data := .fields #[.ref x1] }).objs.size := by rw [Heap.size_push]; exact Nat.le_succ _
    refine op_listVals (s := { s1 with heap := s1.heap.push { cls := .type "dict_values", data := .fields #[.ref x1] } }) hA (R1.grown hk sz) (hv.up (Step.pushed (X := No) (σ := σ1) hk sz).up0) e1 ⟨x1, rfl, _, Heap.get?_push_size _ rfl, rfl, rfl⟩ n ?_
    exact (h.then sm1 st1).then (s' := { s1 with heap := s1.heap.push { cls := .type "dict_values", data := .fields #[.ref x1] } }) ⟨rfl, rfl, rfl⟩ (.pushed hk sz)

theorem snd_meth {o : Ex} {f : Meth} {es : Exs} (PR : Prg prog w cl fa base K) (ih : SE prog w cl base d F o) (ihs : SEs prog w cl base d F es) : SE prog w cl base d F (.meth o f es) := by
  intro A env nm m ρ σ s E Qv Q t hA hc Z hq h
  refine xCall_e hc fun g as ks pos hc => band2 hc fun hk hc => xAttr_e hc fun o n apos hc => l0_e hk (band6 hc fun hn h4 h5 h6 h3 h7 => beq_e hn ?_)
  · have hs := starEach_plain (env := env) h7
    refine wpAny_Call_method_late (base_of h4 _) ?_ (by simpa using h5) rfl (ih hA h3 Z hq fun v rv ρ1 σ1 s1 p sm1 R1 st1 hv => ?_)
    · rw [plain_all hs]
      have := of_decide_eq_true h6; rw [show keywordEach [] env = [] from rfl]; simp [backToKw]; lia
    · obtain ⟨k, ek, hon, p⟩ := p
      obtain ⟨ty, nd⟩ := kind_typeIs R1 hv ek
      obtain ⟨pa, slot, tm⟩ := meth_slot hon
      refine ⟨_, _, pa, slot, tm, ty, nd, ?_⟩
      refine callWith_builtin (plain_any hs) (evalArgs_spliced hs (ihs hA h7 (Z.step R1 st1) p fun vs xs ρ2 σ2 s2 p sm2 R2 st2 hvs hl => ?_))
      exact op_meth PR.hm R2 (hv.up st2.up0) hvs p.1 p.2 ((h.then sm1 st1).then sm2 st2)

theorem snd_tup {es : Exs} (ihs : SEs prog w cl base d F es) : SE prog w cl base d F (.tup es) := by
  intro A env nm m ρ σ s E Qv Q t hA hc Z hq h
  refine xTup_e hc fun es n p hc => band2 hc fun h1 h2 => ?_
  · refine wpAny_Tuple (ihs hA h1 Z hq fun vs xs ρ1 σ1 s1 p sm1 R1 st1 hvs hl => ⟨by have := sizeLine_eq; have := of_decide_eq_true h2; lia, ?_⟩)
    have hk : ∀ (b : Nat) o, s1.heap.get? b = some o → (s1.heap.push { cls := .type "tuple", data := .seq xs.toArray }).get? b = some o := fun b o e => Heap.get?_push_of_some _ e
    have sz : s1.heap.objs.size ≤ (s1.heap.push { cls := .type "tuple", data := .seq xs.toArray }).objs.size := by rw [Heap.size_push]; exact Nat.le_succ _
    have st2 : Step No ρ1 σ1 s1.heap ρ1 σ1 (s1.heap.push { cls := .type "tuple", data := .seq xs.toArray }) := .pushed hk sz
    refine h (.tup vs) _ ρ1 σ1 _ p ⟨sm1.gens, sm1.drawn, sm1.os⟩ (R1.grown hk sz) (st1.trans st2) (.tup ⟨_, Heap.get?_push_size _ rfl, rfl, 0, rfl⟩ (fun a x d e => ?_) (hvs.up st2.up0))
    have := R1.lo a x d e
    lia

theorem snd_list {es : Exs} (ihs : SEs prog w cl base d F es) : SE prog w cl base d F (.list es) := by
  intro A env nm m ρ σ s E Qv Q t hA hc Z hq h
  refine xLst_e hc fun es p hc => band2 hc fun h1 h2 => ?_
  · have hlim := lim_is
    refine wpAny_List (ihs hA h1 Z hq fun vs xs ρ1 σ1 s1 p sm1 R1 st1 hvs hl => ⟨by have := sizeLine_eq; have := of_decide_eq_true h2; lia, ?_⟩)
    exact R1.newList (s' := { s1 with heap := s1.heap.push { cls := .type "list", data := .seq xs.toArray } }) p (by have := hvs.length; have := of_decide_eq_true h2; lia) (Nat.le_refl _) (fun b o e => Heap.get?_push_of_some _ e) (IsL.new _ _) hvs ⟨rfl, rfl, rfl⟩ (h.then sm1 st1)

theorem snd_dict0 : SE prog w cl base d F .dict0 := by
  intro A env nm m ρ σ s E Qv Q t hA hc Z hq h
  refine xDict_e hc fun ks vs p hc => band2 hc fun h1 h2 => l0_e h1 (l0_e h2 ?_)
  · refine wpAny_Dict_empty ?_
    obtain ⟨o, ho, hD⟩ := Heap.dictOf_iff.mp (Heap.DictOf.new (knd := intKind prog w) s.heap)
    obtain ⟨n, σ', ρ', p, _, _, _, e, R', st⟩ := Z.rel.new (x := s.heap.objs.size) (d := s.heap.objs.size) (h' := s.heap.push { cls := .type "dict", data := .dict #[] }) hq (Nat.le_refl _) (Nat.le_refl _) (by rw [Heap.size_push]; exact Nat.lt_succ_self _)
      (by rw [Heap.size_push]; exact Nat.lt_succ_self _) (fun b o e => Heap.get?_push_of_some _ e) (by rw [Heap.size_push]; exact Nat.le_succ _) fun ρ' u => ⟨Nat.zero_le _, o, [], ho, hD, .nil⟩
    exact h _ _ ρ' σ' _ p ⟨rfl, rfl, rfl⟩ R' st (.ref e)

theorem snd_slice {e : Ex} {te : PySem.Expr} {lo up : Option PySem.Expr} {l u : Option Int} {p1 p2 : Pos} {ys : List AV → List AV} {zs : List Value → List Value} (ih : SE prog w cl base d F e) (hA : AOk A d) (hc : chkE nm e te = true) (Z : Stt prog w cl base env nm m ρ σ s.heap)
    (hq : wpE F e m σ fun v σ' => ∃ a xs, v = .ref a ∧ σ' a = some (.list xs) ∧ wpNew σ' (.list (ys xs)) fun b σ'' => Q (.ref b) σ'') (h : Post prog w cl base ρ σ s Q Qv)
    (hys : ∀ xs, (ys xs).length ≤ xs.length) (hrel : ∀ {ρ h xs vs}, VRels ρ h xs vs → VRels ρ h (ys xs) (zs vs)) (hpick : ∀ vs : List Value, slicePick vs.toArray l u none = (zs vs).toArray)
    (hlo : ∀ {s : Shared} {Qv : Value → Shared → Prop}, (∀ v tk, IsPart v l → Qv v { s with toks := tk }) → wpAny (model prog w) A (evalPart lo env) Qv E s)
    (hup : ∀ {s : Shared} {Qv : Value → Shared → Prop}, (∀ v tk, IsPart v u → Qv v { s with toks := tk }) → wpAny (model prog w) A (evalPart up env) Qv E s) :
    wpAny (model prog w) A (eval (.Subscript te (.Slice lo up none p1) p2) env) Qv E s := by
  refine Subscript_ (ih hA hc Z hq fun v rv ρ1 σ1 s1 p sm1 R1 st1 hv => ?_)
  obtain ⟨a, xs, rfl, e1, n⟩ := p
  obtain ⟨x1, d1, vs, k1, rfl, _, L1, V1, hl⟩ := R1.isList hv e1
  have l1 := V1.length
  have hlim := lim_is
  have hsz := sizeLine_eq
  refine wpAny_Slice (hlo fun v1 tk1 i1 => hup fun v2 tk2 i2 => evalPart_none_step ?_)
  have L2 := L1.push { cls := .type "slice", data := .fields #[v1, v2, .none] }
  refine tail_any L2.isList.typeIs slot_list_getitem.lookup (wpAny_getItem_list_slice (st := none) L2.isList (Heap.IsSliceOf.new _ _ _ _) i1 i2 .none (by simp) ?_ (by rw [List.size_toArray]; lia)) (ops := [_, _]) rfl
  rw [hpick]
  have hk : ∀ (b : Nat) o, s1.heap.get? b = some o → ((s1.heap.push { cls := .type "slice", data := .fields #[v1, v2, .none] }).push { cls := .type "list", data := .seq (zs vs).toArray }).get? b = some o := fun b o e => Heap.get?_push_of_some _ (Heap.get?_push_of_some _ e)
  exact R1.newList (s' := { s1 with heap := (s1.heap.push { cls := .type "slice", data := .fields #[v1, v2, .none] }).push { cls := .type "list", data := .seq (zs vs).toArray }, toks := tk2 }) n (Nat.le_trans (hys xs) hl) (by show _ ≤ (s1.heap.push _).objs.size; rw [Heap.size_push]; exact Nat.le_succ _) hk (IsL.new _ _) (hrel V1) ⟨rfl, rfl, rfl⟩ (h.then sm1 st1)

theorem part_int {n : Int} {k : Nat} {p : Pos} {s : Shared} {Qv : Value → Shared → Prop} (h : ∀ v tk, IsPart v (some n) → Qv v { s with toks := tk }) : wpAny (model prog w) A (evalPart (some (.Constant (.int n) k p)) env) Qv E s :=
  evalPart_some_step (wpAny_Constant_int (h _ _ (.int _ _)))
theorem part_none {s : Shared} {Qv : Value → Shared → Prop} (h : ∀ v tk, IsPart v none → Qv v { s with toks := tk }) : wpAny (model prog w) A (evalPart none env) Qv E s :=
  evalPart_none_step (by simpa using h .none s.toks .none)

theorem snd_upto {e : Ex} {n : Nat} (ih : SE prog w cl base d F e) : SE prog w cl base d F (.upto e n) := by
  intro A env nm m ρ σ s E Qv Q t hA hc Z hq h
  refine xSub_e hc fun v s p hc => xSlice_e hc fun l u st p2 hc => band4 hc fun h5 h6 h7 h1 => o0_e h5 (o0_e h6 (o1_e h7 fun u h7 => xCst_e h7 fun c k p3 h7 => intIs_e h7 ?_))
  · exact snd_slice (ys := fun xs => xs.take n) (zs := fun vs => vs.take n) (l := none) (u := some (n : Int)) ih hA h1 Z hq h (fun xs => by simp; lia) (fun v => v.take n) (fun vs => slicePick_upto' vs.toArray n) part_none part_int
theorem snd_frm {e : Ex} {n : Nat} (ih : SE prog w cl base d F e) : SE prog w cl base d F (.frm e n) := by
  intro A env nm m ρ σ s E Qv Q t hA hc Z hq h
  refine xSub_e hc fun v s p hc => xSlice_e hc fun l u st p2 hc => band4 hc fun h7 h6 h5 h1 => o0_e h5 (o0_e h6 (o1_e h7 fun u h7 => xCst_e h7 fun c k p3 h7 => intIs_e h7 ?_))
  · exact snd_slice (ys := fun xs => xs.drop n) (zs := fun vs => vs.drop n) (l := some (n : Int)) (u := none) ih hA h1 Z hq h (fun xs => by simp) (fun v => v.drop n) (fun vs => slicePick_from' vs.toArray n) part_int part_none

/- tests -/
theorem tst_plain {e : Ex} (he : ∀ {m σ Q}, wpT F e m σ Q → wpE F e m σ fun x σ' => ∃ t, truthy x σ' = some t ∧ Q t σ') (hc' : ∀ {nm : Nm} {t : PySem.Expr} {env : Env}, chkE nm e t = true → isTrue t env (eval t env) = (do let v ← eval t env; standAt t.pos; holding [v] (PySem.truthy v))) (ih : SE prog w cl base d F e) : ST prog w cl base d F e := by
  intro A env nm m ρ σ s E Qv Q t hA hc Z hq h
  refine isTrue_plain (ih hA hc Z (he hq) fun v rv ρ1 σ1 s1 p sm1 R1 st1 hv => ?_) (hc' hc)
  obtain ⟨t, e, q⟩ := p
  exact op_truthy R1 hv e fun tk => (h.then sm1 st1).self R1 q (fun _ _ e => e) (Nat.le_refl _) ⟨rfl, rfl, rfl⟩
theorem tst_cst {c : AV} : ST prog w cl base d F (.cst c) :=
  tst_plain (e := .cst c) (fun h => h) (fun {nm t env} hc => by cases t <;> first | rfl | exact Bool.noConfusion hc) snd_cst
theorem tst_var {x : String} : ST prog w cl base d F (.var x) :=
  tst_plain (e := .var x) (fun h => h) (fun {nm t env} hc => by cases t <;> first | rfl | exact Bool.noConfusion hc) snd_var
theorem tst_attr {e : Ex} {a : String} (PR : Prg prog w cl fa base K) (ih : SE prog w cl base d F e) : ST prog w cl base d F (.attr e a) :=
  tst_plain (e := .attr e a) (fun h => h) (fun {nm t env} hc => by cases t <;> first | rfl | exact Bool.noConfusion hc) (snd_attr PR ih)
theorem tst_call {f : String} {es : Exs} (ih : SE prog w cl base d F (.call f es)) : ST prog w cl base d F (.call f es) :=
  tst_plain (e := .call f es) (fun h => h) (fun {nm t env} hc => by cases t <;> first | rfl | exact Bool.noConfusion hc) ih
theorem tst_not {a : Ex} (ih : ST prog w cl base d F a) : ST prog w cl base d F (.not a) := by
  intro A env nm m ρ σ s E Qv Q t hA hc Z hq h
  refine xUn_e hc fun op x p hc => band2 hc fun h0 hc => isNot_e h0 ?_
  · exact isTrue_not (ih hA hc Z hq fun b ρ1 σ1 s1 p sm1 R1 st1 => h _ ρ1 σ1 s1 p sm1 R1 st1)
theorem tst_and {a b : Ex} (iha : ST prog w cl base d F a) (ihb : ST prog w cl base d F b) : ST prog w cl base d F (.and a b) := by
  intro A env nm m ρ σ s E Qv Q t hA hc Z hq h
  have key : ∀ {ta tb : PySem.Expr}, chkE nm a ta = true → chkE nm b tb = true →
      wpAny (model prog w) A (isTrue ta env (eval ta env)) (fun c s₂ => if c then wpAny (model prog w) A (isTrue tb env (eval tb env)) Qv E s₂ else Qv false s₂) E s := by
    intro ta tb c1 c2
    refine iha hA c1 Z hq fun c ρ1 σ1 s1 p sm1 R1 st1 => ?_
    cases c with
    | true => exact ihb hA c2 (Z.step R1 st1) p (h.then sm1 st1)
    | false => exact h _ ρ1 σ1 s1 p sm1 R1 st1
  refine xBool_e hc fun op vs p hc => band2 hc fun h0 hc => isAnd_e h0 (l2_e hc fun x y r hc => band2 hc fun h1 h2 => ?_)
  refine isTrue_and (wpAny_mono (key h1 h2) (fun c s₂ h₂ => ?_) fun _ _ e => e)
  cases c with
  | false => exact h₂
  | true =>
    cases r with
    | nil => exact isTrue_and (wpAny_mono h₂ (fun c s₃ h₃ => by cases c; exact h₃; exact isTrue_and_nil h₃) fun _ _ e => e)
    | cons z r => exact h₂
theorem tst_or {a b : Ex} (iha : ST prog w cl base d F a) (ihb : ST prog w cl base d F b) : ST prog w cl base d F (.or a b) := by
  intro A env nm m ρ σ s E Qv Q t hA hc Z hq h
  have key : ∀ {ta tb : PySem.Expr}, chkE nm a ta = true → chkE nm b tb = true →
      wpAny (model prog w) A (isTrue ta env (eval ta env)) (fun c s₂ => if c then Qv true s₂ else wpAny (model prog w) A (isTrue tb env (eval tb env)) Qv E s₂) E s := by
    intro ta tb c1 c2
    refine iha hA c1 Z hq fun c ρ1 σ1 s1 p sm1 R1 st1 => ?_
    cases c with
    | false => exact ihb hA c2 (Z.step R1 st1) p (h.then sm1 st1)
    | true => exact h _ ρ1 σ1 s1 p sm1 R1 st1
  refine xBool_e hc fun op vs p hc => band2 hc fun h0 hc => isOr_e h0 (l2_e hc fun x y r hc => band2 hc fun h1 h2 => ?_)
  refine isTrue_or (wpAny_mono (key h1 h2) (fun c s₂ h₂ => ?_) fun _ _ e => e)
  cases c with
  | true => exact h₂
  | false =>
    cases r with
    | nil => exact isTrue_or (wpAny_mono h₂ (fun c s₃ h₃ => by cases c; exact isTrue_or_nil h₃; exact h₃) fun _ _ e => e)
    | cons z r => exact h₂
theorem tst_cmp {o : Cmp} {a b : Ex} (PR : Prg prog w cl fa base K) (iha : SE prog w cl base d F a) (ihb : SE prog w cl base d F b) : ST prog w cl base d F (.cmp o a b) := by
  intro A env nm m ρ σ s E Qv Q t hA hc Z hq h
  refine xCmp_e hc fun l ops rs p hc => l1_e hc fun op hc => l1_e hc fun r hc => band4 hc fun h1 h2 h3 h4 => ?_
  · refine wpAny_isTrue_Compare1 (two iha ihb hA h3 h4 Z hq fun x y rx ry ρ' σ' s' p sm R st hx hy => ?_) (notSet_marks h2)
    exact op_cmp hA PR.hm h1 R hx hy p fun r tk q => wpAny_truthy_bool ((h.then sm st).self R q (fun _ _ e => e) (Nat.le_refl _) ⟨rfl, rfl, rfl⟩)
end
end
end Gc
end
/- GcB10 -/
section
set_option maxRecDepth 100000
namespace Gc
open PySem PySem.W PySem.Calls PyProof.Rows

structure Wk (prog : Program) (w : World) (cl : String → Nat) (base : Heap) (A : Around) (v : AV) (v₀ : Value) (σ₀ : Sto) (xs : List AV) (I : Nat) (fp : List Nat) (St : Nat → Heap → Prop) : Prop where
  here : ∀ i h, St i h → ∃ o, h.get? I = some o ∧ o.cls ≠ .type "tuple"
  frame : ∀ i h h', St i h → (∀ b ∈ fp, ∀ o, h.get? b = some o → h'.get? b = some o) → St i h'
  item : ∀ {i : Nat} {ρ : Rho} {σ : Sto} {s : Shared} {E : Value → Shared → Prop} {Q : Option Value → Shared → Prop} {av : AV}, xs[i]? = some av → St i s.heap → Rel prog w cl base ρ σ s.heap → VRel ρ s.heap v v₀ → sameSrc v σ₀ σ →
    (∀ rv h' tk, VRel ρ s.heap av rv → St (i + 1) h' → s.heap.objs.size ≤ h'.objs.size → (∀ (b : Nat) o, b ≠ I → s.heap.get? b = some o → h'.get? b = some o) → Q (some rv) { s with heap := h', toks := tk }) → wpAny (model prog w) A (pyNext (.ref I)) Q E s
  self : ∀ {i : Nat} {s : Shared} {E : Value → Shared → Prop} {Q : Value → Shared → Prop}, St i s.heap → Q (.ref I) s → wpAny (model prog w) A (pyIter (.ref I)) Q E s
  done : ∀ {ρ : Rho} {σ : Sto} {s : Shared} {E : Value → Shared → Prop} {Q : Option Value → Shared → Prop}, St xs.length s.heap → Rel prog w cl base ρ σ s.heap → VRel ρ s.heap v v₀ → sameSrc v σ₀ σ →
    (∀ h' tk, s.heap.objs.size ≤ h'.objs.size → (∀ (b : Nat) o, b ≠ I → s.heap.get? b = some o → h'.get? b = some o) → Q none { s with heap := h', toks := tk }) → wpAny (model prog w) A (pyNext (.ref I)) Q E s

section
variable {prog : Program} {w : World} {cl fa : String → Nat} {base : Heap} {K : Frag} {F : FnSem} {d : Nat} {A : Around} {σ₀ : Sto} {n : Name} {x : Nat} {I : Nat}

theorem ne_lit : Value.type "list_iterator" ≠ Value.type "tuple" := by decide +kernel
theorem ne_dkit : Value.type "dict_keyiterator" ≠ Value.type "tuple" := by decide +kernel
theorem ne_rit : Value.type "range_iterator" ≠ Value.type "tuple" := by decide +kernel
theorem ne_lrit : Value.type "list_reverseiterator" ≠ Value.type "tuple" := by decide +kernel

theorem Wk.list {xs : List AV} (hh : A.handled = none) (e : σ₀ n = some (.list xs)) : Wk prog w cl base A (.ref n) (.ref x) σ₀ xs I [I] (fun i h => h.IsListIter I x i) where
  here := fun i h ⟨o, ho, hc, _⟩ => ⟨o, ho, by rw [hc]; exact ne_lit⟩
  frame := fun i h h' st hk => st.at fun o eo => hk I (by simp) o eo
  self := fun st q => wpAny_pyIter_listiter st q
  item := by
    intro i ρ σ s E Q av hi st R hv hs h
    obtain ⟨x1, d1, vs, k1, e1, hρ, L1, V1, hl⟩ := R.isList hv (Eq.trans hs e)
    cases e1
    obtain ⟨rv, er, hr⟩ := V1.get hi
    exact wpAny_pyNext_list_item st L1.isList (by simpa using er) fun h' st' sb => h rv h' s.toks hr st' (Nat.le_of_eq sb.1.symm) fun b o hb eo => (sb.2 b hb).trans eo
  done := by
    intro ρ σ s E Q st R hv hs h
    obtain ⟨x1, d1, vs, k1, e1, hρ, L1, V1, hl⟩ := R.isList hv (Eq.trans hs e)
    cases e1
    have l1 := V1.length
    exact wpAny_sized (wpAny_pyNext_list_end hh st L1.isList (by rw [l1]; simp) fun h' sb sz => h h' s.toks sz fun b o hb eo => sb b o hb eo)

theorem Wk.rev {xs : List AV} (hh : A.handled = none) (e : σ₀ n = some (.list xs)) : Wk prog w cl base A (.ref n) (.ref x) σ₀ xs.reverse I [I] (fun i h => i ≤ xs.length ∧ h.IsRevIter I x ((xs.length : Int) - 1 - (i : Int))) where
  here := fun i h st => by obtain ⟨_, o, ho, hc, _⟩ := st; exact ⟨o, ho, by rw [hc]; exact ne_lrit⟩
  frame := fun i h h' st hk => ⟨st.1, st.2.at fun o eo => hk I (by simp) o eo⟩
  self := fun st q => wpAny_pyIter_revIter st.2 q
  item := by
    intro i ρ σ s E Q av hi st R hv hs h
    obtain ⟨x1, d1, vs, k1, e1, hρ, L1, V1, hl⟩ := R.isList hv (Eq.trans hs e)
    cases e1
    have l1 := V1.length
    have hlt : i < xs.reverse.length := (List.getElem?_eq_some_iff.mp hi).1
    rw [List.length_reverse] at hlt
    rw [List.getElem?_reverse hlt] at hi
    obtain ⟨rv, er, hr⟩ := V1.get hi
    have e2 : (xs.length : Int) - 1 - (i : Int) = ((xs.length - 1 - i : Nat) : Int) := by lia
    have hit := st.2
    rw [e2] at hit
    refine wpAny_pyNext_rev_item hit L1.isList (by simpa using er) fun h' st' sb => h rv h' s.toks hr ⟨hlt, ?_⟩ (Nat.le_of_eq sb.1.symm) fun b o hb eo => (sb.2 b hb).trans eo
    have e3 : ((xs.length - 1 - i : Nat) : Int) - 1 = (xs.length : Int) - 1 - ((i + 1 : Nat) : Int) := by lia
    rw [e3] at st'
    exact st'
  done := by
    intro ρ σ s E Q st R hv hs h
    have hit := st.2
    rw [List.length_reverse, show (xs.length : Int) - 1 - (xs.length : Int) = -1 by lia] at hit
    exact wpAny_sized (wpAny_pyNext_rev_end hh hit fun h' sb sz => h h' s.toks sz fun b o hb eo => sb b o hb eo)

theorem Wk.dict {es : List (Int × AV)} {kvs : List (Int × Value)} {ep : Nat} (hh : A.handled = none) (hkeys : kvs.map (·.1) = es.map (·.1)) :
    Wk prog w cl base A (.ref n) (.ref x) σ₀ (es.map fun p => .int p.1) I [I, x] (fun i h => h.IsKeyIter I x i kvs.length ep ∧ h.DictAt (intKind prog w) x kvs ep) where
  here := fun i h st => by obtain ⟨⟨o, ho, hc, _⟩, _⟩ := st; exact ⟨o, ho, by rw [hc]; exact ne_dkit⟩
  frame := fun i h h' st hk => ⟨let ⟨o, ho, r⟩ := st.1; ⟨o, hk I (by simp) o ho, r⟩, st.2.at' fun o eo => hk x (by simp) o eo⟩
  self := fun st q => wpAny_pyIter_keyiter st.1 q
  item := by
    intro i ρ σ s E Q av hi st R hv hs h
    have hi' : ∃ k v, kvs[i]? = some (k, v) ∧ av = .int k := by
      have e1 : (es.map (·.1))[i]? = (kvs.map (·.1))[i]? := by rw [hkeys]
      rw [List.getElem?_map, List.getElem?_map] at e1
      rw [List.getElem?_map] at hi
      cases q : es[i]? with
      | none => rw [q] at hi; cases hi
      | some p =>
        rw [q] at hi e1
        cases q' : kvs[i]? with
        | none => rw [q'] at e1; cases e1
        | some p' => rw [q'] at e1; cases hi; simp at e1; exact ⟨p'.1, p'.2, rfl, by show AV.int p.1 = _; rw [e1]⟩
    obtain ⟨k, v, e1, rfl⟩ := hi'
    refine wpAny_pyNext_dict_item st.1 st.2 e1 fun key h' hk st' sb => ?_
    have : ∃ t, key = .int k t := by
      cases key with
      | int m t => simp [intKind, Value.isInt] at hk; exact ⟨t, by rw [hk]⟩
      | _ => simp [intKind, Value.isInt] at hk
    obtain ⟨t, rfl⟩ := this
    refine h _ h' s.toks (.int k t) ⟨st', st.2.at' fun o eo => (sb.2 x ?_).trans eo⟩ (Nat.le_of_eq sb.1.symm) fun b o hb eo => (sb.2 b hb).trans eo
    rintro rfl
    obtain ⟨⟨o, ho, hc, _⟩, hd⟩ := st
    obtain ⟨o', ho', hc'⟩ := hd.dictOf.typeIs
    rw [ho] at ho'; cases ho'
    rw [hc] at hc'; exact absurd hc' (by decide +kernel)
  done := by
    intro ρ σ s E Q st R hv hs h
    have l : kvs.length = es.length := by have := congrArg List.length hkeys; simpa using this
    have st1 := st.1
    rw [List.length_map, ← l] at st1
    exact wpAny_sized (wpAny_pyNext_dict_end hh st1 st.2 (by simp) fun h' sb sz => h h' s.toks sz fun b o hb eo => sb b o hb eo)

theorem Wk.range {m : Nat} (hh : A.handled = none) : Wk prog w cl base A .none .none σ₀ ((List.range m).map fun i => AV.int (Int.ofNat i)) I [I] (fun i h => i ≤ m ∧ IsRangeIter h I (i : Int) ((m : Int) - i) 1) where
  here := fun i h st => ⟨_, st.2, ne_rit⟩
  frame := fun i h h' st hk => ⟨st.1, hk I (by simp) _ st.2⟩
  self := fun st q => wpAny_pyIter_rangeiter st.2 q
  item := by
    intro i ρ σ s E Q av hi st R hv hs h
    have hlt : i < m := by have := (List.getElem?_eq_some_iff.mp hi).1; simpa using this
    have : av = .int i := by rw [List.getElem?_map, List.getElem?_range hlt] at hi; cases hi; rfl
    subst this
    refine wpAny_pyNext_range_item st.2 (by lia) fun h' st' sb => h _ h' (s.toks + 1) (.int _ _) ⟨hlt, ?_⟩ (Nat.le_of_eq sb.1.symm) fun b o hb eo => (sb.2 b hb).trans eo
    have e1 : (i : Int) + 1 = ((i + 1 : Nat) : Int) := by lia
    have e2 : (m : Int) - i - 1 = (m : Int) - ((i + 1 : Nat) : Int) := by lia
    rw [e1, e2] at st'
    exact st'
  done := by
    intro ρ σ s E Q st R hv hs h
    have st2 := st.2
    rw [List.length_map, List.length_range] at st2
    exact wpAny_sized (wpAny_pyNext_range_end hh st2 (by lia) fun h' sb sz => h h' s.toks sz fun b o hb eo => sb b o hb eo)

section
variable {env : Env} {nm : Nm} {m : Loc} {ρ : Rho} {σ : Sto} {s : Shared} {E : Value → Shared → Prop}

theorem frz_cases (v : AV) (σ : Sto) : frz v σ = σ ∨ ∃ n es f, v = .ref n ∧ σ n = some (.dict es f) ∧ frz v σ = σ.set n (.dict es true) := by
  cases v with
  | ref n =>
    cases h : σ n with
    | none => exact .inl (by simp [frz, h])
    | some o =>
      cases o with
      | dict es f => exact .inr ⟨n, es, f, rfl, h, by simp [frz, h]⟩
      | list xs => exact .inl (by simp [frz, h])
      | inst c fs => exact .inl (by simp [frz, h])
      | dead => exact .inl (by simp [frz, h])
  | _ => exact .inl rfl
theorem frz_frz {v : AV} {σ : Sto} {a : Name} (h : isFrz (σ a) = true) : isFrz (frz v σ a) = true := by
  rcases frz_cases v σ with e | ⟨n, es, f, _, _, e⟩
  · rw [e]; exact h
  · rw [e]; unfold Sto.set
    split
    · rfl
    · exact h
theorem Rel.same {σ' : Sto} {h : Heap} (R : Rel prog w cl base ρ σ h) (hs : ∀ a, σ' a = σ a ∨ ∃ es f f', σ a = some (.dict es f) ∧ σ' a = some (.dict es f')) : Rel prog w cl base ρ σ' h where
  inj := R.inj
  lo := R.lo
  obj a o e := by
    rcases hs a with q | ⟨es, f, f', q1, q2⟩
    · exact R.obj a o (q ▸ e)
    · rw [q2] at e; cases e
      obtain ⟨x, d, e1, r⟩ := R.obj a _ q1
      exact ⟨x, d, e1, r⟩
  fresh i t e := by
    rcases hs (.obj i t) with q | ⟨es, f, f', q1, q2⟩
    · exact R.fresh i t (q ▸ e)
    · rw [q2] at e; cases e
  fin := R.fin
  bas := R.bas
  blo := R.blo
theorem Rel.frz {v : AV} {h : Heap} (R : Rel prog w cl base ρ σ h) : Rel prog w cl base ρ (frz v σ) h := R.same fun a => by
  rcases frz_cases v σ with e | ⟨n, es, f, _, e1, e⟩
  · rw [e]; exact .inl rfl
  · rw [e]; unfold Sto.set
    split
    · rename_i q; subst q; exact .inr ⟨_, _, _, e1, rfl⟩
    · exact .inl rfl

theorem Safe.frz {v : AV} {t : Nat} (h : Safe ρ σ t) : Safe ρ (frz v σ) t := fun a x d e q => frz_frz (h a x d e q)

noncomputable def Leans (env : Env) (ρ : Rho) (σ : Sto) (h : Heap) (fp : List Nat) : Prop := ∀ b ∈ fp, b < h.objs.size ∧ Safe ρ σ b ∧ ¬ Xf env b

theorem Fm.below {h : Heap} (Z : Fm base env nm m ρ h) {b : Nat} (hx : Xf env b) : b < h.objs.size ∧ Unowned ρ b := by
  rcases hx with rfl | ⟨y, hy⟩
  · obtain ⟨ml, ⟨o, _, _, ho, _⟩, _⟩ := Z.ns
    exact ⟨hlt ho, Z.loc.1⟩
  · obtain ⟨u, _, _, cv, o, ho, _⟩ := Z.own y b hy
    exact ⟨hlt ho, u⟩

noncomputable def IterMade (prog : Program) (w : World) (cl : String → Nat) (base : Heap) (A : Around) (env : Env) (nm : Nm) (m : Loc) (ρ : Rho) (σ : Sto) (s : Shared) (Q : AV → List AV → Sto → Prop) (Qv : Value → Shared → Prop) : Prop :=
  ∀ v v₀ xs I fp St ρ' σ' s', Q v xs σ' → Same s s' → Stt prog w cl base env nm m ρ' σ' s'.heap → Step No ρ σ s.heap ρ' σ' s'.heap → Wk prog w cl base A v v₀ (frz v σ') xs I fp St → St 0 s'.heap → VRel ρ' s'.heap v v₀ → Unowned ρ' I → Leans env ρ' (frz v σ') s'.heap fp → ¬ Xf env I → base.objs.size ≤ I → s.heap.objs.size ≤ I → Qv (.ref I) s'

theorem iter_list {xs : List AV} {rv : Value} {Q : AV → List AV → Sto → Prop} {Qv : Value → Shared → Prop} (hA : AOk A d) (Z : Stt prog w cl base env nm m ρ σ s.heap) (e : σ n = some (.list xs)) (hv : VRel ρ s.heap (.ref n) rv) (q : Q (.ref n) xs σ)
    (h : IterMade prog w cl base A env nm m ρ σ s Q Qv) : wpAny (model prog w) A (pyIter rv) Qv E s := by
  obtain ⟨x1, d1, vs, k1, rfl, hρ, L1, V1, hl⟩ := Z.rel.isList hv e
  refine wpAny_pyIter_list L1.isList ?_
  have hk : ∀ (b : Nat) o, s.heap.get? b = some o → (s.heap.push { cls := .type "list_iterator", data := .fields #[.ref x1, .int 0 0] }).get? b = some o := fun b o e => Heap.get?_push_of_some _ e
  have sz : s.heap.objs.size < (s.heap.push { cls := .type "list_iterator", data := .fields #[.ref x1, .int 0 0] }).objs.size := by rw [Heap.size_push]; exact Nat.lt_succ_self _
  have ff : frz (.ref n) σ = σ := by unfold frz; simp only [e]
  have st : Step No ρ σ s.heap ρ σ (s.heap.push { cls := .type "list_iterator", data := .fields #[.ref x1, .int 0 0] }) := .pushed hk (Nat.le_of_lt sz)
  have nx : ¬ Xf env s.heap.objs.size := fun hx => Nat.lt_irrefl _ (Z.fm.below hx).1
  have un : Unowned ρ s.heap.objs.size := fun a x d e => by have := Z.rel.lo a x d e; lia
  refine h _ _ xs s.heap.objs.size [s.heap.objs.size] _ ρ σ { s with heap := s.heap.push { cls := .type "list_iterator", data := .fields #[.ref x1, .int 0 0] } } q ⟨rfl, rfl, rfl⟩ (Z.grown hk (Nat.le_of_lt sz)) st
    (Wk.list (x := x1) hA.handled (by rw [ff]; exact e)) ⟨_, Heap.get?_push_size _ rfl, rfl, rfl⟩ (hv.up st.up0) un ?_ nx Z.rel.blo (Nat.le_refl _)
  intro b hb
  rw [List.mem_singleton.mp hb]
  exact ⟨sz, un.safe, nx⟩

theorem iter_dict {es : List (Int × AV)} {fz : Bool} {rv : Value} {Q : AV → List AV → Sto → Prop} {Qv : Value → Shared → Prop} (hA : AOk A d) (hm : sysModules < base.objs.size) (Z : Stt prog w cl base env nm m ρ σ s.heap) (e : σ n = some (.dict es fz)) (hv : VRel ρ s.heap (.ref n) rv)
    (q : Q (.ref n) (es.map fun p => .int p.1) σ) (h : IterMade prog w cl base A env nm m ρ σ s Q Qv) : wpAny (model prog w) A (pyIter rv) Qv E s := by
  obtain ⟨x1, d1, o, kvs, rfl, hρ, ho, hD, hp, hl, hlo⟩ := Z.rel.isDict hv e
  have hd : s.heap.DictOf (intKind prog w) x1 kvs := Heap.dictOf_iff.mpr ⟨o, ho, hD⟩
  obtain ⟨ep, hat⟩ := hd.dictAt
  refine wpAny_pyIter_dict (notModules hm hlo) hat ?_
  generalize ho' : ({ cls := .type "dict_keyiterator", data := .fields #[.ref x1, .int 0 0, .int kvs.length 0, .int ep 0] } : Obj) = O
  have hk : ∀ (b : Nat) o, s.heap.get? b = some o → (s.heap.push O).get? b = some o := fun b o e => Heap.get?_push_of_some _ e
  have sz : s.heap.objs.size < (s.heap.push O).objs.size := by rw [Heap.size_push]; exact Nat.lt_succ_self _
  have st : Step No ρ σ s.heap ρ σ (s.heap.push O) := .pushed hk (Nat.le_of_lt sz)
  have nx : ¬ Xf env s.heap.objs.size := fun hx => Nat.lt_irrefl _ (Z.fm.below hx).1
  have un : Unowned ρ s.heap.objs.size := fun a x d e => by have := Z.rel.lo a x d e; lia
  refine h _ _ _ s.heap.objs.size [s.heap.objs.size, x1] _ ρ σ { s with heap := s.heap.push O } q ⟨rfl, rfl, rfl⟩ (Z.grown hk (Nat.le_of_lt sz)) st
    (Wk.dict (x := x1) (ep := ep) hA.handled hp.keys) ⟨⟨_, Heap.get?_push_size _ (by subst ho'; rfl), by subst ho'; rfl, by subst ho'; rfl⟩, hat.push _⟩ (hv.up st.up0) un ?_ nx Z.rel.blo (Nat.le_refl _)
  intro b hb
  rcases List.mem_cons.mp hb with rfl | hb
  · exact ⟨sz, un.safe, nx⟩
  · rw [List.mem_singleton.mp hb]
    refine ⟨Nat.lt_trans (hlt ho) sz, fun a y c ea hy => ?_, fun hx => ((Z.fm.below hx).2 n _ _ hρ).1 rfl⟩
    by_cases qa : a = n
    · subst qa
      unfold frz
      simp only [e]
      unfold Sto.set
      rw [if_pos rfl]; rfl
    · have ne := Z.rel.inj a n _ _ _ _ ea hρ qa
      rcases hy with hy | hy
      · exact absurd hy.symm ne.1
      · exact absurd hy.symm ne.2.2.1

theorem iter_rev {xs : List AV} {rv : Value} {Q : AV → List AV → Sto → Prop} {Qv : Value → Shared → Prop} (hA : AOk A d) (Z : Stt prog w cl base env nm m ρ σ s.heap) (e : σ n = some (.list xs)) (hv : VRel ρ s.heap (.ref n) rv) (q : Q (.ref n) xs.reverse σ)
    (h : IterMade prog w cl base A env nm m ρ σ s Q Qv) : wpAny (model prog w) A (call (.type "reversed") [rv]) (fun x s₁ => wpAny (model prog w) A (pyIter x) Qv E s₁) E s := by
  obtain ⟨x1, d1, vs, k1, rfl, hρ, L1, V1, hl⟩ := Z.rel.isList hv e
  have l1 := V1.length
  refine call_reversed_list L1.isList ?_
  generalize ho' : revObj x1 ((vs.toArray.size : Int) - 1) = O
  have hit : (s.heap.push O).IsRevIter s.heap.objs.size x1 ((xs.length : Int) - 1 - ((0 : Nat) : Int)) := by
    subst ho'
    refine ⟨_, Heap.get?_push_size _ rfl, rfl, ?_⟩
    rw [l1]; simp [revObj]
  refine wpAny_pyIter_revIter (s := { s with heap := s.heap.push O }) hit ?_
  have hk : ∀ (b : Nat) o, s.heap.get? b = some o → (s.heap.push O).get? b = some o := fun b o e => Heap.get?_push_of_some _ e
  have sz : s.heap.objs.size < (s.heap.push O).objs.size := by rw [Heap.size_push]; exact Nat.lt_succ_self _
  have ff : frz (.ref n) σ = σ := by unfold frz; simp only [e]
  have st : Step No ρ σ s.heap ρ σ (s.heap.push O) := .pushed hk (Nat.le_of_lt sz)
  have nx : ¬ Xf env s.heap.objs.size := fun hx => Nat.lt_irrefl _ (Z.fm.below hx).1
  have un : Unowned ρ s.heap.objs.size := fun a x d e => by have := Z.rel.lo a x d e; lia
  refine h _ _ xs.reverse s.heap.objs.size [s.heap.objs.size] _ ρ σ { s with heap := s.heap.push O } q ⟨rfl, rfl, rfl⟩ (Z.grown hk (Nat.le_of_lt sz)) st
    (Wk.rev (x := x1) (xs := xs) hA.handled (by rw [ff]; exact e)) ⟨Nat.zero_le _, hit⟩ (hv.up st.up0) un ?_ nx Z.rel.blo (Nat.le_refl _)
  intro b hb
  rw [List.mem_singleton.mp hb]
  exact ⟨sz, un.safe, nx⟩

theorem iter_range {k : Nat} {t : Tok} {Q : AV → List AV → Sto → Prop} {Qv : Value → Shared → Prop} (hA : AOk A d) (hk1 : k < 1000) (Z : Stt prog w cl base env nm m ρ σ s.heap) (q : Q .none ((List.range k).map fun i => AV.int (Int.ofNat i)) σ)
    (h : IterMade prog w cl base A env nm m ρ σ s Q Qv) : wpAny (model prog w) A (call (.type "range") [.int (k : Int) t]) (fun x s₁ => wpAny (model prog w) A (pyIter x) Qv E s₁) E s := by
  refine call_range_1 ?_
  have hr : IsRange (s.heap.push { cls := .type "range", data := .fields #[.int 0 s.toks, .int (k : Int) t, .int 1 (s.toks + 1)] }) s.heap.objs.size 0 (k : Int) 1 s.toks t (s.toks + 1) := Heap.get?_push_size _ rfl
  have size : Builtin.Range.rangeSize 0 (k : Int) 1 = (k : Int) := by
    unfold Builtin.Range.rangeSize
    simp
    lia
  refine wpAny_pyIter_range hr ?_ ?_
  · unfold Builtin.Range.small Builtin.Range.rangeFitsLong
    rw [size]
    simp
    lia
  rw [size]
  generalize hO1 : ({ cls := .type "range", data := .fields #[.int 0 s.toks, .int (k : Int) t, .int 1 (s.toks + 1)] } : Obj) = O1
  dsimp only
  generalize hO2 : ({ cls := .type "range_iterator", data := .fields #[rawInt 0, rawInt (k : Int), rawInt 1] } : Obj) = O2
  have hk : ∀ (b : Nat) o, s.heap.get? b = some o → ((s.heap.push O1).push O2).get? b = some o := fun b o e => Heap.get?_push_of_some _ (Heap.get?_push_of_some _ e)
  have s1 : (s.heap.push O1).objs.size = s.heap.objs.size + 1 := Heap.size_push ..
  have s2 : ((s.heap.push O1).push O2).objs.size = s.heap.objs.size + 2 := by rw [Heap.size_push, s1]
  have ff : frz .none σ = σ := rfl
  have st : Step No ρ σ s.heap ρ σ ((s.heap.push O1).push O2) := .pushed hk (by rw [s2]; exact Nat.le_add_right _ _)
  have nx : ¬ Xf env (s.heap.push O1).objs.size := fun hx => by have := (Z.fm.below hx).1; rw [s1] at this; exact absurd this (by simp)
  have un : Unowned ρ (s.heap.push O1).objs.size := fun a x d e => by have := Z.rel.lo a x d e; rw [s1]; lia
  refine h .none .none _ (s.heap.push O1).objs.size [(s.heap.push O1).objs.size] _ ρ σ { s with heap := (s.heap.push O1).push O2, toks := s.toks + 1 + 1 } q ⟨rfl, rfl, rfl⟩ (Z.grown hk (by rw [s2]; exact Nat.le_add_right _ _)) st
    (Wk.range (m := k) hA.handled) ⟨Nat.zero_le _, ?_⟩ .none un ?_ nx (by have := Z.rel.blo; rw [s1]; lia) (by rw [s1]; exact Nat.le_succ _)
  · subst hO2
    have := Heap.get?_push_size (s.heap.push O1) (o := { cls := .type "range_iterator", data := .fields #[rawInt 0, rawInt (k : Int), rawInt 1] }) rfl
    simpa [IsRangeIter] using this
  · intro b hb
    rw [List.mem_singleton.mp hb]
    exact ⟨by rw [s1, s2]; exact Nat.lt_succ_self _, un.safe, nx⟩
end

noncomputable def SSrc (prog : Program) (w : World) (cl : String → Nat) (base : Heap) (d : Nat) (F : FnSem) (e : Ex) : Prop :=
  ∀ ⦃A : Around⦄ ⦃env : Env⦄ ⦃nm : Nm⦄ ⦃m : Loc⦄ ⦃ρ : Rho⦄ ⦃σ : Sto⦄ ⦃s : Shared⦄ ⦃E : Value → Shared → Prop⦄ ⦃Qv : Value → Shared → Prop⦄ ⦃Q : AV → List AV → Sto → Prop⦄ ⦃t : PySem.Expr⦄, AOk A d → chkSrc nm e t = true → Stt prog w cl base env nm m ρ σ s.heap → wpSrc F e m σ Q →
    IterMade prog w cl base A env nm m ρ σ s Q Qv → wpAny (model prog w) A (eval t env) (fun x s₁ => wpAny (model prog w) A (pyIter x) Qv E s₁) E s

section
variable {env : Env} {nm : Nm} {m : Loc} {ρ : Rho} {σ : Sto} {s : Shared} {E : Value → Shared → Prop}
theorem IterMade.then {ρ' : Rho} {σ' : Sto} {s' : Shared} {Q : AV → List AV → Sto → Prop} {Qv : Value → Shared → Prop} (h : IterMade prog w cl base A env nm m ρ σ s Q Qv) (sm : Same s s') (st : Step No ρ σ s.heap ρ' σ' s'.heap) : IterMade prog w cl base A env nm m ρ' σ' s' Q Qv :=
  fun v v₀ xs I fp St ρ'' σ'' s'' q sm' Z st' W h0 hv un ln nx hb hI => h v v₀ xs I fp St ρ'' σ'' s'' q (sm.trans sm') Z (st.trans st') W h0 hv un ln nx hb (Nat.le_trans st.sz hI)

theorem src_plain {e : Ex} (PR : Prg prog w cl fa base K) (ih : SE prog w cl base d F e) (hw : ∀ {m σ Q}, wpSrc F e m σ Q → wpE F e m σ fun v σ' => ∃ xs, itemsOf v σ' = some xs ∧ Q v xs σ') (hc' : ∀ {nm t}, chkSrc nm e t = true → chkE nm e t = true) : SSrc prog w cl base d F e := by
  intro A env nm m ρ σ s E Qv Q t hA hc Z hq h
  refine ih hA (hc' hc) Z (hw hq) fun v rv ρ1 σ1 s1 p sm1 R1 st1 hv => ?_
  obtain ⟨xs, e1, q⟩ := p
  obtain ⟨n, rfl, e2 | ⟨es, fz, e2, rfl⟩⟩ := itemsOf_inv e1
  · exact iter_list hA (Z.step R1 st1) e2 hv q (h.then sm1 st1)
  · exact iter_dict hA PR.hm (Z.step R1 st1) e2 hv q (h.then sm1 st1)

theorem src_rev {e : Ex} (PR : Prg prog w cl fa base K) (ih : SE prog w cl base d F e) : SSrc prog w cl base d F (.bi .reversed e) := by
  intro A env nm m ρ σ s E Qv Q t hA hc Z hq h
  replace hc : chkE nm (.bi .reversed e) t = true := hc
  refine xCall_e hc fun g as ks pos hc => band2 hc fun hk hc => xName_e hc fun id p hc => l1_e hc fun ar hc => l0_e hk (band3 hc fun hx h1 h3 => beq_e hx ?_)
  · refine call_boot PR Z (by decide) boot_bi.2.2.2.2.2 (.inr ⟨_, rfl⟩) h1 (starEach_one h3) (ih hA h3 Z hq fun v rv ρ1 σ1 s1 p sm1 R1 st1 hv => ?_)
    obtain ⟨a, xs, rfl, e2, q⟩ := p
    exact iter_rev hA (Z.step R1 st1) e2 hv q (h.then sm1 st1)

theorem src_range {k : Int} (PR : Prg prog w cl fa base K) : SSrc prog w cl base d F (.bi .range (.cst (.int k))) := by
  intro A env nm m ρ σ s E Qv Q t hA hc Z hq h
  refine band2 (P := wpAny _ _ _ _ _ _) hc fun h3 hc => ?_
  replace h3 := of_decide_eq_true h3
  refine xCall_e hc fun g as ks pos hc => band2 hc fun hk hc => xName_e hc fun id p hc => l1_e hc fun ar hc => l0_e hk (band3 hc fun hx h1 h3 => beq_e hx (xCst_e h3 fun c kk pp h3 => intIs_e h3 ?_))
  · refine call_boot PR Z (by decide) boot_bi.2.2.2.2.1 (.inr ⟨_, rfl⟩) h1 rfl (wpAny_Constant_int ?_)
    obtain ⟨q0, q⟩ := hq
    obtain ⟨k', rfl⟩ := Int.eq_ofNat_of_zero_le q0
    have sm : Same s { s with toks := s.toks + 1 } := ⟨rfl, rfl, rfl⟩
    exact iter_range (s := { s with toks := s.toks + 1 }) hA (by lia) Z q (h.then sm .refl)
end
end
end Gc
end
/- GcB11 -/
section
set_option maxRecDepth 100000
namespace Gc
open PySem PySem.W PySem.Calls PyProof.Rows

section
variable {prog : Program} {w : World} {cl fa : String → Nat} {base : Heap} {K : Frag} {F : FnSem} {d : Nat} {A : Around} {env : Env} {nm : Nm} {m : Loc} {ρ : Rho} {σ : Sto} {s : Shared} {E : Value → Shared → Prop}

theorem Stt.framed {h' : Heap} {X : Nat → Prop} {m' : Loc} (Z : Stt prog w cl base env nm m ρ σ s.heap) (hX : ∀ (b : Nat) vs, X b → IsTup s.heap b vs → False) (hu : ∀ b, X b → Unowned ρ b)
    (hk : ∀ (b : Nat) o, s.heap.get? b = some o → ¬ X b → h'.get? b = some o) (hlo : ∀ b, X b → base.objs.size ≤ b) (sz : s.heap.objs.size ≤ h'.objs.size)
    (hf : Up ρ s.heap ρ h' → Fm base env nm m' ρ h') : Stt prog w cl base env nm m' ρ σ h' ∧ Step X ρ σ s.heap ρ σ h' := by
  obtain ⟨R, st⟩ := Z.rel.frame hX hu hk hlo sz
  exact ⟨⟨R, hf (st.up hX)⟩, st⟩

theorem cells_apart {l : List (Str × Nat)} {x y : Str} {c c' : Nat} (hp : l.Pairwise fun x y => x.2 ≠ y.2) (hx : (x, c) ∈ l) (hy : (y, c') ∈ l) (ne : x ≠ y) : c ≠ c' := by
  induction hp with
  | nil => cases hx
  | cons h _ ih =>
    rcases List.mem_cons.mp hx with e | hx <;> rcases List.mem_cons.mp hy with e' | hy
    · exact absurd ((Prod.mk.inj e).1.trans (Prod.mk.inj e').1.symm) ne
    · have := h _ hy; rw [← e] at this; exact this
    · have := h _ hx; rw [← e'] at this; exact fun q => this q.symm
    · exact ih hx hy

noncomputable def Xs (env : Env) (nm : Nm) (x : String) (b : Nat) : Prop := (nm.lookup (S x) = some .local ∧ b = env.locals) ∨ (nm.lookup (S x) = some .cell ∧ (S x, b) ∈ env.cells)
theorem Xs.xf {x : String} {b : Nat} (h : Xs env nm x b) : Xf env b := by
  rcases h with ⟨_, h⟩ | ⟨_, h⟩
  · exact .inl h
  · exact .inr ⟨_, h⟩

theorem op_store {x : String} {av : AV} {v : Value} {Q : Unit → Shared → Prop} (Z : Stt prog w cl base env nm m ρ σ s.heap) (hs : storable nm (S x) = true) (hv : VRel ρ s.heap av v)
    (h : ∀ h' tk, Stt prog w cl base env nm (upd m x av) ρ σ h' → Step (Xs env nm x) ρ σ s.heap ρ σ h' → Q () { s with heap := h', toks := tk }) : wpAny (model prog w) A (storeName env (S x) v) Q E s := by
  have hn := Z.fm.names
  simp only [storable, Bool.or_eq_true, beq_iff_eq] at hs
  have hX : ∀ (b : Nat) vs, Xs env nm x b → IsTup s.heap b vs → False := fun b vs hb => Xf.notTuple Z.fm b vs hb.xf
  have hu : ∀ b, Xs env nm x b → Unowned ρ b := fun b hb => (Z.fm.below hb.xf).2
  have hlo : ∀ b, Xs env nm x b → base.objs.size ≤ b := fun b hb => by
    rcases hb.xf with rfl | ⟨y, hy⟩
    · exact Z.fm.loc.2
    · exact (Z.fm.own y b hy).lo
  rcases hs with q | q
  · obtain ⟨ml, hns, r⟩ := Z.fm.ns
    refine wpAny_storeName_local (by unfold Env.kindOf; rw [hn]; exact q) hns (fun h' hns' hs' => ?_) (by rw [Z.fm.kind]; rfl)
    obtain ⟨Z', st⟩ := Z.framed (h' := h') (m' := upd m x av) hX hu (fun b o e hb => (hs'.2 b fun e => hb (.inl ⟨q, e⟩)).trans e) hlo (Nat.le_of_eq hs'.1.symm) fun u =>
      { kind := Z.fm.kind, names := Z.fm.names, glob := Z.fm.glob, blt := Z.fm.blt
        ns := by
          refine ⟨_, hns', fun y a ea hp k => ?_⟩
          rw [upd_if] at ea
          by_cases e : y = x
          · rw [if_pos e] at ea; cases ea
            exact ⟨v, by simp [e], hv.up u⟩
          · rw [if_neg e] at ea
            obtain ⟨v', e1, e2⟩ := r y a ea hp k
            exact ⟨v', (if_neg fun q => e (S_inj q)).trans e1, e2.up u⟩
        cell := by
          intro y c ec
          obtain ⟨cv, ⟨o, ho, hd⟩, r'⟩ := Z.fm.cell y c ec
          refine ⟨cv, ⟨o, (hs'.2 c (Z.fm.own _ _ (mem_of_lookup ec)).ne).trans ho, hd⟩, fun a ea k => ?_⟩
          rw [upd_if] at ea
          by_cases e : y = x
          · subst e; rw [q] at k; simp at k
          · rw [if_neg e] at ea
            obtain ⟨v', e1, e2⟩ := r' a ea k
            exact ⟨v', e1, e2.up u⟩
        has := Z.fm.has
        own := by
          intro y c ec
          obtain ⟨a, b, d', cv, o, ho, hd⟩ := Z.fm.own y c ec
          exact ⟨a, b, d', cv, o, (hs'.2 c b).trans ho, hd⟩
        loc := Z.fm.loc
        apart := Z.fm.apart }
    exact h h' _ Z' st
  · obtain ⟨c, hc⟩ := Z.fm.has (S x) (.inl q)
    obtain ⟨cv, hcv, r⟩ := Z.fm.cell x c hc
    have hm := mem_of_lookup hc
    refine wpAny_storeName_cell Z.fm.kind (by unfold Env.kindOf; rw [hn]; exact q) hc hcv fun h' hcv' hs' => ?_
    obtain ⟨Z', st⟩ := Z.framed (h' := h') (m' := upd m x av) hX hu (fun b o e hb => (hs'.2 b fun e => hb (.inr ⟨q, e ▸ hm⟩)).trans e) hlo (Nat.le_of_eq hs'.1.symm) fun u =>
      { kind := Z.fm.kind, names := Z.fm.names, glob := Z.fm.glob, blt := Z.fm.blt
        ns := by
          obtain ⟨ml, ⟨o, es, ep, ho, r1⟩, r2⟩ := Z.fm.ns
          refine ⟨ml, ⟨o, es, ep, (hs'.2 _ fun e => (Z.fm.own _ _ hm).ne e.symm).trans ho, r1⟩, fun y a ea hp k => ?_⟩
          rw [upd_if] at ea
          by_cases e : y = x
          · subst e; rw [q] at k; cases k
          · rw [if_neg e] at ea
            obtain ⟨v', e1, e2⟩ := r2 y a ea hp k
            exact ⟨v', e1, e2.up u⟩
        cell := by
          intro y c' ec
          by_cases e : y = x
          · subst e
            rw [hc] at ec; cases ec
            refine ⟨some v, hcv', fun a ea k => ?_⟩
            rw [upd_if] at ea
            rw [if_pos rfl] at ea; cases ea
            exact ⟨v, rfl, hv.up u⟩
          · obtain ⟨cv', ⟨o, ho, hd⟩, r'⟩ := Z.fm.cell y c' ec
            have ne : c' ≠ c := cells_apart Z.fm.apart (mem_of_lookup ec) hm fun q => e (S_inj q)
            refine ⟨cv', ⟨o, (hs'.2 c' ne).trans ho, hd⟩, fun a ea k => ?_⟩
            rw [upd_if] at ea
            rw [if_neg e] at ea
            obtain ⟨v', e1, e2⟩ := r' a ea k
            exact ⟨v', e1, e2.up u⟩
        has := Z.fm.has
        own := by
          intro y c' ec
          obtain ⟨a, b, d', cv', o, ho, hd⟩ := Z.fm.own y c' ec
          by_cases e : c' = c
          · subst e; obtain ⟨o', ho', hd'⟩ := hcv'; exact ⟨a, b, d', _, o', ho', hd'⟩
          · exact ⟨a, b, d', cv', o, (hs'.2 c' e).trans ho, hd⟩
        loc := Z.fm.loc
        apart := Z.fm.apart }
    exact h h' s.toks Z' st

structure Wkg (prog : Program) (w : World) (cl : String → Nat) (base : Heap) (env : Env) (nm : Nm) (v : AV) (v₀ : Value) (I : Nat) (fp : List Nat) (St : Nat → Heap → Prop) (i : Nat) (m : Loc) (ρ : Rho) (σ : Sto) (h : Heap) : Prop where
  z : Stt prog w cl base env nm m ρ σ h
  at' : St i h
  src : VRel ρ h v v₀
  un : Unowned ρ I
  ln : Leans env ρ σ h fp
  nx : ¬ Xf env I
  lo : base.objs.size ≤ I

noncomputable def Xi (env : Env) (nm : Nm) (x : String) (I : Nat) (b : Nat) : Prop := b = I ∨ Xs env nm x b

theorem Leans.step {X : Nat → Prop} {ρ' : Rho} {σ' : Sto} {h h' : Heap} {fp : List Nat} (l : Leans env ρ σ h fp) (s : Step X ρ σ h ρ' σ' h') : Leans env ρ' σ' h' fp :=
  fun b hb => ⟨Nat.lt_of_lt_of_le (l b hb).1 s.sz, s.safe (l b hb).1 (l b hb).2.1, (l b hb).2.2⟩

theorem Wkg.step {v : AV} {v₀ : Value} {I : Nat} {fp : List Nat} {St : Nat → Heap → Prop} {xs : List AV} {σ₀ : Sto} {i : Nat} {ρ' : Rho} {σ' : Sto} {h h' : Heap} (W : Wk prog w cl base A v v₀ σ₀ xs I fp St)
    (g : Wkg prog w cl base env nm v v₀ I fp St i m ρ σ h) (R : Rel prog w cl base ρ' σ' h') (st : Step No ρ σ h ρ' σ' h') : Wkg prog w cl base env nm v v₀ I fp St i m ρ' σ' h' where
  z := g.z.step R st
  at' := W.frame i h h' g.at' fun b hb o e => st.keep b o e id (g.ln b hb).2.1
  src := g.src.up st.up0
  un := by
    obtain ⟨o, ho, _⟩ := W.here i h g.at'
    exact st.unowned (hlt ho) g.un
  ln := g.ln.step st
  nx := g.nx
  lo := g.lo
theorem Wkg.stepX {v : AV} {v₀ : Value} {I : Nat} {fp : List Nat} {St : Nat → Heap → Prop} {xs : List AV} {σ₀ : Sto} {i : Nat} {m' : Loc} {ρ' : Rho} {σ' : Sto} {h h' : Heap} (W : Wk prog w cl base A v v₀ σ₀ xs I fp St)
    (g : Wkg prog w cl base env nm v v₀ I fp St i m ρ σ h) (Z : Stt prog w cl base env nm m' ρ' σ' h') (st : Step (Xf env) ρ σ h ρ' σ' h') : Wkg prog w cl base env nm v v₀ I fp St i m' ρ' σ' h' where
  z := Z
  at' := W.frame i h h' g.at' fun b hb o e => st.keep b o e (g.ln b hb).2.2 (g.ln b hb).2.1
  src := g.src.up (st.up (Xf.notTuple g.z.fm))
  un := by
    obtain ⟨o, ho, _⟩ := W.here i h g.at'
    exact st.unowned (hlt ho) g.un
  ln := g.ln.step st
  nx := g.nx
  lo := g.lo

theorem Wkg.next {v : AV} {v₀ : Value} {I : Nat} {fp : List Nat} {St : Nat → Heap → Prop} {xs : List AV} {σ₀ : Sto} {i j : Nat} {h' : Heap} (W : Wk prog w cl base A v v₀ σ₀ xs I fp St)
    (g : Wkg prog w cl base env nm v v₀ I fp St i m ρ σ s.heap) (st' : St j h') (sz : s.heap.objs.size ≤ h'.objs.size) (hk : ∀ (b : Nat) o, b ≠ I → s.heap.get? b = some o → h'.get? b = some o) :
    Wkg prog w cl base env nm v v₀ I fp St j m ρ σ h' ∧ Step (fun b => b = I) ρ σ s.heap ρ σ h' ∧ Up ρ s.heap ρ h' := by
  have hX : ∀ (b : Nat) vs, b = I → IsTup s.heap b vs → False := by
    rintro b vs rfl ⟨o, ho, hc, _⟩
    obtain ⟨o', ho', hc'⟩ := W.here i s.heap g.at'
    rw [ho] at ho'; cases ho'
    exact hc' hc
  have nI : ∀ b, Xf env b → b ≠ I := fun b hb q => g.nx (q ▸ hb)
  obtain ⟨Z', st⟩ := g.z.framed (X := fun b => b = I) (h' := h') (m' := m) hX (fun b hb => hb ▸ g.un) (fun b o e hb => hk b o hb e) (fun b hb => hb ▸ g.lo) sz fun u =>
    { kind := g.z.fm.kind, names := g.z.fm.names, glob := g.z.fm.glob, blt := g.z.fm.blt
      ns := by
        obtain ⟨ml, ⟨o, es, ep, ho, r1⟩, r2⟩ := g.z.fm.ns
        refine ⟨ml, ⟨o, es, ep, hk _ _ (nI _ (.inl rfl)) ho, r1⟩, fun y a ea hp k => ?_⟩
        obtain ⟨v', e1, e2⟩ := r2 y a ea hp k
        exact ⟨v', e1, e2.up u⟩
      cell := by
        intro y c ec
        obtain ⟨cv, ⟨o, ho, hd⟩, r'⟩ := g.z.fm.cell y c ec
        refine ⟨cv, ⟨o, hk _ _ (nI _ (.inr ⟨_, mem_of_lookup ec⟩)) ho, hd⟩, fun a ea k => ?_⟩
        obtain ⟨v', e1, e2⟩ := r' a ea k
        exact ⟨v', e1, e2.up u⟩
      has := g.z.fm.has
      own := by
        intro y c ec
        obtain ⟨a, b, d', cv, o, ho, hd⟩ := g.z.fm.own y c ec
        exact ⟨a, b, d', cv, o, hk _ _ (nI _ (.inr ⟨_, ec⟩)) ho, hd⟩
      loc := g.z.fm.loc
      apart := g.z.fm.apart }
  refine ⟨⟨Z', st', g.src.up (st.up hX), ?_, g.ln.step st, g.nx, g.lo⟩, st, st.up hX⟩
  exact g.un

theorem turn_item {v : AV} {v₀ : Value} {I : Nat} {fp : List Nat} {St : Nat → Heap → Prop} {xs : List AV} {σ₀ : Sto} {i : Nat} {av : AV} {x : String} {Q : Option Value → Shared → Prop} (W : Wk prog w cl base A v v₀ σ₀ xs I fp St)
    (g : Wkg prog w cl base env nm v v₀ I fp St i m ρ σ s.heap) (hs : storable nm (S x) = true) (hi : xs[i]? = some av) (hsame : sameSrc v σ₀ σ)
    (h : ∀ rv s₁, (∀ {px : Pos} {Q' : Unit → Shared → Prop}, (∀ s₂, Same s s₂ → Wkg prog w cl base env nm v v₀ I fp St (i + 1) (upd m x av) ρ σ s₂.heap → Step (Xi env nm x I) ρ σ s.heap ρ σ s₂.heap → Q' () s₂) →
      wpAny (model prog w) A (assign (.Name (S x) px) env rv) Q' E s₁) → Q (some rv) s₁) : wpAny (model prog w) A (pyNext (.ref I)) Q E s := by
  refine W.item hi g.at' g.z.rel g.src hsame fun rv h' tk hr st' sz hk => ?_
  obtain ⟨g', st1, up⟩ := g.next W st' sz hk
  refine h rv _ fun {px Q'} hQ => wpAny_assign_Name (op_store (s := { s with heap := h', toks := tk }) g'.z hs (hr.up up) fun h2 tk2 Z2 st2 => ?_)
  exact hQ { s with heap := h2, toks := tk2 } ⟨rfl, rfl, rfl⟩ (g'.stepX W Z2 (st2.mono fun _ q => q.xf)) ((st1.mono fun _ q => .inl q).trans (st2.mono fun _ q => .inr q))

theorem turn_done {v : AV} {v₀ : Value} {I : Nat} {fp : List Nat} {St : Nat → Heap → Prop} {xs : List AV} {σ₀ : Sto} {Q : Option Value → Shared → Prop} (W : Wk prog w cl base A v v₀ σ₀ xs I fp St)
    (g : Wkg prog w cl base env nm v v₀ I fp St xs.length m ρ σ s.heap) (hsame : sameSrc v σ₀ σ)
    (h : ∀ s₁, Same s s₁ → Stt prog w cl base env nm m ρ σ s₁.heap → Step (fun b => b = I) ρ σ s.heap ρ σ s₁.heap → Q none s₁) : wpAny (model prog w) A (pyNext (.ref I)) Q E s := by
  refine W.done g.at' g.z.rel g.src hsame fun h' tk sz hk => ?_
  have nI : ∀ b, Xf env b → b ≠ I := fun b hb q => g.nx (q ▸ hb)
  have hX : ∀ (b : Nat) vs, b = I → IsTup s.heap b vs → False := by
    rintro b vs rfl ⟨o, ho, hc, _⟩
    obtain ⟨o', ho', hc'⟩ := W.here _ s.heap g.at'
    rw [ho] at ho'; cases ho'
    exact hc' hc
  obtain ⟨R, st⟩ := g.z.rel.frame (X := fun b => b = I) (h' := h') hX (fun b hb => hb ▸ g.un) (fun b o e hb => hk b o hb e) (fun b hb => hb ▸ g.lo) sz
  have u := st.up hX
  refine h { s with heap := h', toks := tk } ⟨rfl, rfl, rfl⟩ ⟨R, ?_⟩ st
  exact {
    kind := g.z.fm.kind, names := g.z.fm.names, glob := g.z.fm.glob, blt := g.z.fm.blt
    ns := by
        obtain ⟨ml, ⟨o, es, ep, ho, r1⟩, r2⟩ := g.z.fm.ns
        refine ⟨ml, ⟨o, es, ep, hk _ _ (nI _ (.inl rfl)) ho, r1⟩, fun y a ea hp k => ?_⟩
        obtain ⟨v', e1, e2⟩ := r2 y a ea hp k
        exact ⟨v', e1, e2.up u⟩
    cell := by
        intro y c ec
        obtain ⟨cv, ⟨o, ho, hd⟩, r'⟩ := g.z.fm.cell y c ec
        refine ⟨cv, ⟨o, hk _ _ (nI _ (.inr ⟨_, mem_of_lookup ec⟩)) ho, hd⟩, fun a ea k => ?_⟩
        obtain ⟨v', e1, e2⟩ := r' a ea k
        exact ⟨v', e1, e2.up u⟩
    has := g.z.fm.has
    own := by
        intro y c ec
        obtain ⟨a, b, d', cv, o, ho, hd⟩ := g.z.fm.own y c ec
        exact ⟨a, b, d', cv, o, hk _ _ (nI _ (.inr ⟨_, ec⟩)) ho, hd⟩
    loc := g.z.fm.loc
    apart := g.z.fm.apart }
end
end Gc
end
/- GcB12 -/
section
set_option maxRecDepth 100000
namespace Gc
open PySem PySem.W PySem.Calls PyProof.Rows

noncomputable def clo (cs : List (Str × Nat)) : List (Str × NameKind) → List (Str × Nat) → List (Str × Nat)
  | [], acc => acc
  | (n, k) :: r, acc => if k == .free then (match cs.lookup n with | some c => clo cs r ((n, c) :: acc) | none => clo cs r acc) else clo cs r acc

theorem clo_mem {cs : List (Str × Nat)} : ∀ {l acc} {p : Str × Nat}, p ∈ clo cs l acc → p ∈ acc ∨ ((p.1, NameKind.free) ∈ l ∧ cs.lookup p.1 = some p.2)
  | [], acc, p, h => .inl h
  | (n, k) :: r, acc, p, h => by
    unfold clo at h
    by_cases hk : (k == NameKind.free) = true
    · rw [if_pos hk] at h
      have hk' : k = .free := by simpa using hk
      split at h
      · rename_i c e
        rcases clo_mem h with h | h
        · rcases List.mem_cons.mp h with rfl | h
          · exact .inr ⟨by subst hk'; exact .head _, e⟩
          · exact .inl h
        · exact .inr ⟨.tail _ h.1, h.2⟩
      · rcases clo_mem h with h | h
        · exact .inl h
        · exact .inr ⟨.tail _ h.1, h.2⟩
    · rw [if_neg hk] at h
      rcases clo_mem h with h | h
      · exact .inl h
      · exact .inr ⟨.tail _ h.1, h.2⟩
theorem clo_keep {cs : List (Str × Nat)} : ∀ {l acc} {p : Str × Nat}, p ∈ acc → p ∈ clo cs l acc
  | [], acc, p, h => h
  | (n, k) :: r, acc, p, h => by
    unfold clo
    split
    · split
      · exact clo_keep (.tail _ h)
      · exact clo_keep h
    · exact clo_keep h
theorem clo_has {cs : List (Str × Nat)} : ∀ {l acc} {y : Str} {c : Nat}, (y, NameKind.free) ∈ l → cs.lookup y = some c → (y, c) ∈ clo cs l acc
  | (n, k) :: r, acc, y, c, h, e => by
    unfold clo
    rcases List.mem_cons.mp h with h | h
    · cases h
      simp only [beq_self_eq_true, if_true, e]
      exact clo_keep (.head _)
    · split
      · split
        · exact clo_has h e
        · exact clo_has h e
      · exact clo_has h e
theorem clo_apart {cs : List (Str × Nat)} (hp : cs.Pairwise fun x y => x.2 ≠ y.2) : ∀ {l acc}, (l.map (·.1)).Nodup → (∀ p ∈ acc, cs.lookup p.1 = some p.2 ∧ p.1 ∉ l.map (·.1)) → acc.Pairwise (fun x y => x.2 ≠ y.2) → (clo cs l acc).Pairwise fun x y => x.2 ≠ y.2
  | [], acc, _, _, h => h
  | (n, k) :: r, acc, hn, ha, h => by
    unfold clo
    have hn' := List.nodup_cons.mp hn
    have ha' : ∀ p ∈ acc, cs.lookup p.1 = some p.2 ∧ p.1 ∉ r.map (·.1) := fun p hp => ⟨(ha p hp).1, fun q => (ha p hp).2 (.tail _ q)⟩
    split
    · split
      · rename_i c e
        refine clo_apart hp hn'.2 (fun p hp => ?_) (List.pairwise_cons.mpr ⟨fun q hq => ?_, h⟩)
        · rcases List.mem_cons.mp hp with rfl | hp
          · exact ⟨e, hn'.1⟩
          · exact ha' p hp
        · refine cells_apart hp (mem_of_lookup e) (mem_of_lookup (ha q hq).1) fun q' => (ha q hq).2 ?_
          rw [q']; exact .head _
      · exact clo_apart hp hn'.2 ha' h
    · exact clo_apart hp hn'.2 ha' h
theorem clo_lookup {cs : List (Str × Nat)} {l : List (Str × NameKind)} {y : Str} {c : Nat} (h : (y, NameKind.free) ∈ l) (e : cs.lookup y = some c) : (clo cs l []).lookup y = some c := by
  have hm := clo_has (acc := []) h e
  cases q : (clo cs l []).lookup y with
  | none =>
    have := List.lookup_eq_none_iff.mp q _ hm
    simp at this
  | some c' =>
    rcases clo_mem (mem_of_lookup q) with h | h
    · cases h
    · rw [h.2] at e; exact e

theorem closure_is {sc : Scope} {env : Env} (h : ∀ y ∈ sc.names, y.2 = .free → ∃ c, env.cells.lookup y.1 = some c) : closureFor sc env = pure (clo env.cells sc.names []) := by
  simp only [closureFor]
  have key : ∀ (l : List (Str × NameKind)) (acc : List (Str × Addr)), (∀ y ∈ l, y.2 = .free → ∃ c, env.cells.lookup y.1 = some c) →
      (forIn l acc fun x r => match x with | (name, kind) => (if (kind == NameKind.free) = true then do let a ← cellOf env name; pure (ForInStep.yield ((name, a) :: r)) else pure (ForInStep.yield r) : Sem (ForInStep (List (Str × Addr))))) = pure (clo env.cells l acc) := by
    intro l
    induction l with
    | nil => intro acc _; rfl
    | cons x r ih =>
      intro acc hl
      obtain ⟨n, k⟩ := x
      rw [List.forIn_cons]
      by_cases hk : (k == NameKind.free) = true
      · obtain ⟨c, hc⟩ := hl _ (.head _) (by simpa using hk)
        have e1 : clo env.cells ((n, k) :: r) acc = clo env.cells r ((n, c) :: acc) := by
          rw [show clo env.cells ((n, k) :: r) acc = _ from rfl]
          conv => lhs; unfold clo
          rw [if_pos hk]
          have hc' : env.cells.lookup n = some c := hc
          rw [hc']
        rw [e1, ← ih ((n, c) :: acc) fun y hy => hl y (.tail _ hy)]
        have hc' : env.cells.lookup n = some c := hc
        simp only [hk, if_true, cellOf, hc', pure_bind]
      · have e1 : clo env.cells ((n, k) :: r) acc = clo env.cells r acc := by
          conv => lhs; unfold clo
          rw [if_neg hk]
        rw [e1, ← ih acc fun y hy => hl y (.tail _ hy)]
        simp only [if_neg hk, pure_bind]
  have := key sc.names [] h
  rw [bind_pure]
  exact this

theorem innerNm_lookup {nm : Nm} {y : Str} : ∀ {l : Nm}, (innerNm nm l).lookup y = (l.lookup y).map fun k => if k == .free && nm.lookup y == some .cell then .cell else k
  | [] => rfl
  | (n, k) :: r => by
    have ih := @innerNm_lookup nm y r
    show List.lookup y ((if k == .free && nm.lookup n == some .cell then (n, .cell) else (n, k)) :: innerNm nm r) = _
    by_cases e : (y == n) = true
    · have e' : y = n := by simpa using e
      subst e'
      split <;> rename_i q
      · simp only [List.lookup_cons, beq_self_eq_true, Option.map_some, q, if_true]
      · simp only [List.lookup_cons, beq_self_eq_true, Option.map_some]
        rw [if_neg q]
    · have e' : (y == n) = false := by simpa using e
      split
      · simp only [List.lookup_cons, e']; exact ih
      · simp only [List.lookup_cons, e']; exact ih

section
variable {prog : Program} {w : World} {cl fa : String → Nat} {base : Heap} {K : Frag} {F : FnSem} {d : Nat} {A : Around} {env : Env} {nm : Nm} {m : Loc} {ρ : Rho} {σ : Sto} {s : Shared} {E : Value → Shared → Prop}

structure ScopeOk (nm : Nm) (x : Str) (sc : Scope) : Prop where
  kind : sc.kind = .function
  noCell : ∀ y ∈ sc.names, y.2 ≠ .cell
  loc : ∀ y ∈ sc.names, y.2 = .local → sc.names.lookup y.1 = some .local
  isx : sc.names.lookup x = some .local
  free : ∀ y ∈ sc.names, y.2 = .free → nm.lookup y.1 = some .cell
  all : ∀ y ∈ sc.names, sc.names.lookup y.1 = some y.2
  only : ∀ y ∈ sc.names, y.2 = .local → y.1 = x ∨ y.1 = (".0" : Str)
  nodup : (sc.names.map (·.1)).Nodup
theorem scopeOk_of {x : Str} {sc : Scope} (h : scopeOk nm x sc = true) : ScopeOk nm x sc := by
  simp only [scopeOk, Bool.and_eq_true, beq_iff_eq, List.all_eq_true, Bool.not_eq_true', Bool.or_eq_true, beq_eq_false_iff_ne, decide_eq_true_eq] at h
  obtain ⟨⟨⟨⟨⟨⟨⟨h1, h2⟩, h3⟩, h4⟩, h5⟩, h6⟩, h7⟩, h8⟩ := h
  refine ⟨h1, h2, fun y hy e => (h3 y hy).resolve_left fun q => q e, h4, fun y hy e => (h5 y hy).resolve_left fun q => q e, h6, fun y hy e => ?_, h8⟩
  rcases h7 y hy with (q | q) | q
  · exact absurd e q
  · exact .inl q
  · exact .inr q

theorem comp_frame {sc : Scope} {x : String} {C : Nat} {h h' : Heap} (O : ScopeOk nm (S x) sc) (Z : Stt prog w cl base env nm m ρ σ h) (hC : h.objs.size ≤ C) (hns : h'.Ns C fun _ => none) (hk : ∀ (b : Nat) o, h.get? b = some o → h'.get? b = some o) (sz : h.objs.size ≤ h'.objs.size) :
    Fm base (compEnvC sc (clo env.cells sc.names []) C env) (innerNm nm sc.names) (fun y => if y = x then none else m y) ρ h' := by
  have u : Up ρ h ρ h' := (Step.pushed (X := No) (σ := σ) hk sz).up0
  have sub : ∀ {y : Str} {c : Nat}, (y, c) ∈ clo env.cells sc.names [] → (y, NameKind.free) ∈ sc.names ∧ env.cells.lookup y = some c := fun hm => by
    rcases clo_mem hm with h | h
    · cases h
    · exact h
  refine ⟨O.kind, ?_, Z.fm.glob, Z.fm.blt, ⟨_, hns, fun y a ea hp k => ?_⟩, fun y c ec => ?_, fun y k => ?_, fun y c hm => ?_, ⟨fun a x' d' ea => ?_, ?_⟩, ?_⟩
  · show (sc.names.map fun (n, k) => if (k == .free && env.scope.kind == .function && env.kindOf n == some .cell) then (n, .cell) else (n, k)) = innerNm nm sc.names
    unfold innerNm
    refine List.map_congr_left fun p _ => ?_
    obtain ⟨n, k⟩ := p
    have e1 : (env.scope.kind == ScopeKind.function) = true := by rw [Z.fm.kind]; rfl
    have e2 : env.kindOf n = nm.lookup n := by unfold Env.kindOf; rw [Z.fm.names]
    simp only [e1, e2, Bool.and_true]
  · rw [innerNm_lookup] at k
    exfalso
    by_cases e : y = x
    · rw [if_pos e] at ea; cases ea
    · cases q : sc.names.lookup (S y) with
      | none => rw [q] at k; cases k
      | some k' =>
        rw [q] at k
        simp only [Option.map_some, Option.some.injEq] at k
        have hk' : k' = .local := by
          split at k
          · cases k
          · exact k
        rcases O.only _ (mem_of_lookup q) hk' with q' | q'
        · exact e (S_inj q')
        · simp only [plainName, Bool.and_eq_true, Bool.not_eq_true', beq_eq_false_iff_ne] at hp
          exact hp.2 q'
  · obtain ⟨hf, hl⟩ := sub (mem_of_lookup ec)
    obtain ⟨cv, ⟨o, ho, hd⟩, r⟩ := Z.fm.cell y c hl
    refine ⟨cv, ⟨o, hk _ _ ho, hd⟩, fun av ea _ => ?_⟩
    by_cases e : y = x
    · rw [if_pos e] at ea; cases ea
    · rw [if_neg e] at ea
      obtain ⟨v', e1, e2⟩ := r av ea (.inl (O.free _ hf rfl))
      exact ⟨v', e1, e2.up u⟩
  · rw [innerNm_lookup] at k
    cases q : sc.names.lookup y with
    | none => rw [q] at k; simp at k
    | some k' =>
      have hm := mem_of_lookup q
      rw [q] at k
      have hk' : k' = .free := by
        simp only [Option.map_some, Option.some.injEq] at k
        cases k' with
        | free => rfl
        | cell => exact absurd rfl (O.noCell _ hm)
        | _ => simp at k
      subst hk'
      obtain ⟨c, hc⟩ := Z.fm.has _ (.inl (O.free _ hm rfl))
      exact ⟨c, clo_lookup hm hc⟩
  · obtain ⟨a, b, lo, cv, o, ho, hd⟩ := Z.fm.own y c (mem_of_lookup (sub hm).2)
    refine ⟨a, fun e => ?_, lo, cv, o, hk _ _ ho, hd⟩
    have := hlt ho
    have e' : c = C := e
    lia
  · have := Z.rel.lo a x' d' ea
    show C ≠ x' ∧ C ≠ d'
    lia
  · exact Nat.le_trans Z.rel.blo hC
  · exact clo_apart Z.fm.apart O.nodup (fun p hp => by cases hp) .nil

theorem comp_loop {elt : Ex} {cond : AV → Sto → (Bool → Sto → Prop) → Prop} {te iter : PySem.Expr} {x : String} {px : Pos} {ifs : List PySem.Expr} {sc : Scope} {pos : Pos} {v : AV} {v₀ : Value} {σ₀ : Sto} {xs : List AV} {I : Nat} {fp : List Nat} {St : Nat → Heap → Prop}
    {cenv : Env} {k : Name} {D dD : Nat} {Q : AV → Sto → Prop} {R : Result → Shared → Prop} {mm : Loc} (hm : sysModules < base.objs.size) (hA : AOk A d) (W : Wk prog w cl base A v v₀ σ₀ xs I fp St)
    (hcond : ∀ {it : AV} {ρ : Rho} {τ : Sto} {s : Shared} {Q' : Bool → Sto → Prop} {Qv : Bool → Shared → Prop} {E : Value → Shared → Prop}, Stt prog w cl base cenv nm (upd m x it) ρ τ s.heap → cond it τ Q' → PostB prog w cl base ρ τ s Q' Qv →
      wpAny (model prog w) A (forIn ifs true fun c r => if r = true then do let ok ← isTrue c cenv (eval c cenv); pure (ForInStep.yield ok) else pure (ForInStep.yield r)) Qv E s)
    (helt : SE prog w cl base d F elt) (ce : chkE nm elt te = true) (hx : storable nm (S x) = true)
    (g : Wkg prog w cl base cenv nm v v₀ I fp St 0 mm ρ σ s.heap) (hmm : ∀ it, upd mm x it = upd m x it) (hk : ρ k = some (D, dD))
    (hw : compL cond (fun it τ Q' => wpE F elt (upd m x it) τ Q') (sameSrc v σ₀) k Q xs [] σ)
    (hR : ∀ τ ρ' s' mm', Q (.ref k) τ → Same s s' → Stt prog w cl base cenv nm mm' ρ' τ s'.heap → Step (Xi cenv nm x I) ρ σ s.heap ρ' τ s'.heap → R (.ok .next) s') :
    codeAny (model prog w) A (.compLoop (.ListComp te [⟨.Name (S x) px, iter, ifs, 0⟩] sc pos) 0 (.ref I) (.ref D) cenv) R s := by
  obtain ⟨J, J0, Js, Jt, Je⟩ := hw
  refine codeAny_compLoop_tests
    (fun n s' => ∃ i acc τ ρ' mm', n = xs.length + 1 - i ∧ i ≤ xs.length ∧ Wkg prog w cl base cenv nm v v₀ I fp St i mm' ρ' τ s'.heap ∧ (∀ it, upd mm' x it = upd m x it) ∧
      J (xs.drop i) acc τ ∧ Same s s' ∧ Step (Xi cenv nm x I) ρ σ s.heap ρ' τ s'.heap) ?_ (xs.length + 1)
    ⟨0, [], σ, ρ, mm, rfl, Nat.zero_le _, g, hmm, J0, .refl, .refl⟩
  rintro n s' ⟨i, acc, τ, ρ', mm', rfl, hi, g, hmm, hw, sm, st⟩
  by_cases hlt : i < xs.length
  · rw [List.drop_eq_getElem_cons hlt] at hw
    refine turn_item W g hx (List.getElem?_eq_getElem hlt) (Js _ _ _ hw).1 fun rv s₁ hass => ?_
    refine hass fun s₂ sm2 g2 st2 => ?_
    rw [hmm] at g2
    refine hcond g2.z (Jt _ _ _ _ hw) fun b ρ3 τ3 s3 p sm3 R3 st3 => ?_
    have g3 := g2.step W R3 st3
    have stt : Step (Xi cenv nm x I) ρ σ s.heap ρ3 τ3 s3.heap := (st.trans st2).trans (st3.mono fun _ q => q.elim)
    have hup : ∀ it, upd (upd m x xs[i]) x it = upd m x it := fun it => by
      funext y
      simp only [upd_if]
      split <;> rfl
    cases b with
    | false =>
      rw [if_neg (by decide)]
      exact ⟨xs.length + 1 - (i + 1), by lia, i + 1, acc, τ3, ρ3, _, rfl, hlt, g3, hup, p, (sm.trans sm2).trans sm3, stt⟩
    | true =>
      rw [if_pos rfl]
      refine helt hA ce g3.z p fun v4 rv4 ρ4 τ4 s4 p sm4 R4 st4 hv4 => ?_
      obtain ⟨e4, l4, p⟩ := p
      have g4 := g3.step W R4 st4
      have stt4 := stt.trans (st4.mono fun _ q => q.elim)
      have hk4 : ρ4 k = some (D, dD) := stt4.ext _ _ hk
      refine op_meth (m := .append) (k := true) (a := .ref k) (as := [v4]) (P := fun _ τ' => J (xs.drop (i + 1)) (acc ++ [v4]) τ') hm R4 (.ref hk4) (.cons hv4 .nil)
        (by simp [kindOf, e4]) ⟨acc, e4, l4, p⟩ fun r5 rv5 ρ5 τ5 s5 p sm5 R5 st5 _ => ?_
      exact ⟨xs.length + 1 - (i + 1), by lia, i + 1, _, τ5, ρ5, _, rfl, hlt, g4.step W R5 st5, hup, p, (((sm.trans sm2).trans sm3).trans sm4).trans sm5, stt4.trans (st5.mono fun _ q => q.elim)⟩
  · have e : i = xs.length := by lia
    subst e
    rw [List.drop_length] at hw
    refine turn_done W g (Js _ _ _ hw).1 fun s₁ sm1 Z1 st1 => ?_
    exact hR τ ρ' s₁ mm' (Je _ _ hw) (sm.trans sm1) Z1 (st.trans (st1.mono fun _ q => .inl q))

theorem comp_core {elt src : Ex} {cond : AV → Sto → (Bool → Sto → Prop) → Prop} {te iter : PySem.Expr} {x : String} {px : Pos} {ifs : List PySem.Expr} {sc : Scope} {pos : Pos} {Q : AV → Sto → Prop} {RR : Value → Nat → Result → Shared → Prop}
    (hm : sysModules < base.objs.size) (hA : AOk A d) (O : ScopeOk nm (S x) sc) (hsrc : SSrc prog w cl base d F src) (csrc : chkSrc nm src iter = true)
    (hcond : ∀ {cenv : Env} {it : AV} {ρ : Rho} {τ : Sto} {s : Shared} {Q' : Bool → Sto → Prop} {Qv : Bool → Shared → Prop} {E : Value → Shared → Prop}, Stt prog w cl base cenv (innerNm nm sc.names) (upd m x it) ρ τ s.heap → cond it τ Q' → PostB prog w cl base ρ τ s Q' Qv →
      wpAny (model prog w) A (forIn ifs true fun c r => if r = true then do let ok ← isTrue c cenv (eval c cenv); pure (ForInStep.yield ok) else pure (ForInStep.yield r)) Qv E s)
    (helt : SE prog w cl base d F elt) (ce : chkE (innerNm nm sc.names) elt te = true) (Z : Stt prog w cl base env nm m ρ σ s.heap)
    (hq : wpSrc F src m σ fun v xs σ' => frz v σ' = σ' ∧ wpNew σ' (.list []) fun k σ'' => compL cond (fun it τ Q' => wpE F elt (upd m x it) τ Q') (sameSrc v σ') k Q xs [] σ'')
    (hR : ∀ k τ ρ' s' C D, Q (.ref k) τ → Same s s' → Rel prog w cl base ρ' τ s'.heap → Step No ρ σ s.heap ρ' τ s'.heap → VRel ρ' s'.heap (.ref k) (.ref D) → (∃ m, s'.heap.Ns C m) → Unowned ρ' C → s.heap.objs.size ≤ C → RR (.ref D) C (.ok .next) s') :
    wpAny (model prog w) A (eval iter env) (fun x₁ s₁ => wpAny (model prog w) A (pyIter x₁) (fun it s₂ => wpAny (model prog w) A (newList []) (fun acc s₃ =>
      wpAny (model prog w) A (newFunctionEnv sc env.globals (clo env.cells sc.names []) [] env.qual none .none (some env)) (fun cenv s₄ =>
        codeAny (model prog w) A (.compStart (.ListComp te [⟨.Name (S x) px, iter, ifs, 0⟩] sc pos) 0 it acc { cenv with scope := relabel sc env }) (RR acc cenv.locals) s₄) E s₃) E s₂) E s₁) E s := by
  refine hsrc hA csrc Z hq fun v v₀ xs I fp St ρ1 σ1 s1 q sm1 Z1 st1 W hst hv0 un ln nx lo hI => ?_
  obtain ⟨hfz, hn⟩ := q
  rw [hfz] at W ln
  have hkp : ∀ (b : Nat) o, s1.heap.get? b = some o → (s1.heap.push { cls := .type "list", dict := none, data := .seq ([] : List Value).toArray }).get? b = some o := fun b o e => Heap.get?_push_of_some _ e
  have szp : (s1.heap.push { cls := .type "list", dict := none, data := .seq ([] : List Value).toArray }).objs.size = s1.heap.objs.size + 1 := Heap.size_push ..
  refine wpAny_newObj_type ?_
  obtain ⟨k, σ2, ρ2, hw, ek, _, _, eρ, R2, st2⟩ := Z1.rel.new (x := s1.heap.objs.size) (d := s1.heap.objs.size) (h' := s1.heap.push { cls := .type "list", dict := none, data := .seq ([] : List Value).toArray }) hn (Nat.le_refl _) (Nat.le_refl _) (by rw [szp]; exact Nat.lt_succ_self _)
    (by rw [szp]; exact Nat.lt_succ_self _) hkp (by rw [szp]; exact Nat.le_succ _) fun ρ' u => ⟨Nat.zero_le _, [], _, IsL.new _ _, .nil⟩
  refine wpAny_newFunctionEnv O.noCell (by intro y hy; cases hy) (fun h₁ hns₁ hsb₁ => ?_) O.kind
  dsimp only at hns₁ hsb₁ ⊢
  generalize hH2 : s1.heap.push { cls := .type "list", dict := none, data := .seq ([] : List Value).toArray } = H2 at hns₁ hsb₁ hkp szp R2 st2 ⊢
  have hk3 : ∀ (b : Nat) o, H2.get? b = some o → h₁.get? b = some o := fun b o e => (hsb₁.2 b (Nat.ne_of_lt (hlt e))).trans (Heap.get?_push_of_some _ e)
  have sz3 : H2.objs.size ≤ h₁.objs.size := by rw [hsb₁.1, Heap.size_push]; exact Nat.le_succ _
  have Z2 := Z1.step R2 st2
  have F3 := comp_frame O Z2 (Nat.le_refl _) hns₁ hk3 sz3
  have R3 : Rel prog w cl base ρ2 σ2 h₁ := R2.grown hk3 sz3
  have st3 : Step No ρ2 σ2 H2 ρ2 σ2 h₁ := .pushed hk3 sz3
  have st13 : Step No ρ1 σ1 s1.heap ρ2 σ2 h₁ := st2.trans st3
  obtain ⟨oI, hoI, _⟩ := W.here 0 _ hst
  have hIlt := hlt hoI
  have g : Wkg prog w cl base (compEnvC sc (clo env.cells sc.names []) H2.objs.size env) (innerNm nm sc.names) v v₀ I fp St 0 (fun y => if y = x then none else m y) ρ2 σ2 h₁ :=
    { z := ⟨R3, F3⟩
      at' := W.frame 0 _ _ hst fun b hb o e => hk3 b o (hkp b o e)
      src := hv0.up st13.up0
      un := st13.unowned hIlt un
      ln := fun b hb => by
        obtain ⟨l1, l2, l3⟩ := ln b hb
        refine ⟨by have := st13.sz; lia, st13.safe l1 l2, fun hx => ?_⟩
        rcases hx with e | ⟨y, hy⟩
        · have : b = H2.objs.size := e
          lia
        · rcases clo_mem hy with h | h
          · cases h
          · exact l3 (.inr ⟨y, mem_of_lookup h.2⟩)
      nx := fun hx => by
        rcases hx with e | ⟨y, hy⟩
        · have : I = H2.objs.size := e
          lia
        · rcases clo_mem hy with h | h
          · cases h
          · exact nx (.inr ⟨y, mem_of_lookup h.2⟩)
      lo := lo }
  have sxI : storable (innerNm nm sc.names) (S x) = true := by
    have e : (innerNm nm sc.names).lookup (S x) = some .local := by rw [innerNm_lookup, O.isx]; rfl
    unfold storable
    rw [e]; rfl
  have loop : ∀ s₃ : Shared, s₃ = { s1 with heap := h₁, toks := s1.toks + ([] : List (Str × Value)).length } →
      codeAny (model prog w) A (.compLoop (.ListComp te [⟨.Name (S x) px, iter, ifs, 0⟩] sc pos) 0 (.ref I) (.ref s1.heap.objs.size) (compEnvC sc (clo env.cells sc.names []) H2.objs.size env)) (RR (.ref s1.heap.objs.size) H2.objs.size) s₃ := by
    rintro s₃ rfl
    refine comp_loop (m := m) (s := { s1 with heap := h₁, toks := s1.toks + ([] : List (Str × Value)).length }) hm hA W hcond helt ce sxI g (fun it => ?_) eρ hw fun τ ρ' s' mm' hQ sm Zc st => ?_
    · funext y
      simp only [upd_if]
      by_cases e : y = x
      · rw [if_pos e, if_pos e]
      · simp only [if_neg e]
    · have hXlo : ∀ b, Xi (compEnvC sc (clo env.cells sc.names []) H2.objs.size env) (innerNm nm sc.names) x I b → s.heap.objs.size ≤ b := fun b hb => by
        rcases hb with rfl | ⟨_, e⟩ | ⟨e, _⟩
        · exact hI
        · have : b = H2.objs.size := e
          have := st1.sz
          lia
        · rw [innerNm_lookup, O.isx] at e; cases e
      have stA : Step No ρ σ s.heap ρ' τ s'.heap := (((st1.trans st13).mono fun _ q => q.elim).trans st).low hXlo
      obtain ⟨ml, hml, _⟩ := Zc.fm.ns
      have sm0 : Same s1 { s1 with heap := h₁, toks := s1.toks + ([] : List (Str × Value)).length } := ⟨rfl, rfl, rfl⟩
      exact hR k τ ρ' s' H2.objs.size s1.heap.objs.size hQ ((sm1.trans sm0).trans sm) Zc.rel stA (.ref (st.ext _ _ eρ)) ⟨ml, hml⟩ Zc.fm.loc.1 (by have := st1.sz; lia)
  exact codeAny_compStart_list (loop _ rfl) (W.self g.at' (loop _ rfl))

theorem folded_of {iter : PySem.Expr} (h : notSet iter = true) : ∀ x, foldedSetIterable iter env x = pure x := by
  intro x
  cases iter <;> first | rfl | cases h

theorem comp_plain {elt src : Ex} {cond : AV → Sto → (Bool → Sto → Prop) → Prop} {te iter : PySem.Expr} {x : String} {px : Pos} {ifs : List PySem.Expr} {sc : Scope} {pos : Pos} {Q : AV → Sto → Prop} {Qv : Value → Shared → Prop}
    (hm : sysModules < base.objs.size) (hA : AOk A d) (O : ScopeOk nm (S x) sc) (hns : notSet iter = true) (hsrc : SSrc prog w cl base d F src) (csrc : chkSrc nm src iter = true)
    (hcond : ∀ {cenv : Env} {it : AV} {ρ : Rho} {τ : Sto} {s : Shared} {Q' : Bool → Sto → Prop} {Qv : Bool → Shared → Prop} {E : Value → Shared → Prop}, Stt prog w cl base cenv (innerNm nm sc.names) (upd m x it) ρ τ s.heap → cond it τ Q' → PostB prog w cl base ρ τ s Q' Qv →
      wpAny (model prog w) A (forIn ifs true fun c r => if r = true then do let ok ← isTrue c cenv (eval c cenv); pure (ForInStep.yield ok) else pure (ForInStep.yield r)) Qv E s)
    (helt : SE prog w cl base d F elt) (ce : chkE (innerNm nm sc.names) elt te = true) (Z : Stt prog w cl base env nm m ρ σ s.heap)
    (hq : wpSrc F src m σ fun v xs σ' => frz v σ' = σ' ∧ wpNew σ' (.list []) fun k σ'' => compL cond (fun it τ Q' => wpE F elt (upd m x it) τ Q') (sameSrc v σ') k Q xs [] σ'')
    (h : Post prog w cl base ρ σ s Q Qv) : wpAny (model prog w) A (eval (.ListComp te [⟨.Name (S x) px, iter, ifs, 0⟩] sc pos) env) Qv E s := by
  rw [eval_ListComp]
  refine wpAny_comprehension_free (use := none) rfl (folded_of hns) (closure_is fun y hy e => ?_) O.kind O.loc ?_
  · exact Z.fm.has _ (.inl (O.free y hy e))
  · refine comp_core (RR := fun acc C => compPost (model prog w) A E none Qv acc C) hm hA O hsrc csrc hcond helt ce Z hq fun k τ ρ' s' C D p sm R st hv hns un hC => ?_
    obtain ⟨ml, hns⟩ := hns
    refine ⟨ml, hns, fun h' sb => ?_⟩
    have hX : ∀ (b : Nat) vs, b = C → IsTup s'.heap b vs → False := by
      rintro b vs rfl ⟨o, ho, _, n, hd⟩
      obtain ⟨o', es, ep, ho', hd', _⟩ := hns
      rw [ho] at ho'; cases ho'
      rw [hd] at hd'; cases hd'
    obtain ⟨R2, st2⟩ := R.frame (X := fun b => b = C) (h' := h') hX (fun b hb => hb ▸ un) (fun b o e hb => (sb.2 b hb).trans e) (fun b hb => by rw [hb]; exact Nat.le_trans Z.rel.blo hC) (Nat.le_of_eq sb.1.symm)
    have st3 : Step No ρ σ s.heap ρ' τ h' := ((st.mono fun _ q => q.elim).trans st2).low fun b hb => by rw [hb]; exact hC
    exact h _ _ ρ' τ { s' with heap := h' } p (sm.trans ⟨rfl, rfl, rfl⟩) R2 st3 (hv.up (st2.up hX))

theorem snd_comp {elt src cond : Ex} {x : String} (PR : Prg prog w cl fa base K) (hsrc : SSrc prog w cl base d F src) (hcond : ST prog w cl base d F cond) (helt : SE prog w cl base d F elt) : SE prog w cl base d F (.comp elt x src cond) := by
  intro A env nm m ρ σ s E Qv Q t hA hc Z hq h
  refine xComp_e hc fun elt gs sc p hc => l1_e hc fun g hc => gen_e hc fun t iter ifs hc => xName_e hc fun id np hc => l1_e hc fun c hc => band6 hc fun hx h1 h2 h3 h4 h5 => beq_e hx ?_
  · exact comp_plain PR.hm hA (scopeOk_of h1) h2 hsrc h3 (fun Z hq h => wpAny_tests_one (hcond hA h5 Z hq h)) helt h4 Z ((src_of_plain hq.1).mpr hq.2) h
theorem snd_compAll {elt src : Ex} {x : String} (PR : Prg prog w cl fa base K) (hsrc : SSrc prog w cl base d F src) (helt : SE prog w cl base d F elt) : SE prog w cl base d F (.compAll elt x src) := by
  intro A env nm m ρ σ s E Qv Q t hA hc Z hq h
  replace hq := src_of_all hq
  refine xComp_e hc fun elt gs sc p hc => l1_e hc fun g hc => gen_e hc fun t iter ifs hc => xName_e hc fun id np hc => band6 hc fun hi hx h1 h2 h3 h4 => beq_e hx (l0_e hi ?_)
  · exact comp_plain PR.hm hA (scopeOk_of h1) h2 hsrc h3 (fun Z hq h => wpAny_tests_nil (h true _ _ _ hq .refl Z.rel .refl)) helt h4 Z hq h
end
end Gc
end
/- GcB13 -/
section
set_option maxRecDepth 100000
namespace Gc
open PySem PySem.W PySem.Calls PyProof.Rows

inductive FlowR (ρ : Rho) (h : Heap) : Out → Flow → Prop
  | next : FlowR ρ h .next .next
  | ret {v : AV} {rv : Value} : VRel ρ h v rv → FlowR ρ h (.ret v) (.ret rv)

section
variable (prog : Program) (w : World) (cl : String → Nat) (base : Heap)
noncomputable def PostS (env : Env) (nm : Nm) (ρ : Rho) (σ : Sto) (s : Shared) (Q : Out → Loc → Sto → Prop) (Qf : Flow → Shared → Prop) : Prop :=
  ∀ o f m' ρ' σ' s', Q o m' σ' → Same s s' → Stt prog w cl base env nm m' ρ' σ' s'.heap → Step (Xf env) ρ σ s.heap ρ' σ' s'.heap → FlowR ρ' s'.heap o f → Qf f s'
noncomputable def SS (d : Nat) (F : FnSem) (st : St) : Prop :=
  ∀ ⦃A : Around⦄ ⦃env : Env⦄ ⦃nm : Nm⦄ ⦃m : Loc⦄ ⦃ρ : Rho⦄ ⦃σ : Sto⦄ ⦃s : Shared⦄ ⦃E : Value → Shared → Prop⦄ ⦃Qf : Flow → Shared → Prop⦄ ⦃Q : Out → Loc → Sto → Prop⦄ ⦃t : Stmt⦄, AOk A d → chkS nm st t = true → Stt prog w cl base env nm m ρ σ s.heap → wpS F st m σ Q →
    PostS prog w cl base env nm ρ σ s Q Qf → wpAny (model prog w) A (exec t env) Qf E s
noncomputable def SSs (d : Nat) (F : FnSem) (ss : Sts) : Prop :=
  ∀ ⦃A : Around⦄ ⦃env : Env⦄ ⦃nm : Nm⦄ ⦃m : Loc⦄ ⦃ρ : Rho⦄ ⦃σ : Sto⦄ ⦃s : Shared⦄ ⦃E : Value → Shared → Prop⦄ ⦃Qf : Flow → Shared → Prop⦄ ⦃Q : Out → Loc → Sto → Prop⦄ ⦃ts : List Stmt⦄, AOk A d → chkSs nm ss ts = true → Stt prog w cl base env nm m ρ σ s.heap → wpSs F ss m σ Q →
    PostS prog w cl base env nm ρ σ s Q Qf → wpAny (model prog w) A (execs ts env) Qf E s
end

section
variable {prog : Program} {w : World} {cl fa : String → Nat} {base : Heap} {K : Frag} {F : FnSem} {d : Nat} {A : Around} {env : Env} {nm : Nm} {m : Loc} {ρ : Rho} {σ : Sto} {s : Shared} {E : Value → Shared → Prop} {Qf : Flow → Shared → Prop} {Q : Out → Loc → Sto → Prop}

theorem PostS.then {ρ' : Rho} {σ' : Sto} {s' : Shared} (h : PostS prog w cl base env nm ρ σ s Q Qf) (sm : Same s s') (st : Step (Xf env) ρ σ s.heap ρ' σ' s'.heap) : PostS prog w cl base env nm ρ' σ' s' Q Qf :=
  fun o f m' ρ'' σ'' s'' p sm' Z st' fr => h o f m' ρ'' σ'' s'' p (sm.trans sm') Z (st.trans st') fr
theorem Step.toX {X : Nat → Prop} {ρ' : Rho} {σ' : Sto} {h h' : Heap} (st : Step No ρ σ h ρ' σ' h') : Step X ρ σ h ρ' σ' h' := st.mono fun _ q => q.elim
theorem PostS.nx {ρ' : Rho} {σ' : Sto} {s' : Shared} (h : PostS prog w cl base env nm ρ σ s Q Qf) (Z : Stt prog w cl base env nm m ρ σ s.heap) (p : Q .next m σ') (sm : Same s s') (R : Rel prog w cl base ρ' σ' s'.heap) (st : Step No ρ σ s.heap ρ' σ' s'.heap) : Qf .next s' :=
  h .next .next m ρ' σ' s' p sm (Z.step R st) st.toX .next

theorem Same.tk {s : Shared} {t : Nat} : Same s { s with toks := t } := ⟨rfl, rfl, rfl⟩
theorem noSwap {v : PySem.Expr} {t : Option PySem.Expr} {l : Nat} (h : notComp v = true) : swapsWith v t l env = pure false := by
  cases v <;> first | rfl | cases h
theorem fn_inter (h : env.scope.kind = .function) : interactive env = false := by
  unfold interactive; rw [h]; rfl

theorem sst_expr {e : Ex} (ih : SE prog w cl base d F e) : SS prog w cl base d F (.expr e) := by
  intro A env nm m ρ σ s E Qf Q t hA hc Z hq h
  refine sExpr_e hc fun v p hc => band2 hc fun h1 h2 => ?_
  · exact wpAny_Expr_any (ih hA h2 Z hq fun v rv ρ1 σ1 s1 p sm1 R1 st1 hv => h.nx Z p sm1 R1 st1) (fn_inter Z.fm.kind) (noSwap h1)

theorem sst_ret {e : Ex} (ih : SE prog w cl base d F e) : SS prog w cl base d F (.ret e) := by
  intro A env nm m ρ σ s E Qf Q t hA hc Z hq h
  refine sRet_e hc fun v p hc => o1_e hc fun v hc => ?_
  · exact wpAny_Return_some (ih hA hc Z hq fun v rv ρ1 σ1 s1 p sm1 R1 st1 hv => h _ _ m ρ1 σ1 s1 p sm1 (Z.step R1 st1) st1.toX (.ret hv))
theorem sst_ret0 : SS prog w cl base d F .ret0 := by
  intro A env nm m ρ σ s E Qf Q t hA hc Z hq h
  refine sRet_e hc fun v p hc => o0_e hc ?_
  · exact wpAny_Return_none (h _ _ m ρ σ s hq .refl Z .refl (.ret .none))
theorem sst_dead : SS prog w cl base d F .dead := by
  intro A env nm m ρ σ s E Qf Q t hA hc Z hq h
  exact hq.elim

theorem Xs.toXf {x : String} {ρ' : Rho} {σ' : Sto} {h h' : Heap} (st : Step (Xs env nm x) ρ σ h ρ' σ' h') : Step (Xf env) ρ σ h ρ' σ' h' := st.mono fun _ q => q.xf

theorem sst_set {x : String} {e : Ex} (hn : isComp e = false) (ih : SE prog w cl base d F e) : SS prog w cl base d F (.set x e) := by
  intro A env nm m ρ σ s E Qf Q t hA hc Z hq h
  refine sAsg_e hc fun ts v p hc => l1_e hc fun t hc => xName_e hc fun id np hc => band4 hc fun hx h1 h2 h3 => beq_e hx ?_
  rw [hn] at h2
  refine band2 h2 fun h2 _ => ?_
  · refine wpAny_Assign_Name (ih hA h3 Z hq fun v rv ρ1 σ1 s1 p sm1 R1 st1 hv => ?_) (noSwap h2)
    exact op_store (Z.step R1 st1) h1 hv fun h' tk Z2 st2 => h _ _ _ ρ1 σ1 { s1 with heap := h', toks := tk } p (sm1.trans ⟨rfl, rfl, rfl⟩) Z2 (st1.toX.trans (Xs.toXf st2)) .next

theorem comp_bound {elt src : Ex} {cond : AV → Sto → (Bool → Sto → Prop) → Prop} {te iter : PySem.Expr} {x y : String} {px py : Pos} {ifs : List PySem.Expr} {sc : Scope} {pos spos : Pos} {Q' : AV → Sto → Prop}
    (hm : sysModules < base.objs.size) (hA : AOk A d) (O : ScopeOk nm (S x) sc) (hns : notSet iter = true) (hsrc : SSrc prog w cl base d F src) (csrc : chkSrc nm src iter = true)
    (hcond : ∀ {cenv : Env} {it : AV} {ρ : Rho} {τ : Sto} {s : Shared} {Q' : Bool → Sto → Prop} {Qv : Bool → Shared → Prop} {E : Value → Shared → Prop}, Stt prog w cl base cenv (innerNm nm sc.names) (upd m x it) ρ τ s.heap → cond it τ Q' → PostB prog w cl base ρ τ s Q' Qv →
      wpAny (model prog w) A (forIn ifs true fun c r => if r = true then do let ok ← isTrue c cenv (eval c cenv); pure (ForInStep.yield ok) else pure (ForInStep.yield r)) Qv E s)
    (helt : SE prog w cl base d F elt) (ce : chkE (innerNm nm sc.names) elt te = true) (Z : Stt prog w cl base env nm m ρ σ s.heap)
    (hq : wpSrc F src m σ fun v xs σ' => frz v σ' = σ' ∧ wpNew σ' (.list []) fun k σ'' => compL cond (fun it τ Q' => wpE F elt (upd m x it) τ Q') (sameSrc v σ') k Q' xs [] σ'')
    (hy : storable nm (S y) = true) (hsw : swapOk nm (S y) py (.ListComp te [⟨.Name (S x) px, iter, ifs, 0⟩] sc pos) = true)
    (h : ∀ v m' ρ' σ' s', Q' v σ' → m' = upd m y v → Same s s' → Stt prog w cl base env nm m' ρ' σ' s'.heap → Step (Xf env) ρ σ s.heap ρ' σ' s'.heap → Qf .next s') :
    wpAny (model prog w) A (exec (.Assign [.Name (S y) py] (.ListComp te [⟨.Name (S x) px, iter, ifs, 0⟩] sc pos) spos) env) Qf E s := by
  have hsw' : swapsWith (.ListComp te [⟨.Name (S x) px, iter, ifs, 0⟩] sc pos) (some (.Name (S y) py)) spos.line env = pure true := by
    replace hsw : (nm.lookup (S y) == some .local && py.line == pos.line && !(sc.names.any fun z => z.1 == S y && (z.2 == .local || z.2 == .cell))) = true := hsw
    simp only [Bool.and_eq_true, beq_iff_eq, Bool.not_eq_true'] at hsw
    obtain ⟨⟨h1, h2⟩, h3⟩ := hsw
    have e1 : env.blockKind = .function := by unfold Env.blockKind; rw [Z.fm.kind]; rfl
    have e2 : env.kindOf (S y) = some .local := by unfold Env.kindOf; rw [Z.fm.names]; exact h1
    show (pure (env.blockKind == .function && env.kindOf (S y) == some .local && py.line == pos.line && !(sc.names.any fun (n, k) => n == S y && (k == .local || k == .cell))) : Sem Bool) = pure true
    rw [e1, e2, h2, h3]
    simp
  rw [exec_Assign_Name_used _ _ _ _ hsw']
  refine wpAny_bind (wpAny_standAt (wpAny_bind ?_))
  show wpAny _ A (do let _ ← comprehension (.ListComp te [⟨.Name (S x) px, iter, ifs, 0⟩] sc pos) sc env _ (newList []) false (eval iter env) (some (assign (.Name (S y) py) env))) _ _ s
  refine wpAny_bind (wpAny_mono (wpAny_comprehension_free (use := some (assign (.Name (S y) py) env)) (Q := fun _ s' => Qf .next s') rfl (folded_of hns) (closure_is fun y hy e => Z.fm.has _ (.inl (O.free y hy e))) O.kind O.loc ?_)
    (fun _ s' hq => wpAny_pure (wpAny_pure hq)) fun _ _ e => e)
  refine comp_core (RR := fun acc C => compPost (model prog w) A E (some (assign (.Name (S y) py) env)) (fun _ s' => Qf .next s') acc C) hm hA O hsrc csrc hcond helt ce Z hq fun k τ ρ' s' C D p sm R st hv hns un hC => ?_
  obtain ⟨ml, hns⟩ := hns
  have nC : ¬ Xf env C := fun hx => by have := (Z.fm.below hx).1; lia
  show wpAny _ A (assign (.Name (S y) py) env (.ref D)) _ _ s'
  refine wpAny_assign_Name (op_store (Z.step R st) hy hv fun h2 tk Z2 st2 => ?_)
  have hns2 : h2.Ns C ml := hns.at' fun o e => st2.keep _ _ e (fun q => nC q.xf) un.safe
  refine ⟨ml, hns2, fun h3 sb => ?_⟩
  have hX : ∀ (b : Nat) vs, b = C → IsTup h2 b vs → False := by
    rintro b vs rfl ⟨o, ho, _, n, hd⟩
    obtain ⟨o', es, ep, ho', hd', _⟩ := hns2
    rw [ho] at ho'; cases ho'
    rw [hd] at hd'; cases hd'
  have kp : ∀ (b : Nat) o, Xf env b → h2.get? b = some o → h3.get? b = some o := fun b o hb e => (sb.2 b fun q => nC (q ▸ hb)).trans e
  have Z2' : Stt prog w cl base env nm (upd m y (.ref k)) ρ' τ ({ s' with heap := h2, toks := tk } : Shared).heap := Z2
  obtain ⟨Z3, st3⟩ := Z2'.framed (X := fun b => b = C) (h' := h3) (m' := upd m y (.ref k)) hX (fun b hb => hb ▸ un) (fun b o e hb => (sb.2 b hb).trans e) (fun b hb => by rw [hb]; exact Nat.le_trans Z.rel.blo hC) (Nat.le_of_eq sb.1.symm) fun u =>
    { kind := Z2.fm.kind, names := Z2.fm.names, glob := Z2.fm.glob, blt := Z2.fm.blt
      ns := by
        obtain ⟨ml, ⟨o, es, ep, ho, r1⟩, r2⟩ := Z2.fm.ns
        refine ⟨ml, ⟨o, es, ep, kp _ _ (.inl rfl) ho, r1⟩, fun y a ea hp k => ?_⟩
        obtain ⟨v', e1, e2⟩ := r2 y a ea hp k
        exact ⟨v', e1, e2.up u⟩
      cell := by
        intro y c ec
        obtain ⟨cv, ⟨o, ho, hd⟩, r'⟩ := Z2.fm.cell y c ec
        refine ⟨cv, ⟨o, kp _ _ (.inr ⟨_, mem_of_lookup ec⟩) ho, hd⟩, fun a ea k => ?_⟩
        obtain ⟨v', e1, e2⟩ := r' a ea k
        exact ⟨v', e1, e2.up u⟩
      has := Z2.fm.has
      own := by
        intro y c ec
        obtain ⟨a, b, d', cv, o, ho, hd⟩ := Z2.fm.own y c ec
        exact ⟨a, b, d', cv, o, kp _ _ (.inr ⟨_, ec⟩) ho, hd⟩
      loc := Z2.fm.loc
      apart := Z2.fm.apart }
  have st4 : Step (Xf env) ρ σ s.heap ρ' τ h3 := by
    have a : Step (fun b => Xf env b ∨ b = C) ρ σ s.heap ρ' τ h3 := (st.toX.trans (st2.mono fun _ q => .inl q.xf)).trans (st3.mono fun _ q => .inr q)
    exact ⟨a.sz, fun b o e hx hu => a.keep b o e (fun q => q.elim hx fun q => by have := hlt e; lia) hu, a.ext, a.new, a.frz⟩
  exact h _ _ ρ' τ { s' with heap := h3, toks := tk } p rfl (sm.trans ⟨rfl, rfl, rfl⟩) Z3 st4

theorem sst_setComp {elt src cond : Ex} {x y : String} (PR : Prg prog w cl fa base K) (hsrc : SSrc prog w cl base d F src) (hcond : ST prog w cl base d F cond) (helt : SE prog w cl base d F elt) : SS prog w cl base d F (.set y (.comp elt x src cond)) := by
  intro A env nm m ρ σ s E Qf Q t hA hc Z hq h
  refine sAsg_e hc fun ts v p hc => l1_e hc fun t hc => xName_e hc fun id np hc => band4 hc fun hx h1 h2 h3 => beq_e hx ?_
  revert h2
  refine xComp_e h3 fun elt gs sc p h3 => l1_e h3 fun g h3 => gen_e h3 fun t iter ifs h3 => xName_e h3 fun id2 np2 h3 => l1_e h3 fun c h3 => band6 h3 fun hx g1 g2 g3 g4 g5 h2 => beq_e hx ?_
  refine comp_bound PR.hm hA (scopeOk_of g1) g2 hsrc g3 (fun Z hq h => wpAny_tests_one (hcond hA g5 Z hq h)) helt g4 Z ((src_of_plain hq.1).mpr hq.2) h1 h2 fun v m' ρ' σ' s' p e sm Z' st => ?_
  subst e
  exact h _ _ _ ρ' σ' s' p sm Z' st .next

theorem sst_setCompAll {elt src : Ex} {x y : String} (PR : Prg prog w cl fa base K) (hsrc : SSrc prog w cl base d F src) (helt : SE prog w cl base d F elt) : SS prog w cl base d F (.set y (.compAll elt x src)) := by
  intro A env nm m ρ σ s E Qf Q t hA hc Z hq h
  replace hq := src_of_all hq
  refine sAsg_e hc fun ts v p hc => l1_e hc fun t hc => xName_e hc fun id np hc => band4 hc fun hx h1 h2 h3 => beq_e hx ?_
  revert h2
  refine xComp_e h3 fun elt gs sc p h3 => l1_e h3 fun g h3 => gen_e h3 fun t iter ifs h3 => xName_e h3 fun id2 np2 h3 => band6 h3 fun hi hx g1 g2 g3 g4 => l0_e hi fun h2 => beq_e hx ?_
  refine comp_bound PR.hm hA (scopeOk_of g1) g2 hsrc g3 (fun Z hq h => wpAny_tests_nil (h true _ _ _ hq .refl Z.rel .refl)) helt g4 Z hq h1 h2 fun v m' ρ' σ' s' p e sm Z' st => ?_
  subst e
  exact h _ _ _ ρ' σ' s' p sm Z' st .next

theorem sst_setAttr {o e : Ex} {a : String} (PR : Prg prog w cl fa base K) (iho : SE prog w cl base d F o) (ih : SE prog w cl base d F e) : SS prog w cl base d F (.setAttr o a e) := by
  intro A env nm m ρ σ s E Qf Q t hA hc Z hq h
  refine sAsg_e hc fun ts v p hc => l1_e hc fun t hc => xAttr_e hc fun o n np hc => band4 hc fun hx h1 h2 h3 => beq_e hx ?_
  · refine plainObj_wpAny_Assign_Attribute (two ih iho hA h2 h3 Z hq fun v ov rv rov ρ1 σ1 s1 p sm1 R1 st1 hv hov => ?_) (noSwap h1)
    obtain ⟨n, rfl⟩ : ∃ n, ov = .ref n := by cases ov <;> first | exact ⟨_, rfl⟩ | exact p.elim
    obtain ⟨c, fs, e1, e2, e3, p⟩ := p
    refine op_setAttr R1 PR.X (PR.cls c (attrs_cls e2)) hov e1 e2 e3 hv fun s' sm2 R2 st2 => ?_
    exact h.nx Z p (sm1.trans sm2) R2 (st1.trans st2)

theorem sst_setSub {o i e : Ex} (iho : SE prog w cl base d F o) (ihi : SE prog w cl base d F i) (ih : SE prog w cl base d F e) : SS prog w cl base d F (.setSub o i e) := by
  intro A env nm m ρ σ s E Qf Q t hA hc Z hq h
  refine sAsg_e hc fun ts v p hc => l1_e hc fun t hc => xSub_e hc fun o i np hc => band5 hc fun h1 h2 h3 h4 h5 => ?_
  · refine wpAny_Assign_Subscript (ih hA h3 Z hq fun v rv ρ1 σ1 s1 p sm1 R1 st1 hv => ?_) (noSwap h2)
    refine two iho ihi hA h4 h5 (Z.step R1 st1) p fun ov iv rov riv ρ2 σ2 s2 p sm2 R2 st2 hov hiv => ?_
    exact op_setSub R2 hov hiv (hv.up st2.up0) p fun ρ3 σ3 s3 p sm3 R3 st3 => h.nx Z p ((sm1.trans sm2).trans sm3) R3 ((st1.trans st2).trans st3)

theorem sst_delSub {o i : Ex} (iho : SE prog w cl base d F o) (ihi : SE prog w cl base d F i) : SS prog w cl base d F (.delSub o i) := by
  intro A env nm m ρ σ s E Qf Q t hA hc Z hq h
  refine sDel_e hc fun ts p hc => l1_e hc fun t hc => xSub_e hc fun o i np hc => band3 hc fun h1 h2 h3 => ?_
  · refine wpAny_Delete (wpAny_deleteEach_cons ?_)
    rw [arm_delete_Subscript]
    have key := two (Qw := fun rov riv s' => wpAny (model prog w) A (delItem rov riv) (fun _ s'' => Qf .next s'') E s') iho ihi hA h2 h3 (E := E) Z hq fun ov iv rov riv ρ1 σ1 s1 p sm1 R1 st1 hov hiv =>
      op_delSub R1 hov hiv p fun ρ3 σ3 s3 p sm3 R3 st3 => h.nx Z p (sm1.trans sm3) R3 (st1.trans st3)
    refine wpAny_bind (wpAny_mono key (fun ov s1 h1 => wpAny_bind (wpAny_holding (wpAny_mono h1 (fun iv s2 h2 => wpAny_bind (wpAny_standAt (wpAny_bind (wpAny_holding (wpAny_mono h2 (fun _ s3 h3 => ?_) fun _ _ e => e))))) fun _ _ e => e))) fun _ _ e => e)
    exact wpAny_release (wpAny_deleteEach_nil h3)

theorem sst_aug {o e : Ex} {a : String} {op : Op} (PR : Prg prog w cl fa base K) (iho : SE prog w cl base d F o) (ih : SE prog w cl base d F e) : SS prog w cl base d F (.aug o a op e) := by
  intro A env nm m ρ σ s E Qf Q t hA hc Z hq h
  refine sAug_e hc fun t op v p hc => xAttr_e hc fun o n np hc => band4 hc fun hx h1 h2 h3 => beq_e hx ?_
  · refine wpAny_AugAssign_AttributeAny (iho hA h2 Z hq fun ov rov ρ1 σ1 s1 p sm1 R1 st1 hov => ?_)
    obtain ⟨old, e1, p⟩ := p
    obtain ⟨n, c, fs, rfl, e2, e3, e4⟩ := getsAttr_inv e1
    have C := PR.cls c (attrs_cls e4)
    refine op_getAttr R1 PR.X C hov e2 e4 e3 fun rold hold => ?_
    refine ih hA h3 (Z.step R1 st1) p fun v rv ρ2 σ2 s2 p sm2 R2 st2 hv => ?_
    obtain ⟨x, y, rfl, rfl, p⟩ := p
    have hold2 := hold.up st2.up0
    cases hold2
    cases hv
    refine op_inplace h1 R2 p fun r rr ρ3 σ3 s3 p sm3 R3 st3 hr => ?_
    obtain ⟨c', fs', e5, e6, e7, p⟩ := p
    refine op_setAttr R3 PR.X (PR.cls c' (attrs_cls e6)) ((hov.up st2.up0).up st3.up0) e5 e6 e7 hr fun s' sm4 R4 st4 => ?_
    exact h.nx Z p (((sm1.trans (Same.tk.trans sm2)).trans sm3).trans sm4) R4 (((st1.trans st2).trans st3).trans st4)

theorem sst_ite {t : Ex} {a b : Sts} (iht : ST prog w cl base d F t) (iha : SSs prog w cl base d F a) (ihb : SSs prog w cl base d F b) : SS prog w cl base d F (.ite t a b) := by
  intro A env nm m ρ σ s E Qf Q t hA hc Z hq h
  refine sIf_e hc fun t a b p hc => band3 hc fun h1 h2 h3 => ?_
  · refine wpAny_If (iht hA h1 Z hq fun c ρ1 σ1 s1 p sm1 R1 st1 => ?_)
    cases c with
    | true => exact iha hA h2 (Z.step R1 st1) p (h.then sm1 st1.toX)
    | false => exact ihb hA h3 (Z.step R1 st1) p (h.then sm1 st1.toX)

theorem sss_nil : SSs prog w cl base d F .nil := by
  intro A env nm m ρ σ s E Qf Q ts hA hc Z hq h
  cases ts with
  | nil => exact wpAny_execs_nil (h _ _ m ρ σ s hq .refl Z .refl .next)
  | cons _ _ => exact Bool.noConfusion hc
theorem sss_cons {st : St} {ss : Sts} (ih : SS prog w cl base d F st) (ihs : SSs prog w cl base d F ss) : SSs prog w cl base d F (.cons st ss) := by
  intro A env nm m ρ σ s E Qf Q ts hA hc Z hq h
  cases ts with
  | nil => exact Bool.noConfusion hc
  | cons t r =>
    refine band2 hc fun h1 h2 => ?_
    refine wpAny_execs_cons (ih hA h1 Z hq fun o f m1 ρ1 σ1 s1 p sm1 Z1 st1 fr => ?_)
    cases fr with
    | next => exact ihs hA h2 Z1 p (h.then sm1 st1)
    | ret hv => exact h _ _ m1 ρ1 σ1 s1 p sm1 Z1 st1 (.ret hv)
end
end Gc
end
/- GcB14 -/
section
set_option maxRecDepth 100000
namespace Gc
open PySem PySem.W PySem.Calls PyProof.Rows

section
variable {prog : Program} {w : World} {cl fa : String → Nat} {base : Heap} {K : Frag} {F : FnSem} {d : Nat} {A : Around} {env : Env} {nm : Nm} {m : Loc} {ρ : Rho} {σ : Sto} {s : Shared} {E : Value → Shared → Prop} {Qf : Flow → Shared → Prop} {Q : Out → Loc → Sto → Prop}

theorem op_unpackItems {v : AV} {rv : Value} {n : Nat} {vs : List AV} {Q : List Value → Shared → Prop} (hA : AOk A d) (R : Rel prog w cl base ρ σ s.heap) (hv : VRel ρ s.heap v rv) (e : itemsFit v n σ = some vs)
    (h : ∀ xs h', VRels ρ s.heap vs xs → vs.length = n → (∀ (b : Nat) o, s.heap.get? b = some o → h'.get? b = some o) → s.heap.objs.size ≤ h'.objs.size → Q xs { s with heap := h' }) : wpAny (model prog w) A (unpackItems rv n none) Q E s := by
  have old : ∀ {h' : Heap}, Heap.ExtBut s.heap.objs.size s.heap h' → ∀ (b : Nat) o, s.heap.get? b = some o → h'.get? b = some o := fun he b o eo => he b o (Nat.ne_of_lt (hlt eo)) eo
  cases v with
  | tup xs =>
    simp only [itemsFit] at e
    split at e
    · rename_i hl
      cases e
      cases hv with
      | tup ht hu hvs =>
        have l1 := hvs.length
        subst hl
        rw [l1, ← List.size_toArray]
        refine wpAny_sized (unpackItems_tuple hA.handled ht fun h' he sz => ?_)
        have := h _ h' hvs rfl (old he) sz
        simpa using this
    · cases e
  | ref a =>
    simp only [itemsFit] at e
    split at e
    · rename_i xs e1
      split at e
      · rename_i hl
        cases e
        obtain ⟨x1, d1, vs', k1, rfl, _, L1, V1, _⟩ := R.isList hv e1
        have l1 := V1.length
        subst hl
        rw [l1, ← List.size_toArray]
        refine wpAny_sized (kun_itemsOf hA.handled L1.isList fun h' he sz => ?_)
        have := h _ h' V1 rfl (old he) sz
        simpa using this
      · cases e
    · cases e
  | _ => simp [itemsFit] at e

theorem op_assignNames {xs : List String} {ts : List PySem.Expr} {vs : List AV} {vals : List Value} {m : Loc} {s : Shared} {Q : Unit → Shared → Prop} (hc : chkNames nm xs ts = true) (hl : xs.length = vs.length) (hv : VRels ρ s.heap vs vals) (Z : Stt prog w cl base env nm m ρ σ s.heap)
    (h : ∀ s', Same s s' → Stt prog w cl base env nm (updAll m xs vs) ρ σ s'.heap → Step (Xf env) ρ σ s.heap ρ σ s'.heap → Q () s') : wpAny (model prog w) A (assignInOrder ((assignEach ts env).map (·.2)) vals) Q E s := by
  induction xs generalizing ts vs vals m s with
  | nil =>
    cases ts with
    | nil =>
      cases vs with
      | nil => exact assignInOrder_nil (h s .refl Z .refl)
      | cons _ _ => exact nomatch hl
    | cons _ _ => exact nomatch hc
  | cons x xs ih =>
    cases ts with
    | nil => exact nomatch hc
    | cons t ts =>
      cases vs with
      | nil => exact nomatch hl
      | cons v vs =>
        obtain ⟨rv, vals, rfl, hv, hvs⟩ := hv.cc
        refine xName_e hc fun id p hc => band3 hc fun hx h1 h2 => beq_e hx ?_
        show wpAny _ _ (assignInOrder (assign (.Name (S x) p) env :: (assignEach ts env).map (·.2)) (rv :: vals)) Q E s
        refine assignInOrder_cons (PySem.wpAny_assign_Name (op_store Z (by unfold storable; rw [h1]; rfl) hv fun h' tk Z2 st2 => ?_))
        have up := (Xs.toXf st2).up (Xf.notTuple Z.fm)
        refine ih (s := { s with heap := h', toks := tk }) h2 (Nat.succ.inj hl) (hvs.up up) Z2 fun s' sm Z3 st3 => ?_
        exact h s' ((Same.mk' (h := h') (t := tk)).trans sm) Z3 ((Xs.toXf st2).trans st3)

theorem findIdx_names : ∀ {xs : List String} {ts : List PySem.Expr}, chkNames nm xs ts = true → (assignEach ts env).findIdx? (·.1) = none ∧ (assignEach ts env).length = xs.length
  | [], [], _ => ⟨rfl, rfl⟩
  | [], _ :: _, hc => nomatch hc
  | _ :: _, [], hc => nomatch hc
  | x :: xs, t :: ts, hc => by
    refine xName_e hc fun id p hc => band3 hc fun hx h1 h2 => ?_
    · have ih := findIdx_names h2
      show ((false, assign (.Name id p) env) :: assignEach ts env).findIdx? (·.1) = none ∧ ((false, assign (.Name id p) env) :: assignEach ts env).length = _
      constructor
      · rw [List.findIdx?_cons, ih.1]; rfl
      · exact congrArg (· + 1) ih.2

theorem noSwapSole {t v : PySem.Expr} {l : Nat} (h : notComp v = true) : swapsWithSole [t] v l env = pure false := by
  have e : swapsWithSole [t] v l env = swapsWith v (some t) l env := rfl
  rw [e]; exact noSwap h
theorem notTup_swaps {ts : List PySem.Expr} {v : PySem.Expr} {k : Nat} {np : Pos} (h2 : notTuple v = true) : swappedStores [.Tuple ts k np] v env = pure none := by
  cases v <;> first | rfl | cases h2
theorem sst_unpack {xs : List String} {e : Ex} (ih : SE prog w cl base d F e) : SS prog w cl base d F (.unpack xs e) := by
  intro A env nm m ρ σ s E Qf Q t hA hc Z hq h
  refine sAsg_e hc fun ts v p hc => l1_e hc fun t hc => xTup_e hc fun ts k np hc => band5 hc fun h1 h2 h3 h4 h5 => ?_
  · have hn := findIdx_names (env := env) h3
    refine Assign_Tuple (ih hA h5 Z hq fun v rv ρ1 σ1 s1 p sm1 R1 st1 hv => ?_) (noSwapSole h1) (notTup_swaps h2)
    obtain ⟨vs, e1, p⟩ := p
    rw [arm_assign_Tuple]
    refine wpAny_bind (wpAny_standAt ?_)
    unfold PySem.unpack
    rw [hn.1, hn.2]
    refine wpAny_bind (wpAny_holding (op_unpackItems hA R1 hv e1 fun vals h' hvs hl hk sz => ?_))
    have st2 : Step No ρ1 σ1 s1.heap ρ1 σ1 h' := .pushed hk sz
    refine op_assignNames (s := { s1 with heap := h' }) h3 hl.symm (hvs.up st2.up0) ((Z.step R1 st1).step (R1.grown hk sz) st2) fun s' sm Z3 st3 => ?_
    exact h _ _ _ ρ1 σ1 s' p (sm1.trans ((Same.mk' (h := h') (t := s1.toks)).trans sm)) Z3 ((st1.trans st2).toX.trans st3) .next

set_option backward.match.sparseCases true in
noncomputable def isStar (e : PySem.Expr) : Bool := match e with
  | .Starred .. => true
  | _ => false
theorem isStar_no {e : PySem.Expr} (h : ∀ x p, e ≠ .Starred x p) : isStar e = false := by
  cases e <;> first | rfl | exact absurd rfl (h _ _)
theorem swapped_two {x y : String} {p1 p2 tp vp : Pos} {k1 k2 : Nat} {a' b' : PySem.Expr} (hb : env.blockKind = .function) (hx : env.kindOf (S x) = some .local) (hy : env.kindOf (S y) = some .local) (hne : (S x == S y) = false) (hl : p1.line = p2.line)
    (hf : (foldedForSure 8 a' && foldedForSure 8 b') = false) (hc : (constantsAlone 8 a' && constantsAlone 8 b') = false) (na : ∀ e p, a' ≠ .Starred e p) (nb : ∀ e p, b' ≠ .Starred e p) :
    swappedStores [.Tuple [.Name (S x) p1, .Name (S y) p2] k1 tp] (.Tuple [a', b'] k2 vp) env = pure (some [S x, S y]) := by
  have e3 : ([S x, S y] : List Str).eraseDups = [S x, S y] := by
    have : (S y == S x) = false := by
      rw [beq_eq_false_iff_ne] at hne ⊢
      exact fun q => hne q.symm
    simp [List.eraseDups_cons, this]
  have e4 : ([a', b'].all (foldedForSure 8)) = false := by simpa using hf
  have e5 : ([a', b'].all (constantsAlone 8)) = false := by simpa using hc
  unfold swappedStores
  dsimp only
  refine (if_neg (by rw [hb]; simp)).trans ?_
  refine (if_neg ?_).trans ?_
  · have h1 := isStar_no na
    have h2 := isStar_no nb
    show ¬ ((isStar a' || (isStar b' || false)) = true)
    rw [h1, h2]
    exact Bool.false_ne_true
  · have e2 : ∀ g : PySem.Expr → Option Str, g (.Name (S x) p1) = some (S x) → g (.Name (S y) p2) = some (S y) → List.filterMap g [PySem.Expr.Name (S x) p1, .Name (S y) p2] = [S x, S y] := fun g g1 g2 => by simp [g1, g2]
    rw [e2 _ (by simp only [List.head?_cons, Option.map_some, Option.getD_some, PySem.Expr.pos, hx]; simp) (by simp only [List.head?_cons, Option.map_some, Option.getD_some, PySem.Expr.pos, hy, hl]; simp)]
    refine (if_neg (by rw [e3]; simp)).trans ?_
    refine (if_neg (by rw [e4]; simp)).trans ?_
    refine (if_neg (by rw [e5]; simp)).trans rfl

theorem chk_two {a b : Ex} {ta tb : PySem.Expr} {k : Nat} {p : Pos} (h1 : chkE nm a ta = true) (h2 : chkE nm b tb = true) : chkE nm (.tup (.cons a (.cons b .nil))) (.Tuple [ta, tb] k p) = true := by
  show ((chkE nm a ta && (chkE nm b tb && true)) && decide (2 < 1000)) = true
  rw [h1, h2]; rfl
theorem sst_set2 {x y : String} {a b : Ex} (iha : SE prog w cl base d F a) (ihb : SE prog w cl base d F b) : SS prog w cl base d F (.set2 x y a b) := by
  intro A env nm m ρ σ s E Qf Q t hA hc Z hq h
  refine sAsg_e hc fun ts v p hc => l1_e hc fun t hc => xTup_e hc fun es k1 tp hc => l2_e hc fun t1 t2 r hc => band2 hc fun hr hc => xTup_e hc fun vs k2 vp hc => l2_e hc fun a' b' r2 hc => band2 hc fun hr2 hc => xName_e hc fun x' p1 hc => xName_e hc fun y' p2 hc => l0_e hr (l0_e hr2 (band6 hc fun hx hy h34 h56 h78 h9 => beq_e hx (beq_e hy (band2 h34 fun h3 h4 => band2 h56 fun h5 h6 => band2 h78 fun h7 h8 => band2 h9 fun h9 h10 => ?_))))
  replace h3 := beq_iff_eq.mp h3
  replace h4 := beq_iff_eq.mp h4
  replace h6 := beq_iff_eq.mp h6
  replace h5 := (Bool.not_eq_true' _).mp h5
  replace h7 := (Bool.not_eq_true' _).mp h7
  replace h8 := (Bool.not_eq_true' _).mp h8
  · have e1 : env.blockKind = .function := by unfold Env.blockKind; rw [Z.fm.kind]; rfl
    have kx : env.kindOf (S x) = some .local := by unfold Env.kindOf; rw [Z.fm.names]; exact h3
    have ky : env.kindOf (S y) = some .local := by unfold Env.kindOf; rw [Z.fm.names]; exact h4
    have hse : SE prog w cl base d F (.tup (.cons a (.cons b .nil))) := snd_tup (snd_cons iha (snd_cons ihb snd_nil))
    refine Assign_Tuple_swapped (names := [S x, S y]) ?_ rfl (swapped_two e1 kx ky h5 h6 h7 h8 (notStar h9) (notStar h10))
    refine hse hA (chk_two h9 h10) Z (Q := fun r σ' => match r with | .tup [v, u] => Q .next (upd (upd m y u) x v) σ' | _ => False) ?_ fun r rv ρ1 σ1 s1 p sm1 R1 st1 hv => ?_
    · exact hq
    · obtain ⟨v, u, rfl, p⟩ : ∃ v u, r = .tup [v, u] ∧ Q .next (upd (upd m y u) x v) σ1 := by
        dsimp only at p
        split at p
        · exact ⟨_, _, rfl, p⟩
        · exact p.elim
      refine op_unpackItems (n := 2) (vs := [v, u]) hA R1 hv (by simp [itemsFit]) fun vals h' hvs hl hk sz => ?_
      have st2 : Step No ρ1 σ1 s1.heap ρ1 σ1 h' := .pushed hk sz
      have hvs' := hvs.up st2.up0
      cases hvs' with
      | cons hv1 r =>
        cases r with
        | cons hv2 r =>
          cases r
          refine assignInOrder_cons (bindName_ (op_store (s := { s1 with heap := h' }) ((Z.step R1 st1).step (R1.grown hk sz) st2) (by unfold storable; rw [h4]; rfl) hv2 fun h2 tk Z3 st3 => ?_))
          have up := (Xs.toXf st3).up (Xf.notTuple ((Z.step R1 st1).step (R1.grown hk sz) st2).fm)
          refine assignInOrder_cons (bindName_ (op_store (s := { s1 with heap := h2, toks := tk }) Z3 (by unfold storable; rw [h3]; rfl) (hv1.up up) fun h3 tk3 Z4 st4 => assignInOrder_nil ?_))
          exact h _ _ _ ρ1 σ1 { s1 with heap := h3, toks := tk3 } p (sm1.trans ⟨rfl, rfl, rfl⟩) Z4 (((st1.trans st2).toX.trans (Xs.toXf st3)).trans (Xs.toXf st4)) .next
end
end Gc
end
/- GcB15 -/
section
set_option maxRecDepth 100000
namespace Gc
open PySem PySem.W PySem.Calls PyProof.Rows

section
variable {prog : Program} {w : World} {cl fa : String → Nat} {base : Heap} {K : Frag} {F : FnSem} {d : Nat} {A : Around} {env : Env} {nm : Nm} {m : Loc} {ρ : Rho} {σ : Sto} {s : Shared} {E : Value → Shared → Prop} {Qf : Flow → Shared → Prop} {Q : Out → Loc → Sto → Prop}

theorem op_assignAttr {o : Ex} {a : String} {to : PySem.Expr} {ap : Pos} {v : AV} {rv : Value} {P : Sto → Prop} {Q : Unit → Shared → Prop} (PR : Prg prog w cl fa base K) (iho : SE prog w cl base d F o) (hA : AOk A d) (hc : chkE nm o to = true)
    (Z : Stt prog w cl base env nm m ρ σ s.heap) (hv : VRel ρ s.heap v rv) (hq : wpE F o m σ fun r σ' => wpSetAttr r a v σ' P)
    (h : ∀ ρ' σ' s', P σ' → Same s s' → Rel prog w cl base ρ' σ' s'.heap → Step No ρ σ s.heap ρ' σ' s'.heap → Q () s') : wpAny (model prog w) A (assign (.Attribute to (S a) ap) env rv) Q E s := by
  rw [arm_assign_Attribute]
  refine wpAny_bind (wpAny_holding (iho hA hc Z hq fun ov rov ρ1 σ1 s1 p sm1 R1 st1 hov => ?_))
  obtain ⟨n, rfl⟩ : ∃ n, ov = .ref n := by cases ov <;> first | exact ⟨_, rfl⟩ | exact p.elim
  obtain ⟨c, fs, e1, e2, e3, p⟩ := p
  refine wpAny_bind (wpAny_standAt (wpAny_bind (wpAny_holding (op_setAttr R1 PR.X (PR.cls c (attrs_cls e2)) hov e1 e2 e3 (hv.up st1.up0) fun s' sm2 R2 st2 => wpAny_release ?_))))
  exact h _ _ s' p (sm1.trans sm2) R2 (st1.trans st2)

theorem swapped_attrs {o1 o2 v : PySem.Expr} {n1 n2 : PySem.Str} {p1 p2 tp : Pos} {k1 : Nat} : swappedStores [.Tuple [.Attribute o1 n1 p1, .Attribute o2 n2 p2] k1 tp] v env = pure none := by
  unfold swappedStores
  cases v <;> try rfl
  dsimp only
  split
  · rfl
  · split
    · rfl
    · rfl

theorem sst_setAttr2 {o1 o2 e1 e2 : Ex} {a1 a2 : String} (PR : Prg prog w cl fa base K) (i1 : SE prog w cl base d F e1) (i2 : SE prog w cl base d F e2) (j1 : SE prog w cl base d F o1) (j2 : SE prog w cl base d F o2) : SS prog w cl base d F (.setAttr2 o1 a1 o2 a2 e1 e2) := by
  intro A env nm m ρ σ s E Qf Q t hA hc Z hq h
  refine sAsg_e hc fun ts v p hc => l1_e hc fun t hc => xTup_e hc fun es k1 tp hc => l2_e hc fun t1 t2 r hc => band2 hc fun hr hc => xTup_e hc fun vs k2 vp hc => l2_e hc fun a' b' r2 hc => band2 hc fun hr2 hc => xAttr_e hc fun o1' n1 p1 hc => xAttr_e hc fun o2' n2 p2 hc => l0_e hr (l0_e hr2 (band6 hc fun hx hy h3 h4 h5 h6 => beq_e hx (beq_e hy ?_)))
  · have hse : SE prog w cl base d F (.tup (.cons e1 (.cons e2 .nil))) := snd_tup (snd_cons i1 (snd_cons i2 snd_nil))
    refine Assign_Tuple ?_ (noSwapSole rfl) swapped_attrs
    refine hse hA (chk_two h3 h4) Z (Q := fun r σ' => match r with | .tup [v1, v2] => wpE F o1 m σ' (fun r1 σ3 => wpSetAttr r1 a1 v1 σ3 fun σ4 => wpE F o2 m σ4 fun r2 σ5 => wpSetAttr r2 a2 v2 σ5 fun σ6 => Q .next m σ6) | _ => False) ?_ fun r rv ρ1 σ1 s1 p sm1 R1 st1 hv => ?_
    · exact hq
    · dsimp only at p
      split at p
      · rename_i v1 v2
        rw [arm_assign_Tuple]
        refine wpAny_bind (wpAny_standAt ?_)
        unfold PySem.unpack
        refine wpAny_bind (wpAny_holding (op_unpackItems (n := 2) (vs := [v1, v2]) hA R1 hv (by simp [itemsFit]) fun vals h' hvs hl hk sz => ?_))
        have st2 : Step No ρ1 σ1 s1.heap ρ1 σ1 h' := .pushed hk sz
        have hvs' := hvs.up st2.up0
        cases hvs' with
        | cons hv1 r =>
          cases r with
          | cons hv2 r =>
            cases r
            have Z2 : Stt prog w cl base _ nm m ρ1 σ1 ({ s1 with heap := h' } : Shared).heap := (Z.step R1 st1).step (R1.grown hk sz) st2
            show wpAny _ _ (assignInOrder [assign _ _, assign _ _] _) _ _ _
            refine assignInOrder_cons (op_assignAttr PR j1 hA h5 Z2 hv1 p fun ρ3 σ3 s3 p sm3 R3 st3 => ?_)
            refine assignInOrder_cons (op_assignAttr PR j2 hA h6 (Z2.step R3 st3) (hv2.up st3.up0) p fun ρ4 σ4 s4 p sm4 R4 st4 => assignInOrder_nil ?_)
            exact h.nx Z p (((sm1.trans (Same.mk' (h := h') (t := s1.toks))).trans sm3).trans sm4) R4 (((st1.trans st2).trans st3).trans st4)
      · exact p.elim

/- while -/
theorem sst_while {t : Ex} {b : Sts} (iht : ST prog w cl base d F t) (ihb : SSs prog w cl base d F b) : SS prog w cl base d F (.while t b) := by
  intro A env nm m ρ σ s E Qf Q tt hA hc Z hq h
  refine sWhile_e hc fun t1 b1 o p hc => band3 hc fun h0 h1 h2 => l0_e h0 ?_
  · obtain ⟨α, I, μ, a, I0, Ih⟩ := hq
    refine wpAny_While (codeAny_whileLoop (fun k s' => ∃ a m' ρ' τ, μ a = k ∧ I a m' τ ∧ Stt prog w cl base env nm m' ρ' τ s'.heap ∧ Same s s' ∧ Step (Xf env) ρ σ s.heap ρ' τ s'.heap) ?_ (μ a)
      ⟨a, m, ρ, σ, rfl, I0, Z, .refl, .refl⟩)
    rintro k s1 ⟨a1, m1, ρ1, τ1, rfl, hw, Z1, sm1, st1⟩
    refine iht hA h1 Z1 (Ih _ _ _ hw) fun c ρ2 σ2 s2 p sm2 R2 st2 => ?_
    cases c with
    | false =>
      rw [if_neg (by decide)]
      refine wpAny_execs_nil ?_
      exact h _ _ m1 ρ2 σ2 s2 p (sm1.trans sm2) (Z1.step R2 st2) (st1.trans st2.toX) .next
    | true =>
      rw [if_pos rfl]
      refine ihb hA h2 (Z1.step R2 st2) p fun o f m3 ρ3 σ3 s3 p sm3 Z3 st3 fr => ?_
      cases fr with
      | next =>
        obtain ⟨_, a', lt, p⟩ := p
        exact ⟨μ a', lt, a', m3, ρ3, σ3, rfl, p, Z3, (sm1.trans sm2).trans sm3, (st1.trans st2.toX).trans st3⟩
      | ret hv => exact h _ _ m3 ρ3 σ3 s3 p ((sm1.trans sm2).trans sm3) Z3 ((st1.trans st2.toX).trans st3) (.ret hv)

/- for -/
theorem unfrz_cases (v : AV) (σ₀ τ : Sto) : (unfrz v σ₀ τ = τ ∧ frz v σ₀ = σ₀) ∨ ∃ n es f, v = .ref n ∧ σ₀ n = some (.dict es f) ∧ frz v σ₀ = σ₀.set n (.dict es true) ∧ unfrz v σ₀ τ = τ.set n (.dict es f) := by
  cases v with
  | ref n =>
    cases h : σ₀ n with
    | none => exact .inl (by simp [unfrz, frz, h])
    | some o =>
      cases o with
      | dict es f => exact .inr ⟨n, es, f, rfl, h, by simp [frz, h], by simp [unfrz, h]⟩
      | list xs => exact .inl (by simp [unfrz, frz, h])
      | inst c fs => exact .inl (by simp [unfrz, frz, h])
      | dead => exact .inl (by simp [unfrz, frz, h])
  | _ => exact .inl ⟨rfl, rfl⟩

theorem Step.unfrz {X : Nat → Prop} {v : AV} {σ₀ τ : Sto} {ρ' : Rho} {h h' : Heap} (st : Step X ρ (Gc.frz v σ₀) h ρ' τ h') : Step X ρ σ₀ h ρ' (Gc.unfrz v σ₀ τ) h' := by
  refine ⟨st.sz, fun b o e hx hu => st.keep b o e hx hu.frz, st.ext, st.new, fun a f => ?_⟩
  have e := st.frz a (frz_frz f)
  rcases unfrz_cases v σ₀ τ with ⟨e1, e2⟩ | ⟨n, es, fz, rfl, e0, e1, e2⟩
  · rw [e1, e, e2]
  · rw [e2]
    unfold Sto.set
    by_cases q : a = n
    · rw [if_pos q, q, e0]
    · rw [if_neg q, e, e1]
      unfold Sto.set
      rw [if_neg q]
theorem Rel.unfrz {X : Nat → Prop} {v : AV} {σ₀ τ : Sto} {ρ' : Rho} {h h' : Heap} (R : Rel prog w cl base ρ' τ h') (st : Step X ρ (Gc.frz v σ₀) h ρ' τ h') : Rel prog w cl base ρ' (Gc.unfrz v σ₀ τ) h' := by
  refine R.same fun a => ?_
  rcases unfrz_cases v σ₀ τ with ⟨e1, e2⟩ | ⟨n, es, fz, rfl, e0, e1, e2⟩
  · rw [e1]; exact .inl rfl
  · rw [e2]
    unfold Sto.set
    by_cases q : a = n
    · subst q
      rw [if_pos rfl]
      refine .inr ⟨es, true, fz, ?_, rfl⟩
      have e3 : Gc.frz (.ref a) σ₀ a = some (.dict es true) := by rw [e1]; exact if_pos rfl
      rw [st.frz a (by rw [e3]; rfl), e3]
    · rw [if_neg q]; exact .inl rfl

theorem sst_for {x : String} {src : Ex} {b : Sts} (hsrc : SSrc prog w cl base d F src) (ihb : SSs prog w cl base d F b) : SS prog w cl base d F (.forr x src b) := by
  intro A env nm m ρ σ s E Qf Q tt hA hc Z hq h
  refine sFor_e hc fun x1 it b1 o p hc => band2 hc fun h0 hc => xName_e hc fun i1 np hc => l0_e h0 (band5 hc fun hx h1 h2 h3 h4 => beq_e hx ?_)
  · refine wpAny_For (hsrc hA h3 Z hq fun v v₀ xs I fp St ρ1 σ1 s1 q sm1 Z1 st1 W hst hv0 un ln nx lo hI => ?_) (folded_of h2)
    have fin : ∀ {ρ' : Rho} {τ : Sto} {s' : Shared} {m' : Loc} {o : Out} {f : Flow}, Q o m' (unfrz v σ1 τ) → Same s1 s' → Stt prog w cl base env nm m' ρ' τ s'.heap → Step (fun b => b = I ∨ Xf env b) ρ1 (frz v σ1) s1.heap ρ' τ s'.heap → FlowR ρ' s'.heap o f → Qf f s' := by
      intro ρ' τ s' m' o f p sm Zt st fr
      have st2 := st1.toX.trans (Step.unfrz st)
      refine h o f m' ρ' _ s' p (sm1.trans sm) ⟨Zt.rel.unfrz st, Zt.fm⟩ ?_ fr
      exact ⟨st2.sz, fun b o e hx hu => st2.keep b o e (fun q => q.elim (fun q => by have := hlt e; rw [q] at this; lia) hx) hu, st2.ext, st2.new, st2.frz⟩
    have g0 : Wkg prog w cl base env nm v v₀ I fp St 0 m ρ1 (frz v σ1) s1.heap := ⟨⟨Z1.rel.frz, Z1.fm⟩, hst, hv0, un, ln, nx, lo⟩
    obtain ⟨J, J0, Js, Jt, Je⟩ := q
    refine codeAny_forLoop (fun k s' => ∃ i m' ρ' τ, k = xs.length + 1 - i ∧ i ≤ xs.length ∧ Wkg prog w cl base env nm v v₀ I fp St i m' ρ' τ s'.heap ∧
      J (xs.drop i) m' τ ∧ Same s1 s' ∧ Step (fun b => b = I ∨ Xf env b) ρ1 (frz v σ1) s1.heap ρ' τ s'.heap) ?_ (xs.length + 1)
      ⟨0, m, ρ1, frz v σ1, rfl, Nat.zero_le _, g0, J0, .refl, .refl⟩
    rintro k s' ⟨i, m', ρ', τ, rfl, hi, g, hw, sm, st⟩
    by_cases hlt : i < xs.length
    · rw [List.drop_eq_getElem_cons hlt] at hw
      refine turn_item W g h1 (List.getElem?_eq_getElem hlt) (Js _ _ _ hw) fun rv s₁ hass => ?_
      refine hass fun s₂ sm2 g2 st2 => ?_
      have stt : Step (fun b => b = I ∨ Xf env b) ρ1 (frz v σ1) s1.heap ρ' τ s₂.heap := st.trans (st2.mono fun b q => q.imp id Xs.xf)
      refine ihb hA h4 g2.z (Jt _ _ _ _ hw) fun o f m3 ρ3 τ3 s3 p sm3 Z3 st3 fr => ?_
      have stt3 := stt.trans (st3.mono fun b q => .inr q)
      cases fr with
      | next =>
        have g3 := g2.stepX W Z3 st3
        exact ⟨xs.length + 1 - (i + 1), by lia, i + 1, m3, ρ3, τ3, rfl, hlt, g3, p, (sm.trans sm2).trans sm3, stt3⟩
      | ret hv => exact fin p ((sm.trans sm2).trans sm3) Z3 stt3 (.ret hv)
    · have e : i = xs.length := by lia
      subst e
      rw [List.drop_length] at hw
      refine turn_done W g (Js _ _ _ hw) fun s₁ sm1 Z1 st1 => wpAny_execs_nil ?_
      exact fin (Je _ _ hw) (sm.trans sm1) Z1 (st.trans (st1.mono fun _ q => .inl q)) .next
end
end Gc
end
/- GcB16 -/
section
set_option maxRecDepth 100000
namespace Gc
open PySem PySem.W PySem.Calls PyProof.Rows

theorem zip_lookup : ∀ {ps : List Str} {xs : List Value} {i : Nat} {p : Str} {x : Value}, ps.Nodup → ps[i]? = some p → xs[i]? = some x → (ps.zip xs).lookup p = some x
  | q :: ps, y :: xs, 0, p, x, _, h1, h2 => by
    simp at h1 h2; subst h1; subst h2
    simp [List.lookup_cons]
  | q :: ps, y :: xs, i + 1, p, x, hn, h1, h2 => by
    have hn' := List.nodup_cons.mp hn
    simp at h1 h2
    have : (p == q) = false := by
      rw [beq_eq_false_iff_ne]
      rintro rfl
      exact hn'.1 (List.mem_of_getElem? h1)
    simp only [List.zip_cons_cons, List.lookup_cons, this]
    exact zip_lookup hn'.2 h1 h2
  | [], _, _, _, _, _, h1, _ => by simp at h1
  | _ :: _, [], _, _, _, _, _, h2 => by simp at h2

theorem zip_filterMap {L : List (Str × Value)} : ∀ {ps : List Str} {xs : List Value}, xs.length = ps.length → (∀ (i : Nat) (p : Str) (x : Value), ps[i]? = some p → xs[i]? = some x → L.lookup p = some x) → ps.filterMap (fun n => (L.lookup n).map (n, ·)) = ps.zip xs
  | [], [], _, _ => rfl
  | [], _ :: _, h, _ => by simp at h
  | _ :: _, [], h, _ => by simp at h
  | p :: ps, x :: xs, hl, h => by
    have e := h 0 p x rfl rfl
    have ih := @zip_filterMap L ps xs (by simpa using hl) fun i p x h1 h2 => h (i + 1) p x (by simpa using h1) (by simpa using h2)
    rw [List.filterMap_cons, e]
    simp [ih]

theorem bind_facts {ps : List Str} {xs : List Value} (hl : xs.length = ps.length) (nd : ps.Nodup) : (ps.take ps.length).filter (fun n => ((ps.zip xs).lookup n).isNone) = [] ∧ ps.filterMap (fun n => ((ps.zip xs).lookup n).map (n, ·)) = ps.zip xs := by
  have all : ∀ (i : Nat) (p : Str) (x : Value), ps[i]? = some p → xs[i]? = some x → (ps.zip xs).lookup p = some x := fun i p x a b => zip_lookup nd a b
  refine ⟨?_, zip_filterMap hl all⟩
  rw [List.filter_eq_nil_iff]
  intro p hp
  rw [List.take_length] at hp
  obtain ⟨i, hi, e⟩ := List.mem_iff_getElem.mp hp
  have := all i p xs[i] (by rw [List.getElem?_eq_getElem hi, e]) (by rw [List.getElem?_eq_getElem])
  rw [this]; exact Bool.false_ne_true
theorem bind_plain {fd : FuncData} {ps : List Str} {xs : List Value} (h1 : fd.params.posonlyargs = []) (h2 : fd.params.args.map (·.arg) = ps) (h3 : fd.params.kwonlyargs = []) (h4 : fd.params.vararg = none) (h5 : fd.params.kwarg = none)
    (h6 : fd.defaults = .none) (hl : xs.length = ps.length) (nd : ps.Nodup) : bindArgs fd ⟨xs, []⟩ = pure (ps.zip xs) := by
  obtain ⟨n, q, ⟨po, as, va, ko, kd, ka, df⟩, b, s, g, c, de, kw, d, pm, an, co, ct, bi⟩ := fd
  cases (show po = [] from h1)
  cases (show ko = [] from h3)
  cases (show va = none from h4)
  cases (show ka = none from h5)
  cases (show de = .none from h6)
  cases (show as.map (·.arg) = ps from h2)
  have hf := bind_facts hl nd
  clear h1 h2 h3 h4 h5 h6 nd
  show (if _ then _ else _) = _
  refine (if_neg (fun h => Nat.lt_irrefl _ (hl ▸ of_decide_eq_true (Bool.and_eq_true_iff.mp h).1))).trans ?_
  have z : ∀ k, List.drop k ((none : Option (Array Value)).getD #[]).toList = [] := fun k => List.drop_nil
  rw [z, List.zip_nil_right]
  show (if _ then _ else _) = _
  refine (if_neg (fun h => ?_)).trans ?_
  · replace h : (!((List.take (as.map (·.arg)).length (as.map (·.arg))).filter (fun n => (((as.map (·.arg)).zip xs).lookup n).isNone)).isEmpty) = true := h
    rw [hf.1] at h; exact Bool.false_ne_true h
  · show (pure (List.filterMap (fun n => Option.map (fun x => (n, x)) (List.lookup n ((as.map (·.arg)).zip xs))) (as.map (·.arg) ++ [])) : Sem _) = _
    rw [List.append_nil, hf.2]

theorem cellsFrom_has {y : Str} : ∀ {names : List (Str × NameKind)} {n : Nat} {acc : List (Str × Addr)}, ((y, NameKind.cell) ∈ names ∨ ∃ c, (y, c) ∈ acc) → ∃ c, (y, c) ∈ cellsFrom n names acc
  | [], n, acc, h => by
    rcases h with h | h
    · cases h
    · exact h
  | (name, kind) :: r, n, acc, h => by
    unfold cellsFrom
    split
    · refine cellsFrom_has ?_
      rcases h with h | ⟨c, h⟩
      · rcases List.mem_cons.mp h with e | h
        · cases e; exact .inr ⟨n, .head _⟩
        · exact .inl h
      · exact .inr ⟨c, .tail _ h⟩
    · rename_i hk
      refine cellsFrom_has ?_
      rcases h with h | h
      · rcases List.mem_cons.mp h with e | h
        · cases e; exact absurd rfl hk
        · exact .inl h
      · exact .inr h
theorem cellsFrom_nodup : ∀ {names : List (Str × NameKind)} {n : Nat} {acc : List (Str × Addr)}, (names.map (·.1)).Nodup → (acc.map (·.1)).Nodup → (∀ p ∈ acc, p.1 ∉ names.map (·.1)) → ((cellsFrom n names acc).map (·.1)).Nodup
  | [], n, acc, _, h, _ => h
  | (name, kind) :: r, n, acc, hn, h, hd => by
    have hn' := List.nodup_cons.mp hn
    unfold cellsFrom
    split
    · refine cellsFrom_nodup hn'.2 (List.nodup_cons.mpr ⟨fun q => ?_, h⟩) fun p hp => ?_
      · obtain ⟨p, hp, e⟩ := List.mem_map.mp q
        exact hd p hp (e ▸ .head _)
      · rcases List.mem_cons.mp hp with rfl | hp
        · exact hn'.1
        · exact fun q => hd p hp (.tail _ q)
    · exact cellsFrom_nodup hn'.2 h fun p hp q => hd p hp (.tail _ q)
theorem lookup_nodup {α : Type} {y : Str} {c : α} : ∀ {l : List (Str × α)}, (l.map (·.1)).Nodup → (y, c) ∈ l → l.lookup y = some c
  | (k, v) :: r, hn, h => by
    have hn' := List.nodup_cons.mp hn
    rcases List.mem_cons.mp h with e | hm
    · cases e; simp
    · have : (y == k) = false := by
        rw [beq_eq_false_iff_ne]
        intro q
        have := List.mem_map_of_mem (f := fun x : Str × α => x.1) hm
        rw [← q] at hn'
        exact hn'.1 this
      rw [List.lookup_cons, this]
      exact lookup_nodup hn'.2 hm

section
variable {ρ : Rho} {h : Heap}
theorem bind_rel {kindOf : Str → Option NameKind} : ∀ {ps : List String} {vs : List AV} {xs : List Value} {m : Loc} {ml cm : Str → Option Value}, VRels ρ h vs xs → ps.length = vs.length →
    (∀ x av, m x = some av → (kindOf (S x) = some .local → ∃ v, ml (S x) = some v ∧ VRel ρ h av v) ∧ (kindOf (S x) = some .cell → ∃ v, cm (S x) = some v ∧ VRel ρ h av v)) →
    ∀ x av, updAll m ps vs x = some av → (kindOf (S x) = some .local → ∃ v, bindL kindOf ((ps.map S).zip xs) ml (S x) = some v ∧ VRel ρ h av v) ∧ (kindOf (S x) = some .cell → ∃ v, bindC kindOf ((ps.map S).zip xs) cm (S x) = some v ∧ VRel ρ h av v) := by
  intro ps vs xs m ml cm r hl hm
  induction ps generalizing vs xs m ml cm with
  | nil =>
    cases vs with
    | nil => rw [r.n0]; exact hm
    | cons _ _ => exact nomatch hl
  | cons p ps ih =>
   cases vs with
   | nil => exact nomatch hl
   | cons v vs =>
    obtain ⟨rv, xs, rfl, hv, hvs⟩ := r.cc
    show ∀ x av, updAll (upd m p v) ps vs x = some av → _
    unfold bindL bindC
    refine ih hvs (Nat.succ.inj hl) fun x av e => ?_
    rw [upd_if] at e
    by_cases q : x = p
    · subst q
      rw [if_pos rfl] at e; cases e
      constructor
      · intro k; rw [if_pos k]; exact ⟨rv, by simp, hv⟩
      · intro k; rw [if_neg (by rw [k]; decide)]; exact ⟨rv, by simp, hv⟩
    · rw [if_neg q] at e
      have nS : S x ≠ S p := fun q' => q (S_inj q')
      constructor
      · intro k
        obtain ⟨v', e1, e2⟩ := (hm x av e).1 k
        split
        · exact ⟨v', (if_neg nS).trans e1, e2⟩
        · exact ⟨v', e1, e2⟩
      · intro k
        obtain ⟨v', e1, e2⟩ := (hm x av e).2 k
        split
        · exact ⟨v', e1, e2⟩
        · exact ⟨v', (if_neg nS).trans e1, e2⟩
end

noncomputable def fnRec (K : Frag) (a : Nat) (D : Def) : Bool := match K.lookup a with
  | some ⟨_, _, .func fd, _⟩ => (match fd.body with
    | .stmts body => codeIn K fd.code fd.qualname && fd.closure.isEmpty && fd.globals == mainGlobals && fd.builtins == builtinsNs && fd.defaults == .none && chkDef D fd.params body fd.scope
    | _ => false)
  | _ => false

structure FnOk (K : Frag) (a : Nat) (D : Def) (oc : Value) (od : Option Addr) (fd : FuncData) (osl : Array (Option Value)) (body : List Stmt) : Prop where
  ho : K.lookup a = some ⟨oc, od, .func fd, osl⟩
  hb : fd.body = .stmts body
  r1 : codeIn K fd.code fd.qualname = true
  r2 : fd.closure = []
  r3 : fd.globals = mainGlobals
  r4 : fd.builtins = builtinsNs
  r5 : fd.defaults = .none
  c1 : fd.params.posonlyargs = []
  c2 : fd.params.vararg = none
  c3 : fd.params.kwonlyargs = []
  c4 : fd.params.kwarg = none
  c6 : fd.params.args.map (·.arg) = D.params.map S
  c7 : ∀ x ∈ D.params, storable fd.scope.names (S x) = true
  c8 : (D.params.map S).Nodup
  c9 : fd.scope.kind = .function
  c10 : fd.scope.isGenerator = false
  c11 : fd.scope.isCoroutine = false
  c12 : (fd.scope.names.map (·.1)).Nodup
  c13 : ∀ x ∈ fd.scope.names, (x.2 == NameKind.free) = false
  c14 : chkSs fd.scope.names D.body body = true
theorem bL {a b : Bool} (h : (a && b) = true) : a = true := (Bool.and_eq_true_iff.mp h).1
theorem bR {a b : Bool} (h : (a && b) = true) : b = true := (Bool.and_eq_true_iff.mp h).2
theorem bNot {a : Bool} (h : (!a) = true) : a = false := by cases a with | false => rfl | true => cases h
theorem fnOk_of {K : Frag} {a : Nat} {D : Def} {oc : Value} {od : Option Addr} {fd : FuncData} {osl : Array (Option Value)} {body : List Stmt} (ho : K.lookup a = some ⟨oc, od, .func fd, osl⟩) (hb : fd.body = .stmts body)
    (hr : (codeIn K fd.code fd.qualname && fd.closure.isEmpty && fd.globals == mainGlobals && fd.builtins == builtinsNs && fd.defaults == .none && chkDef D fd.params body fd.scope) = true) : FnOk K a D oc od fd osl body :=
  have g5 := bL hr
  have g4 := bL g5
  have g3 := bL g4
  have g2 := bL g3
  have h14 : (_ && _) = true := bR hr
  have h13 := bL h14
  have h12 := bL h13
  have h11 := bL h12
  have h10 := bL h11
  have h9 := bL h10
  have h8 := bL h9
  have h7 := bL h8
  have h6 := bL h7
  have h5 := bL h6
  have h4 := bL h5
  have h3 := bL h4
  have h2 := bL h3
  have h1 := bL h2
  ⟨ho, hb, bL g2, List.isEmpty_iff.mp (bR g2), beq_iff_eq.mp (bR g3), beq_iff_eq.mp (bR g4), beq_iff_eq.mp (bR g5), List.isEmpty_iff.mp h1, Option.isNone_iff_eq_none.mp (bR h2), List.isEmpty_iff.mp (bR h3), Option.isNone_iff_eq_none.mp (bR h4), beq_iff_eq.mp (bR h6),
    List.all_eq_true.mp (bR h7), of_decide_eq_true (bR h8), beq_iff_eq.mp (bR h9), bNot (bR h10), bNot (bR h11), of_decide_eq_true (bR h12), fun x hx => bNot (List.all_eq_true.mp (bR h13) x hx), bR h14⟩
theorem fnRec_inv {K : Frag} {a : Nat} {D : Def} (hr : fnRec K a D = true) : ∃ oc od fd osl body, FnOk K a D oc od fd osl body := by
  unfold fnRec at hr
  generalize q : K.lookup a = z at hr
  cases z with
  | none => exact nomatch hr
  | some o =>
    obtain ⟨oc, od, dt, osl⟩ := o
    cases dt with
    | func fd =>
      dsimp only at hr
      generalize hb : fd.body = y at hr
      cases y with
      | stmts body => exact ⟨oc, od, fd, osl, body, fnOk_of q hb hr⟩
      | _ => exact nomatch hr
    | _ => exact nomatch hr

structure AOk2 (A : Around) (d : Nat) : Prop where
  handled : A.handled = none
  depth : A.depth + 2 * d + 5 ≤ 990
  units : A.units + 10 * d + 103 < 9900
theorem AOk.two {A : Around} {d : Nat} (h : AOk A (d + 1)) : AOk2 A d := ⟨h.handled, by have := h.depth; lia, by have := h.units; lia⟩

section
variable {prog : Program} {w : World} {cl fa : String → Nat} {base : Heap} {K : Frag} {F : FnSem} {d : Nat} {A : Around} {ρ : Rho} {σ : Sto} {s : Shared}

set_option backward.match.sparseCases true in
theorem fn_core {a : Nat} {D : Def} {vs : List AV} {Q : AV → Sto → Prop} {xs : List Value} {R : Result → Shared → Prop} (PR : Prg prog w cl fa base K) (hA : AOk2 A d) (hr : fnRec K a D = true) (Rr : Rel prog w cl base ρ σ s.heap) (hvs : VRels ρ s.heap vs xs)
    (hl : D.params.length = vs.length) (hsb : SSs prog w cl base d F D.body) (hq : wpSs F D.body (updAll noLoc D.params vs) σ fun o _ σ' => Q o.val σ')
    (h : ∀ r rv ρ' σ' s', Q r σ' → Same s s' → Rel prog w cl base ρ' σ' s'.heap → Step No ρ σ s.heap ρ' σ' s'.heap → VRel ρ' s'.heap r rv → R (.ok (.ret rv)) s') : codeAny (model prog w) A (.call (.ref a) ⟨xs, []⟩) R s := by
  obtain ⟨oc, od, fd, osl, body, F0⟩ := fnRec_inv hr
  have X : K.In s.heap := PR.X.keeps Rr.bas
  obtain ⟨p, loose, mg, mb, T⟩ := PR.T
  have hlx := hvs.length
  have hbl := Rr.blo
  have cn := cellsFrom_nodup (n := s.heap.objs.size + 1) (acc := []) F0.c12 .nil fun p hp => by cases hp
  refine codeAny_call_cells (fd := fd) (binds := (D.params.map S).zip xs) (by have := hA.depth; show A.depth < 1000; lia) (X _ _ F0.ho) rfl (T.nolimit.keeps Rr.bas) (codeRec_of X F0.r1) F0.hb
    (bind_plain F0.c1 F0.c6 F0.c3 F0.c2 F0.c4 F0.r5 (by rw [List.length_map, ← hlx, hl]) F0.c8) F0.r2 (fun y hy => ?_) (fun s₁ x => ?_) F0.c11 F0.c10 F0.c9
  · obtain ⟨z, hz, e⟩ := List.mem_map.mp (List.of_mem_zip hy).1
    have := F0.c7 z hz
    simp only [storable, Bool.or_eq_true, beq_iff_eq] at this
    rcases this with q | q
    · exact .inl (e ▸ q)
    · refine .inr ⟨e ▸ q, ?_⟩
      obtain ⟨c, hc⟩ := cellsFrom_has (n := s.heap.objs.size + 1) (acc := []) (.inl (mem_of_lookup (e ▸ q : fd.scope.names.lookup y.1 = some .cell)))
      rw [lookup_nodup cn hc]; rfl
  · have e0 : (callEnvC fd s.heap.objs.size a).locals = s.heap.objs.size := rfl
    have e1 : (callEnvC fd s.heap.objs.size a).cells = cellsFrom (s.heap.objs.size + 1) fd.scope.names [] := rfl
    have hns := x.toInCall.ns
    rw [e0] at hns
    have sz : s.heap.objs.size ≤ s₁.heap.objs.size := by
      obtain ⟨o, _, _, ho, _⟩ := hns
      exact Nat.le_of_lt (hlt ho)
    have st1 : Step No ρ σ s.heap ρ σ s₁.heap := .pushed (fun b o e => x.toInCall.keep b o e) sz
    have R1 : Rel prog w cl base ρ σ s₁.heap := Rr.grown (fun b o e => x.toInCall.keep b o e) sz
    have sm1 : Same s s₁ := by
      obtain ⟨h', tk, e, _⟩ := x.done
      subst e; exact ⟨rfl, rfl, rfl⟩
    have un : ∀ b, s.heap.objs.size ≤ b → Unowned ρ b := fun b hb a x d e => by have := Rr.lo a x d e; lia
    have kn : ∀ y, (callEnvC fd s.heap.objs.size a).kindOf y = fd.scope.names.lookup y := fun y => rfl
    have br := bind_rel (kindOf := (callEnvC fd s.heap.objs.size a).kindOf) (m := noLoc) (ml := fun _ => none) (cm := fun _ => none) (hvs.up st1.up0) hl (fun x av e => by cases e)
    have nofree : ∀ y : Str, fd.scope.names.lookup y ≠ some .free := fun y q => by
      have := F0.c13 _ (mem_of_lookup q)
      simp at this
    have Fm1 : Fm base (callEnvC fd s.heap.objs.size a) fd.scope.names (updAll noLoc D.params vs) ρ s₁.heap :=
      { kind := F0.c9, names := rfl, glob := F0.r3, blt := F0.r4
        ns := ⟨_, hns, fun y av e _ k => (br y av e).1 k⟩
        cell := fun y c ec => ⟨_, x.cell _ c ec, fun av e k => by
          rcases k with k | k
          · exact (br y av e).2 k
          · exact absurd k (nofree _)⟩
        has := fun y k => by
          rcases k with k | k
          · obtain ⟨c, hc⟩ := cellsFrom_has (n := s.heap.objs.size + 1) (acc := []) (.inl (mem_of_lookup k))
            exact ⟨c, lookup_nodup cn hc⟩
          · exact absurd k (nofree _)
        own := fun y c hm => by
          have ab : s.heap.objs.size < c := x.above y c hm
          obtain ⟨o, ho, hd⟩ := x.cell y c (lookup_nodup cn hm)
          exact ⟨un c (Nat.le_of_lt ab), Nat.ne_of_gt ab, by lia, _, o, ho, hd⟩
        loc := ⟨un _ (Nat.le_refl _), Rr.blo⟩
        apart := x.apart }
    have hA' : AOk (A.deeper (callEnvC fd s.heap.objs.size a)) d := ⟨hA.handled, by have := hA.depth; show A.depth + 1 + 2 * d + 4 ≤ 990; lia, by have := hA.units; show A.units + 3 + 10 * d + 100 < 9900; lia⟩
    refine hsb hA' F0.c14 ⟨R1, Fm1⟩ hq fun o f m' ρ' σ' s' p sm Z st fr => ?_
    have st2 : Step No ρ σ s.heap ρ' σ' s'.heap := (st1.toX.trans st).low fun b hb => by
      rcases hb with rfl | ⟨y, hy⟩
      · exact Nat.le_refl _
      · exact Nat.le_of_lt (x.above y b hy)
    have hv : VRel ρ' s'.heap o.val (match (generalizing := false) f with | .ret v => v | _ => .none) := by
      cases fr with
      | next => exact .none
      | ret hv => exact hv
    exact h _ _ ρ' σ' s' p (sm1.trans sm) Z.rel st2 hv
end
end Gc
end
/- GcB17 -/
section
set_option maxRecDepth 100000
namespace Gc
open PySem PySem.W PySem.Calls PyProof.Rows

section
variable {prog : Program} {w : World} {cl fa fi : String → Nat} {base : Heap} {K : Frag} {F : FnSem} {d : Nat}

theorem chkSrc_inv {nm : Nm} {e : Ex} {t : PySem.Expr} (h : chkSrc nm e t = true) : srcForm e = true ∧ chkE nm e t = true := by
  exact band2 h fun h1 h2 => ⟨h1, h2⟩
theorem tst_no {e : Ex} (h : ∀ {m σ Q}, wpT F e m σ Q → False) : ST prog w cl base d F e := by
  intro A env nm m ρ σ s E Qf Q t hA hc Z hq _
  exact (h hq).elim
theorem src_no {e : Ex} (h : ∀ {nm t}, chkSrc nm e t = true → False) : SSrc prog w cl base d F e := by
  intro A env nm m ρ σ s E Qf Q t hA hc Z hq _
  exact (h hc).elim

theorem src_bi {f : Bi} {e : Ex} (PR : Prg prog w cl fa base K) (ih : SE prog w cl base d F e) : SSrc prog w cl base d F (.bi f e) := by
  cases f with
  | reversed => exact src_rev PR ih
  | sorted => exact src_plain PR (snd_bi PR ih) (fun h => by exact h) (fun h => (chkSrc_inv h).2)
  | range =>
    cases e with
    | cst c =>
      cases c with
      | int n => exact src_range PR
      | _ => exact src_no fun h => Bool.noConfusion h
    | _ => exact src_no fun h => Bool.noConfusion h
  | _ => exact src_no fun h => Bool.noConfusion h

theorem all_e (PR : Prg prog w cl fa base K) (hF : FnOK prog w cl fa base d F) (hM : MkOK prog w cl base d F) (e : Ex) : SE prog w cl base d F e ∧ ST prog w cl base d F e ∧ SSrc prog w cl base d F e :=
  Ex.rec (motive_1 := fun e => SE prog w cl base d F e ∧ ST prog w cl base d F e ∧ SSrc prog w cl base d F e) (motive_2 := fun e => SEs prog w cl base d F e)
    (fun _ => ⟨snd_cst, tst_cst, src_no fun h => Bool.noConfusion h⟩)
    (fun _ => ⟨snd_var, tst_var, src_plain PR snd_var (fun h => by exact h) (fun h => (chkSrc_inv h).2)⟩)
    (fun _ _ qe => ⟨snd_attr PR qe.1, tst_attr PR qe.1, src_plain PR (snd_attr PR qe.1) (fun h => by exact h) (fun h => (chkSrc_inv h).2)⟩)
    (fun _ _ qe qi => ⟨snd_sub qe.1 qi.1, tst_no fun h => by exact h, src_no fun h => Bool.noConfusion h⟩)
    (fun _ _ qe => ⟨snd_upto qe.1, tst_no fun h => by exact h, src_no fun h => Bool.noConfusion h⟩)
    (fun _ _ qe => ⟨snd_frm qe.1, tst_no fun h => by exact h, src_plain PR (snd_frm qe.1) (fun h => by exact h) (fun h => (chkSrc_inv h).2)⟩)
    (fun _ _ _ qa qb => ⟨snd_bin qa.1 qb.1, tst_no fun h => by exact h, src_no fun h => Bool.noConfusion h⟩)
    (fun _ _ _ qa qb => ⟨snd_cmp PR qa.1 qb.1, tst_cmp PR qa.1 qb.1, src_no fun h => Bool.noConfusion h⟩)
    (fun _ _ qa qb => ⟨snd_and qa.1 qb.1, tst_and qa.2.1 qb.2.1, src_no fun h => Bool.noConfusion h⟩)
    (fun _ _ qa qb => ⟨snd_or qa.1 qb.1, tst_or qa.2.1 qb.2.1, src_no fun h => Bool.noConfusion h⟩)
    (fun _ qa => ⟨snd_not qa.1, tst_not qa.2.1, src_no fun h => Bool.noConfusion h⟩)
    (fun _ _ _ qt qa qb => ⟨snd_ite qt.2.1 qa.1 qb.1, tst_no fun h => by exact h, src_no fun h => Bool.noConfusion h⟩)
    (fun _ qes => ⟨snd_tup qes, tst_no fun h => by exact h, src_no fun h => Bool.noConfusion h⟩)
    (fun _ qes => ⟨snd_list qes, tst_no fun h => by exact h, src_no fun h => Bool.noConfusion h⟩)
    (⟨snd_dict0, tst_no fun h => by exact h, src_no fun h => Bool.noConfusion h⟩)
    (fun _ _ qes => ⟨snd_call PR hF qes, tst_call (snd_call PR hF qes), src_plain PR (snd_call PR hF qes) (fun h => by exact h) (fun h => (chkSrc_inv h).2)⟩)
    (fun _ _ qes => ⟨snd_mk PR hM qes, tst_no fun h => by exact h, src_no fun h => Bool.noConfusion h⟩)
    (fun _ _ qe => ⟨snd_bi PR qe.1, tst_no fun h => by exact h, src_bi PR qe.1⟩)
    (fun _ qe => ⟨snd_listOf PR qe.1, tst_no fun h => by exact h, src_no fun h => Bool.noConfusion h⟩)
    (fun _ qe => ⟨snd_listVals PR qe.1, tst_no fun h => by exact h, src_no fun h => Bool.noConfusion h⟩)
    (fun _ _ _ qo qes => ⟨snd_meth PR qo.1 qes, tst_no fun h => by exact h, src_no fun h => Bool.noConfusion h⟩)
    (fun _ _ _ _ qelt qsrc qcond => ⟨snd_comp PR qsrc.2.2 qcond.2.1 qelt.1, tst_no fun h => by exact h, src_no fun h => Bool.noConfusion h⟩)
    (fun _ _ _ qelt qsrc => ⟨snd_compAll PR qsrc.2.2 qelt.1, tst_no fun h => by exact h, src_no fun h => Bool.noConfusion h⟩)
    snd_nil
    (fun _ _ qe qes => snd_cons qe.1 qes)
    e
theorem all_s (PR : Prg prog w cl fa base K) (hF : FnOK prog w cl fa base d F) (hM : MkOK prog w cl base d F) (e : St) : SS prog w cl base d F e :=
  St.rec (motive_1 := fun e => SS prog w cl base d F e) (motive_2 := fun e => SSs prog w cl base d F e)
    (fun e => sst_expr (all_e PR hF hM e).1)
    (fun _ e => by
    cases e with
    | comp a y b c => exact sst_setComp PR (all_e PR hF hM b).2.2 (all_e PR hF hM c).2.1 (all_e PR hF hM a).1
    | compAll a y b => exact sst_setCompAll PR (all_e PR hF hM b).2.2 (all_e PR hF hM a).1
    | _ => exact sst_set rfl (all_e PR hF hM _).1)
    (fun o _ e => sst_setAttr PR (all_e PR hF hM o).1 (all_e PR hF hM e).1)
    (fun o i e => sst_setSub (all_e PR hF hM o).1 (all_e PR hF hM i).1 (all_e PR hF hM e).1)
    (fun _ _ a b => sst_set2 (all_e PR hF hM a).1 (all_e PR hF hM b).1)
    (fun o1 _ o2 _ e1 e2 => sst_setAttr2 PR (all_e PR hF hM e1).1 (all_e PR hF hM e2).1 (all_e PR hF hM o1).1 (all_e PR hF hM o2).1)
    (fun _ e => sst_unpack (all_e PR hF hM e).1)
    (fun o _ _ e => sst_aug PR (all_e PR hF hM o).1 (all_e PR hF hM e).1)
    (fun o i => sst_delSub (all_e PR hF hM o).1 (all_e PR hF hM i).1)
    (fun e => sst_ret (all_e PR hF hM e).1)
    sst_ret0
    (fun t _ _ qa qb => sst_ite (all_e PR hF hM t).2.1 qa qb)
    (fun t _ qb => sst_while (all_e PR hF hM t).2.1 qb)
    (fun _ src _ qb => sst_for (all_e PR hF hM src).2.2 qb)
    sst_dead
    sss_nil
    (fun _ _ qe qes => sss_cons qe qes)
    e
theorem all_ss (PR : Prg prog w cl fa base K) (hF : FnOK prog w cl fa base d F) (hM : MkOK prog w cl base d F) (e : Sts) : SSs prog w cl base d F e :=
  Sts.rec (motive_1 := fun _ => True) (motive_2 := fun e => SSs prog w cl base d F e) (fun _ => trivial) (fun _ _ => trivial) (fun _ _ _ => trivial) (fun _ _ _ => trivial) (fun _ _ _ _ => trivial) (fun _ _ _ _ _ _ => trivial) (fun _ _ => trivial) (fun _ _ _ _ => trivial) (fun _ _ => trivial) (fun _ => trivial) trivial (fun _ _ _ _ _ => trivial) (fun _ _ _ => trivial) (fun _ _ _ _ => trivial) trivial sss_nil (fun e _ _ qes => sss_cons (all_s PR hF hM e) qes) e

structure Recs (K : Frag) (P : String → Option Def) (cl fa fi : String → Nat) : Prop where
  fn : ∀ f ∈ fnNames, ∀ D, P f = some D → fnRec K (fa f) D = true
  ini : ∀ c ∈ clsNames, findIn K (.ref (cl c)) "__init__" = some (some (.ref (fi c))) ∧ typeIn K (.ref (fi c)) = some (.type "function") ∧ ∀ D, P (c ++ ".__init__") = some D → fnRec K (fi c) D = true

theorem fn_step {P : String → Option Def} (PR : Prg prog w cl fa base K) (RC : Recs K P cl fa fi) (hb : ∀ ss : Sts, SSs prog w cl base d (wpFn P d) ss) : FnOK prog w cl fa base (d + 1) (wpFn P (d + 1)) := by
  intro A f vs σ Q ρ s xs E Qv hA R hvs hq h hf
  unfold wpFn at hq
  obtain ⟨D, e, hl, hq⟩ := hq
  exact wpAny_call (fn_core PR hA.two (RC.fn f hf D e) R hvs hl (hb D.body) hq h)

theorem tc_under {A : Around} {C : Nat} {vals : List Value} {kw : List (Str × Value)} (hA : AOk2 A d) (h0 : A.depth + 2 * d + 6 ≤ 990) (h1 : A.units + 10 * d + 110 < 9900) : AOk2 (A.under (.builtin "type.__call__" ⟨.ref C :: vals, kw⟩)) d := by
  have e1 : (Code.builtin "type.__call__" ⟨.ref C :: vals, kw⟩).weight ≤ 1 := by
    have : (Code.builtin "type.__call__" ⟨.ref C :: vals, kw⟩).weight = 1 := rfl
    lia
  have e2 : (Code.builtin "type.__call__" ⟨.ref C :: vals, kw⟩).cUnits ≤ 7 := by
    have : (Code.builtin "type.__call__" ⟨.ref C :: vals, kw⟩).cUnits = 1 := rfl
    lia
  refine ⟨hA.handled, ?_, ?_⟩
  · show A.depth + _ + _ + _ ≤ _
    lia
  · show A.units + _ + _ + _ < _
    lia

theorem mk_step {P : String → Option Def} (PR : Prg prog w cl fa base K) (RC : Recs K P cl fa fi) (hb : ∀ ss : Sts, SSs prog w cl base d (wpFn P d) ss) : MkOK prog w cl base (d + 1) (wpFn P (d + 1)) := by
  intro A c vs σ Q ρ s xs E Qv hA R hvs hc hq h
  obtain ⟨hi, hf, hr⟩ := RC.ini c hc
  have X : K.In s.heap := PR.X.keeps R.bas
  refine wpAny_call ?_
  obtain ⟨hh, g, dr, t, os⟩ := s
  refine make_core (makes_of X (PR.cls c hc).makes) (looks_findIn X hi) (fun self => bind_fn X self hf) (.inl rfl) ?_
  have k : ∀ (b : Nat) o, hh.get? b = some o → ((hh.push emptyDict).push (instObj (cl c) hh.objs.size)).get? b = some o := fun b o e => Heap.get?_push_of_some _ (Heap.get?_push_of_some _ e)
  have s1 : (hh.push emptyDict).objs.size = hh.objs.size + 1 := Heap.size_push ..
  have s2 : ((hh.push emptyDict).push (instObj (cl c) hh.objs.size)).objs.size = hh.objs.size + 2 := by rw [Heap.size_push, s1]
  have hx : ((hh.push emptyDict).push (instObj (cl c) hh.objs.size)).get? (hh.objs.size + 1) = some (instObj (cl c) hh.objs.size) := by
    rw [← s1]; exact Heap.get?_push_size _ rfl
  have hd : ((hh.push emptyDict).push (instObj (cl c) hh.objs.size)).get? hh.objs.size = some emptyDict := Heap.get?_push_of_some _ (Heap.get?_push_size _ rfl)
  obtain ⟨n, σ', ρ', p, _, _, _, eρ, R', st⟩ := R.new (o' := .inst c []) (x := hh.objs.size + 1) (d := hh.objs.size) (h' := (hh.push emptyDict).push (instObj (cl c) hh.objs.size)) hq (Nat.le_succ _) (Nat.le_refl _) (by rw [s2]; lia) (by rw [s2]; lia) k (by rw [s2]; exact Nat.le_add_right _ _)
    fun ρ' u => ⟨[], 0, hx, hd, .nil⟩
  unfold wpFn at p
  obtain ⟨D, e, hl, p⟩ := p
  have hA2 := hA.two
  refine fn_core (Q := fun r τ => r = .none ∧ Q (.ref n) τ) (s := ⟨(hh.push emptyDict).push (instObj (cl c) hh.objs.size), g, dr, t, os⟩) PR (tc_under hA2 (by have := hA.depth; lia) (by have := hA.units; lia)) (hr D e) R' (.cons (.ref eρ) (hvs.up st.up0)) hl (hb D.body) p fun r rv ρ'' σ'' s' q sm R'' st'' hv => ?_
  obtain ⟨rfl, q⟩ := q
  cases hv
  refine ⟨rfl, ?_⟩
  exact h _ _ ρ'' σ'' s' q ((Same.mk' (h := (hh.push emptyDict).push (instObj (cl c) hh.objs.size)) (t := t)).trans sm) R'' (st.trans st'') (.ref (st''.ext _ _ eρ))

theorem sound_fn {P : String → Option Def} (PR : Prg prog w cl fa base K) (RC : Recs K P cl fa fi) : ∀ d, FnOK prog w cl fa base d (wpFn P d) ∧ MkOK prog w cl base d (wpFn P d)
  | 0 => ⟨by
      intro A f vs σ Q ρ s xs E Qv hA R hvs hq h hf
      unfold wpFn at hq
      exact hq.elim, by
      intro A c vs σ Q ρ s xs E Qv hA R hvs hc hq h
      rcases hq with hq | ⟨i, t, e, hq⟩
      · obtain ⟨N, hN⟩ := R.fin
        have := hq N (by
          cases q : σ (.tmp N) with
          | none => rfl
          | some o =>
            obtain ⟨x, d, e1, _⟩ := R.obj _ _ q
            rw [hN N (Nat.le_refl _)] at e1; cases e1)
        unfold wpFn at this
        exact this.elim
      · unfold wpFn at hq
        exact hq.elim⟩
  | d + 1 => by
    have ih := sound_fn PR RC d
    have hb := all_ss PR ih.1 ih.2
    exact ⟨fn_step PR RC hb, mk_step PR RC hb⟩

theorem sound_body {P : String → Option Def} (PR : Prg prog w cl fa base K) (RC : Recs K P cl fa fi) (d : Nat) (ss : Sts) : SSs prog w cl base d (wpFn P d) ss :=
  all_ss PR (sound_fn PR RC d).1 (sound_fn PR RC d).2 ss
end
end Gc
end
/- GcC1 -/
section
namespace Gc
noncomputable def d_Cell_init : Def := { params := ["self", "sort", "number"], body := 
  (.cons (.setAttr2 (.var "self") "sort" (.var "self") "number" (.var "sort") (.var "number")) <|
  .cons (.setAttr (.var "self") "count" (.cst (.int 0))) <|
  .cons (.setAttr (.var "self") "slots" .dict0) <|
  .cons (.setAttr2 (.var "self") "colour" (.var "self") "is_buffered" (.cst (.str "black")) (.cst (.bool false))) <|
  .cons (.setAttr2 (.var "self") "has_destructor" (.var "self") "is_destructed" (.cst (.bool false)) (.cst (.bool false))) <|
  .cons (.setAttr (.var "self") "is_freed" (.cst (.bool false))) <|
  .cons (.setAttr (.var "self") "weak" (.cst .none)) <|
  .nil) }
noncomputable def d_Counted_init : Def := { params := ["self", "full"], body := 
  (.cons (.setAttr (.var "self") "cells" .dict0) <|
  .cons (.setAttr (.var "self") "vars" .dict0) <|
  .cons (.setAttr (.var "self") "log" (.list .nil)) <|
  .cons (.setAttr (.var "self") "last" (.cst (.int 0))) <|
  .cons (.setAttr (.var "self") "buffer" (.list .nil)) <|
  .cons (.setAttr (.var "self") "full" (.var "full")) <|
  .cons (.setAttr (.var "self") "freed" (.cst (.int 0))) <|
  .cons (.setAttr (.var "self") "plan" .dict0) <|
  .cons (.setAttr (.var "self") "tables" (.list .nil)) <|
  .nil) }
noncomputable def d_new_cell : Def := { params := ["heap", "sort"], body := 
  (.cons (.aug (.var "heap") "last" .add (.cst (.int 1))) <|
  .cons (.setSub (.attr (.var "heap") "cells") (.attr (.var "heap") "last") (.mk "Cell" (.cons (.var "sort") (.cons (.attr (.var "heap") "last") .nil)))) <|
  .cons (.ret (.tup (.cons (.cst (.str "cell")) (.cons (.attr (.var "heap") "last") .nil)))) <|
  .nil) }
noncomputable def d_cell_of : Def := { params := ["heap", "value"], body := 
  (.cons (.ret (.ite (.cmp .eq (.sub (.var "value") (.cst (.int 0))) (.cst (.str "cell"))) (.meth (.attr (.var "heap") "cells") .get (.cons (.sub (.var "value") (.cst (.int 1))) .nil)) (.cst .none))) <|
  .nil) }
noncomputable def d_is_ref : Def := { params := ["heap", "value"], body := 
  (.cons (.set "cell" (.call "cell_of" (.cons (.var "heap") (.cons (.var "value") .nil)))) <|
  .cons (.ret (.and (.cmp .isnot (.var "cell") (.cst .none)) (.cmp .eq (.attr (.var "cell") "sort") (.cst (.str "ref"))))) <|
  .nil) }
noncomputable def d_inner : Def := { params := ["heap", "value"], body := 
  (.cons (.ret (.ite (.call "is_ref" (.cons (.var "heap") (.cons (.var "value") .nil))) (.sub (.attr (.sub (.attr (.var "heap") "cells") (.sub (.var "value") (.cst (.int 1)))) "slots") (.cst (.int 0))) (.var "value"))) <|
  .nil) }
noncomputable def d_value_of : Def := { params := ["heap", "var"], body := 
  (.cons (.ret (.call "inner" (.cons (.var "heap") (.cons (.meth (.attr (.var "heap") "vars") .get (.cons (.var "var") (.cons (.tup (.cons (.cst (.str "int")) (.cons (.cst (.int 0)) .nil))) .nil))) .nil)))) <|
  .nil) }
noncomputable def d_gain : Def := { params := ["heap", "value"], body := 
  (.cons (.set "cell" (.call "cell_of" (.cons (.var "heap") (.cons (.var "value") .nil)))) <|
  .cons (.ite (.cmp .isnot (.var "cell") (.cst .none)) 
    (.cons (.aug (.var "cell") "count" .add (.cst (.int 1))) <|
    .nil) .nil) <|
  .cons (.ret (.var "value")) <|
  .nil) }
noncomputable def d_held_by : Def := { params := ["heap", "cell"], body := 
  (.cons (.set "found" (.comp (.sub (.attr (.var "table") "entries") (.attr (.var "cell") "number")) "table" (.attr (.var "heap") "tables") (.cmp .isin (.attr (.var "cell") "number") (.attr (.var "table") "entries")))) <|
  .cons (.forr "key" (.attr (.var "cell") "slots") 
    (.cons (.expr (.meth (.var "found") .append (.cons (.sub (.attr (.var "cell") "slots") (.var "key")) .nil))) <|
    .nil)) <|
  .cons (.ret (.var "found")) <|
  .nil) }
noncomputable def d_replaced : Def := { params := ["slots", "key", "value"], body := 
  (.cons (.set "old" (.ite (.cmp .isin (.var "key") (.var "slots")) (.list (.cons (.sub (.var "slots") (.var "key")) .nil)) (.list .nil))) <|
  .cons (.setSub (.var "slots") (.var "key") (.var "value")) <|
  .cons (.ret (.var "old")) <|
  .nil) }
noncomputable def d_taken_out : Def := { params := ["slots", "key"], body := 
  (.cons (.ret (.ite (.cmp .isin (.var "key") (.var "slots")) (.list (.cons (.meth (.var "slots") .pop (.cons (.var "key") .nil)) .nil)) (.list .nil))) <|
  .nil) }
noncomputable def d_written : Def := { params := ["heap", "slots", "key", "value"], body := 
  (.cons (.ite (.and (.cmp .isin (.var "key") (.var "slots")) (.call "is_ref" (.cons (.var "heap") (.cons (.sub (.var "slots") (.var "key")) .nil)))) 
    (.cons (.ret (.call "replaced" (.cons (.attr (.sub (.attr (.var "heap") "cells") (.sub (.sub (.var "slots") (.var "key")) (.cst (.int 1)))) "slots") (.cons (.cst (.int 0)) (.cons (.var "value") .nil))))) <|
    .nil) .nil) <|
  .cons (.ret (.call "replaced" (.cons (.var "slots") (.cons (.var "key") (.cons (.var "value") .nil))))) <|
  .nil) }
noncomputable def d_ref_in : Def := { params := ["heap", "slots", "key"], body := 
  (.cons (.set "held" (.meth (.var "slots") .get (.cons (.var "key") (.cons (.tup (.cons (.cst (.str "int")) (.cons (.cst (.int 0)) .nil))) .nil)))) <|
  .cons (.ite (.call "is_ref" (.cons (.var "heap") (.cons (.var "held") .nil))) 
    (.cons (.ret (.var "held")) <|
    .nil) .nil) <|
  .cons (.set "made" (.call "new_cell" (.cons (.var "heap") (.cons (.cst (.str "ref")) .nil)))) <|
  .cons (.setSub (.attr (.sub (.attr (.var "heap") "cells") (.sub (.var "made") (.cst (.int 1)))) "slots") (.cst (.int 0)) (.var "held")) <|
  .cons (.setSub (.var "slots") (.var "key") (.call "gain" (.cons (.var "heap") (.cons (.var "made") .nil)))) <|
  .cons (.ret (.var "made")) <|
  .nil) }
noncomputable def d_in_copy : Def := { params := ["heap", "cell", "value"], body := 
  (.cons (.set "held" (.call "cell_of" (.cons (.var "heap") (.cons (.var "value") .nil)))) <|
  .cons (.ite (.or (.cmp .is (.var "held") (.cst .none)) (.or (.cmp .ne (.attr (.var "held") "sort") (.cst (.str "ref"))) (.or (.cmp .gt (.attr (.var "held") "count") (.cst (.int 1))) (.cmp .eq (.sub (.attr (.var "held") "slots") (.cst (.int 0))) (.tup (.cons (.cst (.str "cell")) (.cons (.attr (.var "cell") "number") .nil))))))) 
    (.cons (.ret (.var "value")) <|
    .nil) .nil) <|
  .cons (.ret (.sub (.attr (.var "held") "slots") (.cst (.int 0)))) <|
  .nil) }
noncomputable def d_copied : Def := { params := ["heap", "cell"], body := 
  (.cons (.set "made" (.call "new_cell" (.cons (.var "heap") (.cons (.cst (.str "array")) .nil)))) <|
  .cons (.expr (.meth (.attr (.var "heap") "log") .append (.cons (.tup (.cons (.cst (.str "copy")) (.cons (.attr (.var "cell") "number") (.cons (.sub (.var "made") (.cst (.int 1))) .nil)))) .nil))) <|
  .cons (.forr "key" (.attr (.var "cell") "slots") 
    (.cons (.setSub (.attr (.sub (.attr (.var "heap") "cells") (.sub (.var "made") (.cst (.int 1)))) "slots") (.var "key") (.call "gain" (.cons (.var "heap") (.cons (.call "in_copy" (.cons (.var "heap") (.cons (.var "cell") (.cons (.sub (.attr (.var "cell") "slots") (.var "key")) .nil)))) .nil)))) <|
    .nil)) <|
  .cons (.ret (.var "made")) <|
  .nil) }
noncomputable def d_has_elements : Def := { params := ["heap", "var"], body := 
  (.cons (.ret (.cmp .eq (.sub (.call "value_of" (.cons (.var "heap") (.cons (.var "var") .nil))) (.cst (.int 0))) (.cst (.str "cell")))) <|
  .nil) }
noncomputable def d_container : Def := { params := ["heap", "var"], body := 
  (.cons (.set "cell" (.sub (.attr (.var "heap") "cells") (.sub (.call "value_of" (.cons (.var "heap") (.cons (.var "var") .nil))) (.cst (.int 1))))) <|
  .cons (.ite (.or (.cmp .eq (.attr (.var "cell") "sort") (.cst (.str "object"))) (.cmp .eq (.attr (.var "cell") "count") (.cst (.int 1)))) 
    (.cons (.ret (.tup (.cons (.var "cell") (.cons (.list .nil) .nil)))) <|
    .nil) .nil) <|
  .cons (.set "made" (.call "copied" (.cons (.var "heap") (.cons (.var "cell") .nil)))) <|
  .cons (.ret (.tup (.cons (.sub (.attr (.var "heap") "cells") (.sub (.var "made") (.cst (.int 1)))) (.cons (.call "written" (.cons (.var "heap") (.cons (.attr (.var "heap") "vars") (.cons (.var "var") (.cons (.call "gain" (.cons (.var "heap") (.cons (.var "made") .nil))) .nil))))) .nil)))) <|
  .nil) }
noncomputable def d_set_int : Def := { params := ["heap", "var", "n"], body := 
  (.cons (.ret (.call "written" (.cons (.var "heap") (.cons (.attr (.var "heap") "vars") (.cons (.var "var") (.cons (.tup (.cons (.cst (.str "int")) (.cons (.var "n") .nil))) .nil)))))) <|
  .nil) }
noncomputable def d_new_array : Def := { params := ["heap", "var"], body := 
  (.cons (.ret (.call "written" (.cons (.var "heap") (.cons (.attr (.var "heap") "vars") (.cons (.var "var") (.cons (.call "gain" (.cons (.var "heap") (.cons (.call "new_cell" (.cons (.var "heap") (.cons (.cst (.str "array")) .nil))) .nil))) .nil)))))) <|
  .nil) }
noncomputable def d_new_object : Def := { params := ["heap", "var", "has_destructor"], body := 
  (.cons (.set "made" (.call "gain" (.cons (.var "heap") (.cons (.call "new_cell" (.cons (.var "heap") (.cons (.cst (.str "object")) .nil))) .nil)))) <|
  .cons (.setAttr (.sub (.attr (.var "heap") "cells") (.sub (.var "made") (.cst (.int 1)))) "has_destructor" (.var "has_destructor")) <|
  .cons (.ret (.call "written" (.cons (.var "heap") (.cons (.attr (.var "heap") "vars") (.cons (.var "var") (.cons (.var "made") .nil)))))) <|
  .nil) }
noncomputable def d_assign : Def := { params := ["heap", "var", "other"], body := 
  (.cons (.ret (.call "written" (.cons (.var "heap") (.cons (.attr (.var "heap") "vars") (.cons (.var "var") (.cons (.call "gain" (.cons (.var "heap") (.cons (.call "value_of" (.cons (.var "heap") (.cons (.var "other") .nil))) .nil))) .nil)))))) <|
  .nil) }
noncomputable def d_put : Def := { params := ["heap", "var", "key", "other"], body := 
  (.cons (.ite (.not (.call "has_elements" (.cons (.var "heap") (.cons (.var "var") .nil)))) 
    (.cons (.ret (.list .nil)) <|
    .nil) .nil) <|
  .cons (.set "value" (.call "gain" (.cons (.var "heap") (.cons (.call "value_of" (.cons (.var "heap") (.cons (.var "other") .nil))) .nil)))) <|
  .cons (.unpack ["cell", "losses"] (.call "container" (.cons (.var "heap") (.cons (.var "var") .nil)))) <|
  .cons (.ret (.bin .add (.var "losses") (.call "written" (.cons (.var "heap") (.cons (.attr (.var "cell") "slots") (.cons (.var "key") (.cons (.var "value") .nil))))))) <|
  .nil) }
noncomputable def d_take : Def := { params := ["heap", "var", "other", "key"], body := 
  (.cons (.set "value" (.tup (.cons (.cst (.str "int")) (.cons (.cst (.int 0)) .nil)))) <|
  .cons (.ite (.call "has_elements" (.cons (.var "heap") (.cons (.var "other") .nil))) 
    (.cons (.set "value" (.call "inner" (.cons (.var "heap") (.cons (.meth (.attr (.call "cell_of" (.cons (.var "heap") (.cons (.call "value_of" (.cons (.var "heap") (.cons (.var "other") .nil))) .nil))) "slots") .get (.cons (.var "key") (.cons (.var "value") .nil))) .nil)))) <|
    .nil) .nil) <|
  .cons (.ret (.call "written" (.cons (.var "heap") (.cons (.attr (.var "heap") "vars") (.cons (.var "var") (.cons (.call "gain" (.cons (.var "heap") (.cons (.var "value") .nil))) .nil)))))) <|
  .nil) }
noncomputable def d_make_ref : Def := { params := ["heap", "var", "other"], body := 
  (.cons (.ret (.call "replaced" (.cons (.attr (.var "heap") "vars") (.cons (.var "var") (.cons (.call "gain" (.cons (.var "heap") (.cons (.call "ref_in" (.cons (.var "heap") (.cons (.attr (.var "heap") "vars") (.cons (.var "other") .nil)))) .nil))) .nil))))) <|
  .nil) }
noncomputable def d_unset : Def := { params := ["heap", "var"], body := 
  (.cons (.ret (.call "taken_out" (.cons (.attr (.var "heap") "vars") (.cons (.var "var") .nil)))) <|
  .nil) }
noncomputable def d_unset_at : Def := { params := ["heap", "var", "key"], body := 
  (.cons (.ite (.not (.call "has_elements" (.cons (.var "heap") (.cons (.var "var") .nil)))) 
    (.cons (.ret (.list .nil)) <|
    .nil) .nil) <|
  .cons (.unpack ["cell", "losses"] (.call "container" (.cons (.var "heap") (.cons (.var "var") .nil)))) <|
  .cons (.ret (.bin .add (.var "losses") (.call "taken_out" (.cons (.attr (.var "cell") "slots") (.cons (.var "key") .nil))))) <|
  .nil) }
noncomputable def d_change : Def := { params := ["heap", "name", "args"], body := 
  (.cons (.ite (.cmp .eq (.var "name") (.cst (.str "set_int"))) 
    (.cons (.ret (.call "set_int" (.cons (.var "heap") (.cons (.sub (.var "args") (.cst (.int 0))) (.cons (.sub (.var "args") (.cst (.int 1))) .nil))))) <|
    .nil) .nil) <|
  .cons (.ite (.cmp .eq (.var "name") (.cst (.str "new_array"))) 
    (.cons (.ret (.call "new_array" (.cons (.var "heap") (.cons (.sub (.var "args") (.cst (.int 0))) .nil)))) <|
    .nil) .nil) <|
  .cons (.ite (.cmp .eq (.var "name") (.cst (.str "new_object"))) 
    (.cons (.ret (.call "new_object" (.cons (.var "heap") (.cons (.sub (.var "args") (.cst (.int 0))) (.cons (.sub (.var "args") (.cst (.int 1))) .nil))))) <|
    .nil) .nil) <|
  .cons (.ite (.cmp .eq (.var "name") (.cst (.str "assign"))) 
    (.cons (.ret (.call "assign" (.cons (.var "heap") (.cons (.sub (.var "args") (.cst (.int 0))) (.cons (.sub (.var "args") (.cst (.int 1))) .nil))))) <|
    .nil) .nil) <|
  .cons (.ite (.cmp .eq (.var "name") (.cst (.str "put"))) 
    (.cons (.ret (.call "put" (.cons (.var "heap") (.cons (.sub (.var "args") (.cst (.int 0))) (.cons (.sub (.var "args") (.cst (.int 1))) (.cons (.sub (.var "args") (.cst (.int 2))) .nil)))))) <|
    .nil) .nil) <|
  .cons (.ite (.cmp .eq (.var "name") (.cst (.str "take"))) 
    (.cons (.ret (.call "take" (.cons (.var "heap") (.cons (.sub (.var "args") (.cst (.int 0))) (.cons (.sub (.var "args") (.cst (.int 1))) (.cons (.sub (.var "args") (.cst (.int 2))) .nil)))))) <|
    .nil) .nil) <|
  .cons (.ite (.cmp .eq (.var "name") (.cst (.str "make_ref"))) 
    (.cons (.ret (.call "make_ref" (.cons (.var "heap") (.cons (.sub (.var "args") (.cst (.int 0))) (.cons (.sub (.var "args") (.cst (.int 1))) .nil))))) <|
    .nil) .nil) <|
  .cons (.ite (.cmp .eq (.var "name") (.cst (.str "put_ref"))) 
    (.cons .dead <|
    .nil) .nil) <|
  .cons (.ite (.cmp .eq (.var "name") (.cst (.str "unset"))) 
    (.cons (.ret (.call "unset" (.cons (.var "heap") (.cons (.sub (.var "args") (.cst (.int 0))) .nil)))) <|
    .nil) .nil) <|
  .cons (.ite (.cmp .eq (.var "name") (.cst (.str "unset_at"))) 
    (.cons (.ret (.call "unset_at" (.cons (.var "heap") (.cons (.sub (.var "args") (.cst (.int 0))) (.cons (.sub (.var "args") (.cst (.int 1))) .nil))))) <|
    .nil) .nil) <|
  .cons .dead <|
  .nil) }
noncomputable def d_suspect : Def := { params := ["heap", "cell"], body := 
  (.cons (.ite (.cmp .eq (.attr (.var "cell") "sort") (.cst (.str "ref"))) 
    (.cons (.set "cell" (.call "cell_of" (.cons (.var "heap") (.cons (.sub (.attr (.var "cell") "slots") (.cst (.int 0))) .nil)))) <|
    .nil) .nil) <|
  .cons (.ite (.and (.cmp .isnot (.var "cell") (.cst .none)) (.not (.attr (.var "cell") "is_buffered"))) 
    (.cons (.setAttr2 (.var "cell") "colour" (.var "cell") "is_buffered" (.cst (.str "purple")) (.cst (.bool true))) <|
    .cons (.expr (.meth (.attr (.var "heap") "buffer") .append (.cons (.attr (.var "cell") "number") .nil))) <|
    .nil) .nil) <|
  .nil) }
noncomputable def d_cleared : Def := { params := ["heap", "number"], body := 
  (.cons (.set "found" (.list .nil)) <|
  .cons (.forr "table" (.attr (.var "heap") "tables") 
    (.cons (.expr (.meth (.var "found") .extend (.cons (.call "taken_out" (.cons (.attr (.var "table") "entries") (.cons (.var "number") .nil))) .nil))) <|
    .nil)) <|
  .cons (.ret (.var "found")) <|
  .nil) }
noncomputable def d_free_cell : Def := { params := ["heap", "cell"], body := 
  (.cons (.set "losses" (.call "held_by" (.cons (.var "heap") (.cons (.var "cell") .nil)))) <|
  .cons (.expr (.call "cleared" (.cons (.var "heap") (.cons (.attr (.var "cell") "number") .nil)))) <|
  .cons (.setAttr (.var "cell") "weak" (.cst .none)) <|
  .cons (.setAttr (.var "cell") "slots" .dict0) <|
  .cons (.ite (.attr (.var "cell") "is_buffered") 
    (.cons (.setAttr (.var "cell") "is_buffered" (.cst (.bool false))) <|
    .cons (.expr (.meth (.attr (.var "heap") "buffer") .remove (.cons (.attr (.var "cell") "number") .nil))) <|
    .nil) .nil) <|
  .cons (.setAttr (.var "cell") "is_freed" (.cst (.bool true))) <|
  .cons (.delSub (.attr (.var "heap") "cells") (.attr (.var "cell") "number")) <|
  .cons (.aug (.var "heap") "freed" .add (.cst (.int 1))) <|
  .cons (.expr (.meth (.attr (.var "heap") "log") .append (.cons (.tup (.cons (.cst (.str "free")) (.cons (.attr (.var "cell") "number") .nil))) .nil))) <|
  .cons (.ret (.var "losses")) <|
  .nil) }
noncomputable def d_wants_destructor : Def := { params := ["cell"], body := 
  (.cons (.ret (.and (.attr (.var "cell") "has_destructor") (.not (.attr (.var "cell") "is_destructed")))) <|
  .nil) }
noncomputable def d_losing : Def := { params := ["values"], body := 
  (.cons (.ret (.compAll (.tup (.cons (.cst (.str "lose")) (.cons (.var "value") .nil))) "value" (.bi .reversed (.var "values")))) <|
  .nil) }
noncomputable def d_lose : Def := { params := ["heap", "value"], body := 
  (.cons (.set "cell" (.call "cell_of" (.cons (.var "heap") (.cons (.var "value") .nil)))) <|
  .cons (.ite (.cmp .is (.var "cell") (.cst .none)) 
    (.cons (.ret (.list .nil)) <|
    .nil) .nil) <|
  .cons (.aug (.var "cell") "count" .sub (.cst (.int 1))) <|
  .cons (.ite (.cmp .gt (.attr (.var "cell") "count") (.cst (.int 0))) 
    (.cons (.expr (.call "suspect" (.cons (.var "heap") (.cons (.var "cell") .nil)))) <|
    .cons (.ret (.list .nil)) <|
    .nil) .nil) <|
  .cons (.ite (.call "wants_destructor" (.cons (.var "cell") .nil)) 
    (.cons .dead <|
    .nil) .nil) <|
  .cons (.ret (.call "losing" (.cons (.call "free_cell" (.cons (.var "heap") (.cons (.var "cell") .nil))) .nil))) <|
  .nil) }
noncomputable def d_settle : Def := { params := ["heap", "tasks"], body := 
  (.cons (.while (.var "tasks") 
    (.cons (.unpack ["sort", "what"] (.meth (.var "tasks") .pop .nil)) <|
    .cons (.ite (.cmp .eq (.var "sort") (.cst (.str "lose"))) 
      (.cons (.expr (.meth (.var "tasks") .extend (.cons (.call "lose" (.cons (.var "heap") (.cons (.var "what") .nil))) .nil))) <|
      .nil) 
      (.cons (.expr (.meth (.var "tasks") .extend (.cons (.call "losing" (.cons (.call "change" (.cons (.var "heap") (.cons (.sub (.var "what") (.cst (.int 0))) (.cons (.sub (.var "what") (.cst (.int 1))) .nil)))) .nil)) .nil))) <|
      .nil)) <|
    .nil)) <|
  .nil) }
noncomputable def d_do_deed : Def := { params := ["heap", "deed"], body := 
  (.cons (.expr (.call "settle" (.cons (.var "heap") (.cons (.list (.cons (.tup (.cons (.cst (.str "deed")) (.cons (.var "deed") .nil))) .nil)) .nil)))) <|
  .nil) }
noncomputable def d_children : Def := { params := ["heap", "cell"], body := 
  (.cons (.ret (.comp (.sub (.attr (.var "heap") "cells") (.sub (.var "value") (.cst (.int 1)))) "value" (.call "held_by" (.cons (.var "heap") (.cons (.var "cell") .nil))) (.cmp .eq (.sub (.var "value") (.cst (.int 0))) (.cst (.str "cell"))))) <|
  .nil) }
noncomputable def d_mark_grey : Def := { params := ["heap", "cell"], body := 
  (.cons (.set "waiting" (.list (.cons (.var "cell") .nil))) <|
  .cons (.while (.var "waiting") 
    (.cons (.set "here" (.meth (.var "waiting") .pop .nil)) <|
    .cons (.ite (.cmp .ne (.attr (.var "here") "colour") (.cst (.str "grey"))) 
      (.cons (.setAttr (.var "here") "colour" (.cst (.str "grey"))) <|
      .cons (.forr "child" (.call "children" (.cons (.var "heap") (.cons (.var "here") .nil))) 
        (.cons (.aug (.var "child") "count" .sub (.cst (.int 1))) <|
        .cons (.expr (.meth (.var "waiting") .append (.cons (.var "child") .nil))) <|
        .nil)) <|
      .nil) .nil) <|
    .nil)) <|
  .nil) }
noncomputable def d_scan_black : Def := { params := ["heap", "cell"], body := 
  (.cons (.setAttr (.var "cell") "colour" (.cst (.str "black"))) <|
  .cons (.set "waiting" (.list (.cons (.var "cell") .nil))) <|
  .cons (.while (.var "waiting") 
    (.cons (.forr "child" (.call "children" (.cons (.var "heap") (.cons (.meth (.var "waiting") .pop .nil) .nil))) 
      (.cons (.aug (.var "child") "count" .add (.cst (.int 1))) <|
      .cons (.ite (.cmp .ne (.attr (.var "child") "colour") (.cst (.str "black"))) 
        (.cons (.setAttr (.var "child") "colour" (.cst (.str "black"))) <|
        .cons (.expr (.meth (.var "waiting") .append (.cons (.var "child") .nil))) <|
        .nil) .nil) <|
      .nil)) <|
    .nil)) <|
  .nil) }
noncomputable def d_scan : Def := { params := ["heap", "cell"], body := 
  (.cons (.set "waiting" (.list (.cons (.var "cell") .nil))) <|
  .cons (.while (.var "waiting") 
    (.cons (.set "here" (.meth (.var "waiting") .pop .nil)) <|
    .cons (.ite (.cmp .eq (.attr (.var "here") "colour") (.cst (.str "grey"))) 
      (.cons (.ite (.cmp .gt (.attr (.var "here") "count") (.cst (.int 0))) 
        (.cons (.expr (.call "scan_black" (.cons (.var "heap") (.cons (.var "here") .nil)))) <|
        .nil) 
        (.cons (.setAttr (.var "here") "colour" (.cst (.str "white"))) <|
        .cons (.expr (.meth (.var "waiting") .extend (.cons (.call "children" (.cons (.var "heap") (.cons (.var "here") .nil))) .nil))) <|
        .nil)) <|
      .nil) .nil) <|
    .nil)) <|
  .nil) }
noncomputable def d_gather : Def := { params := ["heap", "cells"], body := 
  (.cons (.set "found" (.list .nil)) <|
  .cons (.set "waiting" (.listOf (.var "cells"))) <|
  .cons (.while (.var "waiting") 
    (.cons (.set "here" (.meth (.var "waiting") .pop .nil)) <|
    .cons (.ite (.cmp .eq (.attr (.var "here") "colour") (.cst (.str "white"))) 
      (.cons (.setAttr (.var "here") "colour" (.cst (.str "black"))) <|
      .cons (.expr (.meth (.var "found") .append (.cons (.attr (.var "here") "number") .nil))) <|
      .cons (.forr "child" (.call "children" (.cons (.var "heap") (.cons (.var "here") .nil))) 
        (.cons (.aug (.var "child") "count" .add (.cst (.int 1))) <|
        .cons (.expr (.meth (.var "waiting") .append (.cons (.var "child") .nil))) <|
        .nil)) <|
      .nil) .nil) <|
    .nil)) <|
  .cons (.ret (.bi .sorted (.var "found"))) <|
  .nil) }
noncomputable def d_find_rings : Def := { params := ["heap"], body := 
  (.cons (.set "suspects" (.compAll (.sub (.attr (.var "heap") "cells") (.var "number")) "number" (.attr (.var "heap") "buffer"))) <|
  .cons (.setAttr (.var "heap") "buffer" (.list .nil)) <|
  .cons (.forr "cell" (.var "suspects") 
    (.cons (.setAttr (.var "cell") "is_buffered" (.cst (.bool false))) <|
    .nil)) <|
  .cons (.forr "cell" (.var "suspects") 
    (.cons (.expr (.call "mark_grey" (.cons (.var "heap") (.cons (.var "cell") .nil)))) <|
    .nil)) <|
  .cons (.forr "cell" (.var "suspects") 
    (.cons (.expr (.call "scan" (.cons (.var "heap") (.cons (.var "cell") .nil)))) <|
    .nil)) <|
  .cons (.ret (.call "gather" (.cons (.var "heap") (.cons (.var "suspects") .nil)))) <|
  .nil) }
noncomputable def d_free_all : Def := { params := ["heap", "numbers"], body := 
  (.cons (.set "losses" (.list .nil)) <|
  .cons (.forr "number" (.var "numbers") 
    (.cons (.expr (.meth (.var "losses") .extend (.cons (.call "free_cell" (.cons (.var "heap") (.cons (.sub (.attr (.var "heap") "cells") (.var "number")) .nil))) .nil))) <|
    .nil)) <|
  .cons (.expr (.call "settle" (.cons (.var "heap") (.cons (.call "losing" (.cons (.var "losses") .nil)) .nil)))) <|
  .nil) }
noncomputable def d_turn : Def := { params := ["heap"], body := 
  (.cons (.set "white" (.call "find_rings" (.cons (.var "heap") .nil))) <|
  .cons (.set "waiting" (.comp (.var "number") "number" (.var "white") (.call "wants_destructor" (.cons (.sub (.attr (.var "heap") "cells") (.var "number")) .nil)))) <|
  .cons (.ite (.var "waiting") 
    (.cons .dead <|
    .cons .dead <|
    .nil) .nil) <|
  .cons (.expr (.call "free_all" (.cons (.var "heap") (.cons (.var "white") .nil)))) <|
  .nil) }
noncomputable def d_collect : Def := { params := ["heap"], body := 
  (.cons (.set "before" (.attr (.var "heap") "freed")) <|
  .cons (.while (.attr (.var "heap") "buffer") 
    (.cons (.expr (.call "turn" (.cons (.var "heap") .nil))) <|
    .nil)) <|
  .cons (.ret (.bin .sub (.attr (.var "heap") "freed") (.var "before"))) <|
  .nil) }
noncomputable def d_collect_when_full : Def := { params := ["heap"], body := 
  (.cons (.ret (.ite (.cmp .ge (.bi .len (.attr (.var "heap") "buffer")) (.attr (.var "heap") "full")) (.call "collect" (.cons (.var "heap") .nil)) (.cst (.int 0)))) <|
  .nil) }
noncomputable def d_run_deed : Def := { params := ["heap", "deed"], body := 
  (.cons (.expr (.call "do_deed" (.cons (.var "heap") (.cons (.var "deed") .nil)))) <|
  .cons (.expr (.call "collect_when_full" (.cons (.var "heap") .nil))) <|
  .nil) }
noncomputable def d_law_told : Def := { params := [], body := 
  (.cons (.ret (.list (.cons (.tup (.cons (.cst (.int 1)) (.cons (.cst (.int 0)) (.cons (.cst (.int 0)) (.cons (.cst (.int 0)) (.cons (.cst (.int 0)) .nil)))))) (.cons (.tup (.cons (.cst (.int 1)) (.cons (.cst (.int 1)) (.cons (.cst (.int 0)) (.cons (.cst (.int 0)) (.cons (.cst (.int 0)) .nil)))))) (.cons (.tup (.cons (.cst (.int 4)) (.cons (.cst (.int 0)) (.cons (.cst (.int 1)) (.cons (.cst (.int 1)) (.cons (.cst (.int 0)) .nil)))))) (.cons (.tup (.cons (.cst (.int 4)) (.cons (.cst (.int 1)) (.cons (.cst (.int 0)) (.cons (.cst (.int 0)) (.cons (.cst (.int 0)) .nil)))))) (.cons (.tup (.cons (.cst (.int 0)) (.cons (.cst (.int 2)) (.cons (.cst (.int 0)) (.cons (.cst (.int 0)) (.cons (.cst (.int 0)) .nil)))))) (.cons (.tup (.cons (.cst (.int 4)) (.cons (.cst (.int 2)) (.cons (.cst (.int 0)) (.cons (.cst (.int 1)) (.cons (.cst (.int 0)) .nil)))))) (.cons (.tup (.cons (.cst (.int 4)) (.cons (.cst (.int 0)) (.cons (.cst (.int 0)) (.cons (.cst (.int 2)) (.cons (.cst (.int 0)) .nil)))))) (.cons (.tup (.cons (.cst (.int 8)) (.cons (.cst (.int 0)) (.cons (.cst (.int 0)) (.cons (.cst (.int 0)) (.cons (.cst (.int 0)) .nil)))))) (.cons (.tup (.cons (.cst (.int 3)) (.cons (.cst (.int 3)) (.cons (.cst (.int 0)) (.cons (.cst (.int 2)) (.cons (.cst (.int 0)) .nil)))))) (.cons (.tup (.cons (.cst (.int 8)) (.cons (.cst (.int 1)) (.cons (.cst (.int 0)) (.cons (.cst (.int 0)) (.cons (.cst (.int 0)) .nil)))))) (.cons (.tup (.cons (.cst (.int 4)) (.cons (.cst (.int 2)) (.cons (.cst (.int 1)) (.cons (.cst (.int 3)) (.cons (.cst (.int 0)) .nil)))))) (.cons (.tup (.cons (.cst (.int 8)) (.cons (.cst (.int 3)) (.cons (.cst (.int 0)) (.cons (.cst (.int 0)) (.cons (.cst (.int 0)) .nil)))))) (.cons (.tup (.cons (.cst (.int 6)) (.cons (.cst (.int 4)) (.cons (.cst (.int 0)) (.cons (.cst (.int 2)) (.cons (.cst (.int 0)) .nil)))))) (.cons (.tup (.cons (.cst (.int 4)) (.cons (.cst (.int 4)) (.cons (.cst (.int 2)) (.cons (.cst (.int 2)) (.cons (.cst (.int 0)) .nil)))))) (.cons (.tup (.cons (.cst (.int 5)) (.cons (.cst (.int 1)) (.cons (.cst (.int 0)) (.cons (.cst (.int 2)) (.cons (.cst (.int 0)) .nil)))))) (.cons (.tup (.cons (.cst (.int 4)) (.cons (.cst (.int 1)) (.cons (.cst (.int 2)) (.cons (.cst (.int 1)) (.cons (.cst (.int 0)) .nil)))))) (.cons (.tup (.cons (.cst (.int 8)) (.cons (.cst (.int 2)) (.cons (.cst (.int 0)) (.cons (.cst (.int 0)) (.cons (.cst (.int 0)) .nil)))))) (.cons (.tup (.cons (.cst (.int 2)) (.cons (.cst (.int 4)) (.cons (.cst (.int 0)) (.cons (.cst (.int 0)) (.cons (.cst (.int 7)) .nil)))))) (.cons (.tup (.cons (.cst (.int 4)) (.cons (.cst (.int 1)) (.cons (.cst (.int 0)) (.cons (.cst (.int 4)) (.cons (.cst (.int 0)) .nil)))))) (.cons (.tup (.cons (.cst (.int 8)) (.cons (.cst (.int 1)) (.cons (.cst (.int 0)) (.cons (.cst (.int 0)) (.cons (.cst (.int 0)) .nil)))))) (.cons (.tup (.cons (.cst (.int 0)) (.cons (.cst (.int 0)) (.cons (.cst (.int 0)) (.cons (.cst (.int 0)) (.cons (.cst (.int 0)) .nil)))))) (.cons (.tup (.cons (.cst (.int 7)) (.cons (.cst (.int 0)) (.cons (.cst (.int 1)) (.cons (.cst (.int 0)) (.cons (.cst (.int 0)) .nil)))))) .nil)))))))))))))))))))))))) <|
  .nil) }
noncomputable def d_law_row : Def := { params := ["told", "x"], body := 
  (.cons (.set2 "sizes" "row" (.tup (.cons (.cst (.int 9)) (.cons (.cst (.int 5)) (.cons (.cst (.int 3)) (.cons (.cst (.int 5)) (.cons (.cst (.int 9)) .nil)))))) (.list .nil)) <|
  .cons (.forr "k" (.bi .range (.cst (.int 5))) 
    (.cons (.expr (.meth (.var "row") .append (.cons (.bin .mod (.bin .add (.sub (.var "told") (.var "k")) (.var "x")) (.sub (.var "sizes") (.var "k"))) .nil))) <|
    .cons (.set "x" (.bin .fdiv (.var "x") (.sub (.var "sizes") (.var "k")))) <|
    .nil)) <|
  .cons (.ret (.var "row")) <|
  .nil) }
noncomputable def d_law_deed : Def := { params := ["row"], body := 
  (.cons (.unpack ["way", "a", "key", "b", "n"] (.var "row")) <|
  .cons (.ret (.sub (.list (.cons (.tup (.cons (.cst (.str "new_array")) (.cons (.tup (.cons (.var "a") .nil)) .nil))) (.cons (.tup (.cons (.cst (.str "new_object")) (.cons (.tup (.cons (.var "a") (.cons (.cst (.bool false)) .nil))) .nil))) (.cons (.tup (.cons (.cst (.str "set_int")) (.cons (.tup (.cons (.var "a") (.cons (.var "n") .nil))) .nil))) (.cons (.tup (.cons (.cst (.str "assign")) (.cons (.tup (.cons (.var "a") (.cons (.var "b") .nil))) .nil))) (.cons (.tup (.cons (.cst (.str "put")) (.cons (.tup (.cons (.var "a") (.cons (.var "key") (.cons (.var "b") .nil)))) .nil))) (.cons (.tup (.cons (.cst (.str "take")) (.cons (.tup (.cons (.var "a") (.cons (.var "b") (.cons (.var "key") .nil)))) .nil))) (.cons (.tup (.cons (.cst (.str "make_ref")) (.cons (.tup (.cons (.var "a") (.cons (.var "b") .nil))) .nil))) (.cons (.tup (.cons (.cst (.str "unset_at")) (.cons (.tup (.cons (.var "a") (.cons (.var "key") .nil))) .nil))) (.cons (.tup (.cons (.cst (.str "unset")) (.cons (.tup (.cons (.var "a") .nil)) .nil))) .nil)))))))))) (.var "way"))) <|
  .nil) }
noncomputable def d_law_told_value : Def := { params := ["heap", "met", "value", "depth", "rows"], body := 
  (.cons (.ite (.cmp .eq (.sub (.var "value") (.cst (.int 0))) (.cst (.str "int"))) 
    (.cons (.expr (.meth (.var "rows") .append (.cons (.var "value") .nil))) <|
    .cons .ret0 <|
    .nil) .nil) <|
  .cons (.set "cell" (.sub (.attr (.var "heap") "cells") (.sub (.var "value") (.cst (.int 1))))) <|
  .cons (.ite (.cmp .ne (.attr (.var "cell") "sort") (.cst (.str "array"))) 
    (.cons (.ite (.cmp .isin (.sub (.var "value") (.cst (.int 1))) (.var "met")) 
      (.cons (.expr (.meth (.var "rows") .append (.cons (.tup (.cons (.cst (.str "again")) (.cons (.sub (.var "met") (.sub (.var "value") (.cst (.int 1)))) .nil))) .nil))) <|
      .cons .ret0 <|
      .nil) .nil) <|
    .cons (.setSub (.var "met") (.sub (.var "value") (.cst (.int 1))) (.bi .len (.var "met"))) <|
    .nil) .nil) <|
  .cons (.expr (.meth (.var "rows") .append (.cons (.tup (.cons (.attr (.var "cell") "sort") (.cons (.bi .len (.attr (.var "cell") "slots")) .nil))) .nil))) <|
  .cons (.ite (.and (.cmp .eq (.attr (.var "cell") "sort") (.cst (.str "array"))) (.cmp .eq (.var "depth") (.cst (.int 0)))) 
    (.cons .ret0 <|
    .nil) .nil) <|
  .cons (.forr "key" (.attr (.var "cell") "slots") 
    (.cons (.expr (.meth (.var "rows") .append (.cons (.tup (.cons (.cst (.str "key")) (.cons (.var "key") .nil))) .nil))) <|
    .cons (.expr (.call "_law_told_value" (.cons (.var "heap") (.cons (.var "met") (.cons (.sub (.attr (.var "cell") "slots") (.var "key")) (.cons (.ite (.cmp .eq (.attr (.var "cell") "sort") (.cst (.str "array"))) (.bin .sub (.var "depth") (.cst (.int 1))) (.cst (.int 2))) (.cons (.var "rows") .nil))))))) <|
    .nil)) <|
  .nil) }
noncomputable def d_law_tells : Def := { params := ["heap"], body := 
  (.cons (.set2 "met" "rows" .dict0 (.list .nil)) <|
  .cons (.forr "var" (.bi .range (.cst (.int 5))) 
    (.cons (.expr (.meth (.var "rows") .append (.cons (.tup (.cons (.cst (.str "variable")) (.cons (.cmp .isin (.var "var") (.attr (.var "heap") "vars")) .nil))) .nil))) <|
    .cons (.ite (.cmp .isin (.var "var") (.attr (.var "heap") "vars")) 
      (.cons (.expr (.call "_law_told_value" (.cons (.var "heap") (.cons (.var "met") (.cons (.sub (.attr (.var "heap") "vars") (.var "var")) (.cons (.cst (.int 2)) (.cons (.var "rows") .nil))))))) <|
      .nil) .nil) <|
    .nil)) <|
  .cons (.ret (.var "rows")) <|
  .nil) }
noncomputable def d_law_objects : Def := { params := ["heap"], body := 
  (.cons (.set2 "seen" "line" .dict0 (.listVals (.attr (.var "heap") "vars"))) <|
  .cons (.while (.cmp .ne (.var "line") (.list .nil)) 
    (.cons (.set "value" (.meth (.var "line") .pop .nil)) <|
    .cons (.ite (.and (.cmp .eq (.sub (.var "value") (.cst (.int 0))) (.cst (.str "cell"))) (.cmp .notin (.sub (.var "value") (.cst (.int 1))) (.var "seen"))) 
      (.cons (.setSub (.var "seen") (.sub (.var "value") (.cst (.int 1))) (.cst (.bool true))) <|
      .cons (.expr (.meth (.var "line") .extend (.cons (.listVals (.attr (.sub (.attr (.var "heap") "cells") (.sub (.var "value") (.cst (.int 1)))) "slots")) .nil))) <|
      .nil) .nil) <|
    .nil)) <|
  .cons (.ret (.comp (.var "number") "number" (.bi .sorted (.var "seen")) (.cmp .eq (.attr (.sub (.attr (.var "heap") "cells") (.var "number")) "sort") (.cst (.str "object"))))) <|
  .nil) }
noncomputable def d_law_do : Def := { params := ["heaps", "deed"], body := 
  (.cons (.expr (.call "do_deed" (.cons (.sub (.var "heaps") (.cst (.int 0))) (.cons (.var "deed") .nil)))) <|
  .cons (.expr (.call "do_deed" (.cons (.sub (.var "heaps") (.cst (.int 1))) (.cons (.var "deed") .nil)))) <|
  .cons (.expr (.call "collect" (.cons (.sub (.var "heaps") (.cst (.int 1))) .nil))) <|
  .cons (.expr (.call "run_deed" (.cons (.sub (.var "heaps") (.cst (.int 2))) (.cons (.var "deed") .nil)))) <|
  .cons (.expr (.call "run_deed" (.cons (.sub (.var "heaps") (.cst (.int 3))) (.cons (.var "deed") .nil)))) <|
  .nil) }
noncomputable def d_law_are_alike : Def := { params := ["heaps"], body := 
  (.cons (.set "first" (.call "_law_tells" (.cons (.sub (.var "heaps") (.cst (.int 0))) .nil))) <|
  .cons (.ret (.bi .all (.compAll (.cmp .eq (.call "_law_tells" (.cons (.var "heap") .nil)) (.var "first")) "heap" (.frm (.var "heaps") 1)))) <|
  .nil) }
noncomputable def d_law : Def := { params := ["script"], body := 
  (.cons (.set "script" (.upto (.var "script") 63)) <|
  .cons (.set2 "told" "x" (.call "_law_told" .nil) (.ite (.cmp .gt (.bi .len (.var "script")) (.cst (.int 22))) (.sub (.var "script") (.cst (.int 22))) (.cst (.int 1)))) <|
  .cons (.set "heaps" (.list (.cons (.mk "Counted" (.cons (.cst (.int 1000)) .nil)) (.cons (.mk "Counted" (.cons (.cst (.int 1000)) .nil)) (.cons (.mk "Counted" (.cons (.bin .add (.cst (.int 1)) (.bin .mod (.var "x") (.cst (.int 8)))) .nil)) (.cons (.mk "Counted" (.cons (.bin .add (.cst (.int 1)) (.bin .mod (.bin .fdiv (.var "x") (.cst (.int 8))) (.cst (.int 8)))) .nil)) .nil)))))) <|
  .cons (.forr "k" (.bi .range (.cst (.int 22))) 
    (.cons (.expr (.call "_law_do" (.cons (.var "heaps") (.cons (.call "_law_deed" (.cons (.call "_law_row" (.cons (.sub (.var "told") (.var "k")) (.cons (.ite (.cmp .lt (.var "k") (.bi .len (.var "script"))) (.sub (.var "script") (.var "k")) (.cst (.int 0))) .nil))) .nil)) .nil)))) <|
    .cons (.ite (.and (.cmp .eq (.bin .mod (.var "k") (.cst (.int 8))) (.cst (.int 7))) (.not (.call "_law_are_alike" (.cons (.var "heaps") .nil)))) 
      (.cons (.ret (.cst (.bool false))) <|
      .nil) .nil) <|
    .nil)) <|
  .cons (.forr "heap" (.var "heaps") 
    (.cons (.expr (.call "collect" (.cons (.var "heap") .nil))) <|
    .cons (.ite (.cmp .ne (.comp (.var "number") "number" (.bi .sorted (.attr (.var "heap") "cells")) (.cmp .eq (.attr (.sub (.attr (.var "heap") "cells") (.var "number")) "sort") (.cst (.str "object")))) (.call "_law_objects" (.cons (.var "heap") .nil))) 
      (.cons (.ret (.cst (.bool false))) <|
      .nil) .nil) <|
    .nil)) <|
  .cons (.ret (.and (.call "_law_are_alike" (.cons (.var "heaps") .nil)) (.bi .all (.compAll (.cmp .eq (.bi .len (.call "_law_objects" (.cons (.var "heap") .nil))) (.bi .len (.call "_law_objects" (.cons (.sub (.var "heaps") (.cst (.int 0))) .nil)))) "heap" (.var "heaps"))))) <|
  .nil) }
noncomputable def prg : String → Option Def
  | "Cell.__init__" => some d_Cell_init
  | "Counted.__init__" => some d_Counted_init
  | "new_cell" => some d_new_cell
  | "cell_of" => some d_cell_of
  | "is_ref" => some d_is_ref
  | "inner" => some d_inner
  | "value_of" => some d_value_of
  | "gain" => some d_gain
  | "held_by" => some d_held_by
  | "replaced" => some d_replaced
  | "taken_out" => some d_taken_out
  | "written" => some d_written
  | "ref_in" => some d_ref_in
  | "in_copy" => some d_in_copy
  | "copied" => some d_copied
  | "has_elements" => some d_has_elements
  | "container" => some d_container
  | "set_int" => some d_set_int
  | "new_array" => some d_new_array
  | "new_object" => some d_new_object
  | "assign" => some d_assign
  | "put" => some d_put
  | "take" => some d_take
  | "make_ref" => some d_make_ref
  | "unset" => some d_unset
  | "unset_at" => some d_unset_at
  | "change" => some d_change
  | "suspect" => some d_suspect
  | "cleared" => some d_cleared
  | "free_cell" => some d_free_cell
  | "wants_destructor" => some d_wants_destructor
  | "losing" => some d_losing
  | "lose" => some d_lose
  | "settle" => some d_settle
  | "do_deed" => some d_do_deed
  | "children" => some d_children
  | "mark_grey" => some d_mark_grey
  | "scan_black" => some d_scan_black
  | "scan" => some d_scan
  | "gather" => some d_gather
  | "find_rings" => some d_find_rings
  | "free_all" => some d_free_all
  | "turn" => some d_turn
  | "collect" => some d_collect
  | "collect_when_full" => some d_collect_when_full
  | "run_deed" => some d_run_deed
  | "_law_told" => some d_law_told
  | "_law_row" => some d_law_row
  | "_law_deed" => some d_law_deed
  | "_law_told_value" => some d_law_told_value
  | "_law_tells" => some d_law_tells
  | "_law_objects" => some d_law_objects
  | "_law_do" => some d_law_do
  | "_law_are_alike" => some d_law_are_alike
  | "law" => some d_law
  | _ => none
noncomputable def prgNames : List String := ["Cell.__init__", "Counted.__init__", "new_cell", "cell_of", "is_ref", "inner", "value_of", "gain", "held_by", "replaced", "taken_out", "written", "ref_in", "in_copy", "copied", "has_elements", "container", "set_int", "new_array", "new_object", "assign", "put", "take", "make_ref", "unset", "unset_at", "change", "suspect", "cleared", "free_cell", "wants_destructor", "losing", "lose", "settle", "do_deed", "children", "mark_grey", "scan_black", "scan", "gather", "find_rings", "free_all", "turn", "collect", "collect_when_full", "run_deed", "_law_told", "_law_row", "_law_deed", "_law_told_value", "_law_tells", "_law_objects", "_law_do", "_law_are_alike", "law"]
end Gc
end
/- HdNew -/
section
open PySem PySem.W PyProof.Rows
namespace Gc
section
set_option maxRecDepth 100000
noncomputable def hvS (x : String) (k : Nat) : Value := .str (.ofString x) k
noncomputable def hvN (x : Int) (k : Nat) : Value := .int x k
noncomputable def hvO (c : Value) (xs : List Value) : Obj := { cls := c, data := .fields xs.toArray }
noncomputable def hvT : Obj := { cls := .type "tuple", data := .seq #[] }
noncomputable def hvF (xs : List (Option Value)) : Obj := { cls := .type "frame", slots := xs.toArray }
noncomputable def hvE (pr : Params) (x : String) (k : Nat) (v : Value) : DictEntry := ⟨PyData.keyHash pr (.ofString x), .str (.ofString x) k, v⟩
noncomputable def hvD (es : List DictEntry) (n : Nat) : Obj := { cls := .type "dict", data := .dict es.toArray n }
noncomputable def hvC : Option Obj → Obj
  | some ⟨_, _, .func f, _⟩ => { cls := .none, data := .func { name := f.name, qualname := f.qualname, params := f.params, body := f.body, scope := f.scope, globals := 0, closure := [], defaults := .none, kwdefaults := .none } }
  | _ => { cls := .none }
noncomputable def hvRest (pr : Params) (K : Frag) : Frag :=
  [(0, boot_o_0 pr),
  (1, boot_o_1 pr),
  (4, boot_o_4 pr),
  (5, boot_o_5 pr),
  (6, boot_o_6 pr),
  (7, boot_o_7 pr),
  (8, boot_o_8 pr),
  (9, boot_o_9 pr),
  (10, boot_o_10 pr),
  (11, hvT),
  (12, hvO .none [hvN 2 0, hvN 0 0, .ref 20, hvN 7 0, hvN 0 0, .ref 40, hvN 10 0, hvN 0 0, .ref 52, hvN 20 0, hvN 0 0, .ref 73, hvN 32 0, hvN 0 0, .ref 94, hvN 36 0, hvN 0 0, .ref 101, hvN 38 0, hvN 0 0, .ref 108, hvN 41 0, hvN 0 0, .ref 115, hvN 43 0, hvN 0 0, .ref 122, hvN 45 0, hvN 0 0, .ref 129, hvN 50 0, hvN 0 0, .ref 134, hvN 55 0, hvN 0 0, .ref 141, hvN 59 0, hvN 0 0, .ref 148, hvN 61 0, hvN 0 0, .ref 155, hvN 65 0, hvN 0 0, .ref 162, hvN 73 0, hvN 0 0, .ref 169, hvN 78 0, hvN 0 0, .ref 176, hvN 84 0, hvN 0 0, .ref 183, hvN 86 0, hvN 0 0, .ref 190, hvN 92 0, hvN 0 0, .ref 197, hvN 94 0, hvN 0 0, .ref 204, hvN 96 0, hvN 0 0, .ref 211, hvN 100 0, hvN 0 0, .ref 218, hvN 102 0, hvN 0 0, .ref 225, hvN 108 0, hvN 0 0, .ref 232, hvN 113 0, hvN 0 0, .ref 239, hvN 115 0, hvN 0 0, .ref 246, hvN 121 0, hvN 0 0, .ref 253, hvN 123 0, hvN 0 0, .ref 260, hvN 128 0, hvN 0 0, .ref 267, hvN 150 0, hvN 0 0, .ref 274, hvN 156 0, hvN 0 0, .ref 281, hvN 161 0, hvN 0 0, .ref 288, hvN 174 0, hvN 0 0, .ref 295, hvN 176 0, hvN 0 0, .ref 302, hvN 184 0, hvN 0 0, .ref 307, hvN 186 0, hvN 0 0, .ref 314, hvN 197 0, hvN 0 0, .ref 321, hvN 204 0, hvN 0 0, .ref 328, hvN 207 0, hvN 0 0, .ref 333, hvN 209 0, hvN 0 0, .ref 340, hvN 218 0, hvN 0 0, .ref 347, hvN 227 0, hvN 0 0, .ref 354, hvN 237 0, hvN 0 0, .ref 361, hvN 249 0, hvN 0 0, .ref 366, hvN 259 0, hvN 0 0, .ref 373, hvN 266 0, hvN 0 0, .ref 378, hvN 283 0, hvN 0 0, .ref 383, hvN 287 0, hvN 0 0, .ref 390, hvN 292 0, hvN 0 0, .ref 395, hvN 299 0, hvN 0 0, .ref 402, hvN 304 0, hvN 0 0, .ref 409, hvN 306 0, hvN 0 0, .ref 416, hvN 310 0, hvN 0 0, .ref 423, hvN 312 0, hvN 0 0, .ref 430, hvN 318 0, hvN 0 0, .ref 437, hvN 321 0, hvN 0 0, .ref 444, hvN 337 0, hvN 0 0, .ref 451, hvN 344 0, hvN 0 0, .ref 456, hvN 352 0, hvN 0 0, .ref 463, hvN 358 0, hvN 0 0, .ref 468, hvN 361 0, hvN 0 0, .ref 473]),
  (13, hvO (.type "code") [hvS "<module>" 182, hvS "<module>" 183, hvS "/claim/cut.py" 184, hvN 1 0, hvN 0 0, hvN 0 0, hvN 0 0, hvN 0 0, .ref 11, .bool false, hvN 181 0, .ref 12, .none, .none, .none, .none, hvN 185 0, hvN 1 0, hvS "/claim/cut.py" 186]),
  (14, hvF [some (.ref 13), some (.ref 3), some (.ref 3), none, some (hvS "__main__" 164), none, some (.ref 0)]),
  (16, hvO (.type "builtin_function_or_method") [.builtin "type.__prepare__", .type "type"]),
  (17, hvD [hvE pr "__module__" 196 (hvS "phpcore.faults" 187), hvE pr "__qualname__" 198 (hvS "PhpFault" 197), hvE pr "__firstlineno__" 200 (hvN 2 199), hvE pr "__init__" 208 (.ref 28), hvE pr "__static_attributes__" 210 (.ref 29)] 5),
  (18, hvT),
  (19, hvO .none [hvN 4 0, hvN 4 0, .ref 27]),
  (20, hvO (.type "code") [hvS "PhpFault" 191, hvS "PhpFault" 192, hvS "/claim/cut.py" 193, hvN 2 0, hvN 0 0, hvN 0 0, hvN 0 0, hvN 0 0, .ref 18, .bool false, hvN 181 0, .ref 19, .none, .none, .none, .none, hvN 194 0, hvN 2 0, hvS "/claim/cut.py" 195]),
  (21, hvF [some (.ref 20), some (.ref 3), some (.ref 17), none, some (hvS "phpcore.faults" 187), none, some (.ref 0)]),
  (23, hvO .none []),
  (26, hvC (K.lookup 28)),
  (33, hvO (.type "super") [.ref 31, .ref 31, .ref 31]),
  (34, hvO (.type "builtin_function_or_method") [.builtin "object.__init_subclass__", .ref 31]),
  (36, hvO (.type "builtin_function_or_method") [.builtin "type.__prepare__", .type "type"]),
  (37, hvD [hvE pr "__module__" 225 (hvS "phpcore.faults" 187), hvE pr "__qualname__" 227 (hvS "Misused" 226), hvE pr "__firstlineno__" 229 (hvN 7 228), hvE pr "__static_attributes__" 230 (.ref 42)] 4),
  (38, hvT),
  (39, hvO .none []),
  (40, hvO (.type "code") [hvS "Misused" 220, hvS "Misused" 221, hvS "/claim/cut.py" 222, hvN 7 0, hvN 0 0, hvN 0 0, hvN 0 0, hvN 0 0, .ref 38, .bool false, hvN 181 0, .ref 39, .none, .none, .none, .none, hvN 223 0, hvN 7 0, hvS "/claim/cut.py" 224]),
  (41, hvF [some (.ref 40), some (.ref 3), some (.ref 37), none, some (hvS "phpcore.faults" 187), none, some (.ref 0)]),
  (45, hvO (.type "super") [.ref 44, .ref 44, .ref 44]),
  (46, hvO (.type "builtin_function_or_method") [.builtin "object.__init_subclass__", .ref 44]),
  (47, hvT),
  (48, hvO (.type "builtin_function_or_method") [.builtin "type.__prepare__", .type "type"]),
  (49, hvD [hvE pr "__module__" 243 (hvS "phpcore.counted" 234), hvE pr "__qualname__" 245 (hvS "Cell" 244), hvE pr "__firstlineno__" 247 (hvN 10 246), hvE pr "__init__" 256 (.ref 60), hvE pr "__static_attributes__" 267 (.ref 61)] 5),
  (50, hvT),
  (51, hvO .none [hvN 12 0, hvN 4 0, .ref 59]),
  (52, hvO (.type "code") [hvS "Cell" 238, hvS "Cell" 239, hvS "/claim/cut.py" 240, hvN 10 0, hvN 0 0, hvN 0 0, hvN 0 0, hvN 0 0, .ref 50, .bool false, hvN 181 0, .ref 51, .none, .none, .none, .none, hvN 241 0, hvN 10 0, hvS "/claim/cut.py" 242]),
  (53, hvF [some (.ref 52), some (.ref 3), some (.ref 49), none, some (hvS "phpcore.counted" 234), none, some (.ref 0)]),
  (55, hvO .none []),
  (58, hvC (K.lookup 60)),
  (66, hvO (.type "super") [.ref 63, .ref 63, .ref 63]),
  (67, hvO (.type "builtin_function_or_method") [.builtin "object.__init_subclass__", .ref 63]),
  (68, hvT),
  (69, hvO (.type "builtin_function_or_method") [.builtin "type.__prepare__", .type "type"]),
  (70, hvD [hvE pr "__module__" 282 (hvS "phpcore.counted" 234), hvE pr "__qualname__" 284 (hvS "Counted" 283), hvE pr "__firstlineno__" 286 (hvN 20 285), hvE pr "__init__" 294 (.ref 81), hvE pr "__static_attributes__" 304 (.ref 82)] 5),
  (71, hvT),
  (72, hvO .none [hvN 22 0, hvN 4 0, .ref 80]),
  (73, hvO (.type "code") [hvS "Counted" 277, hvS "Counted" 278, hvS "/claim/cut.py" 279, hvN 20 0, hvN 0 0, hvN 0 0, hvN 0 0, hvN 0 0, .ref 71, .bool false, hvN 181 0, .ref 72, .none, .none, .none, .none, hvN 280 0, hvN 20 0, hvS "/claim/cut.py" 281]),
  (74, hvF [some (.ref 73), some (.ref 3), some (.ref 70), none, some (hvS "phpcore.counted" 234), none, some (.ref 0)]),
  (76, hvO .none []),
  (79, hvC (K.lookup 81)),
  (87, hvO (.type "super") [.ref 84, .ref 84, .ref 84]),
  (88, hvO (.type "builtin_function_or_method") [.builtin "object.__init_subclass__", .ref 84]),
  (90, hvO .none []),
  (93, hvC (K.lookup 95)),
  (97, hvO .none []),
  (100, hvC (K.lookup 102)),
  (104, hvO .none []),
  (107, hvC (K.lookup 109)),
  (111, hvO .none []),
  (114, hvC (K.lookup 116)),
  (118, hvO .none []),
  (121, hvC (K.lookup 123)),
  (125, hvO .none []),
  (128, hvC (K.lookup 130)),
  (132, hvO .none []),
  (133, hvC (K.lookup 135)),
  (137, hvO .none []),
  (140, hvC (K.lookup 142)),
  (144, hvO .none []),
  (147, hvC (K.lookup 149)),
  (151, hvO .none []),
  (154, hvC (K.lookup 156)),
  (158, hvO .none []),
  (161, hvC (K.lookup 163)),
  (165, hvO .none []),
  (168, hvC (K.lookup 170)),
  (172, hvO .none []),
  (175, hvC (K.lookup 177)),
  (179, hvO .none []),
  (182, hvC (K.lookup 184)),
  (186, hvO .none []),
  (189, hvC (K.lookup 191)),
  (193, hvO .none []),
  (196, hvC (K.lookup 198)),
  (200, hvO .none []),
  (203, hvC (K.lookup 205)),
  (207, hvO .none []),
  (210, hvC (K.lookup 212)),
  (214, hvO .none []),
  (217, hvC (K.lookup 219)),
  (221, hvO .none []),
  (224, hvC (K.lookup 226)),
  (228, hvO .none []),
  (231, hvC (K.lookup 233)),
  (235, hvO .none []),
  (238, hvC (K.lookup 240)),
  (242, hvO .none []),
  (245, hvC (K.lookup 247)),
  (249, hvO .none []),
  (252, hvC (K.lookup 254)),
  (256, hvO .none []),
  (259, hvC (K.lookup 261)),
  (263, hvO .none []),
  (266, hvC (K.lookup 268)),
  (270, hvO .none []),
  (273, hvC (K.lookup 275)),
  (277, hvO .none []),
  (280, hvC (K.lookup 282)),
  (284, hvO .none []),
  (287, hvC (K.lookup 289)),
  (291, hvO .none []),
  (294, hvC (K.lookup 296)),
  (298, hvO .none []),
  (301, hvC (K.lookup 303)),
  (305, hvO .none []),
  (306, hvC (K.lookup 308)),
  (310, hvO .none []),
  (313, hvC (K.lookup 315)),
  (317, hvO .none []),
  (320, hvC (K.lookup 322)),
  (324, hvO .none []),
  (327, hvC (K.lookup 329)),
  (331, hvO .none []),
  (332, hvC (K.lookup 334)),
  (336, hvO .none []),
  (339, hvC (K.lookup 341)),
  (343, hvO .none []),
  (346, hvC (K.lookup 348)),
  (350, hvO .none []),
  (353, hvC (K.lookup 355)),
  (357, hvO .none []),
  (360, hvC (K.lookup 362)),
  (364, hvO .none []),
  (365, hvC (K.lookup 367)),
  (369, hvO .none []),
  (372, hvC (K.lookup 374)),
  (376, hvO .none []),
  (377, hvC (K.lookup 379)),
  (381, hvO .none []),
  (382, hvC (K.lookup 384)),
  (386, hvO .none []),
  (389, hvC (K.lookup 391)),
  (393, hvO .none []),
  (394, hvC (K.lookup 396)),
  (398, hvO .none []),
  (401, hvC (K.lookup 403)),
  (405, hvO .none []),
  (408, hvC (K.lookup 410)),
  (412, hvO .none []),
  (415, hvC (K.lookup 417)),
  (419, hvO .none []),
  (422, hvC (K.lookup 424)),
  (426, hvO .none []),
  (429, hvC (K.lookup 431)),
  (433, hvO .none []),
  (436, hvC (K.lookup 438)),
  (440, hvO .none []),
  (443, hvC (K.lookup 445)),
  (447, hvO .none []),
  (450, hvC (K.lookup 452)),
  (454, hvO .none []),
  (455, hvC (K.lookup 457)),
  (459, hvO .none []),
  (462, hvC (K.lookup 464)),
  (466, hvO .none []),
  (467, hvC (K.lookup 469)),
  (471, hvO .none []),
  (472, hvC (K.lookup 474))]
noncomputable def hvQ (xs : List Value) : Obj := { cls := .type "tuple", data := .seq xs.toArray }
noncomputable def hvG (nm qn : String) (k : Nat) (li ac fl r1 r2 : Nat) (x y : Value) (r3 m : Nat) : Obj := hvO (.type "code") [hvS nm k, hvS qn (k + 1), hvS "/claim/cut.py" (k + 2), hvN (li : Int) 0, hvN (ac : Int) 0, hvN 0 0, hvN 0 0, hvN (fl : Int) 0, .ref r1, .bool true, hvN 181 0, .ref r2, .none, x, y, .ref r3, hvN m 0, hvN (li : Int) 0, hvS "/claim/cut.py" (m + 1)]
noncomputable def hvg (a : Nat) (nm : String) (k li ac m : Nat) : Obj := hvG nm nm k li ac 3 (a - 5) (a - 4) (.ref (a - 3)) (.ref (a - 2)) (a - 1) m
noncomputable def hvn (a : Nat) (nm : String) (k li ac m : Nat) : Obj := hvG nm nm k li ac 3 (a - 3) (a - 2) .none .none (a - 1) m
noncomputable def hvJ (m : Value) (c : Nat) (q : Option String) (o : Option Stmt) : Obj := match o.bind DefRec.ofStmt? with
  | some d => { cls := .type "function", data := .func { name := d.name, qualname := (match q with | some q => .ofString q | none => d.name), params := d.params, body := .stmts d.body, scope := d.scope, globals := 3, closure := [], defaults := .none, kwdefaults := .none, pyModule := m, code := .ref c } }
  | none => { cls := .none }
noncomputable def hvH (i : Nat) (m : Value) (c : Nat) : Obj := hvJ m c none PySem.Challenge.pw_pq0849_01.main.body[i]?
noncomputable def hvI (n q : String) (m : Value) (c : Nat) : Obj := hvJ m c (some q) ((theClassW PySem.Challenge.pw_pq0849_01 (.ofString n)).bind fun x => x.2.1.head?)
noncomputable def hvM0 : Value := hvS "phpcore.faults" 187
noncomputable def hvM1 : Value := hvS "phpcore.counted" 234
noncomputable def hvM2 : Value := hvS "phpcore.collector" 632
noncomputable def hvM3 : Value := hvS "law_pq0849_01" 749
noncomputable def hvK (pr : Params) : Frag :=
  [(2, { hvD [hvE pr "type.__subclasses__.Exception.0" 214 (hvN 31 0), hvE pr "type.__subclasses__.Exception.n" 215 (hvN 1 0)] 2 with cls := .none }),
  (3, hvD [hvE pr "__name__" 165 (hvS "law_pq0849_01" 749), hvE pr "__doc__" 166 .none, hvE pr "__package__" 167 .none, hvE pr "__loader__" 168 (.builtin "__main__.__loader__#opaque"), hvE pr "__spec__" 169 .none, hvE pr "__annotations__" 170 (.ref 6), hvE pr "__builtins__" 171 (.ref 4), hvE pr "__file__" 173 (hvS "/claim/cut.py" 172), hvE pr "__cached__" 174 .none, hvE pr "PhpFault" 217 (.ref 31), hvE pr "Misused" 233 (.ref 44), hvE pr "Cell" 274 (.ref 63), hvE pr "Counted" 311 (.ref 84), hvE pr "new_cell" 319 (.ref 95), hvE pr "cell_of" 327 (.ref 102), hvE pr "is_ref" 336 (.ref 109), hvE pr "inner" 344 (.ref 116), hvE pr "value_of" 352 (.ref 123), hvE pr "gain" 361 (.ref 130), hvE pr "held_by" 367 (.ref 135), hvE pr "replaced" 377 (.ref 142), hvE pr "taken_out" 385 (.ref 149), hvE pr "written" 395 (.ref 156), hvE pr "ref_in" 406 (.ref 163), hvE pr "in_copy" 416 (.ref 170), hvE pr "copied" 426 (.ref 177), hvE pr "has_elements" 434 (.ref 184), hvE pr "container" 444 (.ref 191), hvE pr "set_int" 453 (.ref 198), hvE pr "new_array" 461 (.ref 205), hvE pr "new_object" 471 (.ref 212), hvE pr "assign" 480 (.ref 219), hvE pr "put" 493 (.ref 226), hvE pr "take" 504 (.ref 233), hvE pr "make_ref" 513 (.ref 240), hvE pr "put_ref" 526 (.ref 247), hvE pr "unset" 534 (.ref 254), hvE pr "unset_at" 545 (.ref 261), hvE pr "change" 554 (.ref 268), hvE pr "suspect" 562 (.ref 275), hvE pr "cleared" 572 (.ref 282), hvE pr "free_cell" 581 (.ref 289), hvE pr "wants_destructor" 588 (.ref 296), hvE pr "begin_destructor" 598 (.ref 303), hvE pr "losing" 604 (.ref 308), hvE pr "lose" 613 (.ref 315), hvE pr "settle" 623 (.ref 322), hvE pr "do_deed" 631 (.ref 329), hvE pr "children" 639 (.ref 334), hvE pr "mark_grey" 650 (.ref 341), hvE pr "scan_black" 660 (.ref 348), hvE pr "scan" 670 (.ref 355), hvE pr "gather" 682 (.ref 362), hvE pr "find_rings" 688 (.ref 367), hvE pr "run_destructors" 697 (.ref 374), hvE pr "still_held" 703 (.ref 379), hvE pr "without_held" 709 (.ref 384), hvE pr "free_all" 719 (.ref 391), hvE pr "turn" 725 (.ref 396), hvE pr "collect" 733 (.ref 403), hvE pr "collect_when_full" 740 (.ref 410), hvE pr "run_deed" 748 (.ref 417), hvE pr "_law_told" 756 (.ref 424), hvE pr "_law_row" 767 (.ref 431), hvE pr "_law_deed" 779 (.ref 438), hvE pr "_law_told_value" 792 (.ref 445), hvE pr "_law_tells" 802 (.ref 452), hvE pr "_law_objects" 808 (.ref 457), hvE pr "_law_do" 816 (.ref 464), hvE pr "_law_are_alike" 822 (.ref 469), hvE pr "law" 828 (.ref 474)] 71),
  (15, hvQ [.type "Exception"]),
  (22, hvT),
  (24, hvQ [hvS "self" 204, hvS "why" 205]),
  (25, hvT),
  (27, hvG "__init__" "PhpFault.__init__" 201 4 2 3 22 23 (.ref 24) (.ref 25) 26 206),
  (28, hvI "PhpFault" "PhpFault.__init__" hvM0 27),
  (29, hvQ [hvS "why" 209]),
  (30, hvD [hvE pr "__module__" 196 (hvS "phpcore.faults" 187), hvE pr "__firstlineno__" 200 (hvN 2 199), hvE pr "__init__" 208 (.ref 28), hvE pr "__static_attributes__" 210 (.ref 29), hvE pr "__weakref__" 212 (.ref 32), hvE pr "__doc__" 213 .none] 3),
  (31, { cls := .type "type", data := .cls { name := .ofString "PhpFault", bases := [.type "Exception"], mro := [.ref 31, .type "Exception", .type "BaseException", .type "object"], ns := 30, qualname := .ofString "PhpFault", subclasses := [.ref 44] }, slots := #[some (.ref 15), none, some (hvS "PhpFault" 189), some (hvS "PhpFault" 197), some (.builtin "Exception.__new__"), some (.bool true)] }),
  (32, hvO (.type "getset_descriptor") [hvS "__weakref__" 211, .ref 31, .builtin "ExceptionGroup.__weakref__", .none]),
  (35, hvQ [.ref 31]),
  (42, hvT),
  (43, hvD [hvE pr "__module__" 225 (hvS "phpcore.faults" 187), hvE pr "__firstlineno__" 229 (hvN 7 228), hvE pr "__static_attributes__" 230 (.ref 42), hvE pr "__doc__" 231 .none] 2),
  (44, { cls := .type "type", data := .cls { name := .ofString "Misused", bases := [.ref 31], mro := [.ref 44, .ref 31, .type "Exception", .type "BaseException", .type "object"], ns := 43, qualname := .ofString "Misused" }, slots := #[some (.ref 35), none, some (hvS "Misused" 218), some (hvS "Misused" 226), some (.builtin "Exception.__new__"), some (.bool true)] }),
  (54, hvT),
  (56, hvQ [hvS "self" 251, hvS "sort" 252, hvS "number" 253]),
  (57, hvT),
  (59, hvG "__init__" "Cell.__init__" 248 12 3 3 54 55 (.ref 56) (.ref 57) 58 254),
  (60, hvI "Cell" "Cell.__init__" hvM1 59),
  (61, hvQ [hvS "colour" 257, hvS "count" 258, hvS "has_destructor" 259, hvS "is_buffered" 260, hvS "is_destructed" 261, hvS "is_freed" 262, hvS "number" 263, hvS "slots" 264, hvS "sort" 265, hvS "weak" 266]),
  (62, hvD [hvE pr "__module__" 243 (hvS "phpcore.counted" 234), hvE pr "__firstlineno__" 247 (hvN 10 246), hvE pr "__init__" 256 (.ref 60), hvE pr "__static_attributes__" 267 (.ref 61), hvE pr "__dict__" 269 (.ref 64), hvE pr "__weakref__" 271 (.ref 65), hvE pr "__doc__" 272 .none] 4),
  (63, { cls := .type "type", data := .cls { name := .ofString "Cell", bases := [.type "object"], mro := [.ref 63, .type "object"], ns := 62, qualname := .ofString "Cell" }, slots := #[none, none, some (hvS "Cell" 236), some (hvS "Cell" 244), some (.builtin "object.__new__"), some (.bool true)] }),
  (64, hvO (.type "getset_descriptor") [hvS "__dict__" 268, .ref 63, .builtin "function.__dict__", .builtin "function.__dict__#set"]),
  (65, hvO (.type "getset_descriptor") [hvS "__weakref__" 270, .ref 63, .builtin "ExceptionGroup.__weakref__", .none]),
  (75, hvT),
  (77, hvQ [hvS "self" 290, hvS "full" 291]),
  (78, hvT),
  (80, hvG "__init__" "Counted.__init__" 287 22 2 3 75 76 (.ref 77) (.ref 78) 79 292),
  (81, hvI "Counted" "Counted.__init__" hvM1 80),
  (82, hvQ [hvS "buffer" 295, hvS "cells" 296, hvS "freed" 297, hvS "full" 298, hvS "last" 299, hvS "log" 300, hvS "plan" 301, hvS "tables" 302, hvS "vars" 303]),
  (83, hvD [hvE pr "__module__" 282 (hvS "phpcore.counted" 234), hvE pr "__firstlineno__" 286 (hvN 20 285), hvE pr "__init__" 294 (.ref 81), hvE pr "__static_attributes__" 304 (.ref 82), hvE pr "__dict__" 306 (.ref 85), hvE pr "__weakref__" 308 (.ref 86), hvE pr "__doc__" 309 .none] 4),
  (84, { cls := .type "type", data := .cls { name := .ofString "Counted", bases := [.type "object"], mro := [.ref 84, .type "object"], ns := 83, qualname := .ofString "Counted" }, slots := #[none, none, some (hvS "Counted" 275), some (hvS "Counted" 283), some (.builtin "object.__new__"), some (.bool true)] }),
  (85, hvO (.type "getset_descriptor") [hvS "__dict__" 305, .ref 84, .builtin "function.__dict__", .builtin "function.__dict__#set"]),
  (86, hvO (.type "getset_descriptor") [hvS "__weakref__" 307, .ref 84, .builtin "ExceptionGroup.__weakref__", .none]),
  (89, hvT),
  (91, hvQ [hvS "heap" 315, hvS "sort" 316]),
  (92, hvT),
  (94, hvg 94 "new_cell" 312 32 2 317),
  (95, hvH 6 hvM1 94),
  (96, hvT),
  (98, hvQ [hvS "heap" 323, hvS "value" 324]),
  (99, hvT),
  (101, hvg 101 "cell_of" 320 36 2 325),
  (102, hvH 7 hvM1 101),
  (103, hvT),
  (105, hvQ [hvS "heap" 331, hvS "value" 332, hvS "cell" 333]),
  (106, hvT),
  (108, hvg 108 "is_ref" 328 38 2 334),
  (109, hvH 8 hvM1 108),
  (110, hvT),
  (112, hvQ [hvS "heap" 340, hvS "value" 341]),
  (113, hvT),
  (115, hvg 115 "inner" 337 41 2 342),
  (116, hvH 9 hvM1 115),
  (117, hvT),
  (119, hvQ [hvS "heap" 348, hvS "var" 349]),
  (120, hvT),
  (122, hvg 122 "value_of" 345 43 2 350),
  (123, hvH 10 hvM1 122),
  (124, hvT),
  (126, hvQ [hvS "heap" 356, hvS "value" 357, hvS "cell" 358]),
  (127, hvT),
  (129, hvg 129 "gain" 353 45 2 359),
  (130, hvH 11 hvM1 129),
  (131, hvT),
  (134, hvn 134 "held_by" 362 50 2 365),
  (135, hvH 12 hvM1 134),
  (136, hvT),
  (138, hvQ [hvS "slots" 371, hvS "key" 372, hvS "value" 373, hvS "old" 374]),
  (139, hvT),
  (141, hvg 141 "replaced" 368 55 3 375),
  (142, hvH 13 hvM1 141),
  (143, hvT),
  (145, hvQ [hvS "slots" 381, hvS "key" 382]),
  (146, hvT),
  (148, hvg 148 "taken_out" 378 59 2 383),
  (149, hvH 14 hvM1 148),
  (150, hvT),
  (152, hvQ [hvS "heap" 389, hvS "slots" 390, hvS "key" 391, hvS "value" 392]),
  (153, hvT),
  (155, hvg 155 "written" 386 61 4 393),
  (156, hvH 15 hvM1 155),
  (157, hvT),
  (159, hvQ [hvS "heap" 399, hvS "slots" 400, hvS "key" 401, hvS "held" 402, hvS "made" 403]),
  (160, hvT),
  (162, hvg 162 "ref_in" 396 65 3 404),
  (163, hvH 16 hvM1 162),
  (164, hvT),
  (166, hvQ [hvS "heap" 410, hvS "cell" 411, hvS "value" 412, hvS "held" 413]),
  (167, hvT),
  (169, hvg 169 "in_copy" 407 73 3 414),
  (170, hvH 17 hvM1 169),
  (171, hvT),
  (173, hvQ [hvS "heap" 420, hvS "cell" 421, hvS "made" 422, hvS "key" 423]),
  (174, hvT),
  (176, hvg 176 "copied" 417 78 2 424),
  (177, hvH 18 hvM1 176),
  (178, hvT),
  (180, hvQ [hvS "heap" 430, hvS "var" 431]),
  (181, hvT),
  (183, hvg 183 "has_elements" 427 84 2 432),
  (184, hvH 19 hvM1 183),
  (185, hvT),
  (187, hvQ [hvS "heap" 438, hvS "var" 439, hvS "cell" 440, hvS "made" 441]),
  (188, hvT),
  (190, hvg 190 "container" 435 86 2 442),
  (191, hvH 20 hvM1 190),
  (192, hvT),
  (194, hvQ [hvS "heap" 448, hvS "var" 449, hvS "n" 450]),
  (195, hvT),
  (197, hvg 197 "set_int" 445 92 3 451),
  (198, hvH 21 hvM1 197),
  (199, hvT),
  (201, hvQ [hvS "heap" 457, hvS "var" 458]),
  (202, hvT),
  (204, hvg 204 "new_array" 454 94 2 459),
  (205, hvH 22 hvM1 204),
  (206, hvT),
  (208, hvQ [hvS "heap" 465, hvS "var" 466, hvS "has_destructor" 467, hvS "made" 468]),
  (209, hvT),
  (211, hvg 211 "new_object" 462 96 3 469),
  (212, hvH 23 hvM1 211),
  (213, hvT),
  (215, hvQ [hvS "heap" 475, hvS "var" 476, hvS "other" 477]),
  (216, hvT),
  (218, hvg 218 "assign" 472 100 3 478),
  (219, hvH 24 hvM1 218),
  (220, hvT),
  (222, hvQ [hvS "heap" 484, hvS "var" 485, hvS "key" 486, hvS "other" 487, hvS "value" 488, hvS "cell" 489, hvS "losses" 490]),
  (223, hvT),
  (225, hvg 225 "put" 481 102 4 491),
  (226, hvH 25 hvM1 225),
  (227, hvT),
  (229, hvQ [hvS "heap" 497, hvS "var" 498, hvS "other" 499, hvS "key" 500, hvS "value" 501]),
  (230, hvT),
  (232, hvg 232 "take" 494 108 4 502),
  (233, hvH 26 hvM1 232),
  (234, hvT),
  (236, hvQ [hvS "heap" 508, hvS "var" 509, hvS "other" 510]),
  (237, hvT),
  (239, hvg 239 "make_ref" 505 113 3 511),
  (240, hvH 27 hvM1 239),
  (241, hvT),
  (243, hvQ [hvS "heap" 517, hvS "var" 518, hvS "key" 519, hvS "other" 520, hvS "value" 521, hvS "cell" 522, hvS "losses" 523]),
  (244, hvT),
  (246, hvg 246 "put_ref" 514 115 4 524),
  (247, hvH 28 hvM1 246),
  (248, hvT),
  (250, hvQ [hvS "heap" 530, hvS "var" 531]),
  (251, hvT),
  (253, hvg 253 "unset" 527 121 2 532),
  (254, hvH 29 hvM1 253),
  (255, hvT),
  (257, hvQ [hvS "heap" 538, hvS "var" 539, hvS "key" 540, hvS "cell" 541, hvS "losses" 542]),
  (258, hvT),
  (260, hvg 260 "unset_at" 535 123 3 543),
  (261, hvH 30 hvM1 260),
  (262, hvT),
  (264, hvQ [hvS "heap" 549, hvS "name" 550, hvS "args" 551]),
  (265, hvT),
  (267, hvg 267 "change" 546 128 3 552),
  (268, hvH 31 hvM1 267),
  (269, hvT),
  (271, hvQ [hvS "heap" 558, hvS "cell" 559]),
  (272, hvT),
  (274, hvg 274 "suspect" 555 150 2 560),
  (275, hvH 32 hvM1 274),
  (276, hvT),
  (278, hvQ [hvS "heap" 566, hvS "number" 567, hvS "found" 568, hvS "table" 569]),
  (279, hvT),
  (281, hvg 281 "cleared" 563 156 2 570),
  (282, hvH 33 hvM1 281),
  (283, hvT),
  (285, hvQ [hvS "heap" 576, hvS "cell" 577, hvS "losses" 578]),
  (286, hvT),
  (288, hvg 288 "free_cell" 573 161 2 579),
  (289, hvH 34 hvM1 288),
  (290, hvT),
  (292, hvQ [hvS "cell" 585]),
  (293, hvT),
  (295, hvg 295 "wants_destructor" 582 174 1 586),
  (296, hvH 35 hvM1 295),
  (297, hvT),
  (299, hvQ [hvS "heap" 592, hvS "cell" 593, hvS "tasks" 594, hvS "deed" 595]),
  (300, hvT),
  (302, hvg 302 "begin_destructor" 589 176 2 596),
  (303, hvH 36 hvM1 302),
  (304, hvT),
  (307, hvn 307 "losing" 599 184 1 602),
  (308, hvH 37 hvM1 307),
  (309, hvT),
  (311, hvQ [hvS "heap" 608, hvS "value" 609, hvS "cell" 610]),
  (312, hvT),
  (314, hvg 314 "lose" 605 186 2 611),
  (315, hvH 38 hvM1 314),
  (316, hvT),
  (318, hvQ [hvS "heap" 617, hvS "tasks" 618, hvS "sort" 619, hvS "what" 620]),
  (319, hvT),
  (321, hvg 321 "settle" 614 197 2 621),
  (322, hvH 39 hvM1 321),
  (323, hvT),
  (325, hvQ [hvS "heap" 627, hvS "deed" 628]),
  (326, hvT),
  (328, hvg 328 "do_deed" 624 204 2 629),
  (329, hvH 40 hvM1 328),
  (330, hvT),
  (333, hvn 333 "children" 634 207 2 637),
  (334, hvH 42 hvM2 333),
  (335, hvT),
  (337, hvQ [hvS "heap" 643, hvS "cell" 644, hvS "waiting" 645, hvS "here" 646, hvS "child" 647]),
  (338, hvT),
  (340, hvg 340 "mark_grey" 640 209 2 648),
  (341, hvH 43 hvM2 340),
  (342, hvT),
  (344, hvQ [hvS "heap" 654, hvS "cell" 655, hvS "waiting" 656, hvS "child" 657]),
  (345, hvT),
  (347, hvg 347 "scan_black" 651 218 2 658),
  (348, hvH 44 hvM2 347),
  (349, hvT),
  (351, hvQ [hvS "heap" 664, hvS "cell" 665, hvS "waiting" 666, hvS "here" 667]),
  (352, hvT),
  (354, hvg 354 "scan" 661 227 2 668),
  (355, hvH 45 hvM2 354),
  (356, hvT),
  (358, hvQ [hvS "heap" 674, hvS "cells" 675, hvS "found" 676, hvS "waiting" 677, hvS "here" 678, hvS "child" 679]),
  (359, hvT),
  (361, hvg 361 "gather" 671 237 2 680),
  (362, hvH 46 hvM2 361),
  (363, hvT),
  (366, hvn 366 "find_rings" 683 249 1 686),
  (367, hvH 47 hvM2 366),
  (368, hvT),
  (370, hvQ [hvS "heap" 692, hvS "numbers" 693, hvS "number" 694]),
  (371, hvT),
  (373, hvg 373 "run_destructors" 689 259 2 695),
  (374, hvH 48 hvM2 373),
  (375, hvT),
  (378, hvn 378 "still_held" 698 266 2 701),
  (379, hvH 49 hvM2 378),
  (380, hvT),
  (383, hvn 383 "without_held" 704 283 2 707),
  (384, hvH 50 hvM2 383),
  (385, hvT),
  (387, hvQ [hvS "heap" 713, hvS "numbers" 714, hvS "losses" 715, hvS "number" 716]),
  (388, hvT),
  (390, hvg 390 "free_all" 710 287 2 717),
  (391, hvH 51 hvM2 390),
  (392, hvT),
  (395, hvn 395 "turn" 720 292 1 723),
  (396, hvH 52 hvM2 395),
  (397, hvT),
  (399, hvQ [hvS "heap" 729, hvS "before" 730]),
  (400, hvT),
  (402, hvg 402 "collect" 726 299 1 731),
  (403, hvH 53 hvM2 402),
  (404, hvT),
  (406, hvQ [hvS "heap" 737]),
  (407, hvT),
  (409, hvg 409 "collect_when_full" 734 304 1 738),
  (410, hvH 54 hvM2 409),
  (411, hvT),
  (413, hvQ [hvS "heap" 744, hvS "deed" 745]),
  (414, hvT),
  (416, hvg 416 "run_deed" 741 306 2 746),
  (417, hvH 55 hvM2 416),
  (418, hvT),
  (420, hvT),
  (421, hvT),
  (423, hvg 423 "_law_told" 751 310 0 754),
  (424, hvH 57 hvM3 423),
  (425, hvT),
  (427, hvQ [hvS "told" 760, hvS "x" 761, hvS "sizes" 762, hvS "row" 763, hvS "k" 764]),
  (428, hvT),
  (430, hvg 430 "_law_row" 757 312 2 765),
  (431, hvH 58 hvM3 430),
  (432, hvT),
  (434, hvQ [hvS "row" 771, hvS "way" 772, hvS "a" 773, hvS "key" 774, hvS "b" 775, hvS "n" 776]),
  (435, hvT),
  (437, hvg 437 "_law_deed" 768 318 1 777),
  (438, hvH 59 hvM3 437),
  (439, hvT),
  (441, hvQ [hvS "heap" 783, hvS "met" 784, hvS "value" 785, hvS "depth" 786, hvS "rows" 787, hvS "cell" 788, hvS "key" 789]),
  (442, hvT),
  (444, hvg 444 "_law_told_value" 780 321 5 790),
  (445, hvH 60 hvM3 444),
  (446, hvT),
  (448, hvQ [hvS "heap" 796, hvS "met" 797, hvS "rows" 798, hvS "var" 799]),
  (449, hvT),
  (451, hvg 451 "_law_tells" 793 337 1 800),
  (452, hvH 61 hvM3 451),
  (453, hvT),
  (456, hvn 456 "_law_objects" 803 344 1 806),
  (457, hvH 62 hvM3 456),
  (458, hvT),
  (460, hvQ [hvS "heaps" 812, hvS "deed" 813]),
  (461, hvT),
  (463, hvg 463 "_law_do" 809 352 2 814),
  (464, hvH 63 hvM3 463),
  (465, hvT),
  (468, hvn 468 "_law_are_alike" 817 358 1 820),
  (469, hvH 64 hvM3 468),
  (470, hvT),
  (473, hvn 473 "law" 823 361 1 826),
  (474, hvH 65 hvM3 473)]
noncomputable def hvAll : Nat → Nat → Frag → Frag → List Obj
  | 0, _, _, _ => []
  | n + 1, i, (a, o) :: K, R => match Nat.beq a i with
    | true => o :: hvAll n (i + 1) K R
    | false => match R with
      | (_, o') :: R => o' :: hvAll n (i + 1) ((a, o) :: K) R
      | [] => []
  | n + 1, i, [], R => match R with
      | (_, o') :: R => o' :: hvAll n (i + 1) [] R
      | [] => []
noncomputable def hvHeap (pr : Params) (K : Frag) : Heap := ⟨⟨hvAll 475 0 K (hvRest pr K)⟩, {}⟩
noncomputable def hvView : Program := PySem.W.view PySem.Challenge.pw_pq0849_01 [1, 2, 4, 5, 6, 7, 8, 9, 10, 11, 12, 13, 14, 15, 16, 17, 18, 19, 20, 21, 22, 23, 24, 25, 26, 27, 28, 29, 30, 31, 32, 33, 34, 35, 36, 37, 38, 39, 40, 42, 43, 44, 45, 46, 47, 48, 49, 50, 51, 52, 53, 54, 55, 57, 58, 59, 60, 61, 62, 63, 64, 65]
abbrev hvRow : OpenRow := OpenLaw.row PySem.Challenge.rw_pq0849_01
noncomputable abbrev hvXt (s : Shared) : Bool := xlAt hvView [] s && recOk (RowW.records hvRow.toRowW) s
theorem hvOpen {α : Type} {Yf : Shared → α} {Ya : World → α} {YP : World → Heap → Prop} {d : DefRec} {kwd : List (Str × Expr)} (k1 : hvRow.wellSaid = true) (h1 : ∀ w s, Yf s = Ya w → YP w s.heap) (h2 : ∀ w h h', YP w h → (∀ b o, h.get? b = some o → h'.get? b = some o) → YP w h')
    (e1 : defOf hvView hvRow.name = some (d, kwd)) (e2 : hvRow.prog.theDef hvRow.name = some (d.params, d.body, d.scope)) (e3 : kwWritten? d.params.kwonlyargs d.params.kw_defaults = some kwd) (hw : hvRow.toRowW.promised)
    (both : LeftO hvRow.prog hvView [] hvXt Yf Ya 5542 ∧ WalkO hvView [] (XL hvView []) YP hvRow.toRowW d kwd fun f vs => PySem.call f vs) : hvRow.Holds :=
  holds_open both.1 h1 h2 (fun s e => xl_of s (Bool.and_eq_true_iff.mp e).1) XL.keeps e1 e2 e3 (fun s e => recFacts_of (Bool.and_eq_true_iff.mp e).2) (by rfl) k1 (by decide +kernel) ⟨rfl, rfl, rfl, rfl, rfl, by decide +kernel⟩ hw both.2
noncomputable abbrev hvP : Program := PySem.Challenge.pw_pq0849_01
theorem hvO1 : sreFenced hvP.main = true := by kernel_rfl
theorem hvO2 : ((moduleNames hvP.main.body).isEmpty || lookedIntoSs (moduleNames hvP.main.body) hvP.main.body) = true := by kernel_rfl
theorem hvO3 : namesResolve hvP = true := by kernel_rfl
theorem hvO4 : hvP.boundNames.all (fun n => !worldNames.contains n) = true := by kernel_rfl
theorem hvO5 : noRoadLSs { strict := !(importedModules hvP.main.body).all cThrough.contains, foot := none, bare := (["vars", "dir", "locals"] : List Str).filter (readsOut hvP hvP.main.body) } hvP.main.body = true := by kernel_rfl
theorem hvO6 : namesMeet hvP hvP.main.body (fun _ n => attrL n) = true := by kernel_rfl
theorem hvAnd {a b : Bool} (h : a = true) (k : b = true) : (a && b) = true := by rw [h, k]; rfl
theorem hvOpenOk : looksOpen hvP = true := hvAnd (hvAnd (hvAnd (hvAnd (hvAnd hvO1 hvO2) hvO3) hvO4) hvO5) hvO6
theorem hvPart : hvRow.partSaid = true := by
  unfold OpenRow.partSaid
  repeat with_reducible refine hvAnd ?_ (by kernel_rfl)
  exact hvOpenOk
theorem hvRowSaid : hvRow.wellSaid = true := by
  unfold OpenRow.wellSaid
  repeat with_reducible refine hvAnd ?_ (by kernel_rfl)
  exact hvPart
theorem hvSaid : OpenLaw.wellSaid PySem.Challenge.rw_pq0849_01 = true := by
  unfold OpenLaw.wellSaid
  repeat with_reducible refine hvAnd ?_ (by kernel_rfl)
  exact hvRowSaid
theorem hvPr {α β : Type} {a a' : α} {b b' : β} (h : a = a') (k : b = b') : (a, b) = (a', b') := by rw [h, k]
noncomputable def hvAs : List Addr := (hvK { strHash := fun _ => 0, shareClass := fun _ => 0, mergeTok := id, idOf := fun _ => 0, idOfShared := fun _ _ => 0, followText := fun _ => false, idOfImm := fun _ => 0 }).map (·.1)
noncomputable def hvCutO (e f : Nat) (nm : Value) : Obj → Obj
  | ⟨c, d, .dict es _, s⟩ => ⟨c, d, .dict (match es.toList.take e with | ⟨h, k, _⟩ :: r => (⟨h, k, nm⟩ :: r).toArray | [] => #[]) e, s⟩
  | ⟨c, d, .fields xs, s⟩ => ⟨c, d, .fields (xs.toList.take f).toArray, s⟩
  | o => o
noncomputable def hvMid (pr : Params) (n e f : Nat) (nm : Value) : Heap := match hvAll n 0 (hvK pr) (hvRest pr (hvK pr)) with
  | a0 :: a1 :: a2 :: a3 :: a4 :: a5 :: a6 :: a7 :: a8 :: a9 :: a10 :: a11 :: a12 :: r => ⟨⟨a0 :: a1 :: a2 :: hvCutO e f nm a3 :: a4 :: a5 :: a6 :: a7 :: a8 :: a9 :: a10 :: a11 :: hvCutO e f nm a12 :: r⟩, {}⟩
  | _ => ⟨⟨[]⟩, {}⟩
noncomputable def hvPre0 (pr : Params) : Heap := ⟨⟨(boot_heap pr).objs.toList ++ (hvT :: hvO .none [] :: (hvAll 15 0 (hvK pr) (hvRest pr (hvK pr))).drop 13)⟩, {}⟩
noncomputable def hvB : List Stmt := behindTheImports hvP
noncomputable def hvEnv : Env := { scope := hvP.main.scope, locals := mainNs, globals := mainNs, cells := [], code := .ref 13, frame := some 14 }
noncomputable abbrev hvSt (os : OsState) (h : Heap) (t : Nat) : Shared := ⟨h, Array.mk [], boot_drawn, t, os⟩
noncomputable abbrev hvTop (w : World) (n : Nat) (s : Shared) (t : Thread) (r : Shared) : Prop := topRun treeTable hvP w 11 (some (.ref 6)) n s t = some r
noncomputable abbrev hvRst (i : Nat) (p : Pos) : Thread := restOf (hvB.drop i) hvEnv (.body hvB hvEnv) p [topFrame ⟨0, 0, 0, 0⟩]
noncomputable abbrev hvSeg (w : World) (i n k : Nat) (s s' : Shared) (p p' : Pos) : Prop := segRun treeTable hvP w 11 (some (.ref 6)) 1 k s (piecesOf ((hvB.drop i).take n) hvEnv (.body hvB hvEnv) p [topFrame ⟨0, 0, 0, 0⟩]) = some (.next, s', .body hvB hvEnv, p')
theorem hvCons {w : World} {i n k N : Nat} {s s' r : Shared} {p p' : Pos} (h : hvSeg w i n k s s' p p') (q : hvTop w N s' (hvRst (i + n) p') r) : hvTop w (k + N) s (hvRst i p) r := by
  have := piece_app h q
  have e : (hvB.drop i).take n ++ hvB.drop (i + n) = hvB.drop i := by rw [← List.drop_drop]; exact List.take_append_drop ..
  rw [e] at this
  exact this
theorem hvGo (w : World) (os : OsState) : topGo treeTable hvP w 11 (some (.ref 6)) 12 (hvSt os (boot_heap w.params) boot_toks) (topStub hvP) = some (hvSt os (hvPre0 w.params) 187, ⟨denote treeTable (.body hvB hvEnv), .body hvB hvEnv, ⟨0, 0, 0, 0⟩, [topFrame ⟨0, 0, 0, 0⟩]⟩) := by kernel_rfl
theorem hvBlk (w : World) (os : OsState) : segRun treeTable hvP w 11 (some (.ref 6)) 1 1 (hvSt os (hvPre0 w.params) 187) (blockOf hvB hvEnv (.body hvB hvEnv) ⟨0, 0, 0, 0⟩ [topFrame ⟨0, 0, 0, 0⟩]) = some (.next, hvSt os (hvPre0 w.params) 187, .body hvB hvEnv, ⟨0, 0, 0, 0⟩) := by kernel_rfl
theorem hvS0 (w : World) (os : OsState) : hvSeg w 0 3 451 (hvSt os (hvPre0 w.params) 187) (hvSt os (hvMid w.params 47 11 6 (hvS "phpcore.faults" 187)) 234) ⟨0, 0, 0, 0⟩ ⟨7, 0, 8, 8⟩ := by kernel_rfl
theorem hvS1 (w : World) (os : OsState) : hvSeg w 3 2 242 (hvSt os (hvMid w.params 47 11 6 (hvS "phpcore.faults" 187)) 234) (hvSt os (hvMid w.params 68 12 9 (hvS "phpcore.counted" 234)) 275) ⟨7, 0, 8, 8⟩ ⟨10, 0, 19, 24⟩ := by kernel_rfl
theorem hvS2 (w : World) (os : OsState) : hvSeg w 5 1 231 (hvSt os (hvMid w.params 68 12 9 (hvS "phpcore.counted" 234)) 275) (hvSt os (hvMid w.params 89 13 12 (hvS "phpcore.counted" 234)) 312) ⟨10, 0, 19, 24⟩ ⟨20, 0, 31, 24⟩ := by kernel_rfl
theorem hvS3 (w : World) (os : OsState) : hvSeg w 6 11 336 (hvSt os (hvMid w.params 89 13 12 (hvS "phpcore.counted" 234)) 312) (hvSt os (hvMid w.params 164 24 45 (hvS "phpcore.counted" 234)) 407) ⟨20, 0, 31, 24⟩ ⟨65, 0, 72, 15⟩ := by kernel_rfl
theorem hvS4 (w : World) (os : OsState) : hvSeg w 17 14 448 (hvSt os (hvMid w.params 164 24 45 (hvS "phpcore.counted" 234)) 407) (hvSt os (hvMid w.params 262 38 87 (hvS "phpcore.counted" 234)) 546) ⟨65, 0, 72, 15⟩ ⟨123, 0, 127, 46⟩ := by kernel_rfl
theorem hvS5 (w : World) (os : OsState) : hvSeg w 31 13 373 (hvSt os (hvMid w.params 262 38 87 (hvS "phpcore.counted" 234)) 546) (hvSt os (hvMid w.params 342 50 123 (hvS "phpcore.collector" 632)) 651) ⟨123, 0, 127, 46⟩ ⟨209, 0, 217, 37⟩ := by kernel_rfl
theorem hvS6 (w : World) (os : OsState) : hvSeg w 44 11 325 (hvSt os (hvMid w.params 342 50 123 (hvS "phpcore.collector" 632)) 651) (hvSt os (hvMid w.params 411 61 156 (hvS "phpcore.collector" 632)) 741) ⟨209, 0, 217, 37⟩ ⟨304, 0, 305, 64⟩ := by kernel_rfl
theorem hvS7 (w : World) (os : OsState) : hvSeg w 55 11 310 (hvSt os (hvMid w.params 411 61 156 (hvS "phpcore.collector" 632)) 741) (hvSt os (hvHeap w.params (hvK w.params)) 829) ⟨304, 0, 305, 64⟩ ⟨361, 0, 373, 116⟩ := by kernel_rfl
theorem hvEnd (w : World) (os : OsState) : hvTop w 2 (hvSt os (hvHeap w.params (hvK w.params)) 829) (hvRst 66 ⟨361, 0, 373, 116⟩) (hvSt os (hvHeap w.params (hvK w.params)) 829) := by kernel_rfl
theorem hvRun : ∀ (w : World) (os : OsState), topRun treeTable hvP w 11 (some (.ref 6)) (12 + (1 + (451 + (242 + (231 + (336 + (448 + (373 + (325 + (310 + 2)))))))))) ⟨boot_heap w.params, Array.mk [], boot_drawn, boot_toks, os⟩ (topStub hvP) = some ⟨hvHeap w.params (hvK w.params), Array.mk [], boot_drawn, 829, os⟩ :=
  fun w os => go_top (hvGo w os) (piece_block (hvBlk w os) (hvCons (hvS0 w os) (hvCons (hvS1 w os) (hvCons (hvS2 w os) (hvCons (hvS3 w os) (hvCons (hvS4 w os) (hvCons (hvS5 w os) (hvCons (hvS6 w os) (hvCons (hvS7 w os) (hvEnd w os))))))))))
theorem hvI0 (w : World) (os : OsState) : seen ((recsOf hvView).map (·.name)) (ownsOf hvView) [] { (hvSt os (hvHeap w.params (hvK w.params)) 829) with gens := #[] } = expectedOf hvView := by kernel_rfl
theorem hvI1 (w : World) (os : OsState) : (hvHeap w.params (hvK w.params)).bltView = bltViewBooted := by kernel_rfl
theorem hvI2 (w : World) (os : OsState) : (hvHeap w.params (hvK w.params)).keysOk (looseW hvView []) ((recsOf hvView).map (·.name)) ((litsOf hvView).map (·.1)) ((clssOf hvView (looseW hvView [])).map (·.name)) = true := by kernel_rfl
theorem hvI3 (w : World) (os : OsState) : (hvHeap w.params (hvK w.params)).accountedOkI (importedModules hvP.main.body) = true := by kernel_rfl
theorem hvI4 (w : World) (os : OsState) : tablesOk hvView (hvHeap w.params (hvK w.params)) = true := by kernel_rfl
theorem hvI5 (w : World) (os : OsState) : xlAt hvView [] (hvSt os (hvHeap w.params (hvK w.params)) 829) = true := by kernel_rfl
theorem hvI6 (w : World) (os : OsState) : recOk (RowW.records hvRow.toRowW) (hvSt os (hvHeap w.params (hvK w.params)) 829) = true := by kernel_rfl
theorem hvI7 (w : World) (os : OsState) : tabsOk hvView (hvSt os (hvHeap w.params (hvK w.params)) 829) = true := by kernel_rfl
theorem hvI8 (w : World) (os : OsState) : pinSeenD hvView (drecsOf hvView) (hvSt os (hvHeap w.params (hvK w.params)) 829) = pinGoodD (drecsOf hvView) := by kernel_rfl
theorem hvI9 (w : World) (os : OsState) : plainSeenE hvView (looseW hvView []) (hvSt os (hvHeap w.params (hvK w.params)) 829) = plainGoodE hvView (looseW hvView []) := by kernel_rfl
theorem hvI10 (w : World) (os : OsState) : plainSeenD hvView [] (hvSt os (hvHeap w.params (hvK w.params)) 829) = plainGoodD hvView [] := by kernel_rfl
theorem hvI11 (w : World) (os : OsState) : wideSeen hvView (hvSt os (hvHeap w.params (hvK w.params)) 829) = wideGood hvView := by kernel_rfl
theorem hvI12 (w : World) (os : OsState) : clsSeenW hvView [] (hvSt os (hvHeap w.params (hvK w.params)) 829) = clsGoodW hvView [] := by kernel_rfl
theorem hvSeen (w : World) (os : OsState) : openSeen hvView [] (importedModules hvP.main.body) hvXt true (hvSt os (hvHeap w.params (hvK w.params)) 829) = openGood hvView [] := by
  unfold openSeen openGood
  exact hvPr (hvI0 w os) (hvPr (hvI1 w os) (hvPr (hvAnd (hvAnd (hvAnd (hvAnd (hvAnd (hvAnd (hvI2 w os) (hvI3 w os)) (by kernel_rfl)) (by kernel_rfl)) (hvI4 w os)) (hvAnd (hvI5 w os) (hvI6 w os))) (by kernel_rfl)) (hvPr (hvI7 w os) (hvPr (hvI8 w os) (hvPr (hvI9 w os) (hvPr (hvI10 w os) (hvPr (hvI11 w os) (hvI12 w os))))))))
theorem hvJ0 (w : World) : staticsOk (importedModules hvP.main.body) (boot_heap w.params) (hvHeap w.params (hvK w.params)) = true := by kernel_rfl
theorem hvJ1 (w : World) : namesBound hvP (hvHeap w.params (hvK w.params)) = true := by kernel_rfl
theorem hvJ2 (w : World) : laidKept (boot_heap w.params) (hvHeap w.params (hvK w.params)) = true := by kernel_rfl
theorem hvJ3 (w : World) : hvAs.map (hvHeap w.params (hvK w.params)).get? = (hvK w.params).map fun p => some p.2 := by kernel_rfl
theorem hvLooks : ∀ w : World, (fun os => ((staticsOk (importedModules hvP.main.body) (boot_heap w.params) (hvHeap w.params (hvK w.params)) && namesBound hvP (hvHeap w.params (hvK w.params)) && gensDone ⟨hvHeap w.params (hvK w.params), Array.mk [], boot_drawn, 829, os⟩ && laidKept (boot_heap w.params) (hvHeap w.params (hvK w.params))),
        openSeen hvView [] (importedModules hvP.main.body) hvXt true ⟨hvHeap w.params (hvK w.params), Array.mk [], boot_drawn, 829, os⟩, hvAs.map (hvHeap w.params (hvK w.params)).get?)) = fun _ => (true, openGood hvView [], (hvK w.params).map fun p => some p.2) := by
  refine fun w => funext fun os => ?_
  exact hvPr (hvAnd (hvAnd (hvAnd (hvJ0 w) (hvJ1 w)) (by kernel_rfl)) (hvJ2 w)) (hvPr (hvSeen w os) (hvJ3 w))
theorem hvLeft : LeftO hvRow.prog hvView [] hvXt (fun s => hvAs.map s.heap.get?) (fun w => (hvK w.params).map fun p => some p.2) 5542 :=
  LeftO.of_pieces (H₀ := boot_heap) (H₁ := fun pr => hvHeap pr (hvK pr)) (boot_open (by rfl) (by decide +kernel) (fun s => by rfl)) (fun w => by kernel_rfl) hvRun (by rfl) hvLooks
end
end Gc
end
/- GcE1 -/
section
open PySem PySem.W PyProof.Rows
set_option maxRecDepth 100000
namespace Gc
noncomputable def adr (pr : Params) (f : String) : Nat := match nsIn (hvK pr) mainGlobals (S f) with | some (some (.ref a)) => a | _ => 0
noncomputable def iniOf (pr : Params) (c : String) : Nat := match findIn (hvK pr) (.ref (adr pr c)) "__init__" with | some (some (.ref a)) => a | _ => 0

theorem fns_at (pr : Params) : (fnNames.all fun f => nsIn (hvK pr) mainGlobals (S f) == some (some (.ref (adr pr f))) && keepIn (hvK pr) (.ref (adr pr f))) = true := by kernel_rfl
theorem recs_at (pr : Params) : (fnNames.all fun f => match prg f with | some D => fnRec (hvK pr) (adr pr f) D | none => true) = true := by kernel_rfl
theorem bi_at (pr : Params) : (["len", "sorted", "reversed", "all", "range", "list"].all fun x => nsIn (hvK pr) mainGlobals (S x) == some none) = true := by kernel_rfl
theorem ini_at (pr : Params) : (clsNames.all fun c => findIn (hvK pr) (.ref (adr pr c)) "__init__" == some (some (.ref (iniOf pr c))) && typeIn (hvK pr) (.ref (iniOf pr c)) == some (.type "function") &&
  (match prg (c ++ ".__init__") with | some D => fnRec (hvK pr) (iniOf pr c) D | none => true)) = true := by kernel_rfl
theorem cls1_at (pr : Params) : (clsNames.all fun c => nsIn (hvK pr) mainGlobals (S c) == some (some (.ref (adr pr c))) && plainName (S c) && keepIn (hvK pr) (.ref (adr pr c)) && makesIn (hvK pr) (adr pr c) &&
  hasDictIn (hvK pr) (adr pr c) && findIn (hvK pr) (.ref (adr pr c)) "__setattr__" == some (some (.builtin "object.__setattr__")) && plainOver (hvK pr) (adr pr c) &&
  (attrsOf c).all fun a => plainGet (hvK pr) (adr pr c) (S a) && takerIn (hvK pr) (adr pr c) (S a) == some none && (match findIn (hvK pr) (.ref (adr pr c)) (S a) with | some attr => noGet (hvK pr) attr | none => false)) = true := by kernel_rfl
end Gc
end
/- GcE2 -/
section
set_option maxRecDepth 100000
namespace Gc
open PySem PySem.W PySem.Calls PyProof.Rows

noncomputable def lawRest : Sts := match d_law.body with
  | .cons _ r => r
  | .nil => .nil

noncomputable def noRho : Rho := fun _ => none
noncomputable def noSto : Sto := fun _ => none
theorem noRel {prog : Program} {w : World} {cl : String → Nat} {base h : Heap} (bas : ∀ (b : Nat) o, base.get? b = some o → h.get? b = some o) (sz : base.objs.size ≤ h.objs.size) : Rel prog w cl base noRho noSto h where
  inj := fun _ _ _ _ _ _ e => nomatch e
  lo := fun _ _ _ e => nomatch e
  obj := fun _ _ e => nomatch e
  fresh := fun _ _ _ => rfl
  fin := ⟨0, fun _ _ => rfl⟩
  bas := bas
  blo := sz

noncomputable def hp1 (h : Heap) (v1 v2 : Value) : Heap := h.push { cls := .type "slice", data := .fields #[v1, v2, .none] }
noncomputable def hp2 (h : Heap) (v1 v2 : Value) (vs : List Value) : Heap := (hp1 h v1 v2).push { cls := .type "list", data := .seq vs.toArray }
theorem hp1_size {h : Heap} {v1 v2 : Value} : (hp1 h v1 v2).objs.size = h.objs.size + 1 := by unfold hp1; rw [Heap.size_push]
theorem hp2_size {h : Heap} {v1 v2 : Value} {vs : List Value} : (hp2 h v1 v2 vs).objs.size = h.objs.size + 2 := by unfold hp2; rw [Heap.size_push, hp1_size]
section
variable {prog : Program} {w : World} {cl fa fi : String → Nat} {base : Heap} {K : Frag} {F : FnSem} {d : Nat} {A : Around} {s : Shared}

theorem law_core {a l : Nat} {vs : List Value} {ns : List Int} {R : Result → Shared → Prop} (PR : Prg prog w cl fa base K) (hb : base = s.heap) (hA : AOk2 A d) (hr : fnRec K a d_law = true) (hL : s.heap.IsList l vs.toArray) (hI : IntsAre vs ns) (hle : ns.length ≤ 63)
    (hsb : SSs prog w cl base d F lawRest)
    (hw : ∀ k σ, σ (.tmp k) = some (.list (ns.map .int)) → (∀ b, b ≠ .tmp k → σ b = none) → wpSs F lawRest (upd noLoc "script" (.ref (.tmp k))) σ fun o _ _ => o.val = .bool true)
    (h : ∀ s', Same s s' → (∀ (b : Nat) o, s.heap.get? b = some o → s'.heap.get? b = some o) → R (.ok (.ret (.bool true))) s') : codeAny (model prog w) A (.call (.ref a) ⟨[.ref l], []⟩) R s := by
  subst hb
  obtain ⟨oc, od, fd, osl, body, F0⟩ := fnRec_inv hr
  have hbody : d_law.body = .cons (.set "script" (.upto (.var "script") 63)) lawRest := rfl
  have c14 := F0.c14
  rw [hbody] at c14
  have hpar : d_law.params.map S = [S "script"] := rfl
  have X : K.In s.heap := PR.X
  obtain ⟨p, loose, mg, mb, T⟩ := PR.T
  have cn := cellsFrom_nodup (n := s.heap.objs.size + 1) (acc := []) F0.c12 .nil fun p hp => by cases hp
  have sto := F0.c7 "script" (.head _)
  simp only [storable, Bool.or_eq_true, beq_iff_eq] at sto
  refine codeAny_call_cells (fd := fd) (binds := [(S "script", .ref l)]) (by have := hA.depth; show A.depth < 1000; lia) (X _ _ F0.ho) rfl T.nolimit (codeRec_of X F0.r1) F0.hb
    (bind_plain (xs := [.ref l]) F0.c1 (F0.c6.trans hpar) F0.c3 F0.c2 F0.c4 F0.r5 rfl (by rw [← hpar]; exact F0.c8)) F0.r2 (fun y hy => ?_) (fun s₁ x => ?_) F0.c11 F0.c10 F0.c9
  · rw [List.mem_singleton.mp hy]
    rcases sto with q | q
    · exact .inl q
    · refine .inr ⟨q, ?_⟩
      obtain ⟨c, hc⟩ := cellsFrom_has (n := s.heap.objs.size + 1) (acc := []) (.inl (mem_of_lookup q))
      rw [lookup_nodup cn hc]; rfl
  · have e0 : (callEnvC fd s.heap.objs.size a).locals = s.heap.objs.size := rfl
    have e1 : (callEnvC fd s.heap.objs.size a).cells = cellsFrom (s.heap.objs.size + 1) fd.scope.names [] := rfl
    have kn : ∀ y, (callEnvC fd s.heap.objs.size a).kindOf y = fd.scope.names.lookup y := fun y => rfl
    have hns := x.toInCall.ns
    rw [e0] at hns
    have sz : s.heap.objs.size ≤ s₁.heap.objs.size := by
      obtain ⟨o, _, _, ho, _⟩ := hns
      exact Nat.le_of_lt (hlt ho)
    have sm1 : Same s s₁ := by
      obtain ⟨h', tk, e, _⟩ := x.done
      subst e; exact ⟨rfl, rfl, rfl⟩
    have R1 : Rel prog w cl s.heap noRho noSto s₁.heap := noRel (fun b o e => x.toInCall.keep b o e) sz
    have st1 : Step No noRho noSto s.heap noRho noSto s₁.heap := .pushed (fun b o e => x.toInCall.keep b o e) sz
    have nofree : ∀ y : Str, fd.scope.names.lookup y ≠ some .free := fun y q => by
      have := F0.c13 _ (mem_of_lookup q)
      simp at this
    have Fm1 : Fm s.heap (callEnvC fd s.heap.objs.size a) fd.scope.names noLoc noRho s₁.heap :=
      { kind := F0.c9, names := rfl, glob := F0.r3, blt := F0.r4
        ns := ⟨_, hns, (fun y av e _ k => nomatch e)⟩
        cell := fun y c ec => ⟨_, x.cell _ c ec, fun av e k => nomatch e⟩
        has := fun y k => by
          rcases k with k | k
          · obtain ⟨c, hc⟩ := cellsFrom_has (n := s.heap.objs.size + 1) (acc := []) (.inl (mem_of_lookup k))
            exact ⟨c, lookup_nodup cn hc⟩
          · exact absurd k (nofree _)
        own := fun y c hm => by
          have ab : s.heap.objs.size < c := x.above y c hm
          obtain ⟨o, ho, hd⟩ := x.cell y c (lookup_nodup cn hm)
          exact ⟨(fun _ _ _ e => nomatch e), Nat.ne_of_gt ab, Nat.le_of_lt ab, _, o, ho, hd⟩
        loc := ⟨(fun _ _ _ e => nomatch e), Nat.le_refl _⟩
        apart := x.apart }
    have hA' : AOk (A.deeper (callEnvC fd s.heap.objs.size a)) d := ⟨hA.handled, by have := hA.depth; show A.depth + 1 + 2 * d + 4 ≤ 990; lia, by have := hA.units; show A.units + 3 + 10 * d + 100 < 9900; lia⟩
    refine lc_e c14 fun T1 Ts hc => band2 hc fun g1 g2 => sAsg_e g1 fun ts v p g1 => l1_e g1 fun t g1 => xName_e g1 fun id np g1 => band4 g1 fun hx k1 k2 k3 => beq_e hx (xSub_e k3 fun tv sl p2 k3 => xSlice_e k3 fun lo up stp p3 k3 => band4 k3 fun h5 h6 h7 k4 => o0_e h5 (o0_e h6 (o1_e h7 fun u h7 => xCst_e h7 fun c kk kp h7 => intIs_e h7 (xName_e k4 fun id2 np2 k4 => band3 k4 fun hx2 _ pl => beq_e hx2 ?_))))
    · · · · skip
            have pl' := pl
            simp only [plainName, Bool.and_eq_true, Bool.not_eq_true'] at pl'
            have hL1 : s₁.heap.IsList l vs.toArray := by
              obtain ⟨o, ho, r⟩ := hL
              exact ⟨o, x.toInCall.keep _ _ ho, r⟩
            have hlv := hI.length
            have hsz := sizeLine_eq
            have hlim := lim_is
            have ld : ∀ {Q : Value → Shared → Prop} {E : Value → Shared → Prop}, Q (.ref l) s₁ → wpAny (model prog w) (A.deeper (callEnvC fd s.heap.objs.size a)) (loadName (callEnvC fd s.heap.objs.size a) (S "script")) Q E s₁ := by
              intro Q E hQ
              rcases sto with q | q
              · have hns := x.toInCall.ns
                simp only [bindL] at hns
                rw [if_pos ((kn _).trans q)] at hns
                exact wpAny_loadName_local F0.c9 ((kn _).trans q) hns (if_pos rfl) hQ
              · obtain ⟨c, hc⟩ := cellsFrom_has (n := s.heap.objs.size + 1) (acc := []) (.inl (mem_of_lookup q))
                have hcell := x.cell _ _ (lookup_nodup cn hc)
                simp only [bindC] at hcell
                rw [if_neg (by rw [kn, q]; decide), if_pos rfl] at hcell
                exact wpAny_loadName_cell F0.c9 ((kn _).trans q) (lookup_nodup cn hc) hcell hQ
            refine wpAny_execs_cons (wpAny_Assign_Name (Subscript_ (wpAny_Name (ld ?_) pl'.1.1)) (noSwap rfl))
            refine wpAny_Slice (part_none fun v1 tk1 i1 => part_int fun v2 tk2 i2 => evalPart_none_step ?_)
            have hL2 : (hp1 s₁.heap v1 v2).IsList l vs.toArray := hL1.push _
            refine tail_any hL2.typeIs slot_list_getitem.lookup (wpAny_getItem_list_slice (st := none) hL2 (Heap.IsSliceOf.new _ _ _ _) i1 i2 .none (by simp) ?_ (by rw [List.size_toArray]; lia)) (ops := [_, _]) rfl
            have hpick : slicePick vs.toArray none (some ((63 : Nat) : Int)) none = (vs.take 63).toArray := slicePick_upto' vs.toArray 63
            rw [hpick, List.take_of_length_le (by lia)]
            have hk : ∀ (b : Nat) o, s₁.heap.get? b = some o → (hp2 s₁.heap v1 v2 vs).get? b = some o := fun b o e => Heap.get?_push_of_some _ (Heap.get?_push_of_some _ e)
            have hsz2 : (hp2 s₁.heap v1 v2 vs).objs.size = s₁.heap.objs.size + 2 := hp2_size
            have hsz1 : (hp1 s₁.heap v1 v2).objs.size = s₁.heap.objs.size + 1 := hp1_size
            obtain ⟨n, σ', ρ', pp, en, eo, _, eρ, R2, st2⟩ := R1.new (o' := .list (ns.map .int)) (P := fun n σ' => ∃ k, n = .tmp k) (x := (hp1 s₁.heap v1 v2).objs.size) (d := (hp1 s₁.heap v1 v2).objs.size)
              (h' := hp2 s₁.heap v1 v2 vs) (.inl fun k _ => ⟨k, rfl⟩) (by rw [hsz1]; exact Nat.le_succ _) (by rw [hsz1]; exact Nat.le_succ _) (by rw [hsz1, hsz2]; exact Nat.lt_succ_self _) (by rw [hsz1, hsz2]; exact Nat.lt_succ_self _) hk (by rw [hsz2]; exact Nat.le_add_right _ _)
              fun ρ' u => ⟨by rw [List.length_map]; lia, vs, _, IsL.new _ _, VRels.ofInts hI⟩
            obtain ⟨k, rfl⟩ := pp
            have Z2 : Stt prog w cl s.heap (callEnvC fd s.heap.objs.size a) fd.scope.names noLoc ρ' σ' ({ s₁ with heap := hp2 s₁.heap v1 v2 vs, toks := tk2 } : Shared).heap := ⟨R2, Fm1.step st2⟩
            refine op_store Z2 k1 (.ref eρ) fun h3 tk3 Z3 st3 => ?_
            have stt := (st1.trans st2).toX.trans (Xs.toXf st3)
            refine hsb hA' g2 (s := { s₁ with heap := h3, toks := tk3 }) Z3 (hw k σ' en fun b hb => eo b hb) fun o f m' ρ4 σ4 s4 p4 sm4 Z4 st4 fr => ?_
            have st5 := stt.trans st4
            have hbk : ∀ (b : Nat) o, s.heap.get? b = some o → s4.heap.get? b = some o := Z4.rel.bas
            have := h s4 (sm1.trans ((Same.mk' (h := h3) (t := tk3)).trans sm4)) hbk
            cases fr with
            | next => cases p4
            | ret hv =>
              have p5 : _ = AV.bool true := p4
              subst p5
              cases hv
              exact this
end
end Gc
end
/- GcE3 -/
section
open PySem PySem.W PyProof.Rows
set_option maxRecDepth 100000
set_option maxHeartbeats 0
namespace Gc
theorem all_mem {α : Type} {l : List α} {p : α → Bool} (h : l.all p = true) {a : α} (ha : a ∈ l) : p a = true := List.all_eq_true.mp h a ha

theorem prg_at {prog : Program} {w : World} {base : Heap} {p : Program} {loose : List Str} {mg mb : Str → Option Value} (X : (hvK w.params).In base) (T : TopRead p loose mg mb base) (hm : sysModules < base.objs.size) :
    Prg prog w (adr w.params) (adr w.params) base (hvK w.params) where
  X := X
  T := ⟨p, loose, mg, mb, T⟩
  hm := hm
  fn f hf := by
    have := all_mem (fns_at w.params) hf
    simpa using this
  cls c hc := by
    have := all_mem (cls1_at w.params) hc
    simp only [Bool.and_eq_true, beq_iff_eq, List.all_eq_true] at this
    obtain ⟨⟨⟨⟨⟨⟨⟨h1, h2⟩, h3⟩, h4⟩, h5⟩, h6⟩, h7⟩, h8⟩ := this
    refine ⟨h1, h2, h3, h4, h5, fun a ha => ?_, h6, h7, fun a ha => (h8 a ha).1.2⟩
    have := (h8 a ha).2
    refine ⟨(h8 a ha).1.1, ?_⟩
    split at this
    · exact ⟨_, ‹_›, this⟩
    · cases this
  bi x hx := by
    have := all_mem (bi_at w.params) hx
    simpa using this
theorem recs_of (pr : Params) : Recs (hvK pr) prg (adr pr) (adr pr) (iniOf pr) where
  fn f hf D e := by
    have := all_mem (recs_at pr) hf
    rw [e] at this
    exact this
  ini c hc := by
    have := all_mem (ini_at pr) hc
    simp only [Bool.and_eq_true, beq_iff_eq] at this
    refine ⟨this.1.1, this.1.2, fun D e => ?_⟩
    have h := this.2
    rw [e] at h
    exact h

theorem law_there (pr : Params) : (((hvK pr).lookup (adr pr "law")).isSome && decide (sysModules < adr pr "law")) = true := by kernel_rfl
theorem join (hw : ∀ ns : List Int, ns.length ≤ 63 → ∀ k σ, σ (.tmp k) = some (.list (ns.map .int)) → (∀ b, b ≠ .tmp k → σ b = none) → wpSs (wpFn prg 300) lawRest (upd noLoc "script" (.ref (.tmp k))) σ fun o _ _ => o.val = .bool true) : PySem.Challenge.rw_pq0849_01.Holds := by
  w_on
  refine holds_law hvSaid fun said => ?_
  refine hvOpen (row_said hvSaid) (Hook.of (kHook hvK hvAs (fun _ => by kernel_rfl))) (Hook.keeps (kHook hvK hvAs (fun _ => by kernel_rfl))) (by rfl) (by rfl) (by rfl) ?hw ⟨hvLeft, ?hc⟩
  case hw => w_witness2
  case hc => exact (by
  w_strict (
    intro w s₀ s₁ mg mb G Y fa o pm cd doc dV kV ho hd hcd hD hmg hg args vals as hpre hlay hrd hwl hlo
    have KX := kIn_of Y
    have X := (Ground.X G).1
    have V := (Ground.X G).2
    refine Ground.open G ?_
    intro T B D TE TW
    try (refine guard_noD D (by decide +kernel) ?_; clear D)
    have hfa : adr w.params "law" = fa := by
      have e1 := all_mem (fns_at w.params) (show "law" ∈ fnNames by decide)
      simp only [Bool.and_eq_true, beq_iff_eq] at e1
      have e2 := mg_of KX T.g e1.1
      have e3 := hmg
      have e4 : mg (S "law") = some (.ref fa) := hmg
      rw [e2] at e4
      cases e4
      rfl
    wrow_args hpre hlay hrd hwl hlo
    first | refine callC_kw (enter_call ?_) | refine enter_call ?_ | refine callC_kw (enter_callW ?_) | refine enter_callW ?_ | w_how
    w_top on
    try refine codeAny_mono ?_ (fun _ _ g => GoodW.toG g)
    rename_i ns _ _ _ _ _ _ _ l vs _ hL _ _ _ hI _ hcond _
    have hle : ns.length ≤ 63 := by lia
    have hrec : fnRec (hvK w.params) fa d_law = true := by
      have := all_mem (recs_at w.params) (show "law" ∈ fnNames by decide)
      rw [← hfa]; exact this
    have hsz : sysModules < s₁.heap.objs.size := by
      have e1 := law_there w.params
      rw [hfa] at e1
      simp only [Bool.and_eq_true, decide_eq_true_eq] at e1
      obtain ⟨o, ho⟩ := Option.isSome_iff_exists.mp e1.1
      have := hlt (KX _ _ ho)
      exact Nat.lt_trans e1.2 this
    have PR := prg_at (prog := Challenge.rw_pq0849_01.row.prog) (w := w) KX (topRead_of T) hsz
    refine law_core (d := 300) (F := wpFn prg 300) PR rfl ⟨rfl, by decide, by decide⟩ hrec hL hI hle (sound_body PR (recs_of w.params) 300 lawRest) (fun k σ h1 h2 => hw ns hle k σ h1 h2) fun s' sm hk => ?_
    refine ⟨.inl ⟨.bool true, .bool true, [], rfl, fun _ => rfl, .bool true, ?_, fun _ => ⟨.nil, fun _ h => by cases h⟩⟩, hk, sm.os, sm.gens.trans hg⟩
    first | kernel_rfl | (show (WShape.has _ _ _ && _) = true; rw [Bool.and_eq_true]; refine ⟨?_, ?_⟩ <;> trace_state <;> simp [WShape.has, WTm.holds])))
end Gc
end
/- GcA2 -/
section
namespace Gc

theorem wE1 {F : FnSem} : wpE F (.cst c) m σ Q = (Q c σ) := rfl
theorem wE2 {F : FnSem} : wpE F (.var x) m σ Q = (vcase (m x) fun v => Q v σ) := rfl
theorem wE3 {F : FnSem} : wpE F (.attr e a) m σ Q = (wpE F e m σ fun v σ' => ∃ r, getsAttr v a σ' = some r ∧ Q r σ') := rfl
theorem wE4 {F : FnSem} : wpE F (.sub e i) m σ Q = (wpE F e m σ fun v σ' => wpE F i m σ' fun k σ'' => wpSub v k σ'' fun r => Q r σ'') := rfl
theorem wE5 {F : FnSem} : wpE F (.upto e n) m σ Q = (wpE F e m σ fun v σ' => ∃ a xs, v = .ref a ∧ σ' a = some (.list xs) ∧ wpNew σ' (.list (xs.take n)) fun b σ'' => Q (.ref b) σ'') := rfl
theorem wE6 {F : FnSem} : wpE F (.frm e n) m σ Q = (wpE F e m σ fun v σ' => ∃ a xs, v = .ref a ∧ σ' a = some (.list xs) ∧ wpNew σ' (.list (xs.drop n)) fun b σ'' => Q (.ref b) σ'') := rfl
theorem wE7 {F : FnSem} : wpE F (.bin o a b) m σ Q = (wpE F a m σ fun x σ' => wpE F b m σ' fun y σ'' => wpBin o x y σ'' Q) := rfl
theorem wE8 {F : FnSem} : wpE F (.cmp o a b) m σ Q = (wpE F a m σ fun x σ' => wpE F b m σ' fun y σ'' => wpCmp o x y σ'' fun r => Q (.bool r) σ'') := rfl
theorem wE9 {F : FnSem} : wpE F (.and a b) m σ Q = (wpE F a m σ fun x σ' => ∃ t, truthy x σ' = some t ∧ match t with | true => wpE F b m σ' Q | false => Q x σ') := rfl
theorem wE10 {F : FnSem} : wpE F (.or a b) m σ Q = (wpE F a m σ fun x σ' => ∃ t, truthy x σ' = some t ∧ match t with | true => Q x σ' | false => wpE F b m σ' Q) := rfl
theorem wE11 {F : FnSem} : wpE F (.not a) m σ Q = (wpE F a m σ fun x σ' => ∃ t, truthy x σ' = some t ∧ Q (.bool (!t)) σ') := rfl
theorem wE12 {F : FnSem} : wpE F (.ite t a b) m σ Q = (wpT F t m σ fun c σ' => match c with | true => wpE F a m σ' Q | false => wpE F b m σ' Q) := rfl
theorem wE13 {F : FnSem} : wpE F (.tup es) m σ Q = (wpEs F es m σ fun vs σ' => Q (.tup vs) σ') := rfl
theorem wE14 {F : FnSem} : wpE F (.list es) m σ Q = (wpEs F es m σ fun vs σ' => wpNew σ' (.list vs) fun n σ'' => Q (.ref n) σ'') := rfl
theorem wE15 {F : FnSem} : wpE F .dict0 m σ Q = (wpNew σ (.dict [] false) fun n σ' => Q (.ref n) σ') := rfl
theorem wE16 {F : FnSem} : wpE F (.call f es) m σ Q = (wpEs F es m σ fun vs σ' => F f vs σ' Q) := rfl
theorem wE17 {F : FnSem} : wpE F (.mk c es) m σ Q = (wpEs F es m σ fun vs σ' => wpNew σ' (.inst c []) fun n σ'' => F (c ++ ".__init__") (.ref n :: vs) σ'' fun r τ => r = .none ∧ Q (.ref n) τ) := rfl
theorem wE18 {F : FnSem} : wpE F (.bi f e) m σ Q = (wpE F e m σ fun v σ' => wpBi f v σ' Q) := rfl
theorem wE19 {F : FnSem} : wpE F (.listOf e) m σ Q = (wpE F e m σ fun v σ' => ∃ a xs, v = .ref a ∧ σ' a = some (.list xs) ∧ wpNew σ' (.list xs) fun n σ'' => Q (.ref n) σ'') := rfl
theorem wE20 {F : FnSem} : wpE F (.listVals e) m σ Q = (wpE F e m σ fun v σ' => ∃ a es fz, v = .ref a ∧ σ' a = some (.dict es fz) ∧ wpNew σ' (.list (es.map (·.2))) fun n σ'' => Q (.ref n) σ'') := rfl
theorem wE21 {F : FnSem} : wpE F (.meth o f es) m σ Q = (wpE F o m σ fun v σ' => ∃ k, kindOf v σ' = some k ∧ methOn f k = true ∧ wpEs F es m σ' fun vs σ'' => kindOf v σ'' = some k ∧ wpMeth f v vs σ'' Q) := rfl
theorem wE22 {F : FnSem} : wpE F (.comp elt x src cnd) m σ Q = (plainSrc src = true ∧ wpE F src m σ fun v σ' => ∃ xs, itemsOf v σ' = some xs ∧ frz v σ' = σ' ∧ wpNew σ' (.list []) fun k σ'' =>
      compL (fun it τ Q' => wpT F cnd (upd m x it) τ Q') (fun it τ Q' => wpE F elt (upd m x it) τ Q') (sameSrc v σ') k Q xs [] σ'') := rfl
theorem wE23 {F : FnSem} : wpE F (.compAll elt x (.bi .reversed e)) m σ Q = (wpE F e m σ fun v σ' => ∃ a xs, v = .ref a ∧ σ' a = some (.list xs) ∧ frz v σ' = σ' ∧ wpNew σ' (.list []) fun k σ'' =>
      compL (fun _ τ Q' => Q' true τ) (fun it τ Q' => wpE F elt (upd m x it) τ Q') (sameSrc v σ') k Q xs.reverse [] σ'') := rfl
theorem wEs1 {F : FnSem} : wpEs F .nil m σ Q = (Q [] σ) := rfl
theorem wEs2 {F : FnSem} : wpEs F (.cons e es) m σ Q = (wpE F e m σ fun v σ' => wpEs F es m σ' fun vs σ'' => Q (v :: vs) σ'') := rfl
theorem wT1 {F : FnSem} : wpT F (.and a b) m σ Q = (wpT F a m σ fun t σ' => match t with | true => wpT F b m σ' Q | false => Q false σ') := rfl
theorem wT2 {F : FnSem} : wpT F (.or a b) m σ Q = (wpT F a m σ fun t σ' => match t with | true => Q true σ' | false => wpT F b m σ' Q) := rfl
theorem wT3 {F : FnSem} : wpT F (.not a) m σ Q = (wpT F a m σ fun t σ' => Q (!t) σ') := rfl
theorem wT4 {F : FnSem} : wpT F (.cmp o a b) m σ Q = (wpE F a m σ fun x σ' => wpE F b m σ' fun y σ'' => wpCmp o x y σ'' fun r => Q r σ'') := rfl
theorem wT5 {F : FnSem} : wpT F (.cst c) m σ Q = (∃ t, truthy c σ = some t ∧ Q t σ) := rfl
theorem wT6 {F : FnSem} : wpT F (.var c) m σ Q = (vcase (m c) fun x => ∃ t, truthy x σ = some t ∧ Q t σ) := rfl
theorem wT7 {F : FnSem} : wpT F (.attr e a) m σ Q = (wpE F e m σ fun v σ' => ∃ r, getsAttr v a σ' = some r ∧ ∃ t, truthy r σ' = some t ∧ Q t σ') := rfl
theorem wT8 {F : FnSem} : wpT F (.call f es) m σ Q = (wpEs F es m σ fun vs σ' => F f vs σ' fun x τ => ∃ t, truthy x τ = some t ∧ Q t τ) := rfl
theorem wS1 {F : FnSem} : wpS F (.expr e) m σ Q = (wpE F e m σ fun _ σ' => Q .next m σ') := rfl
theorem wS2 {F : FnSem} : wpS F (.set x e) m σ Q = (wpE F e m σ fun v σ' => Q .next (upd m x v) σ') := rfl
theorem wS3 {F : FnSem} : wpS F (.setAttr o a e) m σ Q = (wpE F e m σ fun v σ' => wpE F o m σ' fun ov σ'' => wpSetAttr ov a v σ'' fun τ => Q .next m τ) := rfl
theorem wS4 {F : FnSem} : wpS F (.setSub o i e) m σ Q = (wpE F e m σ fun v σ' => wpE F o m σ' fun ov σ'' => wpE F i m σ'' fun iv τ => wpSetSub ov iv v τ fun τ' => Q .next m τ') := rfl
theorem wS5 {F : FnSem} : wpS F (.set2 x y a b) m σ Q = (wpE F a m σ fun v σ' => wpE F b m σ' fun u σ'' => Q .next (upd (upd m y u) x v) σ'') := rfl
theorem wS6 {F : FnSem} : wpS F (.setAttr2 oa a1 ob a2 e1 e2) m σ Q = (wpE F e1 m σ fun v1 σ1 => wpE F e2 m σ1 fun v2 σ2 => wpE F oa m σ2 fun r1 σ3 => wpSetAttr r1 a1 v1 σ3 fun σ4 =>
      wpE F ob m σ4 fun r2 σ5 => wpSetAttr r2 a2 v2 σ5 fun σ6 => Q .next m σ6) := rfl
theorem wS7 {F : FnSem} : wpS F (.unpack xs e) m σ Q = (wpE F e m σ fun v σ' => ∃ vs, itemsFit v xs.length σ' = some vs ∧ Q .next (updAll m xs vs) σ') := rfl
theorem wS8 {F : FnSem} : wpS F (.aug o a op e) m σ Q = (wpE F o m σ fun ov σ' => ∃ old, getsAttr ov a σ' = some old ∧ wpE F e m σ' fun v σ'' => ∃ x y, old = .int x ∧ v = .int y ∧ wpBin op old v σ'' fun r τ => wpSetAttr ov a r τ fun τ' => Q .next m τ') := rfl
theorem wS9 {F : FnSem} : wpS F (.delSub o i) m σ Q = (wpE F o m σ fun ov σ' => wpE F i m σ' fun iv σ'' => wpDelSub ov iv σ'' fun τ => Q .next m τ) := rfl
theorem wS10 {F : FnSem} : wpS F (.ret e) m σ Q = (wpE F e m σ fun v σ' => Q (.ret v) m σ') := rfl
theorem wS11 {F : FnSem} : wpS F .ret0 m σ Q = (Q (.ret .none) m σ) := rfl
theorem wS12 {F : FnSem} : wpS F (.ite t a b) m σ Q = (wpT F t m σ fun c σ' => match c with | true => wpSs F a m σ' Q | false => wpSs F b m σ' Q) := rfl
theorem wS13 {F : FnSem} : wpS F (.while t b) m σ Q = (whileN (fun m σ Q' => wpT F t m σ Q') (fun m σ Q' => wpSs F b m σ Q') Q m σ) := rfl
theorem wS14 {F : FnSem} : wpS F (.forr x src b) m σ Q = (wpSrc F src m σ fun v xs σ' => forL (fun it m σ Q' => wpSs F b (upd m x it) σ Q') (sameSrc v (frz v σ')) (fun o m' τ => Q o m' (unfrz v σ' τ)) xs m (frz v σ')) := rfl
theorem wS15 {F : FnSem} : wpS F .dead m σ Q = (False) := rfl
theorem wSs1 {F : FnSem} : wpSs F .nil m σ Q = (Q .next m σ) := rfl
theorem wSs2 {F : FnSem} : wpSs F (.cons s ss) m σ Q = (wpS F s m σ fun o m' σ' => match o with
    | .next => wpSs F ss m' σ' Q
    | .ret v => Q (.ret v) m' σ') := rfl
theorem updAll_cons : updAll m (x :: xs) (v :: vs) = updAll (upd m x v) xs vs := rfl
theorem updAll_nil : updAll m [] [] = m := rfl

noncomputable def wpL (F : FnSem) (ss : Sts) (m : Loc) (σ : Sto) (Q : Out → Loc → Sto → Prop) : Prop := wpSs F ss m σ Q
section
variable {F : FnSem} {s : St} {ss a b : Sts} {t : Ex} {m : Loc} {σ : Sto} {Q : Out → Loc → Sto → Prop}
theorem wpSs_cons : wpSs F (.cons s ss) m σ Q = wpS F s m σ (fun o m' σ' => match o with | .next => wpL F ss m' σ' Q | .ret v => Q (.ret v) m' σ') := rfl
theorem wpL_nil : wpL F .nil m σ Q = Q .next m σ := rfl
theorem wpS_ite : wpS F (.ite t a b) m σ Q = wpT F t m σ (fun c σ' => match c with | true => wpL F a m σ' Q | false => wpL F b m σ' Q) := rfl
theorem nx (h : wpSs F ss m σ Q) : wpL F ss m σ Q := h
end
theorem wpE_all {elt src : Ex} {x : String} {m : Loc} {σ : Sto} {Q : AV → Sto → Prop} {F : FnSem} (h : plainSrc src = true) : wpE F (.compAll elt x src) m σ Q ↔ wpE F src m σ fun v σ' => ∃ xs, itemsOf v σ' = some xs ∧ frz v σ' = σ' ∧ wpNew σ' (.list []) fun k σ'' =>
      compL (fun _ τ Q' => Q' true τ) (fun it τ Q' => wpE F elt (upd m x it) τ Q') (sameSrc v σ') k Q xs [] σ'' := by
  cases src with
  | bi f a => cases f <;> first | exact Bool.noConfusion h | exact ⟨fun w => w.2, fun w => ⟨rfl, w⟩⟩
  | _ => exact ⟨fun w => w.2, fun w => ⟨rfl, w⟩⟩
section
variable {σ : Sto} {P : Bool → Prop} {Q : AV → Sto → Prop}
theorem cmp_eq_int {x y : Int} : wpCmp .eq (.int x) (.int y) σ P = P (decide (x = y)) := rfl
theorem cmp_ne_int {x y : Int} : wpCmp .ne (.int x) (.int y) σ P = P (decide (x ≠ y)) := rfl
theorem cmp_lt_int {x y : Int} : wpCmp .lt (.int x) (.int y) σ P = P (decide (x < y)) := rfl
theorem cmp_gt_int {x y : Int} : wpCmp .gt (.int x) (.int y) σ P = P (decide (x > y)) := rfl
theorem cmp_ge_int {x y : Int} : wpCmp .ge (.int x) (.int y) σ P = P (decide (x ≥ y)) := rfl
theorem cmp_eq_str {x y : String} : wpCmp .eq (.str x) (.str y) σ P = P (decide (x = y)) := rfl
theorem cmp_ne_str {x y : String} : wpCmp .ne (.str x) (.str y) σ P = P (decide (x ≠ y)) := rfl
theorem cmp_is_n  : wpCmp .is .none .none σ P = P (true) := rfl
theorem cmp_is_r {a : Name} : wpCmp .is (.ref a) .none σ P = P (false) := rfl
theorem cmp_isnot_n  : wpCmp .isnot .none .none σ P = P (false) := rfl
theorem cmp_isnot_r {a : Name} : wpCmp .isnot (.ref a) .none σ P = P (true) := rfl
theorem bin_add {x y : Int} : wpBin .add (.int x) (.int y) σ Q = Q (.int (x + y)) σ := rfl
theorem bin_sub {x y : Int} : wpBin .sub (.int x) (.int y) σ Q = Q (.int (x - y)) σ := rfl
theorem bin_mod {x y : Int} : wpBin .mod (.int x) (.int y) σ Q = (0 < y ∧ Q (.int (x % y)) σ) := rfl
theorem bin_fdiv {x y : Int} : wpBin .fdiv (.int x) (.int y) σ Q = (0 < y ∧ y < lim ∧ Q (.int (x / y)) σ) := rfl
end
theorem add_in {x y : Int} {σ : Sto} {Q : AV → Sto → Prop} (h : Q (.int (x + y)) σ) : wpBin .add (.int x) (.int y) σ Q := h
theorem sub_in {x y : Int} {σ : Sto} {Q : AV → Sto → Prop} (h : Q (.int (x - y)) σ) : wpBin .sub (.int x) (.int y) σ Q := h
theorem eqs_t {x : String} {σ : Sto} {P : Bool → Prop} (h : P true) : wpCmp .eq (.str x) (.str x) σ P := by
  show P (decide (x = x))
  rw [decide_eq_true rfl]; exact h
theorem eqs_f {x y : String} {σ : Sto} {P : Bool → Prop} (e : ¬ x = y) (h : P false) : wpCmp .eq (.str x) (.str y) σ P := by
  show P (decide (x = y))
  rw [decide_eq_false e]; exact h
theorem nes_t {x y : String} {σ : Sto} {P : Bool → Prop} (e : ¬ x = y) (h : P true) : wpCmp .ne (.str x) (.str y) σ P := by
  show P (decide (x ≠ y))
  rw [decide_eq_true e]; exact h
theorem nes_f {x : String} {σ : Sto} {P : Bool → Prop} (h : P false) : wpCmp .ne (.str x) (.str x) σ P := by
  show P (decide (x ≠ x))
  rw [decide_eq_false (fun h => h rfl)]; exact h
theorem upd_ap (m : Loc) (x : String) (v : AV) (y : String) : upd m x v y = bif y == x then some v else m y := rfl
theorem upd_ne {m : Loc} {x y : String} {v : AV} (h : (y == x) = false) : upd m x v y = m y := by
  unfold upd; rw [h]; rfl
theorem noLoc_ap (y : String) : noLoc y = none := rfl
theorem vcase_some (v : AV) (k : AV → Prop) : vcase (some v) k = k v := rfl
theorem fn_intro {P : String → Option Def} {d : Nat} {f : String} {D : Def} {vs : List AV} {σ : Sto} {Q : AV → Sto → Prop} (hP : P f = some D) (hl : D.params.length = vs.length) (hb : wpSs (wpFn P d) D.body (updAll noLoc D.params vs) σ fun o _ σ' => Q o.val σ') :
    wpFn P (d + 1) f vs σ Q := by
  unfold wpFn
  exact ⟨D, hP, hl, hb⟩

end Gc
end
local macro_rules | `(tactic| simp? only [$xs,*]) => `(tactic| simp only [Gc.wpSs_cons, Gc.wpL_nil, Gc.wpS_ite, Gc.wS1, Gc.wS2, Gc.wS3, Gc.wS4, Gc.wS5, Gc.wS6, Gc.wS7, Gc.wS8, Gc.wS9, Gc.wS10, Gc.wS11, Gc.wE1, Gc.wE2, Gc.wE3, Gc.wE4, Gc.wE5, Gc.wE6, Gc.wE7, Gc.wE8, Gc.wE9, Gc.wE10, Gc.wE11, Gc.wE12, Gc.wE13, Gc.wE14, Gc.wE15, Gc.wE16, Gc.wE17, Gc.wE18, Gc.wE19, Gc.wE20, Gc.wE21, Gc.wEs1, Gc.wEs2, Gc.wT1, Gc.wT2, Gc.wT3, Gc.wT4, Gc.wT5, Gc.wT6, Gc.wT7, Gc.wT8, Gc.updAll_cons, Gc.updAll_nil, Gc.upd_ap, Gc.noLoc_ap, Gc.vcase_some, String.reduceBEq, cond_true, cond_false, reduceIte, String.reduceEq, Option.some.injEq, exists_eq_left', $xs,*])
local macro_rules | `(tactic| dsimp? only [$xs,*]) => `(tactic| simp only [Gc.wpL, Gc.wSs1, Gc.wSs2, Gc.wS1, Gc.wS2, Gc.wS3, Gc.wS4, Gc.wS5, Gc.wS6, Gc.wS7, Gc.wS8, Gc.wS9, Gc.wS10, Gc.wS11, Gc.wS12, Gc.wS15, Gc.wE1, Gc.wE2, Gc.wE3, Gc.wE4, Gc.wE5, Gc.wE6, Gc.wE7, Gc.wE8, Gc.wE9, Gc.wE10, Gc.wE11, Gc.wE12, Gc.wE13, Gc.wE14, Gc.wE15, Gc.wE16, Gc.wE17, Gc.wE18, Gc.wE19, Gc.wE20, Gc.wE21, Gc.wEs1, Gc.wEs2, Gc.wT1, Gc.wT2, Gc.wT3, Gc.wT4, Gc.wT5, Gc.wT6, Gc.wT7, Gc.wT8, Gc.updAll_cons, Gc.updAll_nil, Gc.upd_ap, Gc.noLoc_ap, Gc.vcase_some, String.reduceBEq, cond_true, cond_false, reduceIte, String.reduceEq, Option.some.injEq, exists_eq_left', $xs,*])
local macro_rules | `(tactic| simp_all? only [$xs,*]) => `(tactic| simp only [Gc.wE2, Gc.wE3, Gc.wE16, Gc.wEs1, Gc.wEs2, Gc.updAll_cons, Gc.updAll_nil, Gc.upd_ap, Gc.noLoc_ap, Gc.vcase_some, String.reduceBEq, cond_true, cond_false, reduceIte, String.reduceEq, Option.some.injEq, exists_eq_left', $xs,*])
/- GcC2 -/
section
set_option backward.dsimp.useDefEqAttr false
namespace Gc

inductive Val
  | int (n : Int)
  | cell (n : Int)
  deriving DecidableEq
noncomputable def Val.av : Val → AV
  | .int k => .tup [.str "int", .int k]
  | .cell n => .tup [.str "cell", .int n]
inductive Srt | arr | obj | ref
  deriving DecidableEq
noncomputable def Srt.s : Srt → String
  | .arr => "array"
  | .obj => "object"
  | .ref => "ref"
inductive Col | black | grey | white | purple
  deriving DecidableEq
noncomputable def Col.s : Col → String
  | .black => "black"
  | .grey => "grey"
  | .white => "white"
  | .purple => "purple"
set_option genInjectivity false in
structure Cl where
  sort : Srt
  count : Int
  slots : List (Int × Val)
  col : Col
  bufd : Bool
set_option genInjectivity false in
structure HS where
  keys : List Int
  cell : Int → Cl
  vars : List (Int × Val)
  last : Int
  buf : List Int
  full : Int
  freed : Int
  ep : Nat
  logn : Nat

theorem av_int (k : Int) : (Val.int k).av = .tup [.str "int", .int k] := rfl
theorem av_cell (k : Int) : (Val.cell k).av = .tup [.str "cell", .int k] := rfl
noncomputable def ents (l : List (Int × Val)) : List (Int × AV) := l.map fun p => (p.1, p.2.av)
noncomputable abbrev hp (i : Nat) : AV := .ref (.obj i .heap)
noncomputable abbrev cr (i : Nat) (n : Int) : AV := .ref (.obj i (.cell n))
noncomputable def hAO (i : Nat) (H : HS) : AO := .inst "Counted" [("cells", .ref (.obj i .cells)), ("vars", .ref (.obj i .vars)), ("log", .ref (.obj i .log)), ("last", .int H.last), ("buffer", .ref (.obj i (.buf H.ep))), ("full", .int H.full),
  ("freed", .int H.freed), ("plan", .ref (.obj i .plan)), ("tables", .ref (.obj i .tables))]
noncomputable def cAO (i : Nat) (n : Int) (c : Cl) : AO := .inst "Cell" [("sort", .str c.sort.s), ("number", .int n), ("count", .int c.count), ("slots", .ref (.obj i (.slots n))), ("colour", .str c.col.s), ("is_buffered", .bool c.bufd),
  ("has_destructor", .bool false), ("is_destructed", .bool false), ("is_freed", .bool false), ("weak", .none)]

structure Holds (i : Nat) (fz : Int → Bool) (H : HS) (σ : Sto) : Prop where
  heap : σ (.obj i .heap) = some (hAO i H)
  cells : σ (.obj i .cells) = some (.dict (H.keys.map fun n => (n, cr i n)) false)
  vars : σ (.obj i .vars) = some (.dict (ents H.vars) false)
  log : ∃ l, l.length = H.logn ∧ σ (.obj i .log) = some (.list l)
  plan : σ (.obj i .plan) = some (.dict [] false)
  tables : σ (.obj i .tables) = some (.list [])
  buf : σ (.obj i (.buf H.ep)) = some (.list (H.buf.map .int))
  cell : ∀ n ∈ H.keys, σ (.obj i (.cell n)) = some (cAO i n (H.cell n))
  slots : ∀ n ∈ H.keys, σ (.obj i (.slots n)) = some (.dict (ents (H.cell n).slots) (fz n))
  newc : ∀ n, H.last < n → σ (.obj i (.cell n)) = none ∧ σ (.obj i (.slots n)) = none
  newb : ∀ e, H.ep < e → σ (.obj i (.buf e)) = none
  top : ∀ n ∈ H.keys, n ≤ H.last

noncomputable def Fr (X : Name → Prop) (σ σ' : Sto) : Prop := ∀ a, ¬ X a → (σ a ≠ none ∨ ∃ j t, a = .obj j t) → σ' a = σ a
noncomputable def Own (i : Nat) (a : Name) : Prop := ∃ t, a = .obj i t

theorem Fr.refl {X : Name → Prop} {σ : Sto} : Fr X σ σ := fun _ _ _ => rfl
theorem Fr.trans {X : Name → Prop} {σ σ' σ'' : Sto} (a : Fr X σ σ') (b : Fr X σ' σ'') : Fr X σ σ'' := fun n hx h => by
  have e := a n hx h
  refine (b n hx ?_).trans e
  rcases h with h | h
  · left; rw [e]; exact h
  · exact .inr h
theorem Fr.mono {X Y : Name → Prop} {σ σ' : Sto} (a : Fr X σ σ') (h : ∀ n, X n → Y n) : Fr Y σ σ' := fun n hx => a n fun q => hx (h n q)
theorem Fr.set {X : Name → Prop} {σ : Sto} {a : Name} {o : AO} (h : X a) : Fr X σ (σ.set a o) := fun n hx _ => if_neg fun q => hx (by rw [q]; exact h)
theorem Fr.tmp {X : Name → Prop} {σ : Sto} {k : Nat} {o : AO} (h : σ (.tmp k) = none) : Fr X σ (σ.set (.tmp k) o) := fun n _ h' => if_neg fun q => by
  subst q
  rcases h' with h' | ⟨_, _, h'⟩
  · exact h' h
  · cases h'
theorem set_same {σ : Sto} {a : Name} {o : AO} : (σ.set a o) a = some o := if_pos rfl
theorem set_ne {σ : Sto} {a b : Name} {o : AO} (h : b ≠ a) : (σ.set a o) b = σ b := if_neg h

theorem Holds.fr {i : Nat} {fz : Int → Bool} {H : HS} {X : Name → Prop} {σ σ' : Sto} (h : Holds i fz H σ) (f : Fr X σ σ') (hx : ∀ t, ¬ X (.obj i t)) : Holds i fz H σ' := by
  have e : ∀ t, σ' (.obj i t) = σ (.obj i t) := fun t => f _ (hx t) (.inr ⟨_, _, rfl⟩)
  exact ⟨(e _).trans h.heap, (e _).trans h.cells, (e _).trans h.vars, let ⟨l, a, b⟩ := h.log; ⟨l, a, (e _).trans b⟩, (e _).trans h.plan, (e _).trans h.tables, (e _).trans h.buf, fun n hn => (e _).trans (h.cell n hn), fun n hn => (e _).trans (h.slots n hn),
    fun n hn => ⟨(e _).trans (h.newc n hn).1, (e _).trans (h.newc n hn).2⟩, fun n hn => (e _).trans (h.newb n hn), h.top⟩
theorem Holds.tmp {i : Nat} {fz : Int → Bool} {H : HS} {σ : Sto} {k : Nat} {o : AO} (h : Holds i fz H σ) : Holds i fz H (σ.set (.tmp k) o) :=
  h.fr (X := fun a => a = .tmp k) (.set rfl) fun t q => by cases q


section
variable {F : FnSem} {m : Loc} {σ : Sto} {Q : AV → List AV → Sto → Prop}
theorem src_attr {e : Ex} {a : String} : wpSrc F (.attr e a) m σ Q ↔ wpE F (.attr e a) m σ fun v σ' => ∃ xs, itemsOf v σ' = some xs ∧ Q v xs σ' := Iff.rfl
theorem src_var {x : String} : wpSrc F (.var x) m σ Q ↔ wpE F (.var x) m σ fun v σ' => ∃ xs, itemsOf v σ' = some xs ∧ Q v xs σ' := Iff.rfl
theorem src_call {f : String} {es : Exs} : wpSrc F (.call f es) m σ Q ↔ wpE F (.call f es) m σ fun v σ' => ∃ xs, itemsOf v σ' = some xs ∧ Q v xs σ' := Iff.rfl
theorem lsrc_range {n : Int} : wpSrc F (.bi .range (.cst (.int n))) m σ Q ↔ 0 ≤ n ∧ Q .none ((List.range n.toNat).map fun i => AV.int (Int.ofNat i)) σ := Iff.rfl
end

theorem dget_ents (l : List (Int × Val)) (k : Int) : dget (ents l) k = ((l.find? fun p => decide (p.1 = k)).map (·.2)).map Val.av := by
  unfold dget ents
  rw [List.find?_map, Option.map_map, Option.map_map]
  rfl
noncomputable def vget (l : List (Int × Val)) (k : Int) : Option Val := (l.find? fun p => decide (p.1 = k)).map (·.2)
noncomputable def vset (l : List (Int × Val)) (k : Int) (v : Val) : List (Int × Val) := if l.any (fun p => decide (p.1 = k)) then l.map (fun p => if p.1 = k then (p.1, v) else p) else l ++ [(k, v)]
noncomputable def vdel (l : List (Int × Val)) (k : Int) : List (Int × Val) := l.filter fun p => decide (p.1 ≠ k)
theorem dget_av (l : List (Int × Val)) (k : Int) : dget (ents l) k = (vget l k).map Val.av := dget_ents l k
theorem dset_av (l : List (Int × Val)) (k : Int) (v : Val) : dset (ents l) k v.av = ents (vset l k v) := by
  unfold dset ents vset
  have e : (List.map (fun p => (p.1, p.2.av)) l).any (fun p => decide (p.1 = k)) = l.any (fun p => decide (p.1 = k)) := by rw [List.any_map]; rfl
  rw [e]
  split
  · rw [List.map_map, List.map_map]
    refine List.map_congr_left fun p _ => ?_
    simp only [Function.comp]
    split <;> rfl
  · simp
theorem ddel_av (l : List (Int × Val)) (k : Int) : ddel (ents l) k = ents (vdel l k) := by
  unfold ddel ents vdel
  rw [List.filter_map]
  rfl
theorem ents_length (l : List (Int × Val)) : (ents l).length = l.length := by simp [ents]
theorem vset_length (l : List (Int × Val)) (k : Int) (v : Val) : (vset l k v).length ≤ l.length + 1 := by unfold vset; split <;> simp

theorem dget_keys {i : Nat} {ks : List Int} {n : Int} (h : n ∈ ks) : dget (ks.map fun n => (n, cr i n)) n = some (cr i n) := by
  unfold dget
  rw [List.find?_map, Option.map_map]
  have : ∃ a, ks.find? ((fun p => decide (p.1 = n)) ∘ fun n => (n, cr i n)) = some a ∧ a = n := by
    cases q : ks.find? ((fun p => decide (p.1 = n)) ∘ fun n => (n, cr i n)) with
    | none =>
      have := List.find?_eq_none.mp q n h
      simp at this
    | some a =>
      have := List.find?_some q
      simp at this
      exact ⟨a, rfl, this⟩
  obtain ⟨a, e, rfl⟩ := this
  rw [e]; rfl
theorem dget_keys_none {i : Nat} {ks : List Int} {n : Int} (h : n ∉ ks) : dget (ks.map fun n => (n, cr i n)) n = none := by
  unfold dget
  rw [List.find?_map, Option.map_map]
  cases q : ks.find? ((fun p => decide (p.1 = n)) ∘ fun n => (n, cr i n)) with
  | none => rfl
  | some a =>
    have h1 := List.find?_some q
    have h2 := List.mem_of_find?_eq_some q
    simp at h1
    exact absurd (h1 ▸ h2) h

section
variable {i : Nat} {fz : Int → Bool} {H : HS} {σ : Sto}
theorem Holds.aCells (h : Holds i fz H σ) : getsAttr (hp i) "cells" σ = some (.ref (.obj i .cells)) := by
  unfold getsAttr; simp only [h.heap, hAO]; rfl
theorem Holds.aVars (h : Holds i fz H σ) : getsAttr (hp i) "vars" σ = some (.ref (.obj i .vars)) := by
  unfold getsAttr; simp only [h.heap, hAO]; rfl
theorem Holds.aLog (h : Holds i fz H σ) : getsAttr (hp i) "log" σ = some (.ref (.obj i .log)) := by
  unfold getsAttr; simp only [h.heap, hAO]; rfl
theorem Holds.aLast (h : Holds i fz H σ) : getsAttr (hp i) "last" σ = some (.int H.last) := by
  unfold getsAttr; simp only [h.heap, hAO]; rfl
theorem Holds.aBuffer (h : Holds i fz H σ) : getsAttr (hp i) "buffer" σ = some (.ref (.obj i (.buf H.ep))) := by
  unfold getsAttr; simp only [h.heap, hAO]; rfl
theorem Holds.aFull (h : Holds i fz H σ) : getsAttr (hp i) "full" σ = some (.int H.full) := by
  unfold getsAttr; simp only [h.heap, hAO]; rfl
theorem Holds.aFreed (h : Holds i fz H σ) : getsAttr (hp i) "freed" σ = some (.int H.freed) := by
  unfold getsAttr; simp only [h.heap, hAO]; rfl
theorem Holds.aTables (h : Holds i fz H σ) : getsAttr (hp i) "tables" σ = some (.ref (.obj i .tables)) := by
  unfold getsAttr; simp only [h.heap, hAO]; rfl
theorem Holds.cSort (h : Holds i fz H σ) {n : Int} (hn : n ∈ H.keys) : getsAttr (cr i n) "sort" σ = some (.str (H.cell n).sort.s) := by
  unfold getsAttr; simp only [h.cell n hn, cAO]; rfl
theorem Holds.cNumber (h : Holds i fz H σ) {n : Int} (hn : n ∈ H.keys) : getsAttr (cr i n) "number" σ = some (.int n) := by
  unfold getsAttr; simp only [h.cell n hn, cAO]; rfl
theorem Holds.cCount (h : Holds i fz H σ) {n : Int} (hn : n ∈ H.keys) : getsAttr (cr i n) "count" σ = some (.int (H.cell n).count) := by
  unfold getsAttr; simp only [h.cell n hn, cAO]; rfl
theorem Holds.cSlots (h : Holds i fz H σ) {n : Int} (hn : n ∈ H.keys) : getsAttr (cr i n) "slots" σ = some (.ref (.obj i (.slots n))) := by
  unfold getsAttr; simp only [h.cell n hn, cAO]; rfl
theorem Holds.cColour (h : Holds i fz H σ) {n : Int} (hn : n ∈ H.keys) : getsAttr (cr i n) "colour" σ = some (.str (H.cell n).col.s) := by
  unfold getsAttr; simp only [h.cell n hn, cAO]; rfl
theorem Holds.cBufd (h : Holds i fz H σ) {n : Int} (hn : n ∈ H.keys) : getsAttr (cr i n) "is_buffered" σ = some (.bool (H.cell n).bufd) := by
  unfold getsAttr; simp only [h.cell n hn, cAO]; rfl
theorem Holds.cHas (h : Holds i fz H σ) {n : Int} (hn : n ∈ H.keys) : getsAttr (cr i n) "has_destructor" σ = some (.bool false) := by
  unfold getsAttr; simp only [h.cell n hn, cAO]; rfl

noncomputable def HS.setC (H : HS) (n : Int) (c : Cl) : HS := { H with cell := fun k => if k = n then c else H.cell k }
theorem HS.setC_same (H : HS) (n : Int) (c : Cl) : (H.setC n c).cell n = c := if_pos rfl
theorem HS.setC_ne (H : HS) {n k : Int} (c : Cl) (h : k ≠ n) : (H.setC n c).cell k = H.cell k := if_neg h

theorem Holds.setVars (h : Holds i fz H σ) (l : List (Int × Val)) : Holds i fz { H with vars := l } (σ.set (.obj i .vars) (.dict (ents l) false)) :=
  ⟨(set_ne (by simp)).trans h.heap, (set_ne (by simp)).trans h.cells, set_same, let ⟨l, a, b⟩ := h.log; ⟨l, a, (set_ne (by simp)).trans b⟩, (set_ne (by simp)).trans h.plan, (set_ne (by simp)).trans h.tables, (set_ne (by simp)).trans h.buf,
    fun n hn => (set_ne (by simp)).trans (h.cell n hn), fun n hn => (set_ne (by simp)).trans (h.slots n hn), fun n hn => ⟨(set_ne (by simp)).trans (h.newc n hn).1, (set_ne (by simp)).trans (h.newc n hn).2⟩, fun n hn => (set_ne (by simp)).trans (h.newb n hn), h.top⟩
theorem Holds.setLog (h : Holds i fz H σ) (l : List AV) : Holds i fz { H with logn := l.length } (σ.set (.obj i .log) (.list l)) :=
  ⟨(set_ne (by simp)).trans h.heap, (set_ne (by simp)).trans h.cells, (set_ne (by simp)).trans h.vars, ⟨l, rfl, set_same⟩, (set_ne (by simp)).trans h.plan, (set_ne (by simp)).trans h.tables, (set_ne (by simp)).trans h.buf,
    fun n hn => (set_ne (by simp)).trans (h.cell n hn), fun n hn => (set_ne (by simp)).trans (h.slots n hn), fun n hn => ⟨(set_ne (by simp)).trans (h.newc n hn).1, (set_ne (by simp)).trans (h.newc n hn).2⟩, fun n hn => (set_ne (by simp)).trans (h.newb n hn), h.top⟩
theorem Holds.setBuf (h : Holds i fz H σ) (l : List Int) : Holds i fz { H with buf := l } (σ.set (.obj i (.buf H.ep)) (.list (l.map .int))) :=
  ⟨(set_ne (by simp)).trans h.heap, (set_ne (by simp)).trans h.cells, (set_ne (by simp)).trans h.vars, let ⟨l, a, b⟩ := h.log; ⟨l, a, (set_ne (by simp)).trans b⟩, (set_ne (by simp)).trans h.plan, (set_ne (by simp)).trans h.tables, set_same,
    fun n hn => (set_ne (by simp)).trans (h.cell n hn), fun n hn => (set_ne (by simp)).trans (h.slots n hn), fun n hn => ⟨(set_ne (by simp)).trans (h.newc n hn).1, (set_ne (by simp)).trans (h.newc n hn).2⟩,
    fun n hn => (set_ne (by simp only [ne_eq, Name.obj.injEq, Tag.buf.injEq, true_and]; have : H.ep < n := hn; lia)).trans (h.newb n hn), h.top⟩
theorem Holds.setHeap (h : Holds i fz H σ) (la fr : Int) (hl : H.last ≤ la) : Holds i fz { H with last := la, freed := fr } (σ.set (.obj i .heap) (hAO i { H with last := la, freed := fr })) :=
  ⟨set_same, (set_ne (by simp)).trans h.cells, (set_ne (by simp)).trans h.vars, let ⟨l, a, b⟩ := h.log; ⟨l, a, (set_ne (by simp)).trans b⟩, (set_ne (by simp)).trans h.plan, (set_ne (by simp)).trans h.tables, (set_ne (by simp)).trans h.buf,
    fun n hn => (set_ne (by simp)).trans (h.cell n hn), fun n hn => (set_ne (by simp)).trans (h.slots n hn), fun n hn => ⟨(set_ne (by simp)).trans (h.newc n (Int.lt_of_le_of_lt hl hn)).1, (set_ne (by simp)).trans (h.newc n (Int.lt_of_le_of_lt hl hn)).2⟩,
    fun n hn => (set_ne (by simp)).trans (h.newb n hn), fun n hn => Int.le_trans (h.top n hn) hl⟩
theorem Holds.newBuf (h : Holds i fz H σ) : Holds i fz { H with buf := [], ep := H.ep + 1 } ((σ.set (.obj i (.buf (H.ep + 1))) (.list [])).set (.obj i .heap) (hAO i { H with buf := [], ep := H.ep + 1 })) := by
  have k : ∀ t, t ≠ .heap → t ≠ .buf (H.ep + 1) → ((σ.set (.obj i (.buf (H.ep + 1))) (.list [])).set (.obj i .heap) (hAO i { H with buf := [], ep := H.ep + 1 })) (.obj i t) = σ (.obj i t) := fun t h1 h2 => by
    rw [set_ne (by simpa using h1), set_ne (by simpa using h2)]
  refine ⟨set_same, (k _ (by simp) (by simp)).trans h.cells, (k _ (by simp) (by simp)).trans h.vars, let ⟨l, a, b⟩ := h.log; ⟨l, a, (k _ (by simp) (by simp)).trans b⟩, (k _ (by simp) (by simp)).trans h.plan, (k _ (by simp) (by simp)).trans h.tables, ?_,
    fun n hn => (k _ (by simp) (by simp)).trans (h.cell n hn), fun n hn => (k _ (by simp) (by simp)).trans (h.slots n hn), fun n hn => ⟨(k _ (by simp) (by simp)).trans (h.newc n hn).1, (k _ (by simp) (by simp)).trans (h.newc n hn).2⟩, fun e he => ?_, h.top⟩
  · rw [set_ne (by simp)]; exact set_same
  · have he' : H.ep + 1 < e := he
    rw [k _ (by simp) (by simp only [ne_eq, Tag.buf.injEq]; lia)]
    exact h.newb e (by lia)
theorem Holds.setCell (h : Holds i fz H σ) {n : Int} {c : Cl} (hn : n ∈ H.keys) (hs : c.slots = (H.cell n).slots) : Holds i fz (H.setC n c) (σ.set (.obj i (.cell n)) (cAO i n c)) := by
  have kk : ∀ {k}, k ∈ (H.setC n c).keys → k ≤ H.last := fun hk => h.top _ hk
  refine ⟨(set_ne (by simp)).trans h.heap, (set_ne (by simp)).trans h.cells, (set_ne (by simp)).trans h.vars, let ⟨l, a, b⟩ := h.log; ⟨l, a, (set_ne (by simp)).trans b⟩, (set_ne (by simp)).trans h.plan, (set_ne (by simp)).trans h.tables, (set_ne (by simp)).trans h.buf,
    fun k hk => ?_, fun k hk => ?_, fun k hk => ⟨?_, (set_ne (by simp)).trans (h.newc k hk).2⟩, fun n hn => (set_ne (by simp)).trans (h.newb n hn), h.top⟩
  · by_cases q : k = n
    · subst q; rw [HS.setC_same]; exact set_same
    · rw [HS.setC_ne _ _ q, set_ne (by simpa using q)]; exact h.cell k hk
  · rw [set_ne (by simp)]
    by_cases q : k = n
    · subst q; rw [HS.setC_same, hs]; exact h.slots k hk
    · rw [HS.setC_ne _ _ q]; exact h.slots k hk
  · have h1 := h.top n hn
    have h2 : H.last < k := hk
    have q : k ≠ n := by lia
    rw [set_ne (by simpa using q)]; exact (h.newc k hk).1
theorem Holds.setSlots (h : Holds i fz H σ) {n : Int} (hn : n ∈ H.keys) (l : List (Int × Val)) : Holds i fz (H.setC n { H.cell n with slots := l }) (σ.set (.obj i (.slots n)) (.dict (ents l) (fz n))) := by
  refine ⟨(set_ne (by simp)).trans h.heap, (set_ne (by simp)).trans h.cells, (set_ne (by simp)).trans h.vars, let ⟨l, a, b⟩ := h.log; ⟨l, a, (set_ne (by simp)).trans b⟩, (set_ne (by simp)).trans h.plan, (set_ne (by simp)).trans h.tables, (set_ne (by simp)).trans h.buf,
    fun k hk => ?_, fun k hk => ?_, fun k hk => ⟨(set_ne (by simp)).trans (h.newc k hk).1, ?_⟩, fun n hn => (set_ne (by simp)).trans (h.newb n hn), h.top⟩
  · rw [set_ne (by simp)]
    by_cases q : k = n
    · subst q; rw [HS.setC_same]; exact h.cell k hk
    · rw [HS.setC_ne _ _ q]; exact h.cell k hk
  · by_cases q : k = n
    · subst q; rw [HS.setC_same]; exact set_same
    · rw [HS.setC_ne _ _ q, set_ne (by simpa using q)]; exact h.slots k hk
  · have h1 := h.top n hn
    have h2 : H.last < k := hk
    have q : k ≠ n := by lia
    rw [set_ne (by simpa using q)]; exact (h.newc k hk).2

noncomputable def fzOn (fz : Int → Bool) (n : Int) (b : Bool) : Int → Bool := fun k => if k = n then b else fz k
theorem Holds.frozen (h : Holds i fz H σ) {n : Int} (hn : n ∈ H.keys) (b : Bool) : Holds i (fzOn fz n b) H (σ.set (.obj i (.slots n)) (.dict (ents (H.cell n).slots) b)) := by
  refine ⟨(set_ne (by simp)).trans h.heap, (set_ne (by simp)).trans h.cells, (set_ne (by simp)).trans h.vars, let ⟨l, a, b⟩ := h.log; ⟨l, a, (set_ne (by simp)).trans b⟩, (set_ne (by simp)).trans h.plan, (set_ne (by simp)).trans h.tables, (set_ne (by simp)).trans h.buf,
    fun k hk => (set_ne (by simp)).trans (h.cell k hk), fun k hk => ?_, fun k hk => ⟨(set_ne (by simp)).trans (h.newc k hk).1, ?_⟩, fun n hn => (set_ne (by simp)).trans (h.newb n hn), h.top⟩
  · by_cases q : k = n
    · subst q
      have e : fzOn fz k b k = b := if_pos rfl
      rw [e]; exact set_same
    · have e : fzOn fz n b k = fz k := if_neg q
      rw [e, set_ne (by simpa using q)]; exact h.slots k hk
  · have h1 := h.top n hn
    have h2 : H.last < k := hk
    have q : k ≠ n := by lia
    rw [set_ne (by simpa using q)]; exact (h.newc k hk).2
theorem fzOn_back (fz : Int → Bool) (n : Int) (b : Bool) : fzOn (fzOn fz n b) n (fz n) = fz := by
  funext k
  unfold fzOn
  by_cases q : k = n
  · rw [if_pos q, q]
  · rw [if_neg q, if_neg q]

noncomputable def HS.addC (H : HS) (s : Srt) : HS := { H with keys := H.keys ++ [H.last + 1], last := H.last + 1, cell := fun k => if k = H.last + 1 then ⟨s, 0, [], .black, false⟩ else H.cell k }
theorem Holds.added {s : Srt} {σ' : Sto} (h : Holds i fz H σ) (e0 : σ' (.obj i .heap) = some (hAO i { H with last := H.last + 1 })) (e1 : σ' (.obj i .cells) = some (.dict ((H.keys ++ [H.last + 1]).map fun n => (n, cr i n)) false))
    (e2 : σ' (.obj i (.cell (H.last + 1))) = some (cAO i (H.last + 1) ⟨s, 0, [], .black, false⟩)) (e3 : σ' (.obj i (.slots (H.last + 1))) = some (.dict [] false)) (hf : fz (H.last + 1) = false)
    (hk : ∀ t, t ≠ .heap → t ≠ .cells → t ≠ .cell (H.last + 1) → t ≠ .slots (H.last + 1) → σ' (.obj i t) = σ (.obj i t)) : Holds i fz (H.addC s) σ' := by
  have old : ∀ n ∈ H.keys, n ≠ H.last + 1 := fun n hn => by have := h.top n hn; lia
  refine ⟨e0, e1, (hk _ (by simp) (by simp) (by simp) (by simp)).trans h.vars, let ⟨l, a, b⟩ := h.log; ⟨l, a, (hk _ (by simp) (by simp) (by simp) (by simp)).trans b⟩, (hk _ (by simp) (by simp) (by simp) (by simp)).trans h.plan,
    (hk _ (by simp) (by simp) (by simp) (by simp)).trans h.tables, (hk _ (by simp) (by simp) (by simp) (by simp)).trans h.buf, fun n hn => ?_, fun n hn => ?_, fun n hn => ?_, fun e he => (hk _ (by simp) (by simp) (by simp) (by simp)).trans (h.newb e he), fun n hn => ?_⟩
  · rcases List.mem_append.mp hn with hn | hn
    · have q := old n hn
      show _ = some (cAO i n (if n = H.last + 1 then _ else H.cell n))
      rw [if_neg q, hk _ (by simp) (by simp) (by simpa using q) (by simp)]; exact h.cell n hn
    · rw [List.mem_singleton.mp hn, e2]
      show _ = some (cAO i _ (if H.last + 1 = H.last + 1 then _ else _))
      rw [if_pos rfl]
  · rcases List.mem_append.mp hn with hn | hn
    · have q := old n hn
      show _ = some (AO.dict (ents (if n = H.last + 1 then (⟨s, 0, [], .black, false⟩ : Cl) else H.cell n).slots) _)
      rw [if_neg q, hk _ (by simp) (by simp) (by simp) (by simpa using q)]; exact h.slots n hn
    · rw [List.mem_singleton.mp hn, e3, hf]
      show _ = some (AO.dict (ents (if H.last + 1 = H.last + 1 then (⟨s, 0, [], .black, false⟩ : Cl) else H.cell (H.last + 1)).slots) _)
      rw [if_pos rfl]; rfl
  · have h2 : H.last + 1 < n := hn
    have q : n ≠ H.last + 1 := by lia
    exact ⟨(hk _ (by simp) (by simp) (by simpa using q) (by simp)).trans (h.newc n (by lia)).1, (hk _ (by simp) (by simp) (by simp) (by simpa using q)).trans (h.newc n (by lia)).2⟩
  · show n ≤ H.last + 1
    rcases List.mem_append.mp hn with hn | hn
    · have := h.top n hn; lia
    · rw [List.mem_singleton.mp hn]; exact Int.le_refl _

noncomputable def HS.delC (H : HS) (n : Int) : HS := { H with keys := H.keys.filter fun k => decide (k ≠ n) }
theorem ddel_keys (i : Nat) (ks : List Int) (n : Int) : ddel (ks.map fun n => (n, cr i n)) n = (ks.filter fun k => decide (k ≠ n)).map fun n => (n, cr i n) := by
  unfold ddel
  rw [List.filter_map]
  rfl
theorem Holds.deleted {σ' : Sto} {n : Int} (h : Holds i fz H σ) (e1 : σ' (.obj i .cells) = some (.dict ((H.keys.filter fun k => decide (k ≠ n)).map fun n => (n, cr i n)) false))
    (hn : n ≤ H.last) (hk : ∀ t, t ≠ .cells → t ≠ .cell n → t ≠ .slots n → σ' (.obj i t) = σ (.obj i t)) : Holds i fz (H.delC n) σ' := by
  have old : ∀ k, k ∈ (H.delC n).keys → k ∈ H.keys ∧ k ≠ n := fun k hk => by
    have := List.mem_filter.mp hk
    simpa using this
  refine ⟨(hk _ (by simp) (by simp) (by simp)).trans h.heap, e1, (hk _ (by simp) (by simp) (by simp)).trans h.vars, let ⟨l, a, b⟩ := h.log; ⟨l, a, (hk _ (by simp) (by simp) (by simp)).trans b⟩, (hk _ (by simp) (by simp) (by simp)).trans h.plan,
    (hk _ (by simp) (by simp) (by simp)).trans h.tables, (hk _ (by simp) (by simp) (by simp)).trans h.buf, fun k hk' => ?_, fun k hk' => ?_, fun k hk' => ?_, fun e he => (hk _ (by simp) (by simp) (by simp)).trans (h.newb e he), fun k hk' => h.top k (old k hk').1⟩
  · obtain ⟨a, b⟩ := old k hk'
    rw [hk _ (by simp) (by simpa using b) (by simp)]; exact h.cell k a
  · obtain ⟨a, b⟩ := old k hk'
    rw [hk _ (by simp) (by simp) (by simpa using b)]; exact h.slots k a
  · have h2 : H.last < k := hk'
    have q : k ≠ n := by lia
    exact ⟨(hk _ (by simp) (by simpa using q) (by simp)).trans (h.newc k hk').1, (hk _ (by simp) (by simp) (by simpa using q)).trans (h.newc k hk').2⟩

/- reading, by rewriting -/
theorem sub_dict {a : Name} {es : List (Int × AV)} {f : Bool} {k : Int} {v : AV} {Q : AV → Prop} (e : σ a = some (.dict es f)) (e2 : dget es k = some v) : wpSub (.ref a) (.int k) σ Q ↔ Q v := by
  constructor
  · rintro (⟨xs, w, e1, _⟩ | ⟨es', f', w, e1, e3, q⟩)
    · rw [e] at e1; cases e1
    · rw [e] at e1; cases e1; rw [e2] at e3; cases e3; exact q
  · intro q; exact .inr ⟨_, _, _, e, e2, q⟩
theorem sub_tup0 {x : AV} {xs : List AV} {Q : AV → Prop} : wpSub (.tup (x :: xs)) (.int 0) σ Q ↔ Q x := by simp [wpSub, lim]
theorem sub_tup1 {x y : AV} {xs : List AV} {Q : AV → Prop} : wpSub (.tup (x :: y :: xs)) (.int 1) σ Q ↔ Q y := by simp [wpSub, lim]
theorem in_dict {a : Name} {es : List (Int × AV)} {f : Bool} {k : Int} {Q : Bool → Prop} (e : σ a = some (.dict es f)) : wpCmp .isin (.int k) (.ref a) σ Q ↔ Q (dget es k).isSome := by
  constructor
  · rintro ⟨es', f', e1, q⟩
    rw [e] at e1; cases e1; exact q
  · intro q; exact ⟨_, _, e, q⟩
theorem kind_dict {a : Name} {es : List (Int × AV)} {f : Bool} (e : σ a = some (.dict es f)) : kindOf (.ref a) σ = some false := by simp [kindOf, e]
theorem kind_list {a : Name} {xs : List AV} (e : σ a = some (.list xs)) : kindOf (.ref a) σ = some true := by simp [kindOf, e]
theorem get2_dict {a : Name} {es : List (Int × AV)} {f : Bool} {k : Int} {w : AV} {Q : AV → Sto → Prop} (e : σ a = some (.dict es f)) : wpMeth .get (.ref a) [.int k, w] σ Q ↔ Q ((dget es k).getD w) σ := by
  constructor
  · rintro ⟨es', f', e1, q⟩
    rw [e] at e1; cases e1; exact q
  · intro q; exact ⟨_, _, e, q⟩
theorem pop_dict {a : Name} {es : List (Int × AV)} {k : Int} {v : AV} {Q : AV → Sto → Prop} (e : σ a = some (.dict es false)) (e2 : dget es k = some v) : wpMeth .pop (.ref a) [.int k] σ Q ↔ Q v (σ.set a (.dict (ddel es k) false)) := by
  constructor
  · rintro ⟨es', w, e1, e3, q⟩
    rw [e] at e1; cases e1; rw [e2] at e3; cases e3; exact q
  · intro q; exact ⟨_, _, e, e2, q⟩
theorem setsub_dict {a : Name} {es : List (Int × AV)} {k : Int} {x : AV} {Q : Sto → Prop} (e : σ a = some (.dict es false)) (hl : es.length < 65536) : wpSetSub (.ref a) (.int k) x σ Q ↔ Q (σ.set a (.dict (dset es k x) false)) := by
  constructor
  · rintro ⟨es', e1, _, q⟩
    rw [e] at e1; cases e1; exact q
  · intro q; exact ⟨_, e, hl, q⟩
theorem attr_ex {v : AV} {a : String} {r : AV} {R : AV → Prop} (e : getsAttr v a σ = some r) : (∃ r', getsAttr v a σ = some r' ∧ R r') ↔ R r := by
  constructor
  · rintro ⟨k', e1, r⟩
    rw [e] at e1; cases e1; exact r
  · intro r; exact ⟨_, e, r⟩
theorem tru_b {b : Bool} {R : Bool → Prop} : (∃ t, truthy (.bool b) σ = some t ∧ R t) ↔ R b := by simp [truthy]
/- reading, by applying -/
theorem sub0_in {x : AV} {xs : List AV} {Q : AV → Prop} (h : Q x) : wpSub (.tup (x :: xs)) (.int 0) σ Q := sub_tup0.mpr h
theorem sub1_in {x y : AV} {xs : List AV} {Q : AV → Prop} (h : Q y) : wpSub (.tup (x :: y :: xs)) (.int 1) σ Q := sub_tup1.mpr h
theorem subd_in {a : Name} {es : List (Int × AV)} {f : Bool} {k : Int} {v : AV} {Q : AV → Prop} (e : σ a = some (.dict es f)) (e2 : dget es k = some v) (h : Q v) : wpSub (.ref a) (.int k) σ Q := .inr ⟨_, _, _, e, e2, h⟩
theorem subl_in {a : Name} {xs : List AV} {k : Int} {v : AV} {Q : AV → Prop} (e : σ a = some (.list xs)) (h0 : 0 ≤ k) (h1 : k < 65536) (e2 : xs[k.toNat]? = some v) (h : Q v) : wpSub (.ref a) (.int k) σ Q := .inl ⟨_, _, e, h0, h1, e2, h⟩
theorem isin_in {a : Name} {es : List (Int × AV)} {f : Bool} {k : Int} {Q : Bool → Prop} (e : σ a = some (.dict es f)) (h : Q (dget es k).isSome) : wpCmp .isin (.int k) (.ref a) σ Q := ⟨_, _, e, h⟩
theorem notin_in {a : Name} {es : List (Int × AV)} {f : Bool} {k : Int} {Q : Bool → Prop} (e : σ a = some (.dict es f)) (h : Q (!(dget es k).isSome)) : wpCmp .notin (.int k) (.ref a) σ Q := ⟨_, _, e, h⟩
theorem get1_in {a : Name} {es : List (Int × AV)} {f : Bool} {k : Int} {Q : AV → Sto → Prop} (e : σ a = some (.dict es f)) (h : Q ((dget es k).getD .none) σ) : wpMeth .get (.ref a) [.int k] σ Q := ⟨_, _, e, h⟩
theorem get2_in {a : Name} {es : List (Int × AV)} {f : Bool} {k : Int} {w : AV} {Q : AV → Sto → Prop} (e : σ a = some (.dict es f)) (h : Q ((dget es k).getD w) σ) : wpMeth .get (.ref a) [.int k, w] σ Q := ⟨_, _, e, h⟩
theorem app_in {a : Name} {xs : List AV} {x : AV} {Q : AV → Sto → Prop} (e : σ a = some (.list xs)) (hl : xs.length < 65536) (h : Q .none (σ.set a (.list (xs ++ [x])))) : wpMeth .append (.ref a) [x] σ Q := ⟨_, e, hl, h⟩
theorem setsub_in {a : Name} {es : List (Int × AV)} {k : Int} {x : AV} {Q : Sto → Prop} (e : σ a = some (.dict es false)) (hl : es.length < 65536) (h : Q (σ.set a (.dict (dset es k x) false))) : wpSetSub (.ref a) (.int k) x σ Q := ⟨_, e, hl, h⟩
theorem kind_in {a : AV} {k : Bool} {R : Bool → Prop} (e : kindOf a σ = some k) (h : R k) : ∃ k', kindOf a σ = some k' ∧ R k' := ⟨_, e, h⟩
theorem attr_in {v : AV} {a : String} {r : AV} {R : AV → Prop} (e : getsAttr v a σ = some r) (h : R r) : ∃ r', getsAttr v a σ = some r' ∧ R r' := ⟨_, e, h⟩
theorem tru_in {b : Bool} {R : Bool → Prop} (h : R b) : ∃ t, truthy (.bool b) σ = some t ∧ R t := ⟨_, rfl, h⟩
theorem methd_in {a : Name} {es : List (Int × AV)} {f : Bool} {m : Meth} {R : Bool → Prop} (e : σ a = some (.dict es f)) (hm : methOn m false = true) (h : R false) : ∃ k', kindOf (.ref a) σ = some k' ∧ methOn m k' = true ∧ R k' := ⟨_, kind_dict e, hm, h⟩
theorem methl_in {a : Name} {xs : List AV} {m : Meth} {R : Bool → Prop} (e : σ a = some (.list xs)) (hm : methOn m true = true) (h : R true) : ∃ k', kindOf (.ref a) σ = some k' ∧ methOn m k' = true ∧ R k' := ⟨_, kind_list e, hm, h⟩
end
end Gc
end
/- GcC2r -/
section
set_option backward.dsimp.useDefEqAttr false
namespace Gc
section
variable {d : Nat} {b : Sts} {m : Loc} {σ : Sto} {Q : Out → Loc → Sto → Prop}

theorem for_rule' {x : String} {same : Sto → Prop} (I : List AV → Loc → Sto → Prop) (hsame : ∀ r m σ, I r m σ → same σ) (hstep : ∀ v r m σ, I (v :: r) m σ → wpSs (wpFn prg d) b (upd m x v) σ fun o m' σ' => match o with | .next => I r m' σ' | .ret w => Q (.ret w) m' σ')
    (hend : ∀ m σ, I [] m σ → Q .next m σ) {xs : List AV} {m : Loc} {σ : Sto} (h0 : I xs m σ) : forL (fun it m σ Q' => wpSs (wpFn prg d) b (upd m x it) σ Q') same Q xs m σ :=
  ⟨I, h0, hsame, hstep, hend⟩
theorem for_rule {x : String} {same : Sto → Prop} (I : List AV → Loc → Sto → Prop) (hsame : ∀ r m σ, I r m σ → same σ) (hstep : ∀ v r m σ, I (v :: r) m σ → wpSs (wpFn prg d) b (upd m x v) σ fun o m' σ' => match o with | .next => True ∧ I r m' σ' | .ret w => Q (.ret w) m' σ')
    (hend : ∀ m σ, I [] m σ → Q .next m σ) {xs : List AV} {m : Loc} {σ : Sto} (h0 : I xs m σ) : forL (fun it m σ Q' => wpSs (wpFn prg d) b (upd m x it) σ Q') same Q xs m σ :=
  ⟨fun r m σ => True ∧ I r m σ, ⟨trivial, h0⟩, fun r m σ h => hsame r m σ h.2, fun v r m σ h => hstep v r m σ h.2, fun m σ h => hend m σ h.2⟩
theorem forL_nil {step : AV → Loc → Sto → (Out → Loc → Sto → Prop) → Prop} {same : Sto → Prop} (h : same σ) (q : Q .next m σ) : forL step same Q [] m σ := by
  refine ⟨fun r m' σ' => r = [] ∧ m' = m ∧ σ' = σ, ⟨rfl, rfl, rfl⟩, ?_, ?_, ?_⟩
  · rintro _ _ _ ⟨_, _, rfl⟩; exact h
  · rintro _ _ _ _ ⟨e, _⟩; cases e
  · rintro _ _ ⟨_, rfl, rfl⟩; exact q
theorem compL_nil {cond : AV → Sto → (Bool → Sto → Prop) → Prop} {elt : AV → Sto → (AV → Sto → Prop) → Prop} {same : Sto → Prop} {k : Name} {Q : AV → Sto → Prop} {acc : List AV} (h : same σ) (h2 : σ k = some (.list acc)) (q : Q (.ref k) σ) : compL cond elt same k Q [] acc σ := by
  refine ⟨fun r a σ' => r = [] ∧ a = acc ∧ σ' = σ, ⟨rfl, rfl, rfl⟩, ?_, ?_, ?_⟩
  · rintro _ _ _ ⟨_, rfl, rfl⟩; exact ⟨h, h2⟩
  · rintro _ _ _ _ ⟨e, _⟩; cases e
  · rintro _ _ ⟨_, _, rfl⟩; exact q

theorem while_rule {t : Ex} {α : Type} (I : α → Loc → Sto → Prop) (μ : α → Nat)
    (hstep : ∀ a m σ, I a m σ → wpT (wpFn prg d) t m σ fun c σ' => match c with | true => wpL (wpFn prg d) b m σ' (fun o m' σ'' => match o with | .next => True ∧ ∃ a', μ a' < μ a ∧ I a' m' σ'' | .ret w => Q (.ret w) m' σ'') | false => Q .next m σ')
    {a : α} (h : I a m σ) : wpS (wpFn prg d) (.while t b) m σ Q := ⟨α, I, μ, a, h, hstep⟩
end

noncomputable def At {β : Type} (I : List β → List β → Loc → Sto → Prop) (all : List β) (g : β → AV) (r : List AV) (m : Loc) (σ : Sto) : Prop := ∃ pre suf, all = pre ++ suf ∧ r = suf.map g ∧ I pre suf m σ
noncomputable def AtC {β : Type} (I : List β → List β → List AV → Sto → Prop) (all : List β) (g : β → AV) (r acc : List AV) (σ : Sto) : Prop := ∃ pre suf, all = pre ++ suf ∧ r = suf.map g ∧ I pre suf acc σ
section
variable {β : Type} {g : β → AV} {all : List β} {d : Nat} {b : Sts} {m : Loc} {σ : Sto} {Q : Out → Loc → Sto → Prop}
theorem at_snoc {pre suf : List β} {v : β} (e : all = pre ++ v :: suf) : all = (pre ++ [v]) ++ suf := by rw [e, List.append_assoc]; rfl
theorem at_mem {pre suf : List β} {v : β} (e : all = pre ++ v :: suf) : v ∈ all := by rw [e]; exact List.mem_append_right _ (List.mem_cons_self ..)
theorem at_len {pre suf : List β} {v : β} (e : all = pre ++ v :: suf) : pre.length + 1 ≤ all.length := by rw [e, List.length_append, List.length_cons]; exact Nat.add_le_add_left (Nat.succ_le_succ (Nat.zero_le _)) _
theorem at_idx {pre suf : List β} {v : β} (e : all = pre ++ v :: suf) : all[pre.length]? = some v := by
  rw [e, List.getElem?_append_right (Nat.le_refl _), Nat.sub_self]; rfl
theorem for_mapr {x : String} {same : Sto → Prop} (I : List β → List β → Loc → Sto → Prop) (hsame : ∀ pre suf m σ, I pre suf m σ → same σ)
    (hstep : ∀ pre v suf m σ (R : Out → Loc → Sto → Prop), all = pre ++ v :: suf → I pre (v :: suf) m σ → (∀ m' σ', I (pre ++ [v]) suf m' σ' → R .next m' σ') → (∀ w m' σ', Q (.ret w) m' σ' → R (.ret w) m' σ') → wpSs (wpFn prg d) b (upd m x (g v)) σ R)
    (hend : ∀ m σ, I all [] m σ → Q .next m σ) (h0 : I [] all m σ) : forL (fun it m σ Q' => wpSs (wpFn prg d) b (upd m x it) σ Q') same Q (all.map g) m σ := by
  refine ⟨At I all g, ⟨[], all, rfl, rfl, h0⟩, fun r m σ ⟨pre, suf, _, _, h⟩ => hsame pre suf m σ h, fun v r m σ ⟨pre, suf, e, er, h⟩ => ?_, fun m σ ⟨pre, suf, e, er, h⟩ => ?_⟩
  · cases suf with
    | nil => exact nomatch er
    | cons y suf => cases er; exact hstep pre y suf m σ _ e h (fun m' σ' h' => ⟨_, _, at_snoc e, rfl, h'⟩) (fun _ _ _ h => h)
  · cases suf with
    | nil => rw [List.append_nil] at e; subst e; exact hend m σ h
    | cons y suf => exact nomatch er
theorem for_map {x : String} {same : Sto → Prop} (I : List β → List β → Loc → Sto → Prop) (hsame : ∀ pre suf m σ, I pre suf m σ → same σ)
    (hstep : ∀ pre v suf m σ (R : Out → Loc → Sto → Prop), all = pre ++ v :: suf → I pre (v :: suf) m σ → (∀ m' σ', I (pre ++ [v]) suf m' σ' → R .next m' σ') → wpSs (wpFn prg d) b (upd m x (g v)) σ R)
    (hend : ∀ m σ, I all [] m σ → Q .next m σ) (h0 : I [] all m σ) : forL (fun it m σ Q' => wpSs (wpFn prg d) b (upd m x it) σ Q') same Q (all.map g) m σ :=
  for_mapr I hsame (fun pre v suf m σ R e h hR _ => hstep pre v suf m σ R e h hR) hend h0
theorem compAll_map {x : String} {elt : Ex} {same : Sto → Prop} {k : Name} {Q : AV → Sto → Prop} (I : List β → List β → List AV → Sto → Prop) (hsame : ∀ pre suf acc σ, I pre suf acc σ → same σ ∧ σ k = some (.list acc))
    (hstep : ∀ pre v suf acc σ (R : AV → Sto → Prop), all = pre ++ v :: suf → I pre (v :: suf) acc σ → (∀ y σ', σ' k = some (.list acc) → acc.length < lim → I (pre ++ [v]) suf (acc ++ [y]) (σ'.set k (.list (acc ++ [y]))) → R y σ') → wpE (wpFn prg d) elt (upd m x (g v)) σ R)
    (hend : ∀ acc σ, I all [] acc σ → Q (.ref k) σ) {acc : List AV} (h0 : I [] all acc σ) : compL (fun _ τ Q' => Q' true τ) (fun it τ Q' => wpE (wpFn prg d) elt (upd m x it) τ Q') same k Q (all.map g) acc σ := by
  refine ⟨AtC I all g, ⟨[], all, rfl, rfl, h0⟩, fun r acc σ ⟨pre, suf, _, _, h⟩ => hsame pre suf acc σ h, fun v r acc σ ⟨pre, suf, e, er, h⟩ => ?_, fun acc σ ⟨pre, suf, e, er, h⟩ => ?_⟩
  · cases suf with
    | nil => exact nomatch er
    | cons y suf => cases er; exact hstep pre y suf acc σ _ e h fun y σ' h1 h2 h' => ⟨h1, h2, _, _, at_snoc e, rfl, h'⟩
  · cases suf with
    | nil => rw [List.append_nil] at e; subst e; exact hend acc σ h
    | cons y suf => exact nomatch er
theorem comp_map {x : String} {elt cond : Ex} {same : Sto → Prop} {k : Name} {Q : AV → Sto → Prop} (I : List β → List β → List AV → Sto → Prop) (hsame : ∀ pre suf acc σ, I pre suf acc σ → same σ ∧ σ k = some (.list acc))
    (hstep : ∀ pre v suf acc σ (R : Bool → Sto → Prop), all = pre ++ v :: suf → I pre (v :: suf) acc σ → (∀ σ1, wpE (wpFn prg d) elt (upd m x (g v)) σ1 (fun y σ' => σ' k = some (.list acc) ∧ acc.length < lim ∧ I (pre ++ [v]) suf (acc ++ [y]) (σ'.set k (.list (acc ++ [y])))) → R true σ1) → (∀ σ1, I (pre ++ [v]) suf acc σ1 → R false σ1) → wpT (wpFn prg d) cond (upd m x (g v)) σ R)
    (mono : ∀ pre v suf acc σ1, all = pre ++ v :: suf → wpE (wpFn prg d) elt (upd m x (g v)) σ1 (fun y σ' => σ' k = some (.list acc) ∧ acc.length < lim ∧ I (pre ++ [v]) suf (acc ++ [y]) (σ'.set k (.list (acc ++ [y])))) →
      wpE (wpFn prg d) elt (upd m x (g v)) σ1 (fun y σ' => σ' k = some (.list acc) ∧ acc.length < lim ∧ AtC I all g (suf.map g) (acc ++ [y]) (σ'.set k (.list (acc ++ [y])))))
    (hend : ∀ acc σ, I all [] acc σ → Q (.ref k) σ) {acc : List AV} (h0 : I [] all acc σ) : compL (fun it τ Q' => wpT (wpFn prg d) cond (upd m x it) τ Q') (fun it τ Q' => wpE (wpFn prg d) elt (upd m x it) τ Q') same k Q (all.map g) acc σ := by
  refine ⟨AtC I all g, ⟨[], all, rfl, rfl, h0⟩, fun r acc σ ⟨pre, suf, _, _, h⟩ => hsame pre suf acc σ h, fun v r acc σ ⟨pre, suf, e, er, h⟩ => ?_, fun acc σ ⟨pre, suf, e, er, h⟩ => ?_⟩
  · cases suf with
    | nil => exact nomatch er
    | cons y suf => cases er; exact hstep pre y suf acc σ _ e h (fun σ1 h1 => mono pre y suf acc σ1 e h1) (fun σ1 h' => ⟨_, _, at_snoc e, rfl, h'⟩)
  · cases suf with
    | nil => rw [List.append_nil] at e; subst e; exact hend acc σ h
    | cons y suf => exact nomatch er
theorem comp_var {x y : String} {cond : Ex} {same : Sto → Prop} {k : Name} {Q : AV → Sto → Prop} (I : List β → List β → List AV → Sto → Prop) (hsame : ∀ pre suf acc σ, I pre suf acc σ → same σ ∧ σ k = some (.list acc)) (w : β → AV) (hw : ∀ v, upd m x (g v) y = some (w v))
    (hstep : ∀ pre v suf acc σ (R : Bool → Sto → Prop), all = pre ++ v :: suf → I pre (v :: suf) acc σ → (∀ σ1, σ1 k = some (.list acc) → acc.length < lim → I (pre ++ [v]) suf (acc ++ [w v]) (σ1.set k (.list (acc ++ [w v]))) → R true σ1) → (∀ σ1, I (pre ++ [v]) suf acc σ1 → R false σ1) → wpT (wpFn prg d) cond (upd m x (g v)) σ R)
    (hend : ∀ acc σ, I all [] acc σ → Q (.ref k) σ) {acc : List AV} (h0 : I [] all acc σ) : compL (fun it τ Q' => wpT (wpFn prg d) cond (upd m x it) τ Q') (fun it τ Q' => wpE (wpFn prg d) (.var y) (upd m x it) τ Q') same k Q (all.map g) acc σ := by
  refine comp_map I hsame (fun pre v suf acc σ R e h h1 h2 => hstep pre v suf acc σ R e h (fun σ1 a b c => h1 σ1 ?_) h2) (fun pre v suf acc σ1 e h => ?_) hend h0
  · rw [wE2, hw]; exact ⟨a, b, c⟩
  · rw [wE2, hw] at h ⊢; exact ⟨h.1, h.2.1, _, _, at_snoc e, rfl, h.2.2⟩
theorem for_var {x y : String} {t : Nat} (hm : m y = some (.ref (.tmp t))) (e : σ (.tmp t) = some (.list (all.map g))) (I : List β → List β → Loc → Sto → Prop) (h0 : I [] all m σ) (hsame : ∀ pre suf m τ, I pre suf m τ → τ (.tmp t) = some (.list (all.map g)))
    (hstep : ∀ pre v suf m τ (R : Out → Loc → Sto → Prop), all = pre ++ v :: suf → I pre (v :: suf) m τ → (∀ m' τ', I (pre ++ [v]) suf m' τ' → R .next m' τ') → wpSs (wpFn prg d) b (upd m x (g v)) τ R)
    (hend : ∀ m τ, I all [] m τ → Q .next m τ) : wpS (wpFn prg d) (.forr x (.var y) b) m σ Q := by
  have ef : frz (.ref (.tmp t)) σ = σ := by unfold frz; dsimp only; rw [e]
  have eu : (fun o m' τ => Q o m' (unfrz (.ref (.tmp t)) σ τ)) = Q := by
    funext o m' τ; unfold unfrz; dsimp only; rw [e]
  rw [wS14, src_var, wpE_var]
  refine ⟨_, hm, all.map g, by unfold itemsOf; dsimp only; rw [e], ?_⟩
  rw [ef, eu]
  exact for_map I (fun pre suf m τ h => (hsame pre suf m τ h).trans e.symm) hstep hend h0
theorem while_r {t : Ex} {α : Type} (I : α → Loc → Sto → Prop) (μ : α → Nat)
    (hstep : ∀ a m σ (R : Out → Loc → Sto → Prop), I a m σ → (∀ a' m' σ', μ a' < μ a → I a' m' σ' → R .next m' σ') → wpT (wpFn prg d) t m σ fun c σ' => match c with | true => wpL (wpFn prg d) b m σ' R | false => Q .next m σ')
    {a : α} (h : I a m σ) : wpS (wpFn prg d) (.while t b) m σ Q :=
  while_rule I μ (fun a m σ h => hstep a m σ _ h fun a' m' σ' h1 h2 => ⟨trivial, a', h1, h2⟩) h
end

theorem compAll_rule {d : Nat} {x : String} {elt : Ex} {m : Loc} {same : Sto → Prop} {k : Name} {Q : AV → Sto → Prop} (I : List AV → List AV → Sto → Prop) (hsame : ∀ r acc σ, I r acc σ → same σ ∧ σ k = some (.list acc))
    (hstep : ∀ v r acc σ, I (v :: r) acc σ → wpE (wpFn prg d) elt (upd m x v) σ fun y σ' => σ' k = some (.list acc) ∧ acc.length < lim ∧ I r (acc ++ [y]) (σ'.set k (.list (acc ++ [y])))) (hend : ∀ acc σ, I [] acc σ → Q (.ref k) σ)
    {xs acc σ} (h0 : I xs acc σ) : compL (fun _ τ Q' => Q' true τ) (fun it τ Q' => wpE (wpFn prg d) elt (upd m x it) τ Q') same k Q xs acc σ := ⟨I, h0, hsame, hstep, hend⟩
theorem comp_rule {d : Nat} {x : String} {elt cond : Ex} {m : Loc} {same : Sto → Prop} {k : Name} {Q : AV → Sto → Prop} (I : List AV → List AV → Sto → Prop) (hsame : ∀ r acc σ, I r acc σ → same σ ∧ σ k = some (.list acc))
    (hstep : ∀ v r acc σ, I (v :: r) acc σ → wpT (wpFn prg d) cond (upd m x v) σ fun c σ1 => match c with
      | true => wpE (wpFn prg d) elt (upd m x v) σ1 fun y σ' => σ' k = some (.list acc) ∧ acc.length < lim ∧ I r (acc ++ [y]) (σ'.set k (.list (acc ++ [y])))
      | false => I r acc σ1) (hend : ∀ acc σ, I [] acc σ → Q (.ref k) σ)
    {xs acc σ} (h0 : I xs acc σ) : compL (fun it τ Q' => wpT (wpFn prg d) cond (upd m x it) τ Q') (fun it τ Q' => wpE (wpFn prg d) elt (upd m x it) τ Q') same k Q xs acc σ := ⟨I, h0, hsame, hstep, hend⟩
end Gc
end
/- GcC3 -/
section
set_option backward.dsimp.useDefEqAttr false
namespace Gc
noncomputable def HS.isRef (H : HS) : Val → Bool
  | .cell n => decide (n ∈ H.keys) && (H.cell n).sort == .ref
  | .int _ => false
noncomputable def HS.inner (H : HS) (v : Val) : Val := if H.isRef v then (match v with | .cell n => (vget (H.cell n).slots 0).getD (.int 0) | v => v) else v
noncomputable def HS.valOf (H : HS) (x : Int) : Val := H.inner ((vget H.vars x).getD (.int 0))
noncomputable def HS.gain (H : HS) : Val → HS
  | .cell n => if n ∈ H.keys then H.setC n { H.cell n with count := (H.cell n).count + 1 } else H
  | .int _ => H
noncomputable def HS.RefOk (H : HS) : Prop := ∀ n ∈ H.keys, (H.cell n).sort = .ref → ∃ w, (H.cell n).slots = [(0, w)]

section
variable {i : Nat} {fz : Int → Bool} {H : HS} {σ : Sto} {d : Nat} {Q : AV → Sto → Prop}

theorem c_cell_of {v : Val} (h : Holds i fz H σ) (hQ : Q (match v with | .int _ => .none | .cell n => if n ∈ H.keys then cr i n else .none) σ) : wpFn prg (d + 1) "cell_of" [hp i, v.av] σ Q := by
  refine fn_intro rfl rfl ?_
  simp? only [d_cell_of]
  cases v with
  | int k => exact sub0_in (eqs_f (by decide) hQ)
  | cell n =>
    refine sub0_in (eqs_t (attr_in h.aCells (methd_in h.cells rfl (sub1_in ⟨kind_dict h.cells, get1_in h.cells ?_⟩))))
    by_cases q : n ∈ H.keys
    · rw [dget_keys q]; dsimp only at hQ; rw [if_pos q] at hQ; exact hQ
    · rw [dget_keys_none q]; dsimp only at hQ; rw [if_neg q] at hQ; exact hQ

theorem c_is_ref {v : Val} (h : Holds i fz H σ) (hQ : Q (.bool (H.isRef v)) σ) : wpFn prg (d + 2) "is_ref" [hp i, v.av] σ Q := by
  refine fn_intro rfl rfl ?_
  simp? only [d_is_ref]
  refine c_cell_of h ?_
  refine nx ?_
  simp? only []
  cases v with
  | int k => exact ⟨_, rfl, hQ⟩
  | cell n =>
    by_cases q : n ∈ H.keys
    · simp only [if_pos q]
      refine ⟨true, rfl, attr_in (h.cSort q) ?_⟩
      simp only [HS.isRef, q, decide_true, Bool.true_and] at hQ
      cases hs : (H.cell n).sort <;> rw [hs] at hQ <;> exact hQ
    · simp only [if_neg q]
      refine ⟨false, rfl, ?_⟩
      simp only [HS.isRef, q, decide_false, Bool.false_and] at hQ
      exact hQ

theorem isRef_cell {n : Int} (q : H.isRef (.cell n) = true) : n ∈ H.keys ∧ (H.cell n).sort = .ref := by
  simpa [HS.isRef] using q

theorem c_inner {v : Val} (h : Holds i fz H σ) (hr : H.RefOk) (hQ : Q (H.inner v).av σ) : wpFn prg (d + 3) "inner" [hp i, v.av] σ Q := by
  refine fn_intro rfl rfl ?_
  simp? only [d_inner]
  refine c_is_ref h (tru_in ?_)
  unfold HS.inner at hQ
  cases q : H.isRef v with
  | false => rw [q] at hQ; exact hQ
  | true =>
    rw [q, if_pos rfl] at hQ
    cases v with
    | int k => exact Bool.noConfusion q
    | cell n =>
      obtain ⟨w, hw⟩ := hr n (isRef_cell q).1 (isRef_cell q).2
      refine attr_in h.aCells (sub1_in (subd_in h.cells (dget_keys (isRef_cell q).1) (attr_in (h.cSlots (isRef_cell q).1) (subd_in (v := w.av) (h.slots n (isRef_cell q).1) (by rw [hw]; rfl) ?_))))
      dsimp only at hQ
      rw [hw] at hQ
      exact hQ

theorem c_value_of {x : Int} (h : Holds i fz H σ) (hr : H.RefOk) (hQ : Q (H.valOf x).av σ) : wpFn prg (d + 4) "value_of" [hp i, .int x] σ Q := by
  refine fn_intro rfl rfl ?_
  simp? only [d_value_of]
  refine attr_in h.aVars (methd_in h.vars rfl ⟨kind_dict h.vars, get2_in h.vars ?_⟩)
  rw [dget_av]
  have e : ((vget H.vars x).map Val.av).getD (AV.tup [AV.str "int", AV.int 0]) = ((vget H.vars x).getD (.int 0)).av := by
    cases vget H.vars x <;> rfl
  rw [e]
  exact c_inner h hr hQ

theorem sa_count {n : Int} {x : Int} {P : Sto → Prop} (h : Holds i fz H σ) (hn : n ∈ H.keys) : wpSetAttr (cr i n) "count" (.int x) σ P ↔ P (σ.set (.obj i (.cell n)) (cAO i n { H.cell n with count := x })) := by
  constructor
  · rintro ⟨c, fs, e, _, _, p⟩
    rw [h.cell n hn] at e
    cases e; exact p
  · intro p
    exact ⟨_, _, h.cell n hn, by decide, by simp, p⟩
theorem sa_colour {n : Int} {c : Col} {P : Sto → Prop} (h : Holds i fz H σ) (hn : n ∈ H.keys) : wpSetAttr (cr i n) "colour" (.str c.s) σ P ↔ P (σ.set (.obj i (.cell n)) (cAO i n { H.cell n with col := c })) := by
  constructor
  · rintro ⟨c, fs, e, _, _, p⟩
    rw [h.cell n hn] at e
    cases e; exact p
  · intro p
    exact ⟨_, _, h.cell n hn, by decide, by simp, p⟩
theorem sa_bufd {n : Int} {b : Bool} {P : Sto → Prop} (h : Holds i fz H σ) (hn : n ∈ H.keys) : wpSetAttr (cr i n) "is_buffered" (.bool b) σ P ↔ P (σ.set (.obj i (.cell n)) (cAO i n { H.cell n with bufd := b })) := by
  constructor
  · rintro ⟨c, fs, e, _, _, p⟩
    rw [h.cell n hn] at e
    cases e; exact p
  · intro p
    exact ⟨_, _, h.cell n hn, by decide, by simp, p⟩

theorem c_gain {v : Val} (h : Holds i fz H σ) (hQ : ∀ σ', Holds i fz (H.gain v) σ' → Fr (Own i) σ σ' → Q v.av σ') : wpFn prg (d + 2) "gain" [hp i, v.av] σ Q := by
  refine fn_intro rfl rfl ?_
  simp? only [d_gain]
  refine c_cell_of h ?_
  refine nx ?_
  simp? only []
  cases v with
  | int k =>
    refine nx ?_
    simp? only []
    exact hQ σ h .refl
  | cell n =>
    by_cases q : n ∈ H.keys
    · simp only [if_pos q]
      refine nx ?_
      simp? only []
      refine attr_in (h.cCount q) ⟨_, _, rfl, rfl, (sa_count h q).mpr ?_⟩
      refine hQ _ ?_ (.set ⟨_, rfl⟩)
      unfold HS.gain
      dsimp only
      rw [if_pos q]
      exact h.setCell q rfl
    · simp only [if_neg q]
      refine nx ?_
      simp? only []
      refine hQ σ ?_ .refl
      unfold HS.gain
      dsimp only
      rw [if_neg q]
      exact h
end
end Gc
end
/- GcC4 -/
section
set_option backward.dsimp.useDefEqAttr false
namespace Gc
noncomputable abbrev NF : Int → Bool := fun _ => false
noncomputable def olds (l : List (Int × Val)) (k : Int) : List Val := match vget l k with | some o => [o] | none => []
noncomputable def HS.setVar (H : HS) (x : Int) (v : Val) : HS := { H with vars := vset H.vars x v }
noncomputable def HS.setSl (H : HS) (n k : Int) (v : Val) : HS := H.setC n { H.cell n with slots := vset (H.cell n).slots k v }
noncomputable def HS.wr (H : HS) (x : Int) (v : Val) : HS × List Val := match vget H.vars x with
  | some (.cell n) => if H.isRef (.cell n) then (H.setSl n 0 v, olds (H.cell n).slots 0) else (H.setVar x v, [.cell n])
  | some (.int k) => (H.setVar x v, [.int k])
  | none => (H.setVar x v, [])

noncomputable def Ret (i : Nat) (σ : Sto) (Q : AV → Sto → Prop) (H' : HS) (ls : List Val) : Prop :=
  ∀ t σ', Holds i NF H' σ' → Fr (Own i) σ σ' → σ' (.tmp t) = some (.list (ls.map Val.av)) → Q (.ref (.tmp t)) σ'

section
variable {i : Nat} {fz : Int → Bool} {H : HS} {σ : Sto} {d : Nat} {Q : AV → Sto → Prop}

theorem c_replaced {a : Name} {l : List (Int × Val)} {k : Int} {v : Val} (e : σ a = some (.dict (ents l) false)) (hl : l.length < 60000)
    (hQ : ∀ t, σ (.tmp t) = none → Q (.ref (.tmp t)) ((σ.set (.tmp t) (.list ((olds l k).map Val.av))).set a (.dict (ents (vset l k v)) false))) : wpFn prg (d + 1) "replaced" [.ref a, .int k, v.av] σ Q := by
  refine fn_intro rfl rfl ?_
  dsimp? only [d_replaced]
  rw [in_dict e, dget_av]
  have na : ∀ t, σ (.tmp t) = none → a ≠ .tmp t := fun t ht q => by rw [q, ht] at e; cases e
  have fin : ∀ t, σ (.tmp t) = none → ∀ l', l' = (olds l k).map Val.av → wpSetSub (.ref a) (.int k) v.av (σ.set (.tmp t) (.list l')) fun τ => Q (.ref (.tmp t)) τ := by
    intro t ht l' hl'
    rw [setsub_dict ((set_ne (na t ht)).trans e) (by rw [ents_length]; lia), dset_av, hl']
    exact hQ t ht
  cases q : vget l k with
  | none =>
    simp only [Option.map_none, Option.isSome_none, Out.val]
    exact .inl fun t ht => fin t ht _ (by simp [olds, q])
  | some o =>
    simp only [Option.map_some, Option.isSome_some, Out.val]
    refine subd_in e (by rw [dget_av, q]; rfl) ?_
    exact .inl fun t ht => fin t ht _ (by simp [olds, q])

theorem c_taken_out {a : Name} {l : List (Int × Val)} {k : Int} (e : σ a = some (.dict (ents l) false))
    (hQ : ∀ t, σ (.tmp t) = none → Q (.ref (.tmp t)) (Sto.set (if (vget l k).isSome then σ.set a (.dict (ents (vdel l k)) false) else σ) (.tmp t) (.list ((olds l k).map Val.av)))) : wpFn prg (d + 1) "taken_out" [.ref a, .int k] σ Q := by
  refine fn_intro rfl rfl ?_
  dsimp? only [d_taken_out]
  rw [in_dict e, dget_av]
  cases q : vget l k with
  | none =>
    simp only [Option.map_none, Option.isSome_none, Out.val]
    refine .inl fun t ht => ?_
    have := hQ t ht
    simpa [q, olds] using this
  | some o =>
    simp only [Option.map_some, Option.isSome_some, Out.val]
    refine kind_in (kind_dict e) ?_
    refine ⟨rfl, kind_dict e, ?_⟩
    rw [pop_dict e (by rw [dget_av, q]; rfl), ddel_av]
    refine .inl fun t ht => ?_
    have ht' : σ (.tmp t) = none := by
      by_cases q : a = .tmp t
      · subst q; rw [set_same] at ht; cases ht
      · rwa [set_ne (fun w => q w.symm)] at ht
    have := hQ t ht'
    simpa [q, olds] using this

theorem c_written_vars {x : Int} {v : Val} (h : Holds i NF H σ) (hr : H.RefOk) (hl : H.vars.length < 60000) (hQ : Ret i σ Q (H.wr x v).1 (H.wr x v).2) : wpFn prg (d + 3) "written" [hp i, .ref (.obj i .vars), .int x, v.av] σ Q := by
  have plain : ∀ ls, (H.wr x v) = (H.setVar x v, ls) → olds H.vars x = ls → wpFn prg (d + 2) "replaced" [.ref (.obj i .vars), .int x, v.av] σ Q := by
    intro ls e1 e2
    refine c_replaced (d := d + 1) h.vars hl fun t ht => hQ t _ ?_ ((Fr.tmp ht).trans (.set ⟨_, rfl⟩)) ?_
    · rw [e1]; exact h.tmp.setVars _
    · rw [set_ne (by simp), set_same, e1, e2]
  refine fn_intro rfl rfl ?_
  dsimp? only [d_written]
  rw [in_dict h.vars, dget_av]
  cases q : vget H.vars x with
  | none =>
    simp only [Option.map_none, Option.isSome_none, Out.val]
    exact plain [] (by simp [HS.wr, q]) (by simp [olds, q])
  | some o =>
    simp only [Option.map_some, Option.isSome_some, Out.val]
    have ed : dget (ents H.vars) x = some o.av := by rw [dget_av, q]; rfl
    refine subd_in h.vars ed ?_
    refine c_is_ref h ?_
    refine tru_in ?_
    cases o with
    | int k =>
      simp only [HS.isRef]
      exact plain [.int k] (by simp [HS.wr, q]) (by simp [olds, q])
    | cell n =>
      cases qr : H.isRef (.cell n) with
      | false => exact plain [.cell n] (by simp [HS.wr, q, qr]) (by simp [olds, q])
      | true =>
        have q2 := qr
        simp [HS.isRef] at q2
        obtain ⟨w, hw⟩ := hr n q2.1 q2.2
        simp only [attr_ex h.aCells, sub_dict h.vars ed, av_cell, sub_tup1, sub_dict h.cells (dget_keys q2.1), attr_ex (h.cSlots q2.1)]
        have e1 : H.wr x v = (H.setSl n 0 v, olds (H.cell n).slots 0) := by simp [HS.wr, q, qr]
        refine c_replaced (d := d + 1) (h.slots n q2.1) (by rw [hw]; simp) fun t ht => hQ t _ ?_ ((Fr.tmp ht).trans (.set ⟨_, rfl⟩)) ?_
        · rw [e1]; exact h.tmp.setSlots q2.1 _
        · rw [set_ne (by simp), set_same, e1]

theorem c_written_slots {n k : Int} {v : Val} (h : Holds i NF H σ) (hn : n ∈ H.keys) (hl : (H.cell n).slots.length < 60000) (hno : ∀ o, vget (H.cell n).slots k = some o → H.isRef o = false)
    (hQ : Ret i σ Q (H.setSl n k v) (olds (H.cell n).slots k)) : wpFn prg (d + 3) "written" [hp i, .ref (.obj i (.slots n)), .int k, v.av] σ Q := by
  have plain : wpFn prg (d + 2) "replaced" [.ref (.obj i (.slots n)), .int k, v.av] σ Q := by
    refine c_replaced (d := d + 1) (h.slots n hn) hl fun t ht => hQ t _ ?_ ((Fr.tmp ht).trans (.set ⟨_, rfl⟩)) ?_
    · exact h.tmp.setSlots hn _
    · rw [set_ne (by simp), set_same]
  refine fn_intro rfl rfl ?_
  dsimp? only [d_written]
  rw [in_dict (h.slots n hn), dget_av]
  cases q : vget (H.cell n).slots k with
  | none =>
    simp only [Option.map_none, Option.isSome_none, Out.val]
    exact plain
  | some o =>
    simp only [Option.map_some, Option.isSome_some, Out.val]
    refine subd_in (h.slots n hn) (by rw [dget_av, q]; rfl) ?_
    refine c_is_ref h ?_
    rw [tru_b, hno o q]
    exact plain
end
end Gc
end
/- GcC5 -/
section
set_option backward.dsimp.useDefEqAttr false
namespace Gc
section
variable {i : Nat} {fz : Int → Bool} {H : HS} {σ : Sto} {d : Nat} {Q : AV → Sto → Prop}

theorem sa_gen {a : Name} {c : String} {fs : List (String × AV)} {x : String} {v : AV} {P : Sto → Prop} (e : σ a = some (.inst c fs)) (hx : x ∈ attrsOf c) (hl : fs.length < 100) : wpSetAttr (.ref a) x v σ P ↔ P (σ.set a (.inst c (fset fs x v))) := by
  constructor
  · rintro ⟨c', fs', e', _, _, p⟩
    rw [e] at e'; cases e'; exact p
  · intro p; exact ⟨_, _, e, hx, hl, p⟩
theorem sa_cell {a : Name} {fs : List (String × AV)} {x : String} {v : AV} {P : Sto → Prop} (hx : x ∈ attrsOf "Cell") (hl : fs.length < 100) : wpSetAttr (.ref a) x v (σ.set a (.inst "Cell" fs)) P ↔ P (σ.set a (.inst "Cell" (fset fs x v))) := by
  rw [sa_gen set_same hx hl]
  have : (σ.set a (.inst "Cell" fs)).set a (.inst "Cell" (fset fs x v)) = σ.set a (.inst "Cell" (fset fs x v)) := by
    funext b
    unfold Sto.set
    by_cases q : b = a
    · rw [if_pos q, if_pos q]
    · rw [if_neg q, if_neg q, if_neg q]
  rw [this]
theorem set_comm {a b : Name} {o p : AO} (h : a ≠ b) : (σ.set a o).set b p = (σ.set b p).set a o := by
  funext c
  simp only [Sto.set]
  by_cases q : c = a
  · subst q; simp [h]
  · simp [q]
theorem gain_vars (H : HS) (v : Val) : (H.gain v).vars = H.vars := by
  cases v with
  | int k => rfl
  | cell n => unfold HS.gain; simp only; split <;> rfl
theorem gain_keys (H : HS) (v : Val) : (H.gain v).keys = H.keys := by
  cases v with
  | int k => rfl
  | cell n => unfold HS.gain; simp only; split <;> rfl
theorem gain_last (H : HS) (v : Val) : (H.gain v).last = H.last := by
  cases v with
  | int k => rfl
  | cell n => unfold HS.gain; simp only; split <;> rfl
theorem gain_cell (H : HS) (v : Val) (n : Int) : ((H.gain v).cell n).slots = (H.cell n).slots ∧ ((H.gain v).cell n).sort = (H.cell n).sort := by
  cases v with
  | int k => exact ⟨rfl, rfl⟩
  | cell m =>
    unfold HS.gain; simp only; split
    · by_cases q : n = m
      · subst q; rw [HS.setC_same]; exact ⟨rfl, rfl⟩
      · rw [HS.setC_ne _ _ q]; exact ⟨rfl, rfl⟩
    · exact ⟨rfl, rfl⟩

theorem c_Cell {n : Int} {s : Srt} (e : σ (.obj i (.cell n)) = some (.inst "Cell" [])) (e2 : σ (.obj i (.slots n)) = none)
    (hQ : ∀ σ', σ' (.obj i (.cell n)) = some (cAO i n ⟨s, 0, [], .black, false⟩) → σ' (.obj i (.slots n)) = some (.dict [] false) → (∀ a, a ≠ .obj i (.cell n) → a ≠ .obj i (.slots n) → σ' a = σ a) → Q .none σ') :
    wpFn prg (d + 1) "Cell.__init__" [cr i n, .str s.s, .int n] σ Q := by
  refine fn_intro rfl rfl ?_
  dsimp? only [d_Cell_init]
  rw [sa_gen e (by decide) (by simp)]
  repeat rw [sa_cell (by decide) (by simp [fset])]
  refine .inr ⟨i, .slots n, ?_, ?_⟩
  · rw [set_ne (by simp)]; exact e2
  · rw [set_comm (by simp)]
    dsimp only
    repeat rw [sa_cell (by decide) (by simp [fset])]
    simp only [Out.val]
    refine hQ _ ?_ ?_ ?_
    · rw [set_same]; rfl
    · rw [set_ne (by simp), set_same]
    · intro a h1 h2
      rw [set_ne h1, set_ne h2]

theorem dset_new (ks : List Int) (n : Int) (h : n ∉ ks) : dset (ks.map fun n => (n, cr i n)) n (cr i n) = (ks ++ [n]).map fun n => (n, cr i n) := by
  unfold dset
  have : (ks.map fun n => (n, cr i n)).any (fun p => decide (p.1 = n)) = false := by
    rw [List.any_eq_false]
    intro p hp
    obtain ⟨k, hk, rfl⟩ := List.mem_map.mp hp
    simp only [decide_eq_true_eq]
    rintro rfl
    exact h hk
  rw [this]; simp

theorem c_new_cell {s : Srt} (h : Holds i fz H σ) (hf : fz (H.last + 1) = false) (hl : H.keys.length < 60000) (hQ : ∀ σ', Holds i fz (H.addC s) σ' → Fr (Own i) σ σ' → Q (Val.cell (H.last + 1)).av σ') : wpFn prg (d + 2) "new_cell" [hp i, .str s.s] σ Q := by
  refine fn_intro rfl rfl ?_
  dsimp? only [d_new_cell]
  have hnk : H.last + 1 ∉ H.keys := fun q => by have := h.top _ q; lia
  have hnc := h.newc (H.last + 1) (by lia)
  refine attr_in h.aLast ?_
  refine ⟨H.last, 1, rfl, rfl, ?_⟩
  simp only [bin_add, bin_sub, bin_mod, bin_fdiv]
  rw [sa_gen h.heap (by decide) (by simp)]
  have e1 : (σ.set (.obj i .heap) (.inst "Counted" (fset [("cells", .ref (.obj i .cells)), ("vars", .ref (.obj i .vars)), ("log", .ref (.obj i .log)), ("last", .int H.last), ("buffer", .ref (.obj i (.buf H.ep))), ("full", .int H.full),
    ("freed", .int H.freed), ("plan", .ref (.obj i .plan)), ("tables", .ref (.obj i .tables))] "last" (.int (H.last + 1))))) = σ.set (.obj i .heap) (hAO i { H with last := H.last + 1 }) := rfl
  rw [e1]
  have h1 : Holds i fz { H with last := H.last + 1 } (σ.set (.obj i .heap) (hAO i { H with last := H.last + 1 })) := h.setHeap (H.last + 1) H.freed (by lia)
  refine attr_in h1.aLast ?_
  refine .inr ⟨i, .cell (H.last + 1), (set_ne (by simp)).trans hnc.1, ?_⟩
  refine c_Cell set_same (by rw [set_ne (by simp), set_ne (by simp)]; exact hnc.2) fun σ2 f1 f2 f3 => ⟨rfl, ?_⟩
  have k3 : ∀ t, t ≠ .cell (H.last + 1) → t ≠ .slots (H.last + 1) → σ2 (.obj i t) = (σ.set (.obj i .heap) (hAO i { H with last := H.last + 1 })) (.obj i t) := fun t q1 q2 => by
    rw [f3 _ (by simpa using q1) (by simpa using q2), set_ne (by simpa using q1)]
  have a1 : getsAttr (hp i) "cells" σ2 = some (.ref (.obj i .cells)) := by
    unfold getsAttr; simp only [k3 .heap (by simp) (by simp), set_same, hAO]; rfl
  have a2 : getsAttr (hp i) "last" σ2 = some (.int (H.last + 1)) := by
    unfold getsAttr; simp only [k3 .heap (by simp) (by simp), set_same, hAO]; rfl
  refine attr_in a1 ?_; refine attr_in a2 ?_
  have c2 : σ2 (.obj i .cells) = some (.dict (H.keys.map fun n => (n, cr i n)) false) := by rw [k3 _ (by simp) (by simp)]; exact h1.cells
  rw [setsub_dict c2 (by rw [List.length_map]; lia), dset_new _ _ hnk]
  have a3 : getsAttr (hp i) "last" (σ2.set (.obj i .cells) (.dict ((H.keys ++ [H.last + 1]).map fun n => (n, cr i n)) false)) = some (.int (H.last + 1)) := by
    unfold getsAttr; simp only [set_ne (show Name.obj i Tag.heap ≠ .obj i .cells by simp), k3 .heap (by simp) (by simp), set_same, hAO]; rfl
  refine attr_in a3 ?_
  simp only [Out.val]
  refine hQ _ ?_ ?_
  · refine h.added ?_ set_same ?_ ?_ hf ?_
    · rw [set_ne (by simp), k3 _ (by simp) (by simp), set_same]
    · rw [set_ne (by simp)]; exact f1
    · rw [set_ne (by simp)]; exact f2
    · intro t q1 q2 q3 q4
      rw [set_ne (by simpa using q2), k3 _ q3 q4, set_ne (by simpa using q1)]
  · intro a ha hb
    have ne : ∀ t, a ≠ .obj i t := fun t q => ha ⟨t, q⟩
    rw [set_ne (ne _), f3 _ (ne _) (ne _), set_ne (ne _), set_ne (ne _)]

noncomputable def HS.refIn (H : HS) (x : Int) : HS × Val := if H.isRef ((vget H.vars x).getD (.int 0)) then (H, (vget H.vars x).getD (.int 0)) else
  ((((H.addC .ref).setSl (H.last + 1) 0 ((vget H.vars x).getD (.int 0))).gain (.cell (H.last + 1))).setVar x (.cell (H.last + 1)), .cell (H.last + 1))

theorem c_ref_in {x : Int} (h : Holds i NF H σ) (hl : H.keys.length < 60000) (hv : H.vars.length < 60000) (hQ : ∀ σ', Holds i NF (H.refIn x).1 σ' → Fr (Own i) σ σ' → Q (H.refIn x).2.av σ') : wpFn prg (d + 3) "ref_in" [hp i, .ref (.obj i .vars), .int x] σ Q := by
  refine fn_intro rfl rfl ?_
  dsimp? only [d_ref_in]
  refine kind_in (kind_dict h.vars) ?_
  refine ⟨rfl, kind_dict h.vars, ?_⟩
  rw [get2_dict h.vars, dget_av]
  have e : ((vget H.vars x).map Val.av).getD (AV.tup [AV.str "int", AV.int 0]) = ((vget H.vars x).getD (.int 0)).av := by
    cases vget H.vars x <;> rfl
  rw [e]
  refine c_is_ref h ?_
  refine tru_in ?_
  cases q : H.isRef ((vget H.vars x).getD (.int 0)) with
  | true =>
    simp only [Out.val]
    have := hQ σ
    simp only [HS.refIn, q, if_true] at this
    exact this h .refl
  | false =>
    simp only
    refine c_new_cell (d := d) (s := .ref) h rfl hl fun σ1 h1 f1 => ?_
    have hk : H.last + 1 ∈ (H.addC .ref).keys := by simp [HS.addC]
    have hc : ((H.addC .ref).cell (H.last + 1)).slots = [] := by simp [HS.addC]
    simp only [av_cell, attr_ex h1.aCells, sub_tup1, sub_dict h1.cells (dget_keys hk), attr_ex (h1.cSlots hk)]
    rw [setsub_dict (h1.slots _ hk) (by rw [hc]; simp [ents]), dset_av]
    have h2 := h1.setSlots hk (vset ((H.addC .ref).cell (H.last + 1)).slots 0 ((vget H.vars x).getD (.int 0)))
    have a2 := c_gain (d := d) (v := .cell (H.last + 1)) (Q := fun r τ => wpSetSub (.ref (.obj i .vars)) (.int x) r τ fun τ' => Q (AV.tup [AV.str "cell", AV.int (H.last + 1)]) τ') h2
    rw [av_cell] at a2
    refine a2 fun σ3 h3 f3 => ?_
    have hv3 := gain_vars ((H.addC .ref).setC (H.last + 1) { (H.addC .ref).cell (H.last + 1) with slots := vset ((H.addC .ref).cell (H.last + 1)).slots 0 ((vget H.vars x).getD (.int 0)) }) (.cell (H.last + 1))
    have hv4 := h3.vars
    rw [hv3] at hv4
    have hv5 : ((H.addC .ref).setC (H.last + 1) { (H.addC .ref).cell (H.last + 1) with slots := vset ((H.addC .ref).cell (H.last + 1)).slots 0 ((vget H.vars x).getD (.int 0)) }).vars = H.vars := rfl
    rw [hv5] at hv4
    rw [setsub_dict hv4 (by rw [ents_length]; lia), show AV.tup [AV.str "cell", AV.int (H.last + 1)] = (Val.cell (H.last + 1)).av from rfl, dset_av]
    have h4 := h3.setVars (vset H.vars x (.cell (H.last + 1)))
    have := hQ (σ3.set (.obj i .vars) (.dict (ents (vset H.vars x (.cell (H.last + 1)))) false))
    simp only [HS.refIn, q, if_false, Bool.false_eq_true] at this
    refine this ?_ (f1.trans ((Fr.set ⟨_, rfl⟩).trans (f3.trans (.set ⟨_, rfl⟩))))
    unfold HS.setVar
    have e6 : ((H.addC .ref).setSl (H.last + 1) 0 ((vget H.vars x).getD (.int 0))).gain (.cell (H.last + 1)) = ((H.addC .ref).setC (H.last + 1) { (H.addC .ref).cell (H.last + 1) with slots := vset ((H.addC .ref).cell (H.last + 1)).slots 0 ((vget H.vars x).getD (.int 0)) }).gain (.cell (H.last + 1)) := rfl
    rw [e6, hv3, hv5]
    exact h4
end
end Gc
end
/- GcC6 -/
section
set_option backward.dsimp.useDefEqAttr false
namespace Gc
section
variable {i : Nat} {fz : Int → Bool} {H : HS} {σ : Sto} {d : Nat} {Q : AV → Sto → Prop}

theorem for_slots {n : Int} {b : Sts} {x c : String} {m : Loc} {Q : Out → Loc → Sto → Prop} (h : Holds i fz H σ) (hn : n ∈ H.keys) (hm : m c = some (cr i n)) (I : List (Int × Val) → Loc → Sto → Prop)
    (h0 : I (H.cell n).slots m (σ.set (.obj i (.slots n)) (.dict (ents (H.cell n).slots) true)))
    (hsame : ∀ r m τ, I r m τ → τ (.obj i (.slots n)) = some (.dict (ents (H.cell n).slots) true))
    (hstep : ∀ p r m τ, I (p :: r) m τ → wpSs (wpFn prg d) b (upd m x (.int p.1)) τ fun o m' τ' => match o with | .next => True ∧ ∃ r', r.map (fun p => AV.int p.1) = r'.map (fun p => AV.int p.1) ∧ I r' m' τ' | .ret w => Q (.ret w) m' (unfrz (.ref (.obj i (.slots n))) σ τ'))
    (hend : ∀ m τ, I [] m τ → Q .next m (τ.set (.obj i (.slots n)) (.dict (ents (H.cell n).slots) (fz n)))) : wpS (wpFn prg d) (.forr x (.attr (.var c) "slots") b) m σ Q := by
  rw [wS14]
  rw [src_attr]
  simp only [wE1, wE2, wE3, wE4, wE5, wE6, wE7, wE8, wE9, wE10, wE11, wE12, wE13, wE14, wE15, wE16, wE17, wE18, wE19, wE20, wE21, hm, Option.some.injEq, exists_eq_left', vcase_some, String.reduceBEq, cond_true, cond_false]
  refine attr_in (h.cSlots hn) ?_
  have e := h.slots n hn
  refine ⟨(H.cell n).slots.map fun p => .int p.1, by simp [itemsOf, e, ents], ?_⟩
  have ef : frz (.ref (.obj i (.slots n))) σ = σ.set (.obj i (.slots n)) (.dict (ents (H.cell n).slots) true) := by simp [frz, e]
  have eu : ∀ τ, unfrz (.ref (.obj i (.slots n))) σ τ = τ.set (.obj i (.slots n)) (.dict (ents (H.cell n).slots) (fz n)) := fun τ => by simp [unfrz, e]
  rw [ef]
  refine for_rule (fun xs m τ => ∃ r, xs = r.map (fun p => .int p.1) ∧ I r m τ) ?_ ?_ ?_ ⟨_, rfl, h0⟩
  · rintro xs m τ ⟨r, _, hI⟩
    exact (hsame _ _ _ hI).trans set_same.symm
  · rintro v xs m τ ⟨r, e1, hI⟩
    cases r with
    | nil => simp at e1
    | cons p r =>
      simp only [List.map_cons, List.cons.injEq] at e1
      obtain ⟨rfl, rfl⟩ := e1
      exact hstep p r m τ hI
  · rintro m τ ⟨r, e1, hI⟩
    cases r with
    | nil => rw [eu]; exact hend m τ hI
    | cons p r => simp at e1

theorem vget_mid {pre : List (Int × Val)} {p : Int × Val} {r : List (Int × Val)} (hnd : ((pre ++ p :: r).map (·.1)).Nodup) : vget (pre ++ p :: r) p.1 = some p.2 := by
  unfold vget
  rw [List.find?_append]
  have : pre.find? (fun q => decide (q.1 = p.1)) = none := by
    rw [List.find?_eq_none]
    intro q hq
    simp only [decide_eq_true_eq]
    intro e
    rw [List.map_append, List.nodup_append] at hnd
    exact hnd.2.2 q.1 (List.mem_map_of_mem hq) p.1 (by simp) e
  rw [this]
  simp

theorem c_in_copy {n : Int} {v : Val} (h : Holds i fz H σ) (hv : H.isRef v = false) (hQ : Q v.av σ) : wpFn prg (d + 2) "in_copy" [hp i, cr i n, v.av] σ Q := by
  refine fn_intro rfl rfl ?_
  dsimp? only [d_in_copy]
  refine c_cell_of h ?_
  cases v with
  | int k =>
    simp [cmp_eq_int, cmp_ne_int, cmp_lt_int, cmp_gt_int, cmp_ge_int, cmp_eq_str, cmp_ne_str, cmp_is_n, cmp_is_r, cmp_isnot_n, cmp_isnot_r, Out.val]
    exact hQ
  | cell k =>
    by_cases q : k ∈ H.keys
    · simp only [HS.isRef, q, decide_true, Bool.true_and] at hv
      simp [q, cmp_eq_int, cmp_ne_int, cmp_lt_int, cmp_gt_int, cmp_ge_int, cmp_eq_str, cmp_ne_str, cmp_is_n, cmp_is_r, cmp_isnot_n, cmp_isnot_r, h.cSort q]
      cases hs : (H.cell k).sort <;> simp [hs, Srt.s, Out.val] at hv ⊢ <;> exact hQ
    · simp [q, cmp_eq_int, cmp_ne_int, cmp_lt_int, cmp_gt_int, cmp_ge_int, cmp_eq_str, cmp_ne_str, cmp_is_n, cmp_is_r, cmp_isnot_n, cmp_isnot_r, Out.val]
      exact hQ

theorem c_has_elements {x : Int} (h : Holds i fz H σ) (hr : H.RefOk) (hQ : Q (.bool (match H.valOf x with | .cell _ => true | .int _ => false)) σ) : wpFn prg (d + 5) "has_elements" [hp i, .int x] σ Q := by
  refine fn_intro rfl rfl ?_
  dsimp? only [d_has_elements]
  refine c_value_of h hr ?_
  cases q : H.valOf x with
  | int k => rw [q] at hQ; simp only [av_int, sub_tup0, cmp_eq_int, cmp_ne_int, cmp_lt_int, cmp_gt_int, cmp_ge_int, cmp_eq_str, cmp_ne_str, cmp_is_n, cmp_is_r, cmp_isnot_n, cmp_isnot_r, Out.val]; exact hQ
  | cell k => rw [q] at hQ; simp only [av_cell, sub_tup0, cmp_eq_int, cmp_ne_int, cmp_lt_int, cmp_gt_int, cmp_ge_int, cmp_eq_str, cmp_ne_str, cmp_is_n, cmp_is_r, cmp_isnot_n, cmp_isnot_r, Out.val]; exact hQ

noncomputable def HS.logged (H : HS) : HS := { H with logn := H.logn + 1 }
noncomputable def HS.copyStep (m : Int) (H : HS) (p : Int × Val) : HS := (H.gain p.2).setSl m p.1 p.2
noncomputable def HS.copied (H : HS) (n : Int) : HS := (H.cell n).slots.foldl (HS.copyStep (H.last + 1)) (H.addC .arr).logged

theorem setSl_cell (H : HS) (m k : Int) (v : Val) (n : Int) : ((H.setSl m k v).cell n).sort = (H.cell n).sort ∧ (n ≠ m → (H.setSl m k v).cell n = H.cell n) := by
  unfold HS.setSl
  by_cases q : n = m
  · subst q; rw [HS.setC_same]; exact ⟨rfl, fun h => absurd rfl h⟩
  · rw [HS.setC_ne _ _ q]; exact ⟨rfl, fun _ => rfl⟩
theorem isRef_of {H H' : HS} {v : Val} (hk : ∀ k, k ∈ H.keys → k ∈ H'.keys) (hs : ∀ k ∈ H.keys, (H'.cell k).sort = (H.cell k).sort) (hv : ∀ k, v = .cell k → k ∈ H.keys) : H'.isRef v = H.isRef v := by
  cases v with
  | int k => rfl
  | cell k =>
    have := hv k rfl
    simp only [HS.isRef, this, hk k this, hs k this]

structure CopyInv (H : HS) (n : Int) (l : Nat) (H' : HS) : Prop where
  keys : H'.keys = H.keys ++ [H.last + 1]
  last : H'.last = H.last + 1
  slots : ∀ k ∈ H.keys, (H'.cell k).slots = (H.cell k).slots
  arr : (H'.cell (H.last + 1)).sort = .arr
  sort : ∀ k ∈ H.keys, (H'.cell k).sort = (H.cell k).sort
  made : ((H'.cell (H.last + 1)).slots).length ≤ l
theorem CopyInv.step {H H' : HS} {n : Int} {l : Nat} {p : Int × Val} (hn : n ∈ H.keys) (ht : ∀ k ∈ H.keys, k ≤ H.last) (c : CopyInv H n l H') : CopyInv H n (l + 1) (HS.copyStep (H.last + 1) H' p) := by
  have ne : ∀ k ∈ H.keys, k ≠ H.last + 1 := fun k hk => by have := ht k hk; lia
  unfold HS.copyStep
  refine ⟨by show (H'.gain p.2).keys = _; rw [gain_keys]; exact c.keys, by show (H'.gain p.2).last = _; rw [gain_last]; exact c.last, fun k hk => ?_, ?_, fun k hk => ?_, ?_⟩
  · rw [(setSl_cell _ _ _ _ k).2 (ne k hk), (gain_cell _ _ _).1]; exact c.slots k hk
  · rw [(setSl_cell _ _ _ _ _).1, (gain_cell _ _ _).2]; exact c.arr
  · rw [(setSl_cell _ _ _ _ k).1, (gain_cell _ _ _).2]; exact c.sort k hk
  · unfold HS.setSl
    rw [HS.setC_same]
    have := vset_length ((H'.gain p.2).cell (H.last + 1)).slots p.1 p.2
    rw [(gain_cell _ _ _).1] at this
    have := c.made
    simp only
    rw [(gain_cell _ _ _).1]
    lia

theorem copyInv0 (H : HS) (n : Int) (ht : ∀ k ∈ H.keys, k ≤ H.last) : CopyInv H n 0 (H.addC .arr).logged := ⟨rfl, rfl, fun k hk => by
    have : k ≠ H.last + 1 := by have := ht k hk; lia
    show ((if k = H.last + 1 then _ else H.cell k) : Cl).slots = _
    rw [if_neg this], by show ((if H.last + 1 = H.last + 1 then (⟨.arr, 0, [], .black, false⟩ : Cl) else H.cell (H.last + 1)).sort) = .arr; rw [if_pos rfl], fun k hk => by
    have : k ≠ H.last + 1 := by have := ht k hk; lia
    show ((if k = H.last + 1 then _ else H.cell k) : Cl).sort = _
    rw [if_neg this], by show ((if H.last + 1 = H.last + 1 then (⟨.arr, 0, [], .black, false⟩ : Cl) else H.cell (H.last + 1)).slots).length ≤ 0; rw [if_pos rfl]; exact Nat.le_refl _⟩
theorem copyInv {H : HS} {n : Int} (hn : n ∈ H.keys) (ht : ∀ k ∈ H.keys, k ≤ H.last) : CopyInv H n (H.cell n).slots.length (H.copied n) := by
  unfold HS.copied
  have key : ∀ (l : List (Int × Val)) (H' : HS) (j : Nat), CopyInv H n j H' → CopyInv H n (j + l.length) (l.foldl (HS.copyStep (H.last + 1)) H') := by
    intro l
    induction l with
    | nil => intro H' j c; exact c
    | cons p l ih =>
      intro H' j c
      have := ih _ _ (c.step (p := p) hn ht)
      rw [List.length_cons, show j + (l.length + 1) = j + 1 + l.length by lia]
      exact this
  have := key (H.cell n).slots _ 0 (copyInv0 H n ht)
  simpa using this

theorem c_copied {n : Int} (h : Holds i NF H σ) (hn : n ∈ H.keys) (hl : H.keys.length < 60000) (hlog : H.logn < 60000) (hsl : (H.cell n).slots.length < 60000) (hnd : ((H.cell n).slots.map (·.1)).Nodup)
    (hcl : ∀ p ∈ (H.cell n).slots, ∀ k, p.2 = .cell k → k ∈ H.keys) (hno : ∀ p ∈ (H.cell n).slots, H.isRef p.2 = false)
    (hQ : ∀ σ', Holds i NF (H.copied n) σ' → Fr (Own i) σ σ' → Q (Val.cell (H.last + 1)).av σ') : wpFn prg (d + 3) "copied" [hp i, cr i n] σ Q := by
  refine fn_intro rfl rfl ?_
  dsimp? only [d_copied]
  refine c_new_cell (d := d) (s := .arr) h rfl hl fun σ1 h1 f1 => ?_
  refine attr_in h1.aLog ?_
  obtain ⟨lg, el, hlg⟩ := h1.log
  refine kind_in (kind_list hlg) ?_
  have hnk : n ≠ H.last + 1 := by have := h.top n hn; lia
  have hn1 : n ∈ (H.addC .arr).keys := List.mem_append.mpr (.inl hn)
  refine ⟨rfl, ?_⟩
  refine attr_in (h1.cNumber hn1) ?_
  simp only [av_cell, sub_tup1]
  refine ⟨kind_list hlg, ?_⟩
  refine app_in hlg (by rw [el]; exact Nat.lt_trans hlog (by decide)) ?_
  have h2 := h1.setLog (lg ++ [AV.tup [AV.str "copy", AV.int n, AV.int (H.last + 1)]])
  have e2 : ({ H.addC .arr with logn := (lg ++ [AV.tup [AV.str "copy", AV.int n, AV.int (H.last + 1)]]).length } : HS) = (H.addC .arr).logged := by
    unfold HS.logged
    rw [List.length_append, el]; rfl
  rw [e2] at h2
  have c0 := copyInv0 H n h.top
  have e3 : ((H.addC .arr).logged.cell n).slots = (H.cell n).slots := c0.slots n hn
  refine for_slots h2 hn1 (by simp [upd]) (fun r m τ => ∃ pre, (H.cell n).slots = pre ++ r ∧ m "heap" = some (hp i) ∧ m "cell" = some (cr i n) ∧ m "made" = some (AV.tup [AV.str "cell", AV.int (H.last + 1)]) ∧ Holds i (fzOn NF n true) (pre.foldl (HS.copyStep (H.last + 1)) (H.addC .arr).logged) τ ∧
      CopyInv H n pre.length (pre.foldl (HS.copyStep (H.last + 1)) (H.addC .arr).logged) ∧ Fr (Own i) σ τ)
    ⟨[], by rw [e3]; rfl, by simp [upd], by simp [upd], by simp [upd], h2.frozen hn1 true, c0, f1.trans ((Fr.set ⟨_, rfl⟩).trans (.set ⟨_, rfl⟩))⟩ ?_ ?_ ?_
  · rintro r m τ ⟨pre, e, _, _, _, hI, cI, _⟩
    have := hI.slots n (by rw [cI.keys]; exact List.mem_append.mpr (.inl hn))
    rw [cI.slots n hn] at this
    rw [e3, this]
    unfold fzOn; rw [if_pos rfl]
  · rintro p r m τ ⟨pre, e, m1, m2, m3, hI, cI, fI⟩
    have hk2 : n ∈ (pre.foldl (HS.copyStep (H.last + 1)) (H.addC .arr).logged).keys := by rw [cI.keys]; exact List.mem_append.mpr (.inl hn)
    have hp : p ∈ (H.cell n).slots := by rw [e]; simp
    have eg : vget (H.cell n).slots p.1 = some p.2 := by
      rw [e] at hnd ⊢
      exact vget_mid hnd
    dsimp? only [m1, m2, m3]
    refine attr_in (hI.cSlots hk2) ?_; refine subd_in (hI.slots n hk2) (by rw [cI.slots n hn, dget_av, eg]; rfl) ?_
    have hnr : (pre.foldl (HS.copyStep (H.last + 1)) (H.addC .arr).logged).isRef p.2 = false := by
      rw [isRef_of (H := H) (fun k hk => by rw [cI.keys]; exact List.mem_append.mpr (.inl hk)) cI.sort (hcl p hp)]
      exact hno p hp
    refine c_in_copy (d := d) hI hnr ?_
    refine c_gain (d := d) hI fun σ3 h3 f3 => ?_
    have hk3 : H.last + 1 ∈ ((pre.foldl (HS.copyStep (H.last + 1)) (H.addC .arr).logged).gain p.2).keys := by rw [gain_keys, cI.keys]; simp
    refine attr_in h3.aCells ?_
    simp only [sub_tup1]
    refine subd_in h3.cells (dget_keys hk3) ?_; refine attr_in (h3.cSlots hk3) ?_
    have hfz : fzOn NF n true (H.last + 1) = false := if_neg fun q => hnk q.symm
    have hs3 := h3.slots _ hk3
    rw [hfz] at hs3
    have hlen : pre.length ≤ (H.cell n).slots.length := by rw [e]; simp
    rw [setsub_dict hs3 (by rw [ents_length, (gain_cell _ _ _).1]; have := cI.made; lia), dset_av]
    refine ⟨trivial, r, rfl, pre ++ [p], by rw [e]; simp, trivial, trivial, trivial, ?_, ?_, fI.trans (f3.trans (.set ⟨_, rfl⟩))⟩
    · rw [List.foldl_append]
      have h4 := h3.setSlots hk3 (vset (((pre.foldl (HS.copyStep (H.last + 1)) (H.addC .arr).logged).gain p.2).cell (H.last + 1)).slots p.1 p.2)
      rw [hfz] at h4
      exact h4
    · rw [List.foldl_append, List.length_append]
      exact cI.step hn h.top
  · rintro m τ ⟨pre, e, m1, m2, m3, hI, cI, fI⟩
    simp only [m3, Option.some.injEq, exists_eq_left', vcase_some, String.reduceBEq, cond_true, cond_false, Out.val]
    rw [List.append_nil] at e
    have hk2 : n ∈ (pre.foldl (HS.copyStep (H.last + 1)) (H.addC .arr).logged).keys := by rw [cI.keys]; exact List.mem_append.mpr (.inl hn)
    have h5 := hI.frozen hk2 false
    have e5 : fzOn (fzOn NF n true) n false = NF := fzOn_back NF n true
    rw [e5, cI.slots n hn] at h5
    rw [e3]
    refine hQ _ ?_ (fI.trans (.set ⟨_, rfl⟩))
    have e7 : H.copied n = pre.foldl (HS.copyStep (H.last + 1)) (H.addC .arr).logged := by unfold HS.copied; rw [e]
    rw [e7]
    exact h5
end
end Gc
end
/- GcC7 -/
section
set_option backward.dsimp.useDefEqAttr false
namespace Gc
structure Wfs (H : HS) : Prop where
  kl : H.keys.length < 50000
  vl : H.vars.length < 50000
  gl : H.logn < 50000
  bl : H.buf.length < 50000
  sl : ∀ n ∈ H.keys, (H.cell n).slots.length < 50000
  ref : H.RefOk
  nd : ∀ n ∈ H.keys, ((H.cell n).slots.map (·.1)).Nodup
  cl : ∀ n ∈ H.keys, ∀ p ∈ (H.cell n).slots, ∀ k, p.2 = .cell k → k ∈ H.keys
  nr : ∀ n ∈ H.keys, ∀ p ∈ (H.cell n).slots, H.isRef p.2 = false
  clv : ∀ p ∈ H.vars, ∀ k, p.2 = .cell k → k ∈ H.keys

theorem vget_mem {l : List (Int × Val)} {k : Int} {v : Val} (h : vget l k = some v) : (k, v) ∈ l := by
  unfold vget at h
  obtain ⟨p, e, rfl⟩ := Option.map_eq_some_iff.mp h
  have h1 := List.mem_of_find?_eq_some e
  have h2 := List.find?_some e
  simp at h2
  rw [← h2]; exact h1
theorem Wfs.valOf {H : HS} (w : Wfs H) {x n : Int} (h : H.valOf x = .cell n) : n ∈ H.keys ∧ H.isRef (.cell n) = false := by
  unfold HS.valOf at h
  cases q : vget H.vars x with
  | none => rw [q] at h; simp [HS.inner, HS.isRef] at h
  | some v =>
    rw [q] at h
    simp only [Option.getD_some] at h
    have hm := vget_mem q
    unfold HS.inner at h
    cases v with
    | int k => simp [HS.isRef] at h
    | cell m =>
      have hmk := w.clv _ hm m rfl
      cases qr : H.isRef (.cell m) with
      | false => rw [qr] at h; simp at h; subst h; exact ⟨hmk, qr⟩
      | true =>
        rw [qr] at h
        have q2 := qr
        simp [HS.isRef] at q2
        obtain ⟨u, hu⟩ := w.ref m hmk q2.2
        simp [hu, vget] at h
        subst h
        exact ⟨w.cl m hmk (0, .cell n) (by rw [hu]; simp) n rfl, w.nr m hmk (0, .cell n) (by rw [hu]; simp)⟩

theorem gain_isRef (H : HS) (v u : Val) : (H.gain v).isRef u = H.isRef u := by
  cases u with
  | int k => rfl
  | cell k => simp only [HS.isRef, gain_keys, (gain_cell H v k).2]
theorem gain_inner (H : HS) (v u : Val) : (H.gain v).inner u = H.inner u := by
  unfold HS.inner
  rw [gain_isRef]
  cases u with
  | int k => rfl
  | cell k => simp only [(gain_cell H v k).1]
theorem gain_valOf (H : HS) (v : Val) (x : Int) : (H.gain v).valOf x = H.valOf x := by
  unfold HS.valOf
  rw [gain_inner, gain_vars]
theorem gain_rest (H : HS) (v : Val) : (H.gain v).logn = H.logn ∧ (H.gain v).buf = H.buf := by
  cases v with
  | int k => exact ⟨rfl, rfl⟩
  | cell n => unfold HS.gain; simp only; split <;> exact ⟨rfl, rfl⟩
theorem Wfs.gain {H : HS} (w : Wfs H) (v : Val) : Wfs (H.gain v) where
  kl := by rw [gain_keys]; exact w.kl
  vl := by rw [gain_vars]; exact w.vl
  gl := by rw [(gain_rest H v).1]; exact w.gl
  bl := by rw [(gain_rest H v).2]; exact w.bl
  sl n hn := by rw [gain_keys] at hn; rw [(gain_cell H v n).1]; exact w.sl n hn
  ref n hn hs := by rw [gain_keys] at hn; rw [(gain_cell H v n).2] at hs; rw [(gain_cell H v n).1]; exact w.ref n hn hs
  nd n hn := by rw [gain_keys] at hn; rw [(gain_cell H v n).1]; exact w.nd n hn
  cl n hn := by rw [gain_keys] at hn ⊢; rw [(gain_cell H v n).1]; exact w.cl n hn
  nr n hn p hp := by rw [gain_keys] at hn; rw [(gain_cell H v n).1] at hp; rw [gain_isRef]; exact w.nr n hn p hp
  clv := by rw [gain_keys, gain_vars]; exact w.clv

noncomputable def HS.cont (H : HS) (x n : Int) : Int × HS × List Val :=
  if (H.cell n).sort = .obj ∨ (H.cell n).count = 1 then (n, H, []) else (H.last + 1, (((H.copied n).gain (.cell (H.last + 1))).wr x (.cell (H.last + 1))))

section
variable {i : Nat} {fz : Int → Bool} {H : HS} {σ : Sto} {d : Nat} {Q : AV → Sto → Prop}

theorem c_container {x n : Int} (h : Holds i NF H σ) (w : Wfs H) (hv : H.valOf x = .cell n)
    (hQ : ∀ t σ', Holds i NF (H.cont x n).2.1 σ' → Fr (Own i) σ σ' → σ' (.tmp t) = some (.list ((H.cont x n).2.2.map Val.av)) → Q (.tup [cr i (H.cont x n).1, .ref (.tmp t)]) σ') : wpFn prg (d + 5) "container" [hp i, .int x] σ Q := by
  obtain ⟨hn, hnr⟩ := w.valOf hv
  refine fn_intro rfl rfl ?_
  dsimp? only [d_container]
  refine attr_in h.aCells ?_
  refine c_value_of (d := d) h w.ref ?_
  rw [hv]
  simp only [av_cell, sub_tup1]
  refine subd_in h.cells (dget_keys hn) ?_; refine attr_in (h.cSort hn) ?_
  have small : ∀ {P : Prop}, ((H.cell n).sort = .obj ∨ (H.cell n).count = 1) → P = (∀ k, σ (.tmp k) = none → Q (.tup [cr i n, .ref (.tmp k)]) (σ.set (.tmp k) (.list []))) → P := by
    intro P hc e
    rw [e]
    intro k hk
    have hc' : H.cont x n = (n, H, []) := if_pos hc
    rw [hc'] at hQ
    exact hQ k _ h.tmp (.tmp hk) set_same
  have big : ¬ ((H.cell n).sort = .obj ∨ (H.cell n).count = 1) → wpFn prg (d + 4) "copied" [hp i, cr i n] σ fun v σ' => ∃ r, getsAttr (hp i) "cells" σ' = some r ∧ wpSub v (.int 1) σ' fun r_1 => wpSub r r_1 σ' fun r => ∃ r_2, getsAttr (hp i) "vars" σ' = some r_2 ∧
      wpFn prg (d + 4) "gain" [hp i, v] σ' fun v σ' => wpFn prg (d + 4) "written" [hp i, r_2, .int x, v] σ' fun v σ' => Q (.tup [r, v]) σ' := by
    intro hc
    have hc' : H.cont x n = (H.last + 1, (((H.copied n).gain (.cell (H.last + 1))).wr x (.cell (H.last + 1)))) := if_neg hc
    rw [hc'] at hQ
    have hlast := h.top n hn
    refine c_copied (d := d + 1) h hn (Nat.lt_trans w.kl (by decide)) (Nat.lt_trans w.gl (by decide)) (Nat.lt_trans (w.sl n hn) (by decide)) (w.nd n hn) (w.cl n hn) (w.nr n hn) fun σ1 h1 f1 => ?_
    have ci := copyInv hn h.top
    have hk : H.last + 1 ∈ (H.copied n).keys := by rw [ci.keys]; simp
    simp only [av_cell, sub_tup1]
    refine attr_in h1.aCells ?_; refine subd_in h1.cells (dget_keys hk) ?_; refine attr_in h1.aVars ?_
    have g := c_gain (d := d + 2) (v := .cell (H.last + 1)) (Q := fun v σ' => wpFn prg (d + 4) "written" [hp i, .ref (.obj i .vars), .int x, v] σ' fun v σ' => Q (.tup [cr i (H.last + 1), v]) σ') h1
    rw [av_cell] at g
    refine g fun σ2 h2 f2 => ?_
    have hvars : ((H.copied n).gain (.cell (H.last + 1))).vars = H.vars := by
      rw [gain_vars]
      unfold HS.copied
      have : ∀ (l : List (Int × Val)) (H' : HS), (l.foldl (HS.copyStep (H.last + 1)) H').vars = H'.vars := by
        intro l
        induction l with
        | nil => intro H'; rfl
        | cons p l ih =>
          intro H'
          rw [List.foldl_cons, ih]
          show (H'.gain p.2).vars = _
          rw [gain_vars]
      rw [this]; rfl
    have rok : ((H.copied n).gain (.cell (H.last + 1))).RefOk := by
      intro k hk hs
      rw [gain_keys, ci.keys] at hk
      rw [(gain_cell _ _ _).2] at hs
      rw [(gain_cell _ _ _).1]
      rcases List.mem_append.mp hk with hk | hk
      · rw [ci.slots k hk]; rw [ci.sort k hk] at hs; exact w.ref k hk hs
      · rw [List.mem_singleton.mp hk, ci.arr] at hs; cases hs
    refine c_written_vars (d := d + 1) (v := .cell (H.last + 1)) h2 rok (by rw [hvars]; exact Nat.lt_trans w.vl (by decide)) fun t σ3 h3 f3 e3 => hQ t σ3 h3 (f1.trans (f2.trans f3)) e3
  cases hs : (H.cell n).sort with
  | obj =>
    simp only [Srt.s, cmp_eq_int, cmp_ne_int, cmp_lt_int, cmp_gt_int, cmp_ge_int, cmp_eq_str, cmp_ne_str, cmp_is_n, cmp_is_r, cmp_isnot_n, cmp_isnot_r, String.reduceEq, decide_true]
    exact .inl (small (.inl hs) rfl)
  | arr =>
    simp only [Srt.s, cmp_eq_int, cmp_ne_int, cmp_lt_int, cmp_gt_int, cmp_ge_int, cmp_eq_str, cmp_ne_str, cmp_is_n, cmp_is_r, cmp_isnot_n, cmp_isnot_r, String.reduceEq, decide_false]
    refine attr_in (h.cCount hn) ?_
    by_cases hc : (H.cell n).count = 1
    · simp only [cmp_eq_int, cmp_ne_int, cmp_lt_int, cmp_gt_int, cmp_ge_int, cmp_eq_str, cmp_ne_str, cmp_is_n, cmp_is_r, cmp_isnot_n, cmp_isnot_r, hc, decide_true]
      exact .inl (small (.inr hc) rfl)
    · simp only [cmp_eq_int, cmp_ne_int, cmp_lt_int, cmp_gt_int, cmp_ge_int, cmp_eq_str, cmp_ne_str, cmp_is_n, cmp_is_r, cmp_isnot_n, cmp_isnot_r, hc, decide_false]
      exact big fun q => q.elim (fun q => by rw [hs] at q; cases q) hc
  | ref => simp [HS.isRef, hn, hs] at hnr

/- the deeds, as states and losses -/
noncomputable def HS.dSet (H : HS) (x n : Int) : HS × List Val := H.wr x (.int n)
noncomputable def HS.dNew (H : HS) (s : Srt) (x : Int) : HS × List Val := ((H.addC s).gain (.cell (H.last + 1))).wr x (.cell (H.last + 1))
noncomputable def HS.dAssign (H : HS) (x y : Int) : HS × List Val := (H.gain (H.valOf y)).wr x (H.valOf y)
noncomputable def HS.dPut (H : HS) (x k y : Int) : HS × List Val := match H.valOf x with
  | .int _ => (H, [])
  | .cell n => let c := (H.gain (H.valOf y)).cont x n; (c.2.1.setSl c.1 k (H.valOf y), c.2.2 ++ olds (c.2.1.cell c.1).slots k)
noncomputable def HS.takeVal (H : HS) (y k : Int) : Val := match H.valOf y with
  | .int _ => .int 0
  | .cell n => H.inner ((vget (H.cell n).slots k).getD (.int 0))
noncomputable def HS.dTake (H : HS) (x y k : Int) : HS × List Val := (H.gain (H.takeVal y k)).wr x (H.takeVal y k)
noncomputable def HS.dRef (H : HS) (x y : Int) : HS × List Val := let r := H.refIn y; let H1 := r.1.gain r.2; (H1.setVar x r.2, olds H1.vars x)
noncomputable def HS.dUnset (H : HS) (x : Int) : HS × List Val := (if (vget H.vars x).isSome then { H with vars := vdel H.vars x } else H, olds H.vars x)
noncomputable def HS.dUnsetAt (H : HS) (x k : Int) : HS × List Val := match H.valOf x with
  | .int _ => (H, [])
  | .cell n => let c := H.cont x n; (if (vget (c.2.1.cell c.1).slots k).isSome then c.2.1.setC c.1 { c.2.1.cell c.1 with slots := vdel (c.2.1.cell c.1).slots k } else c.2.1, c.2.2 ++ olds (c.2.1.cell c.1).slots k)

theorem c_set_int {x n : Int} (h : Holds i NF H σ) (w : Wfs H) (hQ : Ret i σ Q (H.dSet x n).1 (H.dSet x n).2) : wpFn prg (d + 6) "set_int" [hp i, .int x, .int n] σ Q := by
  refine fn_intro rfl rfl ?_
  dsimp? only [d_set_int]
  refine attr_in h.aVars ?_
  exact c_written_vars (d := d + 2) (v := .int n) h w.ref (Nat.lt_trans w.vl (by decide)) hQ

theorem addC_ref {H : HS} (w : Wfs H) (ht : ∀ k ∈ H.keys, k ≤ H.last) {s : Srt} (hs : s ≠ .ref) : ((H.addC s).gain (.cell (H.last + 1))).RefOk := by
  intro k hk hr
  rw [gain_keys] at hk
  rw [(gain_cell _ _ _).2] at hr
  rw [(gain_cell _ _ _).1]
  rcases List.mem_append.mp hk with hk | hk
  · have : k ≠ H.last + 1 := by have := ht k hk; lia
    have e : (H.addC s).cell k = H.cell k := if_neg this
    rw [e] at hr ⊢
    exact w.ref k hk hr
  · rw [List.mem_singleton.mp hk] at hr
    have e : (H.addC s).cell (H.last + 1) = ⟨s, 0, [], .black, false⟩ := if_pos rfl
    rw [e] at hr
    exact absurd hr hs

theorem c_new_array {x : Int} (h : Holds i NF H σ) (w : Wfs H) (hQ : Ret i σ Q (H.dNew .arr x).1 (H.dNew .arr x).2) : wpFn prg (d + 6) "new_array" [hp i, .int x] σ Q := by
  refine fn_intro rfl rfl ?_
  dsimp? only [d_new_array]
  refine attr_in h.aVars ?_
  refine c_new_cell (d := d + 3) (s := .arr) h rfl (Nat.lt_trans w.kl (by decide)) fun σ1 h1 f1 => ?_
  refine c_gain (d := d + 3) (v := .cell (H.last + 1)) h1 fun σ2 h2 f2 => ?_
  refine c_written_vars (d := d + 2) (v := .cell (H.last + 1)) h2 (addC_ref w h.top (by simp)) (by rw [gain_vars]; exact Nat.lt_trans w.vl (by decide)) fun t σ3 h3 f3 e3 => hQ t σ3 h3 (f1.trans (f2.trans f3)) e3

theorem sa_has {n : Int} {P : Sto → Prop} (h : Holds i fz H σ) (hn : n ∈ H.keys) : wpSetAttr (cr i n) "has_destructor" (.bool false) σ P ↔ P (σ.set (.obj i (.cell n)) (cAO i n (H.cell n))) := by
  constructor
  · rintro ⟨c, fs, e, _, _, p⟩
    rw [h.cell n hn] at e
    cases e; exact p
  · intro p
    exact ⟨_, _, h.cell n hn, by decide, by simp, p⟩
theorem set_id {a : Name} {o : AO} (e : σ a = some o) : σ.set a o = σ := by
  funext b
  unfold Sto.set
  by_cases q : b = a
  · rw [if_pos q, q, e]
  · rw [if_neg q]

theorem c_new_object {x : Int} (h : Holds i NF H σ) (w : Wfs H) (hQ : Ret i σ Q (H.dNew .obj x).1 (H.dNew .obj x).2) : wpFn prg (d + 6) "new_object" [hp i, .int x, .bool false] σ Q := by
  refine fn_intro rfl rfl ?_
  dsimp? only [d_new_object]
  refine c_new_cell (d := d + 3) (s := .obj) h rfl (Nat.lt_trans w.kl (by decide)) fun σ1 h1 f1 => ?_
  refine c_gain (d := d + 3) (v := .cell (H.last + 1)) h1 fun σ2 h2 f2 => ?_
  have hk : H.last + 1 ∈ ((H.addC .obj).gain (.cell (H.last + 1))).keys := by rw [gain_keys]; simp [HS.addC]
  simp only [av_cell, sub_tup1]
  rw [attr_ex h2.aCells, sub_dict h2.cells (dget_keys hk), sa_has h2 hk, set_id (h2.cell _ hk), attr_ex h2.aVars]
  exact c_written_vars (d := d + 2) (v := .cell (H.last + 1)) h2 (addC_ref w h.top (by simp)) (by rw [gain_vars]; exact Nat.lt_trans w.vl (by decide)) fun t σ3 h3 f3 e3 => hQ t σ3 h3 (f1.trans (f2.trans f3)) e3

theorem c_assign {x y : Int} (h : Holds i NF H σ) (w : Wfs H) (hQ : Ret i σ Q (H.dAssign x y).1 (H.dAssign x y).2) : wpFn prg (d + 6) "assign" [hp i, .int x, .int y] σ Q := by
  refine fn_intro rfl rfl ?_
  dsimp? only [d_assign]
  refine attr_in h.aVars ?_
  refine c_value_of (d := d + 1) h w.ref ?_
  refine c_gain (d := d + 3) h fun σ2 h2 f2 => ?_
  exact c_written_vars (d := d + 2) h2 (w.gain _).ref (Nat.lt_trans (w.gain _).vl (by decide)) fun t σ3 h3 f3 e3 => hQ t σ3 h3 (f2.trans f3) e3

theorem c_make_ref {x y : Int} (h : Holds i NF H σ) (w : Wfs H) (hv : (H.refIn y).1.vars.length < 60000) (hQ : Ret i σ Q (H.dRef x y).1 (H.dRef x y).2) : wpFn prg (d + 6) "make_ref" [hp i, .int x, .int y] σ Q := by
  refine fn_intro rfl rfl ?_
  dsimp? only [d_make_ref]
  refine attr_in h.aVars ?_; refine attr_in h.aVars ?_
  refine c_ref_in (d := d + 2) h (Nat.lt_trans w.kl (by decide)) (Nat.lt_trans w.vl (by decide)) fun σ1 h1 f1 => ?_
  refine c_gain (d := d + 3) h1 fun σ2 h2 f2 => ?_
  refine c_replaced (d := d + 4) h2.vars (by rw [gain_vars]; exact hv) fun t ht => hQ t _ ?_ (f1.trans (f2.trans ((Fr.tmp ht).trans (.set ⟨_, rfl⟩)))) ?_
  · exact h2.tmp.setVars _
  · rw [set_ne (by simp), set_same]; rfl

theorem c_unset {x : Int} (h : Holds i NF H σ) (hQ : Ret i σ Q (H.dUnset x).1 (H.dUnset x).2) : wpFn prg (d + 6) "unset" [hp i, .int x] σ Q := by
  refine fn_intro rfl rfl ?_
  dsimp? only [d_unset]
  refine attr_in h.aVars ?_
  refine c_taken_out (d := d + 4) h.vars fun t ht => ?_
  refine hQ t _ ?_ ?_ set_same
  · unfold HS.dUnset
    dsimp only
    split
    · exact (h.setVars _).tmp
    · exact h.tmp
  · split
    · exact (Fr.set ⟨_, rfl⟩).trans (.tmp (by rw [set_ne (by simp)]; exact ht))
    · exact .tmp ht
end
end Gc
end
/- GcC8 -/
section
set_option backward.dsimp.useDefEqAttr false
namespace Gc
structure ContOk (c : Int × HS × List Val) (k : Int) : Prop where
  mem : c.1 ∈ c.2.1.keys
  len : (c.2.1.cell c.1).slots.length < 60000
  no : ∀ o, vget (c.2.1.cell c.1).slots k = some o → c.2.1.isRef o = false
  ls : c.2.2.length < 60000

section
variable {i : Nat} {fz : Int → Bool} {H : HS} {σ : Sto} {d : Nat} {Q : AV → Sto → Prop}

theorem olds_length (l : List (Int × Val)) (k : Int) : (olds l k).length ≤ 1 := by
  unfold olds; split <;> simp

theorem add_lists {a b : Name} {xs ys : List AV} {P : AV → Sto → Prop} (ea : σ a = some (.list xs)) (eb : σ b = some (.list ys)) (hl : xs.length + ys.length < 65536) (hP : ∀ k, σ (.tmp k) = none → P (.ref (.tmp k)) (σ.set (.tmp k) (.list (xs ++ ys)))) : wpBin .add (.ref a) (.ref b) σ P :=
  ⟨xs, ys, ea, eb, hl, .inl hP⟩

theorem c_put {x k y : Int} (h : Holds i NF H σ) (w : Wfs H) (hc : ∀ n, H.valOf x = .cell n → ContOk ((H.gain (H.valOf y)).cont x n) k) (hQ : Ret i σ Q (H.dPut x k y).1 (H.dPut x k y).2) : wpFn prg (d + 6) "put" [hp i, .int x, .int k, .int y] σ Q := by
  refine fn_intro rfl rfl ?_
  dsimp? only [d_put]
  refine c_has_elements (d := d) h w.ref ?_
  refine tru_in ?_
  cases q : H.valOf x with
  | int z =>
    simp only [Bool.not_false, Out.val]
    have e : H.dPut x k y = (H, []) := by unfold HS.dPut; rw [q]
    rw [e] at hQ
    exact .inl fun t ht => hQ t _ h.tmp (.tmp ht) set_same
  | cell n =>
    simp only [Bool.not_true]
    have e : H.dPut x k y = ((((H.gain (H.valOf y)).cont x n).2.1.setSl ((H.gain (H.valOf y)).cont x n).1 k (H.valOf y)), ((H.gain (H.valOf y)).cont x n).2.2 ++ olds (((H.gain (H.valOf y)).cont x n).2.1.cell ((H.gain (H.valOf y)).cont x n).1).slots k) := by unfold HS.dPut; rw [q]
    rw [e] at hQ
    have C := hc n q
    refine c_value_of (d := d + 1) h w.ref ?_
    refine c_gain (d := d + 3) h fun σ1 h1 f1 => ?_
    refine c_container (d := d) (n := n) h1 (w.gain _) (by rw [gain_valOf]; exact q) fun t σ2 h2 f2 e2 => ?_
    simp only [itemsFit, List.length_cons, List.length_nil, reduceIte, Option.some.injEq, exists_eq_left', vcase_some, String.reduceBEq, cond_true, cond_false, updAll_cons, updAll_nil, upd, String.reduceEq]
    refine attr_in (h2.cSlots C.mem) ?_
    refine c_written_slots (d := d + 2) h2 C.mem C.len C.no fun t3 σ3 h3 f3 e3 => ?_
    have e4 : σ3 (.tmp t) = some (.list (((H.gain (H.valOf y)).cont x n).2.2.map Val.av)) := by
      rw [f3 (.tmp t) (by rintro ⟨_, q⟩; cases q) (.inl (by rw [e2]; simp))]; exact e2
    have l1 := olds_length (((H.gain (H.valOf y)).cont x n).2.1.cell ((H.gain (H.valOf y)).cont x n).1).slots k
    have l2 := C.ls
    refine add_lists e4 e3 (by rw [List.length_map, List.length_map]; lia) fun t4 ht4 => ?_
    simp only [Out.val]
    refine hQ t4 _ h3.tmp (f1.trans (f2.trans (f3.trans (.tmp ht4)))) ?_
    rw [set_same, List.map_append]

theorem c_unset_at {x k : Int} (h : Holds i NF H σ) (w : Wfs H) (hc : ∀ n, H.valOf x = .cell n → ContOk (H.cont x n) k) (hQ : Ret i σ Q (H.dUnsetAt x k).1 (H.dUnsetAt x k).2) : wpFn prg (d + 6) "unset_at" [hp i, .int x, .int k] σ Q := by
  refine fn_intro rfl rfl ?_
  dsimp? only [d_unset_at]
  refine c_has_elements (d := d) h w.ref ?_
  refine tru_in ?_
  cases q : H.valOf x with
  | int z =>
    simp only [Bool.not_false, Out.val]
    have e : H.dUnsetAt x k = (H, []) := by unfold HS.dUnsetAt; rw [q]
    rw [e] at hQ
    exact .inl fun t ht => hQ t _ h.tmp (.tmp ht) set_same
  | cell n =>
    simp only [Bool.not_true]
    have e : H.dUnsetAt x k = (if (vget ((H.cont x n).2.1.cell (H.cont x n).1).slots k).isSome then (H.cont x n).2.1.setC (H.cont x n).1 { (H.cont x n).2.1.cell (H.cont x n).1 with slots := vdel ((H.cont x n).2.1.cell (H.cont x n).1).slots k } else (H.cont x n).2.1,
      (H.cont x n).2.2 ++ olds ((H.cont x n).2.1.cell (H.cont x n).1).slots k) := by unfold HS.dUnsetAt; rw [q]
    rw [e] at hQ
    have C := hc n q
    refine c_container (d := d) (n := n) h w q fun t σ2 h2 f2 e2 => ?_
    simp only [itemsFit, List.length_cons, List.length_nil, reduceIte, Option.some.injEq, exists_eq_left', vcase_some, String.reduceBEq, cond_true, cond_false, updAll_cons, updAll_nil, upd, String.reduceEq]
    refine attr_in (h2.cSlots C.mem) ?_
    refine c_taken_out (d := d + 4) (h2.slots _ C.mem) fun t3 ht3 => ?_
    have l1 := olds_length ((H.cont x n).2.1.cell (H.cont x n).1).slots k
    have l2 := C.ls
    have tt : t ≠ t3 := fun q => by rw [q, ht3] at e2; cases e2
    generalize hS : (if (vget ((H.cont x n).2.1.cell (H.cont x n).1).slots k).isSome = true then σ2.set (.obj i (.slots (H.cont x n).1)) (.dict (ents (vdel ((H.cont x n).2.1.cell (H.cont x n).1).slots k)) false) else σ2) = σ3
    have hS2 : Holds i NF (if (vget ((H.cont x n).2.1.cell (H.cont x n).1).slots k).isSome then (H.cont x n).2.1.setC (H.cont x n).1 { (H.cont x n).2.1.cell (H.cont x n).1 with slots := vdel ((H.cont x n).2.1.cell (H.cont x n).1).slots k } else (H.cont x n).2.1) σ3 ∧ Fr (Own i) σ2 σ3 := by
      rw [← hS]
      split
      · exact ⟨h2.setSlots C.mem _, .set ⟨_, rfl⟩⟩
      · exact ⟨h2, .refl⟩
    have e4 : (σ3.set (.tmp t3) (.list ((olds ((H.cont x n).2.1.cell (H.cont x n).1).slots k).map Val.av))) (.tmp t) = some (.list ((H.cont x n).2.2.map Val.av)) := by
      rw [set_ne (by simpa using tt), hS2.2 (.tmp t) (by rintro ⟨_, q⟩; cases q) (.inl (by rw [e2]; simp))]; exact e2
    have ht3' : σ3 (.tmp t3) = none := by
      rw [← hS]
      split
      · rw [set_ne (by simp)]; exact ht3
      · exact ht3
    refine add_lists e4 set_same (by rw [List.length_map, List.length_map]; lia) fun t4 ht4 => ?_
    simp only [Out.val]
    refine hQ t4 _ hS2.1.tmp.tmp (f2.trans (hS2.2.trans ((Fr.tmp ht3').trans (.tmp ht4)))) ?_
    rw [set_same, List.map_append]

theorem c_take {x y k : Int} (h : Holds i NF H σ) (w : Wfs H) (hQ : Ret i σ Q (H.dTake x y k).1 (H.dTake x y k).2) : wpFn prg (d + 6) "take" [hp i, .int x, .int y, .int k] σ Q := by
  refine fn_intro rfl rfl ?_
  dsimp? only [d_take]
  refine c_has_elements (d := d) h w.ref ?_
  refine tru_in ?_
  have fin : wpFn prg (d + 5) "gain" [hp i, (H.takeVal y k).av] σ fun v σ' => wpFn prg (d + 5) "written" [hp i, .ref (.obj i .vars), .int x, v] σ' fun v σ' => Q v σ' := by
    refine c_gain (d := d + 3) h fun σ2 h2 f2 => ?_
    exact c_written_vars (d := d + 2) h2 (w.gain _).ref (Nat.lt_trans (w.gain _).vl (by decide)) fun t σ3 h3 f3 e3 => hQ t σ3 h3 (f2.trans f3) e3
  cases q : H.valOf y with
  | int z =>
    simp only
    refine attr_in h.aVars ?_
    have e : H.takeVal y k = .int 0 := by unfold HS.takeVal; rw [q]
    rw [e] at fin
    exact fin
  | cell n =>
    obtain ⟨hn, hnr⟩ := w.valOf q
    have e : H.takeVal y k = H.inner ((vget (H.cell n).slots k).getD (.int 0)) := by unfold HS.takeVal; rw [q]
    rw [e] at fin
    simp only
    refine c_value_of (d := d + 1) h w.ref ?_
    rw [q]
    refine c_cell_of (d := d + 4) (v := .cell n) h ?_
    simp only [hn, if_true]
    refine attr_in (h.cSlots hn) ?_; refine kind_in (kind_dict (h.slots n hn)) ?_
    refine ⟨rfl, kind_dict (h.slots n hn), ?_⟩
    rw [get2_dict (h.slots n hn), dget_av]
    have e2 : ((vget (H.cell n).slots k).map Val.av).getD (AV.tup [AV.str "int", AV.int 0]) = ((vget (H.cell n).slots k).getD (.int 0)).av := by
      cases vget (H.cell n).slots k <;> rfl
    rw [e2]
    refine c_inner (d := d + 2) h w.ref ?_
    refine attr_in h.aVars ?_
    exact fin

inductive Deed
  | newArr (a : Int) | newObj (a : Int) | setInt (a n : Int) | assign (a b : Int) | put (a k b : Int) | take (a b k : Int) | ref (a b : Int) | unsetAt (a k : Int) | unset (a : Int)
noncomputable def Deed.av : Deed → AV
  | .newArr a => .tup [.str "new_array", .tup [.int a]]
  | .newObj a => .tup [.str "new_object", .tup [.int a, .bool false]]
  | .setInt a n => .tup [.str "set_int", .tup [.int a, .int n]]
  | .assign a b => .tup [.str "assign", .tup [.int a, .int b]]
  | .put a k b => .tup [.str "put", .tup [.int a, .int k, .int b]]
  | .take a b k => .tup [.str "take", .tup [.int a, .int b, .int k]]
  | .ref a b => .tup [.str "make_ref", .tup [.int a, .int b]]
  | .unsetAt a k => .tup [.str "unset_at", .tup [.int a, .int k]]
  | .unset a => .tup [.str "unset", .tup [.int a]]
noncomputable def Deed.nm : Deed → AV
  | .newArr _ => .str "new_array"
  | .newObj _ => .str "new_object"
  | .setInt _ _ => .str "set_int"
  | .assign _ _ => .str "assign"
  | .put _ _ _ => .str "put"
  | .take _ _ _ => .str "take"
  | .ref _ _ => .str "make_ref"
  | .unsetAt _ _ => .str "unset_at"
  | .unset _ => .str "unset"
noncomputable def Deed.args : Deed → AV
  | .newArr a => .tup [.int a]
  | .newObj a => .tup [.int a, .bool false]
  | .setInt a n => .tup [.int a, .int n]
  | .assign a b => .tup [.int a, .int b]
  | .put a k b => .tup [.int a, .int k, .int b]
  | .take a b k => .tup [.int a, .int b, .int k]
  | .ref a b => .tup [.int a, .int b]
  | .unsetAt a k => .tup [.int a, .int k]
  | .unset a => .tup [.int a]
theorem Deed.av_eq (D : Deed) : D.av = .tup [D.nm, D.args] := by cases D <;> rfl
noncomputable def HS.deed (H : HS) : Deed → HS × List Val
  | .newArr a => H.dNew .arr a
  | .newObj a => H.dNew .obj a
  | .setInt a n => H.dSet a n
  | .assign a b => H.dAssign a b
  | .put a k b => H.dPut a k b
  | .take a b k => H.dTake a b k
  | .ref a b => H.dRef a b
  | .unsetAt a k => H.dUnsetAt a k
  | .unset a => H.dUnset a

structure DeedOk (H : HS) (D : Deed) : Prop where
  put : ∀ x k y n, D = .put x k y → H.valOf x = .cell n → ContOk ((H.gain (H.valOf y)).cont x n) k
  del : ∀ x k n, D = .unsetAt x k → H.valOf x = .cell n → ContOk (H.cont x n) k
  ref : ∀ x y, D = .ref x y → (H.refIn y).1.vars.length < 60000

theorem disp_f {F : FnSem} {m : Loc} {x s : String} {b rest : Sts} {P : Out → Loc → Sto → Prop} (hm : m "name" = some (.str x)) (hn : decide (x = s) = false) (h : wpSs F rest m σ P) : wpSs F (.cons (.ite (.cmp .eq (.var "name") (.cst (.str s))) b .nil) rest) m σ P := by
  show vcase (m "name") _
  rw [hm]
  show (match decide (x = s) with | true => _ | false => _)
  rw [hn]; exact h
theorem disp_t {F : FnSem} {m : Loc} {x s f : String} {es : Exs} {rest : Sts} {P : Out → Loc → Sto → Prop} (hm : m "name" = some (.str x)) (hn : decide (x = s) = true) (h : wpEs F es m σ fun vs σ' => F f vs σ' fun v τ => P (.ret v) m τ) : wpSs F (.cons (.ite (.cmp .eq (.var "name") (.cst (.str s))) (.cons (.ret (.call f es)) .nil) .nil) rest) m σ P := by
  show vcase (m "name") _
  rw [hm]
  show (match decide (x = s) with | true => _ | false => _)
  rw [hn]; exact h
theorem sub2_in {x y z : AV} {xs : List AV} {P : AV → Prop} (h : P z) : wpSub (.tup (x :: y :: z :: xs)) (.int 2) σ P := ⟨by decide, by decide, _, rfl, h⟩
theorem c_change {D : Deed} (h : Holds i NF H σ) (w : Wfs H) (hd : DeedOk H D) (hQ : Ret i σ Q (H.deed D).1 (H.deed D).2) : wpFn prg (d + 7) "change" [hp i, D.nm, D.args] σ Q := by
  refine fn_intro rfl rfl ?_
  cases D with
  | setInt a n => exact disp_t rfl rfl (sub0_in (σ := σ) (sub1_in (σ := σ) (c_set_int (d := d) h w hQ)))
  | newArr a => exact disp_f rfl rfl (disp_t rfl rfl (sub0_in (σ := σ) (c_new_array (d := d) h w hQ)))
  | newObj a => exact disp_f rfl rfl (disp_f rfl rfl (disp_t rfl rfl (sub0_in (σ := σ) (sub1_in (σ := σ) (c_new_object (d := d) h w hQ)))))
  | assign a b => exact disp_f rfl rfl (disp_f rfl rfl (disp_f rfl rfl (disp_t rfl rfl (sub0_in (σ := σ) (sub1_in (σ := σ) (c_assign (d := d) h w hQ))))))
  | put a k b => exact disp_f rfl rfl (disp_f rfl rfl (disp_f rfl rfl (disp_f rfl rfl (disp_t rfl rfl (sub0_in (σ := σ) (sub1_in (σ := σ) (sub2_in (σ := σ) (c_put (d := d) h w (fun n e => hd.put _ _ _ n rfl e) hQ))))))))
  | take a b k => exact disp_f rfl rfl (disp_f rfl rfl (disp_f rfl rfl (disp_f rfl rfl (disp_f rfl rfl (disp_t rfl rfl (sub0_in (σ := σ) (sub1_in (σ := σ) (sub2_in (σ := σ) (c_take (d := d) h w hQ)))))))))
  | ref a b => exact disp_f rfl rfl (disp_f rfl rfl (disp_f rfl rfl (disp_f rfl rfl (disp_f rfl rfl (disp_f rfl rfl (disp_t rfl rfl (sub0_in (σ := σ) (sub1_in (σ := σ) (c_make_ref (d := d) h w (hd.ref _ _ rfl) hQ)))))))))
  | unset a => exact disp_f rfl rfl (disp_f rfl rfl (disp_f rfl rfl (disp_f rfl rfl (disp_f rfl rfl (disp_f rfl rfl (disp_f rfl rfl (disp_f rfl rfl (disp_t rfl rfl (sub0_in (σ := σ) (c_unset (d := d) h hQ))))))))))
  | unsetAt a k => exact disp_f rfl rfl (disp_f rfl rfl (disp_f rfl rfl (disp_f rfl rfl (disp_f rfl rfl (disp_f rfl rfl (disp_f rfl rfl (disp_f rfl rfl (disp_f rfl rfl (disp_t rfl rfl (sub0_in (σ := σ) (sub1_in (σ := σ) (c_unset_at (d := d) h w (fun n e => hd.del _ _ n rfl e) hQ))))))))))))
end
end Gc
end
/- GcC9 -/
section
set_option backward.dsimp.useDefEqAttr false
namespace Gc
noncomputable def HS.mark (H : HS) (m : Int) : HS := if (H.cell m).bufd then H else { H.setC m { H.cell m with col := .purple, bufd := true } with buf := H.buf ++ [m] }
noncomputable def HS.suspect (H : HS) (n : Int) : HS := if (H.cell n).sort = .ref then (match vget (H.cell n).slots 0 with | some (.cell m) => if m ∈ H.keys then H.mark m else H | _ => H) else H.mark n
noncomputable def HS.free (H : HS) (n : Int) : HS := { H.delC n with buf := if (H.cell n).bufd then H.buf.erase n else H.buf, freed := H.freed + 1, logn := H.logn + 1 }
noncomputable def vals (l : List (Int × Val)) : List Val := l.map (·.2)
noncomputable def HS.decr (H : HS) (n : Int) : HS := H.setC n { H.cell n with count := (H.cell n).count - 1 }
noncomputable def HS.lose (H : HS) : Val → HS × List Val
  | .int _ => (H, [])
  | .cell n => if n ∈ H.keys then (if (H.cell n).count - 1 > 0 then ((H.decr n).suspect n, []) else ((H.decr n).free n, vals (H.cell n).slots)) else (H, [])
noncomputable def loseAV (v : Val) : AV := .tup [.str "lose", v.av]

section
variable {i : Nat} {fz : Int → Bool} {H : HS} {σ : Sto} {d : Nat} {Q : AV → Sto → Prop}

theorem c_wants {n : Int} (h : Holds i fz H σ) (hn : n ∈ H.keys) (hQ : Q (.bool false) σ) : wpFn prg (d + 1) "wants_destructor" [cr i n] σ Q := by
  refine fn_intro rfl rfl ?_
  dsimp? only [d_wants_destructor]
  refine attr_in (h.cHas hn) ?_; refine tru_in ?_
  exact hQ

theorem c_held_by {n : Int} (h : Holds i fz H σ) (hn : n ∈ H.keys) (hnd : ((H.cell n).slots.map (·.1)).Nodup) (hl : (H.cell n).slots.length < 60000)
    (hQ : ∀ k σ', σ (.tmp k) = none → σ' (.tmp k) = some (.list ((vals (H.cell n).slots).map Val.av)) → (∀ a, a ≠ .tmp k → σ' a = σ a) → Q (.ref (.tmp k)) σ') : wpFn prg (d + 1) "held_by" [hp i, cr i n] σ Q := by
  refine fn_intro rfl rfl ?_
  dsimp? only [d_held_by]
  rw [wE22]; refine ⟨rfl, ?_⟩
  dsimp? only []
  refine attr_in h.aTables ?_
  refine ⟨[], by simp [itemsOf, h.tables], by simp [frz, h.tables], .inl fun k hk => ?_⟩
  refine compL_nil (by simp [sameSrc, set_ne]) set_same ?_
  have h1 : Holds i fz H (σ.set (.tmp k) (.list [])) := h.tmp
  refine for_slots h1 hn (by simp [upd]) (fun r m τ => ∃ pre, (H.cell n).slots = pre ++ r ∧ m "cell" = some (cr i n) ∧ m "found" = some (.ref (.tmp k)) ∧ τ (.tmp k) = some (.list ((vals pre).map Val.av)) ∧
    (∀ a, a ≠ .tmp k → τ a = (σ.set (.obj i (.slots n)) (.dict (ents (H.cell n).slots) true)) a)) ⟨[], rfl, by simp [upd], by simp [upd], by rw [set_ne (by simp)]; exact set_same, fun a ha => ?_⟩ ?_ ?_ ?_
  · by_cases q : a = .obj i (.slots n)
    · subst q; rw [set_same, set_same]
    · rw [set_ne q, set_ne q, set_ne ha]
  · rintro r m τ ⟨pre, e, m1, m2, e1, e2⟩
    rw [e2 _ (by simp), set_same]
  · rintro p r m τ ⟨pre, e, m1, m2, e1, e2⟩
    have eg : vget (H.cell n).slots p.1 = some p.2 := by rw [e] at hnd ⊢; exact vget_mid hnd
    have ea : getsAttr (cr i n) "slots" τ = some (.ref (.obj i (.slots n))) := by
      unfold getsAttr
      simp only [e2 (.obj i (.cell n)) (by simp), set_ne (show Name.obj i (.cell n) ≠ .obj i (.slots n) by simp), h.cell n hn, cAO]
      rfl
    have es : τ (.obj i (.slots n)) = some (.dict (ents (H.cell n).slots) true) := by rw [e2 _ (by simp), set_same]
    dsimp? only [m1, m2]
    refine kind_in (kind_list e1) ?_
    refine ⟨rfl, ?_⟩
    refine attr_in ea ?_; refine subd_in es (by rw [dget_av, eg]; rfl) ?_
    have hpl : pre.length ≤ (H.cell n).slots.length := by rw [e]; simp
    refine ⟨kind_list e1, ?_⟩
    refine app_in e1 (by simp [vals]; lia) ?_
    refine ⟨trivial, r, rfl, pre ++ [p], by rw [e]; simp, trivial, trivial, ?_, fun a ha => ?_⟩
    · rw [set_same]; simp [vals]
    · rw [set_ne ha]; exact e2 a ha
  · rintro m τ ⟨pre, e, m1, m2, e1, e2⟩
    simp only [m2, Option.some.injEq, exists_eq_left', vcase_some, String.reduceBEq, cond_true, cond_false, Out.val]
    rw [List.append_nil] at e
    refine hQ k _ hk ?_ fun a ha => ?_
    · rw [set_ne (by simp), e1, ← e]
    · by_cases q : a = .obj i (.slots n)
      · subst q; rw [set_same]; exact (h.slots n hn).symm
      · rw [set_ne q, e2 a ha, set_ne q]

theorem c_cleared {n : Int} (h : σ (.obj i .tables) = some (.list [])) (h2 : getsAttr (hp i) "tables" σ = some (.ref (.obj i .tables))) (hQ : ∀ k, σ (.tmp k) = none → Q (.ref (.tmp k)) (σ.set (.tmp k) (.list []))) : wpFn prg (d + 1) "cleared" [hp i, .int n] σ Q := by
  refine fn_intro rfl rfl ?_
  dsimp? only [d_cleared]
  refine .inl fun k hk => ?_
  dsimp only
  rw [wS14, src_attr]
  dsimp? only []
  have a1 : getsAttr (hp i) "tables" (σ.set (.tmp k) (.list [])) = some (.ref (.obj i .tables)) := by
    have : (σ.set (.tmp k) (.list [])) (.obj i .heap) = σ (.obj i .heap) := set_ne (by simp)
    unfold getsAttr at h2 ⊢
    simp only [this]
    exact h2
  have a2 : (σ.set (.tmp k) (.list [])) (.obj i .tables) = some (.list []) := (set_ne (by simp)).trans h
  refine attr_in a1 ?_
  have f0 : frz (.ref (.obj i .tables)) (σ.set (.tmp k) (.list [])) = σ.set (.tmp k) (.list []) := by simp [frz, a2]
  have u0 : ∀ τ, unfrz (.ref (.obj i .tables)) (σ.set (.tmp k) (.list [])) τ = τ := fun τ => by simp [unfrz, a2]
  refine ⟨[], by simp [itemsOf, a2], ?_⟩
  rw [f0]
  refine forL_nil rfl ?_
  rw [u0]
  exact hQ k hk

theorem c_suspect {n : Int} (h : Holds i NF H σ) (hr : H.RefOk) (hn : n ∈ H.keys) (hb : H.buf.length < 60000) (hQ : ∀ σ', Holds i NF (H.suspect n) σ' → Fr (Own i) σ σ' → Q .none σ') : wpFn prg (d + 2) "suspect" [hp i, cr i n] σ Q := by
  refine fn_intro rfl rfl ?_
  dsimp? only [d_suspect]
  have mk : ∀ m ∈ H.keys, H.suspect n = H.mark m → ∃ r, getsAttr (cr i m) "is_buffered" σ = some r ∧ ∃ t, truthy r σ = some t ∧ (match !t with
      | true => wpSetAttr (cr i m) "colour" (.str "purple") σ fun σ4 => wpSetAttr (cr i m) "is_buffered" (.bool true) σ4 fun σ6 => ∃ r, getsAttr (hp i) "buffer" σ6 = some r ∧ ∃ k, kindOf r σ6 = some k ∧ methOn .append k = true ∧
          ∃ r_1, getsAttr (cr i m) "number" σ6 = some r_1 ∧ kindOf r σ6 = some k ∧ wpMeth .append r [r_1] σ6 fun v σ' => Q .none σ'
      | false => Q .none σ) := by
    intro m hm e
    rw [e] at hQ
    refine attr_in (h.cBufd hm) ?_; refine tru_in ?_
    cases q : (H.cell m).bufd with
    | true =>
      simp only [Bool.not_true]
      refine hQ σ ?_ .refl
      unfold HS.mark; rw [q, if_pos rfl]; exact h
    | false =>
      simp only [Bool.not_false]
      have e1 := (sa_colour (c := .purple) (P := fun σ4 => wpSetAttr (cr i m) "is_buffered" (.bool true) σ4 fun σ6 => ∃ r, getsAttr (hp i) "buffer" σ6 = some r ∧ ∃ k, kindOf r σ6 = some k ∧ methOn .append k = true ∧
          ∃ r_1, getsAttr (cr i m) "number" σ6 = some r_1 ∧ kindOf r σ6 = some k ∧ wpMeth .append r [r_1] σ6 fun v σ' => Q .none σ') h hm).mpr
      refine e1 ?_
      have h1 := h.setCell (c := { H.cell m with col := .purple }) hm rfl
      rw [sa_bufd h1 hm, HS.setC_same]
      have h2 := h1.setCell (n := m) (c := { H.cell m with col := .purple, bufd := true }) hm (by rw [HS.setC_same])
      refine attr_in h2.aBuffer ?_; refine kind_in (kind_list h2.buf) ?_
      refine ⟨rfl, ?_⟩
      refine attr_in (h2.cNumber hm) ?_
      refine ⟨kind_list h2.buf, ?_⟩
      refine app_in h2.buf (by rw [List.length_map]; exact Nat.lt_trans hb (by decide)) ?_
      have h3 := h2.setBuf (H.buf ++ [m])
      rw [List.map_append] at h3
      refine hQ _ ?_ ((Fr.set ⟨_, rfl⟩).trans ((Fr.set ⟨_, rfl⟩).trans (.set ⟨_, rfl⟩)))
      unfold HS.mark
      rw [q, if_neg (by simp)]
      have e5 : ((H.setC m { H.cell m with col := .purple }).setC m { H.cell m with col := .purple, bufd := true }) = H.setC m { H.cell m with col := .purple, bufd := true } := by
        unfold HS.setC
        congr 1
        funext k
        by_cases q : k = m
        · simp [q]
        · simp [q]
      rw [e5] at h3
      exact h3
  refine attr_in (h.cSort hn) ?_
  by_cases hs : (H.cell n).sort = .ref
  · obtain ⟨u, hu⟩ := hr n hn hs
    rw [hs]
    simp only [Srt.s, cmp_eq_int, cmp_ne_int, cmp_lt_int, cmp_gt_int, cmp_ge_int, cmp_eq_str, cmp_ne_str, cmp_is_n, cmp_is_r, cmp_isnot_n, cmp_isnot_r, decide_true]
    refine attr_in (h.cSlots hn) ?_; refine subd_in (v := u.av) (h.slots n hn) (by rw [dget_av, hu]; rfl) ?_
    refine c_cell_of (d := d) h ?_
    have eg : vget (H.cell n).slots 0 = some u := by rw [hu]; rfl
    cases u with
    | int k =>
      simp only [cmp_eq_int, cmp_ne_int, cmp_lt_int, cmp_gt_int, cmp_ge_int, cmp_eq_str, cmp_ne_str, cmp_is_n, cmp_is_r, cmp_isnot_n, cmp_isnot_r, Out.val]
      refine hQ σ ?_ .refl
      unfold HS.suspect; rw [if_pos hs, eg]; exact h
    | cell m =>
      by_cases hm : m ∈ H.keys
      · simp only [hm, if_true, cmp_eq_int, cmp_ne_int, cmp_lt_int, cmp_gt_int, cmp_ge_int, cmp_eq_str, cmp_ne_str, cmp_is_n, cmp_is_r, cmp_isnot_n, cmp_isnot_r, Out.val]
        have := mk m hm (by unfold HS.suspect; rw [if_pos hs, eg]; simp [hm])
        exact this
      · simp only [hm, if_false, cmp_eq_int, cmp_ne_int, cmp_lt_int, cmp_gt_int, cmp_ge_int, cmp_eq_str, cmp_ne_str, cmp_is_n, cmp_is_r, cmp_isnot_n, cmp_isnot_r, Out.val]
        refine hQ σ ?_ .refl
        unfold HS.suspect; rw [if_pos hs, eg]; simp only [hm, if_false]; exact h
  · have hne : (H.cell n).sort.s ≠ "ref" := by cases q : (H.cell n).sort <;> simp_all [Srt.s]
    simp only [cmp_eq_int, cmp_ne_int, cmp_lt_int, cmp_gt_int, cmp_ge_int, cmp_eq_str, cmp_ne_str, cmp_is_n, cmp_is_r, cmp_isnot_n, cmp_isnot_r, hne, decide_false, Out.val]
    exact mk n hn (by unfold HS.suspect; rw [if_neg hs])
end
end Gc
end
/- GcC10 -/
section
set_option backward.dsimp.useDefEqAttr false
namespace Gc
section
variable {i : Nat} {fz : Int → Bool} {H : HS} {σ : Sto} {d : Nat} {Q : AV → Sto → Prop}

theorem at_heap {σ' : Sto} {a : String} (e : σ' (.obj i .heap) = σ (.obj i .heap)) : getsAttr (hp i) a σ' = getsAttr (hp i) a σ := by
  unfold getsAttr; simp only [e]
theorem at_cell {σ' : Sto} {n : Int} {a : String} {c : String} {fs : List (String × AV)} {v : AV} (e : σ' (.obj i (.cell n)) = some (.inst c fs)) (h : (if a ∈ attrsOf c then fget fs a else none) = some v) : getsAttr (cr i n) a σ' = some v := by
  unfold getsAttr; simp only [e]; exact h
theorem remove_list {a : Name} {ns : List Int} {k : Int} {P : AV → Sto → Prop} (e : σ a = some (.list (ns.map .int))) (hk : k ∈ ns) (h : P .none (σ.set a (.list ((ns.erase k).map .int)))) : wpMeth .remove (.ref a) [.int k] σ P := ⟨ns, e, hk, h⟩
theorem del_dict {a : Name} {es : List (Int × AV)} {k : Int} {P : Sto → Prop} (e : σ a = some (.dict es false)) (e2 : (dget es k).isSome = true) (h : P (σ.set a (.dict (ddel es k) false))) : wpDelSub (.ref a) (.int k) σ P := ⟨es, e, e2, h⟩

theorem fset_le : ∀ (fs : List (String × AV)) (x : String) (v : AV), (fset fs x v).length ≤ fs.length + 1 := by
  intro fs x v
  induction fs with
  | nil => exact Nat.le_refl _
  | cons p r ih =>
    obtain ⟨a, b⟩ := p
    unfold fset
    by_cases q : (a == x) = true
    · rw [if_pos q]; exact Nat.le_succ _
    · rw [if_neg q]; exact Nat.succ_le_succ ih
theorem fget_ne {x y : String} {v : AV} (fs : List (String × AV)) (h : (x == y) = false) : fget (fset fs x v) y = fget fs y := by
  induction fs with
  | nil => unfold fget fset; rw [List.find?_cons, h]
  | cons p r ih =>
    obtain ⟨a, b⟩ := p
    unfold fset
    by_cases q : (a == x) = true
    · rw [if_pos q]
      unfold fget
      rw [List.find?_cons, List.find?_cons]
      dsimp only
      rw [show (a == y) = false from (beq_iff_eq.mp q) ▸ h]
    · rw [if_neg q]
      unfold fget at ih ⊢
      rw [List.find?_cons, List.find?_cons]
      dsimp only
      cases (a == y) with
      | true => rfl
      | false => exact ih
theorem fget_same {x : String} {v : AV} (fs : List (String × AV)) : fget (fset fs x v) x = some v := by
  induction fs with
  | nil => unfold fget fset; rw [List.find?_cons, beq_self_eq_true]; rfl
  | cons p r ih =>
    obtain ⟨a, b⟩ := p
    unfold fset
    by_cases q : (a == x) = true
    · rw [if_pos q]; unfold fget; rw [List.find?_cons, q]; rfl
    · rw [if_neg q]
      unfold fget at ih ⊢
      rw [List.find?_cons]
      dsimp only
      rw [Bool.eq_false_iff.mpr q]
      exact ih
structure FcS (i : Nat) (n : Int) (H : HS) (t : Nat) (l : List AV) (b : Bool) (c : Nat) (σ0 base : Sto) (fs : List (String × AV)) : Prop where
  h : Holds i NF H base
  e : base (.tmp t) = some (.list l)
  f : Fr (Own i) σ0 base
  k : fget fs "number" = some (.int n)
  kb : fget fs "is_buffered" = some (.bool b)
  ln : fs.length ≤ c
section
variable {n : Int} {t c : Nat} {l : List AV} {b : Bool} {σ0 base : Sto} {fs : List (String × AV)} {P : Sto → Prop}
theorem FcS.start (h : Holds i NF H base) (hn : n ∈ H.keys) (e : base (.tmp t) = some (.list l)) (f : Fr (Own i) σ0 base) {x : String} {v : AV} (hx : x ∈ attrsOf "Cell") (h1 : (x == "number") = false) (h2 : (x == "is_buffered") = false)
    (hP : ∀ fs, FcS i n H t l (H.cell n).bufd 11 σ0 base fs → P (base.set (.obj i (.cell n)) (.inst "Cell" fs))) : wpSetAttr (cr i n) x v base P := by
  have hc := h.cell n hn
  unfold cAO at hc
  exact (sa_gen hc hx (by decide : 10 < 100)).mpr (hP _ ⟨h, e, f, (fget_ne _ h1).trans rfl, (fget_ne _ h2).trans rfl, fset_le _ _ _⟩)
theorem FcS.set (I : FcS i n H t l b c σ0 base fs) {x : String} {v : AV} (hx : x ∈ attrsOf "Cell") (h1 : (x == "number") = false) (h2 : (x == "is_buffered") = false) (hc : c < 99)
    (hP : ∀ fs, FcS i n H t l b (c + 1) σ0 base fs → P (base.set (.obj i (.cell n)) (.inst "Cell" fs))) : wpSetAttr (cr i n) x v (base.set (.obj i (.cell n)) (.inst "Cell" fs)) P :=
  (sa_cell hx (Nat.lt_of_le_of_lt I.ln (Nat.lt_succ_of_lt hc))).mpr (hP _ ⟨I.h, I.e, I.f, (fget_ne _ h1).trans I.k, (fget_ne _ h2).trans I.kb, Nat.le_trans (fset_le _ _ _) (Nat.succ_le_succ I.ln)⟩)
theorem FcS.num (I : FcS i n H t l b c σ0 base fs) : getsAttr (cr i n) "number" (base.set (.obj i (.cell n)) (.inst "Cell" fs)) = some (.int n) := at_cell set_same (by rw [if_pos (by decide), I.k])
theorem FcS.new {k : Nat} {o : AO} (I : FcS i n H t l b c σ0 base fs) (hk : base (.tmp k) = none) : FcS i n H t l b c σ0 (base.set (.tmp k) o) fs :=
  ⟨I.h.tmp, (set_ne (fun q => by have e := I.e; rw [q, hk] at e; exact nomatch e)).trans I.e, I.f.trans (.tmp hk), I.k, I.kb, I.ln⟩
structure FcD (i : Nat) (n : Int) (H : HS) (fr : Int) (lg : List AV) (t : Nat) (l : List AV) (fs : List (String × AV)) (base τ : Sto) : Prop where
  hh : τ (.obj i .heap) = some (hAO i { H with freed := fr })
  hl : τ (.obj i .log) = some (.list lg)
  hc : τ (.obj i .cells) = some (.dict ((H.keys.filter fun k => decide (k ≠ n)).map fun n => (n, cr i n)) false)
  cl : τ (.obj i (.cell n)) = some (.inst "Cell" fs)
  o : ∀ t, t ≠ .heap → t ≠ .log → t ≠ .cells → t ≠ .cell n → τ (.obj i t) = base (.obj i t)
  e : τ (.tmp t) = some (.list l)
  x : Fr (Own i) base τ
theorem FcS.del {lg : List AV} (I : FcS i n H t l b c σ0 base fs) (hlg : base (.obj i .log) = some (.list lg)) : FcD i n H H.freed lg t l fs base ((base.set (.obj i (.cell n)) (.inst "Cell" fs)).set (.obj i .cells) (.dict ((H.keys.filter fun k => decide (k ≠ n)).map fun n => (n, cr i n)) false)) :=
  ⟨(set_ne (fun q => by cases q)).trans ((set_ne (fun q => by cases q)).trans I.h.heap), (set_ne (fun q => by cases q)).trans ((set_ne (fun q => by cases q)).trans hlg), set_same, (set_ne (fun q => by cases q)).trans set_same,
    fun t _ _ h1 h2 => (set_ne (fun q => h1 (by cases q; rfl))).trans (set_ne (fun q => h2 (by cases q; rfl))), (set_ne (fun q => by cases q)).trans ((set_ne (fun q => by cases q)).trans I.e), (Fr.set ⟨_, rfl⟩).trans (.set ⟨_, rfl⟩)⟩
variable {fr : Int} {lg : List AV} {τ : Sto}
theorem FcD.freed (D : FcD i n H fr lg t l fs base τ) : FcD i n H (fr + 1) lg t l fs base (τ.set (.obj i .heap) (hAO i { H with freed := fr + 1 })) :=
  ⟨set_same, (set_ne (fun q => by cases q)).trans D.hl, (set_ne (fun q => by cases q)).trans D.hc, (set_ne (fun q => by cases q)).trans D.cl, fun t h1 h2 h3 h4 => (set_ne (fun q => h1 (by cases q; rfl))).trans (D.o t h1 h2 h3 h4), (set_ne (fun q => by cases q)).trans D.e, D.x.trans (.set ⟨_, rfl⟩)⟩
theorem FcD.logd {v : AV} (D : FcD i n H fr lg t l fs base τ) : FcD i n H fr (lg ++ [v]) t l fs base (τ.set (.obj i .log) (.list (lg ++ [v]))) :=
  ⟨(set_ne (fun q => by cases q)).trans D.hh, set_same, (set_ne (fun q => by cases q)).trans D.hc, (set_ne (fun q => by cases q)).trans D.cl, fun t h1 h2 h3 h4 => (set_ne (fun q => h2 (by cases q; rfl))).trans (D.o t h1 h2 h3 h4), (set_ne (fun q => by cases q)).trans D.e, D.x.trans (.set ⟨_, rfl⟩)⟩
theorem FcD.holds (D : FcD i n H fr lg t l fs base τ) (h : Holds i NF H base) (hn : n ∈ H.keys) : Holds i NF (({ H with freed := fr, logn := lg.length } : HS).delC n) τ := by
  have b2 := (h.setHeap H.last fr (Int.le_refl _)).setLog lg
  refine b2.deleted (n := n) D.hc (h.top n hn) fun t q1 q2 q3 => ?_
  by_cases ql : t = .log
  · rw [ql, set_same]; exact D.hl
  · rw [set_ne (by simpa using ql)]
    by_cases qh : t = .heap
    · rw [qh, set_same]; exact D.hh
    · rw [set_ne (by simpa using qh)]; exact D.o t qh ql q1 q2
theorem fc_rest {m : Loc} (hn : n ∈ H.keys) (I : FcS i n H t l b c σ0 base fs) (hc : c < 99) (hlog : H.logn < 60000) (m1 : m "heap" = some (hp i)) (m2 : m "cell" = some (cr i n)) (m3 : m "losses" = some (.ref (.tmp t)))
    (hQ : ∀ τ, Holds i NF (({ H with freed := H.freed + 1, logn := H.logn + 1 } : HS).delC n) τ → Fr (Own i) σ0 τ → τ (.tmp t) = some (.list l) → Q (.ref (.tmp t)) τ) :
    wpL (wpFn prg d) (.cons (.setAttr (.var "cell") "is_freed" (.cst (.bool true))) <| .cons (.delSub (.attr (.var "heap") "cells") (.attr (.var "cell") "number")) <| .cons (.aug (.var "heap") "freed" .add (.cst (.int 1))) <|
  .cons (.expr (.meth (.attr (.var "heap") "log") .append (.cons (.tup (.cons (.cst (.str "free")) (.cons (.attr (.var "cell") "number") .nil))) .nil))) <| .cons (.ret (.var "losses")) <| .nil) m (base.set (.obj i (.cell n)) (.inst "Cell" fs)) fun o _ σ' => Q o.val σ' := by
  refine nx ?_
  simp? only [m2]
  refine I.set (by decide) (by decide) (by decide) hc fun fs I => nx ?_
  obtain ⟨lg, el, hlg⟩ := I.h.log
  have a1 : getsAttr (hp i) "cells" (base.set (.obj i (.cell n)) (.inst "Cell" fs)) = some (.ref (.obj i .cells)) := (at_heap (set_ne (fun q => by cases q))).trans I.h.aCells
  simp? only [m1, m2]
  refine attr_in a1 (attr_in I.num (del_dict ((set_ne (fun q => by cases q)).trans I.h.cells) (by rw [dget_keys hn]; rfl) (nx ?_)))
  rw [ddel_keys]
  have D := I.del hlg
  generalize (base.set (.obj i (.cell n)) (.inst "Cell" fs)).set (.obj i .cells) (.dict ((H.keys.filter fun k => decide (k ≠ n)).map fun n => (n, cr i n)) false) = τ at D ⊢
  have hh := D.hh
  unfold hAO at hh
  have a3 : getsAttr (hp i) "freed" τ = some (.int H.freed) := (at_heap (D.hh.trans I.h.heap.symm)).trans I.h.aFreed
  simp? only [m1]
  refine attr_in a3 ⟨H.freed, 1, rfl, rfl, add_in ((sa_gen hh (by decide) (by decide : 9 < 100)).mpr (nx ?_))⟩
  have D2 := D.freed
  change wpSs (wpFn prg d) _ m (τ.set (.obj i .heap) (hAO i { H with freed := H.freed + 1 })) _
  generalize τ.set (.obj i .heap) (hAO i { H with freed := H.freed + 1 }) = τ2 at D2 ⊢
  have a4 : getsAttr (hp i) "log" τ2 = some (.ref (.obj i .log)) := by unfold getsAttr; dsimp only; rw [D2.hh]; rfl
  simp? only [m1, m2]
  refine attr_in a4 (methl_in D2.hl rfl (attr_in (at_cell D2.cl (by rw [if_pos (by decide), I.k])) ⟨kind_list D2.hl, app_in D2.hl (by rw [el]; exact Nat.lt_trans hlog (by decide)) (nx ?_)⟩))
  simp? only [m3]
  have D3 := D2.logd (v := AV.tup [.str "free", .int n])
  have h3 := D3.holds I.h hn
  rw [List.length_append, el] at h3
  exact hQ _ h3 (I.f.trans D3.x) D3.e
end
theorem c_free_cell {n : Int} (h : Holds i NF H σ) (hn : n ∈ H.keys) (hnd : ((H.cell n).slots.map (·.1)).Nodup) (hl : (H.cell n).slots.length < 60000) (hb : (H.cell n).bufd = true → n ∈ H.buf) (hlog : H.logn < 60000)
    (hQ : ∀ t σ', σ (.tmp t) = none → Holds i NF (H.free n) σ' → Fr (Own i) σ σ' → σ' (.tmp t) = some (.list ((vals (H.cell n).slots).map Val.av)) → Q (.ref (.tmp t)) σ') : wpFn prg (d + 2) "free_cell" [hp i, cr i n] σ Q := by
  refine fn_intro rfl rfl ?_
  simp? only [d_free_cell]
  refine c_held_by (d := d) h hn hnd hl fun t σ1 ht e1 f1 => nx ?_
  have h1 : Holds i NF H σ1 := h.fr (X := fun a => a = .tmp t) (fun a ha _ => f1 a ha) (fun t q => nomatch q)
  have f1' : Fr (Own i) σ σ1 := fun a _ hx => f1 a fun q => by
    rcases hx with hx | ⟨_, _, hx⟩
    · exact hx (q ▸ ht)
    · rw [q] at hx; exact nomatch hx
  simp? only []
  refine attr_in (h1.cNumber hn) (c_cleared (d := d) h1.tables h1.aTables fun t2 ht2 => nx ?_)
  have e2 : (σ1.set (.tmp t2) (.list [])) (.tmp t) = some (.list ((vals (H.cell n).slots).map Val.av)) := (set_ne (fun q => by rw [q, ht2] at e1; exact nomatch e1)).trans e1
  have h2 := h1.tmp (k := t2) (o := .list [])
  have f2 := f1'.trans (Fr.tmp (o := .list []) ht2)
  generalize σ1.set (.tmp t2) (.list []) = σ2 at e2 h2 f2 ⊢
  simp? only []
  refine FcS.start h2 hn e2 f2 (by decide) (by decide) (by decide) fun fs I => nx ?_
  simp? only []
  refine .inl fun t3 ht3 => ?_
  rw [set_comm (fun q => by cases q)]
  have I3 := I.new (o := .dict [] false) ((set_ne (fun q => by cases q)).symm.trans ht3)
  clear ht3 I
  generalize σ2.set (.tmp t3) (.dict [] false) = σ3 at I3 ⊢
  refine I3.set (by decide) (by decide) (by decide) (by decide) fun fs I => nx ?_
  simp? only []
  refine attr_in (at_cell set_same (by rw [if_pos (by decide), I.kb])) (tru_in ?_)
  have eq : ∀ l, l = (if (H.cell n).bufd then H.buf.erase n else H.buf) → (({ ({ H with buf := l } : HS) with freed := H.freed + 1, logn := H.logn + 1 } : HS).delC n) = H.free n := fun l e => by rw [e]; rfl
  cases q : (H.cell n).bufd with
  | false =>
    refine fc_rest hn I (by decide) hlog rfl rfl rfl fun τ hτ fτ eτ => hQ t τ ht ?_ fτ eτ
    rw [← eq H.buf (by rw [q]; rfl)]; exact hτ
  | true =>
    refine nx ?_
    simp? only []
    refine (sa_cell (by decide) (Nat.lt_of_le_of_lt I.ln (by decide))).mpr (nx ?_)
    have I4 : FcS i n { H with buf := H.buf.erase n } t _ false 13 σ (σ3.set (.obj i (.buf H.ep)) (.list ((H.buf.erase n).map .int))) (fset fs "is_buffered" (.bool false)) :=
      ⟨I.h.setBuf _, (set_ne (fun q => by cases q)).trans I.e, I.f.trans (.set ⟨_, rfl⟩), (fget_ne _ (by decide)).trans I.k, fget_same fs, Nat.le_trans (fset_le _ _ _) (Nat.succ_le_succ I.ln)⟩
    have a1 : getsAttr (hp i) "buffer" (σ3.set (.obj i (.cell n)) (.inst "Cell" (fset fs "is_buffered" (.bool false)))) = some (.ref (.obj i (.buf H.ep))) := (at_heap (set_ne (fun q => by cases q))).trans I.h.aBuffer
    have a3 : (σ3.set (.obj i (.cell n)) (.inst "Cell" (fset fs "is_buffered" (.bool false)))) (.obj i (.buf H.ep)) = some (.list (H.buf.map .int)) := (set_ne (fun q => by cases q)).trans I.h.buf
    have a2 : getsAttr (cr i n) "number" (σ3.set (.obj i (.cell n)) (.inst "Cell" (fset fs "is_buffered" (.bool false)))) = some (.int n) := at_cell set_same (by rw [if_pos (by decide), I4.k])
    simp? only []
    refine attr_in a1 (methl_in a3 rfl (attr_in a2 ⟨kind_list a3, remove_list a3 (hb q) ?_⟩))
    rw [set_comm (fun q => by cases q)]
    refine fc_rest (H := { H with buf := H.buf.erase n }) hn I4 (by decide) hlog rfl rfl rfl fun τ hτ fτ eτ => hQ t τ ht ?_ fτ eτ
    rw [← eq (H.buf.erase n) (by rw [q]; rfl)]; exact hτ
end
end Gc
end
/- GcD1 -/
section
namespace Gc

noncomputable def inc (n : Int) (l : List (Int × Val)) : Nat := l.countP fun p => decide (p.2 = .cell n)
noncomputable def incS (n : Int) (S : List Val) : Nat := S.countP fun v => decide (v = .cell n)
noncomputable def ksum (f : Int → Nat) (ks : List Int) : Nat := (ks.map f).sum
noncomputable def HS.refs (H : HS) (n : Int) : Nat := inc n H.vars + ksum (fun m => inc n (H.cell m).slots) H.keys

inductive Rch (H : HS) (R : Val → Prop) : Int → Prop
  | root {n : Int} : R (.cell n) → Rch H R n
  | step {m n : Int} {p : Int × Val} : Rch H R m → m ∈ H.keys → p ∈ (H.cell m).slots → p.2 = .cell n → Rch H R n

noncomputable def HS.roots (H : HS) (S : List Val) (v : Val) : Prop := (∃ p ∈ H.vars, p.2 = v) ∨ v ∈ S ∨ ∃ n ∈ H.buf, v = .cell n

structure Gr (B : Int) (H : HS) : Prop where
  nd : H.keys.Nodup
  rng : ∀ n ∈ H.keys, 1 ≤ n ∧ n ≤ H.last
  cl : ∀ n ∈ H.keys, ∀ p ∈ (H.cell n).slots, ∀ k, p.2 = .cell k → k ∈ H.keys
  clv : ∀ p ∈ H.vars, ∀ k, p.2 = .cell k → k ∈ H.keys
  ref : H.RefOk
  nr : ∀ n ∈ H.keys, ∀ p ∈ (H.cell n).slots, H.isRef p.2 = false
  snd : ∀ n ∈ H.keys, ((H.cell n).slots.map (·.1)).Nodup ∧ ∀ p ∈ (H.cell n).slots, 0 ≤ p.1 ∧ p.1 < 3
  vnd : (H.vars.map (·.1)).Nodup ∧ ∀ p ∈ H.vars, 0 ≤ p.1 ∧ p.1 < 5
  num : H.freed + H.keys.length = H.last
  frd : 0 ≤ H.freed
  log : (H.logn : Int) ≤ H.last + H.freed
  lb : H.last ≤ B

structure Ok (B : Int) (H : HS) (S : List Val) : Prop extends Gr B H where
  cnt : ∀ n ∈ H.keys, (H.cell n).count = ((H.refs n + incS n S : Nat) : Int)
  bnd : H.buf.Nodup
  buf : ∀ n, n ∈ H.buf ↔ n ∈ H.keys ∧ (H.cell n).bufd = true
  col : ∀ n ∈ H.keys, (H.cell n).col ≠ .grey ∧ (H.cell n).col ≠ .white
  root : ∀ n ∈ H.keys, Rch H (H.roots S) n

/- sums -/
theorem ksum_congr {f g : Int → Nat} {ks : List Int} (h : ∀ m ∈ ks, f m = g m) : ksum f ks = ksum g ks := by
  unfold ksum; rw [List.map_congr_left h]
theorem ksum_cons (f : Int → Nat) (k : Int) (ks : List Int) : ksum f (k :: ks) = f k + ksum f ks := by simp [ksum]
theorem ksum_append (f : Int → Nat) (a b : List Int) : ksum f (a ++ b) = ksum f a + ksum f b := by simp [ksum]
theorem ksum_upd {f g : Int → Nat} {n : Int} : ∀ {ks : List Int}, ks.Nodup → n ∈ ks → (∀ m ∈ ks, m ≠ n → g m = f m) → ksum g ks + f n = ksum f ks + g n
  | k :: ks, hnd, hm, h => by
    have hnd' := List.nodup_cons.mp hnd
    rw [ksum_cons, ksum_cons]
    by_cases q : k = n
    · subst q
      have : ksum g ks = ksum f ks := ksum_congr fun m hm' => h m (.tail _ hm') fun e => hnd'.1 (e ▸ hm')
      lia
    · have hm' : n ∈ ks := by
        rcases List.mem_cons.mp hm with e | e
        · exact absurd e.symm q
        · exact e
      have ih := ksum_upd hnd'.2 hm' fun m hm h' => h m (.tail _ hm) h'
      have := h k (.head _) q
      lia
theorem ksum_del {f : Int → Nat} {n : Int} : ∀ {ks : List Int}, ks.Nodup → n ∈ ks → ksum f (ks.filter fun k => decide (k ≠ n)) + f n = ksum f ks
  | k :: ks, hnd, hm => by
    have hnd' := List.nodup_cons.mp hnd
    rw [ksum_cons]
    by_cases q : k = n
    · subst q
      have : ks.filter (fun j => decide (j ≠ k)) = ks := List.filter_eq_self.mpr fun m hm' => by
        simp only [decide_eq_true_eq]
        rintro rfl
        exact hnd'.1 hm'
      rw [List.filter_cons_of_neg (by simp), this]; lia
    · have hm' : n ∈ ks := by
        rcases List.mem_cons.mp hm with e | e
        · exact absurd e.symm q
        · exact e
      rw [List.filter_cons_of_pos (by simpa using q), ksum_cons]
      have ih := ksum_del (f := f) hnd'.2 hm'
      lia
theorem ksum_ge {f : Int → Nat} {n : Int} : ∀ {ks : List Int}, n ∈ ks → f n ≤ ksum f ks
  | k :: ks, hm => by
    rw [ksum_cons]
    rcases List.mem_cons.mp hm with e | e
    · subst e; lia
    · have := ksum_ge (f := f) e; lia

theorem ksum_one (l : List Int) : ksum (fun _ => 1) l = l.length := by
  induction l with
  | nil => rfl
  | cons x r ih => rw [ksum_cons, ih, List.length_cons]; lia
theorem inc_cons (n : Int) (p : Int × Val) (l : List (Int × Val)) : inc n (p :: l) = (if p.2 = .cell n then 1 else 0) + inc n l := by
  unfold inc; rw [List.countP_cons]; simp only [decide_eq_true_eq]; lia
theorem inc_pos {n : Int} {l : List (Int × Val)} {p : Int × Val} (h : p ∈ l) (e : p.2 = .cell n) : 0 < inc n l := by
  unfold inc; rw [List.countP_pos_iff]; exact ⟨p, h, by simpa using e⟩
theorem inc_ex {n : Int} {l : List (Int × Val)} (h : 0 < inc n l) : ∃ p ∈ l, p.2 = .cell n := by
  unfold inc at h
  obtain ⟨p, a, b⟩ := List.countP_pos_iff.mp h
  exact ⟨p, a, by simpa using b⟩
theorem incS_cons (n : Int) (v : Val) (S : List Val) : incS n (v :: S) = (if v = .cell n then 1 else 0) + incS n S := by
  unfold incS; rw [List.countP_cons]; simp only [decide_eq_true_eq]; lia
theorem incS_append (n : Int) (a b : List Val) : incS n (a ++ b) = incS n a + incS n b := by unfold incS; rw [List.countP_append]
theorem incS_pos {n : Int} {S : List Val} (h : .cell n ∈ S) : 0 < incS n S := by
  unfold incS; rw [List.countP_pos_iff]; exact ⟨_, h, by simp⟩
theorem incS_ex {n : Int} {S : List Val} (h : 0 < incS n S) : .cell n ∈ S := by
  unfold incS at h
  obtain ⟨p, a, b⟩ := List.countP_pos_iff.mp h
  have : p = .cell n := by simpa using b
  exact this ▸ a
theorem incS_vals (n : Int) (l : List (Int × Val)) : incS n (vals l) = inc n l := by
  unfold incS vals inc; rw [List.countP_map]; rfl
theorem mem_vals {l : List (Int × Val)} {v : Val} : v ∈ vals l ↔ ∃ p ∈ l, p.2 = v := by simp [vals]

theorem Rch.conv {H : HS} {R : Val → Prop} {T : Int → Prop} (hcl : ∀ n ∈ H.keys, ∀ p ∈ (H.cell n).slots, ∀ k, p.2 = .cell k → k ∈ H.keys) (h0 : ∀ n, R (.cell n) → n ∈ H.keys → T n)
    (h1 : ∀ m n p, T m → m ∈ H.keys → p ∈ (H.cell m).slots → p.2 = .cell n → n ∈ H.keys → T n) {n : Int} (h : Rch H R n) : n ∈ H.keys → T n := by
  induction h with
  | root r => exact fun hk => h0 _ r hk
  | step _ hm hp e ih => exact fun hk => h1 _ _ _ (ih hm) hm hp e hk

structure SameG (H H' : HS) : Prop where
  keys : H'.keys = H.keys
  vars : H'.vars = H.vars
  last : H'.last = H.last
  freed : H'.freed = H.freed
  logn : H'.logn = H.logn
  cell : ∀ n, (H'.cell n).sort = (H.cell n).sort ∧ (H'.cell n).slots = (H.cell n).slots
theorem SameG.refl {H : HS} : SameG H H := ⟨rfl, rfl, rfl, rfl, rfl, fun _ => ⟨rfl, rfl⟩⟩
theorem SameG.trans {H H' H'' : HS} (a : SameG H H') (b : SameG H' H'') : SameG H H'' :=
  ⟨b.keys.trans a.keys, b.vars.trans a.vars, b.last.trans a.last, b.freed.trans a.freed, b.logn.trans a.logn, fun n => ⟨(b.cell n).1.trans (a.cell n).1, (b.cell n).2.trans (a.cell n).2⟩⟩
theorem SameG.isRef {H H' : HS} (s : SameG H H') (v : Val) : H'.isRef v = H.isRef v := by
  cases v with
  | int k => rfl
  | cell k => simp only [HS.isRef, s.keys, (s.cell k).1]
theorem SameG.refs {H H' : HS} (s : SameG H H') (n : Int) : H'.refs n = H.refs n := by
  unfold HS.refs
  rw [s.vars, s.keys, ksum_congr fun m _ => by rw [(s.cell m).2]]
theorem Gr.same {B : Int} {H H' : HS} (g : Gr B H) (s : SameG H H') : Gr B H' where
  nd := by rw [s.keys]; exact g.nd
  rng := by rw [s.keys, s.last]; exact g.rng
  cl n hn p hp k e := by rw [s.keys] at hn ⊢; rw [(s.cell n).2] at hp; exact g.cl n hn p hp k e
  clv := by rw [s.keys, s.vars]; exact g.clv
  ref n hn hs := by rw [s.keys] at hn; rw [(s.cell n).1] at hs; rw [(s.cell n).2]; exact g.ref n hn hs
  nr n hn p hp := by rw [s.keys] at hn; rw [(s.cell n).2] at hp; rw [s.isRef]; exact g.nr n hn p hp
  snd n hn := by rw [s.keys] at hn; rw [(s.cell n).2]; exact g.snd n hn
  vnd := by rw [s.vars]; exact g.vnd
  num := by rw [s.keys, s.last, s.freed]; exact g.num
  frd := by rw [s.freed]; exact g.frd
  log := by rw [s.last, s.freed, s.logn]; exact g.log
  lb := by rw [s.last]; exact g.lb
theorem Rch.same {H H' : HS} (s : SameG H H') {R R' : Val → Prop} (hR : ∀ n, R (.cell n) → Rch H' R' n) {n : Int} (h : Rch H R n) : Rch H' R' n := by
  induction h with
  | root r => exact hR _ r
  | step _ hm hp e ih => exact .step ih (by rw [s.keys]; exact hm) (by rw [(s.cell _).2]; exact hp) e

theorem nodup_len {l : List Int} {a : Int} {k : Nat} (hnd : l.Nodup) (h : ∀ x ∈ l, a ≤ x ∧ x < a + k) : l.length ≤ k := by
  have key : ∀ (k : Nat) (l : List Int), l.Nodup → (∀ x ∈ l, a ≤ x ∧ x < a + k) → l.length ≤ k := by
    intro k
    induction k with
    | zero =>
      intro l _ h
      cases l with
      | nil => exact Nat.le_refl _
      | cons x r => have := h x (.head _); lia
    | succ k ih =>
      intro l hnd h
      have h2 := ih (l.filter fun x => decide (x ≠ a + k)) (hnd.filter _) fun x hx => by
        obtain ⟨hx1, hx2⟩ := List.mem_filter.mp hx
        have := h x hx1
        simp only [decide_eq_true_eq] at hx2
        lia
      by_cases hm : (a + (k : Int)) ∈ l
      · have := ksum_del (f := fun _ => 1) hnd hm
        rw [ksum_one, ksum_one] at this
        lia
      · have : l.filter (fun x => decide (x ≠ a + k)) = l := List.filter_eq_self.mpr fun x hx => by
          simp only [decide_eq_true_eq]
          rintro rfl
          exact hm hx
        rw [this] at h2; lia
  exact key k l hnd h

theorem Gr.keysLen {B : Int} {H : HS} (g : Gr B H) : (H.keys.length : Int) ≤ H.last := by have := g.num; have := g.frd; lia
theorem Gr.slotsLen {B : Int} {H : HS} (g : Gr B H) {n : Int} (hn : n ∈ H.keys) : (H.cell n).slots.length ≤ 3 := by
  have := nodup_len (a := 0) (k := 3) (g.snd n hn).1 fun x hx => by
    obtain ⟨p, hp, rfl⟩ := List.mem_map.mp hx
    have := (g.snd n hn).2 p hp
    lia
  simpa using this
theorem Gr.varsLen {B : Int} {H : HS} (g : Gr B H) : H.vars.length ≤ 5 := by
  have := nodup_len (a := 0) (k := 5) g.vnd.1 fun x hx => by
    obtain ⟨p, hp, rfl⟩ := List.mem_map.mp hx
    have := g.vnd.2 p hp
    lia
  simpa using this
theorem Ok.bufLen {B : Int} {H : HS} {S : List Val} (o : Ok B H S) : (H.buf.length : Int) ≤ H.last := by
  have hl := o.keysLen
  have : 0 ≤ H.last := by lia
  have := nodup_len (a := 1) (k := H.last.toNat) o.bnd fun x hx => by
    have := o.rng x ((o.buf x).mp hx).1
    lia
  lia
theorem Gr.wfs {B : Int} {H : HS} (g : Gr B H) (hB : B ≤ 1000) (hb : H.buf.length < 50000) : Wfs H where
  kl := by have := g.keysLen; have := g.lb; lia
  vl := by have := g.varsLen; lia
  gl := by have := g.log; have := g.num; have := g.lb; lia
  bl := hb
  sl n hn := by have := g.slotsLen hn; lia
  ref := g.ref
  nd n hn := (g.snd n hn).1
  cl := g.cl
  nr := g.nr
  clv := g.clv
theorem Ok.wfs {B : Int} {H : HS} {S : List Val} (o : Ok B H S) (hB : B ≤ 1000) : Wfs H := o.toGr.wfs hB (by have := o.bufLen; have := o.lb; lia)

theorem setC_graph {H : HS} {n : Int} {c : Cl} (hs : c.sort = (H.cell n).sort) (hl : c.slots = (H.cell n).slots) : SameG H (H.setC n c) :=
  ⟨rfl, rfl, rfl, rfl, rfl, fun k => by
    by_cases q : k = n
    · subst q; rw [HS.setC_same]; exact ⟨hs, hl⟩
    · rw [HS.setC_ne _ _ q]; exact ⟨rfl, rfl⟩⟩
theorem mark_graph (H : HS) (m : Int) : SameG H (H.mark m) := by
  unfold HS.mark
  split
  · exact .refl
  · exact ⟨rfl, rfl, rfl, rfl, rfl, (setC_graph (H := H) (n := m) (c := { H.cell m with col := .purple, bufd := true }) rfl rfl).cell⟩
theorem suspect_graph (H : HS) (n : Int) : SameG H (H.suspect n) := by
  unfold HS.suspect
  split
  · split
    · split
      · exact mark_graph H _
      · exact .refl
    · exact .refl
  · exact mark_graph H n

theorem mark_facts {H : HS} {m : Int} (hm : m ∈ H.keys) (bnd : H.buf.Nodup) (buf : ∀ n, n ∈ H.buf ↔ n ∈ H.keys ∧ (H.cell n).bufd = true) (col : ∀ n ∈ H.keys, (H.cell n).col ≠ .grey ∧ (H.cell n).col ≠ .white) :
    (H.mark m).buf.Nodup ∧ (∀ n, n ∈ (H.mark m).buf ↔ n ∈ (H.mark m).keys ∧ ((H.mark m).cell n).bufd = true) ∧ (∀ n ∈ (H.mark m).keys, ((H.mark m).cell n).col ≠ .grey ∧ ((H.mark m).cell n).col ≠ .white) ∧
      (∀ n, ((H.mark m).cell n).count = (H.cell n).count) ∧ (∀ n ∈ H.buf, n ∈ (H.mark m).buf) ∧ m ∈ (H.mark m).buf := by
  unfold HS.mark
  cases q : (H.cell m).bufd with
  | true =>
    rw [if_pos rfl]
    exact ⟨bnd, buf, col, fun _ => rfl, fun _ h => h, (buf m).mpr ⟨hm, q⟩⟩
  | false =>
    rw [if_neg (by simp)]
    have nm : m ∉ H.buf := fun h => by have := (buf m).mp h; rw [q] at this; cases this.2
    refine ⟨?_, fun n => ?_, fun n hn => ?_, fun n => ?_, fun n hn => List.mem_append.mpr (.inl hn), by simp⟩
    · show (H.buf ++ [m]).Nodup
      rw [List.nodup_append]
      exact ⟨bnd, by simp, fun a ha b hb => by rw [List.mem_singleton.mp hb]; rintro rfl; exact nm ha⟩
    · show n ∈ H.buf ++ [m] ↔ n ∈ H.keys ∧ ((H.setC m { H.cell m with col := .purple, bufd := true }).cell n).bufd = true
      by_cases e : n = m
      · subst e; rw [HS.setC_same]; simp [hm]
      · rw [HS.setC_ne _ _ e]
        simp [e]
        exact buf n
    · show ((H.setC m { H.cell m with col := .purple, bufd := true }).cell n).col ≠ .grey ∧ ((H.setC m { H.cell m with col := .purple, bufd := true }).cell n).col ≠ .white
      by_cases e : n = m
      · subst e; rw [HS.setC_same]; simp
      · rw [HS.setC_ne _ _ e]; exact col n hn
    · show ((H.setC m { H.cell m with col := .purple, bufd := true }).cell n).count = _
      by_cases e : n = m
      · subst e; rw [HS.setC_same]
      · rw [HS.setC_ne _ _ e]

theorem mem_filter_ne {ks : List Int} {n k : Int} : k ∈ ks.filter (fun j => decide (j ≠ n)) ↔ k ∈ ks ∧ k ≠ n := by
  rw [List.mem_filter]; simp

theorem Ok.lose {B : Int} {H : HS} {v : Val} {S : List Val} (o : Ok B H (v :: S)) : Ok B (H.lose v).1 ((H.lose v).2 ++ S) := by
  have dead : (∀ n ∈ H.keys, v ≠ .cell n) → Ok B H S := by
    intro hv
    refine ⟨o.toGr, fun n hn => ?_, o.bnd, o.buf, o.col, fun n hn => ?_⟩
    · have := o.cnt n hn
      rw [incS_cons, if_neg (hv n hn)] at this
      rw [this]; congr 1; lia
    · refine Rch.conv (T := Rch H (H.roots S)) o.cl (fun n r hk => ?_) (fun m n p hT hm hp e _ => .step hT hm hp e) (o.root n hn) hn
      rcases r with r | r | r
      · exact .root (.inl r)
      · rcases List.mem_cons.mp r with e | r
        · exact absurd e.symm (hv n hk)
        · exact .root (.inr (.inl r))
      · exact .root (.inr (.inr r))
  cases v with
  | int k => exact dead fun n _ q => by cases q
  | cell n =>
    unfold HS.lose
    by_cases hn : n ∈ H.keys
    · simp only [hn, if_true]
      have cn := o.cnt n hn
      rw [incS_cons, if_pos rfl] at cn
      by_cases hc : (H.cell n).count - 1 > 0
      · simp only [hc, if_true, List.nil_append]
        -- the count stays above nought
        have g1 : SameG H (H.decr n) := setC_graph rfl rfl
        have b1 : ∀ k, k ∈ (H.decr n).buf ↔ k ∈ (H.decr n).keys ∧ ((H.decr n).cell k).bufd = true := fun k => by
          show k ∈ H.buf ↔ k ∈ H.keys ∧ ((H.setC n _).cell k).bufd = true
          by_cases e : k = n
          · subst e; rw [HS.setC_same]; exact o.buf k
          · rw [HS.setC_ne _ _ e]; exact o.buf k
        have c1 : ∀ k ∈ (H.decr n).keys, ((H.decr n).cell k).col ≠ .grey ∧ ((H.decr n).cell k).col ≠ .white := fun k hk => by
          show ((H.setC n _).cell k).col ≠ .grey ∧ ((H.setC n _).cell k).col ≠ .white
          by_cases e : k = n
          · subst e; rw [HS.setC_same]; exact o.col k hk
          · rw [HS.setC_ne _ _ e]; exact o.col k hk
        have n1 : ∀ k ∈ H.keys, ((H.decr n).cell k).count = ((H.refs k + incS k S : Nat) : Int) := fun k hk => by
          show ((H.setC n _).cell k).count = _
          by_cases e : k = n
          · subst e; rw [HS.setC_same]; simp only; lia
          · rw [HS.setC_ne _ _ e]
            have := o.cnt k hk
            rw [incS_cons, if_neg (by simpa using fun q => e q.symm)] at this
            rw [this]; congr 1; lia
        have g2 := suspect_graph (H.decr n) n
        have g := g1.trans g2
        have facts : ∀ m ∈ H.keys, (H.decr n).suspect n = (H.decr n).mark m → (∀ k ∈ H.keys, Rch H (H.roots (.cell n :: S)) k → Rch ((H.decr n).suspect n) (((H.decr n).suspect n).roots S) k) → Ok B ((H.decr n).suspect n) S := by
          intro m hm e hr
          obtain ⟨f1, f2, f3, f4, f5, f6⟩ := mark_facts (H := H.decr n) (m := m) hm o.bnd b1 c1
          rw [← e] at f1 f2 f3 f4 f5 f6
          refine ⟨o.toGr.same g, fun k hk => ?_, f1, f2, f3, fun k hk => ?_⟩
          · rw [g.keys] at hk
            rw [f4, n1 k hk, g.refs]
          · rw [g.keys] at hk
            exact hr k hk (o.root k hk)
        by_cases hs : (H.cell n).sort = .ref
        · -- a reference: still held by a variable, or by what is pending
          have hz : ∀ m ∈ H.keys, inc n (H.cell m).slots = 0 := fun m hm => by
            rcases Nat.eq_zero_or_pos (inc n (H.cell m).slots) with z | z
            · exact z
            · obtain ⟨p, hp, e⟩ := inc_ex z
              have := o.nr m hm p hp
              rw [e] at this
              simp [HS.isRef, hn, hs] at this
          have hsum : ksum (fun m => inc n (H.cell m).slots) H.keys = 0 := by
            have : ksum (fun m => inc n (H.cell m).slots) H.keys = ksum (fun _ => 0) H.keys := ksum_congr hz
            rw [this]
            unfold ksum
            generalize H.keys = l
            induction l with
            | nil => rfl
            | cons _ _ ih => simpa using ih
          have hroot : ∀ H' : HS, SameG H H' → H'.roots S (.cell n) := by
            intro H' gg
            have : 0 < inc n H.vars ∨ 0 < incS n S := by
              have := cn
              unfold HS.refs at this
              rw [hsum] at this
              lia
            rcases this with z | z
            · obtain ⟨p, hp, e⟩ := inc_ex z
              exact .inl ⟨p, by rw [gg.vars]; exact hp, e⟩
            · exact .inr (.inl (incS_ex z))
          have conv : ∀ (H' : HS), SameG H H' → (∀ k ∈ H.buf, k ∈ H'.buf) → ∀ k, Rch H (H.roots (.cell n :: S)) k → Rch H' (H'.roots S) k := by
            intro H' gg hb k hk
            refine Rch.same gg (fun j r => ?_) hk
            rcases r with ⟨p, hp, e⟩ | r | ⟨j', hj, e⟩
            · exact .root (.inl ⟨p, by rw [gg.vars]; exact hp, e⟩)
            · rcases List.mem_cons.mp r with e | r
              · cases e; exact .root (hroot H' gg)
              · exact .root (.inr (.inl r))
            · exact .root (.inr (.inr ⟨j', hb j' hj, e⟩))
          obtain ⟨u, hu⟩ := o.ref n hn hs
          have e1 : ((H.decr n).cell n).sort = .ref := (g1.cell n).1.trans hs
          have e2 : vget ((H.decr n).cell n).slots 0 = some u := by rw [(g1.cell n).2, hu]; rfl
          cases u with
          | int k =>
            have e3 : (H.decr n).suspect n = H.decr n := by unfold HS.suspect; rw [if_pos e1, e2]
            rw [e3]
            exact ⟨o.toGr.same g1, fun k hk => by rw [g1.refs]; exact n1 k hk, o.bnd, b1, c1, fun k hk => conv _ g1 (fun k hk => hk) k (o.root k hk)⟩
          | cell m =>
            have hm : m ∈ H.keys := o.cl n hn (0, .cell m) (by rw [hu]; simp) m rfl
            have e3 : (H.decr n).suspect n = (H.decr n).mark m := by
              unfold HS.suspect
              rw [if_pos e1, e2]
              exact if_pos hm
            refine facts m hm e3 fun k hk r => conv _ g (fun j hj => ?_) k r
            rw [e3]
            exact (mark_facts (H := H.decr n) (m := m) hm o.bnd b1 c1).2.2.2.2.1 j hj
        · have e1 : ((H.decr n).cell n).sort ≠ .ref := by rw [(g1.cell n).1]; exact hs
          have e3 : (H.decr n).suspect n = (H.decr n).mark n := by unfold HS.suspect; rw [if_neg e1]
          obtain ⟨f1, f2, f3, f4, f5, f6⟩ := mark_facts (H := H.decr n) (m := n) hn o.bnd b1 c1
          rw [← e3] at f5 f6
          refine facts n hn e3 fun k hk r => Rch.same g (fun j r => ?_) r
          rcases r with ⟨p, hp, e⟩ | r | ⟨j', hj, e⟩
          · exact .root (.inl ⟨p, by rw [g.vars]; exact hp, e⟩)
          · rcases List.mem_cons.mp r with e | r
            · cases e; exact .root (.inr (.inr ⟨n, f6, rfl⟩))
            · exact .root (.inr (.inl r))
          · exact .root (.inr (.inr ⟨j', f5 j' hj, e⟩))
      · simp only [hc, if_false]
        -- nobody holds it
        have h0 : H.refs n = 0 ∧ incS n S = 0 := by lia
        have hv0 : inc n H.vars = 0 := by have := h0.1; unfold HS.refs at this; lia
        have hs0 : ∀ m ∈ H.keys, inc n (H.cell m).slots = 0 := fun m hm => by
          have := h0.1
          unfold HS.refs at this
          have := ksum_ge (f := fun m => inc n (H.cell m).slots) hm
          lia
        have noS : ∀ m ∈ H.keys, ∀ p ∈ (H.cell m).slots, p.2 ≠ .cell n := fun m hm p hp e => by
          have := inc_pos hp e
          rw [hs0 m hm] at this; lia
        have noV : ∀ p ∈ H.vars, p.2 ≠ .cell n := fun p hp e => by
          have := inc_pos hp e
          lia
        have ek : ((H.decr n).free n).keys = H.keys.filter fun k => decide (k ≠ n) := rfl
        have ec : ∀ k, k ≠ n → ((H.decr n).free n).cell k = H.cell k := fun k hk => HS.setC_ne _ _ hk
        have mk : ∀ k, k ∈ ((H.decr n).free n).keys ↔ k ∈ H.keys ∧ k ≠ n := fun k => by rw [ek]; exact mem_filter_ne
        have eb : ((H.decr n).free n).buf = if (H.cell n).bufd then H.buf.erase n else H.buf := by
          show (if ((H.setC n _).cell n).bufd = true then H.buf.erase n else H.buf) = _
          rw [HS.setC_same]
        have mb : ∀ k, k ∈ ((H.decr n).free n).buf ↔ k ∈ H.buf ∧ k ≠ n := fun k => by
          rw [eb]
          split
          · rw [List.Nodup.mem_erase_iff o.bnd]; exact ⟨fun h => ⟨h.2, h.1⟩, fun h => ⟨h.2, h.1⟩⟩
          · rename_i q
            refine ⟨fun h => ⟨h, ?_⟩, fun h => h.1⟩
            rintro rfl
            exact q ((o.buf k).mp h).2
        have isr : ∀ u, H.isRef u = false → ((H.decr n).free n).isRef u = false := fun u hu => by
          cases u with
          | int k => rfl
          | cell k =>
            simp only [HS.isRef] at hu ⊢
            by_cases q : k ∈ ((H.decr n).free n).keys
            · rw [ec k ((mk k).mp q).2]
              have := (mk k).mp q
              simp only [this.1, decide_true, Bool.true_and] at hu
              rw [hu, Bool.and_false]
            · simp [q]
        have hlen := ksum_del (f := fun _ => 1) o.nd hn
        rw [ksum_one, ksum_one] at hlen
        refine ⟨⟨?_, fun k hk => ?_, fun k hk p hp j e => ?_, fun p hp j e => ?_, fun k hk hs => ?_, fun k hk p hp => ?_, fun k hk => ?_, o.vnd, ?_, ?_, ?_, o.lb⟩, fun k hk => ?_, ?_, fun k => ?_, fun k hk => ?_, fun k hk => ?_⟩
        · rw [ek]; exact o.nd.filter _
        · exact o.rng k ((mk k).mp hk).1
        · obtain ⟨h1, h2⟩ := (mk k).mp hk
          rw [ec k h2] at hp
          refine (mk j).mpr ⟨o.cl k h1 p hp j e, ?_⟩
          rintro rfl
          exact noS k h1 p hp e
        · refine (mk j).mpr ⟨o.clv p hp j e, ?_⟩
          rintro rfl
          exact noV p hp e
        · obtain ⟨h1, h2⟩ := (mk k).mp hk
          rw [ec k h2] at hs ⊢
          exact o.ref k h1 hs
        · obtain ⟨h1, h2⟩ := (mk k).mp hk
          rw [ec k h2] at hp
          exact isr _ (o.nr k h1 p hp)
        · obtain ⟨h1, h2⟩ := (mk k).mp hk
          rw [ec k h2]; exact o.snd k h1
        · have := o.num
          show H.freed + 1 + ((H.keys.filter fun k => decide (k ≠ n)).length : Int) = H.last
          lia
        · have := o.frd
          show 0 ≤ H.freed + 1
          lia
        · have := o.log
          show ((H.logn + 1 : Nat) : Int) ≤ H.last + (H.freed + 1)
          lia
        · obtain ⟨h1, h2⟩ := (mk k).mp hk
          rw [ec k h2, o.cnt k h1, incS_cons, if_neg (by simpa using fun q => h2 q.symm), incS_append, incS_vals]
          have e1 : ((H.decr n).free n).refs k + inc k (H.cell n).slots = H.refs k := by
            unfold HS.refs
            rw [ek]
            have d := ksum_del (f := fun m => inc k (H.cell m).slots) o.nd hn
            have d2 : ksum (fun m => inc k (((H.decr n).free n).cell m).slots) (H.keys.filter fun j => decide (j ≠ n)) = ksum (fun m => inc k (H.cell m).slots) (H.keys.filter fun j => decide (j ≠ n)) :=
              ksum_congr fun m hm => by rw [ec m (mem_filter_ne.mp hm).2]
            rw [d2]
            have ev : ((H.decr n).free n).vars = H.vars := rfl
            rw [ev]
            lia
          congr 1
          lia
        · rw [eb]
          split
          · exact o.bnd.erase _
          · exact o.bnd
        · rw [mb, mk, o.buf]
          constructor
          · rintro ⟨⟨h1, h2⟩, h3⟩; exact ⟨⟨h1, h3⟩, by rw [ec k h3]; exact h2⟩
          · rintro ⟨⟨h1, h3⟩, h2⟩; rw [ec k h3] at h2; exact ⟨⟨h1, h2⟩, h3⟩
        · obtain ⟨h1, h2⟩ := (mk k).mp hk
          rw [ec k h2]; exact o.col k h1
        · obtain ⟨h1, h2⟩ := (mk k).mp hk
          refine Rch.conv (T := fun k => k ≠ n → Rch ((H.decr n).free n) (((H.decr n).free n).roots (vals (H.cell n).slots ++ S)) k) o.cl (fun j r hj hjn => ?_) (fun m j p hT hm hp e hj hjn => ?_) (o.root k h1) h1 h2
          · rcases r with r | r | ⟨j', hj', e⟩
            · exact .root (.inl r)
            · rcases List.mem_cons.mp r with e | r
              · cases e; exact absurd rfl hjn
              · exact .root (.inr (.inl (List.mem_append.mpr (.inr r))))
            · cases e
              exact .root (.inr (.inr ⟨j, (mb j).mpr ⟨hj', hjn⟩, rfl⟩))
          · by_cases q : m = n
            · subst q
              exact .root (.inr (.inl (List.mem_append.mpr (.inl (mem_vals.mpr ⟨p, hp, e⟩)))))
            · exact .step (hT q) ((mk m).mpr ⟨hm, q⟩) (by rw [ec m q]; exact hp) e
    · simp only [hn, if_false, List.nil_append]
      exact dead fun m hm q => by cases q; exact hn hm

noncomputable def HS.mu (H : HS) (S : List Val) : Nat := ksum (fun m => (H.cell m).slots.length) H.keys + S.length
theorem lose_mu {B : Int} {H : HS} {v : Val} {S : List Val} (o : Ok B H (v :: S)) : (H.lose v).1.mu ((H.lose v).2 ++ S) + 1 = H.mu (v :: S) := by
  cases v with
  | int k => simp [HS.lose, HS.mu]; lia
  | cell n =>
    unfold HS.lose
    by_cases hn : n ∈ H.keys
    · simp only [hn, if_true]
      by_cases hc : (H.cell n).count - 1 > 0
      · simp only [hc, if_true, List.nil_append]
        have g1 : SameG H (H.decr n) := setC_graph rfl rfl
        have g : SameG H ((H.decr n).suspect n) := g1.trans (suspect_graph _ n)
        unfold HS.mu
        rw [g.keys, ksum_congr fun m _ => by rw [(g.cell m).2], List.length_cons]
        lia
      · simp only [hc, if_false]
        unfold HS.mu
        have ek : ((H.decr n).free n).keys = H.keys.filter fun k => decide (k ≠ n) := rfl
        have d := ksum_del (f := fun m => (H.cell m).slots.length) o.nd hn
        have d2 : ksum (fun m => (((H.decr n).free n).cell m).slots.length) (H.keys.filter fun j => decide (j ≠ n)) = ksum (fun m => (H.cell m).slots.length) (H.keys.filter fun j => decide (j ≠ n)) :=
          ksum_congr fun m hm => by
            have : ((H.decr n).free n).cell m = H.cell m := HS.setC_ne _ _ (mem_filter_ne.mp hm).2
            rw [this]
        rw [ek, d2, List.length_append, List.length_cons]
        simp only [vals, List.length_map] at d ⊢
        lia
    · simp only [hn, if_false, List.nil_append]
      simp [HS.mu]; lia
end Gc
end
/- GcC11 -/
section
set_option backward.dsimp.useDefEqAttr false
namespace Gc
structure Shr (H H' : HS) : Prop where
  vars : H'.vars = H.vars
  sub : ∀ n ∈ H'.keys, n ∈ H.keys
  cell : ∀ n ∈ H'.keys, (H'.cell n).sort = (H.cell n).sort ∧ (H'.cell n).slots = (H.cell n).slots
  last : H'.last = H.last
  full : H'.full = H.full
theorem Shr.refl {H : HS} : Shr H H := ⟨rfl, fun _ h => h, fun _ _ => ⟨rfl, rfl⟩, rfl, rfl⟩
theorem Shr.trans {H H' H'' : HS} (a : Shr H H') (b : Shr H' H'') : Shr H H'' :=
  ⟨b.vars.trans a.vars, fun n h => a.sub n (b.sub n h), fun n h => ⟨(b.cell n h).1.trans (a.cell n (b.sub n h)).1, (b.cell n h).2.trans (a.cell n (b.sub n h)).2⟩, b.last.trans a.last, b.full.trans a.full⟩
theorem mark_full (H : HS) (m : Int) : (H.mark m).full = H.full := by unfold HS.mark; split <;> rfl
theorem suspect_full (H : HS) (m : Int) : (H.suspect m).full = H.full := by
  unfold HS.suspect
  split
  · split
    · split
      · exact mark_full H _
      · rfl
    · rfl
  · exact mark_full H m
theorem Shr.lose (H : HS) (v : Val) : Shr H (H.lose v).1 := by
  cases v with
  | int k => exact .refl
  | cell n =>
    unfold HS.lose
    simp only
    split
    · split
      · have g1 : SameG H (H.decr n) := setC_graph rfl rfl
        have g := g1.trans (suspect_graph _ n)
        exact ⟨g.vars, fun k hk => by rw [← g.keys]; exact hk, fun k _ => g.cell k, g.last, (suspect_full _ n).trans rfl⟩
      · refine ⟨rfl, fun k hk => (mem_filter_ne.mp hk).1, fun k hk => ?_, rfl, rfl⟩
        have : ((H.decr n).free n).cell k = H.cell k := HS.setC_ne _ _ (mem_filter_ne.mp hk).2
        rw [this]; exact ⟨rfl, rfl⟩
    · exact .refl

section
variable {i : Nat} {fz : Int → Bool} {H : HS} {σ : Sto} {d : Nat} {Q : AV → Sto → Prop} {B : Int}

theorem Fr.none {X : Name → Prop} {σ σ' : Sto} {a : Name} (hx : ¬ X a) (f : Fr X σ σ') (h : σ' a = none) : σ a = none := by
  cases q : σ a with
  | none => rfl
  | some o =>
    have := f a hx (.inl (by rw [q]; simp))
    rw [h, q] at this; cases this
inductive LsI (ls : List Val) (k : Nat) (σ : Sto) (r acc : List AV) (τ : Sto) : Prop
  | mk (pre suf : List Val) (hs : ls.reverse = pre ++ suf) (hr : r = suf.map Val.av) (ha : acc = pre.map loseAV) (e : τ (.tmp k) = some (.list acc)) (f : ∀ b, b ≠ .tmp k → τ b = σ b) : LsI ls k σ r acc τ
theorem c_losing {a : Name} {ls : List Val} (e : σ a = some (.list (ls.map Val.av))) (hl : ls.length < 60000) (hQ : ∀ t σ', σ (.tmp t) = none → σ' (.tmp t) = some (.list (ls.reverse.map loseAV)) → (∀ b, b ≠ .tmp t → σ' b = σ b) → Q (.ref (.tmp t)) σ') :
    wpFn prg (d + 1) "losing" [.ref a] σ Q := by
  refine fn_intro rfl rfl ?_
  dsimp? only [d_losing]
  rw [wE23, wpE_var]
  refine ⟨.ref a, rfl, a, ls.map Val.av, rfl, e, by simp [frz, e], .inl fun k hk => ?_⟩
  dsimp only
  rw [show (ls.map Val.av).reverse = ls.reverse.map Val.av from (List.map_reverse ..).symm]
  have na : a ≠ .tmp k := fun q => by rw [q, hk] at e; cases e
  refine compAll_rule (LsI ls k σ) ?_ ?_ ?_
    ⟨[], ls.reverse, rfl, rfl, rfl, set_same, fun b hb => set_ne hb⟩
  · rintro r acc τ ⟨pre, suf, _, _, _, e1, e2⟩
    exact ⟨by show τ a = σ a; exact e2 a na, e1⟩
  · rintro v r acc τ ⟨pre, suf, h1, h2, rfl, e1, e2⟩
    cases suf with
    | nil => simp at h2
    | cons u suf =>
      simp only [List.map_cons, List.cons.injEq] at h2
      obtain ⟨rfl, rfl⟩ := h2
      have hlen := congrArg List.length h1
      rw [List.length_reverse, List.length_append, List.length_cons] at hlen
      dsimp? only []
      refine ⟨e1, by rw [List.length_map]; exact Nat.lt_trans (show pre.length < 60000 by lia) (by decide), pre ++ [u], suf, by rw [h1]; simp, rfl, by simp [loseAV], set_same, fun b hb => by rw [set_ne hb]; exact e2 b hb⟩
  · rintro acc τ ⟨pre, suf, h1, h2, rfl, e1, e2⟩
    have hs : suf = [] := by cases suf <;> simp at h2 ⊢
    subst hs
    rw [List.append_nil] at h1
    rw [← h1] at e1
    exact hQ k τ hk e1 e2

theorem c_lose {v : Val} {S : List Val} (h : Holds i NF H σ) (o : Ok B H (v :: S)) (hB : B ≤ 1000)
    (hQ : ∀ t σ', σ (.tmp t) = none → Holds i NF (H.lose v).1 σ' → Fr (Own i) σ σ' → σ' (.tmp t) = some (.list ((H.lose v).2.reverse.map loseAV)) → Q (.ref (.tmp t)) σ') : wpFn prg (d + 3) "lose" [hp i, v.av] σ Q := by
  have w := o.wfs hB
  refine fn_intro rfl rfl ?_
  dsimp? only [d_lose]
  refine c_cell_of (d := d + 1) h ?_
  have dead : H.lose v = (H, []) → ∀ t, σ (.tmp t) = none → Q (.ref (.tmp t)) (σ.set (.tmp t) (.list [])) := by
    intro e t ht
    rw [e] at hQ
    exact hQ t _ ht h.tmp (.tmp ht) set_same
  cases v with
  | int k =>
    simp only [cmp_eq_int, cmp_ne_int, cmp_lt_int, cmp_gt_int, cmp_ge_int, cmp_eq_str, cmp_ne_str, cmp_is_n, cmp_is_r, cmp_isnot_n, cmp_isnot_r, Out.val]
    exact .inl (dead rfl)
  | cell n =>
    by_cases hn : n ∈ H.keys
    · simp only [hn, if_true, cmp_eq_int, cmp_ne_int, cmp_lt_int, cmp_gt_int, cmp_ge_int, cmp_eq_str, cmp_ne_str, cmp_is_n, cmp_is_r, cmp_isnot_n, cmp_isnot_r]
      refine attr_in (h.cCount hn) ?_
      refine ⟨(H.cell n).count, 1, rfl, rfl, ?_⟩
      simp only [bin_add, bin_sub, bin_mod, bin_fdiv]
      rw [sa_count h hn]
      have h1 := h.setCell (c := { H.cell n with count := (H.cell n).count - 1 }) hn rfl
      have e1 : H.setC n { H.cell n with count := (H.cell n).count - 1 } = H.decr n := rfl
      rw [e1] at h1
      have hn1 : n ∈ (H.decr n).keys := hn
      refine attr_in (h1.cCount hn1) ?_
      have ec : ((H.decr n).cell n).count = (H.cell n).count - 1 := by unfold HS.decr; rw [HS.setC_same]
      simp only [cmp_eq_int, cmp_ne_int, cmp_lt_int, cmp_gt_int, cmp_ge_int, cmp_eq_str, cmp_ne_str, cmp_is_n, cmp_is_r, cmp_isnot_n, cmp_isnot_r, ec]
      by_cases hc : (H.cell n).count - 1 > 0
      · have hc' : decide ((H.cell n).count - 1 > 0) = true := decide_eq_true hc
        have el : H.lose (.cell n) = ((H.decr n).suspect n, []) := by unfold HS.lose; simp only [hn, if_true, hc]
        rw [el] at hQ
        simp only [hc']
        have g1 : SameG H (H.decr n) := setC_graph rfl rfl
        refine c_suspect (d := d) h1 (o.toGr.same g1).ref hn1 (Nat.lt_trans w.bl (by decide)) fun σ2 h2 f2 => ?_
        simp only [Out.val]
        exact .inl fun t ht => hQ t _ (Fr.none (by rintro ⟨_, q⟩; cases q) ((Fr.set ⟨_, rfl⟩).trans f2) ht) h2.tmp ((Fr.set ⟨_, rfl⟩).trans (f2.trans (.tmp ht))) set_same
      · have hc' : decide ((H.cell n).count - 1 > 0) = false := decide_eq_false hc
        have el : H.lose (.cell n) = ((H.decr n).free n, vals (H.cell n).slots) := by unfold HS.lose; simp only [hn, if_true, hc, if_false]
        rw [el] at hQ
        simp only [hc']
        refine c_wants (d := d + 1) h1 hn1 ?_
        refine tru_in ?_
        simp only
        have es : ((H.decr n).cell n).slots = (H.cell n).slots := by unfold HS.decr; rw [HS.setC_same]
        have eb : ((H.decr n).cell n).bufd = (H.cell n).bufd := by unfold HS.decr; rw [HS.setC_same]
        refine c_free_cell (d := d) h1 hn1 (by rw [es]; exact w.nd n hn) (by rw [es]; exact Nat.lt_trans (w.sl n hn) (by decide)) (fun q => (o.buf n).mpr ⟨hn, by rw [← eb]; exact q⟩) (Nat.lt_trans w.gl (by decide)) fun t σ2 _ h2 f2 e2 => ?_
        rw [es] at e2
        refine c_losing (d := d + 1) e2 (by simp [vals]; exact Nat.lt_trans (w.sl n hn) (by decide)) fun t3 σ3 ht3 e3 f3 => ?_
        have f3' : Fr (Own i) σ2 σ3 := fun b hb hx => f3 b fun q => by
          rcases hx with hx | ⟨_, _, hx⟩
          · rw [q, ht3] at hx; exact hx rfl
          · rw [q] at hx; cases hx
        exact hQ t3 σ3 (Fr.none (by rintro ⟨_, q⟩; cases q) ((Fr.set ⟨_, rfl⟩).trans f2) ht3) (h2.fr (X := fun b => b = .tmp t3) (fun b hb _ => f3 b hb) (by intro t' q; cases q)) ((Fr.set ⟨_, rfl⟩).trans (f2.trans f3')) e3
    · simp only [hn, if_false, cmp_eq_int, cmp_ne_int, cmp_lt_int, cmp_gt_int, cmp_ge_int, cmp_eq_str, cmp_ne_str, cmp_is_n, cmp_is_r, cmp_isnot_n, cmp_isnot_r, Out.val]
      exact .inl (dead (by unfold HS.lose; simp only [hn, if_false]))

inductive Left (B : Int) (Hb : HS) : Option Deed × HS × List Val → Prop
  | loss {H : HS} {S : List Val} : Ok B H S → Shr Hb H → H.mu S ≤ 50000 → Left B Hb (none, H, S)
  | deed {D : Deed} {H : HS} : Wfs H → DeedOk H D → Ok B (H.deed D).1 (H.deed D).2 → Shr Hb (H.deed D).1 → (H.deed D).1.mu (H.deed D).2 ≤ 50000 → Left B Hb (some D, H, [])
noncomputable def taskList : Option Deed × HS × List Val → List AV
  | (none, _, S) => (S.map loseAV).reverse
  | (some D, _, _) => [.tup [.str "deed", D.av]]
noncomputable def taskMu : Option Deed × HS × List Val → Nat
  | (none, H, S) => H.mu S
  | (some D, H, _) => (H.deed D).1.mu (H.deed D).2 + 1

theorem extend_list {a b : Name} {xs ys : List AV} {P : AV → Sto → Prop} (hab : a ≠ b) (ea : σ a = some (.list xs)) (eb : σ b = some (.list ys)) (hl : xs.length + ys.length < 65536) (h : P .none (σ.set a (.list (xs ++ ys)))) : wpMeth .extend (.ref a) [.ref b] σ P := ⟨xs, ys, hab, ea, eb, hl, h⟩
theorem pop_list {a : Name} {xs : List AV} {x : AV} {P : AV → Sto → Prop} (e : σ a = some (.list (xs ++ [x]))) (h : P x (σ.set a (.list xs))) : wpMeth .pop (.ref a) [] σ P := ⟨xs, x, e, h⟩
theorem tru_list {a : Name} {xs : List AV} {R : Bool → Prop} (e : σ a = some (.list xs)) : (∃ t, truthy (.ref a) σ = some t ∧ R t) ↔ R (!xs.isEmpty) := by
  constructor
  · rintro ⟨t, e1, r⟩
    simp only [truthy, e, Option.some.injEq] at e1
    rw [e1]; exact r
  · intro r; exact ⟨_, by simp only [truthy, e], r⟩

inductive StI (B : Int) (Hb : HS) (i k : Nat) (σ : Sto) (a : Option Deed × HS × List Val) (m : Loc) (τ : Sto) : Prop
  | mk (L : Left B Hb a) (h : Holds i NF a.2.1 τ) (e : τ (.tmp k) = some (.list (taskList a))) (m1 : m "heap" = some (hp i)) (m2 : m "tasks" = some (.ref (.tmp k))) (f : Fr (fun b => Own i b ∨ b = .tmp k) σ τ) : StI B Hb i k σ a m τ
theorem c_settle {Hb : HS} {k : Nat} {a : Option Deed × HS × List Val} (hB : B ≤ 1000) (h : Holds i NF a.2.1 σ) (L : Left B Hb a) (e : σ (.tmp k) = some (.list (taskList a)))
    (hQ : ∀ H' σ', Ok B H' [] → Shr Hb H' → Holds i NF H' σ' → Fr (fun b => Own i b ∨ b = .tmp k) σ σ' → Q .none σ') : wpFn prg (d + 8) "settle" [hp i, .ref (.tmp k)] σ Q := by
  refine fn_intro rfl rfl ?_
  simp only [d_settle, wSs1, wSs2]
  refine while_rule (StI B Hb i k σ) taskMu ?_
    (a := a) ⟨L, h, e, by simp [upd, updAll_cons, updAll_nil], by simp [upd, updAll_cons, updAll_nil], .refl⟩
  rintro ⟨D, H, S⟩ m τ ⟨L, h, e, m1, m2, f⟩
  simp? only [m1, m2]
  rw [tru_list e]
  have own : ∀ {σ1 σ2 : Sto}, Fr (Own i) σ1 σ2 → Fr (fun b => Own i b ∨ b = .tmp k) σ1 σ2 := fun f => f.mono fun _ q => .inl q
  cases L with
  | loss o s hmu =>
    cases S with
    | nil =>
      simp only [taskList, List.map_nil, List.reverse_nil, List.isEmpty_nil, Bool.not_true, Out.val]
      exact hQ H τ o s h f
    | cons v S =>
      have e' : τ (.tmp k) = some (.list ((S.map loseAV).reverse ++ [loseAV v])) := by rw [e]; simp [taskList]
      have ne : (!(taskList (none, H, v :: S)).isEmpty) = true := by simp [taskList]
      rw [ne]
      refine nx ?_
      simp? only [m1, m2]
      refine kind_in (kind_list e) ?_
      refine ⟨rfl, kind_list e, pop_list e' ⟨_, rfl, ?_⟩⟩
      refine nx ?_
      simp? only [m1, m2]
      refine eqs_t ?_
      refine nx ?_
      simp? only [m1, m2]
      refine kind_in (kind_list set_same) ?_
      refine ⟨rfl, ?_⟩
      have hp1 : Holds i NF H (τ.set (.tmp k) (.list ((S.map loseAV).reverse))) := h.tmp
      refine c_lose (d := d + 4) hp1 o hB fun t σ2 ht h2 f2 e2 => ?_
      have nt : Name.tmp k ≠ .tmp t := fun q => by rw [← q, set_same] at ht; cases ht
      have ek : σ2 (.tmp k) = some (.list ((S.map loseAV).reverse)) := by
        rw [f2 (.tmp k) (by rintro ⟨_, q⟩; cases q) (.inl (by rw [set_same]; simp)), set_same]
      have mu := lose_mu o
      have l1 : ((H.lose v).2 ++ S).length ≤ (H.lose v).1.mu ((H.lose v).2 ++ S) := by unfold HS.mu; lia
      rw [List.length_append] at l1
      refine ⟨kind_list ek, extend_list nt ek e2 (by rw [List.length_reverse, List.length_map, List.length_map, List.length_reverse]; lia) ?_⟩
      refine ⟨trivial, (none, (H.lose v).1, (H.lose v).2 ++ S), by simp only [taskMu]; lia, .loss o.lose (s.trans (Shr.lose H v)) (by lia), h2.tmp, ?_, m1, m2, ?_⟩
      · rw [set_same]; simp [taskList]
      · exact f.trans ((Fr.set (.inr rfl)).trans ((own f2).trans (.set (.inr rfl))))
  | deed w hd o s hmu =>
    rename_i D
    have e' : τ (.tmp k) = some (.list ([] ++ [.tup [.str "deed", D.av]])) := e
    have ne : (!(taskList (some D, H, [])).isEmpty) = true := rfl
    rw [ne]
    refine nx ?_
    simp? only [m1, m2]
    refine kind_in (kind_list e) ?_
    refine ⟨rfl, kind_list e, pop_list e' ⟨_, rfl, ?_⟩⟩
    refine nx ?_
    simp? only [m1, m2]
    refine eqs_f (by decide) ?_
    refine nx ?_
    simp? only [m1, m2]
    refine kind_in (kind_list set_same) ?_
    refine ⟨rfl, ?_⟩
    rw [Deed.av_eq, sub_tup0, sub_tup1]
    have hp1 : Holds i NF H (τ.set (.tmp k) (.list [])) := h.tmp
    refine c_change (d := d) hp1 w hd fun t σ2 h2 f2 e2 => ?_
    have ek : σ2 (.tmp k) = some (.list []) := by
      rw [f2 (.tmp k) (by rintro ⟨_, q⟩; cases q) (.inl (by rw [set_same]; simp)), set_same]
    have l1 : (H.deed D).2.length ≤ (H.deed D).1.mu (H.deed D).2 := by unfold HS.mu; lia
    refine c_losing (d := d + 6) e2 (by lia) fun t3 σ3 ht3 e3 f3 => ?_
    have nt : Name.tmp k ≠ .tmp t3 := fun q => by rw [← q, ek] at ht3; cases ht3
    have ek3 : σ3 (.tmp k) = some (.list []) := by rw [f3 _ nt]; exact ek
    have f3' : Fr (Own i) σ2 σ3 := fun b hb hx => f3 b fun q => by
      rcases hx with hx | ⟨_, _, hx⟩
      · rw [q, ht3] at hx; exact hx rfl
      · rw [q] at hx; cases hx
    refine ⟨kind_list ek3, extend_list nt ek3 e3 (by rw [List.length_map, List.length_reverse, List.length_nil]; lia) ?_⟩
    refine ⟨trivial, (none, (H.deed D).1, (H.deed D).2), by simp only [taskMu]; lia, .loss o s hmu, (h2.fr (X := fun b => b = .tmp t3) (fun b hb _ => f3 b hb) (by intro t' q; cases q)).tmp, ?_, m1, m2, ?_⟩
    · rw [set_same]; simp [taskList]
    · exact f.trans ((Fr.set (.inr rfl)).trans ((own f2).trans ((own f3').trans (.set (.inr rfl)))))

theorem c_do_deed {D : Deed} (hB : B ≤ 1000) (h : Holds i NF H σ) (L : Left B (H.deed D).1 (some D, H, []))
    (hQ : ∀ H' σ', Ok B H' [] → Shr (H.deed D).1 H' → Holds i NF H' σ' → Fr (Own i) σ σ' → Q .none σ') : wpFn prg (d + 9) "do_deed" [hp i, D.av] σ Q := by
  refine fn_intro rfl rfl ?_
  dsimp? only [d_do_deed]
  refine .inl fun k hk => ?_
  dsimp only
  refine c_settle (d := d) hB (a := (some D, H, [])) h.tmp L set_same fun H' σ' o s h' f => hQ H' σ' o s h' fun b hb hx => ?_
  have nb : b ≠ .tmp k := fun q => by
    rcases hx with hx | ⟨_, _, hx⟩
    · rw [q, hk] at hx; exact hx rfl
    · rw [q] at hx; cases hx
  rw [f b (fun q => q.elim hb nb) (by rw [set_ne nb]; exact hx), set_ne nb]
end
end Gc
end
/- GcC12 -/
section
set_option backward.dsimp.useDefEqAttr false
namespace Gc
noncomputable def kids (l : List (Int × Val)) : List Int := l.filterMap fun p => match p.2 with | .cell m => some m | .int _ => none
theorem kids_cons (p : Int × Val) (l : List (Int × Val)) : kids (p :: l) = (match p.2 with | .cell m => [m] | .int _ => []) ++ kids l := by
  unfold kids
  rw [List.filterMap_cons]
  cases p.2 <;> rfl
theorem mem_kids {l : List (Int × Val)} {m : Int} : m ∈ kids l ↔ ∃ p ∈ l, p.2 = .cell m := by
  unfold kids
  rw [List.mem_filterMap]
  constructor
  · rintro ⟨p, hp, e⟩
    refine ⟨p, hp, ?_⟩
    split at e
    · cases e; assumption
    · cases e
  · rintro ⟨p, hp, e⟩
    exact ⟨p, hp, by rw [e]⟩
theorem kids_count (n : Int) : ∀ l : List (Int × Val), (kids l).count n = inc n l
  | [] => rfl
  | p :: l => by
    rw [kids_cons, List.count_append, kids_count n l, inc_cons]
    cases q : p.2 with
    | int k => simp
    | cell m =>
      simp only [List.count_cons, List.count_nil, Nat.zero_add, Val.cell.injEq, beq_iff_eq]
theorem kids_len (l : List (Int × Val)) : (kids l).length ≤ l.length := List.length_filterMap_le _ _

noncomputable def HS.bump (H : HS) (δ : Int) (l : List Int) : HS := { H with cell := fun n => { H.cell n with count := (H.cell n).count + δ * (l.count n : Nat) } }
noncomputable def HS.paint (H : HS) (n : Int) (c : Col) : HS := H.setC n { H.cell n with col := c }
theorem bump_nil (H : HS) (δ : Int) : H.bump δ [] = H := by
  unfold HS.bump
  simp
theorem bump_snoc (H : HS) (δ : Int) (l : List Int) (c : Int) : H.bump δ (l ++ [c]) = (H.bump δ l).setC c { (H.bump δ l).cell c with count := ((H.bump δ l).cell c).count + δ } := by
  unfold HS.bump HS.setC
  congr 1
  funext n
  by_cases q : n = c
  · subst q
    simp only [List.count_append, if_true]
    congr 1
    simp
    rw [Int.mul_add]; lia
  · simp only [List.count_append, q, if_false]
    congr 2
    have : List.count n [c] = 0 := by simp [List.count_cons]; exact fun h => q h.symm
    rw [this, Nat.add_zero]

section
variable {i : Nat} {fz : Int → Bool} {H : HS} {σ : Sto} {d : Nat} {Q : AV → Sto → Prop} {B : Int}

theorem unfrz_list {a : Name} {xs : List AV} {τ : Sto} (e : σ a = some (.list xs)) : unfrz (.ref a) σ τ = τ := by simp [unfrz, e]
theorem frz_list {a : Name} {xs : List AV} (e : σ a = some (.list xs)) : frz (.ref a) σ = σ := by simp [frz, e]
theorem for_tmp {t : Nat} {xs : List AV} {b : Sts} {x : String} {m : Loc} {R : Out → Loc → Sto → Prop} (e : σ (.tmp t) = some (.list xs)) (I : List AV → Loc → Sto → Prop) (h0 : I xs m σ) (hsame : ∀ r m τ, I r m τ → τ (.tmp t) = some (.list xs))
    (hstep : ∀ v r m τ, I (v :: r) m τ → wpSs (wpFn prg d) b (upd m x v) τ fun o m' τ' => match o with | .next => True ∧ I r m' τ' | .ret w => R (.ret w) m' τ') (hend : ∀ m τ, I [] m τ → R .next m τ) :
    ∃ ys, itemsOf (.ref (.tmp t)) σ = some ys ∧ forL (fun it m σ Q' => wpSs (wpFn prg d) b (upd m x it) σ Q') (sameSrc (.ref (.tmp t)) (frz (.ref (.tmp t)) σ)) R ys m (frz (.ref (.tmp t)) σ) := by
  refine ⟨xs, by simp [itemsOf, e], ?_⟩
  rw [frz_list e]
  exact for_rule I (fun r m τ hI => (hsame r m τ hI).trans e.symm) hstep (fun m τ hI => hend m τ hI) h0

theorem for_tmpm {β : Type} {g : β → AV} {all : List β} {t : Nat} {b : Sts} {x : String} {m : Loc} {R : Out → Loc → Sto → Prop} (e : σ (.tmp t) = some (.list (all.map g))) (I : List β → List β → Loc → Sto → Prop) (h0 : I [] all m σ) (hsame : ∀ pre suf m τ, I pre suf m τ → τ (.tmp t) = some (.list (all.map g)))
    (hstep : ∀ pre v suf m τ (R : Out → Loc → Sto → Prop), all = pre ++ v :: suf → I pre (v :: suf) m τ → (∀ m' τ', I (pre ++ [v]) suf m' τ' → R .next m' τ') → wpSs (wpFn prg d) b (upd m x (g v)) τ R) (hend : ∀ m τ, I all [] m τ → R .next m τ) :
    ∃ ys, itemsOf (.ref (.tmp t)) σ = some ys ∧ forL (fun it m σ Q' => wpSs (wpFn prg d) b (upd m x it) σ Q') (sameSrc (.ref (.tmp t)) (frz (.ref (.tmp t)) σ)) (fun o m' τ => R o m' (unfrz (.ref (.tmp t)) σ τ)) ys m (frz (.ref (.tmp t)) σ) := by
  refine ⟨all.map g, by unfold itemsOf; dsimp only; rw [e], ?_⟩
  rw [frz_list e, show (fun o m' τ => R o m' (unfrz (.ref (.tmp t)) σ τ)) = R by funext o m' τ; rw [unfrz_list e]]
  exact for_map I (fun pre suf m τ hI => (hsame pre suf m τ hI).trans e.symm) hstep hend h0

theorem c_children {n : Int} (h : Holds i fz H σ) (w : Gr B H) (hB : B ≤ 1000) (hn : n ∈ H.keys) (hQ : ∀ t σ', σ (.tmp t) = none → σ' (.tmp t) = some (.list ((kids (H.cell n).slots).map (cr i))) → Fr (fun _ => False) σ σ' → Q (.ref (.tmp t)) σ') :
    wpFn prg (d + 2) "children" [hp i, cr i n] σ Q := by
  refine fn_intro rfl rfl ?_
  dsimp? only [d_children]
  rw [wE22]; refine ⟨rfl, ?_⟩
  simp_all? only []
  have hsl := w.slotsLen hn
  refine c_held_by (d := d) h hn (w.snd n hn).1 (by lia) fun k σ1 hk e1 f1 => ?_
  have h1 : Holds i fz H σ1 := h.fr (X := fun a => a = .tmp k) (fun a ha _ => f1 a ha) (by intro t' q; cases q)
  refine ⟨(vals (H.cell n).slots).map Val.av, by simp only [itemsOf, e1], by simp [frz, e1], .inl fun t ht => ?_⟩
  dsimp only
  have nt : Name.tmp k ≠ .tmp t := fun q => by rw [← q, e1] at ht; cases ht
  have ht0 : σ (.tmp t) = none := by rw [← f1 _ (fun q => nt q.symm)]; exact ht
  refine comp_rule (cond := .cmp .eq (.sub (.var "value") (.cst (.int 0))) (.cst (.str "cell"))) (elt := .sub (.attr (.var "heap") "cells") (.sub (.var "value") (.cst (.int 1)))) (x := "value") (m := upd (upd noLoc "heap" (hp i)) "cell" (cr i n))
    (fun r acc τ => ∃ pre suf, (H.cell n).slots = pre ++ suf ∧ r = (vals suf).map Val.av ∧ acc = (kids pre).map (cr i) ∧ τ (.tmp t) = some (.list acc) ∧ ∀ b, b ≠ .tmp t → τ b = σ1 b) ?_ ?_ ?_
    ⟨[], (H.cell n).slots, rfl, rfl, rfl, set_same, fun b hb => set_ne hb⟩
  · rintro r acc τ ⟨pre, suf, _, _, _, e2, f2⟩
    exact ⟨by show τ (.tmp k) = σ1 (.tmp k); exact f2 _ nt, e2⟩
  · rintro v r acc τ ⟨pre, suf, hs, hr, rfl, e2, f2⟩
    cases suf with
    | nil => simp [vals] at hr
    | cons p suf =>
      simp only [vals, List.map_cons, List.cons.injEq] at hr
      obtain ⟨rfl, rfl⟩ := hr
      have h2 : Holds i fz H τ := h1.fr (X := fun a => a = .tmp t) (fun a ha _ => f2 a ha) (by intro t' q; cases q)
      have hp : p ∈ (H.cell n).slots := by rw [hs]; simp
      have hle : pre.length < 5 := by have := congrArg List.length hs; rw [List.length_append, List.length_cons] at this; lia
      dsimp? only []
      cases q : p.2 with
      | int z =>
        simp only [av_int, sub_tup0, cmp_eq_int, cmp_ne_int, cmp_lt_int, cmp_gt_int, cmp_ge_int, cmp_eq_str, cmp_ne_str, cmp_is_n, cmp_is_r, cmp_isnot_n, cmp_isnot_r, String.reduceEq, decide_false]
        exact ⟨pre ++ [p], suf, by rw [hs]; simp, rfl, by simp [kids, q], e2, f2⟩
      | cell c =>
        simp only [av_cell, sub_tup0, cmp_eq_int, cmp_ne_int, cmp_lt_int, cmp_gt_int, cmp_ge_int, cmp_eq_str, cmp_ne_str, cmp_is_n, cmp_is_r, cmp_isnot_n, cmp_isnot_r, decide_true]
        have hc := w.cl n hn p hp c q
        refine attr_in h2.aCells ?_
        simp only [sub_tup1]
        refine subd_in h2.cells (dget_keys hc) ?_
        refine ⟨e2, by rw [List.length_map]; have := kids_len pre; exact Nat.lt_of_lt_of_le (show (kids pre).length < 5 by lia) (by decide), pre ++ [p], suf, by rw [hs]; simp, rfl, by simp [kids, q], set_same, fun b hb => by rw [set_ne hb]; exact f2 b hb⟩
  · rintro acc τ ⟨pre, suf, hs, hr, rfl, e2, f2⟩
    have hs0 : suf = [] := by cases suf <;> simp [vals] at hr ⊢
    subst hs0
    rw [List.append_nil] at hs
    rw [← hs] at e2
    refine hQ t τ ht0 e2 fun b _ hx => ?_
    have n1 : b ≠ .tmp t := fun q => by
      rcases hx with hx | ⟨_, _, hx⟩
      · rw [q, ht0] at hx; exact hx rfl
      · rw [q] at hx; cases hx
    have n2 : b ≠ .tmp k := fun q => by
      rcases hx with hx | ⟨_, _, hx⟩
      · rw [q, hk] at hx; exact hx rfl
      · rw [q] at hx; cases hx
    rw [f2 b n1, f1 b n2]
end
end Gc
end
/- GcD2 -/
section
namespace Gc

structure CC (H0 H : HS) : Prop where
  eq : H = { H0 with cell := H.cell }
  cell : ∀ n, (H.cell n).sort = (H0.cell n).sort ∧ (H.cell n).slots = (H0.cell n).slots ∧ (H.cell n).bufd = (H0.cell n).bufd
theorem CC.refl {H : HS} : CC H H := ⟨rfl, fun _ => ⟨rfl, rfl, rfl⟩⟩
theorem CC.trans {H H' H'' : HS} (a : CC H H') (b : CC H' H'') : CC H H'' :=
  ⟨by rw [b.eq, a.eq], fun n => ⟨(b.cell n).1.trans (a.cell n).1, (b.cell n).2.1.trans (a.cell n).2.1, (b.cell n).2.2.trans (a.cell n).2.2⟩⟩
theorem CC.keys {H H' : HS} (a : CC H H') : H'.keys = H.keys := by rw [a.eq]
theorem CC.same {H H' : HS} (a : CC H H') : SameG H H' := ⟨by rw [a.eq], by rw [a.eq], by rw [a.eq], by rw [a.eq], by rw [a.eq], fun n => ⟨(a.cell n).1, (a.cell n).2.1⟩⟩
theorem CC.paint (H : HS) (n : Int) (c : Col) : CC H (H.paint n c) := ⟨rfl, fun k => by
  unfold HS.paint
  by_cases q : k = n
  · subst q; rw [HS.setC_same]; exact ⟨rfl, rfl, rfl⟩
  · rw [HS.setC_ne _ _ q]; exact ⟨rfl, rfl, rfl⟩⟩
theorem CC.bump (H : HS) (δ : Int) (l : List Int) : CC H (H.bump δ l) := ⟨rfl, fun _ => ⟨rfl, rfl, rfl⟩⟩
theorem paint_col (H : HS) (n : Int) (c : Col) (k : Int) : ((H.paint n c).cell k).col = if k = n then c else (H.cell k).col := by
  unfold HS.paint
  by_cases q : k = n
  · subst q; rw [HS.setC_same, if_pos rfl]
  · rw [HS.setC_ne _ _ q, if_neg q]
theorem paint_count (H : HS) (n : Int) (c : Col) (k : Int) : ((H.paint n c).cell k).count = (H.cell k).count := by
  unfold HS.paint
  by_cases q : k = n
  · subst q; rw [HS.setC_same]
  · rw [HS.setC_ne _ _ q]

noncomputable def gsum (H0 : HS) (P : Int → Bool) (n : Int) : Nat := ksum (fun m => if P m then inc n (H0.cell m).slots else 0) H0.keys
theorem gsum_congr {H0 : HS} {P P' : Int → Bool} {n : Int} (h : ∀ m ∈ H0.keys, P m = P' m) : gsum H0 P n = gsum H0 P' n := ksum_congr fun m hm => by rw [h m hm]
theorem gsum_add {H0 : HS} {P P' : Int → Bool} {x n : Int} (nd : H0.keys.Nodup) (hx : x ∈ H0.keys) (h0 : P x = false) (h1 : P' x = true) (h : ∀ m ∈ H0.keys, m ≠ x → P' m = P m) : gsum H0 P' n = gsum H0 P n + inc n (H0.cell x).slots := by
  have := ksum_upd (f := fun m => if P m then inc n (H0.cell m).slots else 0) (g := fun m => if P' m then inc n (H0.cell m).slots else 0) nd hx fun m hm hne => by simp only [h m hm hne]
  simp only [h0, h1, if_true, Bool.false_eq_true, if_false] at this
  unfold gsum
  lia
theorem gsum_le {H0 : HS} {P P' : Int → Bool} {n : Int} (h : ∀ m ∈ H0.keys, P m = true → P' m = true) : gsum H0 P n ≤ gsum H0 P' n := by
  unfold gsum
  generalize H0.keys = l at h
  induction l with
  | nil => exact Nat.le_refl _
  | cons a r ih =>
    rw [ksum_cons, ksum_cons]
    have h1 := ih fun m hm => h m (.tail _ hm)
    have h2 := h a (.head _)
    cases q : P a with
    | false => simp only [Bool.false_eq_true, if_false]; lia
    | true => rw [h2 q]; lia
theorem gsum_refs {H0 : HS} {P : Int → Bool} {n : Int} : gsum H0 P n ≤ ksum (fun m => inc n (H0.cell m).slots) H0.keys := by
  have := gsum_le (H0 := H0) (P := P) (P' := fun _ => true) (n := n) fun _ _ _ => rfl
  simpa [gsum] using this
theorem gsum_lt {H0 : HS} {P : Int → Bool} {n : Int} (h : gsum H0 P n < ksum (fun m => inc n (H0.cell m).slots) H0.keys) : ∃ m ∈ H0.keys, P m = false ∧ ∃ p ∈ (H0.cell m).slots, p.2 = .cell n := by
  unfold gsum at h
  generalize H0.keys = l at h
  induction l with
  | nil => simp [ksum] at h
  | cons a r ih =>
    rw [ksum_cons, ksum_cons] at h
    by_cases q : (ksum (fun m => if P m = true then inc n (H0.cell m).slots else 0) r) < ksum (fun m => inc n (H0.cell m).slots) r
    · obtain ⟨m, hm, x⟩ := ih q
      exact ⟨m, .tail _ hm, x⟩
    · have hq : P a = false := by
        cases w : P a with
        | false => rfl
        | true => rw [w] at h; simp only [if_true] at h; lia
      rw [hq] at h
      simp only [Bool.false_eq_true, if_false] at h
      have hpos : 0 < inc n (H0.cell a).slots := by
        rcases Nat.eq_zero_or_pos (inc n (H0.cell a).slots) with z | z
        · rw [z] at h; lia
        · exact z
      exact ⟨a, .head _, hq, inc_ex hpos⟩

noncomputable abbrev isCol (H : HS) (c : Col) (m : Int) : Bool := decide ((H.cell m).col = c)
noncomputable abbrev RS (H0 : HS) (sus : List Int) (n : Int) : Prop := Rch H0 (fun v => ∃ s ∈ sus, v = .cell s) n
noncomputable abbrev Live (H0 : HS) (n : Int) : Prop := Rch H0 (fun v => ∃ p ∈ H0.vars, p.2 = v) n

section
variable {B : Int} {H0 H : HS} {sus : List Int}

theorem kid_keys (g : Gr B H0) {x c : Int} (hx : x ∈ H0.keys) (hc : c ∈ kids (H0.cell x).slots) : c ∈ H0.keys ∧ ∃ p ∈ (H0.cell x).slots, p.2 = .cell c := by
  obtain ⟨p, hp, e⟩ := mem_kids.mp hc
  exact ⟨g.cl x hx p hp c e, p, hp, e⟩

/- grey -/
structure MarkInv (H0 : HS) (sus : List Int) (H : HS) (W : List Int) : Prop where
  cc : CC H0 H
  cnt : ∀ n ∈ H0.keys, (H.cell n).count = (H0.cell n).count - (gsum H0 (isCol H .grey) n : Nat)
  cl : ∀ m ∈ H0.keys, (H.cell m).col = .grey → ∀ p ∈ (H0.cell m).slots, ∀ c, p.2 = .cell c → (H.cell c).col = .grey ∨ c ∈ W
  wk : ∀ c ∈ W, c ∈ H0.keys ∧ RS H0 sus c
  gr : ∀ m ∈ H0.keys, (H.cell m).col = .grey → RS H0 sus m
  nw : ∀ m ∈ H0.keys, (H.cell m).col ≠ .white

theorem MarkInv.skip {W : List Int} {x : Int} (I : MarkInv H0 sus H (W ++ [x])) (hx : (H.cell x).col = .grey) : MarkInv H0 sus H W where
  cc := I.cc
  cnt := I.cnt
  cl m hm hg p hp c e := by
    rcases I.cl m hm hg p hp c e with q | q
    · exact .inl q
    · rcases List.mem_append.mp q with q | q
      · exact .inr q
      · rw [List.mem_singleton.mp q]; exact .inl hx
  wk c hc := I.wk c (List.mem_append.mpr (.inl hc))
  gr := I.gr
  nw := I.nw
theorem MarkInv.grey {W : List Int} {x : Int} (g : Gr B H0) (I : MarkInv H0 sus H (W ++ [x])) (hx : (H.cell x).col ≠ .grey) : MarkInv H0 sus ((H.paint x .grey).bump (-1) (kids (H0.cell x).slots)) (W ++ kids (H0.cell x).slots) := by
  obtain ⟨hxk, hxr⟩ := I.wk x (by simp)
  have ec : ∀ m, (((H.paint x .grey).bump (-1) (kids (H0.cell x).slots)).cell m).col = if m = x then .grey else (H.cell m).col := fun m => paint_col H x .grey m
  refine ⟨(I.cc.trans (CC.paint H x .grey)).trans (CC.bump _ _ _), fun n hn => ?_, fun m hm hg p hp c e => ?_, fun c hc => ?_, fun m hm hg => ?_, fun m hm => ?_⟩
  · show ((H.paint x .grey).cell n).count + (-1) * ((kids (H0.cell x).slots).count n : Nat) = _
    rw [paint_count, I.cnt n hn, kids_count, gsum_add (P := isCol H .grey) (P' := isCol ((H.paint x .grey).bump (-1) (kids (H0.cell x).slots)) .grey) g.nd hxk (by simpa using hx) (by simp only [isCol, ec, if_true, decide_true]) fun m hm hne => by simp only [isCol, ec, hne, if_false]]
    lia
  · rw [ec] at hg
    by_cases q : m = x
    · subst q
      exact .inr (List.mem_append.mpr (.inr (mem_kids.mpr ⟨p, hp, e⟩)))
    · rw [if_neg q] at hg
      rw [ec]
      rcases I.cl m hm hg p hp c e with r | r
      · left; split <;> first | rfl | exact r
      · rcases List.mem_append.mp r with r | r
        · exact .inr (List.mem_append.mpr (.inl r))
        · left; rw [if_pos (List.mem_singleton.mp r)]
  · rcases List.mem_append.mp hc with r | r
    · exact I.wk c (List.mem_append.mpr (.inl r))
    · obtain ⟨h1, p, hp, e⟩ := kid_keys g hxk r
      exact ⟨h1, .step hxr hxk hp e⟩
  · rw [ec] at hg
    by_cases q : m = x
    · subst q; exact hxr
    · rw [if_neg q] at hg; exact I.gr m hm hg
  · rw [ec]
    split
    · simp
    · exact I.nw m hm
noncomputable def colMu (H0 H : HS) (P : Col → Bool) (W : List Int) : Nat := ksum (fun m => if P (H.cell m).col then (H0.cell m).slots.length else 0) H0.keys + W.length
theorem colMu_paint {P : Col → Bool} {W : List Int} {x : Int} {c : Col} {δ : Int} (g : Gr B H0) (hx : x ∈ H0.keys) (h1 : P (H.cell x).col = true) (h2 : P c = false) :
    colMu H0 ((H.paint x c).bump δ (kids (H0.cell x).slots)) P (W ++ kids (H0.cell x).slots) < colMu H0 H P (W ++ [x]) := by
  have ec : ∀ m, (((H.paint x c).bump δ (kids (H0.cell x).slots)).cell m).col = if m = x then c else (H.cell m).col := fun m => paint_col H x c m
  have d := ksum_upd (f := fun m => if P (H.cell m).col then (H0.cell m).slots.length else 0) (g := fun m => if P (((H.paint x c).bump δ (kids (H0.cell x).slots)).cell m).col then (H0.cell m).slots.length else 0) g.nd hx fun m hm hne => by
    simp only [ec, hne, if_false]
  simp only [ec, if_true, h1, h2, Bool.false_eq_true, if_false] at d
  have := kids_len (H0.cell x).slots
  unfold colMu
  rw [List.length_append, List.length_append, List.length_singleton]
  simp only [ec]
  lia

theorem MarkInv.all (I : MarkInv H0 sus H []) (g : Gr B H0) (hs : ∀ s ∈ sus, (H.cell s).col = .grey) {n : Int} (hn : n ∈ H0.keys) (hr : RS H0 sus n) : (H.cell n).col = .grey := by
  refine Rch.conv (T := fun n => (H.cell n).col = .grey) g.cl ?_ ?_ hr hn
  · rintro n ⟨s, hs', e⟩ _
    cases e; exact hs _ hs'
  · intro m n p hT hm hp e _
    rcases I.cl m hm hT p hp n e with q | q
    · exact q
    · cases q
end
end Gc
end
/- GcC13 -/
section
set_option backward.dsimp.useDefEqAttr false
namespace Gc
section
variable {i : Nat} {fz : Int → Bool} {H H0 : HS} {σ : Sto} {d : Nat} {Q : AV → Sto → Prop} {B : Int} {sus : List Int}

theorem crs (l : List Int) (x : Int) : (l ++ [x]).map (cr i) = l.map (cr i) ++ [cr i x] := by simp
theorem list_rev {α : Type} (l : List α) : l = [] ∨ ∃ r x, l = r ++ [x] := by
  rcases List.eq_nil_or_concat l with h | ⟨r, x, h⟩
  · exact .inl h
  · exact .inr ⟨r, x, by simpa using h⟩

structure Ln (i w : Nat) (H : HS) (W : List Int) (m : Loc) (τ : Sto) : Prop where
  holds : Holds i NF H τ
  line : τ (.tmp w) = some (.list (W.map (cr i)))
  mh : m "heap" = some (hp i)
  mw : m "waiting" = some (.ref (.tmp w))
section
variable {w : Nat} {W W' : List Int} {m : Loc} {τ τ' : Sto} {x : Int} {H' : HS}
theorem Ln.last (L : Ln i w H (W ++ [x]) m τ) : τ (.tmp w) = some (.list (W.map (cr i) ++ [cr i x])) := L.line.trans (by rw [crs])
theorem Ln.popped {v : AV} (L : Ln i w H (W ++ [x]) m τ) : Ln i w H W (upd m "here" v) (τ.set (.tmp w) (.list (W.map (cr i)))) := ⟨L.holds.tmp, set_same, (upd_ne (by decide)).trans L.mh, (upd_ne (by decide)).trans L.mw⟩
theorem Ln.to (L : Ln i w H W m τ) (h : Holds i NF H' τ') (e : τ' (.tmp w) = some (.list (W'.map (cr i)))) : Ln i w H' W' m τ' := ⟨h, e, L.mh, L.mw⟩
theorem Ln.set {c : Cl} (L : Ln i w H W m τ) (hn : x ∈ H.keys) (hs : c.slots = (H.cell x).slots) : Ln i w (H.setC x c) W m (τ.set (.obj i (.cell x)) (cAO i x c)) := L.to (L.holds.setCell hn hs) ((set_ne (fun q => by cases q)).trans L.line)
theorem Ln.put (L : Ln i w H W m τ) : Ln i w H (W ++ [x]) m (τ.set (.tmp w) (.list (W.map (cr i) ++ [cr i x]))) := L.to L.holds.tmp (by rw [crs]; exact set_same)
theorem while_line {α : Type} {b : Sts} {R0 : Out → Loc → Sto → Prop} (I : α → List Int → Loc → Sto → Prop) (μ : α → List Int → Nat) (hl : ∀ {a W m τ}, I a W m τ → m "waiting" = some (.ref (.tmp w)) ∧ τ (.tmp w) = some (.list (W.map (cr i))))
    (hend : ∀ a m τ, I a [] m τ → R0 .next m τ)
    (hstep : ∀ a W x m τ (R : Out → Loc → Sto → Prop), I a (W ++ [x]) m τ → (∀ a' W' m' τ', μ a' W' < μ a (W ++ [x]) → I a' W' m' τ' → R .next m' τ') → wpL (wpFn prg d) b m τ R)
    {a : α} (h : I a W m τ) : wpS (wpFn prg d) (.while (.var "waiting") b) m τ R0 := by
  refine while_r (fun (p : α × List Int) m τ => I p.1 p.2 m τ) (fun p => μ p.1 p.2) (fun p m τ R hI hR => ?_) (a := (a, W)) h
  obtain ⟨a, W⟩ := p
  obtain ⟨hm, e⟩ := hl hI
  rw [wT6, hm, vcase_some]
  refine ⟨_, by unfold truthy; dsimp only; rw [e], ?_⟩
  rcases list_rev W with q | ⟨W', x, q⟩
  · subst q; exact hend a m τ hI
  · subst q
    rw [show (!((W' ++ [x]).map (cr i)).isEmpty) = true by rw [crs]; simp]
    exact hstep a W' x m τ R hI fun a' W' m' τ' lt h => hR (a', W') m' τ' lt h
end

theorem sa_grey {n : Int} {P : Sto → Prop} (h : Holds i fz H σ) (hn : n ∈ H.keys) : wpSetAttr (cr i n) "colour" (.str "grey") σ P ↔ P (σ.set (.obj i (.cell n)) (cAO i n { H.cell n with col := .grey })) := sa_colour (c := .grey) h hn
theorem sa_black {n : Int} {P : Sto → Prop} (h : Holds i fz H σ) (hn : n ∈ H.keys) : wpSetAttr (cr i n) "colour" (.str "black") σ P ↔ P (σ.set (.obj i (.cell n)) (cAO i n { H.cell n with col := .black })) := sa_colour (c := .black) h hn
theorem sa_white {n : Int} {P : Sto → Prop} (h : Holds i fz H σ) (hn : n ∈ H.keys) : wpSetAttr (cr i n) "colour" (.str "white") σ P ↔ P (σ.set (.obj i (.cell n)) (cAO i n { H.cell n with col := .white })) := sa_colour (c := .white) h hn
theorem Holds.paint (h : Holds i fz H σ) {n : Int} (hn : n ∈ H.keys) (c : Col) : Holds i fz (H.paint n c) (σ.set (.obj i (.cell n)) (cAO i n { H.cell n with col := c })) := h.setCell hn rfl
theorem sub_one {c : Int} {τ : Sto} {P : AV → Sto → Prop} (x : Int) : wpBin .sub (.int x) (.int c) τ P ↔ P (.int (x + -c)) τ := by
  have : x + -c = x - c := by lia
  rw [this]; exact Iff.rfl
theorem add_one {c : Int} {τ : Sto} {P : AV → Sto → Prop} (x : Int) : wpBin .add (.int x) (.int c) τ P ↔ P (.int (x + c)) τ := Iff.rfl
noncomputable def notGrey (c : Col) : Bool := decide (c ≠ .grey)
noncomputable def WW (i w : Nat) (b : Name) : Prop := Own i b ∨ b = .tmp w
theorem WW.own {w : Nat} {σ1 σ2 : Sto} (f : Fr (Own i) σ1 σ2) : Fr (WW i w) σ1 σ2 := f.mono fun _ q => .inl q
theorem Fr.line {w : Nat} {o : AO} {τ : Sto} (hw : σ (.tmp w) = Option.none) (f : Fr (WW i w) (σ.set (.tmp w) o) τ) : Fr (Own i) σ τ := fun b hb hx => by
  have nb : b ≠ .tmp w := fun q => by
    rcases hx with hx | ⟨_, _, hx⟩
    · rw [q, hw] at hx; exact hx rfl
    · rw [q] at hx; cases hx
  rw [f b (fun q => q.elim hb nb) (by rw [set_ne nb]; exact hx), set_ne nb]
theorem tmp_ww {w k : Nat} (h : k ≠ w) : ¬ WW i w (.tmp k) := fun q => q.elim (fun ⟨_, q⟩ => by cases q) fun q => h (by simpa using q)

structure KdI (i w t : Nat) (H : HS) (δ : Int) (W ks : List Int) (σ : Sto) (m0 : Loc) (pre : List Int) (m : Loc) (τ : Sto) : Prop where
  L : Ln i w (H.bump δ pre) (W ++ pre) m τ
  et : τ (.tmp t) = some (.list (ks.map (cr i)))
  f : Fr (WW i w) σ τ
  hm : ∀ y, y ≠ "child" → m y = m0 y
theorem for_kids {δ : Int} {op : Op} {c : Int} {n : Int} {t w : Nat} {m0 : Loc} {R : Out → Loc → Sto → Prop} (hop : ∀ x : Int, ∀ τ P, wpBin op (.int x) (.int c) τ P ↔ P (.int (x + δ)) τ) (g : Gr B H) (hn : n ∈ H.keys) (tw : t ≠ w)
    (e : σ (.tmp t) = some (.list ((kids (H.cell n).slots).map (cr i)))) {W : List Int} (L : Ln i w H W m0 σ) (hW : W.length < 50000)
    (hend : ∀ m τ, Ln i w (H.bump δ (kids (H.cell n).slots)) (W ++ kids (H.cell n).slots) m τ → Fr (WW i w) σ τ → (∀ y, y ≠ "child" → m y = m0 y) → R .next m τ) :
    ∃ ys, itemsOf (.ref (.tmp t)) σ = some ys ∧ forL (fun it m σ Q' => wpSs (wpFn prg d) (.cons (.aug (.var "child") "count" op (.cst (.int c))) (.cons (.expr (.meth (.var "waiting") .append (.cons (.var "child") .nil))) .nil)) (upd m "child" it) σ Q') (sameSrc (.ref (.tmp t)) (frz (.ref (.tmp t)) σ))
      (fun o m' τ => R o m' (unfrz (.ref (.tmp t)) σ τ)) ys m0 (frz (.ref (.tmp t)) σ) := by
  refine for_tmpm e (fun pre _ m τ => KdI i w t H δ W (kids (H.cell n).slots) σ m0 pre m τ) ⟨by rw [bump_nil, List.append_nil]; exact L, e, .refl, fun _ _ => rfl⟩ (fun _ _ _ _ I => I.et) (fun pre x suf m τ R ek I hR => ?_) (fun m τ I => hend m τ I.L I.f I.hm)
  have hx : x ∈ (H.bump δ pre).keys := (kid_keys g hn (at_mem ek)).1
  have h1 := I.L.holds
  simp? only []
  refine attr_in (h1.cCount hx) ⟨_, c, rfl, rfl, (hop _ _ _).mpr ((sa_count h1 hx).mpr (nx ?_))⟩
  have L2 := I.L.set (c := { (H.bump δ pre).cell x with count := ((H.bump δ pre).cell x).count + δ }) hx rfl
  rw [← bump_snoc] at L2
  simp? only [I.L.mw]
  refine methl_in L2.line rfl ⟨kind_list L2.line, app_in L2.line ?_ (hR _ _ ⟨?_, (set_ne (by simpa using tw)).trans ((set_ne (fun q => by cases q)).trans I.et), I.f.trans ((Fr.set (.inl ⟨_, rfl⟩)).trans (.set (.inr rfl))), fun y hy => ?_⟩)⟩
  · have hsl := g.slotsLen hn
    have hkl := kids_len (H.cell n).slots
    have hl := at_len ek
    rw [List.length_map, List.length_append]
    exact Nat.lt_trans (show W.length + pre.length < 60000 by lia) (by decide)
  · have L3 := L2.put (x := x)
    rw [List.append_assoc] at L3
    exact ⟨L3.holds, L3.line, (upd_ne (by decide)).trans L3.mh, (upd_ne (by decide)).trans L3.mw⟩
  · rw [upd_if, if_neg hy]; exact I.hm y hy

structure MkI (i w : Nat) (H0 : HS) (sus : List Int) (Hs : HS) (n : Int) (σ₀ : Sto) (H : HS) (W : List Int) (m : Loc) (τ : Sto) : Prop where
  inv : MarkInv H0 sus H W
  L : Ln i w H W m τ
  fr : Fr (WW i w) σ₀ τ
  got : (H.cell n).col = .grey ∨ n ∈ W
  mono : ∀ k, (Hs.cell k).col = .grey → (H.cell k).col = .grey
  small : colMu H0 H notGrey W ≤ 20000

theorem colMu_le (g : Gr B H0) (hB : B ≤ 1000) (P : Col → Bool) (W : List Int) : colMu H0 H P W ≤ 3000 + W.length := by
  have hk := g.keysLen
  have hlb := g.lb
  have : ∀ l : List Int, (∀ m ∈ l, m ∈ H0.keys) → ksum (fun m => if P (H.cell m).col then (H0.cell m).slots.length else 0) l ≤ 3 * l.length := by
    intro l
    induction l with
    | nil => intro _; exact Nat.le_refl _
    | cons a r ih =>
      intro hl
      rw [ksum_cons, List.length_cons]
      have h1 := ih fun m hm => hl m (.tail _ hm)
      have h2 := g.slotsLen (hl a (.head _))
      split <;> lia
  have := this H0.keys fun _ h => h
  unfold colMu
  lia

theorem colMu_line {P : Col → Bool} {W : List Int} {x : Int} (h : colMu H0 H P (W ++ [x]) ≤ 20000) : W.length < 20000 := by
  unfold colMu at h
  rw [List.length_append] at h
  exact Nat.lt_of_lt_of_le (Nat.lt_succ_self _) (Nat.le_trans (Nat.le_add_left _ _) h)
theorem colMu_pop {P : Col → Bool} {W : List Int} {x : Int} : colMu H0 H P W < colMu H0 H P (W ++ [x]) := by
  unfold colMu
  rw [List.length_append]
  exact Nat.lt_succ_self _
theorem col_s {c c' : Col} (h : c ≠ c') : ¬ c.s = c'.s := by cases c <;> cases c' <;> first | exact absurd rfl h | exact (by decide)
theorem nes_f' {x y : String} {P : Bool → Prop} (e : x = y) (h : P false) : wpCmp .ne (.str x) (.str y) σ P := by
  subst e; exact nes_f h
theorem eqs_t' {x y : String} {P : Bool → Prop} (e : x = y) (h : P true) : wpCmp .eq (.str x) (.str y) σ P := by
  subst e; exact eqs_t h
theorem c_mark_grey {n : Int} (hB : B ≤ 1000) (g : Gr B H0) (h : Holds i NF H σ) (I : MarkInv H0 sus H []) (hn : n ∈ H0.keys) (hr : RS H0 sus n)
    (hQ : ∀ H' σ', MarkInv H0 sus H' [] → (H'.cell n).col = .grey → (∀ m, (H.cell m).col = .grey → (H'.cell m).col = .grey) → Holds i NF H' σ' → Fr (Own i) σ σ' → Q .none σ') : wpFn prg (d + 3) "mark_grey" [hp i, cr i n] σ Q := by
  refine fn_intro rfl rfl ?_
  simp? only [d_mark_grey]
  refine .inl fun w hw => nx ?_
  rw [wpSs_cons]
  refine while_line (w := w) (i := i) (fun H1 W m τ => MkI i w H0 sus H n (σ.set (.tmp w) (.list [cr i n])) H1 W m τ) (fun H1 W => colMu H0 H1 notGrey W) (fun K => ⟨K.L.mw, K.L.line⟩) (fun H1 m τ K => hQ H1 τ K.inv (K.got.elim id fun q => nomatch q) K.mono K.L.holds (Fr.line hw K.fr)) (fun H1 W x m τ R K hR => ?_)
    (a := H) (W := [n]) ⟨⟨I.cc, I.cnt, fun m hm hg p hp c e => (I.cl m hm hg p hp c e).imp id (fun q => nomatch q), fun c hc => by rw [List.mem_singleton.mp hc]; exact ⟨hn, hr⟩, I.gr, I.nw⟩, ⟨h.tmp, set_same, rfl, rfl⟩, .refl, .inr (.head _), fun _ q => q,
      Nat.le_trans (colMu_le (H := H) g hB notGrey [n]) (by decide : 3000 + 1 ≤ 20000)⟩
  have J := K.inv
  have L := K.L
  have L2 := L.popped (v := cr i x)
  have f2 : Fr (WW i w) (σ.set (.tmp w) (.list [cr i n])) _ := K.fr.trans (.set (o := .list (W.map (cr i))) (.inr rfl))
  have hx := (J.wk x (List.mem_append_right _ (List.mem_cons_self ..))).1
  have hx1 : x ∈ H1.keys := by rw [J.cc.keys]; exact hx
  refine nx ?_
  simp? only [L.mw]
  refine methl_in L.line rfl ⟨kind_list L.line, pop_list L.last (nx ?_)⟩
  simp? only []
  refine attr_in (L2.holds.cColour hx1) ?_
  by_cases q : (H1.cell x).col = .grey
  · refine nes_f' (by rw [q]; rfl) (hR H1 W _ _ colMu_pop ⟨J.skip q, L2, f2, ?_, K.mono, Nat.le_trans (Nat.le_of_lt colMu_pop) K.small⟩)
    rcases K.got with r | r
    · exact .inl r
    · exact (List.mem_append.mp r).elim .inr fun r => .inl (by rw [List.mem_singleton.mp r]; exact q)
  · refine nes_t (col_s (c' := .grey) q) (nx ?_)
    simp? only []
    refine (sa_grey L2.holds hx1).mpr (nx ?_)
    have L3 : Ln i w (H1.paint x .grey) W _ _ := L2.set (c := { H1.cell x with col := .grey }) hx1 rfl
    have cc3 := J.cc.trans (CC.paint H1 x .grey)
    have g3 : Gr B (H1.paint x .grey) := g.same cc3.same
    rw [wpSs_cons, wS14, src_call]
    simp_all? only [L.mh]
    refine c_children (d := d) L3.holds g3 hB hx1 fun t σ4 ht e4 f4 => ?_
    have L4 := L3.to (L3.holds.fr f4 (fun _ q => q)) ((f4 (.tmp w) id (.inl (by rw [L3.line]; exact fun q => nomatch q))).trans L3.line)
    have tw : t ≠ w := fun q => by rw [q, L3.line] at ht; exact nomatch ht
    refine for_kids (δ := -1) (fun x τ P => sub_one x) g3 hx1 tw e4 L4 (Nat.lt_trans (colMu_line K.small) (by decide)) fun m5 τ5 L5 f5 _ => ?_
    have es : ((H1.paint x .grey).cell x).slots = (H0.cell x).slots := (cc3.cell x).2.1
    rw [es] at L5
    have lt := colMu_paint (H := H1) (P := notGrey) (W := W) (x := x) (c := .grey) (δ := -1) g hx (by unfold notGrey; exact decide_eq_true q) rfl
    have cg : ∀ k, (((H1.paint x .grey).bump (-1) (kids (H0.cell x).slots)).cell k).col = if k = x then .grey else (H1.cell k).col := fun k => paint_col H1 x .grey k
    refine hR _ _ _ _ lt ⟨J.grey g q, L5, f2.trans ((Fr.set (.inl ⟨_, rfl⟩)).trans ((f4.mono fun _ q => q.elim).trans f5)), ?_, fun k hk => ?_, Nat.le_trans (Nat.le_of_lt lt) K.small⟩
    · rcases K.got with r | r
      · left; rw [cg, r]; split <;> rfl
      · rcases List.mem_append.mp r with r | r
        · exact .inr (List.mem_append_left _ r)
        · left; rw [cg, if_pos (List.mem_singleton.mp r)]
    · rw [cg, K.mono k hk]; split <;> rfl
end
end Gc
end
/- GcD3 -/
section
namespace Gc

noncomputable def gwc (c : Col) : Bool := decide (c = .grey) || decide (c = .white)
noncomputable abbrev gw (H : HS) (m : Int) : Bool := gwc (H.cell m).col

structure Start (B : Int) (H0 : HS) (sus : List Int) : Prop where
  g : Gr B H0
  c0 : ∀ n ∈ H0.keys, (H0.cell n).count = (H0.refs n : Nat)
  root : ∀ n ∈ H0.keys, Live H0 n ∨ RS H0 sus n
  sk : ∀ s ∈ sus, s ∈ H0.keys

structure ScanInv (H0 : HS) (sus : List Int) (H : HS) (W T : List Int) : Prop where
  cc : CC H0 H
  cnt : ∀ n ∈ H0.keys, (H.cell n).count = (H0.cell n).count - (gsum H0 (gw H) n : Nat)
  bl : ∀ m ∈ H0.keys, RS H0 sus m → gw H m = false → ∀ p ∈ (H0.cell m).slots, ∀ c, p.2 = .cell c → gw H c = false
  wc : ∀ m ∈ H0.keys, (H.cell m).col = .white → ∀ p ∈ (H0.cell m).slots, ∀ c, p.2 = .cell c → (H.cell c).col ≠ .grey ∨ c ∈ W
  we : ∀ m ∈ H0.keys, (H.cell m).col = .white → (H.cell m).count = 0
  li : ∀ m ∈ H0.keys, RS H0 sus m → gw H m = false → Live H0 m
  gr : ∀ m ∈ H0.keys, gw H m = true → RS H0 sus m
  np : ∀ m ∈ H0.keys, RS H0 sus m → (H.cell m).col ≠ .purple
  wk : ∀ c ∈ W, c ∈ H0.keys ∧ RS H0 sus c
  su : ∀ s ∈ sus, (H.cell s).col ≠ .grey ∨ s ∈ W ∨ s ∈ T

section
variable {B : Int} {H0 H H1 : HS} {sus W T V : List Int} {x y : Int}

theorem gw_grey {c : Col} (h : c = .grey) : gwc c = true := by subst h; rfl
theorem gw_white {c : Col} (h : c = .white) : gwc c = true := by subst h; rfl

theorem scan_start (g : Gr B H0) (I : MarkInv H0 sus H []) (hs : ∀ s ∈ sus, (H.cell s).col = .grey) (sk : ∀ s ∈ sus, s ∈ H0.keys) : ScanInv H0 sus H [] sus := by
  have all := fun {n} => I.all (n := n) g hs
  have gwg : ∀ m ∈ H0.keys, gw H m = isCol H .grey m := fun m hm => by
    have := I.nw m hm
    simp [gwc, this]
  refine ⟨I.cc, fun n hn => ?_, fun m hm hr hg => ?_, fun m hm hg => ?_, fun m hm hg => ?_, fun m hm hr hg => ?_, fun m hm hg => ?_, fun m hm hr => ?_, fun c hc => (by cases hc), fun s hs' => .inr (.inr hs')⟩
  · rw [I.cnt n hn, gsum_congr gwg]
  · rw [show gw H m = true from gw_grey (all hm hr)] at hg; cases hg
  · exact absurd hg (I.nw m hm)
  · exact absurd hg (I.nw m hm)
  · rw [show gw H m = true from gw_grey (all hm hr)] at hg; cases hg
  · rw [gwg m hm] at hg; exact I.gr m hm (by simpa using hg)
  · rw [all hm hr]; simp

theorem ScanInv.live (S : Start B H0 sus) (I : ScanInv H0 sus H W T) (hx : x ∈ H0.keys) (hg : gw H x = true) (hc : (H.cell x).count > 0) : Live H0 x := by
  rw [I.cnt x hx, S.c0 x hx] at hc
  unfold HS.refs at hc
  by_cases hv : 0 < inc x H0.vars
  · obtain ⟨p, hp, e⟩ := inc_ex hv
    exact .root ⟨p, hp, e⟩
  · have hlt : gsum H0 (gw H) x < ksum (fun m => inc x (H0.cell m).slots) H0.keys := by lia
    obtain ⟨m, hm, hmg, p, hp, e⟩ := gsum_lt hlt
    rcases S.root m hm with l | r
    · exact .step l hm hp e
    · have := I.bl m hm r hmg p hp x e
      rw [hg] at this; cases this

theorem ScanInv.skip (I : ScanInv H0 sus H (W ++ [x]) T) (hx : (H.cell x).col ≠ .grey) : ScanInv H0 sus H W T where
  cc := I.cc
  cnt := I.cnt
  bl := I.bl
  wc m hm hg p hp c e := by
    rcases I.wc m hm hg p hp c e with q | q
    · exact .inl q
    · rcases List.mem_append.mp q with q | q
      · exact .inr q
      · rw [List.mem_singleton.mp q]; exact .inl hx
  we := I.we
  li := I.li
  gr := I.gr
  np := I.np
  wk c hc := I.wk c (List.mem_append.mpr (.inl hc))
  su s hs := by
    rcases I.su s hs with q | q | q
    · exact .inl q
    · rcases List.mem_append.mp q with q | q
      · exact .inr (.inl q)
      · rw [List.mem_singleton.mp q]; exact .inl hx
    · exact .inr (.inr q)

theorem ScanInv.white (S : Start B H0 sus) (I : ScanInv H0 sus H (W ++ [x]) T) (hx : (H.cell x).col = .grey) (hc : ¬ (H.cell x).count > 0) : ScanInv H0 sus (H.paint x .white) (W ++ kids (H0.cell x).slots) T := by
  obtain ⟨hxk, hxr⟩ := I.wk x (by simp)
  have ec := paint_col H x .white
  have eg : ∀ m, gw (H.paint x .white) m = gw H m := fun m => by
    unfold gw
    rw [ec]
    split
    · rename_i q; subst q; rw [hx]; rfl
    · rfl
  refine ⟨I.cc.trans (CC.paint H x .white), fun n hn => ?_, fun m hm hr hg p hp c e => ?_, fun m hm hg p hp c e => ?_, fun m hm hg => ?_, fun m hm hr hg => ?_, fun m hm hg => ?_, fun m hm hr => ?_, fun c hc' => ?_, fun s hs => ?_⟩
  · rw [paint_count, I.cnt n hn, gsum_congr fun m _ => eg m]
  · rw [eg] at hg ⊢; exact I.bl m hm hr hg p hp c e
  · rw [ec] at hg ⊢
    by_cases q : m = x
    · subst q; exact .inr (List.mem_append.mpr (.inr (mem_kids.mpr ⟨p, hp, e⟩)))
    · rw [if_neg q] at hg
      rcases I.wc m hm hg p hp c e with r | r
      · left; split
        · simp
        · exact r
      · rcases List.mem_append.mp r with r | r
        · exact .inr (List.mem_append.mpr (.inl r))
        · left; rw [if_pos (List.mem_singleton.mp r)]; simp
  · rw [paint_count]
    rw [ec] at hg
    by_cases q : m = x
    · subst q
      have h1 := I.cnt m hm
      rw [S.c0 m hm] at h1
      have h2 := gsum_refs (H0 := H0) (P := gw H) (n := m)
      unfold HS.refs at h1
      lia
    · rw [if_neg q] at hg; exact I.we m hm hg
  · rw [eg] at hg; exact I.li m hm hr hg
  · rw [eg] at hg; exact I.gr m hm hg
  · rw [ec]; split
    · simp
    · exact I.np m hm hr
  · rcases List.mem_append.mp hc' with r | r
    · exact I.wk c (List.mem_append.mpr (.inl r))
    · obtain ⟨h1, p, hp, e⟩ := kid_keys S.g hxk r
      exact ⟨h1, .step hxr hxk hp e⟩
  · rw [ec]
    rcases I.su s hs with q | q | q
    · left; split
      · simp
      · exact q
    · rcases List.mem_append.mp q with q | q
      · exact .inr (.inl (List.mem_append.mpr (.inl q)))
      · left; rw [if_pos (List.mem_singleton.mp q)]; simp
    · exact .inr (.inr q)

/- black -/
structure MidInv (H0 : HS) (sus : List Int) (H1 : HS) (y : Int) (pre : List Int) (H : HS) (V : List Int) : Prop where
  cc : CC H0 H
  co : ∀ m, (H.cell m).col = (H1.cell m).col ∨ ((H.cell m).col = .black ∧ gw H1 m = true)
  cnt : ∀ n ∈ H0.keys, (H.cell n).count = (H0.cell n).count - (gsum H0 (fun m => gw H m || decide (m ∈ V) || decide (m = y)) n : Nat) + (pre.count n : Nat)
  bl : ∀ m ∈ H0.keys, RS H0 sus m → gw H m = false → m ∉ V → m ≠ y → ∀ p ∈ (H0.cell m).slots, ∀ c, p.2 = .cell c → gw H c = false
  by' : ∀ c ∈ pre, gw H c = false
  vk : ∀ v ∈ V, v ∈ H0.keys ∧ RS H0 sus v ∧ gw H v = false
  vn : V.Nodup
  yn : y ∉ V ∧ y ∈ H0.keys ∧ RS H0 sus y ∧ gw H y = false
  li : ∀ m ∈ H0.keys, RS H0 sus m → gw H m = false → Live H0 m
structure BlackInv (H0 : HS) (sus : List Int) (H1 : HS) (H : HS) (V : List Int) : Prop where
  cc : CC H0 H
  co : ∀ m, (H.cell m).col = (H1.cell m).col ∨ ((H.cell m).col = .black ∧ gw H1 m = true)
  cnt : ∀ n ∈ H0.keys, (H.cell n).count = (H0.cell n).count - (gsum H0 (fun m => gw H m || decide (m ∈ V)) n : Nat)
  bl : ∀ m ∈ H0.keys, RS H0 sus m → gw H m = false → m ∉ V → ∀ p ∈ (H0.cell m).slots, ∀ c, p.2 = .cell c → gw H c = false
  vk : ∀ v ∈ V, v ∈ H0.keys ∧ RS H0 sus v ∧ gw H v = false
  vn : V.Nodup
  li : ∀ m ∈ H0.keys, RS H0 sus m → gw H m = false → Live H0 m

theorem black_start (I : ScanInv H0 sus H1 W T) (hx : x ∈ H0.keys) (hr : RS H0 sus x) (hg : gw H1 x = true) (hl : Live H0 x) : BlackInv H0 sus H1 (H1.paint x .black) [x] := by
  have ec := paint_col H1 x .black
  have eg : ∀ m, gw (H1.paint x .black) m = if m = x then false else gw H1 m := fun m => by
    unfold gw
    rw [ec]
    split
    · rfl
    · rfl
  refine ⟨I.cc.trans (CC.paint H1 x .black), fun m => ?_, fun n hn => ?_, fun m hm hr hg' hv p hp c e => ?_, fun v hv => ?_, by simp, fun m hm hr hg' => ?_⟩
  · rw [ec]
    by_cases q : m = x
    · subst q; rw [if_pos rfl]; exact .inr ⟨rfl, hg⟩
    · rw [if_neg q]; exact .inl rfl
  · rw [paint_count, I.cnt n hn]
    congr 2
    refine gsum_congr fun m _ => ?_
    rw [eg]
    by_cases q : m = x
    · subst q; simp [hg]
    · simp [q]
  · have q : m ≠ x := fun q => hv (by rw [q]; simp)
    rw [eg, if_neg q] at hg'
    rw [eg]
    split
    · rfl
    · exact I.bl m hm hr hg' p hp c e
  · rw [List.mem_singleton.mp hv]
    exact ⟨hx, hr, by rw [eg, if_pos rfl]⟩
  · by_cases q : m = x
    · subst q; exact hl
    · rw [eg, if_neg q] at hg'; exact I.li m hm hr hg'

theorem BlackInv.pop (I : BlackInv H0 sus H1 H (V ++ [y])) : MidInv H0 sus H1 y [] H V := by
  have hn := I.vn
  rw [List.nodup_append] at hn
  have hy := I.vk y (by simp)
  refine ⟨I.cc, I.co, fun n hn => ?_, fun m hm hr hg hv hy' => ?_, fun c hc => (by cases hc), fun v hv => I.vk v (List.mem_append.mpr (.inl hv)), hn.1, ⟨fun q => hn.2.2 y q y (by simp) rfl, hy⟩, I.li⟩
  · rw [I.cnt n hn]
    simp only [List.count_nil, Int.ofNat_zero, Int.add_zero]
    congr 2
    refine gsum_congr fun m _ => ?_
    simp only [List.mem_append, List.mem_singleton, Bool.decide_or, Bool.or_assoc]
  · exact I.bl m hm hr hg fun q => by
      rcases List.mem_append.mp q with q | q
      · exact hv q
      · exact hy' (List.mem_singleton.mp q)
theorem MidInv.done (g : Gr B H0) (I : MidInv H0 sus H1 y (kids (H0.cell y).slots) H V) : BlackInv H0 sus H1 H V := by
  obtain ⟨y1, y2, y3, y4⟩ := I.yn
  refine ⟨I.cc, I.co, fun n hn => ?_, fun m hm hr hg hv p hp c e => ?_, I.vk, I.vn, I.li⟩
  · rw [I.cnt n hn, kids_count, gsum_add (P := fun m => gw H m || decide (m ∈ V)) (P' := fun m => gw H m || decide (m ∈ V) || decide (m = y)) g.nd y2 (by simp only [y4, Bool.false_or, decide_eq_false_iff_not]; exact y1) (by simp) fun m _ hne => by simp [hne]]
    lia
  · by_cases q : m = y
    · subst q; exact I.by' c (mem_kids.mpr ⟨p, hp, e⟩)
    · exact I.bl m hm hr hg hv q p hp c e

theorem MidInv.black {pre : List Int} {c : Int} (I : MidInv H0 sus H1 y pre H V) (hc : gw H c = false) : MidInv H0 sus H1 y (pre ++ [c]) (H.bump 1 [c]) V := by
  refine ⟨I.cc.trans (CC.bump _ _ _), I.co, fun n hn => ?_, I.bl, fun k hk => ?_, I.vk, I.vn, I.yn, I.li⟩
  · show (H.cell n).count + 1 * (([c] : List Int).count n : Nat) = _
    rw [I.cnt n hn, List.count_append]
    have : gsum H0 (fun m => gw (H.bump 1 [c]) m || decide (m ∈ V) || decide (m = y)) n = gsum H0 (fun m => gw H m || decide (m ∈ V) || decide (m = y)) n := rfl
    rw [this]; lia
  · rcases List.mem_append.mp hk with q | q
    · exact I.by' k q
    · rw [List.mem_singleton.mp q]; exact hc
theorem MidInv.turn {pre : List Int} {c : Int} (I : MidInv H0 sus H1 y pre H V) (hck : c ∈ H0.keys) (hr : RS H0 sus c) (hl : Live H0 c) (hc : gw H c = true) : MidInv H0 sus H1 y (pre ++ [c]) ((H.bump 1 [c]).paint c .black) (V ++ [c]) := by
  have ec := paint_col (H.bump 1 [c]) c .black
  have eb : ∀ m, ((H.bump 1 [c]).cell m).col = (H.cell m).col := fun _ => rfl
  have eg : ∀ m, gw ((H.bump 1 [c]).paint c .black) m = if m = c then false else gw H m := fun m => by
    unfold gw
    rw [ec]
    split
    · rfl
    · rfl
  have nV : c ∉ V := fun q => by have := (I.vk c q).2.2; rw [hc] at this; cases this
  have ny : y ≠ c := fun q => by have := I.yn.2.2.2; rw [q, hc] at this; cases this
  refine ⟨I.cc.trans ((CC.bump _ _ _).trans (CC.paint _ _ _)), fun m => ?_, fun n hn => ?_, fun m hm hr' hg hv hy' p hp k e => ?_, fun k hk => ?_, fun v hv => ?_, ?_, ⟨fun q => ?_, I.yn.2.1, I.yn.2.2.1, ?_⟩, fun m hm hr' hg => ?_⟩
  · rw [ec]
    by_cases q : m = c
    · subst q
      rw [if_pos rfl]
      rcases I.co m with w | w
      · exact .inr ⟨rfl, by unfold gw; rw [← w]; exact hc⟩
      · exact .inr ⟨rfl, w.2⟩
    · rw [if_neg q, eb]; exact I.co m
  · rw [paint_count]
    show (H.cell n).count + 1 * (([c] : List Int).count n : Nat) = _
    rw [I.cnt n hn, List.count_append]
    have : gsum H0 (fun m => gw ((H.bump 1 [c]).paint c .black) m || decide (m ∈ V ++ [c]) || decide (m = y)) n = gsum H0 (fun m => gw H m || decide (m ∈ V) || decide (m = y)) n := gsum_congr fun m _ => by
      rw [eg]
      by_cases q : m = c
      · subst q; simp [hc]
      · simp [q]
    rw [this]; lia
  · have q : m ≠ c := fun q => hv (by rw [q]; simp)
    rw [eg, if_neg q] at hg
    rw [eg]
    split
    · rfl
    · exact I.bl m hm hr' hg (fun w => hv (List.mem_append.mpr (.inl w))) hy' p hp k e
  · rw [eg]
    split
    · rfl
    · rename_i q
      rcases List.mem_append.mp hk with w | w
      · exact I.by' k w
      · exact absurd (List.mem_singleton.mp w) q
  · rcases List.mem_append.mp hv with w | w
    · obtain ⟨a, b, e⟩ := I.vk v w
      refine ⟨a, b, ?_⟩
      rw [eg]; split
      · rfl
      · exact e
    · rw [List.mem_singleton.mp w]; exact ⟨hck, hr, by rw [eg, if_pos rfl]⟩
  · rw [List.nodup_append]
    exact ⟨I.vn, by simp, fun a ha b hb => by rw [List.mem_singleton.mp hb]; rintro rfl; exact nV ha⟩
  · rcases List.mem_append.mp q with w | w
    · exact I.yn.1 w
    · exact ny (List.mem_singleton.mp w)
  · rw [eg, if_neg ny]; exact I.yn.2.2.2
  · by_cases q : m = c
    · subst q; exact hl
    · rw [eg, if_neg q] at hg; exact I.li m hm hr' hg

theorem black_end (I : ScanInv H0 sus H1 W T) (K : BlackInv H0 sus H1 H []) : ScanInv H0 sus H W T := by
  have sub : ∀ m, gw H m = true → gw H1 m = true := fun m h => by
    rcases K.co m with w | w
    · unfold gw at h ⊢; rw [← w]; exact h
    · exact w.2
  have wh : ∀ m, (H.cell m).col = .white → (H1.cell m).col = .white := fun m h => by
    rcases K.co m with w | w
    · rw [← w]; exact h
    · rw [w.1] at h; cases h
  have ng : ∀ m, (H1.cell m).col ≠ .grey → (H.cell m).col ≠ .grey := fun m h => by
    rcases K.co m with w | w
    · rw [w]; exact h
    · rw [w.1]; simp
  have cnt : ∀ n ∈ H0.keys, (H.cell n).count = (H0.cell n).count - (gsum H0 (gw H) n : Nat) := fun n hn => by
    rw [K.cnt n hn]
    congr 2
    exact gsum_congr fun m _ => by simp
  refine ⟨K.cc, cnt, fun m hm hr hg => K.bl m hm hr hg (by simp), fun m hm hg p hp c e => (I.wc m hm (wh m hg) p hp c e).imp (ng c) id, fun m hm hg => ?_, K.li, fun m hm hg => I.gr m hm (sub m hg), fun m hm hr => ?_, I.wk, fun s hs => (I.su s hs).imp (ng s) id⟩
  · have h1 := I.we m hm (wh m hg)
    rw [I.cnt m hm] at h1
    rw [cnt m hm]
    have : gsum H0 (gw H) m = gsum H0 (gw H1) m := ksum_congr fun k hk => by
      cases q : gw H k with
      | true => rw [sub k q]
      | false =>
        cases q1 : gw H1 k with
        | false => rfl
        | true =>
          simp only [Bool.false_eq_true, if_false, if_true]
          have hr := I.gr k hk q1
          rcases Nat.eq_zero_or_pos (inc m (H0.cell k).slots) with z | z
          · exact z.symm
          · obtain ⟨p, hp, e⟩ := inc_ex z
            have := K.bl k hk hr q (by simp) p hp m e
            rw [show gw H m = true from gw_white hg] at this
            cases this
    rw [this]; exact h1
  · rcases K.co m with w | w
    · rw [w]; exact I.np m hm hr
    · rw [w.1]; simp

theorem gsum_out {H0 : HS} {P : Int → Bool} {n m : Int} (nd : H0.keys.Nodup) (hm : m ∈ H0.keys) (h0 : P m = false) : gsum H0 P n + inc n (H0.cell m).slots ≤ ksum (fun m => inc n (H0.cell m).slots) H0.keys := by
  have := gsum_add (P := P) (P' := fun k => P k || decide (k = m)) (n := n) nd hm h0 (by simp) fun k _ hne => by simp [hne]
  have h2 := gsum_refs (H0 := H0) (P := fun k => P k || decide (k = m)) (n := n)
  lia
theorem scan_done (S : Start B H0 sus) (I : ScanInv H0 sus H [] []) {n : Int} (hn : n ∈ H0.keys) : (H.cell n).col ≠ .grey ∧ ((H.cell n).col = .white ↔ ¬ Live H0 n) := by
  have ng0 : ∀ n ∈ H0.keys, RS H0 sus n → RS H0 sus n ∧ (H.cell n).col ≠ .grey := fun n hn hr => by
    refine Rch.conv (T := fun n => RS H0 sus n ∧ (H.cell n).col ≠ .grey) S.g.cl ?_ ?_ hr hn
    · rintro n ⟨s, hs, e⟩ _
      cases e
      refine ⟨.root ⟨_, hs, rfl⟩, ?_⟩
      rcases I.su _ hs with q | q | q
      · exact q
      · cases q
      · cases q
    · rintro m c p ⟨hr', hT⟩ hm hp e hc
      refine ⟨.step hr' hm hp e, ?_⟩
      by_cases hw : gw H m = true
      · have : (H.cell m).col = .white := by
          unfold gw gwc at hw
          simp only [Bool.or_eq_true, decide_eq_true_eq] at hw
          exact hw.resolve_left hT
        rcases I.wc m hm this p hp c e with q | q
        · exact q
        · cases q
      · have hw' : gw H m = false := by simpa using hw
        have := I.bl m hm hr' hw' p hp c e
        intro q
        rw [show gw H c = true from gw_grey q] at this; cases this
  have ng : ∀ n ∈ H0.keys, (H.cell n).col ≠ .grey := fun n hn q => (ng0 n hn (I.gr n hn (gw_grey q))).2 q
  have gwf : ∀ m ∈ H0.keys, (H.cell m).col ≠ .white → gw H m = false := fun m hm h => by
    unfold gw gwc
    simp [ng m hm, h]
  have zero : ∀ c ∈ H0.keys, (H.cell c).col = .white → H0.refs c ≤ gsum H0 (gw H) c := fun c hc hw => by
    have h1 := I.we c hc hw
    rw [I.cnt c hc, S.c0 c hc] at h1
    lia
  have lw : ∀ n ∈ H0.keys, Live H0 n → (H.cell n).col ≠ .white := fun n hn hl => by
    refine Rch.conv (T := fun n => (H.cell n).col ≠ .white) S.g.cl ?_ ?_ hl hn
    · rintro n ⟨p, hp, e⟩ hn hw
      have h1 := zero n hn hw
      have h2 := gsum_refs (H0 := H0) (P := gw H) (n := n)
      have h3 := inc_pos hp e
      unfold HS.refs at h1
      lia
    · intro m c p hT hm hp e hc hw
      have h1 := zero c hc hw
      have h2 := gsum_out (P := gw H) (n := c) S.g.nd hm (gwf m hm hT)
      have h3 := inc_pos hp e
      unfold HS.refs at h1
      lia
  refine ⟨ng n hn, fun hw hl => lw n hn hl hw, fun hl => ?_⟩
  rcases S.root n hn with l | r
  · exact absurd l hl
  · by_cases hw : (H.cell n).col = .white
    · exact hw
    · exact absurd (I.li n hn r (gwf n hn hw)) hl

/- gathering -/
structure GathInv (H0 : HS) (sus : List Int) (H2 : HS) (H : HS) (W found : List Int) : Prop where
  cc : CC H0 H
  cnt : ∀ n ∈ H0.keys, (H.cell n).count = (H0.cell n).count - (gsum H0 (isCol H .white) n : Nat)
  ng : ∀ n ∈ H0.keys, (H.cell n).col ≠ .grey
  fw : ∀ n ∈ H0.keys, (H2.cell n).col = .white ↔ (H.cell n).col = .white ∨ n ∈ found
  fx : ∀ n ∈ found, n ∈ H0.keys ∧ (H.cell n).col ≠ .white
  fn : found.Nodup
  wc : ∀ m ∈ found, ∀ p ∈ (H0.cell m).slots, ∀ c, p.2 = .cell c → (H.cell c).col ≠ .white ∨ c ∈ W
  su : ∀ s ∈ sus, (H.cell s).col ≠ .white ∨ s ∈ W
  wk : ∀ c ∈ W, c ∈ H0.keys

theorem gath_start (S : Start B H0 sus) (I : ScanInv H0 sus H [] []) : GathInv H0 sus H H sus [] where
  cc := I.cc
  cnt n hn := by
    rw [I.cnt n hn]
    congr 2
    exact gsum_congr fun m hm => by
      have := (scan_done S I hm).1
      simp [gwc, this]
  ng n hn := (scan_done S I hn).1
  fw n hn := by simp
  fx n hn := by cases hn
  fn := .nil
  wc m hm := by cases hm
  su s hs := .inr hs
  wk := S.sk

theorem GathInv.skip {found : List Int} {H2 : HS} (I : GathInv H0 sus H2 H (W ++ [x]) found) (hx : (H.cell x).col ≠ .white) : GathInv H0 sus H2 H W found where
  cc := I.cc
  cnt := I.cnt
  ng := I.ng
  fw := I.fw
  fx := I.fx
  fn := I.fn
  wc m hm p hp c e := by
    rcases I.wc m hm p hp c e with q | q
    · exact .inl q
    · rcases List.mem_append.mp q with q | q
      · exact .inr q
      · rw [List.mem_singleton.mp q]; exact .inl hx
  su s hs := by
    rcases I.su s hs with q | q
    · exact .inl q
    · rcases List.mem_append.mp q with q | q
      · exact .inr q
      · rw [List.mem_singleton.mp q]; exact .inl hx
  wk c hc := I.wk c (List.mem_append.mpr (.inl hc))

theorem GathInv.take {found : List Int} {H2 : HS} (g : Gr B H0) (I : GathInv H0 sus H2 H (W ++ [x]) found) (hx : (H.cell x).col = .white) :
    GathInv H0 sus H2 ((H.paint x .black).bump 1 (kids (H0.cell x).slots)) (W ++ kids (H0.cell x).slots) (found ++ [x]) := by
  have hxk := I.wk x (by simp)
  have ec : ∀ m, (((H.paint x .black).bump 1 (kids (H0.cell x).slots)).cell m).col = if m = x then .black else (H.cell m).col := fun m => paint_col H x .black m
  have xf : x ∉ found := fun q => (I.fx x q).2 hx
  refine ⟨I.cc.trans ((CC.paint H x .black).trans (CC.bump _ _ _)), fun n hn => ?_, fun n hn => ?_, fun n hn => ?_, fun n hn => ?_, ?_, fun m hm p hp c e => ?_, fun s hs => ?_, fun c hc => ?_⟩
  · show ((H.paint x .black).cell n).count + 1 * ((kids (H0.cell x).slots).count n : Nat) = _
    have := gsum_add (P := isCol ((H.paint x .black).bump 1 (kids (H0.cell x).slots)) .white) (P' := isCol H .white) (n := n) g.nd hxk (by simp only [isCol, ec, if_true]; rfl) (by simpa using hx) fun m hm hne => by simp only [isCol, ec, hne, if_false]
    rw [paint_count, I.cnt n hn, kids_count, this]
    lia
  · rw [ec]; split
    · simp
    · exact I.ng n hn
  · rw [I.fw n hn, ec]
    by_cases q : n = x
    · subst q; simp [hx]
    · simp [q]
  · rw [ec]
    rcases List.mem_append.mp hn with q | q
    · refine ⟨(I.fx n q).1, ?_⟩
      split
      · simp
      · exact (I.fx n q).2
    · rw [List.mem_singleton.mp q]; exact ⟨hxk, by simp⟩
  · rw [List.nodup_append]
    exact ⟨I.fn, by simp, fun a ha b hb => by rw [List.mem_singleton.mp hb]; rintro rfl; exact xf ha⟩
  · rw [ec]
    rcases List.mem_append.mp hm with q | q
    · rcases I.wc m q p hp c e with r | r
      · left; split
        · simp
        · exact r
      · rcases List.mem_append.mp r with r | r
        · exact .inr (List.mem_append.mpr (.inl r))
        · left; rw [if_pos (List.mem_singleton.mp r)]; simp
    · rw [List.mem_singleton.mp q] at hp
      exact .inr (List.mem_append.mpr (.inr (mem_kids.mpr ⟨p, hp, e⟩)))
  · rw [ec]
    rcases I.su s hs with r | r
    · left; split
      · simp
      · exact r
    · rcases List.mem_append.mp r with r | r
      · exact .inr (List.mem_append.mpr (.inl r))
      · left; rw [if_pos (List.mem_singleton.mp r)]; simp
  · rcases List.mem_append.mp hc with r | r
    · exact I.wk c (List.mem_append.mpr (.inl r))
    · exact (kid_keys g hxk r).1

theorem gath_done {found : List Int} {H2 : HS} (S : Start B H0 sus) (I2 : ScanInv H0 sus H2 [] []) (I : GathInv H0 sus H2 H [] found) {n : Int} (hn : n ∈ H0.keys) :
    (H.cell n).col ≠ .grey ∧ (H.cell n).col ≠ .white ∧ (H.cell n).count = (H0.cell n).count ∧ (n ∈ found ↔ ¬ Live H0 n) := by
  have nw : ∀ n ∈ H0.keys, (H.cell n).col ≠ .white := fun n hn hw => by
    have hw2 : (H2.cell n).col = .white := (I.fw n hn).mpr (.inl hw)
    have hr : RS H0 sus n := I2.gr n hn (gw_white hw2)
    have key : RS H0 sus n ∧ ((H2.cell n).col = .white → (H.cell n).col ≠ .white) := by
      refine Rch.conv (T := fun n => RS H0 sus n ∧ ((H2.cell n).col = .white → (H.cell n).col ≠ .white)) S.g.cl ?_ ?_ hr hn
      · rintro n ⟨s, hs, e⟩ _
        cases e
        refine ⟨.root ⟨_, hs, rfl⟩, fun _ => ?_⟩
        rcases I.su _ hs with q | q
        · exact q
        · cases q
      · rintro m c p ⟨hr', hT⟩ hm hp e hc
        refine ⟨.step hr' hm hp e, fun h2 => ?_⟩
        have hm2 : (H2.cell m).col = .white := by
          by_cases q : (H2.cell m).col = .white
          · exact q
          · have hg : gw H2 m = false := by
              unfold gw gwc
              simp [(scan_done S I2 hm).1, q]
            have := I2.bl m hm hr' hg p hp c e
            rw [show gw H2 c = true from gw_white h2] at this; cases this
        have hf : m ∈ found := ((I.fw m hm).mp hm2).resolve_left (hT hm2)
        rcases I.wc m hf p hp c e with q | q
        · exact q
        · cases q
    exact key.2 hw2 hw
  refine ⟨I.ng n hn, nw n hn, ?_, ?_⟩
  · rw [I.cnt n hn]
    have : gsum H0 (isCol H .white) n = 0 := by
      have : gsum H0 (isCol H .white) n = gsum H0 (fun _ => false) n := gsum_congr fun m hm => by simp [nw m hm]
      rw [this]
      unfold gsum ksum
      generalize H0.keys = l
      induction l with
      | nil => rfl
      | cons _ _ ih => simpa using ih
    rw [this]; lia
  · rw [← (scan_done S I2 hn).2, I.fw n hn]
    exact ⟨fun h => .inr h, fun h => h.resolve_left (nw n hn)⟩
end
end Gc
end
/- GcC14 -/
section
set_option backward.dsimp.useDefEqAttr false
namespace Gc
noncomputable def gwMu (H0 H : HS) (V : List Int) : Nat := ksum (fun m => if gw H m then 1 else 0) H0.keys + V.length

section
variable {i : Nat} {fz : Int → Bool} {H H0 : HS} {σ : Sto} {d : Nat} {Q : AV → Sto → Prop} {B : Int} {sus W T : List Int}

theorem gwMu_le (g : Gr B H0) (hB : B ≤ 1000) (V : List Int) : gwMu H0 H V ≤ 1000 + V.length := by
  have hk := g.keysLen
  have hlb := g.lb
  have : ∀ l : List Int, ksum (fun m => if gw H m then 1 else 0) l ≤ l.length := by
    intro l
    induction l with
    | nil => exact Nat.le_refl _
    | cons a r ih =>
      rw [ksum_cons, List.length_cons]
      split <;> lia
  have := this H0.keys
  unfold gwMu
  lia

theorem gwMu_pop {H : HS} {V : List Int} {x : Int} : gwMu H0 H V < gwMu H0 H (V ++ [x]) := by
  unfold gwMu
  rw [List.length_append]
  exact Nat.lt_succ_self _
theorem gwMu_turn {H : HS} {V : List Int} {c : Int} (g : Gr B H0) (hc : c ∈ H0.keys) (hg : gw H c = true) : gwMu H0 ((H.bump 1 [c]).paint c .black) (V ++ [c]) = gwMu H0 H V := by
  unfold gwMu
  have eg : ∀ m, gw ((H.bump 1 [c]).paint c .black) m = if m = c then false else gw H m := fun m => by
    unfold gw
    rw [paint_col]
    split <;> rfl
  have dd := ksum_upd (f := fun m => if gw H m then 1 else 0) (g := fun m => if gw ((H.bump 1 [c]).paint c .black) m then 1 else 0) g.nd hc fun m hm hne => by simp only [eg, hne, if_false]
  simp only [eg, if_true, hg, Bool.false_eq_true, if_false] at dd
  rw [List.length_append, List.length_singleton]
  simp only [eg]
  lia
structure BkI (i w : Nat) (H0 : HS) (sus : List Int) (H1 : HS) (x : Int) (σ₀ : Sto) (H : HS) (V : List Int) (m : Loc) (τ : Sto) : Prop where
  inv : BlackInv H0 sus H1 H V
  L : Ln i w H V m τ
  fr : Fr (WW i w) σ₀ τ
  bx : (H.cell x).col = .black
  small : gwMu H0 H V ≤ 20000
structure BkM (i w t : Nat) (H0 : HS) (sus : List Int) (H1 : HS) (x y : Int) (σ₀ : Sto) (mu : Nat) (pre : List Int) (m : Loc) (τ : Sto) (H : HS) (V : List Int) : Prop where
  inv : MidInv H0 sus H1 y pre H V
  L : Ln i w H V m τ
  kl : τ (.tmp t) = some (.list ((kids (H0.cell y).slots).map (cr i)))
  fr : Fr (WW i w) σ₀ τ
  bx : (H.cell x).col = .black
  mu : gwMu H0 H V = mu
theorem Ln.child {w : Nat} {m : Loc} {τ : Sto} {v : AV} (L : Ln i w H W m τ) : Ln i w H W (upd m "child" v) τ := ⟨L.holds, L.line, (upd_ne (by decide)).trans L.mh, (upd_ne (by decide)).trans L.mw⟩

theorem bk_step {w t : Nat} {x y c : Int} {σ₀ : Sto} {mu : Nat} {pre suf : List Int} {m : Loc} {τ : Sto} {H5 : HS} {V : List Int} {R : Out → Loc → Sto → Prop} (S : Start B H0 sus) (I : ScanInv H0 sus H W T) (tw : t ≠ w) (hmu : mu ≤ 20000) (hy : y ∈ H0.keys) (ek : kids (H0.cell y).slots = pre ++ c :: suf) (M : BkM i w t H0 sus H x y σ₀ mu pre m τ H5 V)
    (hR : ∀ m' τ', (∃ H' V', BkM i w t H0 sus H x y σ₀ mu (pre ++ [c]) m' τ' H' V') → R .next m' τ') :
    wpSs (wpFn prg d) (.cons (.aug (.var "child") "count" .add (.cst (.int 1))) <| .cons (.ite (.cmp .ne (.attr (.var "child") "colour") (.cst (.str "black"))) (.cons (.setAttr (.var "child") "colour" (.cst (.str "black"))) <|
        .cons (.expr (.meth (.var "waiting") .append (.cons (.var "child") .nil))) <| .nil) .nil) <| .nil) (upd m "child" (cr i c)) τ R := by
  obtain ⟨hc, p, hp, ep⟩ := kid_keys S.g hy (at_mem ek)
  have hrc : RS H0 sus c := .step M.inv.yn.2.2.1 hy hp ep
  have hc5 : c ∈ H5.keys := by rw [M.inv.cc.keys]; exact hc
  have L6 := M.L.set (c := { H5.cell c with count := (H5.cell c).count + 1 }) hc5 rfl
  have eb : H5.setC c { H5.cell c with count := (H5.cell c).count + 1 } = H5.bump 1 [c] := by
    have := bump_snoc H5 1 [] c
    rw [bump_nil, List.nil_append] at this
    exact this.symm
  rw [eb] at L6
  simp? only []
  refine attr_in (M.L.holds.cCount hc5) ⟨_, 1, rfl, rfl, (add_one _).mpr ((sa_count M.L.holds hc5).mpr (nx ?_))⟩
  have k6 := (set_ne (a := .obj i (.cell c)) (o := cAO i c { H5.cell c with count := (H5.cell c).count + 1 }) (fun q => by cases q)).trans M.kl
  have f6 := M.fr.trans (.set (a := .obj i (.cell c)) (o := cAO i c { H5.cell c with count := (H5.cell c).count + 1 }) (.inl ⟨_, rfl⟩))
  generalize τ.set (.obj i (.cell c)) (cAO i c { H5.cell c with count := (H5.cell c).count + 1 }) = τ6 at L6 k6 f6 ⊢
  have hc6 : c ∈ (H5.bump 1 [c]).keys := hc5
  simp? only []
  refine attr_in (L6.holds.cColour hc6) ?_
  by_cases q : (H5.cell c).col = .black
  · have hgc : gw H5 c = false := by unfold gw; rw [q]; rfl
    refine nes_f' (by show (H5.cell c).col.s = _; rw [q]; rfl) (hR _ _ ⟨_, _, M.inv.black hgc, L6.child, k6, f6, M.bx, M.mu⟩)
  · have hgc : gw H5 c = true := by
      have np : (H5.cell c).col ≠ .purple := by
        rcases M.inv.co c with z | z
        · rw [z]; exact I.np c hc hrc
        · exact absurd z.1 q
      unfold gw gwc
      cases z : (H5.cell c).col <;> first | rfl | exact absurd z q | exact absurd z np
    refine nes_t (col_s (c' := .black) q) (nx ?_)
    simp? only []
    refine (sa_black L6.holds hc6).mpr (nx ?_)
    have L7 : Ln i w ((H5.bump 1 [c]).paint c .black) V _ _ := L6.set (c := { (H5.bump 1 [c]).cell c with col := .black }) hc6 rfl
    simp? only [M.L.mw]
    have hV := M.mu
    refine methl_in L7.line rfl ⟨kind_list L7.line, app_in L7.line ?_ (hR _ _ ⟨_, _, M.inv.turn hc hrc (.step (M.inv.li y hy M.inv.yn.2.2.1 M.inv.yn.2.2.2) hy hp ep) hgc, L7.put.child, (set_ne (by simpa using tw)).trans ((set_ne (fun q => by cases q)).trans k6), f6.trans ((Fr.set (.inl ⟨_, rfl⟩)).trans (.set (.inr rfl))), ?_, (gwMu_turn S.g hc hgc).trans M.mu⟩)⟩
    · rw [List.length_map]
      exact Nat.lt_of_le_of_lt (Nat.le_trans (Nat.le_add_left _ _) (hV ▸ hmu : gwMu H0 H5 V ≤ 20000)) (by decide)
    · rw [paint_col]
      split
      · rfl
      · exact M.bx

theorem c_scan_black {x : Int} (hB : B ≤ 1000) (S : Start B H0 sus) (h : Holds i NF H σ) (I : ScanInv H0 sus H W T) (hx : x ∈ H0.keys) (hr : RS H0 sus x) (hg : gw H x = true) (hl : Live H0 x)
    (hQ : ∀ H' σ', ScanInv H0 sus H' W T → (H'.cell x).col = .black → (∀ m, (H'.cell m).col = .grey → (H.cell m).col = .grey) → Holds i NF H' σ' → Fr (Own i) σ σ' → Q .none σ') : wpFn prg (d + 3) "scan_black" [hp i, cr i x] σ Q := by
  have hx1 : x ∈ H.keys := by rw [I.cc.keys]; exact hx
  refine fn_intro rfl rfl ?_
  simp? only [d_scan_black]
  refine (sa_black h hx1).mpr (nx ?_)
  have h0 := h.paint hx1 .black
  have f0 : Fr (Own i) σ _ := .set (a := .obj i (.cell x)) (o := cAO i x { H.cell x with col := .black }) ⟨_, rfl⟩
  generalize σ.set (.obj i (.cell x)) (cAO i x { H.cell x with col := .black }) = σ1 at h0 f0 ⊢
  simp? only []
  refine .inl fun w hw => nx ?_
  rw [wpSs_cons]
  refine while_line (w := w) (i := i) (fun H2 V m τ => BkI i w H0 sus H x (σ1.set (.tmp w) (.list [cr i x])) H2 V m τ) (fun H2 V => gwMu H0 H2 V) (fun K => ⟨K.L.mw, K.L.line⟩) (fun H2 m τ K => hQ H2 τ (black_end I K.inv) K.bx (fun m hm => ?_) K.L.holds (f0.trans (Fr.line hw K.fr))) (fun H2 V y m τ R K hR => ?_)
    (a := H.paint x .black) (W := [x]) ⟨black_start I hx hr hg hl, ⟨h0.tmp, set_same, rfl, rfl⟩, .refl, by rw [paint_col, if_pos rfl], Nat.le_trans (gwMu_le (H := H.paint x .black) S.g hB [x]) (by decide : 1000 + 1 ≤ 20000)⟩
  · rcases K.inv.co m with q | q
    · rw [← q]; exact hm
    · rw [q.1] at hm; exact nomatch hm
  have J := K.inv
  have L := K.L
  have hy := (J.vk y (List.mem_append_right _ (List.mem_cons_self ..))).1
  have hy1 : y ∈ H2.keys := by rw [J.cc.keys]; exact hy
  refine nx ?_
  rw [wpSs_cons, wS14, src_call]
  simp? only [L.mh, L.mw]
  refine methl_in L.line rfl ⟨kind_list L.line, pop_list L.last ?_⟩
  have L2 : Ln i w H2 V m _ := L.to (W' := V) L.holds.tmp set_same
  refine c_children (d := d) L2.holds (S.g.same J.cc.same) hB hy1 fun t σ4 ht e4 f4 => ?_
  rw [show (H2.cell y).slots = (H0.cell y).slots from (J.cc.cell y).2.1] at e4
  have L4 := L2.to (L2.holds.fr f4 (fun _ q => q)) ((f4 (.tmp w) id (.inl (by rw [L2.line]; exact fun q => nomatch q))).trans L2.line)
  have tw : t ≠ w := fun q => by rw [q, L2.line] at ht; exact nomatch ht
  have sm := Nat.le_trans (Nat.le_of_lt gwMu_pop) K.small
  refine for_tmpm e4 (fun pre _ m τ => ∃ H' V', BkM i w t H0 sus H x y (σ1.set (.tmp w) (.list [cr i x])) (gwMu H0 H2 V) pre m τ H' V') ⟨H2, V, J.pop, L4, e4, K.fr.trans ((Fr.set (.inr rfl)).trans (f4.mono fun _ q => q.elim)), K.bx, rfl⟩ (fun _ _ _ _ ⟨_, _, M⟩ => M.kl)
    (fun pre c suf m τ R e ⟨H5, V5, M⟩ hR => bk_step S I tw sm hy e M hR) (fun m τ ⟨H5, V5, M⟩ => hR H5 V5 _ _ (by rw [M.mu]; exact gwMu_pop) ⟨M.inv.done S.g, M.L, M.fr, M.bx, by rw [M.mu]; exact sm⟩)
end
end Gc
end
/- GcC15 -/
section
set_option backward.dsimp.useDefEqAttr false
namespace Gc
noncomputable def isGreyC (c : Col) : Bool := decide (c = .grey)
noncomputable def isWhiteC (c : Col) : Bool := decide (c = .white)

section
variable {i : Nat} {fz : Int → Bool} {H H0 : HS} {σ : Sto} {d : Nat} {Q : AV → Sto → Prop} {B : Int} {sus T : List Int}

structure ScI (i w : Nat) (H0 : HS) (sus T : List Int) (σ₀ : Sto) (H : HS) (W : List Int) (m : Loc) (τ : Sto) : Prop where
  inv : ScanInv H0 sus H W T
  L : Ln i w H W m τ
  fr : Fr (WW i w) σ₀ τ
  small : colMu H0 H isGreyC W ≤ 20000

theorem colMu_mono {H1 H2 : HS} {P : Col → Bool} {W : List Int} (h : ∀ m ∈ H0.keys, P (H2.cell m).col = true → P (H1.cell m).col = true) : colMu H0 H2 P W ≤ colMu H0 H1 P W := by
  have : ∀ l : List Int, (∀ m ∈ l, m ∈ H0.keys) → ksum (fun m => if P (H2.cell m).col then (H0.cell m).slots.length else 0) l ≤ ksum (fun m => if P (H1.cell m).col then (H0.cell m).slots.length else 0) l := by
    intro l
    induction l with
    | nil => intro _; exact Nat.le_refl _
    | cons a r ih =>
      intro hl
      rw [ksum_cons, ksum_cons]
      have h1 := ih fun m hm => hl m (.tail _ hm)
      have h2 := h a (hl a (.head _))
      cases q : P (H2.cell a).col with
      | false => simp only [Bool.false_eq_true, if_false]; lia
      | true => rw [h2 q]; lia
  have := this H0.keys fun _ h => h
  unfold colMu
  lia

theorem ScanInv.push {n : Int} (I : ScanInv H0 sus H [] (n :: T)) (hn : n ∈ H0.keys) (hr : RS H0 sus n) : ScanInv H0 sus H [n] T := ⟨I.cc, I.cnt, I.bl, fun m hm hg p hp c e => (I.wc m hm hg p hp c e).imp id (fun q => nomatch q), I.we, I.li, I.gr, I.np, fun c hc => by rw [List.mem_singleton.mp hc]; exact ⟨hn, hr⟩, fun s hs => by
  rcases I.su s hs with q | q | q
  · exact .inl q
  · exact nomatch q
  · rcases List.mem_cons.mp q with q | q
    · exact .inr (.inl (by rw [q]; exact .head _))
    · exact .inr (.inr q)⟩
theorem c_scan {n : Int} (hB : B ≤ 1000) (S : Start B H0 sus) (h : Holds i NF H σ) (I : ScanInv H0 sus H [] (n :: T)) (hn : n ∈ H0.keys) (hr : RS H0 sus n)
    (hQ : ∀ H' σ', ScanInv H0 sus H' [] T → Holds i NF H' σ' → Fr (Own i) σ σ' → Q .none σ') : wpFn prg (d + 4) "scan" [hp i, cr i n] σ Q := by
  refine fn_intro rfl rfl ?_
  simp? only [d_scan]
  refine .inl fun w hw => nx ?_
  rw [wpSs_cons]
  refine while_line (w := w) (i := i) (fun H1 W m τ => ScI i w H0 sus T (σ.set (.tmp w) (.list [cr i n])) H1 W m τ) (fun H1 W => colMu H0 H1 isGreyC W) (fun K => ⟨K.L.mw, K.L.line⟩) (fun H1 m τ K => hQ H1 τ K.inv K.L.holds (Fr.line hw K.fr)) (fun H1 W x m τ R K hR => ?_)
    (a := H) (W := [n]) ⟨I.push hn hr, ⟨h.tmp, set_same, rfl, rfl⟩, .refl, Nat.le_trans (colMu_le (H := H) S.g hB isGreyC [n]) (by decide : 3000 + 1 ≤ 20000)⟩
  have J := K.inv
  have L := K.L
  have L2 := L.popped (v := cr i x)
  have f2 : Fr (WW i w) (σ.set (.tmp w) (.list [cr i n])) _ := K.fr.trans (.set (o := .list (W.map (cr i))) (.inr rfl))
  obtain ⟨hx, hxr⟩ := J.wk x (List.mem_append_right _ (List.mem_cons_self ..))
  have hx1 : x ∈ H1.keys := by rw [J.cc.keys]; exact hx
  refine nx ?_
  simp? only [L.mw]
  refine methl_in L.line rfl ⟨kind_list L.line, pop_list L.last (nx ?_)⟩
  simp? only []
  refine attr_in (L2.holds.cColour hx1) ?_
  by_cases q : (H1.cell x).col = .grey
  · refine eqs_t' (by rw [q]; rfl) (nx ?_)
    simp? only []
    refine attr_in (L2.holds.cCount hx1) ?_
    by_cases hc : (H1.cell x).count > 0
    · simp only [cmp_gt_int, decide_eq_true hc]
      refine nx ?_
      simp? only [L.mh]
      refine c_scan_black (d := d) hB S L2.holds J hx hxr (gw_grey q) (J.live S hx (gw_grey q) hc) fun H3 σ3 J3 b3 g3 h3 f3 => ?_
      have lt : colMu H0 H3 isGreyC W < colMu H0 H1 isGreyC (W ++ [x]) := Nat.lt_of_lt_of_le colMu_pop (colMu_mono fun m _ hm => decide_eq_true (g3 m (of_decide_eq_true hm)))
      exact hR H3 W _ _ lt ⟨J3.skip (by rw [b3]; exact fun q => nomatch q), L2.to h3 ((f3 (.tmp w) (fun ⟨_, q⟩ => by cases q) (.inl (by rw [L2.line]; exact fun q => nomatch q))).trans L2.line), f2.trans (WW.own f3), Nat.le_trans (Nat.le_of_lt lt) K.small⟩
    · simp only [cmp_gt_int, decide_eq_false hc]
      refine nx ?_
      simp? only []
      refine (sa_white L2.holds hx1).mpr (nx ?_)
      have L3 : Ln i w (H1.paint x .white) W _ _ := L2.set (c := { H1.cell x with col := .white }) hx1 rfl
      have cc3 := J.cc.trans (CC.paint H1 x .white)
      simp? only [L.mh, L.mw]
      refine methl_in L3.line rfl ?_
      refine c_children (d := d + 1) L3.holds (S.g.same cc3.same) hB hx1 fun t σ4 ht e4 f4 => ?_
      rw [show ((H1.paint x .white).cell x).slots = (H0.cell x).slots from (cc3.cell x).2.1] at e4
      have L4 := L3.to (L3.holds.fr f4 (fun _ q => q)) ((f4 (.tmp w) id (.inl (by rw [L3.line]; exact fun q => nomatch q))).trans L3.line)
      have tw : Name.tmp w ≠ .tmp t := fun q => by rw [← q, L3.line] at ht; exact nomatch ht
      have lt : colMu H0 (H1.paint x .white) isGreyC (W ++ kids (H0.cell x).slots) < colMu H0 H1 isGreyC (W ++ [x]) := colMu_paint (H := H1) (P := isGreyC) (W := W) (x := x) (c := .white) (δ := 0) S.g hx (decide_eq_true q) rfl
      have le := Nat.le_trans (Nat.le_of_lt lt) K.small
      refine ⟨kind_list L4.line, extend_list tw L4.line e4 ?_ (hR (H1.paint x .white) (W ++ kids (H0.cell x).slots) _ _ lt ⟨J.white S q hc, L4.to L4.holds.tmp (by rw [List.map_append]; exact set_same), f2.trans ((Fr.set (.inl ⟨_, rfl⟩)).trans ((f4.mono fun _ q => q.elim).trans (.set (.inr rfl)))), le⟩)⟩
      rw [← List.length_append, ← List.map_append, List.length_map]
      exact Nat.lt_of_le_of_lt (Nat.le_trans (Nat.le_add_left _ _) le) (by decide)
  · exact eqs_f (col_s (c' := .grey) q) (hR H1 W _ _ colMu_pop ⟨J.skip q, L2, f2, Nat.le_trans (Nat.le_of_lt colMu_pop) K.small⟩)

structure GaI (i w f : Nat) (H0 : HS) (sus : List Int) (H2 : HS) (σ₀ : Sto) (a : HS × List Int) (W : List Int) (m : Loc) (τ : Sto) : Prop where
  inv : GathInv H0 sus H2 a.1 W a.2
  L : Ln i w a.1 W m τ
  got : τ (.tmp f) = some (.list (a.2.map .int))
  mf : m "found" = some (.ref (.tmp f))
  fr : Fr (fun b => WW i w b ∨ b = .tmp f) σ₀ τ
  small : colMu H0 a.1 isWhiteC W ≤ 20000

theorem sorted_list {a : Name} {ns : List Int} {P : AV → Sto → Prop} (e : σ a = some (.list (ns.map .int))) (hl : ns.length < 64) (h : ∀ k, σ (.tmp k) = none → P (.ref (.tmp k)) (σ.set (.tmp k) (.list ((isort ns).map .int)))) : wpBi .sorted (.ref a) σ P := ⟨ns, hl, .inl e, .inl h⟩

theorem nodup_sub_len {a b : List Int} (hn : a.Nodup) (h : ∀ x ∈ a, x ∈ b) : a.length ≤ b.length := by
  induction a generalizing b with
  | nil => exact Nat.zero_le _
  | cons x r ih =>
    have hn' := List.nodup_cons.mp hn
    have hx := h x (.head _)
    have := ih (b := b.erase x) hn'.2 fun y hy => by
      have hy' := h y (.tail _ hy)
      have hne : y ≠ x := by rintro rfl; exact hn'.1 hy
      exact (List.mem_erase_of_ne hne).mpr hy'
    rw [List.length_erase_of_mem hx] at this
    have hpos : 0 < b.length := List.length_pos_of_mem hx
    rw [List.length_cons]; lia

theorem ga_end {H2 H1 : HS} {w f : Nat} {found : List Int} {m : Loc} {τ : Sto} (hB : B ≤ 63) (S : Start B H0 sus) (hf : σ (.tmp f) = none) (hw : σ (.tmp w) = none) (K : GaI i w f H0 sus H2 ((σ.set (.tmp f) (.list [])).set (.tmp w) (.list (sus.map (cr i)))) (H1, found) [] m τ)
    (hQ : ∀ H' found t σ', GathInv H0 sus H2 H' [] found → Holds i NF H' σ' → Fr (Own i) σ σ' → σ (.tmp t) = none → σ' (.tmp t) = some (.list ((isort found).map .int)) → Q (.ref (.tmp t)) σ') :
    wpL (wpFn prg d) (.cons (.ret (.bi .sorted (.var "found"))) .nil) m τ fun o _ σ' => Q o.val σ' := by
  have J : GathInv H0 sus H2 H1 [] found := K.inv
  have e2 : τ (.tmp f) = some (.list (found.map .int)) := K.got
  have fl : found.length < 64 := by
    have fsub : found.length ≤ H0.keys.length := nodup_sub_len J.fn fun x hx => (J.fx x hx).1
    have hkl := S.g.keysLen
    have hlb := S.g.lb
    lia
  refine nx ?_
  simp? only [K.mf]
  refine sorted_list e2 fl fun t ht => ?_
  have back : ∀ b, ¬ Own i b → b ≠ .tmp w → b ≠ .tmp f → (σ b ≠ none ∨ ∃ j t, b = .obj j t) → τ b = σ b := fun b hb n1 n2 hx => by
    have e : ((σ.set (.tmp f) (.list [])).set (.tmp w) (.list (sus.map (cr i)))) b = σ b := (set_ne n1).trans (set_ne n2)
    exact (K.fr b (fun q => q.elim (fun q => q.elim hb n1) n2) (by rw [e]; exact hx)).trans e
  have ft : σ (.tmp t) = none := by
    cases z : σ (.tmp t) with
    | none => rfl
    | some o =>
      have := back (.tmp t) (fun ⟨_, q⟩ => by cases q) (fun q => by rw [q, K.L.line] at ht; exact nomatch ht) (fun q => by rw [q, e2] at ht; exact nomatch ht) (.inl (by rw [z]; exact fun q => nomatch q))
      rw [ht, z] at this; exact nomatch this
  have nt : ∀ {b k}, (σ b ≠ none ∨ ∃ j t, b = .obj j t) → σ (.tmp k) = none → b ≠ .tmp k := fun {b k} hx hk q => by
    rcases hx with hx | ⟨_, _, hx⟩
    · rw [q, hk] at hx; exact hx rfl
    · rw [q] at hx; exact nomatch hx
  exact hQ H1 found t _ J K.L.holds.tmp (fun b hb hx => (set_ne (nt hx ft)).trans (back b hb (nt hx hw) (nt hx hf) hx)) ft set_same
theorem c_gather {H2 : HS} {s : Nat} (hB : B ≤ 63) (S : Start B H0 sus) (h : Holds i NF H2 σ) (I : ScanInv H0 sus H2 [] []) (es : σ (.tmp s) = some (.list (sus.map (cr i)))) (hsl : sus.length ≤ 1000)
    (hQ : ∀ H' found t σ', GathInv H0 sus H2 H' [] found → Holds i NF H' σ' → Fr (Own i) σ σ' → σ (.tmp t) = none → σ' (.tmp t) = some (.list ((isort found).map .int)) → Q (.ref (.tmp t)) σ') : wpFn prg (d + 3) "gather" [hp i, .ref (.tmp s)] σ Q := by
  have hB' : B ≤ 1000 := Int.le_trans hB (by decide)
  refine fn_intro rfl rfl ?_
  simp? only [d_gather]
  refine .inl fun f hf => nx ?_
  have nsf : Name.tmp s ≠ .tmp f := fun q => by rw [← q, es] at hf; exact nomatch hf
  simp? only []
  refine ⟨.tmp s, sus.map (cr i), rfl, (set_ne nsf).trans es, .inl fun w hw => nx ?_⟩
  have nwf : Name.tmp f ≠ .tmp w := fun q => by rw [← q, set_same] at hw; exact nomatch hw
  have nfw : f ≠ w := fun q => nwf (by rw [q])
  have hw0 : σ (.tmp w) = none := (set_ne (fun q => nwf q.symm)).symm.trans hw
  rw [wpSs_cons]
  refine while_line (w := w) (i := i) (fun a W m τ => GaI i w f H0 sus H2 ((σ.set (.tmp f) (.list [])).set (.tmp w) (.list (sus.map (cr i)))) a W m τ) (fun a W => colMu H0 a.1 isWhiteC W) (fun K => ⟨K.L.mw, K.L.line⟩) (fun a m τ K => ga_end hB S hf hw0 K hQ) (fun a W x m τ R K hR => ?_)
    (a := (H2, [])) (W := sus) ⟨gath_start S I, ⟨h.tmp.tmp, set_same, rfl, rfl⟩, (set_ne nwf).trans set_same, rfl, .refl, Nat.le_trans (colMu_le (H := H2) S.g hB' isWhiteC sus) (Nat.le_trans (Nat.add_le_add_left hsl _) (by decide))⟩
  obtain ⟨H1, found⟩ := a
  have J : GathInv H0 sus H2 H1 (W ++ [x]) found := K.inv
  have L : Ln i w H1 (W ++ [x]) m τ := K.L
  have L2 := L.popped (v := cr i x)
  have e2 : (τ.set (.tmp w) (.list (W.map (cr i)))) (.tmp f) = some (.list (found.map .int)) := (set_ne nwf).trans K.got
  have f2 := K.fr.trans (.set (a := .tmp w) (o := .list (W.map (cr i))) (.inl (.inr rfl)))
  have mf2 : (upd m "here" (cr i x)) "found" = some (.ref (.tmp f)) := (upd_ne (by decide)).trans K.mf
  have sml : colMu H0 H1 isWhiteC (W ++ [x]) ≤ 20000 := K.small
  have hx := J.wk x (List.mem_append_right _ (List.mem_cons_self ..))
  have hx1 : x ∈ H1.keys := by rw [J.cc.keys]; exact hx
  refine nx ?_
  simp? only [L.mw]
  refine methl_in L.line rfl ⟨kind_list L.line, pop_list L.last (nx ?_)⟩
  generalize τ.set (.tmp w) (.list (W.map (cr i))) = τ2 at L2 e2 f2 ⊢
  simp? only []
  refine attr_in (L2.holds.cColour hx1) ?_
  by_cases q : (H1.cell x).col = .white
  · refine eqs_t' (by rw [q]; rfl) (nx ?_)
    simp? only []
    refine (sa_black L2.holds hx1).mpr (nx ?_)
    have L3 : Ln i w (H1.paint x .black) W _ _ := L2.set (c := { H1.cell x with col := .black }) hx1 rfl
    have e3 := (set_ne (a := .obj i (.cell x)) (o := cAO i x { H1.cell x with col := .black }) (fun q => by cases q)).trans e2
    have f3 := f2.trans (.set (a := .obj i (.cell x)) (o := cAO i x { H1.cell x with col := .black }) (.inl (.inl ⟨_, rfl⟩)))
    generalize τ2.set (.obj i (.cell x)) (cAO i x { H1.cell x with col := .black }) = τ3 at L3 e3 f3 ⊢
    have cc3 := J.cc.trans (CC.paint H1 x .black)
    have g3 : Gr B (H1.paint x .black) := S.g.same cc3.same
    simp? only [K.mf]
    refine methl_in e3 rfl (attr_in (L3.holds.cNumber hx1) ⟨kind_list e3, app_in e3 ?_ (nx ?_)⟩)
    · rw [List.length_map]
      exact Nat.lt_of_le_of_lt (nodup_sub_len J.fn fun x hx => (J.fx x hx).1) (Nat.lt_of_le_of_lt (show H0.keys.length ≤ 1000 by have := S.g.keysLen; have := S.g.lb; lia) (by decide))
    · have L4 := L3.to (L3.holds.tmp (k := f) (o := .list (found.map .int ++ [.int x]))) ((set_ne (fun q => nwf q.symm)).trans L3.line)
      have e4 : (τ3.set (.tmp f) (.list (found.map .int ++ [.int x]))) (.tmp f) = _ := set_same
      have f4 := f3.trans (.set (a := .tmp f) (o := .list (found.map .int ++ [.int x])) (.inr rfl))
      generalize τ3.set (.tmp f) (.list (found.map .int ++ [.int x])) = τ4 at L4 e4 f4 ⊢
      rw [wpSs_cons, wS14, src_call]
      simp_all? only [L.mh]
      refine c_children (d := d) L4.holds g3 hB' hx1 fun t σ5 ht e5 f5 => ?_
      have L5 := L4.to (L4.holds.fr f5 (fun _ q => q)) ((f5 (.tmp w) id (.inl (by rw [L4.line]; exact fun q => nomatch q))).trans L4.line)
      have tw : t ≠ w := fun q => by rw [q, L4.line] at ht; exact nomatch ht
      have ef := (f5 (.tmp f) id (.inl (by rw [e4]; exact fun q => nomatch q))).trans e4
      refine for_kids (δ := 1) (fun x τ P => add_one x) g3 hx1 tw e5 L5 (Nat.lt_trans (colMu_line sml) (by decide)) fun m6 τ6 L6 f6 hm6 => ?_
      rw [show ((H1.paint x .black).cell x).slots = (H0.cell x).slots from (cc3.cell x).2.1] at L6
      have lt := colMu_paint (H := H1) (P := isWhiteC) (W := W) (x := x) (c := .black) (δ := 1) S.g hx (decide_eq_true q) rfl
      exact hR ((H1.paint x .black).bump 1 (kids (H0.cell x).slots), found ++ [x]) _ _ _ lt ⟨J.take S.g q, L6, ((f6 (.tmp f) (tmp_ww nfw) (.inl (by rw [ef]; exact fun q => nomatch q))).trans ef).trans (by rw [List.map_append]; rfl), (hm6 _ (by decide)).trans mf2, f4.trans ((f5.mono fun _ q => q.elim).trans (f6.mono fun _ q => .inl q)), Nat.le_trans (Nat.le_of_lt lt) sml⟩
  · exact eqs_f (col_s (c' := .white) q) (hR (H1, found) W _ _ colMu_pop ⟨J.skip q, L2, e2, mf2, f2, Nat.le_trans (Nat.le_of_lt colMu_pop) sml⟩)
end
end Gc
end
/- GcD4 -/
section
namespace Gc

noncomputable def HS.unbuf (H : HS) : HS := { H with buf := [], ep := H.ep + 1, cell := fun n => if n ∈ H.buf then { H.cell n with bufd := false } else H.cell n }
theorem unbuf_cell (H : HS) (n : Int) : (H.unbuf.cell n).sort = (H.cell n).sort ∧ (H.unbuf.cell n).slots = (H.cell n).slots ∧ (H.unbuf.cell n).count = (H.cell n).count ∧ (H.unbuf.cell n).col = (H.cell n).col := by
  show ((if n ∈ H.buf then { H.cell n with bufd := false } else H.cell n) : Cl).sort = _ ∧ ((if n ∈ H.buf then { H.cell n with bufd := false } else H.cell n) : Cl).slots = _ ∧ ((if n ∈ H.buf then { H.cell n with bufd := false } else H.cell n) : Cl).count = _ ∧
    ((if n ∈ H.buf then { H.cell n with bufd := false } else H.cell n) : Cl).col = _
  split <;> exact ⟨rfl, rfl, rfl, rfl⟩
theorem unbuf_same (H : HS) : SameG H H.unbuf := ⟨rfl, rfl, rfl, rfl, rfl, fun n => ⟨(unbuf_cell H n).1, (unbuf_cell H n).2.1⟩⟩

section
variable {B : Int} {H H0 : HS} {S : List Val}

theorem unbuf_bufd (o : Ok B H S) {n : Int} (hn : n ∈ H.keys) : (H.unbuf.cell n).bufd = false := by
  show ((if n ∈ H.buf then { H.cell n with bufd := false } else H.cell n) : Cl).bufd = false
  split
  · rfl
  · rename_i q
    cases z : (H.cell n).bufd with
    | false => rfl
    | true => exact absurd ((o.buf n).mpr ⟨hn, z⟩) q
theorem unbuf_start (o : Ok B H []) : Start B H.unbuf H.buf where
  g := o.toGr.same (unbuf_same H)
  c0 n hn := by
    have := o.cnt n hn
    rw [(unbuf_cell H n).2.2.1, this, (unbuf_same H).refs]
    simp [incS]
  root n hn := by
    refine Rch.conv (H := H) (T := fun n => Live H.unbuf n ∨ RS H.unbuf H.buf n) o.cl ?_ ?_ (o.root n hn) hn
    · rintro n (⟨p, hp, e⟩ | r | ⟨s, hs, e⟩) _
      · exact .inl (.root ⟨p, hp, e⟩)
      · cases r
      · exact .inr (.root ⟨s, hs, e⟩)
    · rintro m c p (hT | hT) hm hp e _
      · exact .inl (.step hT hm (by rw [(unbuf_cell H m).2.1]; exact hp) e)
      · exact .inr (.step hT hm (by rw [(unbuf_cell H m).2.1]; exact hp) e)
  sk s hs := ((o.buf s).mp hs).1
theorem mark_start (o : Ok B H []) : MarkInv H.unbuf H.buf H.unbuf [] where
  cc := .refl
  cnt n hn := by
    have : gsum H.unbuf (isCol H.unbuf .grey) n = 0 := by
      have : gsum H.unbuf (isCol H.unbuf .grey) n = gsum H.unbuf (fun _ => false) n := gsum_congr fun m hm => by
        have := (o.col m hm).1
        simp only [isCol, (unbuf_cell H m).2.2.2, this, decide_false]
      rw [this]
      unfold gsum ksum
      generalize H.unbuf.keys = l
      induction l with
      | nil => rfl
      | cons _ _ ih => simpa using ih
    rw [this]; simp
  cl m hm hg := by rw [(unbuf_cell H m).2.2.2] at hg; exact absurd hg (o.col m hm).1
  wk c hc := by cases hc
  gr m hm hg := by rw [(unbuf_cell H m).2.2.2] at hg; exact absurd hg (o.col m hm).1
  nw m hm := by rw [(unbuf_cell H m).2.2.2]; exact (o.col m hm).2

structure Found (H H' : HS) (found : List Int) : Prop where
  cc : CC H.unbuf H'
  nd : found.Nodup
  sub : ∀ n ∈ found, n ∈ H.keys
  at' : ∀ n ∈ H.keys, (H'.cell n).col ≠ .grey ∧ (H'.cell n).col ≠ .white ∧ (H'.cell n).count = (H.cell n).count ∧ (n ∈ found ↔ ¬ Live H.unbuf n)

structure FreeInv (H : HS) (pre : List Int) (H' : HS) : Prop where
  keys : H'.keys = H.keys.filter fun k => decide (k ∉ pre)
  cell : H'.cell = H.cell
  vars : H'.vars = H.vars
  buf : H'.buf = H.buf
  last : H'.last = H.last
  full : H'.full = H.full
  freed : H'.freed = H.freed + pre.length
  logn : H'.logn = H.logn + pre.length
theorem freeInv0 : FreeInv H [] H := ⟨(List.filter_eq_self.mpr fun _ _ => by simp).symm, rfl, rfl, rfl, rfl, rfl, by simp, by simp⟩
theorem FreeInv.step {pre : List Int} {H' : HS} {n : Int} (I : FreeInv H pre H') (hb : (H.cell n).bufd = false) : FreeInv H (pre ++ [n]) (H'.free n) := by
  refine ⟨?_, I.cell, I.vars, ?_, I.last, I.full, ?_, ?_⟩
  · show (H'.keys.filter fun k => decide (k ≠ n)) = _
    rw [I.keys, List.filter_filter]
    refine List.filter_congr fun k _ => ?_
    simp only [List.mem_append, List.mem_singleton, not_or, Bool.decide_and]
    exact Bool.and_comm _ _
  · show (if (H'.cell n).bufd then _ else H'.buf) = _
    rw [I.cell, hb]; simpa using I.buf
  · show H'.freed + 1 = _
    rw [I.freed, List.length_append, List.length_singleton]; lia
  · show H'.logn + 1 = _
    rw [I.logn, List.length_append, List.length_singleton]; lia

theorem ksum_split {f : Int → Nat} {ws : List Int} : ∀ {ks : List Int}, ks.Nodup → ws.Nodup → (∀ w ∈ ws, w ∈ ks) → ksum f (ks.filter fun k => decide (k ∉ ws)) + ksum f ws = ksum f ks := by
  induction ws with
  | nil =>
    intro ks _ _ _
    rw [List.filter_eq_self.mpr fun _ _ => by simp]; rfl
  | cons w ws ih =>
    intro ks hk hw hs
    have hw' := List.nodup_cons.mp hw
    have h1 := ih hk hw'.2 fun x hx => hs x (.tail _ hx)
    have h2 := ksum_del (f := f) (n := w) (ks := ks.filter fun k => decide (k ∉ ws)) (hk.filter _) (by
      rw [List.mem_filter]; exact ⟨hs w (.head _), by simpa using hw'.1⟩)
    rw [List.filter_filter] at h2
    have e : (ks.filter fun k => decide (k ∉ w :: ws)) = ks.filter fun a => (decide (a ≠ w) && decide (a ∉ ws)) := List.filter_congr fun k _ => by
      simp only [List.mem_cons, not_or, Bool.decide_and]
    rw [ksum_cons, e]
    lia

theorem free_ok {H' H2 : HS} {found ns : List Int} (o : Ok B H []) (F : Found H H' found) (hp : ns.Perm found) (I : FreeInv H' ns H2) : Ok B H2 (ns.flatMap fun n => vals (H.cell n).slots) ∧ Shr H H2 := by
  have sl : ∀ n, (H2.cell n).sort = (H.cell n).sort ∧ (H2.cell n).slots = (H.cell n).slots := fun n => by
    rw [I.cell]
    exact ⟨(F.cc.cell n).1.trans (unbuf_cell H n).1, (F.cc.cell n).2.1.trans (unbuf_cell H n).2.1⟩
  have hk' : H'.keys = H.keys := F.cc.keys
  have inn : ∀ k, k ∈ H2.keys ↔ k ∈ H.keys ∧ k ∉ found := fun k => by
    rw [I.keys, List.mem_filter, hk']
    simp only [decide_eq_true_eq, hp.mem_iff]
  have nodn : ns.Nodup := hp.nodup_iff.mpr F.nd
  have subn : ∀ k ∈ ns, k ∈ H.keys := fun k hk => F.sub k (hp.mem_iff.mp hk)
  have lv : ∀ k ∈ H2.keys, Live H.unbuf k := fun k hk => by
    obtain ⟨h1, h2⟩ := (inn k).mp hk
    have := (F.at' k h1).2.2.2
    exact Classical.byContradiction fun q => h2 (this.mpr q)
  have vars : H2.vars = H.vars := by rw [I.vars, F.cc.eq]; rfl
  have cl2 : ∀ n ∈ H2.keys, ∀ p ∈ (H2.cell n).slots, ∀ k, p.2 = .cell k → k ∈ H2.keys := fun n hn p hp k e => by
    obtain ⟨h1, h2⟩ := (inn n).mp hn
    rw [(sl n).2] at hp
    have hk := o.cl n h1 p hp k e
    refine (inn k).mpr ⟨hk, fun q => ?_⟩
    exact ((F.at' k hk).2.2.2.mp q) (.step (lv n hn) h1 (by rw [(unbuf_cell H n).2.1]; exact hp) e)
  have clv2 : ∀ p ∈ H2.vars, ∀ k, p.2 = .cell k → k ∈ H2.keys := fun p hp k e => by
    rw [vars] at hp
    have hk := o.clv p hp k e
    exact (inn k).mpr ⟨hk, fun q => ((F.at' k hk).2.2.2.mp q) (.root ⟨p, hp, e⟩)⟩
  have len : H2.keys.length + ns.length = H.keys.length := by
    have := ksum_split (f := fun _ => 1) o.nd nodn subn
    rw [ksum_one, ksum_one, ksum_one] at this
    rw [I.keys, hk']; exact this
  have hlast : H2.last = H.last := by rw [I.last, F.cc.eq]; rfl
  have hfreed : H2.freed = H.freed + ns.length := by rw [I.freed, F.cc.eq]; rfl
  have hlog : H2.logn = H.logn + ns.length := by rw [I.logn, F.cc.eq]; rfl
  have hbuf : H2.buf = [] := by rw [I.buf, F.cc.eq]; rfl
  refine ⟨⟨⟨?_, fun n hn => ?_, cl2, clv2, fun n hn hs => ?_, fun n hn p hp => ?_, fun n hn => ?_, ?_, ?_, ?_, ?_, ?_⟩, fun n hn => ?_, ?_, fun n => ?_, fun n hn => ?_, fun n hn => ?_⟩, vars, fun n hn => ((inn n).mp hn).1, fun n _ => sl n, hlast, ?_⟩
  · rw [I.keys, hk']; exact o.nd.filter _
  · rw [hlast]; exact o.rng n ((inn n).mp hn).1
  · rw [(sl n).1] at hs; rw [(sl n).2]; exact o.ref n ((inn n).mp hn).1 hs
  · have hn1 := ((inn n).mp hn).1
    have hp0 := hp
    rw [(sl n).2] at hp
    have := o.nr n hn1 p hp
    cases q : p.2 with
    | int k => rfl
    | cell k =>
      rw [q] at this
      have hk := cl2 n hn p hp0 k q
      have hk1 := ((inn k).mp hk).1
      simp only [HS.isRef, hk1, decide_true, Bool.true_and] at this
      simp only [HS.isRef, hk, decide_true, Bool.true_and, (sl k).1]
      exact this
  · rw [(sl n).2]; exact o.snd n ((inn n).mp hn).1
  · rw [vars]; exact o.vnd
  · rw [hlast, hfreed]; have := o.num; lia
  · rw [hfreed]; have := o.frd; lia
  · rw [hlast, hfreed, hlog]; have := o.log; lia
  · rw [hlast]; exact o.lb
  · obtain ⟨h1, _⟩ := (inn n).mp hn
    have c1 : (H2.cell n).count = (H.cell n).count := by rw [I.cell]; exact (F.at' n h1).2.2.1
    rw [c1, o.cnt n h1]
    congr 1
    unfold HS.refs
    rw [vars, I.keys, hk']
    have d := ksum_split (f := fun m => inc n (H.cell m).slots) o.nd nodn subn
    have e1 : ksum (fun m => inc n (H2.cell m).slots) (H.keys.filter fun k => decide (k ∉ ns)) = ksum (fun m => inc n (H.cell m).slots) (H.keys.filter fun k => decide (k ∉ ns)) := ksum_congr fun m _ => by rw [(sl m).2]
    have e2 : incS n (ns.flatMap fun n => vals (H.cell n).slots) = ksum (fun m => inc n (H.cell m).slots) ns := by
      clear d e1 hp I nodn subn len hfreed hlog
      induction ns with
      | nil => rfl
      | cons a r ih => rw [List.flatMap_cons, incS_append, ksum_cons, incS_vals, ih]
    have e3 : incS n [] = 0 := rfl
    rw [e1, e2, e3]
    lia
  · rw [hbuf]; exact .nil
  · rw [hbuf]
    constructor
    · intro q; cases q
    · rintro ⟨q1, q2⟩
      have := unbuf_bufd o ((inn n).mp q1).1
      rw [I.cell, (F.cc.cell n).2.2, this] at q2; cases q2
  · rw [I.cell]
    have := F.at' n ((inn n).mp hn).1
    exact ⟨this.1, this.2.1⟩
  · refine Rch.conv (H := H.unbuf) (T := fun n => n ∈ H2.keys → Rch H2 (H2.roots _) n) (fun n hn p hp k e => o.cl n hn p (by rw [(unbuf_cell H n).2.1] at hp; exact hp) k e) ?_ ?_ (lv n hn) ((inn n).mp hn).1 hn
    · rintro n ⟨p, hp, e⟩ _ _
      exact .root (.inl ⟨p, by rw [vars]; exact hp, e⟩)
    · intro m c p hT hm hpp e _ hc
      rw [(unbuf_cell H m).2.1] at hpp
      by_cases hm2 : m ∈ H2.keys
      · exact .step (hT hm2) hm2 (by rw [(sl m).2]; exact hpp) e
      · have hf : m ∈ ns := by
          rw [hp.mem_iff]
          exact Classical.byContradiction fun q => hm2 ((inn m).mpr ⟨hm, q⟩)
        exact .root (.inr (.inl (List.mem_flatMap.mpr ⟨m, hf, mem_vals.mpr ⟨p, hpp, e⟩⟩)))
  · rw [I.full, F.cc.eq]; rfl
end
end Gc
end
/- GcC16 -/
section
set_option backward.dsimp.useDefEqAttr false
namespace Gc
section
variable {i : Nat} {fz : Int → Bool} {H H0 : HS} {σ : Sto} {d : Nat} {Q : AV → Sto → Prop} {B : Int} {sus T : List Int}

theorem tmp_own {k : Nat} : ¬ Own i (.tmp k) := fun ⟨_, q⟩ => by cases q

noncomputable def HS.flags (H : HS) (pre : List Int) : HS := { H with buf := [], ep := H.ep + 1, cell := fun n => if n ∈ pre then { H.cell n with bufd := false } else H.cell n }
theorem flags_nil (H : HS) : H.flags [] = { H with buf := [], ep := H.ep + 1 } := by
  unfold HS.flags
  congr 1
theorem flags_snoc (H : HS) (pre : List Int) (n : Int) : (H.flags pre).setC n { (H.flags pre).cell n with bufd := false } = H.flags (pre ++ [n]) := by
  unfold HS.setC HS.flags
  congr 1
  funext k
  dsimp only
  by_cases q : k = n
  · rw [if_pos q, q, if_pos (List.mem_append_right _ (List.mem_cons_self ..))]
    split <;> rfl
  · rw [if_neg q]
    by_cases w : k ∈ pre
    · rw [if_pos w, if_pos (List.mem_append_left _ w)]
    · rw [if_neg w, if_neg fun h => (List.mem_append.mp h).elim w fun w => q (List.mem_singleton.mp w)]
structure FrI (i s : Nat) (cs : List Int) (Hx : HS) (σ0 : Sto) (m : Loc) (τ : Sto) : Prop where
  h : Holds i NF Hx τ
  e : τ (.tmp s) = some (.list (cs.map (cr i)))
  m1 : m "heap" = some (hp i)
  m2 : m "suspects" = some (.ref (.tmp s))
  f : Fr (Own i) σ0 τ
section
variable {s : Nat} {cs : List Int} {Hx H' : HS} {σ0 : Sto} {m : Loc} {τ τ' : Sto}
theorem FrI.go {v : AV} (I : FrI i s cs Hx σ0 m τ) (h : Holds i NF H' τ') (f : Fr (Own i) τ τ') : FrI i s cs H' σ0 (upd m "cell" v) τ' :=
  ⟨h, (f (.tmp s) tmp_own (.inl (by rw [I.e]; exact fun w => nomatch w))).trans I.e, (upd_ne (by decide)).trans I.m1, (upd_ne (by decide)).trans I.m2, I.f.trans f⟩
theorem FrI.re (I : FrI i s cs Hx σ0 m τ) : FrI i s cs Hx τ m τ := ⟨I.h, I.e, I.m1, I.m2, .refl⟩
end
noncomputable def FrG (i s : Nat) (H : HS) (σ0 : Sto) (pre : List Int) (m : Loc) (τ : Sto) : Prop := ∃ Hx, (MarkInv H.unbuf H.buf Hx [] ∧ ∀ c ∈ pre, (Hx.cell c).col = .grey) ∧ FrI i s H.buf Hx σ0 m τ
noncomputable def FrS (i s : Nat) (H : HS) (σ0 : Sto) (suf : List Int) (m : Loc) (τ : Sto) : Prop := ∃ Hx, ScanInv H.unbuf H.buf Hx [] suf ∧ FrI i s H.buf Hx σ0 m τ
structure FrA (i s : Nat) (σ : Sto) (pre : List Int) (acc : List AV) (τ : Sto) : Prop where
  ea : acc = pre.map (cr i)
  e : τ (.tmp s) = some (.list acc)
  f : ∀ b, b ≠ .tmp s → τ b = σ b
theorem FrA.holds {s : Nat} {pre : List Int} {acc : List AV} {τ : Sto} (I : FrA i s σ pre acc τ) (h : Holds i fz H σ) : Holds i fz H τ := h.fr (X := fun b => b = .tmp s) (fun b hb _ => I.f b hb) (fun t q => nomatch q)
theorem FrA.next {s : Nat} {pre : List Int} {acc : List AV} {τ : Sto} {n : Int} (I : FrA i s σ pre acc τ) : FrA i s σ (pre ++ [n]) (acc ++ [cr i n]) (τ.set (.tmp s) (.list (acc ++ [cr i n]))) :=
  ⟨by rw [I.ea, List.map_append]; rfl, set_same, fun b hb => (set_ne hb).trans (I.f b hb)⟩
theorem fr_end {s : Nat} {σ1 σ7 : Sto} {H7 : HS} {m : Loc} (hB : B ≤ 63) (o : Ok B H []) (hs : σ (.tmp s) = none) (f1 : ∀ b, b ≠ .tmp s → σ1 b = σ b) (f7 : Fr (Own i) σ1 σ7) (J : ScanInv H.unbuf H.buf H7 [] []) (I : FrI i s H.buf H7 σ7 m σ7)
    (hQ : ∀ H' found t σ', Found H H' found → Holds i NF H' σ' → Fr (Own i) σ σ' → σ (.tmp t) = none → σ' (.tmp t) = some (.list ((isort found).map .int)) → Q (.ref (.tmp t)) σ') :
    wpL (wpFn prg (d + 4)) (.cons (.ret (.call "gather" (.cons (.var "heap") (.cons (.var "suspects") .nil)))) .nil) m σ7 fun o _ σ' => Q o.val σ' := by
  have S := unbuf_start o
  have bl := o.bufLen
  have lb := o.lb
  refine nx ?_
  simp? only [I.m1, I.m2]
  refine c_gather (d := d + 1) hB S I.h J I.e (by lia) fun H' found t σ' G h' f' ht e' => ?_
  refine hQ H' found t σ' ⟨G.cc, G.fn, fun n hn => (G.fx n hn).1, fun n hn => ?_⟩ h' (fun b hb hx => ?_) ?_ e'
  · have gd := gath_done S J G (n := n) hn
    exact ⟨gd.1, gd.2.1, gd.2.2.1.trans (unbuf_cell H n).2.2.1, gd.2.2.2⟩
  · have nb : b ≠ .tmp s := fun q => by
      rcases hx with hx | ⟨_, _, hx⟩
      · rw [q, hs] at hx; exact hx rfl
      · rw [q] at hx; exact nomatch hx
    exact ((f7.trans f') b hb (by rw [f1 b nb]; exact hx)).trans (f1 b nb)
  · have nb : Name.tmp t ≠ .tmp s := fun q => by rw [q, I.e] at ht; exact nomatch ht
    have := Fr.none tmp_own f7 ht
    rw [f1 _ nb] at this; exact this
theorem c_find_rings (hB : B ≤ 63) (h : Holds i NF H σ) (o : Ok B H [])
    (hQ : ∀ H' found t σ', Found H H' found → Holds i NF H' σ' → Fr (Own i) σ σ' → σ (.tmp t) = none → σ' (.tmp t) = some (.list ((isort found).map .int)) → Q (.ref (.tmp t)) σ') : wpFn prg (d + 5) "find_rings" [hp i] σ Q := by
  have S := unbuf_start o
  refine fn_intro rfl rfl ?_
  simp? only [d_find_rings]
  rw [wpE_all rfl]
  simp_all? only []
  refine attr_in h.aBuffer ⟨H.buf.map .int, by unfold itemsOf; dsimp only; rw [h.buf], frz_list h.buf, .inl fun s hs => ?_⟩
  dsimp only
  refine compAll_map (g := AV.int) (all := H.buf) (acc := []) (m := upd noLoc "heap" (hp i)) (fun pre _ acc τ => FrA i s σ pre acc τ) ?_ (fun pre n suf acc τ R e I hR => ?_) (fun acc σ1 I => ?_) ⟨rfl, set_same, fun b hb => set_ne hb⟩
  · exact fun pre suf acc τ I => ⟨I.f _ (fun q => nomatch q), I.e⟩
  · have hτ := I.holds h
    simp? only []
    refine attr_in hτ.aCells (subd_in hτ.cells (dget_keys ((o.buf n).mp (at_mem e)).1) (hR _ _ I.e ?_ I.next))
    rw [I.ea, List.length_map]
    have := at_len e
    have bl := o.bufLen
    have lb := o.lb
    exact Nat.lt_trans (show pre.length < 1000 by lia) (by decide)
  have g1 := I.holds h
  have e1 := I.e
  have f1 := I.f
  rw [I.ea] at e1
  clear I
  -- the new buffer
  refine nx ?_
  simp? only []
  refine .inr ⟨i, .buf (H.ep + 1), g1.newb _ (Nat.lt_succ_self _), ?_⟩
  have hh : (σ1.set (.obj i (.buf (H.ep + 1))) (.list [])) (.obj i .heap) = some (hAO i H) := (set_ne (fun q => by cases q)).trans g1.heap
  refine (sa_gen hh (by decide) (by decide : 9 < 100)).mpr ?_
  have g2 := g1.newBuf
  rw [← flags_nil] at g2
  have f2 : Fr (Own i) σ1 ((σ1.set (.obj i (.buf (H.ep + 1))) (.list [])).set (.obj i .heap) (hAO i { H with buf := [], ep := H.ep + 1 })) := (Fr.set ⟨_, rfl⟩).trans (.set ⟨_, rfl⟩)
  have es2 := (f2 (.tmp s) tmp_own (.inl (by rw [e1]; exact fun w => nomatch w))).trans e1
  refine nx ?_
  rw [wpSs_cons]
  -- no suspect is on the line
  refine for_var (g := cr i) (all := H.buf) rfl es2 (fun pre _ m τ => FrI i s H.buf (H.flags pre) σ1 m τ) ⟨g2, es2, rfl, rfl, f2⟩ (fun _ _ _ _ I => I.e) (fun pre n suf m τ R e I hR => ?_) (fun m σ3 I3 => ?_)
  · have hn : n ∈ H.keys := ((o.buf n).mp (at_mem e)).1
    simp? only []
    have hn' : n ∈ (H.flags pre).keys := hn
    refine (sa_bufd I.h hn').mpr (hR _ _ (I.go ?_ (.set ⟨_, rfl⟩)))
    rw [← flags_snoc]
    exact I.h.setCell hn' rfl
  -- grey
  refine nx ?_
  rw [wpSs_cons]
  refine for_var (g := cr i) (all := H.buf) I3.m2 I3.e (fun pre _ m τ => FrG i s H σ1 pre m τ) ⟨H.unbuf, ⟨mark_start o, fun c hc => nomatch hc⟩, I3⟩ (fun _ _ _ _ ⟨_, _, I⟩ => I.e) (fun pre n suf m τ R e ⟨Hx, J, I⟩ hR => ?_) (fun m σ5 ⟨Hx, J, I5⟩ => ?_)
  · have hb := at_mem e
    simp? only [I.m1]
    refine c_mark_grey (d := d + 1) (by lia) S.g I.h J.1 (S.sk n hb) (.root ⟨n, hb, rfl⟩) fun H' σ' J' g' mono h' f' => hR _ _ ⟨H', ⟨J', fun c hc => ?_⟩, I.go h' f'⟩
    rcases List.mem_append.mp hc with q | q
    · exact mono c (J.2 c q)
    · rw [List.mem_singleton.mp q]; exact g'
  -- black and white
  refine nx ?_
  rw [wpSs_cons]
  refine for_var (g := cr i) (all := H.buf) I5.m2 I5.e (fun _ suf m τ => FrS i s H σ1 suf m τ) ⟨Hx, scan_start S.g J.1 J.2 S.sk, I5⟩ (fun _ _ _ _ ⟨_, _, I⟩ => I.e) (fun pre n suf m τ R e ⟨Hx, J, I⟩ hR => ?_) (fun m σ7 ⟨H7, J7, I7⟩ => fr_end hB o hs f1 I7.f J7 I7.re hQ)
  have hb := at_mem e
  simp? only [I.m1]
  exact c_scan (d := d) (by lia) S I.h J (S.sk n hb) (.root ⟨n, hb, rfl⟩) fun H' σ' J' h' f' => hR _ _ ⟨H', J', I.go h' f'⟩
end
end Gc
end
/- GcC17 -/
section
set_option backward.dsimp.useDefEqAttr false
namespace Gc
section
variable {i : Nat} {fz : Int → Bool} {H H0 : HS} {σ : Sto} {d : Nat} {Q : AV → Sto → Prop} {B : Int} {sus T : List Int}

theorem c_settle0 {k : Nat} (e : σ (.tmp k) = some (.list [])) (hQ : Q .none σ) : wpFn prg (d + 1) "settle" [hp i, .ref (.tmp k)] σ Q := by
  refine fn_intro rfl rfl ?_
  simp only [d_settle, wSs1, wSs2]
  refine while_rule (fun (_ : Unit) m τ => τ = σ ∧ m "tasks" = some (.ref (.tmp k))) (fun _ => 0) ?_ (a := ()) ⟨rfl, by simp [upd, updAll_cons, updAll_nil]⟩
  rintro _ m τ ⟨rfl, m2⟩
  dsimp? only [m2]
  rw [tru_list e]
  simp only [List.isEmpty_nil, Bool.not_true, Out.val]
  exact hQ

theorem settle_len {S : List Val} (hB : B ≤ 63) (g : Gr B H) : H.mu S ≤ 200 + S.length := by
  have hk := g.keysLen
  have hlb := g.lb
  have : ∀ l : List Int, (∀ m ∈ l, m ∈ H.keys) → ksum (fun m => (H.cell m).slots.length) l ≤ 3 * l.length := by
    intro l
    induction l with
    | nil => intro _; exact Nat.le_refl _
    | cons a r ih =>
      intro hl
      rw [ksum_cons, List.length_cons]
      have h1 := ih fun m hm => hl m (.tail _ hm)
      have h2 := g.slotsLen (hl a (.head _))
      lia
  have := this H.keys fun _ h => h
  unfold HS.mu
  lia

theorem vals_len (l : List (Int × Val)) : (vals l).length = l.length := by simp [vals]
theorem flat_len {ns : List Int} (h : ∀ n ∈ ns, (H.cell n).slots.length ≤ 3) : (ns.flatMap fun n => vals (H.cell n).slots).length ≤ 3 * ns.length := by
  induction ns with
  | nil => exact Nat.le_refl _
  | cons a r ih =>
    rw [List.flatMap_cons, List.length_append, List.length_cons]
    have h1 := ih fun n hn => h n (.tail _ hn)
    have h2 := h a (.head _)
    rw [vals_len]
    lia

inductive FaI (i : Nat) (H H' : HS) (ns : List Int) (t l : Nat) (σ0 : Sto) (r : List AV) (m : Loc) (τ : Sto) : Prop
  | mk (pre suf : List Int) (Hx : HS) (h1 : ns = pre ++ suf) (h2 : r = suf.map .int) (I : FreeInv H' pre Hx) (hτ : Holds i NF Hx τ) (e1 : τ (.tmp t) = some (.list (ns.map .int))) (e2 : τ (.tmp l) = some (.list ((pre.flatMap fun n => vals (H.cell n).slots).map Val.av)))
    (m1 : m "heap" = some (hp i)) (m2 : m "losses" = some (.ref (.tmp l))) (f : Fr (WW i l) σ0 τ) : FaI i H H' ns t l σ0 r m τ
theorem c_free_all {H' : HS} {found ns : List Int} {t : Nat} (hB : B ≤ 63) (h : Holds i NF H' σ) (o : Ok B H []) (F : Found H H' found) (hp' : ns.Perm found) (e : σ (.tmp t) = some (.list (ns.map .int)))
    (hQ : ∀ H3 σ', Ok B H3 [] → Shr H H3 → (∀ n ∈ found, n ∉ H3.keys) → (ns = [] → H3.buf = []) → Holds i NF H3 σ' → Fr (Own i) σ σ' → Q .none σ') : wpFn prg (d + 9) "free_all" [hp i, .ref (.tmp t)] σ Q := by
  have hB' : B ≤ 1000 := by lia
  refine fn_intro rfl rfl ?_
  simp only [d_free_all, wSs1, wSs2, wS2, wE14, wEs1, wEs2, updAll_cons, updAll_nil]
  refine .inl fun l hl => ?_
  dsimp only
  have ntl : Name.tmp t ≠ .tmp l := fun q => by rw [← q, e] at hl; cases hl
  have e' : (σ.set (.tmp l) (.list [])) (.tmp t) = some (.list (ns.map .int)) := by rw [set_ne ntl]; exact e
  have hk' : H'.keys = H.keys := F.cc.keys
  have nodn : ns.Nodup := hp'.nodup_iff.mpr F.nd
  have subn : ∀ k ∈ ns, k ∈ H.keys := fun k hk => F.sub k (hp'.mem_iff.mp hk)
  have nlen : ns.length ≤ H.keys.length := nodup_sub_len nodn subn
  have hkl := o.keysLen
  have hlb := o.lb
  have hsl : ∀ n ∈ H.keys, (H'.cell n).slots = (H.cell n).slots := fun n _ => (F.cc.cell n).2.1.trans (unbuf_cell H n).2.1
  rw [wS14, src_var]
  simp only [wE2, upd_ap, reduceIte, String.reduceEq, Option.some.injEq, exists_eq_left', vcase_some, String.reduceBEq, cond_true, cond_false]
  refine for_tmp e' (FaI i H H' ns t l (σ.set (.tmp l) (.list [])))
    ⟨[], ns, H', rfl, rfl, freeInv0, h.tmp, e', set_same, by simp [upd_ap], by simp [upd_ap], .refl⟩ ?_ ?_ ?_
  · rintro r m τ ⟨_, _, _, _, _, _, _, e, _⟩
    exact e
  · rintro v r m τ ⟨pre, suf, Hx, h1, h2, I, hτ, e1, e2, m1, m2, f⟩
    cases suf with
    | nil => simp at h2
    | cons n suf =>
      simp only [List.map_cons, List.cons.injEq] at h2
      obtain ⟨rfl, rfl⟩ := h2
      have hns : n ∈ ns := by rw [h1]; simp
      have hn := subn n hns
      have nd2 := nodn
      rw [h1, List.nodup_append] at nd2
      have npre : n ∉ pre := fun q => nd2.2.2 n q n (by simp) rfl
      have hnx : n ∈ Hx.keys := by rw [I.keys, List.mem_filter, hk']; exact ⟨hn, by simpa using npre⟩
      have hb : (H'.cell n).bufd = false := by rw [(F.cc.cell n).2.2]; exact unbuf_bufd o hn
      have esl : (Hx.cell n).slots = (H.cell n).slots := by rw [I.cell]; exact hsl n hn
      have lpre : pre.length ≤ ns.length := by rw [h1]; simp
      have fl := flat_len (H := H) (ns := pre) fun k hk => o.slotsLen (subn k (by rw [h1]; simp [hk]))
      have s3 := o.slotsLen hn
      dsimp? only [m1, m2]
      refine kind_in (kind_list e2) ?_
      refine ⟨rfl, ?_⟩
      refine attr_in hτ.aCells ?_; refine subd_in hτ.cells (dget_keys hnx) ?_
      refine c_free_cell (d := d + 6) hτ hnx (by rw [esl]; exact (o.snd n hn).1) (by rw [esl]; lia) (fun q => by rw [I.cell, hb] at q; cases q) ?_ fun t2 σ2 ht2 g2 f2 e3 => ?_
      · rw [I.logn]
        have hl1 : H'.logn = H.logn := by rw [F.cc.eq]; rfl
        have := o.log; have := o.num; have := o.frd
        rw [hl1]; lia
      rw [esl] at e3
      have e2' : σ2 (.tmp l) = some (.list ((pre.flatMap fun n => vals (H.cell n).slots).map Val.av)) := by rw [f2 _ tmp_own (.inl (by rw [e2]; simp))]; exact e2
      have e1' : σ2 (.tmp t) = some (.list (ns.map .int)) := by rw [f2 _ tmp_own (.inl (by rw [e1]; simp))]; exact e1
      have hlt : Name.tmp l ≠ .tmp t2 := fun q => by rw [← q, e2] at ht2; cases ht2
      refine ⟨kind_list e2', extend_list hlt e2' e3 (by rw [List.length_map, List.length_map, vals_len]; lia) ?_⟩
      refine ⟨trivial, pre ++ [n], suf, Hx.free n, by rw [h1]; simp, rfl, I.step hb, g2.tmp, by rw [set_ne ntl]; exact e1', ?_, m1, m2, f.trans ((WW.own f2).trans (.set (.inr rfl)))⟩
      rw [set_same, List.flatMap_append, List.map_append]; simp
  · rintro m τ ⟨pre, suf, Hx, h1, h2, I, hτ, e1, e2, m1, m2, f⟩
    have hs0 : suf = [] := by cases suf <;> simp at h2 ⊢
    subst hs0
    rw [List.append_nil] at h1
    subst h1
    simp only
    rw [unfrz_list e']
    obtain ⟨ok2, sh2⟩ := free_ok o F hp' I
    have fl := flat_len (H := H) (ns := ns) fun k hk => o.slotsLen (subn k hk)
    dsimp? only [m1, m2]
    refine c_losing (d := d + 7) e2 (by lia) fun t3 σ3 ht3 e3 f3 => ?_
    have h3 : Holds i NF Hx σ3 := hτ.fr (X := fun b => b = .tmp t3) (fun b hb _ => f3 b hb) (by intro t' q; cases q)
    have fr0 : Fr (Own i) σ τ := Fr.line hl f
    have ht30 : σ (.tmp t3) = none := Fr.none tmp_own fr0 ht3
    have fr3 : Fr (Own i) σ σ3 := fun b hb hx => by
      have nb : b ≠ .tmp t3 := fun q => by
        rcases hx with hx | ⟨_, _, hx⟩
        · rw [q, ht30] at hx; exact hx rfl
        · rw [q] at hx; cases hx
      rw [f3 b nb]; exact fr0 b hb hx
    have gone : ∀ n ∈ found, n ∉ Hx.keys := fun n hn q => by
      rw [I.keys, List.mem_filter] at q
      have := q.2
      simp only [decide_eq_true_eq] at this
      exact this (hp'.mem_iff.mpr hn)
    by_cases hnil : ns = []
    · rw [hnil] at e3
      simp only [List.flatMap_nil, List.reverse_nil, List.map_nil] at e3
      refine c_settle0 (d := d + 7) e3 ?_
      simp only [Out.val]
      rw [hnil, List.flatMap_nil] at ok2
      exact hQ Hx σ3 ok2 sh2 gone (fun _ => by rw [I.buf, F.cc.eq]; rfl) h3 fr3
    · have mul := settle_len (S := ns.flatMap fun n => vals (H.cell n).slots) hB ok2.toGr
      refine c_settle (d := d) hB' (Hb := Hx) (a := (none, Hx, ns.flatMap fun n => vals (H.cell n).slots)) h3 (.loss ok2 .refl (by lia)) (by rw [e3]; simp [taskList, List.map_reverse]) fun H4 σ4 ok4 sh4 h4 f4 => ?_
      simp only [Out.val]
      refine hQ H4 σ4 ok4 (sh2.trans sh4) (fun n hn q => gone n hn (sh4.sub n q)) (fun q => absurd q hnil) h4 fun b hb hx => ?_
      have nb : b ≠ .tmp t3 := fun q => by
        rcases hx with hx | ⟨_, _, hx⟩
        · rw [q, ht30] at hx; exact hx rfl
        · rw [q] at hx; cases hx
      rw [f4 b (fun q => q.elim hb nb) (by rw [fr3 b hb hx]; exact hx)]; exact fr3 b hb hx

theorem isort_of_perm' : ∀ l : List Int, (isort l).Perm l
  | [] => .refl _
  | x :: r => by
    have ip : ∀ l : List Int, (isort.ins x l).Perm (x :: l) := by
      intro l
      induction l with
      | nil => exact .refl _
      | cons y r ih =>
        unfold isort.ins
        split
        · exact .refl _
        · exact (ih.cons y).trans (.swap x y r)
    exact (ip (isort r)).trans ((isort_of_perm' r).cons x)

theorem c_turn (hB : B ≤ 63) (h : Holds i NF H σ) (o : Ok B H [])
    (hQ : ∀ H3 σ', Ok B H3 [] → Shr H H3 → (H3.buf = [] ∨ H3.keys.length < H.keys.length) → Holds i NF H3 σ' → Fr (Own i) σ σ' → Q .none σ') : wpFn prg (d + 10) "turn" [hp i] σ Q := by
  refine fn_intro rfl rfl ?_
  simp only [d_turn, wSs1, wSs2, wS2, wE16, wE2, wEs1, wEs2, updAll_cons, updAll_nil, upd_ap, noLoc_ap, reduceIte, String.reduceEq, Option.some.injEq, exists_eq_left', vcase_some, String.reduceBEq, cond_true, cond_false]
  refine c_find_rings (d := d + 4) hB h o fun H' found t σ1 F h1 f1 ht e1 => ?_
  have hp' : (isort found).Perm found := isort_of_perm' found
  rw [wE22]; refine ⟨rfl, ?_⟩; rw [wpE_var]
  refine ⟨.ref (.tmp t), rfl, (isort found).map .int, by simp only [itemsOf, e1], frz_list e1, .inl fun k hk => ?_⟩
  dsimp only
  have ntk : Name.tmp t ≠ .tmp k := fun q => by rw [← q, e1] at hk; cases hk
  refine comp_rule (m := upd (upd noLoc "heap" (hp i)) "white" (.ref (.tmp t))) (fun r acc τ => (∃ suf : List Int, (∀ c ∈ suf, c ∈ found) ∧ r = suf.map .int) ∧ acc = [] ∧ τ = σ1.set (.tmp k) (.list [])) ?_ ?_ ?_ ⟨⟨isort found, fun c hc => hp'.mem_iff.mp hc, rfl⟩, rfl, rfl⟩
  · rintro r acc τ ⟨_, rfl, rfl⟩
    exact ⟨set_ne ntk, set_same⟩
  · rintro v r acc τ ⟨⟨suf, hsub, hr⟩, rfl, rfl⟩
    cases suf with
    | nil => simp at hr
    | cons n suf =>
      simp only [List.map_cons, List.cons.injEq] at hr
      obtain ⟨rfl, rfl⟩ := hr
      have hn : n ∈ H'.keys := by rw [F.cc.keys]; exact F.sub n (hsub n (.head _))
      have h2 : Holds i NF H' (σ1.set (.tmp k) (.list [])) := h1.tmp
      dsimp? only []
      refine attr_in h2.aCells ?_; refine subd_in h2.cells (dget_keys hn) ?_
      refine c_wants (d := d + 8) h2 hn ?_
      refine tru_in ?_
      exact ⟨⟨suf, fun c hc => hsub c (.tail _ hc), rfl⟩, by first | rfl | trivial, by first | rfl | trivial⟩
  · rintro acc τ ⟨_, rfl, rfl⟩
    have h2 : Holds i NF H' (σ1.set (.tmp k) (.list [])) := h1.tmp
    dsimp? only []
    rw [tru_list set_same]
    simp only [List.isEmpty_nil, Bool.not_true]
    have hk0 : σ (.tmp k) = none := Fr.none tmp_own f1 hk
    refine c_free_all (d := d) hB h2 o F hp' (by rw [set_ne ntk]; exact e1) fun H3 σ3 ok3 sh3 gone hb h3 f3 => ?_
    simp only [Out.val]
    refine hQ H3 σ3 ok3 sh3 ?_ h3 (f1.trans ((Fr.tmp hk).trans f3))
    by_cases hnil : isort found = []
    · exact .inl (hb hnil)
    · right
      have : ∃ x, x ∈ found := by
        cases q : isort found with
        | nil => exact absurd q hnil
        | cons x r => exact ⟨x, hp'.mem_iff.mp (by rw [q]; simp)⟩
      obtain ⟨x, hx⟩ := this
      have hxk := F.sub x hx
      have l1 : H3.keys.length ≤ (H.keys.filter fun k => decide (k ≠ x)).length := nodup_sub_len ok3.nd fun y hy => mem_filter_ne.mpr ⟨sh3.sub y hy, fun q => gone x hx (q ▸ hy)⟩
      have l2 := ksum_del (f := fun _ => 1) o.nd hxk
      rw [ksum_one, ksum_one] at l2
      lia

inductive CoI (B : Int) (H : HS) (i : Nat) (σ : Sto) (a : HS) (m : Loc) (τ : Sto) : Prop
  | mk (o : Ok B a []) (s : Shr H a) (h : Holds i NF a τ) (m1 : m "heap" = some (hp i)) (m2 : m "before" = some (.int H.freed)) (f : Fr (Own i) σ τ) : CoI B H i σ a m τ
theorem c_collect (hB : B ≤ 63) (h : Holds i NF H σ) (o : Ok B H [])
    (hQ : ∀ H3 σ' n, Ok B H3 [] → Shr H H3 → H3.buf = [] → Holds i NF H3 σ' → Fr (Own i) σ σ' → Q (.int n) σ') : wpFn prg (d + 11) "collect" [hp i] σ Q := by
  refine fn_intro rfl rfl ?_
  simp only [d_collect, wSs1, wSs2, wS2, wE3, wE2, updAll_cons, updAll_nil, upd_ap, noLoc_ap, reduceIte, String.reduceEq, Option.some.injEq, exists_eq_left', vcase_some, String.reduceBEq, cond_true, cond_false]
  refine attr_in h.aFreed ?_
  refine while_rule (CoI B H i σ) (fun a => 2 * a.keys.length + (if a.buf = [] then 0 else 1)) ?_ (a := H) ⟨o, .refl, h, by simp [upd_ap], by simp [upd_ap], .refl⟩
  rintro H1 m τ ⟨o1, s1, h1, m1, m2, f1⟩
  dsimp? only [m1, m2]
  rw [attr_ex h1.aBuffer, tru_list h1.buf]
  cases q : H1.buf with
  | nil =>
    simp only [List.map_nil, List.isEmpty_nil, Bool.not_true]
    refine attr_in h1.aFreed ?_
    simp only [bin_add, bin_sub, bin_mod, bin_fdiv, Out.val]
    exact hQ H1 τ _ o1 s1 q h1 f1
  | cons x r =>
    simp only [List.map_cons, List.isEmpty_cons, Bool.not_false]
    refine c_turn (d := d) hB h1 o1 fun H3 σ3 ok3 sh3 hlt h3 f3 => ?_
    refine ⟨trivial, H3, ?_, ok3, s1.trans sh3, h3, m1, m2, f1.trans f3⟩
    have l1 := nodup_sub_len ok3.nd fun y hy => sh3.sub y hy
    show 2 * H3.keys.length + (if H3.buf = [] then 0 else 1) < 2 * H1.keys.length + (if x :: r = [] then 0 else 1)
    rcases hlt with w | w
    · simp [w]; lia
    · split <;> simp <;> lia

theorem c_run_deed {D : Deed} (hB : B ≤ 63) (h : Holds i NF H σ) (L : Left B (H.deed D).1 (some D, H, []))
    (hQ : ∀ H' σ', Ok B H' [] → Shr (H.deed D).1 H' → Holds i NF H' σ' → Fr (Own i) σ σ' → Q .none σ') : wpFn prg (d + 13) "run_deed" [hp i, D.av] σ Q := by
  refine fn_intro rfl rfl ?_
  simp only [d_run_deed, wSs1, wSs2, wS1, wE16, wE2, wEs1, wEs2, updAll_cons, updAll_nil, upd_ap, noLoc_ap, reduceIte, String.reduceEq, Option.some.injEq, exists_eq_left', vcase_some, String.reduceBEq, cond_true, cond_false]
  refine c_do_deed (d := d + 3) (by lia) h L fun H1 σ1 o1 s1 h1 f1 => ?_
  have fin : ∀ H2 σ2, Ok B H2 [] → Shr H1 H2 → Holds i NF H2 σ2 → Fr (Own i) σ1 σ2 → Q .none σ2 := fun H2 σ2 o2 s2 h2 f2 => hQ H2 σ2 o2 (s1.trans s2) h2 (f1.trans f2)
  refine fn_intro rfl rfl ?_
  simp only [d_collect_when_full, wSs1, wSs2, wS10, wE12, wT1, wT2, wT3, wT4, wT5, wT6, wT7, wT8, wE18, wE16, wE3, wE2, wE1, wEs1, wEs2, updAll_cons, updAll_nil, upd_ap, noLoc_ap, reduceIte, String.reduceEq, Option.some.injEq, exists_eq_left', vcase_some, String.reduceBEq, cond_true, cond_false, Out.val]
  refine attr_in h1.aBuffer ?_
  refine .inl ⟨H1.buf.map .int, h1.buf, ?_⟩
  dsimp only
  refine attr_in h1.aFull ?_
  simp only [cmp_eq_int, cmp_ne_int, cmp_lt_int, cmp_gt_int, cmp_ge_int, cmp_eq_str, cmp_ne_str, cmp_is_n, cmp_is_r, cmp_isnot_n, cmp_isnot_r]
  cases q : decide (((H1.buf.map AV.int).length : Int) ≥ H1.full) with
  | true => exact c_collect (d := d) hB h1 o1 fun H2 σ2 n o2 s2 _ h2 f2 => fin H2 σ2 o2 s2 h2 f2
  | false => exact fin H1 σ1 o1 .refl h1 .refl
end
end Gc
end
/- GcD5 -/
section
namespace Gc

theorem vget_none {l : List (Int × Val)} {k : Int} : vget l k = none ↔ ∀ p ∈ l, p.1 ≠ k := by
  unfold vget
  rw [Option.map_eq_none_iff, List.find?_eq_none]
  simp
theorem any_key {l : List (Int × Val)} {k : Int} : l.any (fun p => decide (p.1 = k)) = (vget l k).isSome := by
  unfold vget
  rw [Option.isSome_map, List.isSome_find?]
theorem vset_cons_ne {p : Int × Val} {l : List (Int × Val)} {k : Int} {v : Val} (h : p.1 ≠ k) : vset (p :: l) k v = p :: vset l k v := by
  unfold vset
  have : decide (p.1 = k) = false := by simpa using h
  rw [List.any_cons, this, Bool.false_or]
  split
  · simp [h]
  · rfl
theorem vset_none {l : List (Int × Val)} {k : Int} {v : Val} (h : vget l k = none) : vset l k v = l ++ [(k, v)] := by
  unfold vset
  rw [any_key, h]; simp
theorem vget_cons_ne {p : Int × Val} {l : List (Int × Val)} {k : Int} (h : p.1 ≠ k) : vget (p :: l) k = vget l k := by
  unfold vget
  rw [List.find?_cons]
  have : decide (p.1 = k) = false := by simpa using h
  rw [this]
theorem vget_cons_eq {u : Val} {l : List (Int × Val)} {k : Int} : vget ((k, u) :: l) k = some u := by
  unfold vget; simp
theorem vset_cons_eq {u v : Val} {l : List (Int × Val)} {k : Int} (h : k ∉ l.map (·.1)) : vset ((k, u) :: l) k v = (k, v) :: l := by
  unfold vset
  have : ((k, u) :: l).any (fun p => decide (p.1 = k)) = true := by simp
  rw [this, if_pos rfl, List.map_cons]
  simp only [if_true]
  congr 1
  have : ∀ p ∈ l, (if p.1 = k then (p.1, v) else p) = p := fun p hp => if_neg fun q => h (by rw [← q]; exact List.mem_map_of_mem (f := fun x : Int × Val => x.1) hp)
  rw [List.map_congr_left this]; simp
theorem inc_append (n : Int) (a b : List (Int × Val)) : inc n (a ++ b) = inc n a + inc n b := by unfold inc; rw [List.countP_append]
theorem inc_vset {n k : Int} {v : Val} : ∀ {l : List (Int × Val)}, (l.map (·.1)).Nodup → inc n (vset l k v) + incS n (olds l k) = inc n l + incS n [v]
  | [], _ => by
    simp [vset, olds, vget, inc, incS, List.countP_cons]
  | (j, u) :: l, hn => by
    have hn' := List.nodup_cons.mp hn
    by_cases q : j = k
    · subst q
      rw [vset_cons_eq hn'.1]
      unfold olds
      rw [vget_cons_eq, inc_cons, inc_cons, incS_cons, incS_cons]
      simp only
      have : incS n [] = 0 := rfl
      lia
    · rw [vset_cons_ne (by simpa using q), inc_cons, inc_cons]
      have ih := inc_vset (n := n) (k := k) (v := v) hn'.2
      have e : olds ((j, u) :: l) k = olds l k := by unfold olds; rw [vget_cons_ne (by simpa using q)]
      rw [e]; lia
theorem inc_vdel {n k : Int} : ∀ {l : List (Int × Val)}, (l.map (·.1)).Nodup → inc n (vdel l k) + incS n (olds l k) = inc n l
  | [], _ => by simp [vdel, olds, vget, inc, incS]
  | (j, u) :: l, hn => by
    have hn' := List.nodup_cons.mp hn
    by_cases q : j = k
    · subst q
      have e1 : vdel ((j, u) :: l) j = l := by
        unfold vdel
        rw [List.filter_cons_of_neg (by simp)]
        exact List.filter_eq_self.mpr fun p hp => by
          simp only [decide_eq_true_eq]
          intro w
          have := List.mem_map_of_mem (f := fun x : Int × Val => x.1) hp
          simp only [w] at this
          exact hn'.1 this
      rw [e1]
      unfold olds
      rw [vget_cons_eq, inc_cons, incS_cons]
      have : incS n [] = 0 := rfl
      simp only
      lia
    · have e1 : vdel ((j, u) :: l) k = (j, u) :: vdel l k := by unfold vdel; rw [List.filter_cons_of_pos (by simpa using q)]
      have e : olds ((j, u) :: l) k = olds l k := by unfold olds; rw [vget_cons_ne (by simpa using q)]
      rw [e1, inc_cons, inc_cons, e]
      have ih := inc_vdel (n := n) (k := k) hn'.2
      lia
theorem mem_vset {l : List (Int × Val)} {k : Int} {v : Val} {p : Int × Val} (h : p ∈ vset l k v) : p = (k, v) ∨ p ∈ l := by
  unfold vset at h
  split at h
  · obtain ⟨q, hq, e⟩ := List.mem_map.mp h
    split at e
    · rename_i w; exact .inl (by rw [← e, w])
    · exact .inr (e ▸ hq)
  · rcases List.mem_append.mp h with h | h
    · exact .inr h
    · exact .inl (List.mem_singleton.mp h)
theorem mem_vset_new {l : List (Int × Val)} {k : Int} {v : Val} : (k, v) ∈ vset l k v := by
  unfold vset
  split
  · rename_i h
    obtain ⟨q, hq, e⟩ := List.any_eq_true.mp h
    simp only [decide_eq_true_eq] at e
    exact List.mem_map.mpr ⟨q, hq, by rw [if_pos e, e]⟩
  · simp
theorem mem_old {l : List (Int × Val)} {k : Int} {v : Val} {p : Int × Val} (hn : (l.map (·.1)).Nodup) (h : p ∈ l) : p ∈ vset l k v ∨ p.2 ∈ olds l k := by
  by_cases q : p.1 = k
  · right
    obtain ⟨pre, r, e⟩ := List.append_of_mem h
    rw [e] at hn
    have := vget_mid hn
    unfold olds
    rw [e, ← q, this]; simp
  · left
    unfold vset
    split
    · exact List.mem_map.mpr ⟨p, h, if_neg q⟩
    · exact List.mem_append.mpr (.inl h)
theorem mem_old_del {l : List (Int × Val)} {k : Int} {p : Int × Val} (hn : (l.map (·.1)).Nodup) (h : p ∈ l) : p ∈ vdel l k ∨ p.2 ∈ olds l k := by
  by_cases q : p.1 = k
  · right
    obtain ⟨pre, r, e⟩ := List.append_of_mem h
    rw [e] at hn
    have := vget_mid hn
    unfold olds
    rw [e, ← q, this]; simp
  · left
    unfold vdel
    rw [List.mem_filter]
    exact ⟨h, by simpa using q⟩
theorem keys_vset {l : List (Int × Val)} {k : Int} {v : Val} (hn : (l.map (·.1)).Nodup) : ((vset l k v).map (·.1)).Nodup := by
  unfold vset
  split
  · rw [List.map_map]
    have : ((fun x : Int × Val => x.1) ∘ fun p => if p.1 = k then (p.1, v) else p) = fun x => x.1 := by
      funext p
      simp only [Function.comp]
      split <;> rfl
    rw [this]; exact hn
  · rename_i h
    rw [List.map_append, List.nodup_append]
    refine ⟨hn, by simp, fun a ha b hb => ?_⟩
    simp only [List.map_cons, List.map_nil, List.mem_singleton] at hb
    rintro rfl
    apply h
    obtain ⟨p, hp, e⟩ := List.mem_map.mp ha
    rw [List.any_eq_true]
    exact ⟨p, hp, by simp only [decide_eq_true_eq]; rw [e, hb]⟩
theorem keys_vdel {l : List (Int × Val)} {k : Int} (hn : (l.map (·.1)).Nodup) : ((vdel l k).map (·.1)).Nodup := by
  unfold vdel
  exact hn.sublist ((List.filter_sublist).map _)
theorem mem_olds {l : List (Int × Val)} {k : Int} {v : Val} (h : v ∈ olds l k) : (k, v) ∈ l := by
  unfold olds at h
  split at h
  · rename_i o e
    rw [List.mem_singleton.mp h]
    exact vget_mem e
  · cases h

theorem gain_same (H : HS) (v : Val) : SameG H (H.gain v) := by
  cases v with
  | int k => exact .refl
  | cell n =>
    unfold HS.gain
    simp only
    split
    · exact setC_graph rfl rfl
    · exact .refl
theorem gain_facts (H : HS) (v : Val) (k : Int) : ((H.gain v).cell k).bufd = (H.cell k).bufd ∧ ((H.gain v).cell k).col = (H.cell k).col ∧ (k ∈ H.keys → ((H.gain v).cell k).count = (H.cell k).count + (if v = .cell k then 1 else 0)) ∧ (H.gain v).full = H.full := by
  cases v with
  | int z => exact ⟨rfl, rfl, fun _ => by simp [HS.gain], rfl⟩
  | cell n =>
    unfold HS.gain
    simp only
    split
    · rename_i hn
      by_cases q : k = n
      · subst q; rw [HS.setC_same]; exact ⟨rfl, rfl, fun _ => by simp, rfl⟩
      · rw [HS.setC_ne _ _ q]; exact ⟨rfl, rfl, fun _ => by rw [if_neg (by simpa using fun w => q w.symm)]; simp, rfl⟩
    · rename_i hn
      exact ⟨rfl, rfl, fun hk => by rw [if_neg (by rintro ⟨⟩; exact hn hk)]; simp, rfl⟩

section
variable {B : Int} {H : HS} {S S' : List Val}

theorem Ok.perm (o : Ok B H S) (hp : S.Perm S') : Ok B H S' := by
  refine ⟨o.toGr, fun n hn => ?_, o.bnd, o.buf, o.col, fun n hn => ?_⟩
  · rw [o.cnt n hn]
    congr 2
    exact hp.countP_eq _
  · refine Rch.conv (T := Rch H (H.roots S')) o.cl (fun n r _ => ?_) (fun m n p hT hm hp e _ => .step hT hm hp e) (o.root n hn) hn
    exact .root (r.imp id fun r => r.imp hp.mem_iff.mp id)

theorem Ok.gain (o : Ok B H S) {v : Val} (hv : ∀ n, v = .cell n → n ∈ H.keys) : Ok B (H.gain v) (v :: S) := by
  have g := gain_same H v
  refine ⟨o.toGr.same g, fun n hn => ?_, ?_, fun n => ?_, fun n hn => ?_, fun n hn => ?_⟩
  · rw [g.keys] at hn
    rw [(gain_facts H v n).2.2.1 hn, o.cnt n hn, g.refs, incS_cons]
    split <;> lia
  · rw [(gain_rest H v).2]; exact o.bnd
  · rw [(gain_rest H v).2, g.keys, (gain_facts H v n).1]; exact o.buf n
  · rw [g.keys] at hn; rw [(gain_facts H v n).2.1]; exact o.col n hn
  · rw [g.keys] at hn
    refine Rch.same g (fun j r => ?_) (o.root n hn)
    rcases r with ⟨p, hp, e⟩ | r | ⟨j', hj, e⟩
    · exact .root (.inl ⟨p, by rw [g.vars]; exact hp, e⟩)
    · exact .root (.inr (.inl (.tail _ r)))
    · exact .root (.inr (.inr ⟨j', by rw [(gain_rest H v).2]; exact hj, e⟩))

theorem Ok.setVars (o : Ok B H (S)) {l : List (Int × Val)} {S' : List Val} (hn : (l.map (·.1)).Nodup) (hr : ∀ p ∈ l, 0 ≤ p.1 ∧ p.1 < 5) (hc : ∀ p ∈ l, ∀ k, p.2 = .cell k → k ∈ H.keys)
    (hi : ∀ n ∈ H.keys, inc n l + incS n S' = inc n H.vars + incS n S) (hm : ∀ n, (∃ p ∈ H.vars, p.2 = .cell n) ∨ .cell n ∈ S → (∃ p ∈ l, p.2 = .cell n) ∨ .cell n ∈ S') : Ok B { H with vars := l } S' := by
  refine ⟨⟨o.nd, o.rng, o.cl, hc, o.ref, o.nr, o.snd, ⟨hn, hr⟩, o.num, o.frd, o.log, o.lb⟩, fun n hn => ?_, o.bnd, o.buf, o.col, fun n hn => ?_⟩
  · have := o.cnt n hn
    have h2 := hi n hn
    show (H.cell n).count = ((inc n l + ksum (fun m => inc n (H.cell m).slots) H.keys + incS n S' : Nat) : Int)
    rw [this]
    unfold HS.refs
    congr 1
    lia
  · refine Rch.conv (T := Rch { H with vars := l } (HS.roots { H with vars := l } S')) o.cl (fun n r _ => ?_) (fun m n p hT hm hp e _ => .step hT hm hp e) (o.root n hn) hn
    rcases r with r | r | r
    · rcases hm n (.inl r) with q | q
      · exact .root (.inl q)
      · exact .root (.inr (.inl q))
    · rcases hm n (.inr r) with q | q
      · exact .root (.inl q)
      · exact .root (.inr (.inl q))
    · exact .root (.inr (.inr r))

theorem Ok.setVar (o : Ok B H (v :: S)) {x : Int} (hx : 0 ≤ x ∧ x < 5) (hv : ∀ n, v = .cell n → n ∈ H.keys) : Ok B (H.setVar x v) (olds H.vars x ++ S) := by
  refine o.setVars (keys_vset o.vnd.1) (fun p hp => ?_) (fun p hp k e => ?_) (fun n hn => ?_) fun n h => ?_
  · rcases mem_vset hp with q | q
    · rw [q]; exact hx
    · exact o.vnd.2 p q
  · rcases mem_vset hp with q | q
    · rw [q] at e; exact hv k e
    · exact o.clv p q k e
  · have := inc_vset (n := n) (k := x) (v := v) o.vnd.1
    rw [incS_append, incS_cons]
    rw [incS_cons] at this
    have : incS n [] = 0 := rfl
    lia
  · rcases h with ⟨p, hp, e⟩ | h
    · rcases mem_old (k := x) (v := v) o.vnd.1 hp with q | q
      · exact .inl ⟨p, q, e⟩
      · right; rw [← e]; exact List.mem_append.mpr (.inl q)
    · rcases List.mem_cons.mp h with q | q
      · exact .inl ⟨(x, v), mem_vset_new, q.symm⟩
      · exact .inr (List.mem_append.mpr (.inr q))
theorem Ok.delVar (o : Ok B H S) {x : Int} : Ok B { H with vars := vdel H.vars x } (olds H.vars x ++ S) := by
  refine o.setVars (keys_vdel o.vnd.1) (fun p hp => o.vnd.2 p (List.mem_filter.mp hp).1) (fun p hp k e => o.clv p (List.mem_filter.mp hp).1 k e) (fun n hn => ?_) fun n h => ?_
  · have := inc_vdel (n := n) (k := x) o.vnd.1
    rw [incS_append]
    lia
  · rcases h with ⟨p, hp, e⟩ | h
    · rcases mem_old_del (k := x) o.vnd.1 hp with q | q
      · exact .inl ⟨p, q, e⟩
      · right; rw [← e]; exact List.mem_append.mpr (.inl q)
    · exact .inr (List.mem_append.mpr (.inr h))

noncomputable def VR (H : HS) (n : Int) : Prop := (∃ p ∈ H.vars, p.2 = .cell n) ∨ ∃ r ∈ H.keys, r ≠ n ∧ (∃ p ∈ H.vars, p.2 = .cell r) ∧ ∃ p ∈ (H.cell r).slots, p.2 = .cell n

theorem Ok.setSlots (o : Ok B H S) {n : Int} (hn : n ∈ H.keys) {l : List (Int × Val)} {S' : List Val} (hnd : (l.map (·.1)).Nodup) (hr : ∀ p ∈ l, 0 ≤ p.1 ∧ p.1 < 3) (hc : ∀ p ∈ l, ∀ k, p.2 = .cell k → k ∈ H.keys)
    (hno : ∀ p ∈ l, H.isRef p.2 = false) (href : (H.cell n).sort = .ref → ∃ w, l = [(0, w)]) (hv : VR H n)
    (hi : ∀ m ∈ H.keys, inc m l + incS m S' = inc m (H.cell n).slots + incS m S) (hm : ∀ m, (∃ p ∈ (H.cell n).slots, p.2 = .cell m) ∨ .cell m ∈ S → (∃ p ∈ l, p.2 = .cell m) ∨ .cell m ∈ S') : Ok B (H.setC n { H.cell n with slots := l }) S' := by
  have ek : (H.setC n { H.cell n with slots := l }).keys = H.keys := rfl
  have es : ∀ k, ((H.setC n { H.cell n with slots := l }).cell k).sort = (H.cell k).sort ∧ ((H.setC n { H.cell n with slots := l }).cell k).count = (H.cell k).count ∧ ((H.setC n { H.cell n with slots := l }).cell k).col = (H.cell k).col ∧
      ((H.setC n { H.cell n with slots := l }).cell k).bufd = (H.cell k).bufd ∧ ((H.setC n { H.cell n with slots := l }).cell k).slots = if k = n then l else (H.cell k).slots := fun k => by
    by_cases q : k = n
    · subst q; rw [HS.setC_same, if_pos rfl]; exact ⟨rfl, rfl, rfl, rfl, rfl⟩
    · rw [HS.setC_ne _ _ q, if_neg q]; exact ⟨rfl, rfl, rfl, rfl, rfl⟩
  have isr : ∀ u, (H.setC n { H.cell n with slots := l }).isRef u = H.isRef u := fun u => by
    cases u with
    | int k => rfl
    | cell k => simp only [HS.isRef, ek, (es k).1]
  refine ⟨⟨o.nd, o.rng, fun m hm p hp k e => ?_, o.clv, fun m hm hs => ?_, fun m hm p hp => ?_, fun m hm => ?_, o.vnd, o.num, o.frd, o.log, o.lb⟩, fun m hm' => ?_, o.bnd, fun m => ?_, fun m hm => ?_, fun m hm' => ?_⟩
  · rw [(es m).2.2.2.2] at hp
    split at hp
    · exact hc p hp k e
    · exact o.cl m hm p hp k e
  · rw [(es m).1] at hs
    rw [(es m).2.2.2.2]
    split
    · rename_i q; subst q; exact href hs
    · exact o.ref m hm hs
  · rw [isr]
    rw [(es m).2.2.2.2] at hp
    split at hp
    · exact hno p hp
    · exact o.nr m hm p hp
  · rw [(es m).2.2.2.2]
    split
    · exact ⟨hnd, hr⟩
    · exact o.snd m hm
  · rw [(es m).2.1, o.cnt m hm']
    congr 1
    unfold HS.refs
    rw [ek]
    have d : ksum (fun k => inc m ((H.setC n { H.cell n with slots := l }).cell k).slots) H.keys + inc m (H.cell n).slots = ksum (fun k => inc m (H.cell k).slots) H.keys + inc m ((H.setC n { H.cell n with slots := l }).cell n).slots :=
      ksum_upd (f := fun k => inc m (H.cell k).slots) (g := fun k => inc m ((H.setC n { H.cell n with slots := l }).cell k).slots) o.nd hn fun k _ hne => by
        show inc m ((H.setC n { H.cell n with slots := l }).cell k).slots = inc m (H.cell k).slots
        rw [(es k).2.2.2.2, if_neg hne]
    rw [(es n).2.2.2.2, if_pos rfl] at d
    have h2 := hi m hm'
    have ev : (H.setC n { H.cell n with slots := l }).vars = H.vars := rfl
    rw [ev]
    lia
  · rw [(es m).2.2.2.1]; exact o.buf m
  · rw [(es m).2.2.1]; exact o.col m hm
  · have root : Rch (H.setC n { H.cell n with slots := l }) ((H.setC n { H.cell n with slots := l }).roots S') n := by
      rcases hv with ⟨p, hp, e⟩ | ⟨r, hr', hne, ⟨p, hp, e⟩, ⟨p2, hp2, e2⟩⟩
      · exact .root (.inl ⟨p, hp, e⟩)
      · exact .step (.root (.inl ⟨p, hp, e⟩)) hr' (by rw [(es r).2.2.2.2, if_neg hne]; exact hp2) e2
    refine Rch.conv (T := Rch (H.setC n { H.cell n with slots := l }) ((H.setC n { H.cell n with slots := l }).roots S')) o.cl (fun k r _ => ?_) (fun k j p hT hk hp e _ => ?_) (o.root m hm') hm'
    · rcases r with r | r | r
      · exact .root (.inl r)
      · rcases hm k (.inr r) with ⟨p, hp, e⟩ | q
        · exact .step root hn (by rw [(es n).2.2.2.2, if_pos rfl]; exact hp) e
        · exact .root (.inr (.inl q))
      · exact .root (.inr (.inr r))
    · by_cases q : k = n
      · subst q
        rcases hm j (.inl ⟨p, hp, e⟩) with ⟨p', hp', e'⟩ | q
        · exact .step hT hk (by rw [(es k).2.2.2.2, if_pos rfl]; exact hp') e'
        · exact .root (.inr (.inl q))
      · exact .step hT hk (by rw [(es k).2.2.2.2, if_neg q]; exact hp) e

theorem Ok.setSl (o : Ok B H (v :: S)) {n k : Int} (hn : n ∈ H.keys) (hk : 0 ≤ k ∧ k < 3) (hk0 : (H.cell n).sort = .ref → k = 0) (hv : ∀ m, v = .cell m → m ∈ H.keys) (hvr : H.isRef v = false) (hr : VR H n) : Ok B (H.setSl n k v) (olds (H.cell n).slots k ++ S) := by
  refine o.setSlots hn (keys_vset (o.snd n hn).1) (fun p hp => ?_) (fun p hp j e => ?_) (fun p hp => ?_) (fun hs => ?_) hr (fun m hm => ?_) fun m h => ?_
  · rcases mem_vset hp with q | q
    · rw [q]; exact hk
    · exact (o.snd n hn).2 p q
  · rcases mem_vset hp with q | q
    · rw [q] at e; exact hv j e
    · exact o.cl n hn p q j e
  · rcases mem_vset hp with q | q
    · rw [q]; exact hvr
    · exact o.nr n hn p q
  · obtain ⟨w, hw⟩ := o.ref n hn hs
    rw [hk0 hs, hw]
    exact ⟨v, by simp [vset]⟩
  · have := inc_vset (n := m) (k := k) (v := v) (o.snd n hn).1
    rw [incS_append, incS_cons]
    rw [incS_cons] at this
    have : incS m [] = 0 := rfl
    lia
  · rcases h with ⟨p, hp, e⟩ | h
    · rcases mem_old (k := k) (v := v) (o.snd n hn).1 hp with q | q
      · exact .inl ⟨p, q, e⟩
      · right; rw [← e]; exact List.mem_append.mpr (.inl q)
    · rcases List.mem_cons.mp h with q | q
      · exact .inl ⟨(k, v), mem_vset_new, q.symm⟩
      · exact .inr (List.mem_append.mpr (.inr q))
theorem Ok.delSl (o : Ok B H S) {n k : Int} (hn : n ∈ H.keys) (hs : (H.cell n).sort ≠ .ref) (hr : VR H n) : Ok B (H.setC n { H.cell n with slots := vdel (H.cell n).slots k }) (olds (H.cell n).slots k ++ S) := by
  refine o.setSlots hn (keys_vdel (o.snd n hn).1) (fun p hp => (o.snd n hn).2 p (List.mem_filter.mp hp).1) (fun p hp => o.cl n hn p (List.mem_filter.mp hp).1) (fun p hp => o.nr n hn p (List.mem_filter.mp hp).1) (fun h => absurd h hs) hr (fun m hm => ?_) fun m h => ?_
  · have := inc_vdel (n := m) (k := k) (o.snd n hn).1
    rw [incS_append]
    lia
  · rcases h with ⟨p, hp, e⟩ | h
    · rcases mem_old_del (k := k) (o.snd n hn).1 hp with q | q
      · exact .inl ⟨p, q, e⟩
      · right; rw [← e]; exact List.mem_append.mpr (.inl q)
    · exact .inr (List.mem_append.mpr (.inr h))

theorem Ok.wr (o : Ok B H (v :: S)) {x : Int} (hx : 0 ≤ x ∧ x < 5) (hv : ∀ n, v = .cell n → n ∈ H.keys) (hvr : H.isRef v = false) : Ok B (H.wr x v).1 ((H.wr x v).2 ++ S) := by
  have plain : ∀ ls, olds H.vars x = ls → H.wr x v = (H.setVar x v, ls) → Ok B (H.wr x v).1 ((H.wr x v).2 ++ S) := fun ls e1 e2 => by
    rw [e2, ← e1]; exact o.setVar hx hv
  cases q : vget H.vars x with
  | none => exact plain [] (by simp [olds, q]) (by simp [HS.wr, q])
  | some u =>
    cases u with
    | int k => exact plain [.int k] (by simp [olds, q]) (by simp [HS.wr, q])
    | cell n =>
      cases qr : H.isRef (.cell n) with
      | false => exact plain [.cell n] (by simp [olds, q]) (by simp [HS.wr, q, qr])
      | true =>
        have e : H.wr x v = (H.setSl n 0 v, olds (H.cell n).slots 0) := by simp [HS.wr, q, qr]
        rw [e]
        have hn := o.clv _ (vget_mem q) n rfl
        have q2 := qr
        simp [HS.isRef] at q2
        exact o.setSl hn ⟨by lia, by lia⟩ (fun _ => rfl) hv hvr (.inl ⟨_, vget_mem q, rfl⟩)
end
end Gc
end
/- GcD6 -/
section
namespace Gc
section
variable {B : Int} {H H' : HS} {S S' : List Val}

theorem Ok.newCell (o : Ok B H S) {s : Srt} {l : List (Int × Val)} {c : Int} {z : Int} (hz : z = H.last + 1) (ek : H'.keys = H.keys ++ [z]) (el : H'.last = z) (eb : H'.buf = H.buf) (ef : H'.freed = H.freed) (eg : H'.logn ≤ H.logn + 1)
    (ec : ∀ k ∈ H.keys, (H'.cell k).sort = (H.cell k).sort ∧ (H'.cell k).slots = (H.cell k).slots ∧ (H'.cell k).col = (H.cell k).col ∧ (H'.cell k).bufd = (H.cell k).bufd) (ez : H'.cell z = ⟨s, c, l, .black, false⟩)
    (lc : ∀ p ∈ l, ∀ k, p.2 = .cell k → k ∈ H.keys) (ln : ∀ p ∈ l, H.isRef p.2 = false) (ld : (l.map (·.1)).Nodup) (lr : ∀ p ∈ l, 0 ≤ p.1 ∧ p.1 < 3) (ls : s = .ref → ∃ w, l = [(0, w)])
    (vd : (H'.vars.map (·.1)).Nodup) (vr : ∀ p ∈ H'.vars, 0 ≤ p.1 ∧ p.1 < 5) (vc : ∀ p ∈ H'.vars, ∀ k, p.2 = .cell k → k ∈ H.keys ∨ k = z)
    (hcnt : ∀ n ∈ H.keys, (H'.cell n).count + (inc n H.vars + incS n S : Nat) = (H.cell n).count + (inc n l + inc n H'.vars + incS n S' : Nat)) (hc : c = (inc z H'.vars + incS z S' : Nat))
    (hroot : ∀ n, ((∃ p ∈ H.vars, p.2 = .cell n) ∨ .cell n ∈ S) → (∃ p ∈ H'.vars, p.2 = .cell n) ∨ .cell n ∈ S' ∨ ∃ p ∈ l, p.2 = .cell n) (hzr : (∃ p ∈ H'.vars, p.2 = .cell z) ∨ .cell z ∈ S') : Ok (B + 1) H' S' := by
  have zk : z ∉ H.keys := fun q => by have := (o.rng z q).2; lia
  have mk : ∀ k, k ∈ H'.keys ↔ k ∈ H.keys ∨ k = z := fun k => by rw [ek]; simp
  have nz : ∀ k ∈ H.keys, k ≠ z := fun k hk q => zk (q ▸ hk)
  have isr : ∀ u, (∀ k, u = .cell k → k ∈ H.keys) → H'.isRef u = H.isRef u := fun u hu => by
    cases u with
    | int k => rfl
    | cell k =>
      have hk := hu k rfl
      simp only [HS.isRef, hk, (mk k).mpr (.inl hk), (ec k hk).1]
  have inz : ∀ m ∈ H.keys, inc z (H.cell m).slots = 0 := fun m hm => by
    rcases Nat.eq_zero_or_pos (inc z (H.cell m).slots) with q | q
    · exact q
    · obtain ⟨p, hp, e⟩ := inc_ex q
      exact absurd (o.cl m hm p hp z e) zk
  have ksz : ksum (fun m => inc z (H'.cell m).slots) H'.keys = 0 := by
    rw [ek, ksum_append]
    have h1 : ksum (fun m => inc z (H'.cell m).slots) H.keys = ksum (fun _ => 0) H.keys := ksum_congr fun m hm => by rw [(ec m hm).2.1]; exact inz m hm
    have h2 : ∀ l : List Int, ksum (fun _ => 0) l = 0 := fun l => by
      induction l with
      | nil => rfl
      | cons _ _ ih => rw [ksum_cons, ih]
    have h3 : inc z l = 0 := by
      rcases Nat.eq_zero_or_pos (inc z l) with q | q
      · exact q
      · obtain ⟨p, hp, e⟩ := inc_ex q
        exact absurd (lc p hp z e) zk
    have h4 : ksum (fun m => inc z (H'.cell m).slots) [z] = 0 := by rw [ksum_cons, ez]; simp [ksum, h3]
    rw [h1, h2, h4]
  have hnum := o.num
  have hfrd := o.frd
  refine ⟨⟨?_, fun n hn => ?_, fun n hn p hp k e => ?_, fun p hp k e => ?_, fun n hn hs => ?_, fun n hn p hp => ?_, fun n hn => ?_, ⟨vd, vr⟩, ?_, ?_, ?_, ?_⟩, fun n hn => ?_, ?_, fun n => ?_, fun n hn => ?_, fun n hn => ?_⟩
  · rw [ek, List.nodup_append]
    exact ⟨o.nd, by simp, fun a ha b hb => by rw [List.mem_singleton.mp hb]; exact nz a ha⟩
  · rw [el]
    rcases (mk n).mp hn with q | q
    · have := o.rng n q; lia
    · have := o.keysLen; lia
  · rcases (mk n).mp hn with q | q
    · rw [(ec n q).2.1] at hp; exact (mk k).mpr (.inl (o.cl n q p hp k e))
    · rw [q, ez] at hp; exact (mk k).mpr (.inl (lc p hp k e))
  · exact (mk k).mpr (vc p hp k e)
  · rcases (mk n).mp hn with q | q
    · rw [(ec n q).1] at hs; rw [(ec n q).2.1]; exact o.ref n q hs
    · rw [q, ez] at hs ⊢; exact ls hs
  · rcases (mk n).mp hn with q | q
    · rw [(ec n q).2.1] at hp; rw [isr _ fun k e => o.cl n q p hp k e]; exact o.nr n q p hp
    · rw [q, ez] at hp; rw [isr _ fun k e => lc p hp k e]; exact ln p hp
  · rcases (mk n).mp hn with q | q
    · rw [(ec n q).2.1]; exact o.snd n q
    · rw [q, ez]; exact ⟨ld, lr⟩
  · rw [ef, el, ek, List.length_append, List.length_singleton]; lia
  · rw [ef]; exact hfrd
  · rw [el, ef]; have := o.log; lia
  · rw [el]; have := o.lb; lia
  · rcases (mk n).mp hn with q | q
    · have h1 := hcnt n q
      have h2 := o.cnt n q
      have e1 : H'.refs n = inc n H'.vars + (ksum (fun m => inc n (H.cell m).slots) H.keys + inc n l) := by
        unfold HS.refs
        rw [ek, ksum_append]
        have e2 : ksum (fun m => inc n (H'.cell m).slots) H.keys = ksum (fun m => inc n (H.cell m).slots) H.keys := ksum_congr fun m hm => by rw [(ec m hm).2.1]
        have e3 : ksum (fun m => inc n (H'.cell m).slots) [z] = inc n l := by rw [ksum_cons, ez]; simp [ksum]
        rw [e2, e3]
      rw [e1]
      unfold HS.refs at h2
      lia
    · rw [q]
      have : H'.refs z = inc z H'.vars := by unfold HS.refs; rw [ksz]; lia
      rw [this, ez]; exact hc
  · rw [eb]; exact o.bnd
  · rw [eb, mk]
    constructor
    · intro h
      have := (o.buf n).mp h
      exact ⟨.inl this.1, by rw [(ec n this.1).2.2.2]; exact this.2⟩
    · rintro ⟨q | q, h⟩
      · rw [(ec n q).2.2.2] at h; exact (o.buf n).mpr ⟨q, h⟩
      · rw [q, ez] at h; cases h
  · rcases (mk n).mp hn with q | q
    · rw [(ec n q).2.2.1]; exact o.col n q
    · rw [q, ez]; simp
  · have rz : Rch H' (H'.roots S') z := by
      rcases hzr with q | q
      · exact .root (.inl q)
      · exact .root (.inr (.inl q))
    rcases (mk n).mp hn with q | q
    · refine Rch.conv (T := Rch H' (H'.roots S')) o.cl (fun m r _ => ?_) (fun m j p hT hm hp e _ => .step hT ((mk m).mpr (.inl hm)) (by rw [(ec m hm).2.1]; exact hp) e) (o.root n q) q
      have fin : ((∃ p ∈ H.vars, p.2 = .cell m) ∨ .cell m ∈ S) → Rch H' (H'.roots S') m := fun h => by
        rcases hroot m h with w | w | ⟨p, hp, e⟩
        · exact .root (.inl w)
        · exact .root (.inr (.inl w))
        · exact .step rz ((mk z).mpr (.inr rfl)) (by rw [ez]; exact hp) e
      rcases r with r | r | ⟨j, hj, e⟩
      · exact fin (.inl r)
      · exact fin (.inr r)
      · exact .root (.inr (.inr ⟨j, by rw [eb]; exact hj, e⟩))
    · rw [q]; exact rz

theorem addC_cell (H : HS) (s : Srt) : (H.addC s).cell (H.last + 1) = ⟨s, 0, [], .black, false⟩ ∧ ∀ k, k ≠ H.last + 1 → (H.addC s).cell k = H.cell k := ⟨if_pos rfl, fun _ h => if_neg h⟩

noncomputable def Cld (H : HS) (S : List Val) : Prop := ∀ n, .cell n ∈ S → n ∈ H.keys

structure Made (H : HS) (s : Srt) (l : List (Int × Val)) (K : HS) : Prop where
  keys : K.keys = H.keys ++ [H.last + 1]
  last : K.last = H.last + 1
  buf : K.buf = H.buf
  freed : K.freed = H.freed
  full : K.full = H.full
  logn : K.logn ≤ H.logn + 1
  vars : K.vars = H.vars
  old : ∀ k ∈ H.keys, (K.cell k).sort = (H.cell k).sort ∧ (K.cell k).slots = (H.cell k).slots ∧ (K.cell k).col = (H.cell k).col ∧ (K.cell k).bufd = (H.cell k).bufd
  cnt : ∀ k ∈ H.keys, (K.cell k).count = (H.cell k).count + (inc k l : Nat)
  made : K.cell (H.last + 1) = ⟨s, 0, l, .black, false⟩

theorem made_addC (H : HS) (ht : ∀ k ∈ H.keys, k ≤ H.last) (s : Srt) : Made H s [] (H.addC s) := by
  have ne : ∀ k ∈ H.keys, (H.addC s).cell k = H.cell k := fun k hk => (addC_cell H s).2 k (by have := ht k hk; lia)
  exact ⟨rfl, rfl, rfl, rfl, rfl, Nat.le_succ _, rfl, fun k hk => by rw [ne k hk]; exact ⟨rfl, rfl, rfl, rfl⟩, fun k hk => by rw [ne k hk]; simp [inc], (addC_cell H s).1⟩

theorem Made.step {H K : HS} {s : Srt} {l : List (Int × Val)} {p : Int × Val} (ht : ∀ k ∈ H.keys, k ≤ H.last) (m : Made H s l K) (hp : p.1 ∉ l.map (·.1)) (hc : ∀ k, p.2 = .cell k → k ∈ H.keys) : Made H s (l ++ [p]) (HS.copyStep (H.last + 1) K p) := by
  have ne : ∀ k ∈ H.keys, k ≠ H.last + 1 := fun k hk => by have := ht k hk; lia
  have gz : (K.gain p.2).cell (H.last + 1) = K.cell (H.last + 1) := by
    cases q : p.2 with
    | int k => rfl
    | cell k =>
      have hk := hc k q
      unfold HS.gain
      simp only
      split
      · rw [HS.setC_ne _ _ fun e => ne k hk e.symm]
      · rfl
  have oc : ∀ k ∈ H.keys, (HS.copyStep (H.last + 1) K p).cell k = (K.gain p.2).cell k := fun k hk => (setSl_cell _ _ _ _ k).2 (ne k hk)
  have gs := gain_same K p.2
  refine ⟨?_, ?_, ?_, ?_, ?_, ?_, ?_, fun k hk => ?_, fun k hk => ?_, ?_⟩
  · show (K.gain p.2).keys = _; rw [gain_keys]; exact m.keys
  · show (K.gain p.2).last = _; rw [gain_last]; exact m.last
  · show (K.gain p.2).buf = _; rw [(gain_rest K p.2).2]; exact m.buf
  · show (K.gain p.2).freed = _; rw [gs.freed]; exact m.freed
  · show (K.gain p.2).full = _; rw [(gain_facts K p.2 0).2.2.2]; exact m.full
  · show (K.gain p.2).logn ≤ _; rw [(gain_rest K p.2).1]; exact m.logn
  · show (K.gain p.2).vars = _; rw [gain_vars]; exact m.vars
  · rw [oc k hk, (gain_cell K p.2 k).1, (gain_cell K p.2 k).2, (gain_facts K p.2 k).1, (gain_facts K p.2 k).2.1]; exact m.old k hk
  · rw [oc k hk, (gain_facts K p.2 k).2.2.1 (by rw [m.keys]; exact List.mem_append.mpr (.inl hk)), m.cnt k hk, inc_append, inc_cons]
    have : inc k [] = 0 := rfl
    split <;> lia
  · unfold HS.copyStep HS.setSl
    rw [HS.setC_same, gz, m.made]
    have : vget l p.1 = none := vget_none.mpr fun q hq e => hp (by rw [← e]; exact List.mem_map_of_mem (f := fun x : Int × Val => x.1) hq)
    simp only [vset_none this]

theorem made_copied {H : HS} {n : Int} (ht : ∀ k ∈ H.keys, k ≤ H.last) (hnd : ((H.cell n).slots.map (·.1)).Nodup) (hc : ∀ p ∈ (H.cell n).slots, ∀ k, p.2 = .cell k → k ∈ H.keys) : Made H .arr (H.cell n).slots (H.copied n) := by
  have key : ∀ (r pre : List (Int × Val)) (K : HS), ((pre ++ r).map (·.1)).Nodup → (∀ p ∈ r, ∀ k, p.2 = .cell k → k ∈ H.keys) → Made H .arr pre K → Made H .arr (pre ++ r) (r.foldl (HS.copyStep (H.last + 1)) K) := by
    intro r
    induction r with
    | nil => intro pre K _ _ m; rw [List.append_nil]; exact m
    | cons p r ih =>
      intro pre K hn hc m
      have e : pre ++ p :: r = (pre ++ [p]) ++ r := by simp
      rw [e] at hn ⊢
      refine ih _ _ hn (fun q hq => hc q (.tail _ hq)) (m.step ht ?_ (hc p (.head _)))
      rw [List.map_append, List.nodup_append] at hn
      have h1 := hn.1
      rw [List.map_append, List.nodup_append] at h1
      exact fun hm => h1.2.2 _ hm _ (by simp) rfl
  have m0 := made_addC H ht .arr
  have m1 : Made H .arr [] (H.addC .arr).logged := ⟨rfl, rfl, rfl, rfl, rfl, Nat.le_refl _, rfl, m0.old, m0.cnt, m0.made⟩
  have := key (H.cell n).slots [] _ (by simpa using hnd) hc m1
  rw [List.nil_append] at this
  exact this

theorem Made.gainF {H K : HS} {s : Srt} {l : List (Int × Val)} (ht : ∀ k ∈ H.keys, k ≤ H.last) (m : Made H s l K) : Made H s l { K with cell := K.cell } ∧ (K.gain (.cell (H.last + 1))).keys = H.keys ++ [H.last + 1] ∧ (∀ k ∈ H.keys, (K.gain (.cell (H.last + 1))).cell k = K.cell k) ∧
    (K.gain (.cell (H.last + 1))).cell (H.last + 1) = ⟨s, 1, l, .black, false⟩ := by
  have hz : H.last + 1 ∈ K.keys := by rw [m.keys]; simp
  refine ⟨m, by rw [gain_keys]; exact m.keys, fun k hk => ?_, ?_⟩
  · unfold HS.gain; simp only [hz, if_true]
    rw [HS.setC_ne _ _ (by have := ht k hk; lia)]
  · unfold HS.gain; simp only [hz, if_true]
    rw [HS.setC_same, m.made]; rfl

theorem Ok.top (o : Ok B H S) : ∀ k ∈ H.keys, k ≤ H.last := fun k hk => (o.rng k hk).2
theorem Ok.fresh (o : Ok B H S) : inc (H.last + 1) H.vars = 0 := by
  rcases Nat.eq_zero_or_pos (inc (H.last + 1) H.vars) with q | q
  · exact q
  · obtain ⟨p, hp, e⟩ := inc_ex q
    have := o.top _ (o.clv p hp _ e)
    lia
theorem Ok.freshS (o : Ok B H S) (c : Cld H S) : incS (H.last + 1) S = 0 := by
  rcases Nat.eq_zero_or_pos (incS (H.last + 1) S) with q | q
  · exact q
  · have := o.top _ (c _ (incS_ex q))
    lia

theorem Ok.made (o : Ok B H S) (hS : Cld H S) {s : Srt} {l : List (Int × Val)} {K : HS} (m : Made H s l K) (hs : s ≠ .ref) (lc : ∀ p ∈ l, ∀ k, p.2 = .cell k → k ∈ H.keys) (ln : ∀ p ∈ l, H.isRef p.2 = false) (ld : (l.map (·.1)).Nodup) (lr : ∀ p ∈ l, 0 ≤ p.1 ∧ p.1 < 3) :
    Ok (B + 1) (K.gain (.cell (H.last + 1))) (.cell (H.last + 1) :: S) := by
  have g := gain_same K (.cell (H.last + 1))
  obtain ⟨_, gk, gc, gz⟩ := m.gainF o.top
  have old : ∀ k ∈ H.keys, k ≠ H.last + 1 := fun k hk => by have := o.top k hk; lia
  have ev : (K.gain (.cell (H.last + 1))).vars = H.vars := by rw [gain_vars]; exact m.vars
  refine o.newCell (s := s) (l := l) (c := 1) rfl gk (by rw [gain_last]; exact m.last) (by rw [(gain_rest K _).2]; exact m.buf) (by rw [g.freed]; exact m.freed) (by rw [(gain_rest K _).1]; exact m.logn) (fun k hk => ?_) gz lc ln ld lr (fun h => absurd h hs)
    (by rw [ev]; exact o.vnd.1) (by rw [ev]; exact o.vnd.2) (fun p hp k e => by rw [ev] at hp; exact .inl (o.clv p hp k e)) (fun n hn => ?_) ?_ (fun n h => ?_) (.inr (.head _))
  · rw [gc k hk]; exact m.old k hk
  · rw [gc n hn, m.cnt n hn, ev, incS_cons, if_neg (by simpa using fun q => old n hn q.symm)]
    lia
  · rw [ev, incS_cons, if_pos rfl, o.fresh, o.freshS hS]; rfl
  · rw [ev]
    rcases h with h | h
    · exact .inl h
    · exact .inr (.inl (.tail _ h))

theorem Ok.addGain (o : Ok B H S) (hS : Cld H S) {s : Srt} (hs : s ≠ .ref) : Ok (B + 1) ((H.addC s).gain (.cell (H.last + 1))) (.cell (H.last + 1) :: S) :=
  o.made hS (made_addC H o.top s) hs (fun p hp => by cases hp) (fun p hp => by cases hp) .nil (fun p hp => by cases hp)

theorem Ok.copied (o : Ok B H S) (hS : Cld H S) {n : Int} (hn : n ∈ H.keys) : Ok (B + 1) ((H.copied n).gain (.cell (H.last + 1))) (.cell (H.last + 1) :: S) :=
  o.made hS (made_copied o.top (o.snd n hn).1 (o.cl n hn)) (by simp) (o.cl n hn) (o.nr n hn) (o.snd n hn).1 (o.snd n hn).2

theorem Ok.mono (o : Ok B H S) {B' : Int} (h : B ≤ B') : Ok B' H S := ⟨⟨o.nd, o.rng, o.cl, o.clv, o.ref, o.nr, o.snd, o.vnd, o.num, o.frd, o.log, Int.le_trans o.lb h⟩, o.cnt, o.bnd, o.buf, o.col, o.root⟩

theorem Ok.refIn (o : Ok B H S) (hS : Cld H S) {x : Int} (hx : 0 ≤ x ∧ x < 5) : Ok (B + 1) (H.refIn x).1 S ∧ (∀ n, (H.refIn x).2 = .cell n → n ∈ (H.refIn x).1.keys) ∧ (H.refIn x).1.vars.length < 60000 := by
  unfold HS.refIn
  split
  · rename_i hr
    refine ⟨o.mono (by lia), fun n e => ?_, by have := o.varsLen; show H.vars.length < 60000; lia⟩
    simp only at e
    rw [e] at hr
    simp [HS.isRef] at hr
    exact hr.1
  · rename_i hr
    have hr' : H.isRef ((vget H.vars x).getD (.int 0)) = false := by simpa using hr
    have hc : ∀ k, (vget H.vars x).getD (.int 0) = .cell k → k ∈ H.keys := fun k e => by
      cases q : vget H.vars x with
      | none => rw [q] at e; cases e
      | some u => rw [q] at e; exact o.clv _ (vget_mem q) k e
    generalize hu : (vget H.vars x).getD (.int 0) = u at *
    have ac := addC_cell H .ref
    have old : ∀ k ∈ H.keys, k ≠ H.last + 1 := fun k hk => by have := o.top k hk; lia
    have hz : H.last + 1 ∈ ((H.addC .ref).setSl (H.last + 1) 0 u).keys := by show _ ∈ H.keys ++ [H.last + 1]; simp
    have e1 : ((H.addC .ref).setSl (H.last + 1) 0 u).cell (H.last + 1) = ⟨.ref, 0, [(0, u)], .black, false⟩ := by
      unfold HS.setSl; rw [HS.setC_same, ac.1]; rfl
    have e2 : ∀ k ∈ H.keys, (((H.addC .ref).setSl (H.last + 1) 0 u).gain (.cell (H.last + 1))).cell k = H.cell k := fun k hk => by
      unfold HS.gain; simp only [hz, if_true]
      rw [HS.setC_ne _ _ (old k hk), (setSl_cell _ _ _ _ k).2 (old k hk), ac.2 k (old k hk)]
    have e3 : (((H.addC .ref).setSl (H.last + 1) 0 u).gain (.cell (H.last + 1))).cell (H.last + 1) = ⟨.ref, 1, [(0, u)], .black, false⟩ := by
      unfold HS.gain; simp only [hz, if_true]
      rw [HS.setC_same, e1]; rfl
    have gs := gain_same ((H.addC .ref).setSl (H.last + 1) 0 u) (.cell (H.last + 1))
    have gr := gain_rest ((H.addC .ref).setSl (H.last + 1) 0 u) (.cell (H.last + 1))
    have eo : ∀ n, incS n (olds H.vars x) = inc n [(0, u)] := fun n => by
      unfold olds
      cases q : vget H.vars x with
      | none => rw [q] at hu; subst hu; rfl
      | some w => rw [q] at hu; simp only [Option.getD_some] at hu; subst hu; rfl
    have ev : ((((H.addC .ref).setSl (H.last + 1) 0 u).gain (.cell (H.last + 1))).setVar x (.cell (H.last + 1))).vars = vset H.vars x (.cell (H.last + 1)) := by
      show vset (((H.addC .ref).setSl (H.last + 1) 0 u).gain (.cell (H.last + 1))).vars x _ = _
      rw [gain_vars]; rfl
    refine ⟨?_, fun n e => ?_, ?_⟩
    · refine o.newCell (s := .ref) (l := [(0, u)]) (c := 1) rfl ?_ ?_ ?_ ?_ ?_ (fun k hk => ?_) e3 (fun p hp k e => ?_) (fun p hp => ?_) (by simp) (fun p hp => ?_) (fun _ => ⟨u, rfl⟩) ?_ (fun p hp => ?_) (fun p hp k e => ?_) (fun n hn => ?_) ?_ (fun n h => ?_) ?_
      · exact gs.keys
      · exact gs.last
      · exact gr.2
      · exact gs.freed
      · show (((H.addC .ref).setSl (H.last + 1) 0 u).gain (.cell (H.last + 1))).logn ≤ _
        rw [gr.1]; exact Nat.le_succ _
      · show (((((H.addC .ref).setSl (H.last + 1) 0 u).gain (.cell (H.last + 1)))).cell k).sort = _ ∧ (((((H.addC .ref).setSl (H.last + 1) 0 u).gain (.cell (H.last + 1)))).cell k).slots = _ ∧ (((((H.addC .ref).setSl (H.last + 1) 0 u).gain (.cell (H.last + 1)))).cell k).col = _ ∧ (((((H.addC .ref).setSl (H.last + 1) 0 u).gain (.cell (H.last + 1)))).cell k).bufd = _
        rw [e2 k hk]; exact ⟨rfl, rfl, rfl, rfl⟩
      · rw [List.mem_singleton.mp hp] at e; exact hc k e
      · rw [List.mem_singleton.mp hp]; exact hr'
      · rw [List.mem_singleton.mp hp]; lia
      · rw [ev]; exact keys_vset o.vnd.1
      · rw [ev] at hp
        rcases mem_vset hp with q | q
        · rw [q]; exact hx
        · exact o.vnd.2 p q
      · rw [ev] at hp
        rcases mem_vset hp with q | q
        · rw [q] at e; cases e; exact .inr rfl
        · exact .inl (o.clv p q k e)
      · show ((((((H.addC .ref).setSl (H.last + 1) 0 u).gain (.cell (H.last + 1)))).cell n).count : Int) + _ = _
        rw [e2 n hn, ev]
        have h1 := inc_vset (n := n) (k := x) (v := .cell (H.last + 1)) o.vnd.1
        rw [eo, incS_cons, if_neg (by simpa using fun q => old n hn q.symm)] at h1
        have : incS n [] = 0 := rfl
        lia
      · rw [ev]
        have h1 := inc_vset (n := H.last + 1) (k := x) (v := .cell (H.last + 1)) o.vnd.1
        have h2 : incS (H.last + 1) (olds H.vars x) = 0 := by
          rcases Nat.eq_zero_or_pos (incS (H.last + 1) (olds H.vars x)) with q | q
          · exact q
          · exact absurd rfl (old _ (o.clv _ (mem_olds (incS_ex q)) _ rfl))
        rw [h2, o.fresh, incS_cons, if_pos rfl] at h1
        have h3 := o.freshS hS
        have : incS (H.last + 1) [] = 0 := rfl
        lia
      · rw [ev]
        rcases h with ⟨p, hp, e⟩ | h
        · rcases mem_old (k := x) (v := .cell (H.last + 1)) o.vnd.1 hp with q | q
          · exact .inl ⟨p, q, e⟩
          · refine .inr (.inr ?_)
            rw [e] at q
            have := incS_pos q
            rw [eo] at this
            exact inc_ex this
        · exact .inr (.inl h)
      · rw [ev]; exact .inl ⟨_, mem_vset_new, rfl⟩
    · cases e
      show _ ∈ (((H.addC .ref).setSl (H.last + 1) 0 u).gain (.cell (H.last + 1))).keys
      rw [gs.keys]; exact hz
    · rw [ev]
      have := vset_length H.vars x (.cell (H.last + 1))
      have := o.varsLen
      lia
end
end Gc
end
/- GcD7 -/
section
namespace Gc

theorem vget_vset_same {l : List (Int × Val)} {k : Int} {v : Val} : vget (vset l k v) k = some v := by
  induction l with
  | nil => simp [vset, vget]
  | cons p l ih =>
    by_cases q : p.1 = k
    · unfold vset
      have : (p :: l).any (fun p => decide (p.1 = k)) = true := by simp [q]
      rw [this, if_pos rfl, List.map_cons]
      simp only [q, if_true]
      exact vget_cons_eq
    · rw [vset_cons_ne q, vget_cons_ne q]; exact ih
section
variable {B : Int} {H H' : HS} {S S' : List Val}

theorem Wfs.place (w : Wfs H) {x n : Int} (h : H.valOf x = .cell n) : (vget H.vars x = some (.cell n) ∧ H.isRef (.cell n) = false) ∨ ∃ r ∈ H.keys, vget H.vars x = some (.cell r) ∧ H.isRef (.cell r) = true ∧ (H.cell r).slots = [(0, .cell n)] ∧ r ≠ n := by
  have hn := (w.valOf h).2
  unfold HS.valOf at h
  cases q : vget H.vars x with
  | none => rw [q] at h; simp [HS.inner, HS.isRef] at h
  | some v =>
    rw [q] at h
    simp only [Option.getD_some] at h
    have hm := vget_mem q
    unfold HS.inner at h
    cases v with
    | int k => simp [HS.isRef] at h
    | cell m =>
      have hmk := w.clv _ hm m rfl
      cases qr : H.isRef (.cell m) with
      | false => rw [qr] at h; simp at h; subst h; exact .inl ⟨rfl, qr⟩
      | true =>
        rw [qr] at h
        have q2 := qr
        simp [HS.isRef] at q2
        obtain ⟨u, hu⟩ := w.ref m hmk q2.2
        simp [hu, vget] at h
        subst h
        exact .inr ⟨m, hmk, rfl, qr, hu, fun e => by rw [e, hn] at qr; cases qr⟩

theorem Wfs.vr (w : Wfs H) {x n : Int} (h : H.valOf x = .cell n) : VR H n := by
  rcases w.place h with ⟨a, _⟩ | ⟨r, hr, a, _, b, c⟩
  · exact .inl ⟨_, vget_mem a, rfl⟩
  · exact .inr ⟨r, hr, c, ⟨_, vget_mem a, rfl⟩, ⟨(0, .cell n), by rw [b]; simp, rfl⟩⟩

theorem isRef_setSl (H : HS) (n k : Int) (v u : Val) : (H.setSl n k v).isRef u = H.isRef u := by
  cases u with
  | int k => rfl
  | cell m => simp only [HS.isRef, (setSl_cell H n k v m).1]; rfl

theorem wr_isRef (H : HS) (x : Int) (v u : Val) : (H.wr x v).1.isRef u = H.isRef u := by
  unfold HS.wr
  split
  · split
    · exact isRef_setSl H _ _ _ u
    · cases u <;> rfl
  · cases u <;> rfl
  · cases u <;> rfl

theorem wr_keys (H : HS) (x : Int) (v : Val) : (H.wr x v).1.keys = H.keys ∧ (H.wr x v).1.last = H.last ∧ (∀ k, ((H.wr x v).1.cell k).sort = (H.cell k).sort ∧ ((H.wr x v).1.cell k).count = (H.cell k).count) ∧ (∀ k, H.isRef (.cell k) = false → (H.wr x v).1.cell k = H.cell k) ∧ (H.wr x v).2.length ≤ 1 := by
  unfold HS.wr
  split
  · rename_i n q
    split
    · rename_i qr
      refine ⟨rfl, rfl, fun k => ⟨(setSl_cell H n 0 v k).1, ?_⟩, fun k hk => (setSl_cell H n 0 v k).2 fun e => (by rw [e, qr] at hk; cases hk), olds_length _ _⟩
      unfold HS.setSl
      by_cases e : k = n
      · subst e; rw [HS.setC_same]
      · rw [HS.setC_ne _ _ e]
    · exact ⟨rfl, rfl, fun k => ⟨rfl, rfl⟩, fun k _ => rfl, Nat.le_refl _⟩
  · exact ⟨rfl, rfl, fun k => ⟨rfl, rfl⟩, fun k _ => rfl, Nat.le_refl _⟩
  · exact ⟨rfl, rfl, fun k => ⟨rfl, rfl⟩, fun k _ => rfl, Nat.zero_le _⟩

theorem inner_no {v : Val} (h : H.isRef v = false) : H.inner v = v := by unfold HS.inner; rw [h]; rfl

theorem valOf_wr {x : Int} {v : Val} (hv : H.isRef v = false) : (H.wr x v).1.valOf x = v := by
  have pl : ∀ ls, H.wr x v = (H.setVar x v, ls) → (H.wr x v).1.valOf x = v := fun ls e => by
    rw [e]
    unfold HS.valOf
    show HS.inner _ ((vget (vset H.vars x v) x).getD (.int 0)) = v
    rw [vget_vset_same, Option.getD_some, inner_no]
    cases v with
    | int k => rfl
    | cell k => exact hv
  cases q : vget H.vars x with
  | none => exact pl [] (by simp [HS.wr, q])
  | some u =>
    cases u with
    | int k => exact pl [.int k] (by simp [HS.wr, q])
    | cell n =>
      cases qr : H.isRef (.cell n) with
      | false => exact pl [.cell n] (by simp [HS.wr, q, qr])
      | true =>
        have e : H.wr x v = (H.setSl n 0 v, olds (H.cell n).slots 0) := by simp [HS.wr, q, qr]
        rw [e]
        unfold HS.valOf
        show HS.inner _ ((vget H.vars x).getD (.int 0)) = v
        rw [q, Option.getD_some]
        unfold HS.inner
        rw [isRef_setSl, qr, if_pos rfl]
        unfold HS.setSl
        simp only [HS.setC_same, vget_vset_same, Option.getD_some]

structure ContF (B : Int) (S : List Val) (H : HS) (x n : Int) (c : Int × HS × List Val) : Prop where
  ok : Ok (B + 1) c.2.1 (c.2.2 ++ S)
  val : c.2.1.valOf x = .cell c.1
  slots : (c.2.1.cell c.1).slots = (H.cell n).slots
  sort : (c.2.1.cell c.1).sort = (H.cell n).sort
  one : (H.cell n).sort = .arr → (c.2.1.cell c.1).count = 1
  keys : ∀ k ∈ H.keys, k ∈ c.2.1.keys
  isr : ∀ u, (∀ k, u = .cell k → k ∈ H.keys) → c.2.1.isRef u = H.isRef u
  len : c.2.2.length ≤ 1

theorem Ok.cont (o : Ok B H S) (hB : B ≤ 900) (hS : Cld H S) {x n : Int} (hx : 0 ≤ x ∧ x < 5) (h : H.valOf x = .cell n) : ContF B S H x n (H.cont x n) := by
  have w : Wfs H := o.wfs (by lia)
  obtain ⟨hn, hnr⟩ := w.valOf h
  unfold HS.cont
  split
  · rename_i hc
    refine ⟨by simpa using o.mono (by lia), h, rfl, rfl, fun q => ?_, fun k hk => hk, fun u _ => rfl, Nat.zero_le _⟩
    rcases hc with hc | hc
    · rw [hc] at q; cases q
    · exact hc
  · rename_i hc
    have m := made_copied o.top (o.snd n hn).1 (o.cl n hn)
    have g := o.copied hS hn
    obtain ⟨_, gk, gc, gz⟩ := m.gainF o.top
    have hz : H.last + 1 ∈ ((H.copied n).gain (.cell (H.last + 1))).keys := by rw [gk]; simp
    have zr : ((H.copied n).gain (.cell (H.last + 1))).isRef (.cell (H.last + 1)) = false := by simp [HS.isRef, gz]
    have wk := wr_keys ((H.copied n).gain (.cell (H.last + 1))) x (.cell (H.last + 1))
    have cz := wk.2.2.2.1 _ zr
    have ha : (H.cell n).sort = .arr := by
      cases q : (H.cell n).sort with
      | arr => rfl
      | obj => exact absurd (.inl q) hc
      | ref => simp [HS.isRef, hn, q] at hnr
    refine ⟨g.wr hx (fun k e => by cases e; exact hz) zr, valOf_wr zr, ?_, ?_, fun _ => ?_, fun k hk => ?_, fun u hu => ?_, wk.2.2.2.2⟩
    · rw [cz, gz]
    · rw [cz, gz, ha]
    · rw [cz, gz]
    · rw [wk.1, gk]; exact List.mem_append.mpr (.inl hk)
    · rw [wr_isRef]
      refine isRef_of (fun k hk => by rw [gk]; exact List.mem_append.mpr (.inl hk)) (fun k hk => ?_) hu
      rw [gc k hk]; exact (m.old k hk).1

theorem ContF.contOk {c : Int × HS × List Val} {x n k : Int} (hB : B ≤ 900) (f : ContF B S H x n c) : ContOk c k := by
  have w : Wfs c.2.1 := f.ok.wfs (by lia)
  have hm := (w.valOf f.val).1
  refine ⟨hm, ?_, fun o ho => ?_, by have := f.len; lia⟩
  · have := f.ok.slotsLen hm; lia
  · exact f.ok.nr _ hm _ (vget_mem ho)

noncomputable def Deed.ok : Deed → Prop
  | .newArr a => 0 ≤ a ∧ a < 5
  | .newObj a => 0 ≤ a ∧ a < 5
  | .setInt a _ => 0 ≤ a ∧ a < 5
  | .assign a b => (0 ≤ a ∧ a < 5) ∧ (0 ≤ b ∧ b < 5)
  | .put a k b => (0 ≤ a ∧ a < 5) ∧ (0 ≤ k ∧ k < 3) ∧ (0 ≤ b ∧ b < 5)
  | .take a b k => (0 ≤ a ∧ a < 5) ∧ (0 ≤ b ∧ b < 5) ∧ (0 ≤ k ∧ k < 3)
  | .ref a b => (0 ≤ a ∧ a < 5) ∧ (0 ≤ b ∧ b < 5)
  | .unsetAt a k => (0 ≤ a ∧ a < 5) ∧ (0 ≤ k ∧ k < 3)
  | .unset a => 0 ≤ a ∧ a < 5

theorem Ok.addInt (o : Ok B H S) (k : Int) : Ok B H (.int k :: S) := by
  refine ⟨o.toGr, fun n hn => ?_, o.bnd, o.buf, o.col, fun n hn => ?_⟩
  · rw [o.cnt n hn, incS_cons]; simp
  · refine Rch.conv (T := Rch H (H.roots (.int k :: S))) o.cl (fun n r _ => ?_) (fun m n p hT hm hp e _ => .step hT hm hp e) (o.root n hn) hn
    exact .root (r.imp id fun r => r.imp (fun r => .tail _ r) id)

theorem Wfs.valOk (w : Wfs H) (x : Int) : (∀ k, H.valOf x = .cell k → k ∈ H.keys) ∧ H.isRef (H.valOf x) = false := by
  refine ⟨fun k e => (w.valOf e).1, ?_⟩
  cases q : H.valOf x with
  | int k => rfl
  | cell k => exact (w.valOf q).2

theorem Wfs.takeOk (w : Wfs H) (y k : Int) : (∀ j, H.takeVal y k = .cell j → j ∈ H.keys) ∧ H.isRef (H.takeVal y k) = false := by
  unfold HS.takeVal
  cases q : H.valOf y with
  | int z => exact ⟨fun _ e => (by cases e), rfl⟩
  | cell n =>
    have hn := (w.valOf q).1
    simp only
    cases q2 : vget (H.cell n).slots k with
    | none => exact ⟨fun _ e => (by simp [HS.inner, HS.isRef] at e), by simp [HS.inner, HS.isRef]⟩
    | some u =>
      have hu := w.nr n hn _ (vget_mem q2)
      rw [Option.getD_some, inner_no hu]
      exact ⟨fun j e => w.cl n hn _ (vget_mem q2) j e, hu⟩

theorem Ok.deed (o : Ok B H []) (hB : B ≤ 800) {D : Deed} (hD : D.ok) : Ok (B + 1) (H.deed D).1 (H.deed D).2 ∧ DeedOk H D ∧ (H.deed D).2.length ≤ 2 := by
  have w : Wfs H := o.wfs (by lia)
  have c0 : Cld H [] := fun n h => by cases h
  have none : ∀ D, (∀ x k y, D ≠ .put x k y) → (∀ x k, D ≠ .unsetAt x k) → (∀ x y, D ≠ .ref x y) → DeedOk H D := fun D a b c => ⟨fun x k y n e => absurd e (a x k y), fun x k n e => absurd e (b x k), fun x y e => absurd e (c x y)⟩
  have fix : ∀ {v : Val} {K : HS} {x : Int} {B' : Int}, Ok B' K [v] → (0 ≤ x ∧ x < 5) → (∀ n, v = .cell n → n ∈ K.keys) → K.isRef v = false → Ok B' (K.wr x v).1 (K.wr x v).2 := fun o hx a b => by
    have := o.wr hx a b
    simpa using this
  have wl : ∀ {v : Val} {K : HS} {x : Int}, (K.wr x v).2.length ≤ 2 := fun {v K x} => by have := (wr_keys K x v).2.2.2.2; lia
  have new : ∀ {s : Srt} {x : Int}, s ≠ .ref → (0 ≤ x ∧ x < 5) → Ok (B + 1) (H.dNew s x).1 (H.dNew s x).2 := fun {s x} hs hx => by
    have g := o.addGain c0 hs
    obtain ⟨_, gk, gc, gz⟩ := (made_addC H o.top s).gainF o.top
    exact fix g hx (fun k e => by cases e; rw [gk]; simp) (by simp [HS.isRef, gz]; exact fun _ => hs)
  cases D with
  | newArr a => exact ⟨new (by simp) hD, none _ (by simp) (by simp) (by simp), wl⟩
  | newObj a => exact ⟨new (by simp) hD, none _ (by simp) (by simp) (by simp), wl⟩
  | setInt a n => exact ⟨(fix (o.addInt n) hD (fun k e => by cases e) rfl).mono (by lia), none _ (by simp) (by simp) (by simp), wl⟩
  | assign a b =>
    have v := w.valOk b
    refine ⟨(fix (o.gain v.1) hD.1 (fun k e => ?_) ?_).mono (by lia), none _ (by simp) (by simp) (by simp), wl⟩
    · rw [gain_keys]; exact v.1 k e
    · rw [gain_isRef]; exact v.2
  | take a b k =>
    have v := w.takeOk b k
    refine ⟨(fix (o.gain v.1) hD.1 (fun k e => ?_) ?_).mono (by lia), none _ (by simp) (by simp) (by simp), wl⟩
    · rw [gain_keys]; exact v.1 _ e
    · rw [gain_isRef]; exact v.2
  | unset a =>
    refine ⟨?_, none _ (by simp) (by simp) (by simp), ?_⟩
    · show Ok (B + 1) (H.dUnset a).1 (H.dUnset a).2
      have := (o.delVar (x := a)).mono (B' := B + 1) (by lia)
      rw [List.append_nil] at this
      unfold HS.dUnset
      split
      · exact this
      · rename_i q
        have : olds H.vars a = [] := by
          unfold olds
          cases q2 : vget H.vars a with
          | none => rfl
          | some u => simp [q2] at q
        simp only [this]
        exact o.mono (by lia)
    · have := olds_length H.vars a
      show (olds H.vars a).length ≤ 2
      lia
  | ref a b =>
    obtain ⟨o1, hc, hl⟩ := o.refIn c0 hD.2
    refine ⟨?_, ⟨fun x k y n e => (by cases e), fun x k n e => (by cases e), fun x y e => (by cases e; exact hl)⟩, ?_⟩
    · have := (o1.gain hc).setVar hD.1 (fun k e => by rw [gain_keys]; exact hc k e)
      rw [List.append_nil] at this
      exact this
    · have := olds_length ((H.refIn b).1.gain (H.refIn b).2).vars a
      show (olds ((H.refIn b).1.gain (H.refIn b).2).vars a).length ≤ 2
      lia
  | put a k b =>
    have v := w.valOk b
    have og := o.gain v.1
    have cg : Cld (H.gain (H.valOf b)) [H.valOf b] := fun n h => by rw [gain_keys]; exact v.1 n (List.mem_singleton.mp h).symm
    have cf : ∀ n, H.valOf a = .cell n → ContF B [H.valOf b] (H.gain (H.valOf b)) a n ((H.gain (H.valOf b)).cont a n) := fun n q => og.cont (by lia) cg hD.1 (by rw [gain_valOf]; exact q)
    refine ⟨?_, ⟨fun x k y n e q => (by cases e; exact (cf n q).contOk (by lia)), fun x k n e => (by cases e), fun x y e => (by cases e)⟩, ?_⟩
    · show Ok (B + 1) (H.dPut a k b).1 (H.dPut a k b).2
      unfold HS.dPut
      cases q : H.valOf a with
      | int z => exact o.mono (by lia)
      | cell n =>
        have f := cf n q
        have w2 : Wfs ((H.gain (H.valOf b)).cont a n).2.1 := f.ok.wfs (by lia)
        have w3 := w2.valOf f.val
        have vk : ∀ j, H.valOf b = .cell j → j ∈ (H.gain (H.valOf b)).keys := fun j e => by rw [gain_keys]; exact v.1 j e
        have o2 : Ok (B + 1) ((H.gain (H.valOf b)).cont a n).2.1 (H.valOf b :: ((H.gain (H.valOf b)).cont a n).2.2) := f.ok.perm (List.perm_append_singleton _ _)
        have o3 := o2.setSl w3.1 hD.2.1 (fun hs => by have := w3.2; simp [HS.isRef, w3.1, hs] at this) (fun j e => f.keys j (vk j e)) (by rw [f.isr _ vk, gain_isRef]; exact v.2) (w2.vr f.val)
        exact o3.perm List.perm_append_comm
    · show (H.dPut a k b).2.length ≤ 2
      unfold HS.dPut
      cases q : H.valOf a with
      | int z => exact Nat.zero_le _
      | cell n =>
        have := (cf n q).len
        have := olds_length (((H.gain (H.valOf b)).cont a n).2.1.cell ((H.gain (H.valOf b)).cont a n).1).slots k
        simp only [List.length_append]
        lia
  | unsetAt a k =>
    have cf : ∀ n, H.valOf a = .cell n → ContF B [] H a n (H.cont a n) := fun n q => o.cont (by lia) c0 hD.1 q
    refine ⟨?_, ⟨fun x k y n e => (by cases e), fun x k n e q => (by cases e; exact (cf n q).contOk (by lia)), fun x y e => (by cases e)⟩, ?_⟩
    · show Ok (B + 1) (H.dUnsetAt a k).1 (H.dUnsetAt a k).2
      unfold HS.dUnsetAt
      cases q : H.valOf a with
      | int z => exact o.mono (by lia)
      | cell n =>
        have f := cf n q
        have w2 : Wfs (H.cont a n).2.1 := f.ok.wfs (by lia)
        have w3 := w2.valOf f.val
        have o2 : Ok (B + 1) (H.cont a n).2.1 (H.cont a n).2.2 := by simpa using f.ok
        have o3 := o2.delSl (k := k) w3.1 (fun hs => by have := w3.2; simp [HS.isRef, w3.1, hs] at this) (w2.vr f.val)
        simp only
        split
        · exact o3.perm List.perm_append_comm
        · rename_i q2
          have : olds ((H.cont a n).2.1.cell (H.cont a n).1).slots k = [] := by
            unfold olds
            cases q3 : vget ((H.cont a n).2.1.cell (H.cont a n).1).slots k with
            | none => rfl
            | some u => simp [q3] at q2
          rw [this, List.append_nil]
          exact o2
    · show (H.dUnsetAt a k).2.length ≤ 2
      unfold HS.dUnsetAt
      cases q : H.valOf a with
      | int z => exact Nat.zero_le _
      | cell n =>
        have := (cf n q).len
        have := olds_length ((H.cont a n).2.1.cell (H.cont a n).1).slots k
        simp only [List.length_append]
        lia
end
end Gc
end
/- GcD8 -/
section
namespace Gc

noncomputable def VE (E : Int → Int → Prop) : Val → Val → Prop
  | .int a, .int b => a = b
  | .cell a, .cell b => E a b
  | _, _ => False
inductive LR (E : Int → Int → Prop) : List (Int × Val) → List (Int × Val) → Prop
  | nil : LR E [] []
  | cons {k : Int} {v u : Val} {l r : List (Int × Val)} : VE E v u → LR E l r → LR E ((k, v) :: l) ((k, u) :: r)

structure Bis (E : Int → Int → Prop) (H H' : HS) : Prop where
  vars : LR E H.vars H'.vars
  cell : ∀ a b, E a b → a ∈ H.keys ∧ b ∈ H'.keys ∧ (H.cell a).sort = (H'.cell b).sort ∧ LR E (H.cell a).slots (H'.cell b).slots
  inj : ∀ a b b', E a b → E a b' → (H.cell a).sort ≠ .arr → b = b'
  inj' : ∀ a a' b, E a b → E a' b → (H.cell a).sort ≠ .arr → a = a'
noncomputable def Sim (H H' : HS) : Prop := ∃ E, Bis E H H'

section
variable {E E' : Int → Int → Prop} {l r : List (Int × Val)} {v u : Val} {k : Int}

theorem VE.flip (h : VE E v u) : VE (fun a b => E b a) u v := by
  cases v <;> cases u
  · exact Eq.symm h
  · exact h.elim
  · exact h.elim
  · exact h
theorem VE.imp (h : VE E v u) (f : ∀ a b, v = .cell a → u = .cell b → E a b → E' a b) : VE E' v u := by
  cases v <;> cases u
  · exact h
  · exact h.elim
  · exact h.elim
  · exact f _ _ rfl rfl h
theorem LR.flip (h : LR E l r) : LR (fun a b => E b a) r l := by
  induction h with
  | nil => exact .nil
  | cons v _ ih => exact .cons v.flip ih
theorem LR.imp (h : LR E l r) (f : ∀ p ∈ l, ∀ q ∈ r, p.1 = q.1 → ∀ a b, p.2 = .cell a → q.2 = .cell b → E a b → E' a b) : LR E' l r := by
  induction h with
  | nil => exact .nil
  | cons v _ ih => exact .cons (v.imp fun a b e e' => f _ (.head _) _ (.head _) rfl a b e e') (ih fun p hp q hq => f p (.tail _ hp) q (.tail _ hq))
theorem LR.mono (h : LR E l r) (f : ∀ a b, E a b → E' a b) : LR E' l r := h.imp fun _ _ _ _ _ a b _ _ => f a b
theorem LR.get (h : LR E l r) (k : Int) : (vget l k = none ∧ vget r k = none) ∨ ∃ v u, vget l k = some v ∧ vget r k = some u ∧ VE E v u := by
  induction h with
  | nil => exact .inl ⟨rfl, rfl⟩
  | @cons j v u l r hv _ ih =>
    by_cases q : j = k
    · subst q; exact .inr ⟨v, u, vget_cons_eq, vget_cons_eq, hv⟩
    · rw [vget_cons_ne (by exact q), vget_cons_ne (by exact q)]; exact ih
theorem LR.set (h : LR E l r) (k : Int) (hv : VE E v u) : LR E (vset l k v) (vset r k u) := by
  have hm : ∀ {l r : List (Int × Val)}, LR E l r → LR E (l.map fun p => if p.1 = k then (p.1, v) else p) (r.map fun p => if p.1 = k then (p.1, u) else p) := by
    intro l r h
    induction h with
    | nil => exact .nil
    | @cons j a b l r hab _ ih =>
      rw [List.map_cons, List.map_cons]
      by_cases q : j = k
      · simp only [q, if_true]; exact .cons hv ih
      · simp only [q, if_false]; exact .cons hab ih
  have ha : ∀ {l r : List (Int × Val)}, LR E l r → LR E (l ++ [(k, v)]) (r ++ [(k, u)]) := by
    intro l r h
    induction h with
    | nil => exact .cons hv .nil
    | cons hab _ ih => exact .cons hab ih
  have e : l.any (fun p => decide (p.1 = k)) = r.any (fun p => decide (p.1 = k)) := by
    rw [any_key, any_key]
    rcases h.get k with ⟨a, b⟩ | ⟨_, _, a, b, _⟩ <;> rw [a, b] <;> rfl
  unfold vset
  rw [e]
  split
  · exact hm h
  · exact ha h
theorem LR.del (h : LR E l r) (k : Int) : LR E (vdel l k) (vdel r k) := by
  unfold vdel
  induction h with
  | nil => exact .nil
  | @cons j a b l r hab _ ih =>
    by_cases q : j = k
    · rw [List.filter_cons_of_neg (by simpa using q), List.filter_cons_of_neg (by simpa using q)]; exact ih
    · rw [List.filter_cons_of_pos (by simpa using q), List.filter_cons_of_pos (by simpa using q)]; exact .cons hab ih
theorem LR.length (h : LR E l r) : l.length = r.length := by
  induction h with
  | nil => rfl
  | cons _ _ ih => rw [List.length_cons, List.length_cons, ih]
end

section
variable {E : Int → Int → Prop} {B B' : Int} {H H' K K' : HS} {S S' : List Val} {v u : Val}

theorem Bis.flip (b : Bis E H H') : Bis (fun a b => E b a) H' H where
  vars := b.vars.flip
  cell p q h := let ⟨a, c, d, e⟩ := b.cell q p h; ⟨c, a, d.symm, e.flip⟩
  inj p q q' h h' hs := b.inj' q q' p h h' (by rw [(b.cell q p h).2.2.1]; exact hs)
  inj' p p' q h h' hs := b.inj q p p' h h' (by rw [(b.cell q p h).2.2.1]; exact hs)

theorem Bis.isRef (b : Bis E H H') (h : VE E v u) : H.isRef v = H'.isRef u := by
  cases v <;> cases u
  · rfl
  · exact h.elim
  · exact h.elim
  · obtain ⟨x, y, z, _⟩ := b.cell _ _ h
    simp only [HS.isRef, x, y, z]

theorem Bis.inner (b : Bis E H H') (h : VE E v u) : VE E (H.inner v) (H'.inner u) := by
  unfold HS.inner
  rw [← b.isRef h]
  split
  · cases v <;> cases u
    · exact h
    · exact h.elim
    · exact h.elim
    · obtain ⟨x, y, z, w⟩ := b.cell _ _ h
      rcases w.get 0 with ⟨p, q⟩ | ⟨_, _, p, q, e⟩
      · simp only [p, q]; exact rfl
      · simp only [p, q]; exact e
  · exact h

theorem Bis.var (b : Bis E H H') (x : Int) : VE E ((vget H.vars x).getD (.int 0)) ((vget H'.vars x).getD (.int 0)) := by
  rcases b.vars.get x with ⟨p, q⟩ | ⟨_, _, p, q, e⟩
  · rw [p, q]; exact rfl
  · rw [p, q]; exact e
theorem Bis.valOf (b : Bis E H H') (x : Int) : VE E (H.valOf x) (H'.valOf x) := b.inner (b.var x)
theorem Bis.takeVal (b : Bis E H H') (x k : Int) : VE E (H.takeVal x k) (H'.takeVal x k) := by
  have h := b.valOf x
  unfold HS.takeVal
  generalize H.valOf x = v at h
  generalize H'.valOf x = u at h
  cases v <;> cases u
  · exact rfl
  · exact h.elim
  · exact h.elim
  · obtain ⟨_, _, _, w⟩ := b.cell _ _ h
    rcases w.get k with ⟨p, q⟩ | ⟨_, _, p, q, e⟩
    · simp only [p, q]; exact b.inner (show VE E (.int 0) (.int 0) from rfl)
    · simp only [p, q]; exact b.inner e

theorem Bis.same (b : Bis E H H') (s : SameG H K) : Bis E K H' where
  vars := by rw [s.vars]; exact b.vars
  cell p q h := by rw [s.keys, (s.cell p).1, (s.cell p).2]; exact b.cell p q h
  inj p q q' h h' hs := b.inj p q q' h h' (by rw [← (s.cell p).1]; exact hs)
  inj' p p' q h h' hs := b.inj' p p' q h h' (by rw [← (s.cell p).1]; exact hs)
theorem Bis.same' (b : Bis E H H') (s : SameG H' K') : Bis E H K' := (b.flip.same s).flip

theorem Bis.shr (b : Bis E H H') (ev : K.vars = H.vars) (ec : ∀ n ∈ K.keys, (K.cell n).sort = (H.cell n).sort ∧ (K.cell n).slots = (H.cell n).slots) (g : Gr B K) : Bis (fun p q => E p q ∧ p ∈ K.keys) K H' where
  vars := by rw [ev]; exact b.vars.imp fun p hp _ _ _ c d e _ h => ⟨h, g.clv p (by rw [ev]; exact hp) c e⟩
  cell p q h := by
    obtain ⟨x, y, z, w⟩ := b.cell p q h.1
    rw [(ec p h.2).1, (ec p h.2).2]
    exact ⟨h.2, y, z, w.imp fun s hs _ _ _ c d e _ h' => ⟨h', g.cl p h.2 s (by rw [(ec p h.2).2]; exact hs) c e⟩⟩
  inj p q q' h h' hs := b.inj p q q' h.1 h'.1 (by rw [← (ec p h.2).1]; exact hs)
  inj' p p' q h h' hs := b.inj' p p' q h.1 h'.1 (by rw [← (ec p h.2).1]; exact hs)

theorem Sim.flip (s : Sim H H') : Sim H' H := let ⟨_, b⟩ := s; ⟨_, b.flip⟩
theorem Sim.shr (s : Sim H H') (h : Shr H K) (g : Gr B K) : Sim K H' := let ⟨_, b⟩ := s; ⟨_, b.shr h.vars h.cell g⟩
theorem Sim.shr' (s : Sim H H') (h : Shr H' K') (g : Gr B K') : Sim H K' := (s.flip.shr h g).flip

theorem Bis.copied (b : Bis E H H') (ht : ∀ k ∈ H.keys, k ≤ H.last) {n : Int} (hn : n ∈ H.keys) (ha : (H.cell n).sort = .arr) (m : Made H .arr (H.cell n).slots K) : Bis (fun p q => E p q ∨ (p = H.last + 1 ∧ E n q)) K H' where
  vars := by rw [m.vars]; exact b.vars.mono fun _ _ => .inl
  cell p q h := by
    rcases h with h | ⟨h, h'⟩
    · obtain ⟨x, y, z, w⟩ := b.cell p q h
      rw [(m.old p x).1, (m.old p x).2.1, m.keys]
      exact ⟨List.mem_append.mpr (.inl x), y, z, w.mono fun _ _ => .inl⟩
    · obtain ⟨x, y, z, w⟩ := b.cell n q h'
      rw [h, m.made, m.keys]
      exact ⟨by simp, y, ha ▸ z, w.mono fun _ _ => .inl⟩
  inj p q q' h h' hs := by
    rcases h with h | ⟨h, _⟩
    · have hp := (b.cell p q h).1
      rcases h' with h' | ⟨h', _⟩
      · exact b.inj p q q' h h' (by rw [← (m.old p hp).1]; exact hs)
      · have := ht p hp; lia
    · rw [h, m.made] at hs; exact absurd rfl hs
  inj' p p' q h h' hs := by
    rcases h with h | ⟨h, _⟩
    · have hp := b.cell p q h
      rcases h' with h' | ⟨_, h'⟩
      · exact b.inj' p p' q h h' (by rw [← (m.old p hp.1).1]; exact hs)
      · rw [(m.old p hp.1).1, hp.2.2.1, ← (b.cell n q h').2.2.1, ha] at hs; exact absurd rfl hs
    · rw [h, m.made] at hs; exact absurd rfl hs

theorem Bis.added (b : Bis E H H') {z z' : Int} {s : Srt} {l l' : List (Int × Val)} (hz : z ∉ H.keys) (hz' : z' ∉ H'.keys) (ek : K.keys = H.keys ++ [z]) (ek' : K'.keys = H'.keys ++ [z']) (ev : K.vars = H.vars) (ev' : K'.vars = H'.vars)
    (ec : ∀ n ∈ H.keys, (K.cell n).sort = (H.cell n).sort ∧ (K.cell n).slots = (H.cell n).slots) (ec' : ∀ n ∈ H'.keys, (K'.cell n).sort = (H'.cell n).sort ∧ (K'.cell n).slots = (H'.cell n).slots)
    (ez : (K.cell z).sort = s ∧ (K.cell z).slots = l) (ez' : (K'.cell z').sort = s ∧ (K'.cell z').slots = l') (hl : LR E l l') : Bis (fun p q => E p q ∨ (p = z ∧ q = z')) K K' where
  vars := by rw [ev, ev']; exact b.vars.mono fun _ _ => .inl
  cell p q h := by
    rw [ek, ek']
    rcases h with h | ⟨rfl, rfl⟩
    · obtain ⟨x, y, t, w⟩ := b.cell p q h
      rw [(ec p x).1, (ec p x).2, (ec' q y).1, (ec' q y).2]
      exact ⟨List.mem_append.mpr (.inl x), List.mem_append.mpr (.inl y), t, w.mono fun _ _ => .inl⟩
    · rw [ez.1, ez.2, ez'.1, ez'.2]
      exact ⟨by simp, by simp, rfl, hl.mono fun _ _ => .inl⟩
  inj p q q' h h' hs := by
    rcases h with h | ⟨rfl, rfl⟩
    · have hp := b.cell p q h
      rcases h' with h' | ⟨rfl, rfl⟩
      · exact b.inj p q q' h h' (by rw [← (ec p hp.1).1]; exact hs)
      · exact absurd hp.1 hz
    · rcases h' with h' | ⟨_, rfl⟩
      · exact absurd (b.cell _ _ h').1 hz
      · rfl
  inj' p p' q h h' hs := by
    rcases h with h | ⟨rfl, rfl⟩
    · have hp := b.cell p q h
      rcases h' with h' | ⟨rfl, rfl⟩
      · exact b.inj' p p' q h h' (by rw [← (ec p hp.1).1]; exact hs)
      · exact absurd hp.2.1 hz'
    · rcases h' with h' | ⟨rfl, _⟩
      · exact absurd (b.cell _ _ h').2.1 hz'
      · rfl

theorem Bis.setVars (b : Bis E H H') {l l' : List (Int × Val)} (h : LR E l l') : Bis E { H with vars := l } { H' with vars := l' } := ⟨h, b.cell, b.inj, b.inj'⟩

theorem Bis.setSlots (b : Bis E H H') {a c : Int} (hac : E a c) {l l' : List (Int × Val)} (hv : LR (fun p q => E p q ∧ (p = a ↔ q = c)) H.vars H'.vars)
    (hs : ∀ p q, E p q → p ≠ a → q ≠ c → LR (fun p q => E p q ∧ (p = a ↔ q = c)) (H.cell p).slots (H'.cell q).slots) (hl : LR (fun p q => E p q ∧ (p = a ↔ q = c)) l l') :
    Bis (fun p q => E p q ∧ (p = a ↔ q = c)) (H.setC a { H.cell a with slots := l }) (H'.setC c { H'.cell c with slots := l' }) where
  vars := hv
  cell p q h := by
    obtain ⟨x, y, t, w⟩ := b.cell p q h.1
    by_cases e : p = a
    · have e' := h.2.mp e
      subst e e'
      rw [HS.setC_same, HS.setC_same]
      exact ⟨x, y, t, hl⟩
    · have e' : q ≠ c := fun q => e (h.2.mpr q)
      rw [HS.setC_ne _ _ e, HS.setC_ne _ _ e']
      exact ⟨x, y, t, hs p q h.1 e e'⟩
  inj p q q' h h' hs := b.inj p q q' h.1 h'.1 (by
    by_cases e : p = a
    · subst e; rw [HS.setC_same] at hs; exact hs
    · rw [HS.setC_ne _ _ e] at hs; exact hs)
  inj' p p' q h h' hs := b.inj' p p' q h.1 h'.1 (by
    by_cases e : p = a
    · subst e; rw [HS.setC_same] at hs; exact hs
    · rw [HS.setC_ne _ _ e] at hs; exact hs)

theorem Bis.setOne (b : Bis E H H') {a c : Int} (hac : E a c) (ha : (H.cell a).sort ≠ .arr) {l l' : List (Int × Val)} (hl : LR E l l') : Bis E (H.setC a { H.cell a with slots := l }) (H'.setC c { H'.cell c with slots := l' }) := by
  have key : ∀ p q, E p q → E p q ∧ (p = a ↔ q = c) := fun p q h => ⟨h, fun e => by subst e; exact b.inj _ _ _ h hac ha, fun e => by subst e; exact (b.inj' _ _ _ hac h ha).symm⟩
  have := b.setSlots hac (l := l) (l' := l') (b.vars.mono key) (fun p q h _ _ => (b.cell p q h).2.2.2.mono key) (hl.mono key)
  exact ⟨this.vars.mono fun _ _ h => h.1, fun p q h => let ⟨x, y, t, w⟩ := this.cell p q (key p q h); ⟨x, y, t, w.mono fun _ _ h => h.1⟩, fun p q q' h h' => this.inj p q q' (key _ _ h) (key _ _ h'), fun p p' q h h' => this.inj' p p' q (key _ _ h) (key _ _ h')⟩

theorem Bis.wr (b : Bis E H H') (x : Int) (h : VE E v u) : Bis E (H.wr x v).1 (H'.wr x u).1 := by
  have plain : Bis E (H.setVar x v) (H'.setVar x u) := b.setVars (b.vars.set x h)
  unfold HS.wr
  rcases b.vars.get x with ⟨p, q⟩ | ⟨s, t, p, q, e⟩
  · simp only [p, q]; exact plain
  · cases s <;> cases t
    · simp only [p, q]; exact plain
    · exact e.elim
    · exact e.elim
    · rename_i n n'
      simp only [p, q]
      rw [← b.isRef e]
      split
      · rename_i hr
        simp [HS.isRef] at hr
        exact b.setOne e (by rw [hr.2]; simp) ((b.cell _ _ e).2.2.2.set 0 h)
      · exact plain
end
end Gc
end
/- GcD9 -/
section
namespace Gc

theorem inc_one {l : List (Int × Val)} {x a : Int} {p : Int × Val} (h : vget l x = some (.cell a)) (hi : inc a l ≤ 1) (hp : p ∈ l) (e : p.2 = .cell a) : p.1 = x := by
  obtain ⟨pre, r, el⟩ := List.append_of_mem (vget_mem h)
  rw [el, inc_append, inc_cons] at hi
  simp only [if_true] at hi
  rw [el] at hp
  rcases List.mem_append.mp hp with q | q
  · have := inc_pos q e; lia
  · rcases List.mem_cons.mp q with q | q
    · rw [q]
    · have := inc_pos q e; lia

theorem vget_of_mem {l : List (Int × Val)} {p : Int × Val} (hn : (l.map (·.1)).Nodup) (h : p ∈ l) : vget l p.1 = some p.2 := by
  obtain ⟨pre, r, e⟩ := List.append_of_mem h
  rw [e] at hn ⊢
  exact vget_mid hn

theorem vset_id {l : List (Int × Val)} {x : Int} {v : Val} (hn : (l.map (·.1)).Nodup) (h : vget l x = some v) : vset l x v = l := by
  unfold vset
  rw [any_key, h]
  simp only [Option.isSome_some, if_true]
  have : ∀ p ∈ l, (if p.1 = x then (p.1, v) else p) = p := fun p hp => by
    split
    · rename_i e
      have := vget_of_mem hn hp
      rw [e, h] at this
      cases this
      rfl
    · rfl
  rw [List.map_congr_left this]; simp

section
variable {E : Int → Int → Prop} {B B' : Int} {H H' K K' : HS} {S S' : List Val} {v u : Val}

theorem wr_id (w : Wfs H) (hvn : (H.vars.map (·.1)).Nodup) {x n : Int} (h : H.valOf x = .cell n) : SameG (H.wr x (.cell n)).1 H := by
  rcases w.place h with ⟨a, q⟩ | ⟨r, hr, a, q, s, _⟩
  · have e : H.wr x (.cell n) = (H.setVar x (.cell n), [.cell n]) := by simp [HS.wr, a, q]
    rw [e]
    have : H.setVar x (.cell n) = H := by unfold HS.setVar; rw [vset_id hvn a]
    rw [this]; exact .refl
  · have e : H.wr x (.cell n) = (H.setSl r 0 (.cell n), olds (H.cell r).slots 0) := by simp [HS.wr, a, q]
    rw [e]
    refine ⟨rfl, rfl, rfl, rfl, rfl, fun k => ⟨((setSl_cell H r 0 _ k).1).symm, ?_⟩⟩
    by_cases q : k = r
    · subst q; unfold HS.setSl; rw [HS.setC_same, s]; simp [vset]
    · rw [(setSl_cell H r 0 _ k).2 q]

theorem Bis.cont (b : Bis E H H') (o : Ok B H S) (o' : Ok B' H' S') (hB : B ≤ 900) (hB' : B' ≤ 900) {x n : Int} (h : H.valOf x = .cell n) : ∃ E1, (∀ p q, E p q → E1 p q) ∧ Bis E1 (H.cont x n).2.1 H' := by
  have w : Wfs H := o.wfs (by lia)
  have w' : Wfs H' := o'.wfs (by lia)
  obtain ⟨hn, hnr⟩ := w.valOf h
  unfold HS.cont
  split
  · exact ⟨E, fun _ _ h => h, b⟩
  · rename_i hc
    have ha : (H.cell n).sort = .arr := by
      cases q : (H.cell n).sort with
      | arr => rfl
      | obj => exact absurd (.inl q) hc
      | ref => simp [HS.isRef, hn, q] at hnr
    have hv := b.valOf x
    rw [h] at hv
    cases q : H'.valOf x with
    | int z => rw [q] at hv; exact hv.elim
    | cell n' =>
      rw [q] at hv
      have m := made_copied o.top (o.snd n hn).1 (o.cl n hn)
      have b1 := (b.copied o.top hn ha m).same (gain_same _ (.cell (H.last + 1)))
      have b2 := (b1.wr x (v := .cell (H.last + 1)) (u := .cell n') (.inr ⟨rfl, hv⟩)).same' (wr_id w' o'.vnd.1 q)
      exact ⟨_, fun _ _ => .inl, b2⟩

structure Sole (H : HS) (S : List Val) (x a : Int) : Prop where
  var : ∀ p ∈ H.vars, p.2 = .cell a → p.1 = x
  slot : ∀ m ∈ H.keys, ∀ p ∈ (H.cell m).slots, p.2 = .cell a → vget H.vars x = some (.cell m) ∧ H.isRef (.cell m) = true
  pend : .cell a ∉ S

theorem Ok.sole (o : Ok B H S) (w : Wfs H) {x a : Int} (h : H.valOf x = .cell a) (hc : (H.cell a).count = 1) : Sole H S x a := by
  have hk := (w.valOf h).1
  have e := o.cnt a hk
  rw [hc] at e
  have e2 : inc a H.vars + ksum (fun m => inc a (H.cell m).slots) H.keys + incS a S = 1 := by unfold HS.refs at e; lia
  have hs : ∀ m ∈ H.keys, ∀ p ∈ (H.cell m).slots, p.2 = .cell a → 0 < ksum (fun m => inc a (H.cell m).slots) H.keys := fun m hm p hp ep => by
    have h1 := inc_pos hp ep
    have h2 := ksum_ge (f := fun m => inc a (H.cell m).slots) hm
    lia
  rcases w.place h with ⟨q, _⟩ | ⟨r, hr, q, q2, q3, _⟩
  · have h1 := inc_pos (vget_mem q) rfl
    exact ⟨fun p hp ep => inc_one q (by lia) hp ep, fun m hm p hp ep => by have := hs m hm p hp ep; lia, fun hp => by have := incS_pos hp; lia⟩
  · have h1 := hs r hr (0, .cell a) (by rw [q3]; simp) rfl
    refine ⟨fun p hp ep => by have := inc_pos hp ep; lia, fun m hm p hp ep => ?_, fun hp => by have := incS_pos hp; lia⟩
    by_cases qm : m = r
    · subst qm; exact ⟨q, q2⟩
    · have h2 := inc_pos hp ep
      have h3 : inc a (H.cell r).slots = 1 := by rw [q3, inc_cons]; simp [inc]
      have h4 := ksum_del (f := fun m => inc a (H.cell m).slots) o.nd hr
      have h5 := ksum_ge (f := fun m => inc a (H.cell m).slots) (n := m) (ks := H.keys.filter fun k => decide (k ≠ r)) (List.mem_filter.mpr ⟨hm, by simpa using qm⟩)
      lia

theorem sole_var (b : Bis E H H') (n' : (H'.vars.map (·.1)).Nodup) {x a c : Int} (s : Sole H S x a) (hr : H.isRef (.cell a) = false) (h' : H'.valOf x = .cell c) {p q : Int × Val} (hp : p ∈ H.vars) (hq : q ∈ H'.vars) (e : p.1 = q.1) {d : Int} (ep : p.2 = .cell a) (eq : q.2 = .cell d) (hE : E a d) : d = c := by
  have h1 := s.var p hp ep
  have h2 := vget_of_mem n' hq
  rw [← e, h1, eq] at h2
  unfold HS.valOf at h'
  rw [h2, Option.getD_some, inner_no (by rw [← b.isRef (v := .cell a) (u := .cell d) hE]; exact hr)] at h'
  cases h'; rfl

theorem sole_slot (b : Bis E H H') (w' : Wfs H') {x a c : Int} (s : Sole H S x a) (h' : H'.valOf x = .cell c) {m m' : Int} (hm : E m m') {p q : Int × Val} (hp : p ∈ (H.cell m).slots) (hq : q ∈ (H'.cell m').slots) {d : Int} (ep : p.2 = .cell a) (eq : q.2 = .cell d) : d = c := by
  obtain ⟨k1, k2, hs, hl⟩ := b.cell m m' hm
  have h1 := s.slot m k1 p hp ep
  have hsr : (H.cell m).sort = .ref := by have := h1.2; simp [HS.isRef] at this; exact this.2
  rcases b.vars.get x with ⟨y, _⟩ | ⟨y, z, e1, e2, e3⟩
  · rw [h1.1] at y; cases y
  · rw [h1.1] at e1; cases e1
    cases z with
    | int k => exact e3.elim
    | cell m2 =>
      have := b.inj m m2 m' e3 hm (by rw [hsr]; simp)
      subst this
      have hr2 : H'.isRef (.cell m2) = true := by rw [← b.isRef (v := .cell m) (u := .cell m2) hm]; exact h1.2
      obtain ⟨w, ew⟩ := w'.ref m2 k2 (by rw [← hs]; exact hsr)
      unfold HS.valOf at h'
      rw [e2, Option.getD_some] at h'
      unfold HS.inner at h'
      rw [hr2, if_pos rfl] at h'
      simp only [ew, vget, List.find?_cons, decide_true, Option.map_some, Option.getD_some] at h'
      rw [ew] at hq
      rw [List.mem_singleton.mp hq] at eq
      simp only at eq
      rw [eq] at h'
      cases h'; rfl

theorem Bis.setCont (b : Bis E H H') (o : Ok B H S) (o' : Ok B' H' S') (hB : B ≤ 1000) (hB' : B' ≤ 1000) {x a c : Int} (h : H.valOf x = .cell a) (h' : H'.valOf x = .cell c) (h1 : (H.cell a).sort = .arr → (H.cell a).count = 1) (h1' : (H'.cell c).sort = .arr → (H'.cell c).count = 1)
    {l l' : List (Int × Val)} (hl : LR E l l') (hm : ∀ p ∈ l, p ∈ (H.cell a).slots ∨ p.2 ∈ S) (hm' : ∀ p ∈ l', p ∈ (H'.cell c).slots ∨ p.2 ∈ S') : Sim (H.setC a { H.cell a with slots := l }) (H'.setC c { H'.cell c with slots := l' }) := by
  have w : Wfs H := o.wfs hB
  have w' : Wfs H' := o'.wfs hB'
  have hac : E a c := by have := b.valOf x; rw [h, h'] at this; exact this
  obtain ⟨ka, kc, hs, hl0⟩ := b.cell a c hac
  by_cases q : (H.cell a).sort = .arr
  · have s := o.sole w h (h1 q)
    have s' := o'.sole w' h' (h1' (hs ▸ q))
    have hr : H.isRef (.cell a) = false := (w.valOf h).2
    have hr' : H'.isRef (.cell c) = false := (w'.valOf h').2
    refine ⟨_, b.setSlots hac (l := l) (l' := l') ?_ (fun p q hpq _ _ => ?_) ?_⟩
    · refine b.vars.imp fun p hp q hq e y z ep eq hE => ⟨hE, fun ey => ?_, fun ez => ?_⟩
      · subst ey; exact sole_var b o'.vnd.1 s hr h' hp hq e ep eq hE
      · subst ez; exact sole_var b.flip o.vnd.1 s' hr' h hq hp e.symm eq ep hE
    · refine (b.cell p q hpq).2.2.2.imp fun t ht t' ht' e y z ep eq hE => ⟨hE, fun ey => ?_, fun ez => ?_⟩
      · subst ey; exact sole_slot b w' s h' hpq ht ht' ep eq
      · subst ez; exact sole_slot b.flip w s' h (m := q) (m' := p) hpq ht' ht eq ep
    · refine hl.imp fun t ht t' ht' e y z ep eq hE => ⟨hE, fun ey => ?_, fun ez => ?_⟩
      · subst ey
        rcases hm t ht with i | i
        · have := s.slot _ ka t i ep
          have h2 := this.2
          rw [hr] at h2; cases h2
        · rw [ep] at i; exact absurd i s.pend
      · subst ez
        rcases hm' t' ht' with i | i
        · have := s'.slot _ kc t' i eq
          have h2 := this.2
          rw [hr'] at h2; cases h2
        · rw [eq] at i; exact absurd i s'.pend
  · exact ⟨E, b.setOne hac q hl⟩

theorem Sim.deed (s : Sim H H') (o : Ok B H []) (o' : Ok B' H' []) (hB : B ≤ 800) (hB' : B' ≤ 800) {D : Deed} (hD : D.ok) : Sim (H.deed D).1 (H'.deed D).1 := by
  obtain ⟨E, b⟩ := s
  have w : Wfs H := o.wfs (by lia)
  have w' : Wfs H' := o'.wfs (by lia)
  have c0 : Cld H [] := fun n h => by cases h
  have c0' : Cld H' [] := fun n h => by cases h
  have nz : H.last + 1 ∉ H.keys := fun q => by have := o.top _ q; lia
  have nz' : H'.last + 1 ∉ H'.keys := fun q => by have := o'.top _ q; lia
  have new : ∀ s x, Sim (H.dNew s x).1 (H'.dNew s x).1 := fun s x => by
    have ac := addC_cell H s
    have ac' := addC_cell H' s
    have b1 := b.added (K := H.addC s) (K' := H'.addC s) (s := s) (l := []) (l' := []) nz nz' rfl rfl rfl rfl (fun n hn => by rw [ac.2 n fun e => nz (e ▸ hn)]; exact ⟨rfl, rfl⟩) (fun n hn => by rw [ac'.2 n fun e => nz' (e ▸ hn)]; exact ⟨rfl, rfl⟩) (by rw [ac.1]; exact ⟨rfl, rfl⟩) (by rw [ac'.1]; exact ⟨rfl, rfl⟩) .nil
    exact ⟨_, ((b1.same (gain_same _ (.cell (H.last + 1)))).same' (gain_same _ (.cell (H'.last + 1)))).wr x (v := .cell (H.last + 1)) (u := .cell (H'.last + 1)) (.inr ⟨rfl, rfl⟩)⟩
  cases D with
  | newArr a => exact new .arr a
  | newObj a => exact new .obj a
  | setInt a n => exact ⟨E, b.wr a (v := .int n) (u := .int n) rfl⟩
  | assign a c => exact ⟨E, ((b.same (gain_same _ _)).same' (gain_same _ _)).wr a (b.valOf c)⟩
  | take a c k => exact ⟨E, ((b.same (gain_same _ _)).same' (gain_same _ _)).wr a (b.takeVal c k)⟩
  | unset a =>
    refine ⟨E, ?_⟩
    show Bis E (H.dUnset a).1 (H'.dUnset a).1
    unfold HS.dUnset
    rcases b.vars.get a with ⟨p, q⟩ | ⟨_, _, p, q, _⟩
    · simp only [p, q]; exact b
    · simp only [p, q]; exact b.setVars (b.vars.del a)
  | ref a c =>
    show Sim (H.dRef a c).1 (H'.dRef a c).1
    have fin : ∀ (E2 : Int → Int → Prop), Bis E2 (H.refIn c).1 (H'.refIn c).1 → VE E2 (H.refIn c).2 (H'.refIn c).2 → Sim (H.dRef a c).1 (H'.dRef a c).1 := fun E2 b2 hv => by
      have b3 := (b2.same (gain_same _ (H.refIn c).2)).same' (gain_same _ (H'.refIn c).2)
      exact ⟨E2, b3.setVars (b3.vars.set a hv)⟩
    have hv := b.var c
    have hr := b.isRef hv
    cases q : H.isRef ((vget H.vars c).getD (.int 0)) with
    | true =>
      have q' := q
      rw [hr] at q'
      have e : H.refIn c = (H, (vget H.vars c).getD (.int 0)) := if_pos q
      have e' : H'.refIn c = (H', (vget H'.vars c).getD (.int 0)) := if_pos q'
      exact fin E (by rw [e, e']; exact b) (by rw [e, e']; exact hv)
    | false =>
      have q' := q
      rw [hr] at q'
      have e : H.refIn c = ((((H.addC .ref).setSl (H.last + 1) 0 ((vget H.vars c).getD (.int 0))).gain (.cell (H.last + 1))).setVar c (.cell (H.last + 1)), .cell (H.last + 1)) := if_neg (by rw [q]; simp)
      have e' : H'.refIn c = ((((H'.addC .ref).setSl (H'.last + 1) 0 ((vget H'.vars c).getD (.int 0))).gain (.cell (H'.last + 1))).setVar c (.cell (H'.last + 1)), .cell (H'.last + 1)) := if_neg (by rw [q']; simp)
      generalize (vget H.vars c).getD (.int 0) = v at *
      generalize (vget H'.vars c).getD (.int 0) = u at *
      have oldc : ∀ (H : HS) (v : Val), H.last + 1 ∉ H.keys → ∀ n ∈ H.keys, ((((H.addC .ref).setSl (H.last + 1) 0 v)).cell n).sort = (H.cell n).sort ∧ ((((H.addC .ref).setSl (H.last + 1) 0 v)).cell n).slots = (H.cell n).slots := fun H v nz n hn => by
        have ne : n ≠ H.last + 1 := fun e => nz (e ▸ hn)
        rw [(setSl_cell _ _ _ _ n).2 ne, (addC_cell H .ref).2 n ne]; exact ⟨rfl, rfl⟩
      have newc : ∀ (H : HS) (v : Val), ((((H.addC .ref).setSl (H.last + 1) 0 v)).cell (H.last + 1)).sort = .ref ∧ ((((H.addC .ref).setSl (H.last + 1) 0 v)).cell (H.last + 1)).slots = [(0, v)] := fun H v => by
        unfold HS.setSl; rw [HS.setC_same, (addC_cell H .ref).1]; exact ⟨rfl, rfl⟩
      have b1 := b.added (K := (H.addC .ref).setSl (H.last + 1) 0 v) (K' := (H'.addC .ref).setSl (H'.last + 1) 0 u) (s := .ref) (l := [(0, v)]) (l' := [(0, u)]) nz nz' rfl rfl rfl rfl (oldc H v nz) (oldc H' u nz') (newc H v) (newc H' u) (.cons hv .nil)
      have b2 := (b1.same (gain_same _ (.cell (H.last + 1)))).same' (gain_same _ (.cell (H'.last + 1)))
      refine fin _ (by rw [e, e']; exact b2.setVars (b2.vars.set c (v := .cell (H.last + 1)) (u := .cell (H'.last + 1)) (.inr ⟨rfl, rfl⟩))) (by rw [e, e']; exact .inr ⟨rfl, rfl⟩)
  | put a k c =>
    show Sim (H.dPut a k c).1 (H'.dPut a k c).1
    have hv := b.valOf a
    have hu := b.valOf c
    have v := w.valOk c
    have v' := w'.valOk c
    have og := o.gain v.1
    have og' := o'.gain v'.1
    have cg : Cld (H.gain (H.valOf c)) [H.valOf c] := fun n h => by rw [gain_keys]; exact v.1 n (List.mem_singleton.mp h).symm
    have cg' : Cld (H'.gain (H'.valOf c)) [H'.valOf c] := fun n h => by rw [gain_keys]; exact v'.1 n (List.mem_singleton.mp h).symm
    have b1 := (b.same (gain_same _ (H.valOf c))).same' (gain_same _ (H'.valOf c))
    unfold HS.dPut
    cases q : H.valOf a with
    | int z =>
      cases q' : H'.valOf a with
      | int z' => exact ⟨E, b⟩
      | cell n' => rw [q, q'] at hv; exact hv.elim
    | cell n =>
      cases q' : H'.valOf a with
      | int z' => rw [q, q'] at hv; exact hv.elim
      | cell n' =>
        have f := og.cont (by lia) cg hD.1 (n := n) (by rw [gain_valOf]; exact q)
        have f' := og'.cont (by lia) cg' hD.1 (n := n') (by rw [gain_valOf]; exact q')
        obtain ⟨E1, m1, b2⟩ := b1.cont og og' (by lia) (by lia) (x := a) (n := n) (by rw [gain_valOf]; exact q)
        obtain ⟨E2, m2, b3⟩ := b2.flip.cont og' f.ok (by lia) (by lia) (x := a) (n := n') (by rw [gain_valOf]; exact q')
        have b4 := b3.flip
        have hu2 : VE (fun a b => E2 b a) (H.valOf c) (H'.valOf c) := hu.imp fun _ _ _ _ h => m2 _ _ (m1 _ _ h)
        have hac := b4.valOf a
        rw [f.val, f'.val] at hac
        refine b4.setCont f.ok f'.ok (by lia) (by lia) f.val f'.val (fun h => f.one (f.sort ▸ h)) (fun h => f'.one (f'.sort ▸ h)) ((b4.cell _ _ hac).2.2.2.set k hu2) (fun p hp => ?_) (fun p hp => ?_)
        · rcases mem_vset hp with i | i
          · rw [i]; exact .inr (by simp)
          · exact .inl i
        · rcases mem_vset hp with i | i
          · rw [i]; exact .inr (by simp)
          · exact .inl i
  | unsetAt a k =>
    show Sim (H.dUnsetAt a k).1 (H'.dUnsetAt a k).1
    have hv := b.valOf a
    unfold HS.dUnsetAt
    cases q : H.valOf a with
    | int z =>
      cases q' : H'.valOf a with
      | int z' => exact ⟨E, b⟩
      | cell n' => rw [q, q'] at hv; exact hv.elim
    | cell n =>
      cases q' : H'.valOf a with
      | int z' => rw [q, q'] at hv; exact hv.elim
      | cell n' =>
        have f := o.cont (by lia) c0 hD.1 (n := n) q
        have f' := o'.cont (by lia) c0' hD.1 (n := n') q'
        obtain ⟨E1, m1, b2⟩ := b.cont o o' (by lia) (by lia) (x := a) (n := n) q
        obtain ⟨E2, m2, b3⟩ := b2.flip.cont o' f.ok (by lia) (by lia) (x := a) (n := n') q'
        have b4 := b3.flip
        have hac := b4.valOf a
        rw [f.val, f'.val] at hac
        have hl := (b4.cell _ _ hac).2.2.2
        simp only
        have fin : Sim ((H.cont a n).2.1.setC (H.cont a n).1 { (H.cont a n).2.1.cell (H.cont a n).1 with slots := vdel ((H.cont a n).2.1.cell (H.cont a n).1).slots k }) ((H'.cont a n').2.1.setC (H'.cont a n').1 { (H'.cont a n').2.1.cell (H'.cont a n').1 with slots := vdel ((H'.cont a n').2.1.cell (H'.cont a n').1).slots k }) :=
          b4.setCont f.ok f'.ok (by lia) (by lia) f.val f'.val (fun h => f.one (f.sort ▸ h)) (fun h => f'.one (f'.sort ▸ h)) (hl.del k) (fun p hp => .inl (List.mem_filter.mp hp).1) (fun p hp => .inl (List.mem_filter.mp hp).1)
        rcases hl.get k with ⟨p1, p2⟩ | ⟨_, _, p1, p2, _⟩
        · simp only [p1, p2]; exact ⟨_, b4⟩
        · simp only [p1, p2]; exact fin
end
end Gc
end
/- GcC18 -/
section
set_option backward.dsimp.useDefEqAttr false
namespace Gc
noncomputable def HS.new (full : Int) : HS := { keys := [], cell := fun _ => ⟨.arr, 0, [], .black, false⟩, vars := [], last := 0, buf := [], full := full, freed := 0, ep := 0, logn := 0 }

section
variable {i : Nat} {σ : Sto} {d : Nat} {Q : AV → Sto → Prop}

structure CtI (i : Nat) (σ : Sto) (fs : List (String × AV)) (f : Tag → Option AO) (τ : Sto) : Prop where
  e : τ (.obj i .heap) = some (.inst "Counted" fs)
  o : ∀ t, t ≠ .heap → τ (.obj i t) = f t
  fr : Fr (Own i) σ τ
section
variable {σ0 : Sto} {fs : List (String × AV)} {f : Tag → Option AO} {P : Sto → Prop} {x : String}
theorem CtI.at {v : AV} (I : CtI i σ0 fs f σ) (hx : x ∈ attrsOf "Counted") (hl : fs.length < 100) (hP : ∀ τ, CtI i σ0 (fset fs x v) f τ → P τ) : wpSetAttr (hp i) x v σ P :=
  (sa_gen I.e hx hl).mpr (hP _ ⟨set_same, fun t ht => (set_ne (fun q => ht (by cases q; rfl))).trans (I.o t ht), I.fr.trans (.set ⟨_, rfl⟩)⟩)
theorem CtI.new {o : AO} {t : Tag} (I : CtI i σ0 fs f σ) (ht : t ≠ .heap) (e2 : f t = none) (hx : x ∈ attrsOf "Counted") (hl : fs.length < 100)
    (hP : ∀ τ, CtI i σ0 (fset fs x (.ref (.obj i t))) (fun t' => if t' = t then some o else f t') τ → P τ) : wpNew σ o fun n σ' => wpSetAttr (hp i) x (.ref n) σ' P := by
  refine .inr ⟨i, t, (I.o t ht).trans e2, CtI.at (f := fun t' => if t' = t then some o else f t') ⟨(set_ne (fun q => ht (by cases q; rfl))).trans I.e, fun t' ht' => ?_, I.fr.trans (.set ⟨_, rfl⟩)⟩ hx hl hP⟩
  by_cases q : t' = t
  · rw [q, if_pos rfl]; exact set_same
  · rw [if_neg q]; exact (set_ne (fun w => q (by cases w; rfl))).trans (I.o t' ht')
end

theorem c_Counted {full : Int} (e : σ (.obj i .heap) = some (.inst "Counted" [])) (he : ∀ t, t ≠ .heap → σ (.obj i t) = none) (hQ : ∀ σ', Holds i NF (HS.new full) σ' → Fr (Own i) σ σ' → Q .none σ') : wpFn prg (d + 1) "Counted.__init__" [hp i, .int full] σ Q := by
  have I : CtI i σ [] (fun _ => none) σ := ⟨e, he, .refl⟩
  refine fn_intro rfl rfl ?_
  simp? only [d_Counted_init]
  refine I.new (t := .cells) (by decide) rfl (by decide) (by decide) fun τ I => ?_
  refine nx ?_
  simp? only []
  refine I.new (t := .vars) (by decide) rfl (by decide) (by decide : 1 < 100) fun τ I => ?_
  refine nx ?_
  simp? only []
  refine I.new (t := .log) (by decide) rfl (by decide) (by decide : 2 < 100) fun τ I => ?_
  refine nx ?_
  simp? only []
  refine I.at (by decide) (by decide : 3 < 100) fun τ I => ?_
  refine nx ?_
  simp? only []
  refine I.new (t := .buf 0) (by decide) rfl (by decide) (by decide : 4 < 100) fun τ I => ?_
  refine nx ?_
  simp? only []
  refine I.at (by decide) (by decide : 5 < 100) fun τ I => ?_
  refine nx ?_
  simp? only []
  refine I.at (by decide) (by decide : 6 < 100) fun τ I => ?_
  refine nx ?_
  simp? only []
  refine I.new (t := .plan) (by decide) rfl (by decide) (by decide : 7 < 100) fun τ I => ?_
  refine nx ?_
  simp? only []
  refine I.new (t := .tables) (by decide) rfl (by decide) (by decide : 8 < 100) fun τ I => ?_
  refine hQ _ ⟨I.e, I.o .cells (by decide), I.o .vars (by decide), ⟨[], rfl, I.o .log (by decide)⟩, I.o .plan (by decide), I.o .tables (by decide), I.o (.buf 0) (by decide), fun n hn => (nomatch hn), fun n hn => (nomatch hn), fun n hn => ⟨I.o (.cell n) (by simp), I.o (.slots n) (by simp)⟩, fun e he' => (I.o (.buf e) (by simp)).trans ?_, fun n hn => (nomatch hn)⟩ I.fr
  have : (0 : Nat) < e := he'
  show (if Tag.buf e = .tables then _ else if Tag.buf e = .plan then _ else if Tag.buf e = .buf 0 then _ else _) = _
  rw [if_neg (by simp), if_neg (by simp), if_neg (by simp; exact Nat.ne_of_gt this)]
  rfl

noncomputable def toldRows : List (Int × Int × Int × Int × Int) := [(1, 0, 0, 0, 0), (1, 1, 0, 0, 0), (4, 0, 1, 1, 0), (4, 1, 0, 0, 0), (0, 2, 0, 0, 0), (4, 2, 0, 1, 0), (4, 0, 0, 2, 0), (8, 0, 0, 0, 0), (3, 3, 0, 2, 0), (8, 1, 0, 0, 0), (4, 2, 1, 3, 0), (8, 3, 0, 0, 0), (6, 4, 0, 2, 0), (4, 4, 2, 2, 0), (5, 1, 0, 2, 0), (4, 1, 2, 1, 0), (8, 2, 0, 0, 0), (2, 4, 0, 0, 7), (4, 1, 0, 4, 0), (8, 1, 0, 0, 0), (0, 0, 0, 0, 0), (7, 0, 1, 0, 0)]
noncomputable def rowAV (r : Int × Int × Int × Int × Int) : AV := .tup [.int r.1, .int r.2.1, .int r.2.2.1, .int r.2.2.2.1, .int r.2.2.2.2]
theorem c_told (hQ : ∀ k xs, σ (.tmp k) = none → xs.length = 22 → (∀ v ∈ xs, ∃ a b c d e : Int, v = .tup [.int a, .int b, .int c, .int d, .int e]) → Q (.ref (.tmp k)) (σ.set (.tmp k) (.list xs))) : wpFn prg (d + 1) "_law_told" [] σ Q := by
  refine fn_intro rfl rfl ?_
  simp? only [d_law_told]
  refine .inl fun k hk => hQ k (toldRows.map rowAV) hk rfl fun v hv => ?_
  obtain ⟨r, _, rfl⟩ := List.mem_map.mp hv
  exact ⟨_, _, _, _, _, rfl⟩

noncomputable def szs : List Int := [9, 5, 3, 5, 9]
structure RowOk (n : Nat) (ys : List Int) : Prop where
  len : ys.length = n
  bd : ∀ (j : Nat) (v s : Int), ys[j]? = some v → szs[j]? = some s → 0 ≤ v ∧ v < s
theorem RowOk.snoc {n : Nat} {ys : List Int} {s : Int} (h : RowOk n ys) (hs : szs[n]? = some s) (s0 : 0 < s) (z : Int) : RowOk (n + 1) (ys ++ [z % s]) := by
  refine ⟨by rw [List.length_append, h.len]; rfl, fun j v s' e1 e2 => ?_⟩
  by_cases q : j < ys.length
  · rw [List.getElem?_append_left q] at e1; exact h.bd j v s' e1 e2
  · rw [List.getElem?_append_right (Nat.le_of_not_lt q)] at e1
    by_cases w : j = ys.length
    · subst w
      rw [Nat.sub_self] at e1
      rw [h.len, hs] at e2
      cases e1; cases e2
      exact ⟨Int.emod_nonneg _ (Int.ne_of_gt s0), Int.emod_lt_of_pos _ s0⟩
    · obtain ⟨m, hm⟩ := Nat.exists_eq_succ_of_ne_zero (Nat.sub_ne_zero_of_lt (Nat.lt_of_le_of_ne (Nat.le_of_not_lt q) (Ne.symm w)))
      rw [hm] at e1
      exact nomatch e1
structure RowI (k : Nat) (ts : List Int) (σ : Sto) (n : Nat) (m : Loc) (τ : Sto) (x : Int) (ys : List Int) : Prop where
  m1 : m "told" = some (.tup (ts.map .int))
  m2 : m "sizes" = some (.tup (szs.map .int))
  m3 : m "row" = some (.ref (.tmp k))
  m4 : m "x" = some (.int x)
  fr : ∀ n, n ≠ .tmp k → τ n = σ n
  e : τ (.tmp k) = some (.list (ys.map .int))
  ok : RowOk n ys
theorem subt_in {xs : List Int} {k : Nat} {v : Int} {P : AV → Prop} (hk : k < 65536) (e : xs[k]? = some v) (h : P (.int v)) : wpSub (.tup (xs.map .int)) (.int (Int.ofNat k)) σ P :=
  ⟨Int.natCast_nonneg k, Int.ofNat_lt.mpr hk, .int v, by show (xs.map AV.int)[k]? = _; rw [List.getElem?_map, e]; rfl, h⟩
theorem szs_at {n : Nat} (h : n < 5) : ∃ s, szs[n]? = some s ∧ 0 < s ∧ s < 65536 := by
  have : ∀ n : Nat, n < 5 → (szs[n]?.any fun s => decide (0 < s ∧ s < 65536)) = true := by decide
  have := this n h
  cases q : szs[n]? with
  | none => rw [q] at this; exact nomatch this
  | some s => rw [q] at this; exact ⟨s, rfl, of_decide_eq_true this⟩
theorem len5 {ys : List Int} (h : ys.length = 5) : ∃ a b c d e, ys = [a, b, c, d, e] := by
  cases ys with
  | nil => exact nomatch h
  | cons a ys => cases ys with
    | nil => exact nomatch h
    | cons b ys => cases ys with
      | nil => exact nomatch h
      | cons c ys => cases ys with
        | nil => exact nomatch h
        | cons d ys => cases ys with
          | nil => exact nomatch h
          | cons e ys => cases ys with
            | nil => exact ⟨_, _, _, _, _, rfl⟩
            | cons _ _ => exact nomatch h
theorem c_row {t1 t2 t3 t4 t5 x : Int} (hQ : ∀ k σ' a b c e f, σ (.tmp k) = none → (∀ n, n ≠ .tmp k → σ' n = σ n) → σ' (.tmp k) = some (.list [.int a, .int b, .int c, .int e, .int f]) → (0 ≤ a ∧ a < 9) → (0 ≤ b ∧ b < 5) → (0 ≤ c ∧ c < 3) → (0 ≤ e ∧ e < 5) → Q (.ref (.tmp k)) σ') :
    wpFn prg (d + 1) "_law_row" [.tup [.int t1, .int t2, .int t3, .int t4, .int t5], .int x] σ Q := by
  refine fn_intro rfl rfl ?_
  simp? only [d_law_row]
  refine .inl fun k hk => nx ?_
  rw [wpSs_cons, wS14, lsrc_range]
  refine ⟨by decide, ?_⟩
  refine for_map (all := List.range 5) (fun pre _ m τ => ∃ x ys, RowI k [t1, t2, t3, t4, t5] σ pre.length m τ x ys) (fun _ _ _ _ _ => trivial) (fun pre v suf m τ R e ⟨x, ys, I⟩ hR => ?_) (fun m τ ⟨x, ys, I⟩ => ?_) ⟨x, [], rfl, rfl, rfl, rfl, fun n hn => set_ne hn, set_same, rfl, fun j v s e => nomatch e⟩
  · have hv : pre.length < 5 := at_len e
    have ev := at_idx e
    rw [List.getElem?_range hv] at ev
    cases ev
    obtain ⟨s, es, s0, s1⟩ := szs_at hv
    have et := List.getElem?_eq_getElem (l := [t1, t2, t3, t4, t5]) hv
    have hk : pre.length < 65536 := Nat.lt_trans hv (by decide)
    simp? only [I.m1, I.m2, I.m3, I.m4]
    refine methl_in I.e rfl (subt_in (σ := τ) hk et ?_)
    refine subt_in (σ := τ) hk es ⟨s0, kind_list I.e, app_in I.e (by rw [List.length_map, I.ok.len]; exact hk) ?_⟩
    refine nx ?_
    simp? only [I.m1, I.m2, I.m3, I.m4]
    refine subt_in hk es ⟨s0, s1, hR _ _ ⟨_, ys ++ [([t1, t2, t3, t4, t5][pre.length] + x) % s], (upd_ne (by decide)).trans ((upd_ne (by decide)).trans I.m1), (upd_ne (by decide)).trans ((upd_ne (by decide)).trans I.m2), (upd_ne (by decide)).trans ((upd_ne (by decide)).trans I.m3), rfl, fun n hn => (set_ne hn).trans (I.fr n hn), ?_, ?_⟩⟩
    · rw [List.map_append]; exact set_same
    · rw [List.length_append]; exact I.ok.snoc es s0 _
  · have hl : ys.length = 5 := I.ok.len
    refine nx ?_
    simp? only [I.m3]
    have bd := I.ok.bd
    have e := I.e
    obtain ⟨a, b, c, g, f, rfl⟩ := len5 hl
    exact hQ k _ a b c g f hk I.fr e (bd 0 a 9 rfl rfl) (bd 1 b 5 rfl rfl) (bd 2 c 3 rfl rfl) (bd 3 g 5 rfl rfl)

theorem c_deed {k : Nat} {w a b c n : Int} (e : σ (.tmp k) = some (.list [.int w, .int a, .int b, .int c, .int n])) (hw : 0 ≤ w ∧ w < 9) (ha : 0 ≤ a ∧ a < 5) (hb : 0 ≤ b ∧ b < 3) (hc : 0 ≤ c ∧ c < 5) (hQ : ∀ (D : Deed) (j : Nat) (o : AO), D.ok → σ (.tmp j) = none → Q D.av (σ.set (.tmp j) o)) :
    wpFn prg (d + 1) "_law_deed" [.ref (.tmp k)] σ Q := by
  refine fn_intro rfl rfl ?_
  dsimp? only [d_law_deed]
  refine ⟨_, by simp only [itemsFit, e, List.length_cons, List.length_nil, reduceIte]; rfl, ?_⟩
  dsimp? only []
  refine .inl fun j hj => ?_
  dsimp only
  have hw' : ∀ m : Nat, m < 9 → m = 0 ∨ m = 1 ∨ m = 2 ∨ m = 3 ∨ m = 4 ∨ m = 5 ∨ m = 6 ∨ m = 7 ∨ m = 8 := by decide
  have pick : ∀ (D : Deed) (xs : List AV) (P : AV → Prop), D.ok → xs[w.toNat]? = some D.av → (D.ok → P D.av) → wpSub (.ref (.tmp j)) (.int w) (σ.set (.tmp j) (.list xs)) P := fun D xs P h e2 hP => subl_in set_same hw.1 (Int.lt_trans hw.2 (by decide)) e2 (hP h)
  rcases hw' w.toNat ((Int.toNat_lt hw.1).mpr hw.2) with q | q | q | q | q | q | q | q | q
  · exact pick (.newArr a) _ _ ha (by rw [q]; rfl) fun h => hQ (.newArr a) j _ h hj
  · exact pick (.newObj a) _ _ ha (by rw [q]; rfl) fun h => hQ (.newObj a) j _ h hj
  · exact pick (.setInt a n) _ _ ha (by rw [q]; rfl) fun h => hQ (.setInt a n) j _ h hj
  · exact pick (.assign a c) _ _ ⟨ha, hc⟩ (by rw [q]; rfl) fun h => hQ (.assign a c) j _ h hj
  · exact pick (.put a b c) _ _ ⟨ha, hb, hc⟩ (by rw [q]; rfl) fun h => hQ (.put a b c) j _ h hj
  · exact pick (.take a c b) _ _ ⟨ha, hc, hb⟩ (by rw [q]; rfl) fun h => hQ (.take a c b) j _ h hj
  · exact pick (.ref a c) _ _ ⟨ha, hc⟩ (by rw [q]; rfl) fun h => hQ (.ref a c) j _ h hj
  · exact pick (.unsetAt a b) _ _ ⟨ha, hb⟩ (by rw [q]; rfl) fun h => hQ (.unsetAt a b) j _ h hj
  · exact pick (.unset a) _ _ ha (by rw [q]; rfl) fun h => hQ (.unset a) j _ h hj
end
end Gc
end
/- GcD10 -/
section
namespace Gc

noncomputable def metE : Nat → List Int → List (Int × AV)
  | _, [] => []
  | k, n :: r => (n, .int k) :: metE (k + 1) r
noncomputable def tellL (g : List Int → Val → List AV × List Int) : List Int → List (Int × Val) → List AV × List Int
  | met, [] => ([], met)
  | met, (k, v) :: r => (.tup [.str "key", .int k] :: ((g met v).1 ++ (tellL g (g met v).2 r).1), (tellL g (g met v).2 r).2)
noncomputable def HS.rowOf (H : HS) (n : Int) : AV := .tup [.str (H.cell n).sort.s, .int (H.cell n).slots.length]
noncomputable def HS.tellV (H : HS) : Nat → Nat → List Int → Val → List AV × List Int
  | 0, _, met, _ => ([], met)
  | _ + 1, _, met, .int k => ([.tup [.str "int", .int k]], met)
  | f + 1, dep, met, .cell n => if (H.cell n).sort = .arr then (match dep with
      | 0 => ([H.rowOf n], met)
      | e + 1 => (H.rowOf n :: (tellL (H.tellV f e) met (H.cell n).slots).1, (tellL (H.tellV f e) met (H.cell n).slots).2))
    else if n ∈ met then ([.tup [.str "again", (dget (metE 0 met) n).getD .none]], met)
    else (H.rowOf n :: (tellL (H.tellV f 2) (met ++ [n]) (H.cell n).slots).1, (tellL (H.tellV f 2) (met ++ [n]) (H.cell n).slots).2)

theorem metE_append (k : Nat) (met : List Int) (n : Int) : metE k (met ++ [n]) = metE k met ++ [(n, .int (k + met.length : Nat))] := by
  induction met generalizing k with
  | nil => rfl
  | cons m r ih => rw [List.cons_append, metE, ih, metE]; simp [Nat.add_assoc, Nat.add_comm 1]
theorem metE_length (k : Nat) (met : List Int) : (metE k met).length = met.length := by
  induction met generalizing k with
  | nil => rfl
  | cons m r ih => simp [metE, ih]
theorem dget_cons_ne {p : Int × AV} {l : List (Int × AV)} {k : Int} (h : p.1 ≠ k) : dget (p :: l) k = dget l k := by
  unfold dget
  rw [List.find?_cons]
  have : decide (p.1 = k) = false := by simpa using h
  rw [this]
theorem dget_cons_eq {u : AV} {l : List (Int × AV)} {k : Int} : dget ((k, u) :: l) k = some u := by unfold dget; simp
theorem dget_metE (k : Nat) (met : List Int) (n : Int) : (n ∈ met → ∃ j : Nat, dget (metE k met) n = some (.int j)) ∧ (n ∉ met → dget (metE k met) n = none) := by
  induction met generalizing k with
  | nil => exact ⟨fun h => (by cases h), fun _ => rfl⟩
  | cons m r ih =>
    by_cases q : m = n
    · subst q
      exact ⟨fun _ => ⟨k, dget_cons_eq⟩, fun h => absurd (.head _) h⟩
    · rw [metE, dget_cons_ne (by exact q)]
      refine ⟨fun h => (ih (k + 1)).1 ?_, fun h => (ih (k + 1)).2 fun w => h (.tail _ w)⟩
      rcases List.mem_cons.mp h with e | e
      · exact absurd e.symm q
      · exact e
theorem dset_metE {met : List Int} {n : Int} (h : n ∉ met) : dset (metE 0 met) n (.int met.length) = metE 0 (met ++ [n]) := by
  have : (metE 0 met).any (fun p => decide (p.1 = n)) = false := by
    have e := (dget_metE 0 met n).2 h
    unfold dget at e
    rw [Option.map_eq_none_iff, List.find?_eq_none] at e
    rw [List.any_eq_false]; exact e
  unfold dset
  rw [this, metE_append]; simp

inductive LM (E : Int → Int → Prop) : List Int → List Int → Prop
  | nil : LM E [] []
  | cons {a b : Int} {l r : List Int} : E a b → LM E l r → LM E (a :: l) (b :: r)
theorem LM.append {E : Int → Int → Prop} {l r : List Int} {a b : Int} (h : LM E l r) (e : E a b) : LM E (l ++ [a]) (r ++ [b]) := by
  induction h with
  | nil => exact .cons e .nil
  | cons h _ ih => exact .cons h ih
theorem LM.find {E : Int → Int → Prop} {l r : List Int} {n n' : Int} (h : LM E l r) (hi : ∀ p q, E p q → (p = n ↔ q = n')) (k : Nat) : dget (metE k l) n = dget (metE k r) n' ∧ (n ∈ l ↔ n' ∈ r) := by
  induction h generalizing k with
  | nil => exact ⟨rfl, by simp⟩
  | @cons a b l r e _ ih =>
    by_cases q : a = n
    · have q' := (hi a b e).mp q
      subst q q'
      exact ⟨by rw [metE, metE, dget_cons_eq, dget_cons_eq], by simp⟩
    · have q' : b ≠ n' := fun w => q ((hi a b e).mpr w)
      rw [metE, metE, dget_cons_ne (by exact q), dget_cons_ne (by exact q')]
      refine ⟨(ih (k + 1)).1, ?_⟩
      rw [List.mem_cons, List.mem_cons, (ih 0).2]
      constructor
      · rintro (w | w)
        · exact absurd w.symm q
        · exact .inr w
      · rintro (w | w)
        · exact absurd w.symm q'
        · exact .inr w

section
variable {E : Int → Int → Prop} {B : Int} {H H' : HS}

theorem tellL_sim {g g' : List Int → Val → List AV × List Int} (hg : ∀ met met' v u, VE E v u → LM E met met' → (g met v).1 = (g' met' u).1 ∧ LM E (g met v).2 (g' met' u).2) {l r : List (Int × Val)} (h : LR E l r) :
    ∀ {met met' : List Int}, LM E met met' → (tellL g met l).1 = (tellL g' met' r).1 ∧ LM E (tellL g met l).2 (tellL g' met' r).2 := by
  induction h with
  | nil => exact fun hm => ⟨rfl, hm⟩
  | cons hv _ ih =>
    intro met met' hm
    have a := hg _ _ _ _ hv hm
    have b := ih a.2
    unfold tellL
    exact ⟨by rw [a.1, b.1], b.2⟩

theorem tellV_sim (b : Bis E H H') : ∀ (f dep : Nat) (met met' : List Int) (v u : Val), VE E v u → LM E met met' → (H.tellV f dep met v).1 = (H'.tellV f dep met' u).1 ∧ LM E (H.tellV f dep met v).2 (H'.tellV f dep met' u).2
  | 0, _, _, _, _, _, _, hm => ⟨rfl, hm⟩
  | f + 1, dep, met, met', v, u, hv, hm => by
    cases v <;> cases u
    · rename_i x y
      have : x = y := hv
      subst this
      exact ⟨rfl, hm⟩
    · exact hv.elim
    · exact hv.elim
    · rename_i n n'
      have hE : E n n' := hv
      obtain ⟨k1, k2, hs, hl⟩ := b.cell n n' hE
      have er : H.rowOf n = H'.rowOf n' := by unfold HS.rowOf; rw [hs, hl.length]
      unfold HS.tellV
      rw [← hs]
      split
      · cases dep with
        | zero => exact ⟨by simp only [er], hm⟩
        | succ e =>
          have := tellL_sim (fun met met' v u => tellV_sim b f e met met' v u) hl hm
          exact ⟨by simp only [er, this.1], this.2⟩
      · rename_i ha
        have F := hm.find (n := n) (n' := n') (fun p q e => ⟨fun w => by subst w; exact b.inj _ _ _ e hE ha, fun w => by subst w; exact (b.inj' _ _ _ hE e ha).symm⟩) 0
        by_cases q : n ∈ met
        · rw [if_pos q, if_pos (F.2.mp q), F.1]; exact ⟨rfl, hm⟩
        · rw [if_neg q, if_neg fun w => q (F.2.mpr w)]
          have := tellL_sim (fun met met' v u => tellV_sim b f 2 met met' v u) hl (hm.append hE)
          exact ⟨by simp only [er, this.1], this.2⟩

structure Met (H : HS) (met : List Int) : Prop where
  nd : met.Nodup
  sub : ∀ n ∈ met, n ∈ H.keys
noncomputable def Wd : Nat → Nat
  | 0 => 1
  | d + 1 => 4 + 3 * Wd d
structure Told (H : HS) (met : List Int) (w : Nat) (r : List AV × List Int) : Prop where
  mt : Met H r.2
  ext : ∃ e, r.2 = met ++ e
  len : r.1.length + 79 * met.length ≤ w + 79 * r.2.length
  flat : ∀ x ∈ r.1, x.flat = true

theorem tellL_told {g : List Int → Val → List AV × List Int} {w : Nat} (hg : ∀ met v, Met H met → (∀ n, v = .cell n → n ∈ H.keys) → Told H met w (g met v)) : ∀ (l : List (Int × Val)), (∀ p ∈ l, ∀ n, p.2 = .cell n → n ∈ H.keys) → ∀ met, Met H met → Told H met (l.length * (1 + w)) (tellL g met l)
  | [], _, met, hm => ⟨hm, ⟨[], by simp [tellL]⟩, by simp [tellL], by simp [tellL]⟩
  | (k, v) :: l, hc, met, hm => by
    have a := hg met v hm (hc (k, v) (.head _))
    have b := tellL_told hg l (fun p hp => hc p (.tail _ hp)) _ a.mt
    unfold tellL
    obtain ⟨e1, h1⟩ := a.ext
    obtain ⟨e2, h2⟩ := b.ext
    refine ⟨b.mt, ⟨e1 ++ e2, by rw [h2, h1, List.append_assoc]⟩, ?_, fun x hx => ?_⟩
    · have := a.len
      have := b.len
      simp only [List.length_cons, List.length_append]
      rw [Nat.add_mul]
      lia
    · rcases List.mem_cons.mp hx with q | q
      · rw [q]; rfl
      · rcases List.mem_append.mp q with q | q
        · exact a.flat x q
        · exact b.flat x q

theorem Wd_pos : ∀ d, 1 ≤ Wd d
  | 0 => Nat.le_refl _
  | d + 1 => by unfold Wd; lia

theorem tellV_told (g : Gr B H) : ∀ (f dep : Nat) (met : List Int) (v : Val), Met H met → (∀ n, v = .cell n → n ∈ H.keys) → Told H met (Wd dep) (H.tellV f dep met v)
  | 0, dep, met, v, hm, _ => ⟨hm, ⟨[], by simp [HS.tellV]⟩, by simp [HS.tellV], by simp [HS.tellV]⟩
  | f + 1, dep, met, .int k, hm, _ => ⟨hm, ⟨[], by simp [HS.tellV]⟩, by have := Wd_pos dep; simp [HS.tellV]; lia, by simp [HS.tellV, AV.flat, AV.scal]⟩
  | f + 1, dep, met, .cell n, hm, hc => by
    have hn := hc n rfl
    have hsl := g.slotsLen hn
    have rf : (H.rowOf n).flat = true := rfl
    unfold HS.tellV
    split
    · cases dep with
      | zero => exact ⟨hm, ⟨[], by simp⟩, by simp [Wd], by simp [rf]⟩
      | succ e =>
        have a := tellL_told (fun met v => tellV_told g f e met v) (H.cell n).slots (g.cl n hn) met hm
        refine ⟨a.mt, a.ext, ?_, fun x hx => ?_⟩
        · have h1 := a.len
          have h2 : (H.cell n).slots.length * (1 + Wd e) ≤ 3 * (1 + Wd e) := Nat.mul_le_mul_right _ hsl
          simp only [List.length_cons]
          unfold Wd
          lia
        · rcases List.mem_cons.mp hx with q | q
          · rw [q]; exact rf
          · exact a.flat x q
    · split
      · rename_i hq
        obtain ⟨j, hj⟩ := (dget_metE 0 met n).1 hq
        exact ⟨hm, ⟨[], by simp⟩, by have := Wd_pos dep; simp; lia, by simp [hj, AV.flat, AV.scal]⟩
      · rename_i hq
        have hm2 : Met H (met ++ [n]) := ⟨by
          rw [List.nodup_append]
          exact ⟨hm.nd, by simp, fun a ha b hb => by rw [List.mem_singleton.mp hb]; rintro rfl; exact hq ha⟩, fun k hk => by
          rcases List.mem_append.mp hk with w | w
          · exact hm.sub k w
          · rw [List.mem_singleton.mp w]; exact hn⟩
        have a := tellL_told (fun met v => tellV_told g f 2 met v) (H.cell n).slots (g.cl n hn) _ hm2
        obtain ⟨e, he⟩ := a.ext
        refine ⟨a.mt, ⟨n :: e, by rw [he]; simp⟩, ?_, fun x hx => ?_⟩
        · have h1 := a.len
          have h2 : (H.cell n).slots.length * (1 + Wd 2) ≤ 3 * (1 + Wd 2) := Nat.mul_le_mul_right _ hsl
          have h3 : Wd 2 = 25 := rfl
          rw [h3] at h1 h2
          simp only [List.length_cons]
          rw [List.length_append, List.length_singleton] at h1
          lia
        · rcases List.mem_cons.mp hx with q | q
          · rw [q]; exact rf
          · exact a.flat x q

noncomputable def HS.unm (H : HS) (met : List Int) : Nat := (H.keys.filter fun n => decide (n ∉ met)).length
theorem unm_ext (met e : List Int) : H.unm (met ++ e) ≤ H.unm met := by
  unfold HS.unm
  rw [← List.countP_eq_length_filter, ← List.countP_eq_length_filter]
  refine List.countP_mono_left fun x _ h => ?_
  simp only [List.mem_append, decide_eq_true_eq] at h ⊢
  exact fun q => h (.inl q)
theorem unm_new {met : List Int} {n : Int} (hn : n ∈ H.keys) (h : n ∉ met) : H.unm (met ++ [n]) + 1 ≤ H.unm met := by
  unfold HS.unm
  have : ∀ ks : List Int, n ∈ ks → (ks.filter fun k => decide (k ∉ met ++ [n])).length + 1 ≤ (ks.filter fun k => decide (k ∉ met)).length := by
    intro ks
    induction ks with
    | nil => intro q; cases q
    | cons k r ih =>
      intro hk
      have mono : (r.filter fun k => decide (k ∉ met ++ [n])).length ≤ (r.filter fun k => decide (k ∉ met)).length := by
        rw [← List.countP_eq_length_filter, ← List.countP_eq_length_filter]
        refine List.countP_mono_left fun x _ h => ?_
        simp only [List.mem_append, decide_eq_true_eq] at h ⊢
        exact fun q => h (.inl q)
      by_cases q : k = n
      · subst q
        rw [List.filter_cons_of_neg (by simp), List.filter_cons_of_pos (by simpa using h), List.length_cons]
        lia
      · have hr : n ∈ r := by
          rcases List.mem_cons.mp hk with w | w
          · exact absurd w.symm q
          · exact w
        have := ih hr
        by_cases q2 : k ∈ met
        · rw [List.filter_cons_of_neg (by simp [q2]), List.filter_cons_of_neg (by simp [q2])]; exact this
        · rw [List.filter_cons_of_pos (by simp [q2, q]), List.filter_cons_of_pos (by simp [q2]), List.length_cons, List.length_cons]; lia
  exact this _ hn

noncomputable def HS.tellX (H : HS) : List Int → List Int → List AV × List Int
  | met, [] => ([], met)
  | met, x :: r => match vget H.vars x with
    | none => (.tup [.str "variable", .bool false] :: (H.tellX met r).1, (H.tellX met r).2)
    | some v => (.tup [.str "variable", .bool true] :: ((H.tellV 250 2 met v).1 ++ (H.tellX (H.tellV 250 2 met v).2 r).1), (H.tellX (H.tellV 250 2 met v).2 r).2)
noncomputable def HS.tells (H : HS) : List AV := (H.tellX [] [0, 1, 2, 3, 4]).1

theorem tellX_sim (b : Bis E H H') : ∀ (xs met met' : List Int), LM E met met' → (H.tellX met xs).1 = (H'.tellX met' xs).1
  | [], _, _, _ => rfl
  | x :: xs, met, met', hm => by
    unfold HS.tellX
    rcases b.vars.get x with ⟨p, q⟩ | ⟨v, u, p, q, e⟩
    · rw [p, q]; simp only [tellX_sim b xs met met' hm]
    · rw [p, q]
      have := tellV_sim b 250 2 met met' v u e hm
      simp only [this.1, tellX_sim b xs _ _ this.2]
theorem Sim.tells (s : Sim H H') : H.tells = H'.tells := let ⟨_, b⟩ := s; tellX_sim b _ _ _ .nil

theorem tellX_told (g : Gr B H) : ∀ (xs met : List Int), Met H met → Told H met (xs.length * 26) (H.tellX met xs)
  | [], met, hm => ⟨hm, ⟨[], by simp [HS.tellX]⟩, by simp [HS.tellX], by simp [HS.tellX]⟩
  | x :: xs, met, hm => by
    unfold HS.tellX
    cases q : vget H.vars x with
    | none =>
      have a := tellX_told g xs met hm
      refine ⟨a.mt, a.ext, ?_, fun y hy => ?_⟩
      · have := a.len
        simp only [List.length_cons]
        lia
      · rcases List.mem_cons.mp hy with w | w
        · rw [w]; rfl
        · exact a.flat y w
    | some v =>
      have a := tellV_told g 250 2 met v hm fun n e => g.clv _ (vget_mem q) n e
      have b := tellX_told g xs _ a.mt
      obtain ⟨e1, h1⟩ := a.ext
      obtain ⟨e2, h2⟩ := b.ext
      refine ⟨b.mt, ⟨e1 ++ e2, by simp only; rw [h2, h1, List.append_assoc]⟩, ?_, fun y hy => ?_⟩
      · have l1 := a.len
        have l2 := b.len
        have h3 : Wd 2 = 25 := rfl
        rw [h3] at l1
        simp only [List.length_cons, List.length_append]
        lia
      · rcases List.mem_cons.mp hy with w | w
        · rw [w]; rfl
        · rcases List.mem_append.mp w with w | w
          · exact a.flat y w
          · exact b.flat y w
end
end Gc
end
/- GcC19 -/
section
set_option backward.dsimp.useDefEqAttr false
namespace Gc
section
variable {B : Int} {H : HS} {i : Nat} {d : Nat}

theorem len_dict {σ : Sto} {a : Name} {es : List (Int × AV)} {f : Bool} {P : AV → Sto → Prop} (e : σ a = some (.dict es f)) (h : P (.int es.length) σ) : wpBi .len (.ref a) σ P := .inr ⟨_, _, e, h⟩
theorem len_list {σ : Sto} {a : Name} {xs : List AV} {P : AV → Sto → Prop} (e : σ a = some (.list xs)) (h : P (.int xs.length) σ) : wpBi .len (.ref a) σ P := .inl ⟨_, e, h⟩

theorem tellV_no {f dep : Nat} {met : List Int} {n : Int} (ha : (H.cell n).sort ≠ .arr) : H.tellV (f + 1) dep met (.cell n) = if n ∈ met then ([.tup [.str "again", (dget (metE 0 met) n).getD .none]], met)
    else (H.rowOf n :: (tellL (H.tellV f 2) (met ++ [n]) (H.cell n).slots).1, (tellL (H.tellV f 2) (met ++ [n]) (H.cell n).slots).2) := by
  cases dep <;> exact if_neg ha

noncomputable abbrev TX (km kr : Nat) : Name → Prop := fun a => a = .tmp km ∨ a = .tmp kr

theorem Met.len {met : List Int} (m : Met H met) : met.length ≤ H.keys.length := nodup_sub_len m.nd m.sub

structure TvP (H : HS) (i km kr f dep : Nat) (met : List Int) (v : Val) (rows : List AV) (fz : Int → Bool) (σ : Sto) : Prop where
  h : Holds i fz H σ
  hm : Met H met
  hc : ∀ n, v = .cell n → n ∈ H.keys
  hf : 3 * H.unm met + dep + 1 ≤ f
  e1 : σ (.tmp km) = some (.dict (metE 0 met) false)
  e2 : σ (.tmp kr) = some (.list rows)
  hl : rows.length + (H.tellV f dep met v).1.length < 65000
structure TvQ (H : HS) (i km kr : Nat) (t : List AV × List Int) (rows : List AV) (fz : Int → Bool) (σ τ : Sto) : Prop where
  h : Holds i fz H τ
  e1 : τ (.tmp km) = some (.dict (metE 0 t.2) false)
  e2 : τ (.tmp kr) = some (.list (rows ++ t.1))
  fr : Fr (TX km kr) σ τ
noncomputable def TvOk (H : HS) (i d km kr f : Nat) : Prop := ∀ {dep : Nat} {met : List Int} {v : Val} {rows : List AV} {fz : Int → Bool} {σ : Sto} {Q : AV → Sto → Prop}, TvP H i km kr f dep met v rows fz σ →
  (∀ τ, TvQ H i km kr (H.tellV f dep met v) rows fz σ τ → Q .none τ) → wpFn prg (d + f) "_law_told_value" [hp i, .ref (.tmp km), v.av, .int dep, .ref (.tmp kr)] σ Q
structure TvM (i : Nat) (n : Int) (dep km kr : Nat) (m : Loc) : Prop where
  m1 : m "heap" = some (hp i)
  m2 : m "met" = some (.ref (.tmp km))
  m3 : m "cell" = some (cr i n)
  m4 : m "depth" = some (.int dep)
  m5 : m "rows" = some (.ref (.tmp kr))
theorem TvM.key {n : Int} {dep km kr : Nat} {m : Loc} {v : AV} (h : TvM i n dep km kr m) : TvM i n dep km kr (upd m "key" v) :=
  ⟨(upd_ne (by decide)).trans h.m1, (upd_ne (by decide)).trans h.m2, (upd_ne (by decide)).trans h.m3, (upd_ne (by decide)).trans h.m4, (upd_ne (by decide)).trans h.m5⟩
structure TvI (H : HS) (i km kr : Nat) (fz : Int → Bool) (n : Int) (dep dep' f : Nat) (t : List AV × List Int) (rows1 : List AV) (σ1 : Sto) (r : List (Int × Val)) (m : Loc) (τ : Sto) (pre : List (Int × Val)) (met : List Int) (rows : List AV) : Prop where
  es : (H.cell n).slots = pre ++ r
  hm : TvM i n dep km kr m
  h : Holds i (fzOn fz n true) H τ
  hM : Met H met
  hf : 3 * H.unm met + dep' + 1 ≤ f
  c1 : τ (.tmp km) = some (.dict (metE 0 met) false)
  c2 : τ (.tmp kr) = some (.list rows)
  er : rows ++ (tellL (H.tellV f dep') met r).1 = rows1 ++ t.1
  em : (tellL (H.tellV f dep') met r).2 = t.2
  fr : Fr (fun a => TX km kr a ∨ a = .obj i (.slots n)) σ1 τ
section
variable {km kr : Nat} {fz : Int → Bool} {n : Int} {dep dep' f : Nat} {t : List AV × List Int} {rows1 : List AV} {σ1 : Sto} {r : List (Int × Val)} {m : Loc} {τ : Sto} {pre : List (Int × Val)} {met : List Int} {rows : List AV} {p : Int × Val}
theorem TvI.len (I : TvI H i km kr fz n dep dep' f t rows1 σ1 (p :: r) m τ pre met rows) (hl : rows1.length + t.1.length < 65000) : rows.length + 1 + (H.tellV f dep' met p.2).1.length < 65000 := by
  have := congrArg List.length I.er
  simp only [tellL, List.length_append, List.length_cons] at this
  lia
theorem TvI.args (g : Gr B H) (hk : km ≠ kr) (hn : n ∈ H.keys) (I : TvI H i km kr fz n dep dep' f t rows1 σ1 (p :: r) m τ pre met rows) (hl : rows1.length + t.1.length < 65000) :
    TvP H i km kr f dep' met p.2 (rows ++ [.tup [.str "key", .int p.1]]) (fzOn fz n true) (τ.set (.tmp kr) (.list (rows ++ [.tup [.str "key", .int p.1]]))) :=
  ⟨I.h.tmp, I.hM, fun k e => g.cl n hn p (by rw [I.es]; exact List.mem_append_right _ (List.mem_cons_self ..)) k e, I.hf, (set_ne (by simpa using hk)).trans I.c1, set_same, by rw [List.length_append, List.length_singleton]; exact I.len hl⟩
theorem TvI.next (g : Gr B H) (hn : n ∈ H.keys) {v : AV} {τ' : Sto} (I : TvI H i km kr fz n dep dep' f t rows1 σ1 (p :: r) m τ pre met rows)
    (q : TvQ H i km kr (H.tellV f dep' met p.2) (rows ++ [.tup [.str "key", .int p.1]]) (fzOn fz n true) (τ.set (.tmp kr) (.list (rows ++ [.tup [.str "key", .int p.1]]))) τ') :
    ∃ pre met' rows', TvI H i km kr fz n dep dep' f t rows1 σ1 r (upd m "key" v) τ' pre met' rows' := by
  have ht := tellV_told g f dep' met p.2 I.hM fun k e => g.cl n hn p (by rw [I.es]; exact List.mem_append_right _ (List.mem_cons_self ..)) k e
  refine ⟨pre ++ [p], _, _, by rw [I.es, List.append_assoc]; rfl, I.hm.key, q.h, ht.mt, ?_, q.e1, q.e2, ?_, I.em, I.fr.trans ((Fr.set (.inl (.inr rfl))).trans (q.fr.mono fun _ q => .inl q))⟩
  · obtain ⟨ex, hex⟩ := ht.ext
    rw [hex]
    exact Nat.le_trans (Nat.add_le_add_right (Nat.add_le_add_right (Nat.mul_le_mul_left 3 (unm_ext met ex)) _) _) I.hf
  · rw [← I.er]; simp only [tellL, List.append_assoc, List.cons_append, List.nil_append]
theorem TvI.done (I : TvI H i km kr fz n dep dep' f t rows1 σ1 [] m τ pre met rows) (h1 : Holds i fz H σ1) (hn : n ∈ H.keys) : TvQ H i km kr t rows1 fz σ1 (τ.set (.obj i (.slots n)) (.dict (ents (H.cell n).slots) (fz n))) := by
  have er := I.er
  rw [show (tellL (H.tellV f dep') met []).1 = [] from rfl, List.append_nil] at er
  refine ⟨?_, (set_ne (fun e => by cases e)).trans (I.c1.trans (by rw [← I.em]; rfl)), (set_ne (fun e => by cases e)).trans (I.c2.trans (by rw [er])), fun a ha hx => ?_⟩
  · have := I.h.frozen hn (fz n)
    rw [fzOn_back] at this
    exact this
  · by_cases q : a = .obj i (.slots n)
    · rw [q, set_same]; exact (h1.slots n hn).symm
    · rw [set_ne q]; exact I.fr a (fun w => w.elim ha q) hx
end
noncomputable def tvBody : Sts :=
    (.cons (.expr (.meth (.var "rows") .append (.cons (.tup (.cons (.cst (.str "key")) (.cons (.var "key") .nil))) .nil))) <|
    .cons (.expr (.call "_law_told_value" (.cons (.var "heap") (.cons (.var "met") (.cons (.sub (.attr (.var "cell") "slots") (.var "key")) (.cons (.ite (.cmp .eq (.attr (.var "cell") "sort") (.cst (.str "array"))) (.bin .sub (.var "depth") (.cst (.int 1))) (.cst (.int 2))) (.cons (.var "rows") .nil))))))) <|
    .nil)
theorem sort_arr {s : Srt} (h : s = .arr) : s.s = "array" := by rw [h]; rfl
theorem sort_narr {s : Srt} (h : s ≠ .arr) : ¬ s.s = "array" := by
  cases s with
  | arr => exact absurd rfl h
  | obj => exact (by decide)
  | ref => exact (by decide)
theorem tv_loop (g : Gr B H) {km kr : Nat} (hk : km ≠ kr) {f dep dep' : Nat} {n : Int} (hn : n ∈ H.keys) (ih : TvOk H i d km kr f) (hd : (H.cell n).sort = .arr ∧ dep = dep' + 1 ∨ (H.cell n).sort ≠ .arr ∧ dep' = 2) {met : List Int} {rows : List AV} {fz : Int → Bool} {m : Loc} {σ : Sto}
    (h : Holds i fz H σ) (hm : Met H met) (hf : 3 * H.unm met + dep' + 1 ≤ f) (e1 : σ (.tmp km) = some (.dict (metE 0 met) false)) (e2 : σ (.tmp kr) = some (.list rows)) (hl : rows.length + (tellL (H.tellV f dep') met (H.cell n).slots).1.length < 65000) (M : TvM i n dep km kr m)
    {R : Out → Loc → Sto → Prop} (hR : ∀ m τ, TvQ H i km kr (tellL (H.tellV f dep') met (H.cell n).slots) rows fz σ τ → R .next m τ) : wpS (wpFn prg (d + f)) (.forr "key" (.attr (.var "cell") "slots") tvBody) m σ R := by
  refine for_slots h hn M.m3 (fun r m τ => ∃ pre met' rows', TvI H i km kr fz n dep dep' f (tellL (H.tellV f dep') met (H.cell n).slots) rows σ r m τ pre met' rows')
    ⟨[], met, rows, rfl, M, h.frozen hn true, hm, hf, (set_ne (fun e => by cases e)).trans e1, (set_ne (fun e => by cases e)).trans e2, rfl, rfl, .set (.inr rfl)⟩ ?_ ?_ ?_
  · rintro r m τ ⟨pre, met', rows', I⟩
    rw [I.h.slots n hn]
    unfold fzOn; rw [if_pos rfl]
  · rintro p r m τ ⟨pre, met', rows', I⟩
    have P := I.args g hk hn hl
    unfold tvBody
    simp? only [I.hm.m5]
    refine methl_in I.c2 rfl ⟨kind_list I.c2, app_in I.c2 (Nat.lt_of_le_of_lt (Nat.le_trans (Nat.le_succ _) (Nat.le_add_right _ _)) (Nat.lt_trans (I.len hl) (by decide))) ?_⟩
    refine nx ?_
    simp? only [I.hm.m1, I.hm.m2, I.hm.m3, I.hm.m4, I.hm.m5]
    refine attr_in (P.h.cSlots hn) (subd_in (v := p.2.av) (P.h.slots n hn) ?_ (attr_in (P.h.cSort hn) ?_))
    · rw [dget_av, show vget (H.cell n).slots p.1 = some p.2 from vget_of_mem (g.snd n hn).1 (by rw [I.es]; exact List.mem_append_right _ (List.mem_cons_self ..))]; rfl
    · rcases hd with ⟨ha, hd⟩ | ⟨ha, hd⟩
      · refine eqs_t' (sort_arr ha) ?_
        rw [hd]
        show wpFn prg (d + f) _ [_, _, _, .int (((dep' + 1 : Nat) : Int) - 1), _] _ _
        rw [show (((dep' + 1 : Nat) : Int) - 1) = dep' from by rw [Int.natCast_add]; exact Int.add_sub_cancel _ _]
        exact ih P fun τ q => ⟨trivial, r, rfl, hd ▸ I.next g hn q⟩
      · refine eqs_f (sort_narr ha) ?_
        subst hd
        exact ih P fun τ q => ⟨trivial, r, rfl, I.next g hn q⟩
  · rintro m τ ⟨pre, met', rows', I⟩
    exact hR m _ (I.done h hn)

section
variable {km kr f dep : Nat} {met : List Int} {rows : List AV} {fz : Int → Bool} {σ : Sto} {Q : AV → Sto → Prop}
noncomputable def tvT (H : HS) (f : Nat) (met : List Int) (n : Int) : Nat → List AV × List Int
  | 0 => ([], met)
  | e + 1 => tellL (H.tellV f e) met (H.cell n).slots
theorem tv_int {z : Int} (P : TvP H i km kr (f + 1) dep met (.int z) rows fz σ) (hk : km ≠ kr) (hQ : ∀ τ, TvQ H i km kr (H.tellV (f + 1) dep met (.int z)) rows fz σ τ → Q .none τ) : wpFn prg (d + f + 1) "_law_told_value" [hp i, .ref (.tmp km), (Val.int z).av, .int dep, .ref (.tmp kr)] σ Q := by
  refine fn_intro rfl rfl ?_
  simp? only [d_law_told_value]
  refine sub0_in (eqs_t (nx ?_))
  simp? only []
  refine methl_in P.e2 rfl ⟨kind_list P.e2, app_in P.e2 (Nat.lt_of_le_of_lt (Nat.le_add_right _ _) (Nat.lt_trans P.hl (by decide))) ?_⟩
  refine nx ?_
  simp? only []
  exact hQ _ ⟨P.h.tmp, (set_ne (by simpa using hk)).trans P.e1, set_same, .set (.inr rfl)⟩
theorem tv_tail (g : Gr B H) (hk : km ≠ kr) {n : Int} (hn : n ∈ H.keys) (ih : TvOk H i d km kr f) {m : Loc} (h : Holds i fz H σ) (hm : Met H met) (e1 : σ (.tmp km) = some (.dict (metE 0 met) false)) (e2 : σ (.tmp kr) = some (.list rows)) (M : TvM i n dep km kr m)
    {t : List AV × List Int} (hl : rows.length + (1 + t.1.length) < 65000) (ht : (H.cell n).sort = .arr ∧ dep = 0 ∧ t = ([], met) ∨ ∃ dep', ((H.cell n).sort = .arr ∧ dep = dep' + 1 ∨ (H.cell n).sort ≠ .arr ∧ dep' = 2) ∧ 3 * H.unm met + dep' + 1 ≤ f ∧ t = tellL (H.tellV f dep') met (H.cell n).slots)
    (hQ : ∀ τ, TvQ H i km kr (H.rowOf n :: t.1, t.2) rows fz σ τ → Q .none τ) : wpL (wpFn prg (d + f)) (.cons (.expr (.meth (.var "rows") .append (.cons (.tup (.cons (.attr (.var "cell") "sort") (.cons (.bi .len (.attr (.var "cell") "slots")) .nil))) .nil))) <|
  .cons (.ite (.and (.cmp .eq (.attr (.var "cell") "sort") (.cst (.str "array"))) (.cmp .eq (.var "depth") (.cst (.int 0)))) (.cons .ret0 <| .nil) .nil) <|
  .cons (.forr "key" (.attr (.var "cell") "slots") tvBody) <| .nil) m σ fun o _ σ' => Q o.val σ' := by
  refine nx ?_
  simp? only [M.m3, M.m5]
  refine methl_in e2 rfl (attr_in (h.cSort hn) (attr_in (h.cSlots hn) (len_dict (h.slots n hn) ⟨kind_list e2, app_in e2 (Nat.lt_of_le_of_lt (Nat.le_add_right _ _) (Nat.lt_trans hl (by decide))) ?_⟩)))
  have ero : AV.tup [.str (H.cell n).sort.s, .int (ents (H.cell n).slots).length] = H.rowOf n := by unfold HS.rowOf; rw [ents_length]
  rw [ero]
  have hJ := h.tmp (k := kr) (o := .list (rows ++ [H.rowOf n]))
  have e1' : (σ.set (.tmp kr) (.list (rows ++ [H.rowOf n]))) (.tmp km) = some (.dict (metE 0 met) false) := (set_ne (by simpa using hk)).trans e1
  refine nx ?_
  simp? only [M.m3, M.m4]
  refine attr_in (hJ.cSort hn) ?_
  have last : ∀ {τ}, TvQ H i km kr t (rows ++ [H.rowOf n]) fz (σ.set (.tmp kr) (.list (rows ++ [H.rowOf n]))) τ → Q .none τ := fun {τ} q => hQ τ ⟨q.h, q.e1, by rw [q.e2, List.append_assoc]; rfl, (Fr.set (.inr rfl)).trans q.fr⟩
  have go : ∀ dep', ((H.cell n).sort = .arr ∧ dep = dep' + 1 ∨ (H.cell n).sort ≠ .arr ∧ dep' = 2) → 3 * H.unm met + dep' + 1 ≤ f → t = tellL (H.tellV f dep') met (H.cell n).slots →
      wpL (wpFn prg (d + f)) (.cons (.forr "key" (.attr (.var "cell") "slots") tvBody) <| .nil) m (σ.set (.tmp kr) (.list (rows ++ [H.rowOf n]))) fun o _ σ' => Q o.val σ' := fun dep' hd hf et => by
    refine nx ?_
    rw [wpSs_cons]
    refine tv_loop g hk hn ih hd hJ hm hf e1' set_same (by rw [List.length_append, List.length_singleton, ← et, Nat.add_assoc]; exact hl) M fun m τ q => ?_
    rw [← et] at q
    exact last q
  rcases ht with ⟨ha, hd, et⟩ | ⟨dep', hd, hf, et⟩
  · refine eqs_t' (sort_arr ha) ?_
    rw [hd]
    refine nx ?_
    rw [wSs2, wS11]
    exact last ⟨hJ, by rw [et]; exact e1', by rw [et, List.append_nil]; exact set_same, .refl⟩
  · rcases hd with ⟨ha, hd'⟩ | ⟨ha, hd'⟩
    · refine eqs_t' (sort_arr ha) ?_
      have : decide ((dep : Int) = 0) = false := decide_eq_false (by lia)
      simp only [cmp_eq_int, this]
      exact go dep' (.inl ⟨ha, hd'⟩) hf et
    · refine eqs_f (sort_narr ha) ?_
      exact go dep' (.inr ⟨ha, hd'⟩) hf et
theorem tv_cell (g : Gr B H) (hB : B ≤ 1000) {n : Int} (P : TvP H i km kr (f + 1) dep met (.cell n) rows fz σ) (hk : km ≠ kr) (ih : TvOk H i d km kr f) (hQ : ∀ τ, TvQ H i km kr (H.tellV (f + 1) dep met (.cell n)) rows fz σ τ → Q .none τ) :
    wpFn prg (d + f + 1) "_law_told_value" [hp i, .ref (.tmp km), (Val.cell n).av, .int dep, .ref (.tmp kr)] σ Q := by
  have hn := P.hc n rfl
  have hf := P.hf
  have hl := P.hl
  refine fn_intro rfl rfl ?_
  simp? only [d_law_told_value]
  refine sub0_in (eqs_f (by decide) (nx ?_))
  simp? only []
  refine attr_in P.h.aCells (sub1_in (subd_in P.h.cells (dget_keys hn) (nx ?_)))
  simp? only []
  refine attr_in (P.h.cSort hn) ?_
  by_cases ha : (H.cell n).sort = .arr
  · refine nes_f' (sort_arr ha) ?_
    refine tv_tail (dep := dep) (t := tvT H f met n dep) g hk hn ih P.h P.hm P.e1 P.e2 ⟨?_, ?_, ?_, ?_, ?_⟩ ?_ ?_ ?_
    iterate 5 simp? only []
    · cases dep with
      | zero =>
        have et : H.tellV (f + 1) 0 met (.cell n) = ([H.rowOf n], met) := by unfold HS.tellV; rw [if_pos ha]
        rw [et] at hl; exact hl
      | succ e =>
        have et : H.tellV (f + 1) (e + 1) met (.cell n) = (H.rowOf n :: (tellL (H.tellV f e) met (H.cell n).slots).1, (tellL (H.tellV f e) met (H.cell n).slots).2) := by rw [HS.tellV, if_pos ha]
        rw [et, List.length_cons, Nat.add_comm _ 1] at hl; exact hl
    · cases dep with
      | zero => exact .inl ⟨ha, rfl, rfl⟩
      | succ e => exact .inr ⟨e, .inl ⟨ha, rfl⟩, Nat.le_of_succ_le_succ hf, rfl⟩
    · cases dep with
      | zero =>
        have et : H.tellV (f + 1) 0 met (.cell n) = ([H.rowOf n], met) := by unfold HS.tellV; rw [if_pos ha]
        rw [et] at hQ; exact hQ
      | succ e =>
        have et : H.tellV (f + 1) (e + 1) met (.cell n) = (H.rowOf n :: (tellL (H.tellV f e) met (H.cell n).slots).1, (tellL (H.tellV f e) met (H.cell n).slots).2) := by rw [HS.tellV, if_pos ha]
        rw [et] at hQ; exact hQ
  · refine nes_t (sort_narr ha) (nx ?_)
    simp? only []
    refine sub1_in (isin_in P.e1 ?_)
    by_cases q : n ∈ met
    · obtain ⟨j, hj⟩ := (dget_metE 0 met n).1 q
      have et : H.tellV (f + 1) dep met (.cell n) = ([.tup [.str "again", .int j]], met) := by rw [tellV_no ha, if_pos q, hj]; rfl
      rw [et] at hl hQ
      rw [hj]
      refine nx ?_
      simp? only []
      refine methl_in P.e2 rfl (sub1_in (subd_in P.e1 hj ⟨kind_list P.e2, app_in P.e2 (Nat.lt_of_le_of_lt (Nat.le_add_right _ _) (Nat.lt_trans hl (by decide))) ?_⟩))
      refine nx ?_
      simp? only []
      exact hQ _ ⟨P.h.tmp, (set_ne (by simpa using hk)).trans P.e1, set_same, .set (.inr rfl)⟩
    · have et : H.tellV (f + 1) dep met (.cell n) = (H.rowOf n :: (tellL (H.tellV f 2) (met ++ [n]) (H.cell n).slots).1, (tellL (H.tellV f 2) (met ++ [n]) (H.cell n).slots).2) := by rw [tellV_no ha, if_neg q]
      rw [et] at hl hQ
      rw [List.length_cons, Nat.add_comm _ 1] at hl
      rw [(dget_metE 0 met n).2 q]
      refine nx ?_
      simp? only []
      have hml := P.hm.len
      have hkl := g.keysLen
      have hlb := g.lb
      refine len_dict P.e1 (sub1_in (setsub_in P.e1 (by rw [metE_length]; lia) ?_))
      rw [metE_length, dset_metE q]
      have hm2 : Met H (met ++ [n]) := ⟨by
        rw [List.nodup_append]
        exact ⟨P.hm.nd, by simp, fun a ha' b hb => by rw [List.mem_singleton.mp hb]; rintro rfl; exact q ha'⟩, fun k hk => by
        rcases List.mem_append.mp hk with w | w
        · exact P.hm.sub k w
        · rw [List.mem_singleton.mp w]; exact hn⟩
      have hu := unm_new hn q
      refine tv_tail (dep := dep) g hk hn ih P.h.tmp hm2 set_same ((set_ne (by simpa using Ne.symm hk)).trans P.e2) ⟨?_, ?_, ?_, ?_, ?_⟩ hl (.inr ⟨2, .inr ⟨ha, rfl⟩, by lia, rfl⟩) fun τ q => hQ τ ⟨q.h, q.e1, q.e2, (Fr.set (.inl rfl)).trans q.fr⟩
      iterate 5 simp? only []
end
theorem c_told_value (g : Gr B H) (hB : B ≤ 1000) {km kr : Nat} (hk : km ≠ kr) (f : Nat) : TvOk H i d km kr f := by
  induction f with
  | zero => exact fun P _ => absurd P.hf (Nat.not_succ_le_zero _)
  | succ f ih =>
    intro dep met v rows fz σ Q P hQ
    cases v with
    | int z => exact tv_int P hk hQ
    | cell n => exact tv_cell g hB P hk ih hQ
end
end Gc
end
/- GcC20 -/
section
set_option backward.dsimp.useDefEqAttr false
namespace Gc
section
variable {B : Int} {H : HS} {i : Nat} {d : Nat} {σ : Sto} {Q : AV → Sto → Prop}

theorem tells_len (g : Gr B H) (hB : B ≤ 63) : H.tells.length < 60000 ∧ ∀ x ∈ H.tells, x.flat = true := by
  have a := tellX_told g [0, 1, 2, 3, 4] [] ⟨.nil, fun n h => by cases h⟩
  have h1 := a.len
  have h2 := a.mt.len
  have h3 := g.keysLen
  have h4 := g.lb
  refine ⟨?_, a.flat⟩
  unfold HS.tells
  simp only [List.length_cons, List.length_nil] at h1
  lia

theorem Fr.drop {X : Name → Prop} {σ σ' : Sto} (f : Fr X σ σ') (h : ∀ a, X a → σ a = Option.none ∧ ∃ k, a = .tmp k) : Fr (fun _ => False) σ σ' := fun a _ ha => f a (fun hx => by
  obtain ⟨h1, k, rfl⟩ := h a hx
  rcases ha with q | ⟨_, _, q⟩
  · exact q h1
  · cases q) ha

structure TlI (H : HS) (i km kr : Nat) (σ : Sto) (xs met : List Int) (rows : List AV) (τ : Sto) : Prop where
  h : Holds i NF H τ
  mt : Met H met
  lo : 3 * H.unm met + 3 ≤ 250
  e1 : τ (.tmp km) = some (.dict (metE 0 met) false)
  e2 : τ (.tmp kr) = some (.list rows)
  er : rows ++ (H.tellX met xs).1 = H.tells
  fr : Fr (TX km kr) σ τ
structure TlM (i km kr : Nat) (m : Loc) : Prop where
  m1 : m "heap" = some (hp i)
  m2 : m "met" = some (.ref (.tmp km))
  m3 : m "rows" = some (.ref (.tmp kr))
inductive TlR (H : HS) (i km kr : Nat) (σ : Sto) (r : List AV) (m : Loc) (τ : Sto) : Prop
  | mk (xs met : List Int) (rows : List AV) (ex : r = xs.map .int) (M : TlM i km kr m) (t : TlI H i km kr σ xs met rows τ) : TlR H i km kr σ r m τ
noncomputable def lrow (b : Bool) : AV := .tup [.str "variable", .bool b]
section
variable {km kr : Nat} {τ : Sto} {x : Int} {xs met : List Int} {rows : List AV} {v : Val}
theorem TlI.len (t : TlI H i km kr σ xs met rows τ) : rows.length + (H.tellX met xs).1.length = H.tells.length := by
  rw [← t.er, List.length_append]
theorem TlI.none (t : TlI H i km kr σ (x :: xs) met rows τ) (hk : km ≠ kr) (q : vget H.vars x = none) : TlI H i km kr σ xs met (rows ++ [lrow false]) (τ.set (.tmp kr) (.list (rows ++ [lrow false]))) where
  h := t.h.tmp
  mt := t.mt
  lo := t.lo
  e1 := (set_ne fun e => hk (Name.tmp.inj e)).trans t.e1
  e2 := set_same
  er := by rw [← t.er, HS.tellX, q, List.append_assoc]; rfl
  fr := t.fr.trans (.set (.inr rfl))
theorem TlI.call (g : Gr B H) (tl : H.tells.length < 60000) (t : TlI H i km kr σ (x :: xs) met rows τ) (hk : km ≠ kr) (q : vget H.vars x = some v) : TvP H i km kr 250 2 met v (rows ++ [lrow true]) NF (τ.set (.tmp kr) (.list (rows ++ [lrow true]))) where
  h := t.h.tmp
  hm := t.mt
  hc := fun n e => g.clv _ (vget_mem q) n e
  hf := t.lo
  e1 := (set_ne fun e => hk (Name.tmp.inj e)).trans t.e1
  e2 := set_same
  hl := by
    have l := t.len
    rw [HS.tellX, q] at l
    dsimp only at l
    rw [List.length_cons, List.length_append] at l
    rw [List.length_append, List.length_singleton]; lia
theorem TlI.some {σ' : Sto} (g : Gr B H) (t : TlI H i km kr σ (x :: xs) met rows τ) (q : vget H.vars x = some v) (Z : TvQ H i km kr (H.tellV 250 2 met v) (rows ++ [lrow true]) NF (τ.set (.tmp kr) (.list (rows ++ [lrow true]))) σ') :
    TlI H i km kr σ xs (H.tellV 250 2 met v).2 ((rows ++ [lrow true]) ++ (H.tellV 250 2 met v).1) σ' :=
  have ht := tellV_told g 250 2 met v t.mt fun n e => g.clv _ (vget_mem q) n e
  { h := Z.h
    mt := ht.mt
    lo := by
      obtain ⟨ex, hex⟩ := ht.ext
      have := unm_ext (H := H) met ex
      have := t.lo
      rw [hex]; lia
    e1 := Z.e1
    e2 := Z.e2
    er := by rw [← t.er, HS.tellX, q, List.append_assoc, List.append_assoc]; rfl
    fr := t.fr.trans ((Fr.set (.inr rfl)).trans Z.fr) }
end

theorem c_tells (hB : B ≤ 63) (h : Holds i NF H σ) (g : Gr B H) (hQ : ∀ t σ', Holds i NF H σ' → σ (.tmp t) = none → σ' (.tmp t) = some (.list H.tells) → Fr (fun _ => False) σ σ' → Q (.ref (.tmp t)) σ') : wpFn prg (d + 251) "_law_tells" [hp i] σ Q := by
  show wpFn prg (d + 250 + 1) _ _ _ _
  refine fn_intro rfl rfl ?_
  simp? only [d_law_tells]
  refine .inl fun km hkm => .inl fun kr hkr => ?_
  have hk : km ≠ kr := fun q => by subst q; rw [set_same] at hkr; cases hkr
  refine nx ⟨by decide, ?_⟩
  have tl := (tells_len g hB).1
  refine for_rule' (TlR H i km kr σ) (fun _ _ _ _ => trivial) ?_ ?_ (TlR.mk [0, 1, 2, 3, 4] [] [] rfl ⟨rfl, rfl, rfl⟩ ⟨h.tmp.tmp, ⟨.nil, fun n h => by cases h⟩, ?_, (set_ne fun e => hk (Name.tmp.inj e)).trans set_same, set_same, rfl, (Fr.set (.inl rfl)).trans (.set (.inr rfl))⟩)
  · intro v r m τ ⟨xs, met, rows, ex, M, t⟩
    cases xs with
    | nil => cases ex
    | cons x xs =>
      cases ex
      have hlen := t.len
      simp? only [M.m1, M.m2, M.m3]
      refine methl_in t.e2 rfl (attr_in t.h.aVars (isin_in t.h.vars ⟨kind_list t.e2, app_in t.e2 (by lia) (nx ?_)⟩))
      have hJ : Holds i NF H (τ.set (.tmp kr) (.list (rows ++ [lrow (dget (ents H.vars) x).isSome]))) := t.h.tmp
      simp? only [M.m1, M.m2, M.m3]
      refine attr_in hJ.aVars (isin_in hJ.vars ?_)
      clear hJ
      cases q : vget H.vars x with
      | none =>
        have dq : dget (ents H.vars) x = none := by rw [dget_av, q]; rfl
        rw [dq]
        exact ⟨xs, met, _, rfl, ⟨M.m1, M.m2, M.m3⟩, t.none hk q⟩
      | some v =>
        have dq : dget (ents H.vars) x = some v.av := by rw [dget_av, q]; rfl
        have P := t.call g tl hk q
        rw [dq]
        refine nx ?_
        simp? only [M.m1, M.m2, M.m3]
        exact attr_in P.h.aVars (subd_in P.h.vars dq (c_told_value (d := d) g (show B ≤ 1000 by lia) hk 250 P fun σ' Z => ⟨xs, _, _, rfl, ⟨M.m1, M.m2, M.m3⟩, t.some g q Z⟩))
  · intro m τ ⟨xs, met, rows, ex, M, t⟩
    cases xs with
    | cons x xs => cases ex
    | nil =>
      refine nx ?_
      simp? only [M.m3]
      refine hQ kr τ t.h (by rw [set_ne fun e => hk (Name.tmp.inj e).symm] at hkr; exact hkr) (by rw [t.e2, ← t.er, HS.tellX, List.append_nil]) (t.fr.drop fun a ha => ?_)
      rcases ha with rfl | rfl
      · exact ⟨hkm, _, rfl⟩
      · exact ⟨by rw [set_ne fun e => hk (Name.tmp.inj e).symm] at hkr; exact hkr, _, rfl⟩
  · have : H.unm [] ≤ H.keys.length := List.length_filter_le _ _
    have := g.keysLen
    have := g.lb
    lia
end
end Gc
end
/- GcC21 -/
section
set_option backward.dsimp.useDefEqAttr false
namespace Gc

theorem ins_comm (x y : Int) : ∀ l : List Int, isort.ins x (isort.ins y l) = isort.ins y (isort.ins x l)
  | [] => by
    by_cases h : x ≤ y
    · by_cases h2 : y ≤ x
      · have : x = y := by lia
        subst this; rfl
      · simp [isort.ins, h, h2]
    · have h2 : y ≤ x := by lia
      simp [isort.ins, h, h2]
  | z :: l => by
    have ih := ins_comm x y l
    by_cases h1 : x ≤ z <;> by_cases h2 : y ≤ z <;> by_cases h : x ≤ y <;> by_cases h3 : y ≤ x <;> simp [isort.ins, h1, h2, h, h3] <;> first | lia | exact ih
theorem isort_of_perm {a b : List Int} (h : a.Perm b) : isort a = isort b := by
  induction h with
  | nil => rfl
  | cons x _ ih => simp only [isort, ih]
  | swap x y l => simp only [isort]; exact ins_comm _ _ _
  | trans _ _ ih1 ih2 => exact ih1.trans ih2
theorem mem_ins (x : Int) : ∀ (l : List Int) (y : Int), y ∈ isort.ins x l ↔ y = x ∨ y ∈ l
  | [], y => by simp [isort.ins]
  | z :: l, y => by
    unfold isort.ins
    split
    · simp
    · rw [List.mem_cons, mem_ins x l y, List.mem_cons]
      constructor
      · rintro (q | q | q)
        · exact .inr (.inl q)
        · exact .inl q
        · exact .inr (.inr q)
      · rintro (q | q | q)
        · exact .inr (.inl q)
        · exact .inl q
        · exact .inr (.inr q)
theorem mem_isort : ∀ (l : List Int) (y : Int), y ∈ isort l ↔ y ∈ l
  | [], y => by simp [isort]
  | x :: l, y => by simp only [isort, mem_ins, mem_isort l y, List.mem_cons]
theorem ins_len (x : Int) : ∀ l : List Int, (isort.ins x l).length = l.length + 1
  | [] => rfl
  | z :: l => by unfold isort.ins; split <;> simp [ins_len x l]
theorem isort_len : ∀ l : List Int, (isort l).length = l.length
  | [] => rfl
  | x :: l => by simp only [isort, ins_len, isort_len l, List.length_cons]
theorem ins_nodup (x : Int) : ∀ l : List Int, l.Nodup → x ∉ l → (isort.ins x l).Nodup
  | [], _, _ => by simp [isort.ins]
  | z :: l, h, hx => by
    have h' := List.nodup_cons.mp h
    unfold isort.ins
    split
    · exact List.nodup_cons.mpr ⟨hx, h⟩
    · refine List.nodup_cons.mpr ⟨?_, ins_nodup x l h'.2 fun q => hx (.tail _ q)⟩
      rw [mem_ins]
      rintro (q | q)
      · exact hx (by rw [q]; exact .head _)
      · exact h'.1 q
theorem isort_nodup : ∀ l : List Int, l.Nodup → (isort l).Nodup
  | [], _ => .nil
  | x :: l, h => by
    have h' := List.nodup_cons.mp h
    exact ins_nodup x _ (isort_nodup l h'.2) (by rw [mem_isort]; exact h'.1)

noncomputable def seenE (seen : List Int) : List (Int × AV) := seen.map fun n => (n, .bool true)
theorem dget_seen (seen : List Int) (n : Int) : (n ∈ seen → dget (seenE seen) n = some (.bool true)) ∧ (n ∉ seen → dget (seenE seen) n = none) := by
  unfold seenE
  induction seen with
  | nil => exact ⟨fun h => (by cases h), fun _ => rfl⟩
  | cons m r ih =>
    by_cases q : m = n
    · subst q
      exact ⟨fun _ => dget_cons_eq, fun h => absurd (.head _) h⟩
    · rw [List.map_cons, dget_cons_ne (by exact q)]
      refine ⟨fun h => ih.1 ?_, fun h => ih.2 fun w => h (.tail _ w)⟩
      rcases List.mem_cons.mp h with e | e
      · exact absurd e.symm q
      · exact e
theorem dset_seen {seen : List Int} {n : Int} (h : n ∉ seen) : dset (seenE seen) n (.bool true) = seenE (seen ++ [n]) := by
  have : (seenE seen).any (fun p => decide (p.1 = n)) = false := by
    have e := (dget_seen seen n).2 h
    unfold dget at e
    rw [Option.map_eq_none_iff, List.find?_eq_none] at e
    rw [List.any_eq_false]; exact e
  unfold dset
  rw [this]; simp [seenE]

noncomputable def HS.objOf (H : HS) (ns : List Int) : List Int := ns.filter fun n => decide ((H.cell n).sort = .obj)
noncomputable def HS.objs (H : HS) : List Int := H.objOf (isort H.keys)

section
variable {B : Int} {H : HS} {i : Nat} {d : Nat} {σ : Sto} {Q : AV → Sto → Prop}

theorem sne {τ : Sto} {a b : Name} {o : AO} (e : τ a = some o) (h : τ b = none) : a ≠ b := fun q => by rw [q, h] at e; exact nomatch e
theorem set_old {τ : Sto} {a b : Name} {o o' : AO} (e : τ a = some o) (h : τ b = none) : (τ.set b o') a = some o := (set_ne (sne e h)).trans e
structure ObA (H : HS) (k : Nat) (σ : Sto) (pre : List Int) (acc : List AV) (τ : Sto) : Prop where
  ea : acc = (H.objOf pre).map .int
  e : τ (.tmp k) = some (.list acc)
  f : ∀ b, b ≠ .tmp k → τ b = σ b
theorem ObA.holds {k : Nat} {pre : List Int} {acc : List AV} {τ : Sto} (I : ObA H k σ pre acc τ) (h : Holds i NF H σ) : Holds i NF H τ := h.fr (X := fun b => b = .tmp k) (fun b hb _ => I.f b hb) (fun t q => nomatch q)
theorem objOf_snoc (H : HS) (pre : List Int) (n : Int) : H.objOf (pre ++ [n]) = H.objOf pre ++ if (H.cell n).sort = .obj then [n] else [] := by
  unfold HS.objOf
  rw [List.filter_append]
  congr 1
  by_cases q : (H.cell n).sort = .obj
  · rw [if_pos q]; simp [q]
  · rw [if_neg q]; simp [q]
theorem sort_obj {s : Srt} (h : s = .obj) : s.s = "object" := by rw [h]; rfl
theorem sort_nobj {s : Srt} (h : s ≠ .obj) : ¬ s.s = "object" := by
  cases s with
  | obj => exact absurd rfl h
  | arr => exact (by decide)
  | ref => exact (by decide)
theorem obj_comp {ns : List Int} {t : Nat} {m : Loc} {P : AV → Sto → Prop} (hns : ∀ n ∈ ns, n ∈ H.keys) (hl : ns.length < 64) (h : Holds i NF H σ) (e : σ (.tmp t) = some (.list (ns.map .int))) (hm : m "heap" = some (hp i))
    (hP : ∀ k σ', σ (.tmp k) = none → Holds i NF H σ' → σ' (.tmp k) = some (.list ((H.objOf ns).map .int)) → Fr (fun _ => False) σ σ' → P (.ref (.tmp k)) σ') :
    ∃ xs, itemsOf (.ref (.tmp t)) σ = some xs ∧ frz (.ref (.tmp t)) σ = σ ∧ wpNew σ (.list []) fun k σ'' => compL (fun it τ Q' => wpT (wpFn prg d) (.cmp .eq (.attr (.sub (.attr (.var "heap") "cells") (.var "number")) "sort") (.cst (.str "object"))) (upd m "number" it) τ Q')
      (fun it τ Q' => wpE (wpFn prg d) (.var "number") (upd m "number" it) τ Q') (sameSrc (.ref (.tmp t)) σ) k P xs [] σ'' := by
  refine ⟨ns.map .int, by unfold itemsOf; dsimp only; rw [e], frz_list e, .inl fun k hk => ?_⟩
  refine comp_var (g := AV.int) (all := ns) (acc := []) (fun pre _ acc τ => ObA H k σ pre acc τ) ?_ AV.int (fun _ => rfl) (fun pre n suf acc τ R en I h1 h2' => ?_) (fun acc τ I => ?_) ⟨rfl, set_same, fun b hb => set_ne hb⟩
  · exact fun pre suf acc τ I => ⟨I.f _ (sne e hk), I.e⟩
  · have hn := hns n (at_mem en)
    have h2 := I.holds h
    simp? only [hm]
    refine attr_in h2.aCells (subd_in h2.cells (dget_keys hn) (attr_in (h2.cSort hn) ?_))
    by_cases q : (H.cell n).sort = .obj
    · refine eqs_t' (sort_obj q) (h1 _ I.e ?_ ⟨?_, set_same, fun b hb => (set_ne hb).trans (I.f b hb)⟩)
      · rw [I.ea, List.length_map]
        exact Nat.lt_of_le_of_lt (Nat.le_trans (List.length_filter_le _ _) (Nat.le_of_succ_le (at_len en))) (Nat.lt_trans hl (by decide))
      · rw [objOf_snoc, if_pos q, List.map_append, I.ea]; rfl
    · refine eqs_f (sort_nobj q) (h2' _ ⟨?_, I.e, I.f⟩)
      rw [objOf_snoc, if_neg q, List.append_nil]; exact I.ea
  · have ee := I.e
    rw [I.ea] at ee
    refine hP k τ hk (I.holds h) ee fun b _ hx => I.f b fun q => ?_
    rcases hx with hx | ⟨_, _, hx⟩
    · rw [q, hk] at hx; exact hx rfl
    · rw [q] at hx; exact nomatch hx

structure ObjInv (H : HS) (seen : List Int) (line : List Val) : Prop where
  met : Met H seen
  cl : ∀ n, .cell n ∈ line → n ∈ H.keys
  root : ∀ p ∈ H.vars, ∀ n, p.2 = .cell n → n ∈ seen ∨ .cell n ∈ line
  kid : ∀ m ∈ seen, ∀ p ∈ (H.cell m).slots, ∀ n, p.2 = .cell n → n ∈ seen ∨ .cell n ∈ line
  mu : 4 * H.unm seen + line.length ≤ 1000

theorem ObjInv.pop {seen : List Int} {L : List Val} {v : Val} (O : ObjInv H seen (L ++ [v])) (hv : ∀ n, v = .cell n → n ∈ seen) : ObjInv H seen L := by
  have hm := O.mu
  rw [List.length_append, List.length_singleton] at hm
  have down : ∀ {n}, n ∈ seen ∨ .cell n ∈ L ++ [v] → n ∈ seen ∨ .cell n ∈ L := fun {n} h => h.elim .inl fun q => (List.mem_append.mp q).elim .inr fun q => .inl (hv n (List.mem_singleton.mp q).symm)
  exact ⟨O.met, fun n hn => O.cl n (List.mem_append_left _ hn), fun p hp n e => down (O.root p hp n e), fun m hm p hp n e => down (O.kid m hm p hp n e), Nat.le_trans (Nat.le_succ _) hm⟩
theorem ObjInv.push {seen : List Int} {L : List Val} {n : Int} (g : Gr B H) (O : ObjInv H seen (L ++ [.cell n])) (q : n ∉ seen) : ObjInv H (seen ++ [n]) (L ++ vals (H.cell n).slots) ∧ 4 * H.unm (seen ++ [n]) + (L ++ vals (H.cell n).slots).length < 4 * H.unm seen + (L ++ [Val.cell n]).length := by
  have hn := O.cl n (List.mem_append_right _ (List.mem_cons_self ..))
  have hu := unm_new hn q
  have hsl := g.slotsLen hn
  have hm := O.mu
  have lt : 4 * H.unm (seen ++ [n]) + (L ++ vals (H.cell n).slots).length < 4 * H.unm seen + (L ++ [Val.cell n]).length := by
    rw [List.length_append, List.length_append, List.length_singleton, vals_len]; lia
  have hm2 : Met H (seen ++ [n]) := ⟨by
    rw [List.nodup_append]
    exact ⟨O.met.nd, by simp, fun a ha b hb => by rw [List.mem_singleton.mp hb]; rintro rfl; exact q ha⟩, fun k hk => by
    rcases List.mem_append.mp hk with w | w
    · exact O.met.sub k w
    · rw [List.mem_singleton.mp w]; exact hn⟩
  have old : ∀ {j}, j ∈ seen ∨ .cell j ∈ L ++ [.cell n] → j ∈ seen ++ [n] ∨ .cell j ∈ L ++ vals (H.cell n).slots := fun {j} hj => by
    rcases hj with w | w
    · exact .inl (List.mem_append_left _ w)
    · rcases List.mem_append.mp w with w | w
      · exact .inr (List.mem_append_left _ w)
      · cases List.mem_singleton.mp w
        exact .inl (List.mem_append_right _ (List.mem_cons_self ..))
  refine ⟨⟨hm2, fun j hj => ?_, fun p hp j e => old (O.root p hp j e), fun m hm p hp j e => ?_, Nat.le_of_lt (Nat.lt_of_lt_of_le lt hm)⟩, lt⟩
  · rcases List.mem_append.mp hj with w | w
    · exact O.cl j (List.mem_append_left _ w)
    · obtain ⟨p, hp, e⟩ := mem_vals.mp w
      exact g.cl n hn p hp j e
  · rcases List.mem_append.mp hm with w | w
    · exact old (O.kid m w p hp j e)
    · rw [List.mem_singleton.mp w] at hp
      exact .inr (List.mem_append_right _ (mem_vals.mpr ⟨p, hp, e⟩))
theorem ObjInv.full {seen : List Int} (o : Ok B H []) (hbuf : H.buf = []) (O : ObjInv H seen []) (n : Int) : n ∈ seen ↔ n ∈ H.keys := by
  have z : ∀ {j}, j ∈ seen ∨ .cell j ∈ ([] : List Val) → j ∈ seen := fun h => h.elim id fun q => nomatch q
  refine ⟨O.met.sub n, fun hn => ?_⟩
  refine Rch.conv (T := fun n => n ∈ seen) o.cl (fun n r _ => ?_) (fun m n p hT hm hp e _ => z (O.kid m hT p hp n e)) (o.root n hn) hn
  rcases r with ⟨p, hp, e⟩ | r | ⟨j, hj, _⟩
  · exact z (O.root p hp n e)
  · exact nomatch r
  · rw [hbuf] at hj; exact nomatch hj
theorem ObjInv.start (o : Ok B H []) (hB : B ≤ 63) : ObjInv H [] (vals H.vars) := by
  have hkl := o.keysLen
  have hlb := o.lb
  have hvl := o.varsLen
  refine ⟨⟨.nil, fun n h => nomatch h⟩, fun n hn => ?_, fun p hp n e => .inr (mem_vals.mpr ⟨p, hp, e⟩), fun m hm => (nomatch hm), ?_⟩
  · obtain ⟨p, hp, e⟩ := mem_vals.mp hn
    exact o.clv p hp n e
  · have : H.unm [] ≤ H.keys.length := List.length_filter_le _ _
    rw [vals_len]; lia
structure ObS (i ks kl : Nat) (H : HS) (σ : Sto) (seen : List Int) (line : List Val) (τ : Sto) : Prop where
  h : Holds i NF H τ
  e1 : τ (.tmp ks) = some (.dict (seenE seen) false)
  e2 : τ (.tmp kl) = some (.list (line.map Val.av))
  fr : Fr (TX ks kl) σ τ
structure ObM (i ks kl : Nat) (m : Loc) : Prop where
  m1 : m "heap" = some (hp i)
  m2 : m "seen" = some (.ref (.tmp ks))
  m3 : m "line" = some (.ref (.tmp kl))
section
variable {ks kl : Nat} {seen : List Int} {line : List Val} {τ : Sto} {m : Loc}
theorem ObM.val {v : AV} (M : ObM i ks kl m) : ObM i ks kl (upd m "value" v) := ⟨(upd_ne (by decide)).trans M.m1, (upd_ne (by decide)).trans M.m2, (upd_ne (by decide)).trans M.m3⟩
theorem ObS.new {k : Nat} {o : AO} (S : ObS i ks kl H σ seen line τ) (hk : τ (.tmp k) = none) : ObS i ks kl H σ seen line (τ.set (.tmp k) o) := ⟨S.h.tmp, set_old S.e1 hk, set_old S.e2 hk, S.fr.trans (.tmp hk)⟩
theorem ObS.lined {L : List Val} (S : ObS i ks kl H σ seen line τ) (hk : ks ≠ kl) : ObS i ks kl H σ seen L (τ.set (.tmp kl) (.list (L.map Val.av))) := ⟨S.h.tmp, (set_ne (by simpa using hk)).trans S.e1, set_same, S.fr.trans (.set (.inr rfl))⟩
theorem ObS.saw {s' : List Int} (S : ObS i ks kl H σ seen line τ) (hk : ks ≠ kl) : ObS i ks kl H σ s' line (τ.set (.tmp ks) (.dict (seenE s') false)) := ⟨S.h.tmp, set_same, (set_ne (by simpa using hk.symm)).trans S.e2, S.fr.trans (.set (.inl rfl))⟩
theorem ob_end (hB : B ≤ 63) (o : Ok B H []) (hbuf : H.buf = []) (hks : σ (.tmp ks) = none) (hkl : σ (.tmp kl) = none) (O : ObjInv H seen []) (S : ObS i ks kl H σ seen [] τ) (M : ObM i ks kl m)
    (hQ : ∀ t σ', Holds i NF H σ' → σ (.tmp t) = none → σ' (.tmp t) = some (.list (H.objs.map .int)) → Fr (fun _ => False) σ σ' → Q (.ref (.tmp t)) σ') :
    wpL (wpFn prg d) (.cons (.ret (.comp (.var "number") "number" (.bi .sorted (.var "seen")) (.cmp .eq (.attr (.sub (.attr (.var "heap") "cells") (.var "number")) "sort") (.cst (.str "object"))))) .nil) m τ fun o _ σ' => Q o.val σ' := by
  have hkl0 := o.keysLen
  have hlb := o.lb
  have ep := isort_of_perm ((List.perm_ext_iff_of_nodup O.met.nd o.nd).mpr (O.full o hbuf))
  have ml := O.met.len
  have sl : seen.length < 64 := by lia
  refine nx ?_
  rw [wSs2, wS10, wE22]; refine ⟨rfl, ?_⟩; rw [wE18, wpE_var]
  refine ⟨_, M.m2, seen, sl, .inr ⟨_, _, S.e1, by unfold seenE; rw [List.map_map]; exact List.map_id _⟩, .inl fun kt hkt => ?_⟩
  have S2 := S.new (o := .list ((isort seen).map .int)) hkt
  refine obj_comp (H := H) (i := i) (fun n hn => O.met.sub n ((mem_isort seen n).mp hn)) (by rw [isort_len]; exact sl) S2.h set_same M.m1 fun k σ' hk0 h' e4 f4 => ?_
  rw [ep] at e4
  have ff := S2.fr.trans (f4.mono (Y := TX ks kl) fun _ q => q.elim)
  have nk := sne S2.e1 hk0
  have nk2 := sne S2.e2 hk0
  refine hQ k σ' h' (Fr.none (fun w => w.elim (fun w => nk w.symm) fun w => nk2 w.symm) S2.fr hk0) e4 (ff.drop fun a ha => ?_)
  rcases ha with rfl | rfl
  · exact ⟨hks, _, rfl⟩
  · exact ⟨hkl, _, rfl⟩
end
structure ObI (i ks kl : Nat) (H : HS) (σ : Sto) (a : List Int × List Val) (m : Loc) (τ : Sto) : Prop where
  O : ObjInv H a.1 a.2
  M : ObM i ks kl m
  S : ObS i ks kl H σ a.1 a.2 τ

theorem c_objects (hB : B ≤ 63) (h : Holds i NF H σ) (o : Ok B H []) (hbuf : H.buf = []) (hQ : ∀ t σ', Holds i NF H σ' → σ (.tmp t) = none → σ' (.tmp t) = some (.list (H.objs.map .int)) → Fr (fun _ => False) σ σ' → Q (.ref (.tmp t)) σ') : wpFn prg (d + 1) "_law_objects" [hp i] σ Q := by
  refine fn_intro rfl rfl ?_
  simp? only [d_law_objects]
  refine .inl fun ks hks => ?_
  have h1 := h.tmp (k := ks) (o := .dict [] false)
  refine attr_in h1.aVars ⟨_, _, _, rfl, h1.vars, .inl fun kl hkl => nx ?_⟩
  have nkl := sne set_same hkl
  have hk : ks ≠ kl := fun q => nkl (by rw [q])
  have hkl' : σ (.tmp kl) = none := (set_ne (Ne.symm nkl)).symm.trans hkl
  rw [wpSs_cons]
  refine while_r (ObI i ks kl H σ) (fun a => 4 * H.unm a.1 + a.2.length) (fun a m τ R I hR => ?_) (a := ([], vals H.vars)) ⟨.start o hB, ⟨rfl, rfl, rfl⟩, h1.tmp, set_old set_same hkl, set_same.trans ?_, (Fr.set (.inl rfl)).trans (.set (.inr rfl))⟩
  · simp? only [I.M.m3]
    refine .inl fun kz hkz => ?_
    have S1 := I.S.new (o := .list []) hkz
    have e3 : (τ.set (.tmp kz) (.list [])) (.tmp kz) = some (.list []) := set_same
    generalize τ.set (.tmp kz) (.list []) = τ1 at S1 e3 ⊢
    obtain ⟨seen, line⟩ := a
    rcases List.eq_nil_or_concat line with q | ⟨L, v, q⟩
    · -- the end
      cases q
      exact .inl ⟨⟨[], S1.e2, e3, rfl⟩, ob_end hB o hbuf hks hkl' I.O S1 I.M hQ⟩
    · rw [List.concat_eq_append] at q
      cases q
      have O : ObjInv H seen (L ++ [v]) := I.O
      have M := I.M
      replace S1 : ObS i ks kl H σ seen (L ++ [v]) τ1 := S1
      clear I
      have e2s : τ1 (.tmp kl) = some (.list (L.map Val.av ++ [v.av])) := S1.e2.trans (by rw [List.map_append]; rfl)
      have lt : 4 * H.unm seen + L.length < 4 * H.unm seen + (L ++ [v]).length := by rw [List.length_append]; exact Nat.lt_succ_self _
      have Sp := S1.lined (L := L) hk
      refine .inr ⟨_, _, S1.e2, e3, by simp, nx ?_⟩
      simp? only [M.m3]
      refine methl_in S1.e2 rfl ⟨kind_list S1.e2, pop_list e2s (nx ?_)⟩
      simp? only [M.m1, M.m2, M.m3]
      cases v with
      | int z => exact sub0_in (eqs_f (by decide) (hR (seen, L) _ _ lt ⟨O.pop (fun n e => nomatch e), M.val, Sp⟩))
      | cell n =>
        have hn := O.cl n (List.mem_append_right _ (List.mem_cons_self ..))
        refine sub0_in (eqs_t (sub1_in (notin_in Sp.e1 ?_)))
        by_cases q : n ∈ seen
        · rw [(dget_seen seen n).1 q]
          exact hR (seen, L) _ _ lt ⟨O.pop (fun m e => by cases e; exact q), M.val, Sp⟩
        · rw [(dget_seen seen n).2 q]
          have ml := O.met.len
          have hkl0 := o.keysLen
          have hlb := o.lb
          refine nx ?_
          simp? only [M.m1, M.m2, M.m3]
          refine sub1_in (setsub_in Sp.e1 (by unfold seenE; rw [List.length_map]; lia) (nx ?_))
          rw [dset_seen q]
          have Sq := Sp.saw (s' := seen ++ [n]) hk
          simp? only [M.m1, M.m2, M.m3]
          refine methl_in Sq.e2 rfl (attr_in Sq.h.aCells (sub1_in (subd_in Sq.h.cells (dget_keys hn) (attr_in (Sq.h.cSlots hn) ⟨_, _, _, rfl, Sq.h.slots n hn, .inl fun kn hkn => ?_⟩))))
          have Sn := Sq.new (o := .list ((ents (H.cell n).slots).map (·.2))) hkn
          have P := O.push o.toGr q
          have ee : L.map Val.av ++ (ents (H.cell n).slots).map (·.2) = (L ++ vals (H.cell n).slots).map Val.av := by simp [ents, vals]
          have le := P.1.mu
          refine ⟨kind_list Sn.e2, extend_list (sne Sq.e2 hkn) Sn.e2 set_same ?_ ?_⟩
          · rw [← List.length_append, ee, List.length_map]; exact Nat.lt_of_le_of_lt (Nat.le_trans (Nat.le_add_left _ _) le) (by decide)
          · rw [ee]; exact hR (seen ++ [n], L ++ vals (H.cell n).slots) _ _ P.2 ⟨P.1, M.val, Sn.lined hk⟩
  · simp [ents, vals]
end
end Gc
end
/- GcC22 -/
section
set_option backward.dsimp.useDefEqAttr false
namespace Gc

theorem inj_len {E : Int → Int → Prop} : ∀ {a b : List Int}, a.Nodup → (∀ x ∈ a, ∃ y ∈ b, E x y) → (∀ x ∈ a, ∀ x' ∈ a, ∀ y, E x y → E x' y → x = x') → a.length ≤ b.length
  | [], _, _, _, _ => Nat.zero_le _
  | x :: r, b, hn, hm, hi => by
    have hn' := List.nodup_cons.mp hn
    obtain ⟨y, hy, e⟩ := hm x (.head _)
    have ih := inj_len (a := r) (b := b.erase y) hn'.2 (fun z hz => by
      obtain ⟨w, hw, e'⟩ := hm z (.tail _ hz)
      have : w ≠ y := fun q => by
        subst q
        have := hi x (.head _) z (.tail _ hz) w e e'
        exact hn'.1 (this ▸ hz)
      exact ⟨w, (List.mem_erase_of_ne this).mpr hw, e'⟩) fun x hx x' hx' => hi x (.tail _ hx) x' (.tail _ hx')
    rw [List.length_erase_of_mem hy] at ih
    have : 0 < b.length := List.length_pos_of_mem hy
    rw [List.length_cons]; lia
theorem LR.mem {E : Int → Int → Prop} {l r : List (Int × Val)} (h : LR E l r) : ∀ p ∈ l, ∀ n, p.2 = .cell n → ∃ q, E n q := by
  induction h with
  | nil => intro p hp; cases hp
  | @cons k v u l r hv _ ih =>
    intro p hp n e
    rcases List.mem_cons.mp hp with q | q
    · subst q
      simp only at e
      subst e
      cases u with
      | int z => exact hv.elim
      | cell m => exact ⟨m, hv⟩
    · exact ih p q n e

section
variable {E : Int → Int → Prop} {B B' : Int} {H H' : HS}

theorem Bis.total (b : Bis E H H') (o : Ok B H []) (hb : H.buf = []) {n : Int} (hn : n ∈ H.keys) : ∃ q, E n q := by
  refine Rch.conv (T := fun n => ∃ q, E n q) o.cl (fun n r _ => ?_) (fun m n p hT hm hp e _ => ?_) (o.root n hn) hn
  · rcases r with ⟨p, hp, e⟩ | r | ⟨j, hj, _⟩
    · exact b.vars.mem p hp n e
    · cases r
    · rw [hb] at hj; cases hj
  · obtain ⟨q, hq⟩ := hT
    exact (b.cell m q hq).2.2.2.mem p hp n e

theorem mem_objs {n : Int} : n ∈ H.objs ↔ n ∈ H.keys ∧ (H.cell n).sort = .obj := by
  unfold HS.objs HS.objOf
  rw [List.mem_filter, mem_isort]; simp

theorem Bis.objs_le (b : Bis E H H') (o : Ok B H []) (hb : H.buf = []) : H.objs.length ≤ H'.objs.length := by
  refine inj_len (E := E) ((isort_nodup _ o.nd).filter _) (fun x hx => ?_) fun x hx x' _ y e e' => b.inj' x x' y e e' (by rw [(mem_objs.mp hx).2]; simp)
  have hx' := mem_objs.mp hx
  obtain ⟨q, hq⟩ := b.total o hb hx'.1
  have := b.cell x q hq
  exact ⟨q, mem_objs.mpr ⟨this.2.1, by rw [← this.2.2.1]; exact hx'.2⟩, hq⟩

theorem Sim.objs (s : Sim H H') (o : Ok B H []) (o' : Ok B' H' []) (hb : H.buf = []) (hb' : H'.buf = []) : H.objs.length = H'.objs.length := by
  obtain ⟨E, b⟩ := s
  exact Nat.le_antisymm (b.objs_le o hb) (b.flip.objs_le o' hb')

theorem left_of (o : Ok B H []) (hB : B + 1 ≤ 63) {D : Deed} (hD : D.ok) : Left (B + 1) (H.deed D).1 (some D, H, []) := by
  obtain ⟨a, b, c⟩ := o.deed (by lia) hD
  refine .deed (o.wfs (by lia)) b a .refl ?_
  have := settle_len (S := (H.deed D).2) hB a.toGr
  lia
end

noncomputable def Four (Hs : Nat → HS) (σ : Sto) : Prop := ∀ i, i < 4 → Holds i NF (Hs i) σ
noncomputable abbrev OwnAll (a : Name) : Prop := ∃ j t, a = .obj j t
noncomputable def heapsL : List AV := [hp 0, hp 1, hp 2, hp 3]
noncomputable def four (a b c e : HS) : Nat → HS
  | 0 => a
  | 1 => b
  | 2 => c
  | _ => e
inductive AlI (all : List Nat) (k3 : Nat) (σ1 : Sto) (r acc : List AV) (τ : Sto) : Prop
  | mk (pre suf : List Nat) (hs : all = pre ++ suf) (hr : r = suf.map hp) (ha : acc = pre.map (fun _ => AV.bool true)) (e : τ (.tmp k3) = some (.list acc)) (f : Fr (fun a => a = .tmp k3) σ1 τ) : AlI all k3 σ1 r acc τ
theorem lt4 {P : Nat → Prop} (h0 : P 0) (h1 : P 1) (h2 : P 2) (h3 : P 3) : ∀ i, i < 4 → P i := by
  intro i hi
  cases i with
  | zero => exact h0
  | succ i => cases i with
    | zero => exact h1
    | succ i => cases i with
      | zero => exact h2
      | succ i => cases i with
        | zero => exact h3
        | succ i => exact absurd hi (Nat.not_lt.mpr (Nat.le_add_left 4 i))

section
variable {B : Int} {Hs : Nat → HS} {d : Nat} {σ : Sto} {Q : AV → Sto → Prop}

theorem Holds.other {i j : Nat} {H : HS} {σ σ' : Sto} {fz : Int → Bool} (h : Holds i fz H σ) (f : Fr (Own j) σ σ') (hij : i ≠ j) : Holds i fz H σ' := h.fr f fun t q => by
  obtain ⟨t', e⟩ := q
  cases e
  exact hij rfl
theorem own_all {i : Nat} {σ σ' : Sto} (f : Fr (Own i) σ σ') : Fr OwnAll σ σ' := f.mono fun _ ⟨t, e⟩ => ⟨i, t, e⟩

theorem c_law_do {k : Nat} {D : Deed} (hB : B + 1 ≤ 63) (F : Four Hs σ) (ok : ∀ i, i < 4 → Ok B (Hs i) []) (sim : ∀ i, i < 4 → Sim (Hs 0) (Hs i)) (hD : D.ok) (e : σ (.tmp k) = some (.list heapsL))
    (hQ : ∀ Hs' σ', Four Hs' σ' → (∀ i, i < 4 → Ok (B + 1) (Hs' i) []) → (∀ i, i < 4 → Sim (Hs' 0) (Hs' i)) → Fr OwnAll σ σ' → Q .none σ') : wpFn prg (d + 14) "_law_do" [.ref (.tmp k), D.av] σ Q := by
  refine fn_intro rfl rfl ?_
  dsimp? only [d_law_do]
  have tm : ∀ {σ' : Sto}, Fr OwnAll σ σ' → σ' (.tmp k) = some (.list heapsL) := fun f => (f _ (fun ⟨_, _, q⟩ => by cases q) (.inl (by rw [e]; simp))).trans e
  have sd := fun i hi => (sim i hi).deed (ok 0 (by lia)) (ok i hi) (by lia) (by lia) hD
  refine subl_in e (by decide) (by decide) (show heapsL[(0 : Int).toNat]? = some (hp 0) from rfl) ?_
  refine c_do_deed (d := d + 4) (by lia) (F 0 (by lia)) (left_of (ok 0 (by lia)) hB hD) fun A σ1 oA sA hA f1 => ?_
  have g1 := own_all f1
  refine subl_in (tm g1) (by decide) (by decide) (show heapsL[(1 : Int).toNat]? = some (hp 1) from rfl) ?_
  refine c_do_deed (d := d + 4) (by lia) ((F 1 (by lia)).other f1 (by decide)) (left_of (ok 1 (by lia)) hB hD) fun A1 σ2 oA1 sA1 hA1 f2 => ?_
  have g2 := g1.trans (own_all f2)
  refine subl_in (tm g2) (by decide) (by decide) (show heapsL[(1 : Int).toNat]? = some (hp 1) from rfl) ?_
  refine c_collect (d := d + 2) hB hA1 oA1 fun A2 σ3 z oA2 sA2 _ hA2 f3 => ?_
  have g3 := g2.trans (own_all f3)
  refine subl_in (tm g3) (by decide) (by decide) (show heapsL[(2 : Int).toNat]? = some (hp 2) from rfl) ?_
  refine c_run_deed (d := d) hB ((((F 2 (by lia)).other f1 (by decide)).other f2 (by decide)).other f3 (by decide)) (left_of (ok 2 (by lia)) hB hD) fun A3 σ4 oA3 sA3 hA3 f4 => ?_
  have g4 := g3.trans (own_all f4)
  refine subl_in (tm g4) (by decide) (by decide) (show heapsL[(3 : Int).toNat]? = some (hp 3) from rfl) ?_
  refine c_run_deed (d := d) hB (((((F 3 (by lia)).other f1 (by decide)).other f2 (by decide)).other f3 (by decide)).other f4 (by decide)) (left_of (ok 3 (by lia)) hB hD) fun A4 σ5 oA4 sA4 hA4 f5 => ?_
  simp only [Out.val]
  refine hQ (four A A2 A3 A4) σ5 (lt4 ?_ ?_ ?_ ?_) (lt4 oA oA2 oA3 oA4) (lt4 ?_ ?_ ?_ ?_) (g4.trans (own_all f5))
  · exact (((hA.other f2 (by decide)).other f3 (by decide)).other f4 (by decide)).other f5 (by decide)
  · exact (hA2.other f4 (by decide)).other f5 (by decide)
  · exact hA3.other f5 (by decide)
  · exact hA4
  · exact ((sd 0 (by lia)).shr sA oA.toGr).shr' sA oA.toGr
  · exact ((sd 1 (by lia)).shr sA oA.toGr).shr' (sA1.trans sA2) oA2.toGr
  · exact ((sd 2 (by lia)).shr sA oA.toGr).shr' sA3 oA3.toGr
  · exact ((sd 3 (by lia)).shr sA oA.toGr).shr' sA4 oA4.toGr

theorem Holds.keep {i : Nat} {H : HS} {σ σ' : Sto} {fz : Int → Bool} (h : Holds i fz H σ) (f : Fr (fun _ => False) σ σ') : Holds i fz H σ' := h.fr f fun _ q => q
theorem Four.keep {σ σ' : Sto} (h : Four Hs σ) (f : Fr (fun _ => False) σ σ') : Four Hs σ' := fun i hi => (h i hi).keep f

theorem c_alike {k : Nat} (hB : B ≤ 63) (F : Four Hs σ) (gr : ∀ i, i < 4 → Gr B (Hs i)) (sim : ∀ i, i < 4 → Sim (Hs 0) (Hs i)) (e : σ (.tmp k) = some (.list heapsL))
    (hQ : ∀ σ', Fr (fun _ => False) σ σ' → Q (.bool true) σ') : wpFn prg (d + 252) "_law_are_alike" [.ref (.tmp k)] σ Q := by
  show wpFn prg (d + 251 + 1) _ _ _ _
  refine fn_intro rfl rfl ?_
  dsimp? only [d_law_are_alike]
  refine subl_in e (by decide) (by decide) (show heapsL[(0 : Int).toNat]? = some (hp 0) from rfl) ?_
  refine c_tells (d := d) hB (F 0 (by lia)) (gr 0 (by lia)) fun t σ1 h1 ht e1 f1 => ?_
  have e2 : σ1 (.tmp k) = some (.list heapsL) := (f1 _ (fun q => q) (.inl (by rw [e]; simp))).trans e
  rw [wpE_all rfl]
  rw [wE6, wpE_var]
  refine ⟨_, by simp [upd_ap], _, _, rfl, e2, .inl fun k2 hk2 => ?_⟩
  have ne1 : Name.tmp k ≠ .tmp k2 := fun q => by rw [← q, e2] at hk2; cases hk2
  have ne2 : Name.tmp t ≠ .tmp k2 := fun q => by rw [← q, e1] at hk2; cases hk2
  have f2 : Fr (fun _ => False) σ (σ1.set (.tmp k2) (.list (heapsL.drop 1))) := f1.trans (.tmp hk2)
  have e3 : (σ1.set (.tmp k2) (.list (heapsL.drop 1))) (.tmp t) = some (.list (Hs 0).tells) := (set_ne ne2).trans e1
  have e4 : (σ1.set (.tmp k2) (.list (heapsL.drop 1))) (.tmp k2) = some (.list (heapsL.drop 1)) := set_same
  generalize σ1.set (.tmp k2) (.list (heapsL.drop 1)) = σ2 at f2 e3 e4 ⊢
  have F2 := F.keep f2
  refine ⟨heapsL.drop 1, by simp only [itemsOf, e4], by simp only [frz, e4], .inl fun k3 hk3 => ?_⟩
  have ne3 : Name.tmp t ≠ .tmp k3 := fun q => by rw [← q, e3] at hk3; cases hk3
  have ne4 : Name.tmp k2 ≠ .tmp k3 := fun q => by rw [← q, e4] at hk3; cases hk3
  refine compAll_rule (AlI [1, 2, 3] k3 σ2) ?_ ?_ ?_
    ⟨[], [1, 2, 3], rfl, rfl, rfl, set_same, .set rfl⟩
  · rintro r acc τ ⟨pre, suf, _, _, _, e5, f3⟩
    exact ⟨by show τ (.tmp k2) = σ2 (.tmp k2); exact f3 _ ne4 (.inl (by rw [e4]; simp)), e5⟩
  · rintro v r acc τ ⟨pre, suf, hs, hr, rfl, e5, f3⟩
    cases suf with
    | nil => cases hr
    | cons j suf =>
      simp only [List.map_cons, List.cons.injEq] at hr
      obtain ⟨rfl, rfl⟩ := hr
      have hj : j < 4 := by
        have : j ∈ [1, 2, 3] := by rw [hs]; simp
        simp at this; lia
      have hj' : Holds j NF (Hs j) τ := (F2 j hj).fr f3 fun t q => by cases q
      have e6 : τ (.tmp t) = some (.list (Hs 0).tells) := (f3 _ ne3 (.inl (by rw [e3]; simp))).trans e3
      have lp := congrArg List.length hs
      rw [List.length_append, List.length_cons] at lp
      simp only [List.length_cons, List.length_nil] at lp
      dsimp? only []
      refine c_tells (d := d) hB hj' (gr j hj) fun t4 σ4 h4 ht4 e7 f4 => ?_
      have e8 := (f4 _ (fun q => q) (.inl (by rw [e6]; simp))).trans e6
      have e9 := (f4 _ (fun q => q) (.inl (by rw [e5]; simp))).trans e5
      have fl := (tells_len (gr 0 (by lia)) hB).2
      rw [← (sim j hj).tells] at e7
      refine ⟨⟨_, e7, e8, List.all_eq_true.mpr fl⟩, e9, ?_, pre ++ [j], suf, by rw [hs]; simp, rfl, by simp, set_same, ?_⟩
      · rw [List.length_map]; exact Nat.lt_of_lt_of_le (show pre.length < 4 by lia) (by decide)
      · exact f3.trans ((f4.mono fun _ q => q.elim).trans (.set rfl))
  · rintro acc τ ⟨pre, suf, hs, hr, rfl, e5, f3⟩
    have hs0 : suf = [] := by cases suf <;> simp at hr ⊢
    subst hs0
    rw [List.append_nil] at hs
    subst hs
    refine ⟨[true, true, true], e5, ?_⟩
    simp only [Out.val, List.all_cons, List.all_nil, id, Bool.and_self]
    exact hQ τ (f2.trans (f3.drop fun a ha => by subst ha; exact ⟨hk3, _, rfl⟩))
end
end Gc
end
/- GcC23 -/
section
set_option backward.dsimp.useDefEqAttr false
namespace Gc
noncomputable def tl : Sts → Sts
  | .cons _ r => r
  | .nil => .nil

section
variable {B : Int} {Hs : Nat → HS} {d : Nat} {σ : Sto}

theorem ok_new (full : Int) : Ok 0 (HS.new full) [] := by
  refine ⟨⟨.nil, fun n h => (by cases h), fun n h => (by cases h), fun p h => (by cases h), fun n h => (by cases h), fun n h => (by cases h), fun n h => (by cases h), ⟨.nil, fun p h => (by cases h)⟩, rfl, Int.le_refl _, Int.le_refl _, Int.le_refl _⟩, fun n h => (by cases h), .nil, fun n => ?_, fun n h => (by cases h), fun n h => (by cases h)⟩
  constructor
  · intro h; cases h
  · rintro ⟨h, _⟩; cases h
theorem sim_new (a b : Int) : Sim (HS.new a) (HS.new b) := ⟨fun _ _ => False, .nil, fun _ _ h => h.elim, fun _ _ _ h => h.elim, fun _ _ _ h => h.elim⟩

theorem mk_heap {i : Nat} {full : Int} {P : Name → Sto → Prop} (hfree : ∀ t, σ (.obj i t) = none) (hP : ∀ σ', Holds i NF (HS.new full) σ' → Fr (Own i) σ σ' → P (.obj i .heap) σ') :
    wpNew σ (.inst "Counted" []) fun n σ'' => wpFn prg (d + 1) ("Counted" ++ ".__init__") [.ref n, .int full] σ'' fun r τ => r = .none ∧ P n τ := by
  refine .inr ⟨i, .heap, hfree _, ?_⟩
  refine c_Counted set_same (fun t ht => (set_ne (by simpa using ht)).trans (hfree t)) fun σ' h' f' => ⟨rfl, hP σ' h' ((Fr.set ⟨_, rfl⟩).trans f')⟩

theorem get_int {ns : List Int} {j : Nat} (h : j < ns.length) : ∃ z : Int, (ns.map AV.int)[j]? = some (.int z) := ⟨ns[j], by simp [h]⟩

noncomputable abbrev PostT : Out → Loc → Sto → Prop := fun o _ _ => o.val = .bool true

inductive LcI (B : Int) (k : Nat) (r : List AV) (m : Loc) (τ : Sto) : Prop
  | mk (hm : m "heaps" = some (.ref (.tmp k))) (e : τ (.tmp k) = some (.list heapsL)) (pre suf : List Nat) (hs : [0, 1, 2, 3] = pre ++ suf) (hr : r = suf.map hp) (Hs : Nat → HS) (F : Four Hs τ) (ok : ∀ i, i < 4 → Ok B (Hs i) []) (sim : ∀ i, i < 4 → Sim (Hs 0) (Hs i)) (hb : ∀ i ∈ pre, (Hs i).buf = []) : LcI B k r m τ
theorem law_walk4 {m : Loc} {k : Nat} (hB : B ≤ 63) (F : Four Hs σ) (ok : ∀ i, i < 4 → Ok B (Hs i) []) (sim : ∀ i, i < 4 → Sim (Hs 0) (Hs i)) (hb : ∀ i, i < 4 → (Hs i).buf = []) (hm : m "heaps" = some (.ref (.tmp k))) (e : σ (.tmp k) = some (.list heapsL)) :
    wpSs (wpFn prg 300) (tl (tl (tl (tl (tl d_law.body))))) m σ PostT := by
  simp only [tl, d_law]
  dsimp? only [hm]
  refine c_alike (d := 48) hB F (fun i hi => (ok i hi).toGr) sim e fun σ1 f1 => ?_
  refine tru_in ?_
  dsimp only
  have F1 := F.keep f1
  have e1 := (f1 _ (fun q => q) (.inl (by rw [e]; simp))).trans e
  rw [wpE_all rfl]; rw [wpE_var]
  refine ⟨_, hm, heapsL, by simp only [itemsOf, e1], by simp only [frz, e1], .inl fun k3 hk3 => ?_⟩
  dsimp only
  have ne3 : Name.tmp k ≠ .tmp k3 := fun q => by rw [← q, e1] at hk3; cases hk3
  refine compAll_rule (AlI [0, 1, 2, 3] k3 σ1) ?_ ?_ ?_
    ⟨[], [0, 1, 2, 3], rfl, rfl, rfl, set_same, .set rfl⟩
  · rintro r acc τ ⟨pre, suf, _, _, _, e5, f3⟩
    exact ⟨by show τ (.tmp k) = σ1 (.tmp k); exact f3 _ ne3 (.inl (by rw [e1]; simp)), e5⟩
  · rintro v r acc τ ⟨pre, suf, hs, hr, rfl, e5, f3⟩
    cases suf with
    | nil => cases hr
    | cons j suf =>
      simp only [List.map_cons, List.cons.injEq] at hr
      obtain ⟨rfl, rfl⟩ := hr
      have hj : j < 4 := by
        have : j ∈ [0, 1, 2, 3] := by rw [hs]; simp
        simp at this; lia
      have h2 : ∀ i, i < 4 → Holds i NF (Hs i) τ := fun i hi => (F1 i hi).fr f3 fun t q => by cases q
      have e6 : τ (.tmp k) = some (.list heapsL) := (f3 _ ne3 (.inl (by rw [e1]; simp))).trans e1
      have lp := congrArg List.length hs
      rw [List.length_append, List.length_cons] at lp
      simp only [List.length_cons, List.length_nil] at lp
      dsimp? only [hm]
      refine c_objects (d := 299) hB (h2 j hj) (ok j hj) (hb j hj) fun t4 σ4 h4 ht4 e7 f4 => ?_
      refine len_list e7 ?_
      have e8 := (f4 _ (fun q => q) (.inl (by rw [e6]; simp))).trans e6
      have e9 := (f4 _ (fun q => q) (.inl (by rw [e5]; simp))).trans e5
      refine subl_in e8 (by decide) (by decide) (show heapsL[(0 : Int).toNat]? = some (hp 0) from rfl) ?_
      refine c_objects (d := 299) hB ((h2 0 (by lia)).keep f4) (ok 0 (by lia)) (hb 0 (by lia)) fun t5 σ5 h5 ht5 e10 f5 => ?_
      refine len_list e10 ?_
      have e11 := (f5 _ (fun q => q) (.inl (by rw [e9]; simp))).trans e9
      have el : ((((Hs j).objs.map AV.int).length : Nat) : Int) = (((Hs 0).objs.map AV.int).length : Nat) := by
        rw [List.length_map, List.length_map, (sim j hj).objs (ok 0 (by lia)) (ok j hj) (hb 0 (by lia)) (hb j hj)]
      simp only [cmp_eq_int]
      rw [decide_eq_true el]
      refine ⟨e11, ?_, pre ++ [j], suf, by rw [hs]; simp, rfl, by simp, set_same, ?_⟩
      · rw [List.length_map]; exact Nat.lt_of_lt_of_le (show pre.length < 5 by lia) (by decide)
      · exact f3.trans ((f4.mono fun _ q => q.elim).trans ((f5.mono fun _ q => q.elim).trans (.set rfl)))
  · rintro acc τ ⟨pre, suf, hs, hr, rfl, e5, f3⟩
    have hs0 : suf = [] := by cases suf <;> simp at hr ⊢
    subst hs0
    rw [List.append_nil] at hs
    subst hs
    exact ⟨[true, true, true, true], e5, rfl⟩

theorem law_walk3 {m : Loc} {k : Nat} (hB : B ≤ 63) (F : Four Hs σ) (ok : ∀ i, i < 4 → Ok B (Hs i) []) (sim : ∀ i, i < 4 → Sim (Hs 0) (Hs i)) (hm : m "heaps" = some (.ref (.tmp k))) (e : σ (.tmp k) = some (.list heapsL)) :
    wpSs (wpFn prg 300) (tl (tl (tl (tl d_law.body)))) m σ PostT := by
  show wpSs (wpFn prg 300) (.cons (.forr "heap" (.var "heaps") _) (tl (tl (tl (tl (tl d_law.body)))))) m σ PostT
  rw [wSs2, wS14, src_var, wpE_var]
  refine ⟨_, hm, ?_⟩
  refine ⟨heapsL, by simp only [itemsOf, e], ?_⟩
  rw [frz_list e]
  refine for_rule' (LcI B k) ?_ ?_ ?_
    ⟨hm, e, [], [0, 1, 2, 3], rfl, rfl, Hs, F, ok, sim, fun i hi => by cases hi⟩
  · rintro r m τ ⟨_, e1, _⟩
    exact e1.trans e.symm
  · rintro v r m τ ⟨m1, e1, pre, suf, hs, hr, Hs, F, ok, sim, hb⟩
    cases suf with
    | nil => cases hr
    | cons j suf =>
      simp only [List.map_cons, List.cons.injEq] at hr
      obtain ⟨rfl, rfl⟩ := hr
      have hj : j < 4 := by
        have : j ∈ [0, 1, 2, 3] := by rw [hs]; simp
        simp at this; lia
      have hjp : j ∉ pre := fun q => by
        have nd : ([0, 1, 2, 3] : List Nat).Nodup := by decide
        rw [hs, List.nodup_append] at nd
        exact nd.2.2 j q j (.head _) rfl
      dsimp? only [m1]
      refine c_collect (d := 289) hB (F j hj) (ok j hj) fun H3 σ3 z o3 s3 b3 h3 f3 => ?_
      have hkl := o3.keysLen
      have hlb := o3.lb
      rw [wE22]; refine ⟨rfl, ?_⟩; rw [wE18, wE3, wpE_var]
      refine ⟨hp j, by simp [upd_ap], ?_⟩
      refine ⟨_, h3.aCells, ?_⟩
      refine ⟨H3.keys, by lia, .inr ⟨_, _, h3.cells, by simp [Function.comp_def]⟩, .inl fun kt hkt => ?_⟩
      dsimp only
      refine obj_comp (H := H3) (i := j) (ns := isort H3.keys) (fun n hn => (mem_isort _ n).mp hn) (by rw [isort_len]; lia) h3.tmp set_same (by simp [upd_ap]) fun k1 σ4 hk1 h4 e4 f4 => ?_
      refine c_objects (d := 299) hB h4 o3 b3 fun t5 σ5 h5 ht5 e5 f5 => ?_
      have e4' := (f5 _ (fun q => q) (.inl (by rw [e4]; simp))).trans e4
      have fl : ((H3.objOf (isort H3.keys)).map AV.int).all AV.flat = true := List.all_eq_true.mpr fun x hx => by
        obtain ⟨n, _, rfl⟩ := List.mem_map.mp hx
        rfl
      refine .inl ⟨⟨_, e4', e5, fl⟩, ?_⟩
      have ft : Fr (fun _ => False) σ3 σ5 := (Fr.tmp hkt).trans (f4.trans f5)
      have e2 : σ3 (.tmp k) = some (.list heapsL) := (f3 _ (fun ⟨_, q⟩ => by cases q) (.inl (by rw [e1]; simp))).trans e1
      have hne : ∀ i, i ≠ j → (if i = j then H3 else Hs i) = Hs i := fun i hi => if_neg hi
      have s0 : ∀ i, i < 4 → Sim (Hs 0) (if i = j then H3 else Hs i) := fun i hi => by
        split
        · rename_i q; subst q; exact (sim i hi).shr' s3 o3.toGr
        · exact sim i hi
      refine ⟨m1, (ft _ (fun q => q) (.inl (by rw [e2]; simp))).trans e2, pre ++ [j], suf, by rw [hs]; simp, rfl, fun i => if i = j then H3 else Hs i, fun i hi => ?_, fun i hi => ?_, fun i hi => ?_, fun i hi => ?_⟩
      · by_cases q : i = j
        · subst q; simp only [if_true]; exact h5
        · simp only [if_neg q]; exact ((F i hi).other f3 q).keep ft
      · by_cases q : i = j
        · subst q; simp only [if_true]; exact o3
        · simp only [if_neg q]; exact ok i hi
      · have s1 := s0 i hi
        by_cases q : 0 = j
        · subst q; simp only [if_true] at s1 ⊢; exact s1.shr s3 o3.toGr
        · simp only [if_neg q]; exact s1
      · rcases List.mem_append.mp hi with w | w
        · have : i ≠ j := fun q => hjp (q ▸ w)
          simp only [if_neg this]; exact hb i w
        · rw [List.mem_singleton.mp w]; simp only [if_true]; exact b3
  · rintro m τ ⟨m1, e1, pre, suf, hs, hr, Hs, F, ok, sim, hb⟩
    have hs0 : suf = [] := by cases suf <;> simp at hr ⊢
    subst hs0
    rw [List.append_nil] at hs
    rw [unfrz_list e]
    exact law_walk4 hB F ok sim (fun i hi => hb i (by rw [← hs]; simp; lia)) m1 e1

inductive LwI (ks kt kh : Nat) (ns : List Int) (xs : List AV) (r : List AV) (m : Loc) (τ : Sto) : Prop
  | mk (m1 : m "script" = some (.ref (.tmp ks))) (m2 : m "told" = some (.ref (.tmp kt))) (m3 : m "heaps" = some (.ref (.tmp kh))) (e1 : τ (.tmp ks) = some (.list (ns.map .int))) (e2 : τ (.tmp kt) = some (.list xs)) (e3 : τ (.tmp kh) = some (.list heapsL))
      (j s : Nat) (hjs : j + s = 22) (hr : r = (List.range' j s).map (fun i => AV.int (Int.ofNat i))) (Hs : Nat → HS) (F : Four Hs τ) (ok : ∀ i, i < 4 → Ok j (Hs i) []) (sim : ∀ i, i < 4 → Sim (Hs 0) (Hs i)) : LwI ks kt kh ns xs r m τ
theorem law_walk2 {ns : List Int} {m : Loc} {ks kt kh : Nat} {xs : List AV} {Hs : Nat → HS} (hxl : xs.length = 22) (hxs : ∀ v ∈ xs, ∃ a b c d e : Int, v = .tup [.int a, .int b, .int c, .int d, .int e]) (hl : ns.length ≤ 63) (F : Four Hs σ) (ok : ∀ i, i < 4 → Ok 0 (Hs i) []) (sim : ∀ i, i < 4 → Sim (Hs 0) (Hs i))
    (m1 : m "script" = some (.ref (.tmp ks))) (m2 : m "told" = some (.ref (.tmp kt))) (m3 : m "heaps" = some (.ref (.tmp kh))) (e1 : σ (.tmp ks) = some (.list (ns.map .int))) (e2 : σ (.tmp kt) = some (.list xs)) (e3 : σ (.tmp kh) = some (.list heapsL)) :
    wpSs (wpFn prg 300) (tl (tl (tl d_law.body))) m σ PostT := by
  show wpSs (wpFn prg 300) (.cons (.forr "k" (.bi .range (.cst (.int 22))) _) (tl (tl (tl (tl d_law.body))))) m σ PostT
  rw [wSs2, wS14, lsrc_range]
  refine ⟨by decide, ?_⟩
  refine for_rule' (LwI ks kt kh ns xs) ?_ ?_ ?_
    ⟨m1, m2, m3, e1, e2, e3, 0, 22, rfl, by rw [List.range_eq_range']; rfl, Hs, F, ok, sim⟩
  · intro r m τ _; trivial
  · rintro v r m τ ⟨m1, m2, m3, e1, e2, e3, j, s, hjs, hr, Hs, F, ok, sim⟩
    cases s with
    | zero => cases hr
    | succ s =>
      rw [List.range'_succ, List.map_cons] at hr
      simp only [List.cons.injEq] at hr
      obtain ⟨rfl, rfl⟩ := hr
      dsimp? only [m1, m2, m3]
      have hjx : j < xs.length := by lia
      have hv : xs[(Int.ofNat j).toNat]? = some xs[j] := List.getElem?_eq_getElem hjx
      obtain ⟨t1, t2, t3, t4, t5, ht⟩ := hxs _ (List.getElem_mem hjx)
      rw [ht] at hv
      have jn : (0 : Int) ≤ Int.ofNat j ∧ Int.ofNat j < 65536 := ⟨Int.natCast_nonneg j, by show (j : Int) < 65536; lia⟩
      refine subl_in e2 jn.1 jn.2 hv ?_
      refine len_list e1 ?_
      rw [cmp_lt_int]
      by_cases hc : Int.ofNat j < ((ns.map AV.int).length : Int)
      case' pos =>
        have hjl : j < ns.length := by
          rw [List.length_map] at hc
          have : (j : Int) < (ns.length : Int) := hc
          lia
        obtain ⟨z, hz⟩ := get_int hjl
        simp only [decide_eq_true hc]
        refine subl_in e1 jn.1 jn.2 hz ?_
      case' neg =>
        simp only [decide_eq_false hc]
      all_goals
        refine c_row (d := 299) fun kr σ1 a b c g f hkr hne e4 ha hb hc hg => ?_
        refine c_deed (d := 299) (w := a) (a := b) (b := c) (c := g) (n := f) e4 ha hb hc hg fun D kd o hD hkd => ?_
        have f1 : Fr (fun _ => False) τ (σ1.set (.tmp kd) o) := Fr.trans (fun a _ hx => hne a fun q => by
          subst q
          rcases hx with hx | ⟨_, _, q⟩
          · exact hx hkr
          · cases q) (.tmp hkd)
        generalize σ1.set (.tmp kd) o = σ2 at f1 ⊢
        have F2 := F.keep f1
        have e1' := (f1 _ (fun q => q) (.inl (by rw [e1]; simp))).trans e1
        have e2' := (f1 _ (fun q => q) (.inl (by rw [e2]; simp))).trans e2
        have e3' := (f1 _ (fun q => q) (.inl (by rw [e3]; simp))).trans e3
        refine c_law_do (d := 286) (B := (j : Int)) (by lia) F2 ok sim hD e3' fun Hs' σ3 F3 ok3 sim3 f3 => ?_
        have nt : ∀ k, ¬ OwnAll (.tmp k) := fun k ⟨_, _, q⟩ => by cases q
        have e1'' := (f3 _ (nt _) (.inl (by rw [e1']; simp))).trans e1'
        have e2'' := (f3 _ (nt _) (.inl (by rw [e2']; simp))).trans e2'
        have e3'' := (f3 _ (nt _) (.inl (by rw [e3']; simp))).trans e3'
        refine ⟨by decide, ?_⟩
        dsimp only
        rw [cmp_eq_int]
        cases q : decide (Int.ofNat j % 8 = 7) with
        | true =>
          refine c_alike (d := 48) (B := (j : Int) + 1) (by lia) F3 (fun i hi => (ok3 i hi).toGr) sim3 e3'' fun σ4 f4 => ?_
          refine tru_in ?_
          exact ⟨m1, m2, m3, (f4 _ (fun q => q) (.inl (by rw [e1'']; simp))).trans e1'', (f4 _ (fun q => q) (.inl (by rw [e2'']; simp))).trans e2'', (f4 _ (fun q => q) (.inl (by rw [e3'']; simp))).trans e3'', j + 1, s, by lia, rfl, Hs', F3.keep f4, ok3, sim3⟩
        | false => exact ⟨m1, m2, m3, e1'', e2'', e3'', j + 1, s, by lia, rfl, Hs', F3, ok3, sim3⟩
  · rintro m τ ⟨m1, m2, m3, e1, e2, e3, j, s, hjs, hr, Hs, F, ok, sim⟩
    cases s with
    | succ s => cases hr
    | zero =>
      have : j = 22 := by lia
      subst this
      exact law_walk3 (B := 22) (by decide) F ok sim m3 e3

theorem law_walk1 {ns : List Int} {m : Loc} {ks kt : Nat} {xs : List AV} {x : Int} (hxl : xs.length = 22) (hxs : ∀ v ∈ xs, ∃ a b c d e : Int, v = .tup [.int a, .int b, .int c, .int d, .int e]) (hl : ns.length ≤ 63) (hf : ∀ i t, σ (.obj i t) = none)
    (m1 : m "script" = some (.ref (.tmp ks))) (m2 : m "told" = some (.ref (.tmp kt))) (m3 : m "x" = some (.int x)) (e1 : σ (.tmp ks) = some (.list (ns.map .int))) (e2 : σ (.tmp kt) = some (.list xs)) :
    wpSs (wpFn prg 300) (tl (tl d_law.body)) m σ PostT := by
  show wpSs (wpFn prg 300) (.cons (.set "heaps" (.list (.cons (.mk "Counted" (.cons (.cst (.int 1000)) .nil)) (.cons (.mk "Counted" (.cons (.cst (.int 1000)) .nil)) (.cons (.mk "Counted" (.cons (.bin .add (.cst (.int 1)) (.bin .mod (.var "x") (.cst (.int 8)))) .nil)) (.cons (.mk "Counted" (.cons (.bin .add (.cst (.int 1)) (.bin .mod (.bin .fdiv (.var "x") (.cst (.int 8))) (.cst (.int 8)))) .nil)) .nil))))))
    (tl (tl (tl d_law.body)))) m σ PostT
  rw [wSs2]
  dsimp? only [m3]
  have nt : ∀ i k, ¬ Own i (.tmp k) := fun i k ⟨_, q⟩ => by cases q
  have no : ∀ i j t, j ≠ i → ¬ Own i (.obj j t) := fun i j t h ⟨_, q⟩ => by cases q; exact h rfl
  refine mk_heap (i := 0) (d := 299) (hf 0) fun σ1 h1 f1 => ?_
  have g1 : ∀ j t, j ≠ 0 → σ1 (.obj j t) = none := fun j t h => (f1 _ (no 0 j t h) (.inr ⟨_, _, rfl⟩)).trans (hf j t)
  refine mk_heap (i := 1) (d := 299) (fun t => g1 1 t (by decide)) fun σ2 h2 f2 => ?_
  have g2 : ∀ j t, j ≠ 0 → j ≠ 1 → σ2 (.obj j t) = none := fun j t h h' => (f2 _ (no 1 j t h') (.inr ⟨_, _, rfl⟩)).trans (g1 j t h)
  refine ⟨by decide, ?_⟩
  simp only [bin_add, bin_sub, bin_mod, bin_fdiv]
  refine mk_heap (i := 2) (d := 299) (fun t => g2 2 t (by decide) (by decide)) fun σ3 h3 f3 => ?_
  have g3 : ∀ j t, j ≠ 0 → j ≠ 1 → j ≠ 2 → σ3 (.obj j t) = none := fun j t h h' h'' => (f3 _ (no 2 j t h'') (.inr ⟨_, _, rfl⟩)).trans (g2 j t h h')
  refine ⟨by decide, by decide, ?_⟩
  refine ⟨by decide, ?_⟩
  refine mk_heap (i := 3) (d := 299) (fun t => g3 3 t (by decide) (by decide) (by decide)) fun σ4 h4 f4 => ?_
  refine .inl fun kh hkh => ?_
  have f : Fr OwnAll σ σ4 := (own_all f1).trans ((own_all f2).trans ((own_all f3).trans (own_all f4)))
  have nta : ∀ k, ¬ OwnAll (.tmp k) := fun k ⟨_, _, q⟩ => by cases q
  have e1' := (f _ (nta _) (.inl (by rw [e1]; simp))).trans e1
  have e2' := (f _ (nta _) (.inl (by rw [e2]; simp))).trans e2
  have n1 : Name.tmp ks ≠ .tmp kh := fun q => by rw [← q, e1'] at hkh; cases hkh
  have n2 : Name.tmp kt ≠ .tmp kh := fun q => by rw [← q, e2'] at hkh; cases hkh
  refine law_walk2 (Hs := four (HS.new 1000) (HS.new 1000) (HS.new (1 + x % 8)) (HS.new (1 + x / 8 % 8))) hxl hxs hl (lt4 ?_ ?_ ?_ ?_) (lt4 (ok_new _) (ok_new _) (ok_new _) (ok_new _)) (lt4 (sim_new _ _) (sim_new _ _) (sim_new _ _) (sim_new _ _)) (by simp [upd_ap, m1]) (by simp [upd_ap, m2]) (by simp [upd_ap]) ((set_ne n1).trans e1') ((set_ne n2).trans e2') set_same
  · exact (((h1.other f2 (by decide)).other f3 (by decide)).other f4 (by decide)).tmp
  · exact ((h2.other f3 (by decide)).other f4 (by decide)).tmp
  · exact (h3.other f4 (by decide)).tmp
  · exact h4.tmp

theorem law_walk {ns : List Int} (hl : ns.length ≤ 63) {k : Nat} (e : σ (.tmp k) = some (.list (ns.map .int))) (he : ∀ b, b ≠ .tmp k → σ b = none) : wpSs (wpFn prg 300) (tl d_law.body) (upd noLoc "script" (.ref (.tmp k))) σ PostT := by
  show wpSs (wpFn prg 300) (.cons (.set2 "told" "x" (.call "_law_told" .nil) (.ite (.cmp .gt (.bi .len (.var "script")) (.cst (.int 22))) (.sub (.var "script") (.cst (.int 22))) (.cst (.int 1)))) (tl (tl d_law.body))) _ σ PostT
  rw [wSs2]
  dsimp? only []
  refine c_told (d := 299) fun t xs ht hxl hxs => ?_
  have ne : Name.tmp k ≠ .tmp t := fun q => by rw [← q, e] at ht; cases ht
  have e1 : (σ.set (.tmp t) (.list xs)) (.tmp k) = some (.list (ns.map .int)) := (set_ne ne).trans e
  have e2 : (σ.set (.tmp t) (.list xs)) (.tmp t) = some (.list xs) := set_same
  have e0 : ∀ i g, (σ.set (.tmp t) (.list xs)) (.obj i g) = none := fun i g => (set_ne (by simp)).trans (he _ (by simp))
  generalize σ.set (.tmp t) (.list xs) = σ1 at e1 e2 e0 ⊢
  refine len_list e1 ?_
  rw [cmp_gt_int]
  by_cases hc : ((ns.map AV.int).length : Int) > 22
  · have hjl : 22 < ns.length := by
      rw [List.length_map] at hc; lia
    obtain ⟨z, hz⟩ := get_int hjl
    simp only [decide_eq_true hc]
    refine subl_in e1 (by decide) (by decide) (show (ns.map AV.int)[(22 : Int).toNat]? = some (.int z) from hz) ?_
    exact law_walk1 (x := z) hxl hxs hl e0 (by simp [upd_ap]) (by simp [upd_ap]) (by simp [upd_ap]) e1 e2
  · simp only [decide_eq_false hc]
    exact law_walk1 (x := 1) hxl hxs hl e0 (by simp [upd_ap]) (by simp [upd_ap]) (by simp [upd_ap]) e1 e2
end
end Gc
end
theorem PySem.Challenge.cw_pq0849_01_holds : PySem.Challenge.rw_pq0849_01.Holds :=
  Gc.join fun _ hle _ _ h1 h2 => Gc.law_walk hle h1 h2
