import PyProof.Rows.All
import Wide.All
import OpenK.AllK
import Wide.FinOn
import Lean
import PySem.Challenge.RW_ov0069_01
set_option Elab.async false
set_option maxRecDepth 100000
set_option linter.all false
open PySem PySem.W PyProof.Rows
noncomputable section
/-! Emb -/
namespace Mine

/-- abstract values -/
inductive AV where
  | none | bool (b : Bool) | int (i : Int) | str (k : Nat)
  | tup (ds : List AV) | list (ds : List AV) | vec (k i : AV)
  | ref (n : Nat) | fn (f : Nat)

noncomputable abbrev Sto := List (Option (List AV))
noncomputable abbrev Rho := Nat → Option AV
noncomputable def upd (ρ : Rho) (x : Nat) (d : AV) : Rho := fun y => if y = x then some d else ρ y
@[simp] theorem upd_same (ρ : Rho) (x : Nat) (d : AV) : upd ρ x d x = some d := by simp [upd]
theorem upd_ne {ρ : Rho} {x y : Nat} {d : AV} (h : y ≠ x) : upd ρ x d y = ρ y := by simp [upd, h]

mutual
noncomputable def eqb : AV → AV → Bool
  | .none, .none => true
  | .int i, .int j => decide (i = j)
  | .str a, .str b => decide (a = b)
  | .tup xs, .tup ys => eqbs xs ys
  | .list xs, .list ys => eqbs xs ys
  | _, _ => false
noncomputable def eqbs : List AV → List AV → Bool
  | [], [] => true
  | x :: xs, y :: ys => eqb x y && eqbs xs ys
  | _, _ => false
end

/-- comparable data of depth at most n -/
noncomputable def okD : Nat → AV → Bool
  | _, .none => true
  | _, .int _ => true
  | _, .str k => decide (k < 13)
  | n + 1, .tup ds => ds.all (okD n)
  | n + 1, .list ds => ds.all (okD n)
  | _, _ => false

mutual
noncomputable def refsBelow (k : Nat) : AV → Bool
  | .ref n => decide (n < k)
  | .tup ds => refsBelows k ds
  | .list ds => refsBelows k ds
  | .vec a b => refsBelow k a && refsBelow k b
  | _ => true
noncomputable def refsBelows (k : Nat) : List AV → Bool
  | [] => true
  | d :: ds => refsBelow k d && refsBelows k ds
end

noncomputable def deref (σ : Sto) : AV → Option AV
  | .ref n => match σ[n]? with
    | some (some ds) => some (.list ds)
    | _ => Option.none
  | d => some d


/-- the bound under which products and quotients are reckoned -/
noncomputable def bigB : Nat := 2 ^ 4000
noncomputable def mulOk (i j : Int) : Prop := i.natAbs < 2 ^ 60 ∨ j.natAbs < 2 ^ 60 ∨ (i.natAbs < bigB ∧ j.natAbs < bigB)
noncomputable def lenB : Nat := 2 ^ 23

noncomputable def tru (σ : Sto) : AV → Option Bool
  | .bool b => some b
  | .list ds => if ds.length < lenB then some (!ds.isEmpty) else Option.none
  | .ref n => match σ[n]? with
    | some (some ds) => if ds.length < lenB then some (!ds.isEmpty) else Option.none
    | _ => Option.none
  | _ => Option.none

inductive BinK where
  | add | sub | mul | fdiv | mod

noncomputable def binA (op : BinK) (x y : AV) (Q : AV → Prop) : Prop :=
  match op, x, y with
  | .add, .int i, .int j => Q (.int (i + j))
  | .sub, .int i, .int j => Q (.int (i - j))
  | .mul, .int i, .int j => mulOk i j ∧ Q (.int (i * j))
  | .fdiv, .int i, .int j => j ≠ 0 ∧ j.natAbs < bigB ∧ Q (.int (Int.fdiv i j))
  | .mod, .int i, .int j => j ≠ 0 ∧ Q (.int (Int.fmod i j))
  | .add, .list a, .list b => a.length < lenB ∧ b.length < lenB ∧ Q (.list (a ++ b))
  | _, _, _ => False

inductive CmpK where
  | eq | ne | lt | gt | isNone | isNotNone | isIn | notIn

noncomputable def cmpA (σ : Sto) (op : CmpK) (x y : AV) (Q : Bool → Prop) : Prop :=
  match op with
  | .eq => match deref σ x, deref σ y with
    | some a, some b => okD 6 a = true ∧ okD 6 b = true ∧ Q (eqb a b)
    | _, _ => False
  | .ne => match deref σ x, deref σ y with
    | some a, some b => okD 6 a = true ∧ okD 6 b = true ∧ Q (!eqb a b)
    | _, _ => False
  | .lt => match x, y with
    | .int i, .int j => Q (decide (i < j))
    | .str a, .str b => a < 5 ∧ b < 5 ∧ Q (decide (a < b))
    | _, _ => False
  | .gt => match x, y with
    | .int i, .int j => Q (decide (j < i))
    | _, _ => False
  | .isNone => match x, y with
    | .none, .none => Q true
    | _, .none => Q false
    | _, _ => False
  | .isNotNone => match x, y with
    | .none, .none => Q false
    | _, .none => Q true
    | _, _ => False
  | .isIn => match y with
    | .list ds => ds.all (okD 6) = true ∧ okD 6 x = true ∧ Q (ds.any fun d => eqb d x)
    | .tup ds => ds.all (okD 6) = true ∧ okD 6 x = true ∧ Q (ds.any fun d => eqb d x)
    | _ => False
  | .notIn => match y with
    | .list ds => ds.all (okD 6) = true ∧ okD 6 x = true ∧ Q (!ds.any fun d => eqb d x)
    | .tup ds => ds.all (okD 6) = true ∧ okD 6 x = true ∧ Q (!ds.any fun d => eqb d x)
    | _ => False

noncomputable def idxA (x i : AV) (Q : AV → Prop) : Prop :=
  match x, i with
  | .list ds, .int k => 0 ≤ k ∧ k < 2 ^ 40 ∧ ∃ d, ds[k.toNat]? = some d ∧ Q d
  | .tup ds, .int k => 0 ≤ k ∧ k < 2 ^ 40 ∧ ∃ d, ds[k.toNat]? = some d ∧ Q d
  | _, _ => False

/-- items of a list value, tracked or not -/
noncomputable def itemsOf (σ : Sto) : AV → Option (List AV)
  | .list ds => some ds
  | .ref n => match σ[n]? with
    | some (some ds) => some ds
    | _ => Option.none
  | _ => Option.none

mutual
inductive ME where
  | name (x : Nat)
  | glob (g : Nat)
  | fnv (f : Nat)
  | cint (i : Int)
  | cstr (k : Nat)
  | cbool (b : Bool)
  | cnone
  | tup (es : MEs)
  | lst (es : MEs)
  | lstM
  | bin (op : BinK) (a b : ME)
  | neg (a : ME)
  | cmp (op : CmpK) (a b : ME)
  | not (a : ME)
  | and (es : MEs)
  | or (es : MEs)
  | ife (c a b : ME)
  | idx (a i : ME)
  | upto (a e : ME)
  | uptoM (a e : ME)
  | from (a e : ME)
  | rev (a : ME)
  | kind (a : ME)
  | items (a : ME)
  | call (f : Nat) (es : MEs)
  | callV (x : Nat) (es : MEs)
  | vector (a b : ME)
  | len (a : ME)
  | abs (a : ME)
  | listOf (a : ME)
  | pop (x : Nat)
  | comp (x : Nat) (fvs : List Nat) (it elt : ME)
  | compIf (x : Nat) (fvs : List Nat) (it c elt : ME)
  | compR (x : Nat) (fvs : List Nat) (n elt : ME)
  | freeze (e : ME)
inductive MEs where
  | nil
  | cons (e : ME) (es : MEs)
end

inductive Fl where
  | next | brk | ret (d : AV)

mutual
inductive MS where
  | assign (x : Nat) (e : ME)
  | assignC (x : Nat) (e : ME)
  | unpack2 (x y : Nat) (e : ME)
  | swap2 (x y : Nat) (a b : ME)
  | aug (x : Nat) (e : ME)
  | append (x : Nat) (e : ME)
  | reverse (x : Nat)
  | expr (e : ME)
  | ret (e : ME)
  | ite (c : ME) (s t : MSs)
  | for (x : Nat) (it : ME) (body : MSs)
  | forR (x : Nat) (n : ME) (body : MSs)
  | while (c : ME) (body : MSs)
  | brk
  | raise
inductive MSs where
  | nil
  | cons (s : MS) (ss : MSs)
  | gfreeze (x : Nat) (ss : MSs)
end

noncomputable abbrev Tab := Nat → List AV → (AV → Sto → Prop) → Sto → Prop

noncomputable def compL (step : AV → (Option AV → Sto → Prop) → Sto → Prop) : List AV → List AV → (AV → Sto → Prop) → Sto → Prop
  | [], acc, Q, σ => acc.length < lenB ∧ Q (.list acc) σ
  | d :: ds, acc, Q, σ => acc.length < lenB ∧ step d (fun o σ' => match o with
      | some y => compL step ds (acc ++ [y]) Q σ'
      | Option.none => compL step ds acc Q σ') σ

noncomputable def rangeL (n : Int) : List AV := (List.range n.toNat).map fun (i : Nat) => AV.int (i : Int)

noncomputable def restr (fvs : List Nat) (ρ : Rho) : Rho := fun y => if y ∈ fvs then ρ y else Option.none

noncomputable def onB (o : Option Bool) (K : Bool → Prop) : Prop := match o with
  | some t => K t
  | Option.none => False
@[simp] theorem onB_some (t : Bool) (K : Bool → Prop) : onB (some t) K = K t := rfl
@[simp] theorem onB_none (K : Bool → Prop) : onB Option.none K = False := rfl

/-- global constants -/
noncomputable def gav : Nat → Option AV
  | 0 => some (.tup [.int 0, .int 0])
  | 1 => some (.tup [.int 1, .int 0])
  | 2 => some (.tup [.int 0, .int 1])
  | 3 => some (.tup [.int 1, .int 1])
  | 4 => some (.int 2147483647)
  | _ => Option.none

noncomputable def frozen (d : AV) : Bool := refsBelow 0 d
noncomputable def frozens (ds : List AV) : Bool := refsBelows 0 ds

mutual
noncomputable def mev (Φ : Tab) : ME → (AV → Sto → Prop) → Rho → Sto → Prop
  | .name x, Q, ρ, σ => match ρ x with | some d => Q d σ | Option.none => False
  | .glob g, Q, _, σ => match gav g with | some d => Q d σ | Option.none => False
  | .fnv f, Q, _, σ => Q (.fn f) σ
  | .cint i, Q, _, σ => Q (.int i) σ
  | .cstr k, Q, _, σ => Q (.str k) σ
  | .cbool b, Q, _, σ => Q (.bool b) σ
  | .cnone, Q, _, σ => Q .none σ
  | .tup es, Q, ρ, σ => mevs Φ es (fun ds σ' => Q (.tup ds) σ') ρ σ
  | .lst es, Q, ρ, σ => mevs Φ es (fun ds σ' => Q (.list ds) σ') ρ σ
  | .lstM, Q, _, σ => Q (.ref σ.length) (σ ++ [some []])
  | .bin op a b, Q, ρ, σ => mev Φ a (fun x σ1 => mev Φ b (fun y σ2 => binA op x y fun z => Q z σ2) ρ σ1) ρ σ
  | .neg a, Q, ρ, σ => mev Φ a (fun x σ1 => match x with | .int i => Q (.int (-i)) σ1 | _ => False) ρ σ
  | .cmp op a b, Q, ρ, σ => mev Φ a (fun x σ1 => mev Φ b (fun y σ2 => cmpA σ2 op x y fun t => Q (.bool t) σ2) ρ σ1) ρ σ
  | .not a, Q, ρ, σ => mev Φ a (fun x σ1 => onB (tru σ1 x) fun t => Q (.bool (!t)) σ1) ρ σ
  | .and es, Q, ρ, σ => mand Φ es Q ρ σ
  | .or es, Q, ρ, σ => mor Φ es Q ρ σ
  | .ife c a b, Q, ρ, σ => mev Φ c (fun x σ1 => onB (tru σ1 x) fun t => if t = true then mev Φ a Q ρ σ1 else mev Φ b Q ρ σ1) ρ σ
  | .idx a i, Q, ρ, σ => mev Φ a (fun x σ1 => mev Φ i (fun y σ2 => idxA x y fun z => Q z σ2) ρ σ1) ρ σ
  | .upto a e, Q, ρ, σ => mev Φ a (fun x σ1 => mev Φ e (fun y σ2 => match itemsOf σ2 x, y with
      | some ds, .int k => 0 ≤ k ∧ k < 2 ^ 40 ∧ ds.length < lenB ∧ Q (.list (ds.take k.toNat)) σ2
      | _, _ => False) ρ σ1) ρ σ
  | .uptoM a e, Q, ρ, σ => mev Φ a (fun x σ1 => mev Φ e (fun y σ2 => match itemsOf σ2 x, y with
      | some ds, .int k => 0 ≤ k ∧ k < 2 ^ 40 ∧ ds.length < lenB ∧ Q (.ref σ2.length) (σ2 ++ [some (ds.take k.toNat)])
      | _, _ => False) ρ σ1) ρ σ
  | .from a e, Q, ρ, σ => mev Φ a (fun x σ1 => mev Φ e (fun y σ2 => match itemsOf σ2 x, y with
      | some ds, .int k => 0 ≤ k ∧ k < 2 ^ 40 ∧ ds.length < lenB ∧ Q (.list (ds.drop k.toNat)) σ2
      | _, _ => False) ρ σ1) ρ σ
  | .rev a, Q, ρ, σ => mev Φ a (fun x σ1 => match itemsOf σ1 x with
      | some ds => ds.length < lenB ∧ Q (.list ds.reverse) σ1
      | _ => False) ρ σ
  | .kind a, Q, ρ, σ => mev Φ a (fun x σ1 => match x with | .vec k _ => Q k σ1 | _ => False) ρ σ
  | .items a, Q, ρ, σ => mev Φ a (fun x σ1 => match x with | .vec _ i => Q i σ1 | _ => False) ρ σ
  | .call f es, Q, ρ, σ => mevs Φ es (fun ds σ' => Φ f ds Q σ') ρ σ
  | .callV x es, Q, ρ, σ => match ρ x with
      | some (.fn f) => f < 39 ∧ mevs Φ es (fun ds σ' => Φ f ds Q σ') ρ σ
      | _ => False
  | .vector a b, Q, ρ, σ => mev Φ a (fun x σ1 => mev Φ b (fun y σ2 => Q (.vec x y) σ2) ρ σ1) ρ σ
  | .len a, Q, ρ, σ => mev Φ a (fun x σ1 => match itemsOf σ1 x with
      | some ds => ds.length < lenB ∧ Q (.int (ds.length : Int)) σ1
      | _ => False) ρ σ
  | .abs a, Q, ρ, σ => mev Φ a (fun x σ1 => match x with | .int i => Q (.int (if i < 0 then -i else i)) σ1 | _ => False) ρ σ
  | .listOf a, Q, ρ, σ => mev Φ a (fun x σ1 => match x with | .list ds => ds.length < lenB ∧ Q (.list ds) σ1 | _ => False) ρ σ
  | .pop x, Q, ρ, σ => match ρ x with
      | some (.ref n) => ∃ ds d, σ[n]? = some (some (ds ++ [d])) ∧ ds.length < lenB ∧ Q d (σ.set n (some ds))
      | _ => False
  | .comp x fvs it elt, Q, ρ, σ => mev Φ it (fun v σ1 => match v with
      | .list ds => compL (fun d K σ2 => mev Φ elt (fun y σ3 => K (some y) σ3) (upd (restr fvs ρ) x d) σ2) ds [] Q σ1
      | _ => False) ρ σ
  | .compIf x fvs it c elt, Q, ρ, σ => mev Φ it (fun v σ1 => match v with
      | .list ds => compL (fun d K σ2 => mev Φ c (fun t σ3 => onB (tru σ3 t) fun b =>
          if b = true then mev Φ elt (fun y σ4 => K (some y) σ4) (upd (restr fvs ρ) x d) σ3 else K Option.none σ3) (upd (restr fvs ρ) x d) σ2) ds [] Q σ1
      | _ => False) ρ σ
  | .compR x fvs n elt, Q, ρ, σ => mev Φ n (fun v σ1 => match v with
      | .int k => 0 ≤ k ∧ k < 2 ^ 40 ∧ compL (fun d K σ2 => mev Φ elt (fun y σ3 => K (some y) σ3) (upd (restr fvs ρ) x d) σ2) (rangeL k) [] Q σ1
      | _ => False) ρ σ
  | .freeze e, Q, ρ, σ => mev Φ e (fun v σ1 => match v with
      | .ref n => match σ1[n]? with
        | some (some ds) => Q (.list ds) (σ1.set n Option.none)
        | _ => False
      | d => Q d σ1) ρ σ
noncomputable def mevs (Φ : Tab) : MEs → (List AV → Sto → Prop) → Rho → Sto → Prop
  | .nil, Q, _, σ => Q [] σ
  | .cons e es, Q, ρ, σ => mev Φ e (fun d σ1 => mevs Φ es (fun ds σ2 => Q (d :: ds) σ2) ρ σ1) ρ σ
noncomputable def mand (Φ : Tab) : MEs → (AV → Sto → Prop) → Rho → Sto → Prop
  | .nil, _, _, _ => False
  | .cons e .nil, Q, ρ, σ => mev Φ e Q ρ σ
  | .cons e (.cons f es), Q, ρ, σ => mev Φ e (fun x σ1 => onB (tru σ1 x) fun t => if t = true then mand Φ (.cons f es) Q ρ σ1 else Q x σ1) ρ σ
noncomputable def mor (Φ : Tab) : MEs → (AV → Sto → Prop) → Rho → Sto → Prop
  | .nil, _, _, _ => False
  | .cons e .nil, Q, ρ, σ => mev Φ e Q ρ σ
  | .cons e (.cons f es), Q, ρ, σ => mev Φ e (fun x σ1 => onB (tru σ1 x) fun t => if t = true then Q x σ1 else mor Φ (.cons f es) Q ρ σ1) ρ σ
end

noncomputable def mtest (Φ : Tab) (e : ME) (K : Bool → Sto → Prop) (ρ : Rho) (σ : Sto) : Prop :=
  mev Φ e (fun x σ1 => onB (tru σ1 x) fun t => K t σ1) ρ σ

noncomputable def forL (x : Nat) (B : (Fl → Rho → Sto → Prop) → Rho → Sto → Prop) : List AV → (Fl → Rho → Sto → Prop) → Rho → Sto → Prop
  | [], Q, ρ, σ => Q .next ρ σ
  | d :: ds, Q, ρ, σ => B (fun fl ρ' σ' => match fl with
      | .next => forL x B ds Q ρ' σ'
      | .brk => Q .next ρ' σ'
      | .ret v => Q (.ret v) ρ' σ') (upd ρ x d) σ

noncomputable def whlL (C : (Bool → Sto → Prop) → Rho → Sto → Prop) (B : (Fl → Rho → Sto → Prop) → Rho → Sto → Prop) : Nat → (Fl → Rho → Sto → Prop) → Rho → Sto → Prop
  | 0, _, _, _ => False
  | n + 1, Q, ρ, σ => C (fun b σ1 => if b = true then B (fun fl ρ' σ' => match fl with
      | .next => whlL C B n Q ρ' σ'
      | .brk => Q .next ρ' σ'
      | .ret v => Q (.ret v) ρ' σ') ρ σ1 else Q .next ρ σ1) ρ σ

mutual
noncomputable def mwp (Φ : Tab) : MS → (Fl → Rho → Sto → Prop) → Rho → Sto → Prop
  | .assign x e, Q, ρ, σ => mev Φ e (fun d σ1 => Q .next (upd ρ x d) σ1) ρ σ
  | .assignC x e, Q, ρ, σ => mev Φ e (fun d σ1 => Q .next (upd ρ x d) σ1) ρ σ
  | .unpack2 x y e, Q, ρ, σ => mev Φ e (fun d σ1 => match d with
      | .tup [a, b] => Q .next (upd (upd ρ x a) y b) σ1
      | _ => False) ρ σ
  | .swap2 x y a b, Q, ρ, σ => mev Φ a (fun d σ1 => mev Φ b (fun e σ2 => Q .next (upd (upd ρ y e) x d) σ2) ρ σ1) ρ σ
  | .aug x e, Q, ρ, σ => match ρ x with
      | some (.int i) => mev Φ e (fun d σ1 => match d with
        | .int j => Q .next (upd ρ x (.int (i + j))) σ1
        | _ => False) ρ σ
      | _ => False
  | .append x e, Q, ρ, σ => match ρ x with
      | some (.ref n) => (∃ ds, σ[n]? = some (some ds)) ∧ mev Φ e (fun d σ1 => ∃ ds, σ1[n]? = some (some ds) ∧ ds.length < lenB ∧ Q .next ρ (σ1.set n (some (ds ++ [d])))) ρ σ
      | _ => False
  | .reverse x, Q, ρ, σ => match ρ x with
      | some (.ref n) => ∃ ds, σ[n]? = some (some ds) ∧ ds.length < lenB ∧ Q .next ρ (σ.set n (some ds.reverse))
      | _ => False
  | .expr e, Q, ρ, σ => mev Φ e (fun _ σ1 => Q .next ρ σ1) ρ σ
  | .ret e, Q, ρ, σ => mev Φ e (fun d σ1 => Q (.ret d) ρ σ1) ρ σ
  | .ite c s t, Q, ρ, σ => mtest Φ c (fun b σ1 => if b = true then mwps Φ s Q ρ σ1 else mwps Φ t Q ρ σ1) ρ σ
  | .for x it body, Q, ρ, σ => mev Φ it (fun v σ1 => match v with
      | .list ds => forL x (fun Q' => mwps Φ body Q') ds Q ρ σ1
      | _ => False) ρ σ
  | .forR x n body, Q, ρ, σ => mev Φ n (fun v σ1 => match v with
      | .int k => 0 ≤ k ∧ k < 2 ^ 40 ∧ forL x (fun Q' => mwps Φ body Q') (rangeL k) Q ρ σ1
      | _ => False) ρ σ
  | .while c body, Q, ρ, σ => ∃ n, whlL (fun K => mtest Φ c K) (fun Q' => mwps Φ body Q') n Q ρ σ
  | .brk, Q, ρ, σ => Q .brk ρ σ
  | .raise, _, _, _ => False
noncomputable def mwps (Φ : Tab) : MSs → (Fl → Rho → Sto → Prop) → Rho → Sto → Prop
  | .nil, Q, ρ, σ => Q .next ρ σ
  | .cons s ss, Q, ρ, σ => mwp Φ s (fun fl ρ' σ' => match fl with
      | .next => mwps Φ ss Q ρ' σ'
      | .brk => Q .brk ρ' σ'
      | .ret v => Q (.ret v) ρ' σ') ρ σ
  | .gfreeze x ss, Q, ρ, σ => match ρ x with
      | some (.ref n) => match σ[n]? with
        | some (some ds) => mwps Φ ss Q (upd ρ x (.list ds)) (σ.set n Option.none)
        | _ => False
      | _ => False
end

/-! the equations, one by one -/
section
variable {Φ : Tab}
theorem v_name {x : Nat} {Q : AV → Sto → Prop} {ρ : Rho} {σ : Sto} : mev Φ (.name x) Q ρ σ = (match ρ x with | some d => Q d σ | Option.none => False) := rfl
theorem v_glob {g : Nat} {Q : AV → Sto → Prop} {ρ : Rho} {σ : Sto} : mev Φ (.glob g) Q ρ σ = (match gav g with | some d => Q d σ | Option.none => False) := rfl
theorem v_fnv {f : Nat} {Q : AV → Sto → Prop} {ρ : Rho} {σ : Sto} : mev Φ (.fnv f) Q ρ σ = (Q (.fn f) σ) := rfl
theorem v_cint {i : Int} {Q : AV → Sto → Prop} {ρ : Rho} {σ : Sto} : mev Φ (.cint i) Q ρ σ = (Q (.int i) σ) := rfl
theorem v_cstr {k : Nat} {Q : AV → Sto → Prop} {ρ : Rho} {σ : Sto} : mev Φ (.cstr k) Q ρ σ = (Q (.str k) σ) := rfl
theorem v_cbool {b : Bool} {Q : AV → Sto → Prop} {ρ : Rho} {σ : Sto} : mev Φ (.cbool b) Q ρ σ = (Q (.bool b) σ) := rfl
theorem v_cnone  {Q : AV → Sto → Prop} {ρ : Rho} {σ : Sto} : mev Φ (.cnone) Q ρ σ = (Q .none σ) := rfl
theorem v_tup {es : MEs} {Q : AV → Sto → Prop} {ρ : Rho} {σ : Sto} : mev Φ (.tup es) Q ρ σ = (mevs Φ es (fun ds σ' => Q (.tup ds) σ') ρ σ) := rfl
theorem v_lst {es : MEs} {Q : AV → Sto → Prop} {ρ : Rho} {σ : Sto} : mev Φ (.lst es) Q ρ σ = (mevs Φ es (fun ds σ' => Q (.list ds) σ') ρ σ) := rfl
theorem v_lstM  {Q : AV → Sto → Prop} {ρ : Rho} {σ : Sto} : mev Φ (.lstM) Q ρ σ = (Q (.ref σ.length) (σ ++ [some []])) := rfl
theorem v_bin {op : BinK} {a : ME} {b : ME} {Q : AV → Sto → Prop} {ρ : Rho} {σ : Sto} : mev Φ (.bin op a b) Q ρ σ = (mev Φ a (fun x σ1 => mev Φ b (fun y σ2 => binA op x y fun z => Q z σ2) ρ σ1) ρ σ) := rfl
theorem v_neg {a : ME} {Q : AV → Sto → Prop} {ρ : Rho} {σ : Sto} : mev Φ (.neg a) Q ρ σ = (mev Φ a (fun x σ1 => match x with | .int i => Q (.int (-i)) σ1 | _ => False) ρ σ) := rfl
theorem v_cmp {op : CmpK} {a : ME} {b : ME} {Q : AV → Sto → Prop} {ρ : Rho} {σ : Sto} : mev Φ (.cmp op a b) Q ρ σ = (mev Φ a (fun x σ1 => mev Φ b (fun y σ2 => cmpA σ2 op x y fun t => Q (.bool t) σ2) ρ σ1) ρ σ) := rfl
theorem v_not {a : ME} {Q : AV → Sto → Prop} {ρ : Rho} {σ : Sto} : mev Φ (.not a) Q ρ σ = (mev Φ a (fun x σ1 => onB (tru σ1 x) fun t => Q (.bool (!t)) σ1) ρ σ) := rfl
theorem v_and {es : MEs} {Q : AV → Sto → Prop} {ρ : Rho} {σ : Sto} : mev Φ (.and es) Q ρ σ = (mand Φ es Q ρ σ) := rfl
theorem v_or {es : MEs} {Q : AV → Sto → Prop} {ρ : Rho} {σ : Sto} : mev Φ (.or es) Q ρ σ = (mor Φ es Q ρ σ) := rfl
theorem v_ife {c : ME} {a : ME} {b : ME} {Q : AV → Sto → Prop} {ρ : Rho} {σ : Sto} : mev Φ (.ife c a b) Q ρ σ = (mev Φ c (fun x σ1 => onB (tru σ1 x) fun t => if t = true then mev Φ a Q ρ σ1 else mev Φ b Q ρ σ1) ρ σ) := rfl
theorem v_idx {a : ME} {i : ME} {Q : AV → Sto → Prop} {ρ : Rho} {σ : Sto} : mev Φ (.idx a i) Q ρ σ = (mev Φ a (fun x σ1 => mev Φ i (fun y σ2 => idxA x y fun z => Q z σ2) ρ σ1) ρ σ) := rfl
theorem v_upto {a : ME} {e : ME} {Q : AV → Sto → Prop} {ρ : Rho} {σ : Sto} : mev Φ (.upto a e) Q ρ σ = (mev Φ a (fun x σ1 => mev Φ e (fun y σ2 => match itemsOf σ2 x, y with
      | some ds, .int k => 0 ≤ k ∧ k < 2 ^ 40 ∧ ds.length < lenB ∧ Q (.list (ds.take k.toNat)) σ2
      | _, _ => False) ρ σ1) ρ σ) := rfl
theorem v_uptoM {a : ME} {e : ME} {Q : AV → Sto → Prop} {ρ : Rho} {σ : Sto} : mev Φ (.uptoM a e) Q ρ σ = (mev Φ a (fun x σ1 => mev Φ e (fun y σ2 => match itemsOf σ2 x, y with
      | some ds, .int k => 0 ≤ k ∧ k < 2 ^ 40 ∧ ds.length < lenB ∧ Q (.ref σ2.length) (σ2 ++ [some (ds.take k.toNat)])
      | _, _ => False) ρ σ1) ρ σ) := rfl
theorem v_from {a : ME} {e : ME} {Q : AV → Sto → Prop} {ρ : Rho} {σ : Sto} : mev Φ (.from a e) Q ρ σ = (mev Φ a (fun x σ1 => mev Φ e (fun y σ2 => match itemsOf σ2 x, y with
      | some ds, .int k => 0 ≤ k ∧ k < 2 ^ 40 ∧ ds.length < lenB ∧ Q (.list (ds.drop k.toNat)) σ2
      | _, _ => False) ρ σ1) ρ σ) := rfl
theorem v_rev {a : ME} {Q : AV → Sto → Prop} {ρ : Rho} {σ : Sto} : mev Φ (.rev a) Q ρ σ = (mev Φ a (fun x σ1 => match itemsOf σ1 x with
      | some ds => ds.length < lenB ∧ Q (.list ds.reverse) σ1
      | _ => False) ρ σ) := rfl
theorem v_kind {a : ME} {Q : AV → Sto → Prop} {ρ : Rho} {σ : Sto} : mev Φ (.kind a) Q ρ σ = (mev Φ a (fun x σ1 => match x with | .vec k _ => Q k σ1 | _ => False) ρ σ) := rfl
theorem v_items {a : ME} {Q : AV → Sto → Prop} {ρ : Rho} {σ : Sto} : mev Φ (.items a) Q ρ σ = (mev Φ a (fun x σ1 => match x with | .vec _ i => Q i σ1 | _ => False) ρ σ) := rfl
theorem v_call {f : Nat} {es : MEs} {Q : AV → Sto → Prop} {ρ : Rho} {σ : Sto} : mev Φ (.call f es) Q ρ σ = (mevs Φ es (fun ds σ' => Φ f ds Q σ') ρ σ) := rfl
theorem v_callV {x : Nat} {es : MEs} {Q : AV → Sto → Prop} {ρ : Rho} {σ : Sto} : mev Φ (.callV x es) Q ρ σ = (match ρ x with
      | some (.fn f) => f < 39 ∧ mevs Φ es (fun ds σ' => Φ f ds Q σ') ρ σ
      | _ => False) := rfl
theorem v_vector {a : ME} {b : ME} {Q : AV → Sto → Prop} {ρ : Rho} {σ : Sto} : mev Φ (.vector a b) Q ρ σ = (mev Φ a (fun x σ1 => mev Φ b (fun y σ2 => Q (.vec x y) σ2) ρ σ1) ρ σ) := rfl
theorem v_len {a : ME} {Q : AV → Sto → Prop} {ρ : Rho} {σ : Sto} : mev Φ (.len a) Q ρ σ = (mev Φ a (fun x σ1 => match itemsOf σ1 x with
      | some ds => ds.length < lenB ∧ Q (.int (ds.length : Int)) σ1
      | _ => False) ρ σ) := rfl
theorem v_abs {a : ME} {Q : AV → Sto → Prop} {ρ : Rho} {σ : Sto} : mev Φ (.abs a) Q ρ σ = (mev Φ a (fun x σ1 => match x with | .int i => Q (.int (if i < 0 then -i else i)) σ1 | _ => False) ρ σ) := rfl
theorem v_listOf {a : ME} {Q : AV → Sto → Prop} {ρ : Rho} {σ : Sto} : mev Φ (.listOf a) Q ρ σ = (mev Φ a (fun x σ1 => match x with | .list ds => ds.length < lenB ∧ Q (.list ds) σ1 | _ => False) ρ σ) := rfl
theorem v_pop {x : Nat} {Q : AV → Sto → Prop} {ρ : Rho} {σ : Sto} : mev Φ (.pop x) Q ρ σ = (match ρ x with
      | some (.ref n) => ∃ ds d, σ[n]? = some (some (ds ++ [d])) ∧ ds.length < lenB ∧ Q d (σ.set n (some ds))
      | _ => False) := rfl
theorem v_comp {x : Nat} {fvs : List Nat} {it : ME} {elt : ME} {Q : AV → Sto → Prop} {ρ : Rho} {σ : Sto} : mev Φ (.comp x fvs it elt) Q ρ σ = (mev Φ it (fun v σ1 => match v with
      | .list ds => compL (fun d K σ2 => mev Φ elt (fun y σ3 => K (some y) σ3) (upd (restr fvs ρ) x d) σ2) ds [] Q σ1
      | _ => False) ρ σ) := rfl
theorem v_compIf {x : Nat} {fvs : List Nat} {it : ME} {c : ME} {elt : ME} {Q : AV → Sto → Prop} {ρ : Rho} {σ : Sto} : mev Φ (.compIf x fvs it c elt) Q ρ σ = (mev Φ it (fun v σ1 => match v with
      | .list ds => compL (fun d K σ2 => mev Φ c (fun t σ3 => onB (tru σ3 t) fun b =>
          if b = true then mev Φ elt (fun y σ4 => K (some y) σ4) (upd (restr fvs ρ) x d) σ3 else K Option.none σ3) (upd (restr fvs ρ) x d) σ2) ds [] Q σ1
      | _ => False) ρ σ) := rfl
theorem v_compR {x : Nat} {fvs : List Nat} {n : ME} {elt : ME} {Q : AV → Sto → Prop} {ρ : Rho} {σ : Sto} : mev Φ (.compR x fvs n elt) Q ρ σ = (mev Φ n (fun v σ1 => match v with
      | .int k => 0 ≤ k ∧ k < 2 ^ 40 ∧ compL (fun d K σ2 => mev Φ elt (fun y σ3 => K (some y) σ3) (upd (restr fvs ρ) x d) σ2) (rangeL k) [] Q σ1
      | _ => False) ρ σ) := rfl
theorem v_freeze {e : ME} {Q : AV → Sto → Prop} {ρ : Rho} {σ : Sto} : mev Φ (.freeze e) Q ρ σ = (mev Φ e (fun v σ1 => match v with
      | .ref n => match σ1[n]? with
        | some (some ds) => Q (.list ds) (σ1.set n Option.none)
        | _ => False
      | d => Q d σ1) ρ σ) := rfl
theorem x_assign {x : Nat} {e : ME} {Q : Fl → Rho → Sto → Prop} {ρ : Rho} {σ : Sto} : mwp Φ (.assign x e) Q ρ σ = (mev Φ e (fun d σ1 => Q .next (upd ρ x d) σ1) ρ σ) := rfl
theorem x_assignC {x : Nat} {e : ME} {Q : Fl → Rho → Sto → Prop} {ρ : Rho} {σ : Sto} : mwp Φ (.assignC x e) Q ρ σ = (mev Φ e (fun d σ1 => Q .next (upd ρ x d) σ1) ρ σ) := rfl
theorem x_unpack2 {x : Nat} {y : Nat} {e : ME} {Q : Fl → Rho → Sto → Prop} {ρ : Rho} {σ : Sto} : mwp Φ (.unpack2 x y e) Q ρ σ = (mev Φ e (fun d σ1 => match d with
      | .tup [a, b] => Q .next (upd (upd ρ x a) y b) σ1
      | _ => False) ρ σ) := rfl
theorem x_swap2 {x : Nat} {y : Nat} {a : ME} {b : ME} {Q : Fl → Rho → Sto → Prop} {ρ : Rho} {σ : Sto} : mwp Φ (.swap2 x y a b) Q ρ σ = (mev Φ a (fun d σ1 => mev Φ b (fun e σ2 => Q .next (upd (upd ρ y e) x d) σ2) ρ σ1) ρ σ) := rfl
theorem x_aug {x : Nat} {e : ME} {Q : Fl → Rho → Sto → Prop} {ρ : Rho} {σ : Sto} : mwp Φ (.aug x e) Q ρ σ = (match ρ x with
      | some (.int i) => mev Φ e (fun d σ1 => match d with
        | .int j => Q .next (upd ρ x (.int (i + j))) σ1
        | _ => False) ρ σ
      | _ => False) := rfl
theorem x_append {x : Nat} {e : ME} {Q : Fl → Rho → Sto → Prop} {ρ : Rho} {σ : Sto} : mwp Φ (.append x e) Q ρ σ = (match ρ x with
      | some (.ref n) => (∃ ds, σ[n]? = some (some ds)) ∧ mev Φ e (fun d σ1 => ∃ ds, σ1[n]? = some (some ds) ∧ ds.length < lenB ∧ Q .next ρ (σ1.set n (some (ds ++ [d])))) ρ σ
      | _ => False) := rfl
theorem x_reverse {x : Nat} {Q : Fl → Rho → Sto → Prop} {ρ : Rho} {σ : Sto} : mwp Φ (.reverse x) Q ρ σ = (match ρ x with
      | some (.ref n) => ∃ ds, σ[n]? = some (some ds) ∧ ds.length < lenB ∧ Q .next ρ (σ.set n (some ds.reverse))
      | _ => False) := rfl
theorem x_expr {e : ME} {Q : Fl → Rho → Sto → Prop} {ρ : Rho} {σ : Sto} : mwp Φ (.expr e) Q ρ σ = (mev Φ e (fun _ σ1 => Q .next ρ σ1) ρ σ) := rfl
theorem x_ret {e : ME} {Q : Fl → Rho → Sto → Prop} {ρ : Rho} {σ : Sto} : mwp Φ (.ret e) Q ρ σ = (mev Φ e (fun d σ1 => Q (.ret d) ρ σ1) ρ σ) := rfl
theorem x_ite {c : ME} {s : MSs} {t : MSs} {Q : Fl → Rho → Sto → Prop} {ρ : Rho} {σ : Sto} : mwp Φ (.ite c s t) Q ρ σ = (mtest Φ c (fun b σ1 => if b = true then mwps Φ s Q ρ σ1 else mwps Φ t Q ρ σ1) ρ σ) := rfl
theorem x_for {x : Nat} {it : ME} {body : MSs} {Q : Fl → Rho → Sto → Prop} {ρ : Rho} {σ : Sto} : mwp Φ (.for x it body) Q ρ σ = (mev Φ it (fun v σ1 => match v with
      | .list ds => forL x (fun Q' => mwps Φ body Q') ds Q ρ σ1
      | _ => False) ρ σ) := rfl
theorem x_forR {x : Nat} {n : ME} {body : MSs} {Q : Fl → Rho → Sto → Prop} {ρ : Rho} {σ : Sto} : mwp Φ (.forR x n body) Q ρ σ = (mev Φ n (fun v σ1 => match v with
      | .int k => 0 ≤ k ∧ k < 2 ^ 40 ∧ forL x (fun Q' => mwps Φ body Q') (rangeL k) Q ρ σ1
      | _ => False) ρ σ) := rfl
theorem x_while {c : ME} {body : MSs} {Q : Fl → Rho → Sto → Prop} {ρ : Rho} {σ : Sto} : mwp Φ (.while c body) Q ρ σ = (∃ n, whlL (fun K => mtest Φ c K) (fun Q' => mwps Φ body Q') n Q ρ σ) := rfl
theorem x_brk  {Q : Fl → Rho → Sto → Prop} {ρ : Rho} {σ : Sto} : mwp Φ (.brk) Q ρ σ = (Q .brk ρ σ) := rfl
theorem x_raise  {Q : Fl → Rho → Sto → Prop} {ρ : Rho} {σ : Sto} : mwp Φ (.raise) Q ρ σ = (False) := rfl
end

end Mine
/-! Snd1 -/
namespace Mine
noncomputable def nmT : List String := ["a", "b", "n", "d", "common", "x", "y", "left", "right", "kind", "item", "vs", "texts", "found", "v", "skip", "items", "total", "notes", "order", "best", "low", "high", "middle", "gap", "script", "stock", "cell", "amount", "lap_now", "choices", "top", "below", "one", "other", "sort_of", "pick_now", "entry", "rest_of", "cut", "doubled", "total_by", "told_notes", "everything", "sides", "together", "turned_round", "side", "words", "entries", "told", "late", "early", "far", "under", "held", "wordy", "size_of", "picks", "lap"]
noncomputable def stT : List String := ["", "10", "B", "a", "ab", "NULL", "character", "double", "integer", "integer overflow - use sum(as.numeric(.))", "logical", "no non-missing arguments to max; returning -Inf", "no non-missing arguments to min; returning Inf"]
noncomputable def fnT : List String := ["gcd", "make", "from_int", "is_na", "marked", "neg", "add", "sub", "mul", "div", "compare", "is_lacking", "summed_kind", "kept_items", "gathered", "double_sum", "sum_of", "prod_of", "item_order", "extreme_item", "extreme_of", "max_of", "min_of", "range_of", "number_items", "mean_items", "mean_of", "var_of", "_law_stock", "_law_take", "_law_lowest_terms", "_law_entry", "_law_as_pairs", "_law_remaining", "_law_totals_hold", "_law_ranges_hold", "_law_spread_holds", "law", "to_text"]
noncomputable def glT : List String := ["NAN", "INF", "ZERO", "ONE", "MOST_INTEGER"]

noncomputable def nmA (l : List String) (k : Nat) : Str := match l[k]? with
  | some s => Str.ofString s
  | Option.none => ⟨#[k + 2000000]⟩
noncomputable def nm (x : Nat) : Str := nmA nmT x
noncomputable def st (x : Nat) : Str := nmA stT x
noncomputable def fnm (x : Nat) : Str := nmA fnT x
noncomputable def gnm (x : Nat) : Str := nmA glT x

theorem nmA_inj {l : List String} {n : Nat} (hl : l.length = n) (h1 : ∀ i, i < n → ∀ j, j < n → nmA l i = nmA l j → i = j)
    (h2 : (l.all fun s => (Str.ofString s).cps.all (· < 2000000)) = true) : ∀ {i j : Nat}, nmA l i = nmA l j → i = j := by
  have far : ∀ (i : Nat) (k : Nat), nmA l i = ⟨#[k + 2000000]⟩ → l[i]? = Option.none := by
    intro i k e
    unfold nmA at e
    cases q : l[i]? with
    | none => rfl
    | some s =>
      rw [q] at e
      dsimp only at e
      have m : s ∈ l := List.mem_of_getElem? q
      have := List.all_eq_true.mp h2 s m
      rw [e] at this
      simp at this
      omega
  intro i j e
  by_cases hi : i < n
  · by_cases hj : j < n
    · exact h1 i hi j hj e
    · have q : l[j]? = Option.none := List.getElem?_eq_none (by omega)
      have e2 : nmA l i = ⟨#[j + 2000000]⟩ := by rw [e]; unfold nmA; rw [q]
      have := far i j e2
      rw [List.getElem?_eq_none_iff] at this
      omega
  · have q : l[i]? = Option.none := List.getElem?_eq_none (by omega)
    have e2 : nmA l j = ⟨#[i + 2000000]⟩ := by rw [← e]; unfold nmA; rw [q]
    have q2 := far j i e2
    unfold nmA at e
    rw [q, q2] at e
    simp at e
    exact e
set_option maxHeartbeats 4000000 in
theorem nm_inj {i j : Nat} (h : nm i = nm j) : i = j := nmA_inj (n := 60) (by decide) (by decide +kernel) (by decide +kernel) h
set_option maxHeartbeats 4000000 in
theorem st_inj {i j : Nat} (h : st i = st j) : i = j := nmA_inj (n := 13) (by decide) (by decide +kernel) (by decide +kernel) h

theorem nodup_inj {α : Type} {l : List α} (h : l.Nodup) {i j : Nat} {a : α} (e1 : l[i]? = some a) (e2 : l[j]? = some a) : i = j := by
  obtain ⟨h1, q1⟩ := List.getElem?_eq_some_iff.mp e1
  obtain ⟨h2, q2⟩ := List.getElem?_eq_some_iff.mp e2
  have p := List.pairwise_iff_getElem.mp h
  rcases Nat.lt_trichotomy i j with z | z | z
  · exact absurd (q1.trans q2.symm) (p i j h1 h2 z)
  · exact z
  · exact absurd (q2.trans q1.symm) (p j i h2 h1 z)

structure Par where
  fa : Nat → Addr
  C : Addr

mutual
/-- a value stands for an abstract value: F the objects that stay, as the addresses of the tracked lists -/
inductive VR (P : Par) (F : Addr → Obj → Prop) (as : List Addr) : Value → AV → Prop
  | none : VR P F as .none .none
  | bool (b : Bool) : VR P F as (.bool b) (.bool b)
  | int (i : Int) (t : Tok) : VR P F as (.int i t) (.int i)
  | str (k : Nat) (t : Tok) : VR P F as (.str (st k) t) (.str k)
  | tup {a : Addr} {o : Obj} {vs : List Value} {n : Nat} {ds : List AV} : F a o → o.cls = .type "tuple" → o.data = .seq vs.toArray n → VRs P F as vs ds → VR P F as (.ref a) (.tup ds)
  | list {a : Addr} {o : Obj} {vs : List Value} {n : Nat} {ds : List AV} : F a o → o.cls = .type "list" → o.data = .seq vs.toArray n → VRs P F as vs ds → VR P F as (.ref a) (.list ds)
  | vec {a dx : Addr} {es : List DictEntry} {n : Nat} {v w : Value} {k i : AV} : F a (instObj P.C dx) → F dx (dictOf es n) → getL "kind" es = some (some v) → getL "items" es = some (some w) →
      VR P F as v k → VR P F as w i → VR P F as (.ref a) (.vec k i)
  | ref {a : Addr} {n : Nat} : as[n]? = some a → VR P F as (.ref a) (.ref n)
  | fn (f : Nat) : VR P F as (.ref (P.fa f)) (.fn f)
inductive VRs (P : Par) (F : Addr → Obj → Prop) (as : List Addr) : List Value → List AV → Prop
  | nil : VRs P F as [] []
  | cons {v : Value} {vs : List Value} {d : AV} {ds : List AV} : VR P F as v d → VRs P F as vs ds → VRs P F as (v :: vs) (d :: ds)
end

section
variable {P : Par} {F F' : Addr → Obj → Prop} {as as' : List Addr}
theorem VR.both {M : Value → AV → Prop} {N : List Value → List AV → Prop} (hn : M .none .none) (hb : ∀ b, M (.bool b) (.bool b)) (hi : ∀ i t, M (.int i t) (.int i))
    (hs : ∀ k t, M (.str (st k) t) (.str k))
    (ht : ∀ {a : Addr} {o : Obj} {vs : List Value} {n : Nat} {ds : List AV}, F a o → o.cls = .type "tuple" → o.data = .seq vs.toArray n → VRs P F as vs ds → N vs ds → M (.ref a) (.tup ds))
    (hl : ∀ {a : Addr} {o : Obj} {vs : List Value} {n : Nat} {ds : List AV}, F a o → o.cls = .type "list" → o.data = .seq vs.toArray n → VRs P F as vs ds → N vs ds → M (.ref a) (.list ds))
    (hv : ∀ {a dx : Addr} {es : List DictEntry} {n : Nat} {v w : Value} {k i : AV}, F a (instObj P.C dx) → F dx (dictOf es n) → getL "kind" es = some (some v) → getL "items" es = some (some w) →
      VR P F as v k → VR P F as w i → M v k → M w i → M (.ref a) (.vec k i))
    (hr : ∀ {a : Addr} {n : Nat}, as[n]? = some a → M (.ref a) (.ref n)) (hf : ∀ f, M (.ref (P.fa f)) (.fn f))
    (h0 : N [] []) (hc : ∀ {v : Value} {vs : List Value} {d : AV} {ds : List AV}, VR P F as v d → VRs P F as vs ds → M v d → N vs ds → N (v :: vs) (d :: ds)) :
    (∀ {v : Value} {d : AV}, VR P F as v d → M v d) ∧ (∀ {vs : List Value} {ds : List AV}, VRs P F as vs ds → N vs ds) :=
  ⟨fun h => VR.rec (motive_1 := fun v d _ => M v d) (motive_2 := fun v d _ => N v d) hn hb hi hs ht hl hv hr hf h0 hc h,
   fun h => VRs.rec (motive_1 := fun v d _ => M v d) (motive_2 := fun v d _ => N v d) hn hb hi hs ht hl hv hr hf h0 hc h⟩
theorem VRs.ind {N : List Value → List AV → Prop} (h0 : N [] []) (hc : ∀ {v : Value} {vs : List Value} {d : AV} {ds : List AV}, VR P F as v d → VRs P F as vs ds → N vs ds → N (v :: vs) (d :: ds))
    {vs : List Value} {ds : List AV} (h : VRs P F as vs ds) : N vs ds :=
  VRs.rec (motive_1 := fun _ _ _ => True) (motive_2 := fun v d _ => N v d) trivial (fun _ => trivial) (fun _ _ => trivial) (fun _ _ => trivial) (fun _ _ _ _ _ => trivial) (fun _ _ _ _ _ => trivial)
    (fun _ _ _ _ _ _ _ _ => trivial) (fun _ => trivial) (fun _ => trivial) h0 (fun h r _ n => hc h r n) h
theorem VR.mono2 (hF : ∀ a o, F a o → F' a o) (ha : ∀ (n : Nat) a, as[n]? = some a → as'[n]? = some a) :
    (∀ {v : Value} {d : AV}, VR P F as v d → VR P F' as' v d) ∧ (∀ {vs : List Value} {ds : List AV}, VRs P F as vs ds → VRs P F' as' vs ds) :=
  VR.both .none .bool .int .str (fun h1 h2 h3 _ h4 => .tup (hF _ _ h1) h2 h3 h4) (fun h1 h2 h3 _ h4 => .list (hF _ _ h1) h2 h3 h4)
    (fun h1 h2 h3 h4 _ _ h5 h6 => .vec (hF _ _ h1) (hF _ _ h2) h3 h4 h5 h6) (fun h => .ref (ha _ _ h)) .fn .nil (fun _ _ h r => .cons h r)
theorem VR.mono (hF : ∀ a o, F a o → F' a o) (ha : ∀ (n : Nat) a, as[n]? = some a → as'[n]? = some a) {v : Value} {d : AV} (h : VR P F as v d) : VR P F' as' v d := (VR.mono2 hF ha).1 h
theorem VRs.mono (hF : ∀ a o, F a o → F' a o) (ha : ∀ (n : Nat) a, as[n]? = some a → as'[n]? = some a) {vs : List Value} {ds : List AV} (h : VRs P F as vs ds) : VRs P F' as' vs ds := (VR.mono2 hF ha).2 h
/-- only the references below k matter -/
theorem VR.lower2 {k : Nat} (ha : ∀ (n : Nat) a, n < k → as[n]? = some a → as'[n]? = some a) :
    (∀ {v : Value} {d : AV}, VR P F as v d → refsBelow k d = true → VR P F as' v d) ∧ (∀ {vs : List Value} {ds : List AV}, VRs P F as vs ds → refsBelows k ds = true → VRs P F as' vs ds) :=
  VR.both (fun _ => .none) (fun b _ => .bool b) (fun i t _ => .int i t) (fun k t _ => .str k t) (fun h1 h2 h3 _ h4 e => .tup h1 h2 h3 (h4 e)) (fun h1 h2 h3 _ h4 e => .list h1 h2 h3 (h4 e))
    (fun h1 h2 h3 h4 _ _ h5 h6 e => .vec h1 h2 h3 h4 (h5 (Bool.and_eq_true_iff.mp e).1) (h6 (Bool.and_eq_true_iff.mp e).2)) (fun h e => .ref (ha _ _ (of_decide_eq_true e) h)) (fun f _ => .fn f)
    (fun _ => .nil) (fun _ _ h r e => .cons (h (Bool.and_eq_true_iff.mp e).1) (r (Bool.and_eq_true_iff.mp e).2))
theorem VR.lower {k : Nat} (ha : ∀ (n : Nat) a, n < k → as[n]? = some a → as'[n]? = some a) {v : Value} {d : AV} (e : refsBelow k d = true) (h : VR P F as v d) : VR P F as' v d := (VR.lower2 ha).1 h e
theorem VRs.lower {k : Nat} (ha : ∀ (n : Nat) a, n < k → as[n]? = some a → as'[n]? = some a) {vs : List Value} {ds : List AV} (e : refsBelows k ds = true) (h : VRs P F as vs ds) : VRs P F as' vs ds := (VR.lower2 ha).2 h e
theorem VRs.length {vs : List Value} {ds : List AV} (h : VRs P F as vs ds) : vs.length = ds.length :=
  VRs.ind (N := fun vs ds => vs.length = ds.length) rfl (fun _ _ e => congrArg (· + 1) e) h
theorem VRs.append {vs : List Value} {ds : List AV} {ws : List Value} {es : List AV} (h : VRs P F as vs ds) (k : VRs P F as ws es) : VRs P F as (vs ++ ws) (ds ++ es) :=
  VRs.ind (N := fun vs ds => VRs P F as (vs ++ ws) (ds ++ es)) k (fun h _ r => .cons h r) h
theorem VRs.get {vs : List Value} {ds : List AV} (h : VRs P F as vs ds) : ∀ (k : Nat) (d : AV), ds[k]? = some d → ∃ v, vs[k]? = some v ∧ VR P F as v d :=
  VRs.ind (N := fun vs ds => ∀ (k : Nat) (d : AV), ds[k]? = some d → ∃ v, vs[k]? = some v ∧ VR P F as v d) (fun _ _ e => nomatch e)
    (fun {v _ _ _} h _ g k d e => by
      cases k with
      | zero => exact ⟨v, rfl, (Option.some.inj e : _ = d) ▸ h⟩
      | succ k => exact g k d e) h
theorem VRs.td {vs : List Value} {ds : List AV} (h : VRs P F as vs ds) : ∀ (k : Nat), VRs P F as (vs.take k) (ds.take k) ∧ VRs P F as (vs.drop k) (ds.drop k) :=
  VRs.ind (N := fun vs ds => ∀ (k : Nat), VRs P F as (vs.take k) (ds.take k) ∧ VRs P F as (vs.drop k) (ds.drop k)) (fun k => by rw [List.take_nil, List.take_nil, List.drop_nil, List.drop_nil]; exact ⟨.nil, .nil⟩)
    (fun h r g k => Nat.casesOn (motive := fun k => VRs P F as ((_ :: _).take k) ((_ :: _).take k) ∧ VRs P F as ((_ :: _).drop k) ((_ :: _).drop k)) k ⟨.nil, .cons h r⟩ (fun k => ⟨.cons h (g k).1, (g k).2⟩)) h
theorem VRs.take {vs : List Value} {ds : List AV} (h : VRs P F as vs ds) (k : Nat) : VRs P F as (vs.take k) (ds.take k) := (h.td k).1
theorem VRs.drop {vs : List Value} {ds : List AV} (h : VRs P F as vs ds) (k : Nat) : VRs P F as (vs.drop k) (ds.drop k) := (h.td k).2
theorem VRs.reverse {vs : List Value} {ds : List AV} (h : VRs P F as vs ds) : VRs P F as vs.reverse ds.reverse :=
  VRs.ind (N := fun vs ds => VRs P F as vs.reverse ds.reverse) .nil (fun h _ r => by rw [List.reverse_cons, List.reverse_cons]; exact r.append (.cons h .nil)) h
theorem VRs.snoc {vs : List Value} {ds : List AV} {d : AV} (h : VRs P F as vs (ds ++ [d])) : ∃ ws v, vs = ws ++ [v] ∧ VRs P F as ws ds ∧ VR P F as v d := by
  have r := h.reverse
  rw [List.reverse_append] at r
  have g := r.get 0 d rfl
  have t := (r.drop 1).reverse
  obtain ⟨v, e, q⟩ := g
  refine ⟨(vs.reverse.drop 1).reverse, v, ?_, by simpa using t, q⟩
  cases hv : vs.reverse with
  | nil => rw [hv] at e; exact absurd e nofun
  | cons w ws =>
    rw [hv] at e
    have e2 := congrArg List.reverse hv
    rw [List.reverse_reverse] at e2
    rw [e2, List.reverse_cons]
    exact congrArg (ws.reverse ++ [·]) (Option.some.inj e)
end

/-- ghost state: the objects that stay, the tracked lists, what they hold -/
structure Cf where
  F : Addr → Obj → Prop
  as : List Addr
  σ : Sto

structure Good (P : Par) (hb : Heap) (c : Cf) (h : Heap) : Prop where
  fz : ∀ a o, c.F a o → h.get? a = some o
  base : ∀ a o, hb.get? a = some o → c.F a o
  len : c.as.length = c.σ.length
  nd : c.as.Nodup
  cell : ∀ (i : Nat) a ds, c.as[i]? = some a → c.σ[i]? = some (some ds) → (∀ o, ¬ c.F a o) ∧ ∃ vs : List Value, h.PlainList a vs.toArray ∧ VRs P c.F c.as vs ds
  live : ∀ (i : Nat) a, c.as[i]? = some a → (h.get? a).isSome = true

theorem Good.keep {P : Par} {hb : Heap} {c : Cf} {h : Heap} (G : Good P hb c h) : ∀ a o, hb.get? a = some o → h.get? a = some o := fun a o e => G.fz a o (G.base a o e)

structure Stp (X : Addr → Prop) (c : Cf) (h : Heap) (c' : Cf) (h' : Heap) : Prop where
  fle : ∀ a o, c.F a o → c'.F a o
  ale : ∃ bs, c'.as = c.as ++ bs ∧ ∀ b ∈ bs, h.get? b = none
  fnew : ∀ a o, c'.F a o → c.F a o ∨ h.get? a = none ∨ a ∈ c.as
  keep : ∀ a o, h.get? a = some o → a ∉ c.as → ¬ X a → h'.get? a = some o
  dom : ∀ a, h.get? a ≠ none → h'.get? a ≠ none

theorem Stp.refl (X : Addr → Prop) (c : Cf) (h : Heap) : Stp X c h c h := ⟨fun _ _ e => e, ⟨[], by simp, by simp⟩, fun _ _ e => .inl e, fun _ _ e _ _ => e, fun _ e => e⟩

theorem Stp.trans {X : Addr → Prop} {c c1 c2 : Cf} {h h1 h2 : Heap} (s : Stp X c h c1 h1) (t : Stp X c1 h1 c2 h2) : Stp X c h c2 h2 := by
  obtain ⟨bs, e1, n1⟩ := s.ale
  obtain ⟨ds, e2, n2⟩ := t.ale
  refine ⟨fun a o e => t.fle a o (s.fle a o e), ⟨bs ++ ds, by rw [e2, e1, List.append_assoc], fun b hb => ?_⟩, fun a o e => ?_, fun a o e ha hx => ?_, fun a e => t.dom a (s.dom a e)⟩
  · rcases List.mem_append.mp hb with q | q
    · exact n1 b q
    · cases z : h.get? b with
      | none => rfl
      | some o => exact absurd (n2 b q) (s.dom b (by rw [z]; simp))
  · rcases t.fnew a o e with q | q | q
    · exact s.fnew a o q
    · right; left
      cases z : h.get? a with
      | none => rfl
      | some o => exact absurd q (s.dom a (by rw [z]; simp))
    · rw [e1] at q
      rcases List.mem_append.mp q with q | q
      · exact .inr (.inr q)
      · exact .inr (.inl (n1 a q))
  · refine t.keep a o (s.keep a o e ha hx) ?_ hx
    rw [e1]
    intro q
    rcases List.mem_append.mp q with q | q
    · exact ha q
    · rw [n1 a q] at e; cases e

theorem Stp.aget {X : Addr → Prop} {c c' : Cf} {h h' : Heap} (s : Stp X c h c' h') : ∀ (n : Nat) a, c.as[n]? = some a → c'.as[n]? = some a := by
  obtain ⟨bs, e, _⟩ := s.ale
  intro n a q
  rw [e, List.getElem?_append_left (by rw [List.getElem?_eq_some_iff] at q; exact q.1)]
  exact q
theorem Stp.vr {P : Par} {X : Addr → Prop} {c c' : Cf} {h h' : Heap} (s : Stp X c h c' h') {v : Value} {d : AV} (r : VR P c.F c.as v d) : VR P c'.F c'.as v d := r.mono s.fle s.aget
theorem Stp.vrs {P : Par} {X : Addr → Prop} {c c' : Cf} {h h' : Heap} (s : Stp X c h c' h') {v : List Value} {d : List AV} (r : VRs P c.F c.as v d) : VRs P c'.F c'.as v d := r.mono s.fle s.aget
theorem Stp.weaken {X Y : Addr → Prop} {c c' : Cf} {h h' : Heap} (s : Stp X c h c' h') (hx : ∀ a, (h.get? a).isSome = true → X a → Y a) : Stp Y c h c' h' :=
  ⟨s.fle, s.ale, s.fnew, fun a o e ha hy => s.keep a o e ha fun q => hy (hx a (by rw [e]; rfl) q), s.dom⟩

/-- nothing but heap and tokens has moved -/
noncomputable def Rst (s s' : Shared) : Prop := s'.gens = s.gens ∧ s'.drawn = s.drawn ∧ s'.os = s.os
theorem Rst.refl (s : Shared) : Rst s s := ⟨rfl, rfl, rfl⟩
theorem Rst.trans {s s1 s2 : Shared} (a : Rst s s1) (b : Rst s1 s2) : Rst s s2 := ⟨b.1.trans a.1, b.2.1.trans a.2.1, b.2.2.trans a.2.2⟩
theorem Rst.mk' (s : Shared) (h : Heap) (t : Nat) : Rst s { s with heap := h, toks := t } := ⟨rfl, rfl, rfl⟩

/-- the heap has changed at tracked places alone; nothing new is tracked or frozen -/
theorem Good.grown {P : Par} {hb : Heap} {c : Cf} {h h' : Heap} (G : Good P hb c h) (k : ∀ a o, h.get? a = some o → h'.get? a = some o) : Good P hb c h' :=
  ⟨fun a o e => k a o (G.fz a o e), G.base, G.len, G.nd, fun i a ds e1 e2 => by
    obtain ⟨n, vs, ⟨o, e⟩, V⟩ := G.cell i a ds e1 e2
    exact ⟨n, vs, ⟨o, k a _ e⟩, V⟩, fun i a e => by
      cases z : h.get? a with
      | none => have := G.live i a e; rw [z] at this; cases this
      | some o => rw [k a o z]; rfl⟩
theorem Stp.grown {X : Addr → Prop} {c : Cf} {h h' : Heap} (k : ∀ a o, h.get? a = some o → h'.get? a = some o) : Stp X c h c h' :=
  ⟨fun _ _ e => e, ⟨[], by simp, by simp⟩, fun _ _ e => .inl e, fun a o e _ _ => k a o e, fun a e => by
    cases z : h.get? a with
    | none => exact absurd z e
    | some o => rw [k a o z]; simp⟩

/-- a new object is frozen -/
noncomputable def Cf.frz (c : Cf) (x : Addr) (ox : Obj) : Cf := { c with F := fun a o => c.F a o ∨ (a = x ∧ o = ox) }
theorem Good.frz {P : Par} {hb : Heap} {c : Cf} {h : Heap} (G : Good P hb c h) {x : Addr} {ox : Obj} (hx : h.get? x = some ox) (hn : x ∉ c.as) : Good P hb (c.frz x ox) h := by
  refine ⟨fun a o e => ?_, fun a o e => .inl (G.base a o e), G.len, G.nd, fun i a ds e1 e2 => ?_, G.live⟩
  · rcases e with e | ⟨rfl, rfl⟩
    · exact G.fz a o e
    · exact hx
  · obtain ⟨n, vs, L, V⟩ := G.cell i a ds e1 e2
    refine ⟨fun o e => ?_, vs, L, V.mono (fun _ _ e => .inl e) fun _ _ e => e⟩
    rcases e with e | ⟨rfl, rfl⟩
    · exact n o e
    · exact hn (List.mem_of_getElem? e1)
theorem Stp.frz {X : Addr → Prop} {c : Cf} {h h' : Heap} {x : Addr} {ox : Obj} (k : ∀ a o, h.get? a = some o → h'.get? a = some o) (hn : h.get? x = none) : Stp X c h (c.frz x ox) h' :=
  ⟨fun _ _ e => .inl e, ⟨[], by simp [Cf.frz], by simp⟩, fun a o e => by
    rcases e with e | ⟨rfl, rfl⟩
    · exact .inl e
    · exact .inr (.inl hn), fun a o e _ _ => k a o e, (Stp.grown (X := X) (c := c) k).dom⟩

theorem Good.fresh {P : Par} {hb : Heap} {c : Cf} {h : Heap} (G : Good P hb c h) {x : Addr} (hx : h.get? x = none) : x ∉ c.as := fun m => by
  obtain ⟨i, e⟩ := List.getElem?_of_mem m
  have := G.live i x e
  rw [hx] at this; cases this

/-- a new list is tracked -/
noncomputable def Cf.trk (c : Cf) (x : Addr) (ds : List AV) : Cf := { c with as := c.as ++ [x], σ := c.σ ++ [some ds] }
theorem Good.trk {P : Par} {hb : Heap} {c : Cf} {h : Heap} (G : Good P hb c h) {x : Addr} {vs : List Value} {ds : List AV} (hx : h.PlainList x vs.toArray) (hn : x ∉ c.as) (hf : ∀ o, ¬ c.F x o) (V : VRs P c.F c.as vs ds) : Good P hb (c.trk x ds) h := by
  have up : ∀ (n : Nat) a, c.as[n]? = some a → (c.as ++ [x])[n]? = some a := fun n a q => by
    rw [List.getElem?_append_left (by rw [List.getElem?_eq_some_iff] at q; exact q.1)]; exact q
  refine ⟨G.fz, G.base, by simp [Cf.trk, G.len], ?_, fun i a es e1 e2 => ?_, fun i a e => ?_⟩
  · exact List.nodup_append.mpr ⟨G.nd, by simp, fun a ha b hb e => by simp at hb; subst hb; subst e; exact hn ha⟩
  · dsimp only [Cf.trk] at e1 e2
    by_cases hi : i < c.as.length
    · rw [List.getElem?_append_left hi] at e1
      rw [List.getElem?_append_left (by rw [← G.len]; exact hi)] at e2
      obtain ⟨n, ws, L, W⟩ := G.cell i a es e1 e2
      exact ⟨n, ws, L, W.mono (fun _ _ e => e) up⟩
    · rw [List.getElem?_append_right (by omega)] at e1
      rw [List.getElem?_append_right (by rw [← G.len]; omega)] at e2
      have hi' : i - c.as.length = 0 := by
        cases z : i - c.as.length with
        | zero => rfl
        | succ m => rw [z] at e1; simp at e1
      rw [hi'] at e1
      rw [← G.len, hi'] at e2
      simp at e1 e2
      subst e1; subst e2
      exact ⟨hf, vs, hx, V.mono (fun _ _ e => e) up⟩
  · dsimp only [Cf.trk] at e
    by_cases hi : i < c.as.length
    · rw [List.getElem?_append_left hi] at e
      exact G.live i a e
    · rw [List.getElem?_append_right (by omega)] at e
      have hi' : i - c.as.length = 0 := by
        cases z : i - c.as.length with
        | zero => rfl
        | succ m => rw [z] at e; simp at e
      rw [hi'] at e
      simp at e
      subst e
      obtain ⟨o, ho⟩ := hx
      rw [ho]; rfl
theorem Stp.trk {X : Addr → Prop} {c : Cf} {h h' : Heap} {x : Addr} {ds : List AV} (k : ∀ a o, h.get? a = some o → h'.get? a = some o) (hn : h.get? x = none) : Stp X c h (c.trk x ds) h' :=
  ⟨fun _ _ e => e, ⟨[x], rfl, by simpa using hn⟩, fun a o e => .inl e, fun a o e _ _ => k a o e, (Stp.grown (X := X) (c := c) k).dom⟩

/-- a tracked list changes -/
noncomputable def Cf.put (c : Cf) (i : Nat) (ds : Option (List AV)) : Cf := { c with σ := c.σ.set i ds }
theorem Good.put {P : Par} {hb : Heap} {c : Cf} {h h' : Heap} (G : Good P hb c h) {i : Nat} {x : Addr} {ds : List AV} {vs : List Value} (hx : c.as[i]? = some x) {es : List AV} (he : c.σ[i]? = some (some es)) (hs : ∀ b o, b ≠ x → h.get? b = some o → h'.get? b = some o)
    (hl : h'.PlainList x vs.toArray) (V : VRs P c.F c.as vs ds) : Good P hb (c.put i (some ds)) h' := by
  have nf := (G.cell i x es hx he).1
  have up : ∀ (n : Nat) a, c.as[n]? = some a → (c.as ++ [x])[n]? = some a := fun n a q => by
    rw [List.getElem?_append_left (by rw [List.getElem?_eq_some_iff] at q; exact q.1)]; exact q
  refine ⟨fun a o e => ?_, G.base, by simp [Cf.put, G.len], G.nd, fun j a fs e1 e2 => ?_, fun j a e => ?_⟩
  · refine hs a o ?_ (G.fz a o e)
    rintro rfl
    exact nf o e
  · dsimp only [Cf.put] at e1 e2
    by_cases hj : j = i
    · subst hj
      rw [hx] at e1; cases e1
      rw [List.getElem?_set_self (by rw [List.getElem?_eq_some_iff] at he; exact he.1)] at e2
      cases e2
      exact ⟨nf, vs, hl, V⟩
    · rw [List.getElem?_set_ne (Ne.symm hj)] at e2
      obtain ⟨n, ws, ⟨o, ho⟩, W⟩ := G.cell j a fs e1 e2
      refine ⟨n, ws, ⟨o, hs a _ ?_ ho⟩, W⟩
      rintro rfl
      exact hj (nodup_inj G.nd e1 hx)
  · dsimp only [Cf.put] at e
    by_cases hj : a = x
    · subst hj
      obtain ⟨o, ho⟩ := hl
      rw [ho]; rfl
    · cases z : h.get? a with
      | none => have := G.live j a e; rw [z] at this; cases this
      | some o => rw [hs a o hj z]; rfl
theorem Stp.put {P : Par} {hb : Heap} {X : Addr → Prop} {c : Cf} {h h' : Heap} (_G : Good P hb c h) {i : Nat} {x : Addr} {ds : Option (List AV)} (hx : c.as[i]? = some x) (hs : ∀ b o, b ≠ x → h.get? b = some o → h'.get? b = some o) (hl : h'.get? x ≠ none) : Stp X c h (c.put i ds) h' :=
  ⟨fun _ _ e => e, ⟨[], by simp [Cf.put], by simp⟩, fun a o e => .inl e, fun a o e ha _ => hs a o (by rintro rfl; exact ha (List.mem_of_getElem? hx)) e, fun a e => by
    by_cases ha : a = x
    · subst ha; exact hl
    · cases z : h.get? a with
      | none => exact absurd z e
      | some o => rw [hs a o ha z]; simp⟩

/-- a tracked list is frozen -/
theorem Good.off {P : Par} {hb : Heap} {c : Cf} {h : Heap} (G : Good P hb c h) {i : Nat} {x : Addr} {ox : Obj} {es : List AV} (hx : c.as[i]? = some x) (he : c.σ[i]? = some (some es)) (ho : h.get? x = some ox) :
    Good P hb ((c.put i Option.none).frz x ox) h := by
  refine ⟨fun a o e => ?_, fun a o e => .inl (G.base a o e), by simp [Cf.put, Cf.frz, G.len], G.nd, fun j a fs e1 e2 => ?_, G.live⟩
  · rcases e with e | ⟨rfl, rfl⟩
    · exact G.fz a o e
    · exact ho
  · dsimp only [Cf.put, Cf.frz] at e1 e2
    have hj : j ≠ i := by
      rintro rfl
      rw [List.getElem?_set_self (by rw [List.getElem?_eq_some_iff] at he; exact he.1)] at e2
      cases e2
    rw [List.getElem?_set_ne (Ne.symm hj)] at e2
    obtain ⟨n, ws, L, W⟩ := G.cell j a fs e1 e2
    refine ⟨fun o e => ?_, ws, L, W.mono (fun _ _ e => .inl e) fun _ _ e => e⟩
    rcases e with e | ⟨rfl, rfl⟩
    · exact n o e
    · exact hj (nodup_inj G.nd e1 hx)
theorem Stp.off {X : Addr → Prop} {c : Cf} {h : Heap} {i : Nat} {x : Addr} {ox : Obj} (hx : c.as[i]? = some x) : Stp X c h ((c.put i Option.none).frz x ox) h :=
  ⟨fun _ _ e => .inl e, ⟨[], by simp [Cf.put, Cf.frz], by simp⟩, fun a o e => by
    rcases e with e | ⟨rfl, rfl⟩
    · exact .inl e
    · exact .inr (.inr (List.mem_of_getElem? hx)), fun a o e _ _ => e, fun a e => e⟩

end Mine
/-! Snd2 -/
section
open PySem.Calls
namespace Mine

noncomputable abbrev Sc := List (Str × NameKind)
noncomputable abbrev X0 : Addr → Prop := fun _ => False
noncomputable abbrev E0 : Value → Shared → Prop := fun _ _ => False

structure EnvOk (env : Env) (sc : Sc) : Prop where
  kind : env.scope.kind = .function
  names : env.scope.names = sc
  globals : env.globals = mainGlobals
  builtins : env.builtins = builtinsNs
theorem EnvOk.kindOf {env : Env} {sc : Sc} (e : EnvOk env sc) (x : Str) : env.kindOf x = sc.lookup x := by unfold Env.kindOf; rw [e.names]

noncomputable def Own (env : Env) (a : Addr) : Prop := a = env.locals ∨ ∃ n, env.cells.lookup n = some a

structure Frm (P : Par) (env : Env) (c : Cf) (h : Heap) (ρ : Rho) : Prop where
  ns : ∃ m, h.Ns env.locals m ∧ ∀ x d, ρ x = some d → env.kindOf (nm x) = some .local → ∃ v, m (nm x) = some v ∧ VR P c.F c.as v d
  cell : ∀ x d, ρ x = some d → env.kindOf (nm x) = some .cell → ∃ a v, env.cells.lookup (nm x) = some a ∧ h.IsCell a (some v) ∧ VR P c.F c.as v d
  kind : ∀ x d, ρ x = some d → env.kindOf (nm x) = some .local ∨ env.kindOf (nm x) = some .cell
  cells : ∀ n a, env.cells.lookup n = some a → ∃ v, h.IsCell a v
  has : ∀ n, env.kindOf n = some .cell → ∃ a, env.cells.lookup n = some a
  inj : ∀ n n' a, env.cells.lookup n = some a → env.cells.lookup n' = some a → n = n'
  own : ∀ a, Own env a → (∀ o, ¬ c.F a o) ∧ a ∉ c.as
  neL : ∀ n a, env.cells.lookup n = some a → a ≠ env.locals

theorem Frm.live {P : Par} {env : Env} {c : Cf} {h : Heap} {ρ : Rho} (f : Frm P env c h ρ) {a : Addr} (o : Own env a) : ∃ ob, h.get? a = some ob := by
  rcases o with rfl | ⟨n, e⟩
  · obtain ⟨m, ⟨o, _, _, e, _⟩, _⟩ := f.ns
    exact ⟨o, e⟩
  · obtain ⟨v, o, e, _⟩ := f.cells n a e
    exact ⟨o, e⟩

theorem own_stp {P : Par} {env : Env} {c c' : Cf} {h h' : Heap} {ρ : Rho} {X : Addr → Prop} (f : Frm P env c h ρ) (s : Stp X c h c' h') : ∀ a, Own env a → (∀ o, ¬ c'.F a o) ∧ a ∉ c'.as := by
  intro a o
  obtain ⟨n1, n2⟩ := f.own a o
  obtain ⟨ob, e⟩ := f.live o
  refine ⟨fun o' q => ?_, fun q => ?_⟩
  · rcases s.fnew a o' q with q | q | q
    · exact n1 _ q
    · rw [e] at q; cases q
    · exact n2 q
  · obtain ⟨bs, e1, e2⟩ := s.ale
    rw [e1] at q
    rcases List.mem_append.mp q with q | q
    · exact n2 q
    · rw [e2 a q] at e; cases e

theorem Frm.step {P : Par} {env : Env} {c c' : Cf} {h h' : Heap} {ρ : Rho} {X : Addr → Prop} (f : Frm P env c h ρ) (s : Stp X c h c' h') (hx : ∀ a, Own env a → ¬ X a) : Frm P env c' h' ρ := by
  have kp : ∀ a o, Own env a → h.get? a = some o → h'.get? a = some o := fun a o w e => s.keep a o e (f.own a w).2 (hx a w)
  refine ⟨?_, fun x d e k => ?_, f.kind, fun n a e => ?_, f.has, f.inj, own_stp f s, f.neL⟩
  · obtain ⟨m, ⟨o, es, ep, e1, e2⟩, r⟩ := f.ns
    refine ⟨m, ⟨o, es, ep, kp _ _ (.inl rfl) e1, e2⟩, fun x d e k => ?_⟩
    obtain ⟨v, e3, V⟩ := r x d e k
    exact ⟨v, e3, s.vr V⟩
  · obtain ⟨a, v, e1, ⟨o, e2, e3⟩, V⟩ := f.cell x d e k
    exact ⟨a, v, e1, ⟨o, kp _ _ (.inr ⟨_, e1⟩) e2, e3⟩, s.vr V⟩
  · obtain ⟨v, o, e2, e3⟩ := f.cells n a e
    exact ⟨v, o, kp _ _ (.inr ⟨_, e⟩) e2, e3⟩

noncomputable def AOk (D : Nat) (A : Around) : Prop := A.handled = none ∧ A.depth + 2 * D + 10 < recursionLimit ∧ A.units + 8 * D + 200 < cLine

/-- what the world gives -/
structure Wd (P : Par) (prog : Program) (w : World) (hb : Heap) (mg mb : Str → Option Value) : Prop where
  g : hb.Ns mainGlobals mg
  b : hb.Ns builtinsNs mb
  nolim : hb.NoLimit
  fn : ∀ f, f < 39 → mg (fnm f) = some (.ref (P.fa f))
  keep : ∀ f, f < 39 → ∀ h : Heap, (∀ a o, hb.get? a = some o → h.get? a = some o) → ∃ k, (k = Keeper.frame ∨ k = Keeper.machine ∨ k = Keeper.boundFrame) ∧ Looks (model prog w) h (keeperOf (.ref (P.fa f))) k
  glob : ∀ g d, gav g = some d → ∃ v, mg (gnm g) = some v ∧ VR P (fun a o => hb.get? a = some o) [] v d
  len : mg "len" = none ∧ mb "len" = some (.builtin "len")
  abs : mg "abs" = none ∧ mb "abs" = some (.builtin "abs")
  range : mg "range" = none ∧ mb "range" = some (.type "range")
  list : mg "list" = none ∧ mb "list" = some (.type "list")
  vec : mg "Vector" = some (.ref P.C)
  veck : ∀ h : Heap, (∀ a o, hb.get? a = some o → h.get? a = some o) → ∃ k, (k = Keeper.frame ∨ k = Keeper.machine ∨ k = Keeper.boundFrame) ∧ Looks (model prog w) h (keeperOf (.ref P.C)) k
  vcall : ∀ (A : Around) (c : Cf) (s : Shared) (v1 v2 : Value) (d1 d2 : AV), AOk 1 A → Good P hb c s.heap → VR P c.F c.as v1 d1 → VR P c.F c.as v2 d2 →
    wpAny (model prog w) A (call (.ref P.C) [v1, v2]) (fun v s' => ∃ c' : Cf, c'.σ = c.σ ∧ Good P hb c' s'.heap ∧ Stp X0 c s.heap c' s'.heap ∧ Rst s s' ∧ VR P c'.F c'.as v (.vec d1 d2)) E0 s
  attr : ∀ (A : Around) (s : Shared) (name : Str) (x dx : Addr) (es : List DictEntry) (n : Nat) (v : Value) (Q : Value → Shared → Prop), name = "kind" ∨ name = "items" → (∀ a o, hb.get? a = some o → s.heap.get? a = some o) →
    s.heap.get? x = some (instObj P.C dx) → s.heap.get? dx = some (dictOf es n) → getL name es = some (some v) → handedIn v = true → Q v { s with toks := s.toks + 1 } → wpAny (model prog w) A (getAttr (.ref x) name true) Q E0 s

section
variable {P : Par} {prog : Program} {w : World} {hb : Heap} {A : Around} {c : Cf} {s : Shared} {env : Env} {ρ : Rho} {Q : AV → Sto → Prop}

/-- the end of an expression -/
noncomputable def Pst (P : Par) (hb : Heap) (X : Addr → Prop) (c : Cf) (s : Shared) (Q : AV → Sto → Prop) (v : Value) (s' : Shared) : Prop :=
  ∃ (c' : Cf) (d : AV), Q d c'.σ ∧ Good P hb c' s'.heap ∧ Stp X c s.heap c' s'.heap ∧ Rst s s' ∧ VR P c'.F c'.as v d

noncomputable def TabOk (P : Par) (prog : Program) (w : World) (hb : Heap) (D : Nat) (Φ : Tab) : Prop :=
  ∀ (f : Nat) (ds : List AV) (Q : AV → Sto → Prop) (σ : Sto), Φ f ds Q σ → f < 39 ∧ ∀ (A : Around) (c : Cf) (s : Shared) (vs : List Value), AOk D A → Good P hb c s.heap → c.σ = σ → VRs P c.F c.as vs ds →
    wpAny (model prog w) A (call (.ref (P.fa f)) vs) (Pst P hb X0 c s Q) E0 s

theorem vr_int {F : Addr → Obj → Prop} {as : List Addr} {v : Value} {i : Int} (V : VR P F as v (.int i)) : ∃ t, v = .int i t := by cases V; exact ⟨_, rfl⟩
theorem vr_str {F : Addr → Obj → Prop} {as : List Addr} {v : Value} {k : Nat} (V : VR P F as v (.str k)) : ∃ t, v = .str (st k) t := by cases V; exact ⟨_, rfl⟩
theorem vr_bool {F : Addr → Obj → Prop} {as : List Addr} {v : Value} {b : Bool} (V : VR P F as v (.bool b)) : v = .bool b := by cases V; rfl
theorem vr_handed {F : Addr → Obj → Prop} {as : List Addr} {v : Value} {d : AV} (V : VR P F as v d) : handedIn v = true := by cases V <;> rfl

theorem Pst.here {X : Addr → Prop} (G : Good P hb c s.heap) {v : Value} {d : AV} (V : VR P c.F c.as v d) (q : Q d c.σ) (t : Nat) : Pst P hb X c s Q v { s with toks := t } :=
  ⟨c, d, q, G, Stp.refl _ _ _, ⟨rfl, rfl, rfl⟩, V⟩

/-- compose -/
theorem Pst.after {X : Addr → Prop} {c1 : Cf} {s1 : Shared} (S : Stp X c s.heap c1 s1.heap) (R : Rst s s1) {v : Value} {s2 : Shared} (p : Pst P hb X c1 s1 Q v s2) : Pst P hb X c s Q v s2 := by
  obtain ⟨c2, d, q, G, S2, R2, V⟩ := p
  exact ⟨c2, d, q, G, S.trans S2, R.trans R2, V⟩

theorem keep_push (h : Heap) (o : Obj) : ∀ a o', h.get? a = some o' → (h.push o).get? a = some o' := fun _ _ e => Heap.get?_push_of_some _ e
theorem none_size (h : Heap) : h.get? h.objs.size = none := by
  cases e : h.get? h.objs.size with
  | none => rfl
  | some o => exact absurd (Heap.lt_size e) (Nat.lt_irrefl _)

/-- a new frozen list or tuple -/
theorem Pst.newSeq {X : Addr → Prop} (G : Good P hb c s.heap) {T : String} {vs : List Value} {ds : List AV} (hT : T = "list" ∨ T = "tuple") (V : VRs P c.F c.as vs ds) (q : Q (if T = "list" then .list ds else .tup ds) c.σ) (t : Nat) :
    Pst P hb X c s Q (.ref s.heap.objs.size) { s with heap := s.heap.push { cls := .type T, data := .seq vs.toArray }, toks := t } := by
  have gx : (s.heap.push { cls := .type T, data := .seq vs.toArray }).get? s.heap.objs.size = some { cls := .type T, data := .seq vs.toArray } := Heap.get?_push_size _ rfl
  refine ⟨c.frz s.heap.objs.size { cls := .type T, data := .seq vs.toArray }, _, q, (G.grown (keep_push _ _)).frz gx (G.fresh (none_size _)), Stp.frz (keep_push _ _) (none_size _), ⟨rfl, rfl, rfl⟩, ?_⟩
  have W : VRs P (c.frz s.heap.objs.size { cls := .type T, data := .seq vs.toArray }).F c.as vs ds := V.mono (fun _ _ e => .inl e) fun _ _ e => e
  rcases hT with rfl | rfl
  · exact .list (.inr ⟨rfl, rfl⟩) rfl rfl W
  · exact .tup (.inr ⟨rfl, rfl⟩) rfl rfl W

/-- a new tracked list -/
theorem Pst.newTrk {X : Addr → Prop} (G : Good P hb c s.heap) {vs : List Value} {ds : List AV} (V : VRs P c.F c.as vs ds) (q : Q (.ref c.σ.length) (c.σ ++ [some ds])) (t : Nat) :
    Pst P hb X c s Q (.ref s.heap.objs.size) { s with heap := s.heap.push { cls := .type "list", data := .seq vs.toArray }, toks := t } := by
  have gx : (s.heap.push { cls := .type "list", data := .seq vs.toArray }).get? s.heap.objs.size = some { cls := .type "list", data := .seq vs.toArray } := Heap.get?_push_size _ rfl
  refine ⟨c.trk s.heap.objs.size ds, _, q, (G.grown (keep_push _ _)).trk ⟨_, gx⟩ (G.fresh (none_size _)) (fun o e => ?_) V, Stp.trk (keep_push _ _) (none_size _), ⟨rfl, rfl, rfl⟩, .ref ?_⟩
  · have := G.fz _ _ e; rw [none_size] at this; cases this
  · show (c.as ++ [s.heap.objs.size])[c.σ.length]? = _
    rw [← G.len]; simp

/-- the items of a list value in the heap -/
theorem items_at (G : Good P hb c s.heap) {v : Value} {d : AV} {ds : List AV} (V : VR P c.F c.as v d) (e : itemsOf c.σ d = some ds) : ∃ a vs, v = .ref a ∧ s.heap.IsList a (List.toArray vs) ∧ VRs P c.F c.as vs ds := by
  cases d with
  | list xs =>
    cases e
    cases V with
    | list h1 h2 h3 h4 => exact ⟨_, _, rfl, ⟨_, G.fz _ _ h1, h2, _, h3⟩, h4⟩
  | ref n =>
    cases V with
    | ref h =>
      simp only [itemsOf] at e
      split at e
      · rename_i xs q
        cases e
        obtain ⟨_, vs, L, W⟩ := G.cell _ _ _ h q
        exact ⟨_, vs, rfl, L.isList, W⟩
      · cases e
  | _ => cases e

theorem tup_at (G : Good P hb c s.heap) {v : Value} {ds : List AV} (V : VR P c.F c.as v (.tup ds)) : ∃ a vs, v = .ref a ∧ IsTup s.heap a (List.toArray vs) ∧ VRs P c.F c.as vs ds := by
  cases V with
  | tup h1 h2 h3 h4 => exact ⟨_, _, rfl, ⟨_, G.fz _ _ h1, h2, _, h3⟩, h4⟩

theorem lenB_line {n : Nat} (h : n < lenB) : n ≤ sizeLine := by unfold lenB at h; rw [sizeLine_eq]; omega

theorem truthy_snd (G : Good P hb c s.heap) {v : Value} {d : AV} {b : Bool} {K : Bool → Shared → Prop} (V : VR P c.F c.as v d) (e : tru c.σ d = some b) (h : ∀ t, K b { s with toks := t }) : wpAny (model prog w) A (truthy v) K E0 s := by
  have lst : ∀ ds, itemsOf c.σ d = some ds → ds.length < lenB → b = !ds.isEmpty → wpAny (model prog w) A (truthy v) K E0 s := by
    intro ds e1 hl e2
    obtain ⟨a, vs, rfl, L, W⟩ := items_at G V e1
    have hlen := W.length
    unfold lenB at hl
    refine wpAny_truthy_list L (by simp; omega) ?_
    have : (!vs.toArray.isEmpty) = b := by rw [e2]; cases vs <;> cases ds <;> simp_all
    rw [this]; exact h _
  cases d with
  | bool x => cases e; cases V; exact wpAny_truthy_bool (h s.toks)
  | list ds =>
    simp only [tru] at e
    split at e
    · rename_i hl; cases e; exact lst ds rfl hl rfl
    · cases e
  | ref n =>
    simp only [tru] at e
    split at e
    · rename_i ds q
      split at e
      · rename_i hl
        cases e
        exact lst ds (by simp [itemsOf, q]) hl rfl
      · cases e
    · cases e
  | _ => cases e

set_option exponentiation.threshold 5000
theorem bigB_eq : bigB = 2 ^ 4000 := rfl
theorem log2_big {n : Nat} (h : n < bigB) : n.log2 < 4000 := by
  rcases Nat.eq_zero_or_pos n with h0 | hp
  · rw [h0]; decide
  · exact (Nat.log2_lt (Nat.ne_of_gt hp)).mpr h
theorem mulOk_ok {i j : Int} (h : mulOk i j) : IntMulOk i j := by
  rcases h with h | h | ⟨h1, h2⟩
  · exact .of_left (intBits_le_64 (by omega) (by omega))
  · exact .of_right (intBits_le_64 (by omega) (by omega))
  · have a1 := log2_big h1
    have a2 := log2_big h2
    have b1 : Builtin.Int.intBits i ≤ 4000 := by unfold Builtin.Int.intBits; split <;> omega
    have b2 : Builtin.Int.intBits j ≤ 4000 := by unfold Builtin.Int.intBits; split <;> omega
    have b3 : Builtin.Int.intTooBig ((Builtin.Int.intBits i : Int) + (Builtin.Int.intBits j : Int)) = false := by
      unfold Builtin.Int.intTooBig bitsLine
      exact decide_eq_false (by omega)
    unfold IntMulOk
    rw [b3]; simp

noncomputable def binO : BinK → Operator
  | .add => .Add | .sub => .Sub | .mul => .Mult | .fdiv => .FloorDiv | .mod => .Mod

theorem newPush {X : Addr → Prop} (G : Good P hb c s.heap) {vs : List Value} {ds : List AV} (V : VRs P c.F c.as vs ds) (q : Q (.list ds) c.σ) (t : Nat) :
    Pst P hb X c s Q (.ref s.heap.objs.size) { s with heap := s.heap.push { cls := .type "list", data := .seq vs.toArray }, toks := t } :=
  Pst.newSeq G (.inl rfl) V (by simpa using q) t

theorem add_listsR {l b : Addr} {vs ws : List Value} {Q : Value → Shared → Prop} {E : Value → Shared → Prop} (hl : s.heap.IsList l vs.toArray) (hb : s.heap.IsList b ws.toArray)
    (h : Q (.ref s.heap.objs.size) { s with heap := s.heap.push { cls := .type "list", data := .seq (vs ++ ws).toArray } })
    (hsz : vs.length + ws.length ≤ sizeLine) :
    wpAny (model prog w) A (binaryOp .Add (.ref l) (.ref b)) Q E s := by
  obtain ⟨⟨cls, dd, data, sl⟩, ho, hc, n, hd⟩ := id hl
  obtain ⟨⟨cls2, dd2, data2, sl2⟩, ho2, hc2, n2, hd2⟩ := id hb
  simp only at hc hd hc2 hd2
  subst hc hd hc2 hd2
  have e : vs.toArray ++ ws.toArray = (vs ++ ws).toArray := by simp
  refine concat_meets ⟨_, ho, rfl⟩ ⟨_, ho2, rfl⟩ noFill_list_add seq_list_add PySem.F.slot_list_add PySem.F.entry_list_add (PySem.F.args_list_add_2 _ _) (list_addW l b vs.toArray ws.toArray n n2 dd dd2 sl sl2 (by simpa using hsz)) ⟨ho, ho2, ?_⟩
  rw [e]
  exact h

theorem bin_snd (G : Good P hb c s.heap) {op : BinK} {v u : Value} {x y : AV} (V : VR P c.F c.as v x) (U : VR P c.F c.as u y) (h : binA op x y fun z => Q z c.σ) :
    wpAny (model prog w) A (binaryOp (binO op) v u) (Pst P hb X0 c s Q) E0 s := by
  cases x with
  | int i =>
    obtain ⟨t, rfl⟩ := vr_int V
    cases y with
    | int j =>
      obtain ⟨t', rfl⟩ := vr_int U
      cases op with
      | add => exact add_int (Pst.here G (.int _ _) h _)
      | sub => exact sub_int (Pst.here G (.int _ _) h _)
      | mul => exact mul_int (Pst.here G (.int _ _) h.2 _) (mulOk_ok h.1)
      | fdiv =>
        refine floordiv_int h.1 (Pst.here G (.int _ _) h.2.2 _) (.inl (PyProof.noPylong_of_log2 ?_))
        have := log2_big h.2.1
        omega
      | mod => exact mod_int h.1 (Pst.here G (.int _ _) h.2 _)
    | _ => cases op <;> exact h.elim
  | list a =>
    cases y with
    | list b =>
      cases op with
      | add =>
        obtain ⟨l, vs, rfl, L1, W1⟩ := items_at G V rfl
        obtain ⟨r, us, rfl, L2, W2⟩ := items_at G U rfl
        obtain ⟨h1, h2, h3⟩ := h
        refine add_listsR L1 L2 (newPush G (W1.append W2) h3 _) ?_
        have := W1.length
        have := W2.length
        unfold lenB at h1 h2
        rw [sizeLine_eq]; omega
      | _ => exact h.elim
    | _ => cases op <;> exact h.elim
  | _ => cases op <;> exact h.elim

theorem neg_snd (G : Good P hb c s.heap) {v : Value} {i : Int} (V : VR P c.F c.as v (.int i)) (h : Q (.int (-i)) c.σ) : wpAny (model prog w) A (unaryOp .USub v) (Pst P hb X0 c s Q) E0 s := by
  obtain ⟨t, rfl⟩ := vr_int V
  exact neg_int (Pst.here G (.int _ _) h _)

theorem idx_snd (G : Good P hb c s.heap) {v u : Value} {x y : AV} (V : VR P c.F c.as v x) (U : VR P c.F c.as u y) (h : idxA x y fun z => Q z c.σ) {value slice : PySem.Expr}
    (hs : ∀ o i, subscripted slice false o i = operate [o, i] (getItem o i)) :
    wpAny (model prog w) A (subscriptTail value slice v u) (Pst P hb X0 c s Q) E0 s := by
  cases y with
  | int k =>
    obtain ⟨t, rfl⟩ := vr_int U
    cases x with
    | list ds =>
      obtain ⟨l, vs, rfl, L, W⟩ := items_at G V rfl
      obtain ⟨h0, h1, d, e, q⟩ := h
      obtain ⟨v, ev, Vd⟩ := W.get _ _ e
      exact tail_any L.typeIs slot_list_getitem.lookup (wpAny_getItem_list L h0 (by omega) (by simpa using ev) (Pst.here G Vd q _)) (hs _ _)
    | tup ds =>
      obtain ⟨l, vs, rfl, L, W⟩ := tup_at G V
      obtain ⟨h0, h1, d, e, q⟩ := h
      obtain ⟨v, ev, Vd⟩ := W.get _ _ e
      refine tail_any L.typeIs slot_tuple_getitem.lookup (PyProof.Rows.getItem_tuple L (j := k.toNat) (by omega) (by omega) ?_ (by simpa using ev) (Pst.here G Vd q _)) (hs _ _)
      have hlt : k.toNat < vs.length := by rw [List.getElem?_eq_some_iff] at ev; exact ev.1
      unfold seqIndex?
      rw [List.size_toArray]
      simp
      omega
    | _ => exact h.elim
  | _ => cases x <;> exact h.elim

mutual
noncomputable def toP : AV → PyData
  | .none => .none
  | .int i => .int i
  | .str k => .str (st k)
  | .tup ds => .tuple (toPs ds)
  | .list ds => .list (toPs ds)
  | _ => .none
noncomputable def toPs : List AV → List PyData
  | [] => []
  | d :: ds => toP d :: toPs ds
end
theorem toPs_map : ∀ ds, toPs ds = ds.map toP
  | [] => rfl
  | d :: ds => by rw [toPs, toPs_map ds]; rfl

section
variable {h : Heap} {F : Addr → Obj → Prop} {as : List Addr}
theorem toP_reads2 (fz : ∀ a o, F a o → h.get? a = some o) {P : Par} :
    (∀ {v : Value} {d : AV}, VR P F as v d → ∀ n, okD n d = true → ∃ bs, Reads h v (toP d) bs) ∧ (∀ {vs : List Value} {ds : List AV}, VRs P F as vs ds → ∀ n, (∀ d ∈ ds, okD n d = true) → ∃ bs, ReadsAll h vs (toPs ds) bs) :=
  VR.both (fun _ _ => ⟨_, Reads.none⟩) (fun b n hk => by cases n <;> cases hk) (fun i t _ _ => ⟨_, Reads.int i t⟩) (fun k t _ _ => ⟨_, Reads.str _ t⟩)
    (fun h1 h2 h3 _ h4 n hk => by
      cases n with
      | zero => cases hk
      | succ n =>
        obtain ⟨bs, q⟩ := h4 n (List.all_eq_true.mp hk)
        exact ⟨_, reads_tuple_at (fz _ _ h1) h2 h3 (by simpa using q)⟩)
    (fun h1 h2 h3 _ h4 n hk => by
      cases n with
      | zero => cases hk
      | succ n =>
        obtain ⟨bs, q⟩ := h4 n (List.all_eq_true.mp hk)
        exact ⟨_, reads_list_at (fz _ _ h1) h2 h3 (by simpa using q)⟩)
    (fun _ _ _ _ _ _ _ _ n hk => by cases n <;> cases hk) (fun _ n hk => by cases n <;> cases hk) (fun _ n hk => by cases n <;> cases hk)
    (fun _ _ => ⟨_, ReadsAll.nil⟩)
    (fun _ _ g r n hk => by
      obtain ⟨bs, q⟩ := g n (hk _ (.head _))
      obtain ⟨cs, p⟩ := r n fun d hm => hk d (.tail _ hm)
      exact ⟨_, ReadsAll.cons q p⟩)
theorem toP_reads {P : Par} (fz : ∀ a o, F a o → h.get? a = some o) {v : Value} {d : AV} (n : Nat) (r : VR P F as v d) (k : okD n d = true) : ∃ bs, Reads h v (toP d) bs := (toP_reads2 fz).1 r n k
theorem toPs_reads {P : Par} (fz : ∀ a o, F a o → h.get? a = some o) {vs : List Value} {ds : List AV} (n : Nat) (r : VRs P F as vs ds) (k : ∀ d ∈ ds, okD n d = true) : ∃ bs, ReadsAll h vs (toPs ds) bs := (toP_reads2 fz).2 r n k
end
theorem st_ok : ∀ k, k < 13 → PyData.strOk (st k) = true := by decide +kernel
theorem okD_rec {M : Nat → AV → Prop} (hn : ∀ n, M n .none) (hi : ∀ n i, M n (.int i)) (hs : ∀ n k, k < 13 → M n (.str k))
    (ht : ∀ n ds, (∀ d ∈ ds, okD n d = true) → (∀ d ∈ ds, M n d) → M (n + 1) (.tup ds)) (hl : ∀ n ds, (∀ d ∈ ds, okD n d = true) → (∀ d ∈ ds, M n d) → M (n + 1) (.list ds)) :
    ∀ (n : Nat) (d : AV), okD n d = true → M n d := by
  intro n
  induction n with
  | zero =>
    intro d h
    cases d with
    | none => exact hn 0
    | int i => exact hi 0 i
    | str k => exact hs 0 k (of_decide_eq_true h)
    | _ => exact absurd h nofun
  | succ n ih =>
    intro d h
    cases d with
    | none => exact hn _
    | int i => exact hi _ i
    | str k => exact hs _ k (of_decide_eq_true h)
    | tup ds => exact ht n ds (List.all_eq_true.mp h) fun d hd => ih d (List.all_eq_true.mp h d hd)
    | list ds => exact hl n ds (List.all_eq_true.mp h) fun d hd => ih d (List.all_eq_true.mp h d hd)
    | _ => exact absurd h nofun
theorem toPs_lay (n : Nat) (ds : List AV) (h : ∀ d ∈ ds, (toP d).canLay0 = true ∧ (toP d).depth ≤ n) : PyData.canLayAll0 (toPs ds) = true ∧ PyData.depthAll (toPs ds) ≤ n := by
  induction ds with
  | nil => exact ⟨rfl, Nat.zero_le _⟩
  | cons d ds hi =>
    have h1 := h d (.head _)
    have h2 := hi fun e he => h e (.tail _ he)
    exact ⟨Bool.and_eq_true_iff.mpr ⟨h1.1, h2.1⟩, Nat.max_le.mpr ⟨h1.2, h2.2⟩⟩
theorem toP_lay : ∀ (n : Nat) (d : AV), okD n d = true → (toP d).canLay0 = true ∧ (toP d).depth ≤ n :=
  okD_rec (M := fun n d => (toP d).canLay0 = true ∧ (toP d).depth ≤ n) (fun _ => ⟨rfl, Nat.zero_le _⟩) (fun _ _ => ⟨rfl, Nat.zero_le _⟩) (fun _ k h => ⟨st_ok k h, Nat.zero_le _⟩)
    (fun n ds _ h => ⟨(toPs_lay n ds h).1, Nat.succ_le_succ (toPs_lay n ds h).2⟩) (fun n ds _ h => ⟨(toPs_lay n ds h).1, Nat.succ_le_succ (toPs_lay n ds h).2⟩)
theorem st_beq (a b : Nat) : (st a == st b) = decide (a = b) := by
  by_cases h : a = b
  · subst h; simp
  · rw [decide_eq_false h]; exact beq_eq_false_iff_ne.mpr fun e => h (st_inj e)
theorem int_beq (a b : Int) : (a == b) = decide (a = b) := by
  by_cases h : a = b
  · subst h; simp
  · rw [decide_eq_false h]; exact beq_eq_false_iff_ne.mpr h
theorem toPs_eqv (ds : List AV) (h : ∀ d ∈ ds, ∀ k e, okD k e = true → PyData.eqv (toP d) (toP e) = eqb d e) (k : Nat) : ∀ es : List AV, (∀ d ∈ es, okD k d = true) → PyData.eqvAll (toPs ds) (toPs es) = eqbs ds es := by
  induction ds with
  | nil => intro es _; cases es <;> rfl
  | cons d ds hi =>
    intro es h2
    cases es with
    | nil => rfl
    | cons e es =>
      have q1 := h d (.head _) k e (h2 e (.head _))
      have q2 := hi (fun x hx => h x (.tail _ hx)) es fun x hx => h2 x (.tail _ hx)
      show (_ && _) = (_ && _)
      rw [q1, q2]
theorem toP_eqv : ∀ (n : Nat) (d e : AV) (k : Nat), okD n d = true → okD k e = true → PyData.eqv (toP d) (toP e) = eqb d e := by
  intro n d e k h1 h2
  revert k e
  suffices h : ∀ k e, okD k e = true → PyData.eqv (toP d) (toP e) = eqb d e from fun e k => h k e
  refine okD_rec (M := fun _ d => ∀ k e, okD k e = true → PyData.eqv (toP d) (toP e) = eqb d e) ?_ ?_ ?_ ?_ ?_ n d h1
  · exact fun _ => okD_rec (M := fun _ e => PyData.eqv (toP .none) (toP e) = eqb .none e) (fun _ => rfl) (fun _ _ => rfl) (fun _ _ _ => rfl) (fun _ _ _ _ => rfl) (fun _ _ _ _ => rfl)
  · exact fun _ i => okD_rec (M := fun _ e => PyData.eqv (toP (.int i)) (toP e) = eqb (.int i) e) (fun _ => rfl) (fun _ _ => int_beq _ _) (fun _ _ _ => rfl) (fun _ _ _ _ => rfl) (fun _ _ _ _ => rfl)
  · exact fun _ i _ => okD_rec (M := fun _ e => PyData.eqv (toP (.str i)) (toP e) = eqb (.str i) e) (fun _ => rfl) (fun _ _ => rfl) (fun _ _ _ => st_beq _ _) (fun _ _ _ _ => rfl) (fun _ _ _ _ => rfl)
  · exact fun _ ds _ h => okD_rec (M := fun _ e => PyData.eqv (toP (.tup ds)) (toP e) = eqb (.tup ds) e) (fun _ => rfl) (fun _ _ => rfl) (fun _ _ _ => rfl) (fun k es g _ => toPs_eqv ds h k es g) (fun _ _ _ _ => rfl)
  · exact fun _ ds _ h => okD_rec (M := fun _ e => PyData.eqv (toP (.list ds)) (toP e) = eqb (.list ds) e) (fun _ => rfl) (fun _ _ => rfl) (fun _ _ _ => rfl) (fun _ _ _ _ => rfl) (fun k es g _ => toPs_eqv ds h k es g)

theorem deref_reads (G : Good P hb c s.heap) {v : Value} {x a : AV} (V : VR P c.F c.as v x) (e : deref c.σ x = some a) (ok : okD 6 a = true) : ∃ bs, Reads s.heap v (toP a) bs := by
  by_cases hr : ∃ n, x = .ref n
  · obtain ⟨n, rfl⟩ := hr
    simp only [deref] at e
    split at e
    · rename_i ds q
      cases e
      cases V with
      | ref h =>
        obtain ⟨_, vs, ⟨k, L⟩, W⟩ := G.cell _ _ _ h q
        obtain ⟨bs, r⟩ := toPs_reads G.fz 5 W (List.all_eq_true.mp ok)
        rw [toP]
        exact ⟨_, reads_list_at L rfl rfl (by simpa using r)⟩
    · cases e
  · have : a = x := by
      cases x <;> first | (simp only [deref] at e; cases e; rfl) | exact absurd ⟨_, rfl⟩ hr
    subst this
    exact toP_reads G.fz 6 V ok

noncomputable def cmpO : CmpK → CmpOp
  | .eq => .Eq | .ne => .NotEq | .lt => .Lt | .gt => .Gt | .isNone => .Is | .isNotNone => .IsNot | .isIn => .In | .notIn => .NotIn

theorem st_lt : ∀ a, a < 5 → ∀ b, b < 5 → decide ((st a).cps.toList < (st b).cps.toList) = decide (a < b) := by decide +kernel

theorem cmpB {B : Bool → Prop} {X : Addr → Prop} (G : Good P hb c s.heap) {b : Bool} (q : B b) (hB : ∀ t, B t → Q (.bool t) c.σ) : Pst P hb X c s Q (.bool b) s :=
  ⟨c, .bool b, hB b q, G, Stp.refl _ _ _, ⟨rfl, rfl, rfl⟩, .bool b⟩

theorem shaped_ok {d : AV} (h : okD 6 d = true) : SeqAt.shaped (toP d) = true := by
  have l := toP_lay 6 d h
  unfold SeqAt.shaped
  rw [l.1, Bool.true_and]
  exact decide_eq_true (Nat.le_trans l.2 (by decide))

theorem any_eqv {ds : List AV} {x : AV} (h1 : ds.all (okD 6) = true) (h2 : okD 6 x = true) : ((toPs ds).any fun y => PyData.eqv y (toP x)) = ds.any fun d => eqb d x := by
  rw [toPs_map, List.any_map]
  induction ds with
  | nil => rfl
  | cons d ds ih =>
    rw [List.all_cons, Bool.and_eq_true] at h1
    rw [List.any_cons, List.any_cons, ih h1.2]
    have := toP_eqv 6 d x 6 h1.1 h2
    rw [show ((fun y => PyData.eqv y (toP x)) ∘ toP) d = PyData.eqv (toP d) (toP x) from rfl, this]

theorem lay_list {ds : List AV} (h : ds.all (okD 6) = true) : PyData.canLayAll0 (toPs ds) = true := by
  have l := toP_lay 7 (.list ds) h
  rw [toP] at l
  simpa [PyData.canLay0] using l.1

theorem cmp_snd (G : Good P hb c s.heap) (hu : A.units + 200 < cLine) {op : CmpK} {v u : Value} {x y : AV} (V : VR P c.F c.as v x) (U : VR P c.F c.as u y) (h : cmpA c.σ op x y fun t => Q (.bool t) c.σ) :
    wpAny (model prog w) A (compareOp (cmpO op) v u) (Pst P hb X0 c s Q) E0 s := by
  have fin : ∀ b, Q (.bool b) c.σ → Pst P hb X0 c s Q (.bool b) s := fun b q => cmpB (B := fun t => Q (.bool t) c.σ) G q fun _ e => e
  cases op with
  | eq =>
    simp only [cmpA] at h
    split at h
    · rename_i a b e1 e2
      obtain ⟨o1, o2, q⟩ := h
      obtain ⟨as', r1⟩ := deref_reads G V e1 o1
      obtain ⟨bs', r2⟩ := deref_reads G U e2 o2
      refine eq_dataH r1 r2 (shaped_ok o1) (shaped_ok o2) (by omega) ?_
      rw [toP_eqv 6 a b 6 o1 o2]
      exact fin _ q
    · exact h.elim
  | ne =>
    simp only [cmpA] at h
    split at h
    · rename_i a b e1 e2
      obtain ⟨o1, o2, q⟩ := h
      obtain ⟨as', r1⟩ := deref_reads G V e1 o1
      obtain ⟨bs', r2⟩ := deref_reads G U e2 o2
      refine ne_dataH r1 r2 (shaped_ok o1) (shaped_ok o2) (by omega) ?_
      rw [toP_eqv 6 a b 6 o1 o2]
      exact fin _ q
    · exact h.elim
  | lt =>
    simp only [cmpA] at h
    split at h
    · obtain ⟨t, rfl⟩ := vr_int V
      obtain ⟨t', rfl⟩ := vr_int U
      exact lt_int (fin _ h)
    · rename_i a b
      obtain ⟨t, rfl⟩ := vr_str V
      obtain ⟨t', rfl⟩ := vr_str U
      obtain ⟨h1, h2, q⟩ := h
      refine lt_str (fin _ ?_)
      have e := st_lt a h1 b h2
      rw [show (decide ((st a).cps.toList < (st b).cps.toList)) = decide (a < b) from e]
      exact q
    · exact h.elim
  | gt =>
    simp only [cmpA] at h
    split at h
    · obtain ⟨t, rfl⟩ := vr_int V
      obtain ⟨t', rfl⟩ := vr_int U
      exact gt_int (fin _ h)
    · exact h.elim
  | isNone =>
    simp only [cmpA] at h
    split at h
    · cases V; cases U; exact wpAny_is_self rfl (fin _ h)
    · rename_i hx
      cases U
      have hv : v ≠ .none := by rintro rfl; cases V; exact hx rfl
      refine wpAny_is_other ?_ hv (fin _ h)
      cases V <;> rfl
    · exact h.elim
  | isNotNone =>
    simp only [cmpA] at h
    split at h
    · cases V; cases U; exact wpAny_isNot_self rfl (fin _ h)
    · rename_i hx
      cases U
      have hv : v ≠ .none := by rintro rfl; cases V; exact hx rfl
      refine wpAny_isNot_other ?_ hv (fin _ h)
      cases V <;> rfl
    · exact h.elim
  | isIn =>
    simp only [cmpA] at h
    split at h
    · obtain ⟨o1, o2, q⟩ := h
      obtain ⟨bs, r⟩ := toP_reads G.fz 7 U o1
      obtain ⟨as', rx⟩ := toP_reads G.fz 6 V o2
      rw [toP] at r
      have d2 := (toP_lay 6 x o2).2
      refine SeqAt.in_list_reads r rx (lay_list o1) (toP_lay 6 x o2).1 ?_ (by rw [any_eqv o1 o2]; exact fin _ q)
      omega
    · obtain ⟨o1, o2, q⟩ := h
      obtain ⟨bs, r⟩ := toP_reads G.fz 7 U o1
      obtain ⟨as', rx⟩ := toP_reads G.fz 6 V o2
      rw [toP] at r
      have d2 := (toP_lay 6 x o2).2
      refine SeqAt.in_tuple_reads r rx (lay_list o1) (toP_lay 6 x o2).1 ?_ (by rw [any_eqv o1 o2]; exact fin _ q)
      omega
    · exact h.elim
  | notIn =>
    simp only [cmpA] at h
    split at h
    · obtain ⟨o1, o2, q⟩ := h
      obtain ⟨bs, r⟩ := toP_reads G.fz 7 U o1
      obtain ⟨as', rx⟩ := toP_reads G.fz 6 V o2
      rw [toP] at r
      have d2 := (toP_lay 6 x o2).2
      refine SeqAt.notIn_list_reads r rx (lay_list o1) (toP_lay 6 x o2).1 ?_ (by rw [any_eqv o1 o2]; exact fin _ q)
      omega
    · obtain ⟨o1, o2, q⟩ := h
      obtain ⟨bs, r⟩ := toP_reads G.fz 7 U o1
      obtain ⟨as', rx⟩ := toP_reads G.fz 6 V o2
      rw [toP] at r
      have d2 := (toP_lay 6 x o2).2
      refine SeqAt.notIn_tuple_reads r rx (lay_list o1) (toP_lay 6 x o2).1 ?_ (by rw [any_eqv o1 o2]; exact fin _ q)
      omega
    · exact h.elim
end

end Mine
end
/-! Snd3 -/
section
open PySem.Calls
namespace Mine

theorem range_filterMap {α : Type} (l : List α) : (List.range l.length).filterMap (fun k => l[k]?) = l := by
  have h := pick_run l.toArray 0 l.length
  simpa using h
theorem fm_congr {α β : Type} {f g : α → Option β} : ∀ {l : List α}, (∀ k ∈ l, f k = g k) → l.filterMap f = l.filterMap g
  | [], _ => rfl
  | a :: l, h => by
    rw [List.filterMap_cons, List.filterMap_cons, h a (.head _), fm_congr fun k hk => h k (.tail _ hk)]
theorem pick_rev (vs : List Value) : slicePick vs.toArray none none (some (-1)) = vs.reverse.toArray := by
  unfold slicePick
  have e : sliceBounds none none (some (-1)) vs.toArray.size = ((vs.length : Int) - 1, -1, -1) := by
    simp [sliceBounds]
  rw [e]
  unfold sliceRange
  dsimp only
  have e2 : (if (-1 : Int) > 0 then (if (vs.length : Int) - 1 < -1 then (-1 - ((vs.length : Int) - 1) + -1 - 1) / -1 else 0) else (if (vs.length : Int) - 1 > -1 then ((vs.length : Int) - 1 - -1 - -1 - 1) / -(-1) else 0)).toNat = vs.length := by
    rw [if_neg (by decide)]
    split <;> simp <;> omega
  rw [e2, List.filterMap_map]
  congr 1
  conv => rhs; rw [← range_filterMap vs.reverse, List.length_reverse]
  refine fm_congr fun k hk => ?_
  rw [List.mem_range] at hk
  rw [List.getElem?_reverse hk]
  simp only [Function.comp]
  rw [show ((vs.length : Int) - 1 + -1 * (k : Int)).toNat = vs.length - 1 - k by omega]
  simp

noncomputable def relab (sc names : Sc) : Sc := names.map fun (n, k) => if (k == .free && sc.lookup n == some .cell) then (n, .cell) else (n, k)

/-- the block of a comprehension -/
structure CompOk (sc : Sc) (scope : Scope) (x : Nat) (fvs : List Nat) : Prop where
  kind : scope.kind = .function
  nocell : ∀ y ∈ scope.names, y.2 ≠ .cell
  names : ∀ y ∈ scope.names, y.2 = .local → scope.names.lookup y.1 = some .local
  tgt : scope.names.lookup (nm x) = some .local
  free : ∀ y ∈ scope.names, y.2 = .free → sc.lookup y.1 = some .cell
  fv : ∀ y ∈ fvs, y ≠ x ∧ (relab sc scope.names).lookup (nm y) = some .cell

noncomputable abbrev dbg (x : Str) : Prop := (x == ("__debug__" : Str)) = false

noncomputable def bare : PySem.Expr → Bool
  | .Call (.Name _ _) [] [] _ => true
  | _ => false

mutual
inductive CE : Sc → ME → PySem.Expr → Prop
  | name {sc x pos} : dbg (nm x) → CE sc (.name x) (.Name (nm x) pos)
  | glob {sc g pos} : dbg (gnm g) → sc.lookup (gnm g) = some .globalImplicit → CE sc (.glob g) (.Name (gnm g) pos)
  | fnv {sc f pos} : f < 39 → dbg (fnm f) → sc.lookup (fnm f) = some .globalImplicit → CE sc (.fnv f) (.Name (fnm f) pos)
  | cint {sc i k pos} : CE sc (.cint i) (.Constant (.int i) k pos)
  | cstr {sc i k pos} : CE sc (.cstr i) (.Constant (.str (st i)) k pos)
  | cbool {sc b k pos} : CE sc (.cbool b) (.Constant (.bool b) k pos)
  | cnone {sc k pos} : CE sc .cnone (.Constant .none k pos)
  | tup {sc es ces k pos} : ces.length ≤ 100 → CEs sc es ces → CE sc (.tup es) (.Tuple ces k pos)
  | lst {sc es ces pos} : ces.length ≤ 100 → CEs sc es ces → CE sc (.lst es) (.List ces pos)
  | lstM {sc pos} : CE sc .lstM (.List [] pos)
  | bin {sc op a b l r pos} : CE sc a l → CE sc b r → CE sc (.bin op a b) (.BinOp l (binO op) r pos)
  | neg {sc a l pos} : CE sc a l → CE sc (.neg a) (.UnaryOp .USub l pos)
  | cmp {sc op a b l r pos} : CE sc a l → CE sc b r → CE sc (.cmp op a b) (.Compare l [cmpO op] [r] pos)
  | not {sc a l pos} : CE sc a l → CE sc (.not a) (.UnaryOp .Not l pos)
  | and {sc es ces pos} : CEs sc es ces → CE sc (.and es) (.BoolOp .And ces pos)
  | or {sc es ces pos} : CEs sc es ces → CE sc (.or es) (.BoolOp .Or ces pos)
  | ife {sc c a b t l r pos} : CE sc c t → CE sc a l → CE sc b r → CE sc (.ife c a b) (.IfExp t l r pos)
  | idx {sc a i l r pos} : CE sc a l → CE sc i r → CE sc (.idx a i) (.Subscript l r pos)
  | upto {sc x e r p q pos} : dbg (nm x) → CE sc e r → CE sc (.upto (.name x) e) (.Subscript (.Name (nm x) p) (.Slice none (some r) none q) pos)
  | uptoM {sc x e r p q pos} : dbg (nm x) → CE sc e r → CE sc (.uptoM (.name x) e) (.Subscript (.Name (nm x) p) (.Slice none (some r) none q) pos)
  | from {sc x e r p q pos} : dbg (nm x) → CE sc e r → CE sc (.from (.name x) e) (.Subscript (.Name (nm x) p) (.Slice (some r) none none q) pos)
  | rev {sc x p q k p1 p2 pos} : dbg (nm x) → CE sc (.rev (.name x)) (.Subscript (.Name (nm x) p) (.Slice none none (some (.UnaryOp .USub (.Constant (.int 1) k p1) p2)) q) pos)
  | kind {sc a l pos} : bare l = false → CE sc a l → CE sc (.kind a) (.Attribute l "kind" pos)
  | items {sc a l pos} : bare l = false → CE sc a l → CE sc (.items a) (.Attribute l "items" pos)
  | call {sc f e es c ces p pos} : f < 39 → dbg (fnm f) → sc.lookup (fnm f) = some .globalImplicit → CEs sc (.cons e es) (c :: ces) → CE sc (.call f (.cons e es)) (.Call (.Name (fnm f) p) (c :: ces) [] pos)
  | callV {sc x e es c ces p pos} : dbg (nm x) → CEs sc (.cons e es) (c :: ces) → CE sc (.callV x (.cons e es)) (.Call (.Name (nm x) p) (c :: ces) [] pos)
  | vector {sc a b l r p pos} : sc.lookup ("Vector" : Str) = some .globalImplicit → CE sc a l → CE sc b r → CE sc (.vector a b) (.Call (.Name "Vector" p) [l, r] [] pos)
  | len {sc a l p pos} : sc.lookup ("len" : Str) = some .globalImplicit → CE sc a l → CE sc (.len a) (.Call (.Name "len" p) [l] [] pos)
  | abs {sc a l p pos} : sc.lookup ("abs" : Str) = some .globalImplicit → CE sc a l → CE sc (.abs a) (.Call (.Name "abs" p) [l] [] pos)
  | listOf {sc a l p pos} : sc.lookup ("list" : Str) = some .globalImplicit → CE sc a l → CE sc (.listOf a) (.Call (.Name "list" p) [l] [] pos)
  | pop {sc x p ap pos} : dbg (nm x) → (ap.endLine == pos.line) = true → CE sc (.pop x) (.Call (.Attribute (.Name (nm x) p) "pop" ap) [] [] pos)
  | comp {sc x fvs it elt cit celt px scope pos} : CompOk sc scope x fvs → CE sc it cit → CE (relab sc scope.names) elt celt → CE sc (.comp x fvs it elt) (.ListComp celt [⟨.Name (nm x) px, cit, [], 0⟩] scope pos)
  | compIf {sc x fvs it c elt cit cc celt px scope pos} : CompOk sc scope x fvs → CE sc it cit → CE (relab sc scope.names) c cc → CE (relab sc scope.names) elt celt → CE sc (.compIf x fvs it c elt) (.ListComp celt [⟨.Name (nm x) px, cit, [cc], 0⟩] scope pos)
  | compR {sc x fvs n elt cn celt px p p2 scope pos} : CompOk sc scope x fvs → sc.lookup ("range" : Str) = some .globalImplicit → CE sc n cn → CE (relab sc scope.names) elt celt → CE sc (.compR x fvs n elt) (.ListComp celt [⟨.Name (nm x) px, .Call (.Name "range" p) [cn] [] p2, [], 0⟩] scope pos)
  | freeze {sc x pos} : dbg (nm x) → CE sc (.freeze (.name x)) (.Name (nm x) pos)
inductive CEs : Sc → MEs → List PySem.Expr → Prop
  | nil {sc} : CEs sc .nil []
  | cons {sc e es c ces} : CE sc e c → CEs sc es ces → CEs sc (.cons e es) (c :: ces)
end

noncomputable def CEinv (sc : Sc) : ME → PySem.Expr → Prop
  | .name x, cz => ∃ pos, (dbg (nm x)) ∧ cz = .Name (nm x) pos
  | .glob g, cz => ∃ pos, (dbg (gnm g)) ∧ (sc.lookup (gnm g) = some .globalImplicit) ∧ cz = .Name (gnm g) pos
  | .fnv f, cz => ∃ pos, (f < 39) ∧ (dbg (fnm f)) ∧ (sc.lookup (fnm f) = some .globalImplicit) ∧ cz = .Name (fnm f) pos
  | .cint i, cz => ∃ k pos, cz = .Constant (.int i) k pos
  | .cstr i, cz => ∃ k pos, cz = .Constant (.str (st i)) k pos
  | .cbool b, cz => ∃ k pos, cz = .Constant (.bool b) k pos
  | .cnone, cz => ∃ k pos, cz = .Constant .none k pos
  | .tup es, cz => ∃ ces k pos, (ces.length ≤ 100) ∧ (CEs sc es ces) ∧ cz = .Tuple ces k pos
  | .lst es, cz => ∃ ces pos, (ces.length ≤ 100) ∧ (CEs sc es ces) ∧ cz = .List ces pos
  | .lstM, cz => ∃ pos, cz = .List [] pos
  | .bin op a b, cz => ∃ l r pos, (CE sc a l) ∧ (CE sc b r) ∧ cz = .BinOp l (binO op) r pos
  | .neg a, cz => ∃ l pos, (CE sc a l) ∧ cz = .UnaryOp .USub l pos
  | .cmp op a b, cz => ∃ l r pos, (CE sc a l) ∧ (CE sc b r) ∧ cz = .Compare l [cmpO op] [r] pos
  | .not a, cz => ∃ l pos, (CE sc a l) ∧ cz = .UnaryOp .Not l pos
  | .and es, cz => ∃ ces pos, (CEs sc es ces) ∧ cz = .BoolOp .And ces pos
  | .or es, cz => ∃ ces pos, (CEs sc es ces) ∧ cz = .BoolOp .Or ces pos
  | .ife c a b, cz => ∃ t l r pos, (CE sc c t) ∧ (CE sc a l) ∧ (CE sc b r) ∧ cz = .IfExp t l r pos
  | .idx a i, cz => ∃ l r pos, (CE sc a l) ∧ (CE sc i r) ∧ cz = .Subscript l r pos
  | .upto z1 e, cz => ∃ x r p q pos, z1 = (.name x) ∧ (dbg (nm x)) ∧ (CE sc e r) ∧ cz = .Subscript (.Name (nm x) p) (.Slice none (some r) none q) pos
  | .uptoM z1 e, cz => ∃ x r p q pos, z1 = (.name x) ∧ (dbg (nm x)) ∧ (CE sc e r) ∧ cz = .Subscript (.Name (nm x) p) (.Slice none (some r) none q) pos
  | .from z1 e, cz => ∃ x r p q pos, z1 = (.name x) ∧ (dbg (nm x)) ∧ (CE sc e r) ∧ cz = .Subscript (.Name (nm x) p) (.Slice (some r) none none q) pos
  | .rev z1, cz => ∃ x p q k p1 p2 pos, z1 = (.name x) ∧ (dbg (nm x)) ∧ cz = .Subscript (.Name (nm x) p) (.Slice none none (some (.UnaryOp .USub (.Constant (.int 1) k p1) p2)) q) pos
  | .kind a, cz => ∃ l pos, (bare l = false) ∧ (CE sc a l) ∧ cz = .Attribute l "kind" pos
  | .items a, cz => ∃ l pos, (bare l = false) ∧ (CE sc a l) ∧ cz = .Attribute l "items" pos
  | .call f z1, cz => ∃ e es c ces p pos, z1 = (.cons e es) ∧ (f < 39) ∧ (dbg (fnm f)) ∧ (sc.lookup (fnm f) = some .globalImplicit) ∧ (CEs sc (.cons e es) (c :: ces)) ∧ cz = .Call (.Name (fnm f) p) (c :: ces) [] pos
  | .callV x z1, cz => ∃ e es c ces p pos, z1 = (.cons e es) ∧ (dbg (nm x)) ∧ (CEs sc (.cons e es) (c :: ces)) ∧ cz = .Call (.Name (nm x) p) (c :: ces) [] pos
  | .vector a b, cz => ∃ l r p pos, (sc.lookup ("Vector" : Str) = some .globalImplicit) ∧ (CE sc a l) ∧ (CE sc b r) ∧ cz = .Call (.Name "Vector" p) [l, r] [] pos
  | .len a, cz => ∃ l p pos, (sc.lookup ("len" : Str) = some .globalImplicit) ∧ (CE sc a l) ∧ cz = .Call (.Name "len" p) [l] [] pos
  | .abs a, cz => ∃ l p pos, (sc.lookup ("abs" : Str) = some .globalImplicit) ∧ (CE sc a l) ∧ cz = .Call (.Name "abs" p) [l] [] pos
  | .listOf a, cz => ∃ l p pos, (sc.lookup ("list" : Str) = some .globalImplicit) ∧ (CE sc a l) ∧ cz = .Call (.Name "list" p) [l] [] pos
  | .pop x, cz => ∃ p ap pos, (dbg (nm x)) ∧ ((ap.endLine == pos.line) = true) ∧ cz = .Call (.Attribute (.Name (nm x) p) "pop" ap) [] [] pos
  | .comp x fvs it elt, cz => ∃ cit celt px scope pos, (CompOk sc scope x fvs) ∧ (CE sc it cit) ∧ (CE (relab sc scope.names) elt celt) ∧ cz = .ListComp celt [⟨.Name (nm x) px, cit, [], 0⟩] scope pos
  | .compIf x fvs it c elt, cz => ∃ cit cc celt px scope pos, (CompOk sc scope x fvs) ∧ (CE sc it cit) ∧ (CE (relab sc scope.names) c cc) ∧ (CE (relab sc scope.names) elt celt) ∧ cz = .ListComp celt [⟨.Name (nm x) px, cit, [cc], 0⟩] scope pos
  | .compR x fvs n elt, cz => ∃ cn celt px p p2 scope pos, (CompOk sc scope x fvs) ∧ (sc.lookup ("range" : Str) = some .globalImplicit) ∧ (CE sc n cn) ∧ (CE (relab sc scope.names) elt celt) ∧ cz = .ListComp celt [⟨.Name (nm x) px, .Call (.Name "range" p) [cn] [] p2, [], 0⟩] scope pos
  | .freeze z1, cz => ∃ x pos, z1 = (.name x) ∧ (dbg (nm x)) ∧ cz = .Name (nm x) pos
theorem CE.inv {sc e ce} (h : CE sc e ce) : CEinv sc e ce := by
  cases h with
  | name h0 => exact ⟨_, h0, rfl⟩
  | glob h0 h1 => exact ⟨_, h0, h1, rfl⟩
  | fnv h0 h1 h2 => exact ⟨_, h0, h1, h2, rfl⟩
  | cint => exact ⟨_, _, rfl⟩
  | cstr => exact ⟨_, _, rfl⟩
  | cbool => exact ⟨_, _, rfl⟩
  | cnone => exact ⟨_, _, rfl⟩
  | tup h0 h1 => exact ⟨_, _, _, h0, h1, rfl⟩
  | lst h0 h1 => exact ⟨_, _, h0, h1, rfl⟩
  | lstM => exact ⟨_, rfl⟩
  | bin h0 h1 => exact ⟨_, _, _, h0, h1, rfl⟩
  | neg h0 => exact ⟨_, _, h0, rfl⟩
  | cmp h0 h1 => exact ⟨_, _, _, h0, h1, rfl⟩
  | «not» h0 => exact ⟨_, _, h0, rfl⟩
  | «and» h0 => exact ⟨_, _, h0, rfl⟩
  | «or» h0 => exact ⟨_, _, h0, rfl⟩
  | ife h0 h1 h2 => exact ⟨_, _, _, _, h0, h1, h2, rfl⟩
  | idx h0 h1 => exact ⟨_, _, _, h0, h1, rfl⟩
  | upto h0 h1 => exact ⟨_, _, _, _, _, rfl, h0, h1, rfl⟩
  | uptoM h0 h1 => exact ⟨_, _, _, _, _, rfl, h0, h1, rfl⟩
  | «from» h0 h1 => exact ⟨_, _, _, _, _, rfl, h0, h1, rfl⟩
  | rev h0 => exact ⟨_, _, _, _, _, _, _, rfl, h0, rfl⟩
  | kind h0 h1 => exact ⟨_, _, h0, h1, rfl⟩
  | items h0 h1 => exact ⟨_, _, h0, h1, rfl⟩
  | call h0 h1 h2 h3 => exact ⟨_, _, _, _, _, _, rfl, h0, h1, h2, h3, rfl⟩
  | callV h0 h1 => exact ⟨_, _, _, _, _, _, rfl, h0, h1, rfl⟩
  | vector h0 h1 h2 => exact ⟨_, _, _, _, h0, h1, h2, rfl⟩
  | len h0 h1 => exact ⟨_, _, _, h0, h1, rfl⟩
  | abs h0 h1 => exact ⟨_, _, _, h0, h1, rfl⟩
  | listOf h0 h1 => exact ⟨_, _, _, h0, h1, rfl⟩
  | pop h0 h1 => exact ⟨_, _, _, h0, h1, rfl⟩
  | comp h0 h1 h2 => exact ⟨_, _, _, _, _, h0, h1, h2, rfl⟩
  | compIf h0 h1 h2 h3 => exact ⟨_, _, _, _, _, _, h0, h1, h2, h3, rfl⟩
  | compR h0 h1 h2 h3 => exact ⟨_, _, _, _, _, _, _, h0, h1, h2, h3, rfl⟩
  | freeze h0 => exact ⟨_, _, rfl, h0, rfl⟩
theorem CE.facts {sc e c} (h : CE sc e c) : (∀ (env : Env) (rest : List PySem.Expr), starEach (c :: rest) env = (false, eval c env) :: starEach rest env) ∧ (∀ (env : Env) (x : Value), foldedSetIterable c env x = pure x) ∧ (∀ op : CmpOp, behindInMarks op c = false) ∧ (∀ o i : Value, subscripted c false o i = operate [o, i] (getItem o i)) := by
  cases h <;> exact ⟨fun _ _ => rfl, fun _ _ => rfl, fun _ => rfl, fun _ _ => rfl⟩
theorem CE.star {sc e c} (h : CE sc e c) (env : Env) (rest : List PySem.Expr) : starEach (c :: rest) env = (false, eval c env) :: starEach rest env := h.facts.1 env rest
theorem CE.noSet {sc e c} (h : CE sc e c) (env : Env) (x : Value) : foldedSetIterable c env x = pure x := h.facts.2.1 env x
theorem CE.noMark {sc e c} (h : CE sc e c) (op : CmpOp) : behindInMarks op c = false := h.facts.2.2.1 op
theorem CE.noSlice {sc e c} (h : CE sc e c) (o i : Value) : subscripted c false o i = operate [o, i] (getItem o i) := h.facts.2.2.2 o i
theorem CEs.trees : ∀ {sc es ces}, CEs sc es ces → ∀ (pos : Pos) (env : Env), backTo pos (starEach ces env) = ces.map fun c => (false, eval c env)
  | _, _, _, .nil, _, _ => rfl
  | _, _, _, .cons h r, pos, env => by
    rw [h.star env _]
    show (false, _) :: backTo pos _ = _
    rw [r.trees pos env]
    rfl
theorem CEs.each : ∀ {sc es ces}, CEs sc es ces → ∀ (env : Env), evalEach ces env = ces.map fun c => eval c env
  | _, _, _, .nil, _ => rfl
  | _, _, _, .cons h r, env => by
    rw [evalEach, r.each env]; rfl
theorem attr_base {l : PySem.Expr} (h : bare l = false) (name : Str) (env : Env) (whole : Sem Value) : attributeBase l name env whole = whole := by
  unfold attributeBase
  split
  · cases h
  · rfl

section
variable {P : Par} {prog : Program} {w : World} {hb : Heap} {mg mb : Str → Option Value} {A : Around} {c : Cf} {s : Shared} {env : Env} {ρ : Rho} {Q : AV → Sto → Prop} {sc : Sc} {D : Nat} {Φ : Tab}

theorem name_snd (ok : EnvOk env sc) (f : Frm P env c s.heap ρ) (G : Good P hb c s.heap) {x : Nat} {pos : Pos} {d : AV} (hd : dbg (nm x)) (e : ρ x = some d) (q : Q d c.σ) :
    wpAny (model prog w) A (eval (.Name (nm x) pos) env) (Pst P hb X0 c s Q) E0 s := by
  refine wpAny_Name ?_ hd
  rcases f.kind x d e with k | k
  · obtain ⟨m, N, r⟩ := f.ns
    obtain ⟨v, ev, V⟩ := r x d e k
    exact wpAny_loadName_local ok.kind k N ev (Pst.here G V q _)
  · obtain ⟨a, v, e1, e2, V⟩ := f.cell x d e k
    exact wpAny_loadName_cell ok.kind k e1 e2 (Pst.here G V q _)

theorem gname_snd (ok : EnvOk env sc) (W : Wd P prog w hb mg mb) (G : Good P hb c s.heap) {x : Str} {pos : Pos} {v : Value} {K : Value → Shared → Prop} (hd : dbg x) (hk : sc.lookup x = some .globalImplicit) (e : mg x = some v) (q : K v s) :
    wpAny (model prog w) A (eval (.Name x pos) env) K E0 s :=
  Name_function_global ok.kind (by rw [ok.kindOf]; exact hk) (loadGlobal_global (env := env) (mg := mg) (by rw [ok.globals]; exact W.g.keeps G.keep) e q) hd
theorem bname_snd (ok : EnvOk env sc) (W : Wd P prog w hb mg mb) (G : Good P hb c s.heap) {x : Str} {pos : Pos} {v : Value} {K : Value → Shared → Prop} (hd : dbg x) (hk : sc.lookup x = some .globalImplicit) (e : mg x = none ∧ mb x = some v) (q : K v s) :
    wpAny (model prog w) A (eval (.Name x pos) env) K E0 s :=
  Name_function_global ok.kind (by rw [ok.kindOf]; exact hk) (loadGlobal_builtin (env := env) (mg := mg) (mb := mb) (by rw [ok.globals]; exact W.g.keeps G.keep) e.1 (by rw [ok.builtins]; exact W.b.keeps G.keep) e.2 q) hd

/-- the end of a list of expressions -/
noncomputable def Psts (P : Par) (hb : Heap) (n : Nat) (c : Cf) (s : Shared) (Q : List AV → Sto → Prop) (vs : List Value) (s' : Shared) : Prop :=
  ∃ (c' : Cf) (ds : List AV), vs.length = n ∧ Q ds c'.σ ∧ Good P hb c' s'.heap ∧ Stp X0 c s.heap c' s'.heap ∧ Rst s s' ∧ VRs P c'.F c'.as vs ds
/-- the end of a test -/
noncomputable def Pstb (P : Par) (hb : Heap) (c : Cf) (s : Shared) (K : Bool → Sto → Prop) (b : Bool) (s' : Shared) : Prop :=
  ∃ (c' : Cf), K b c'.σ ∧ Good P hb c' s'.heap ∧ Stp X0 c s.heap c' s'.heap ∧ Rst s s'

theorem callW_snd {fv : Value} {pos : Pos} {c1 : PySem.Expr} {ces : List PySem.Expr} {es : MEs} {K : Value → Shared → Prop} (ce : CEs sc es (c1 :: ces))
    (hk : ∀ h : Heap, (∀ a o, hb.get? a = some o → h.get? a = some o) → ∃ k, (k = Keeper.frame ∨ k = Keeper.machine ∨ k = Keeper.boundFrame) ∧ Looks (model prog w) h (keeperOf fv) k)
    (h : wpAny (model prog w) A (spliced ((c1 :: ces).map fun c => (false, eval c env))) (fun vs s₁ => (∀ a o, hb.get? a = some o → s₁.heap.get? a = some o) ∧ wpAny (model prog w) A (call fv vs) K E0 s₁) E0 s) :
    wpAny (model prog w) A (callWith pos fv [] (backTo pos (starEach (c1 :: ces) env)) []) K E0 s := by
  rw [ce.trees]
  refine callWith_of (P := fun h => ∀ a o, hb.get? a = some o → h.get? a = some o) (by simp) hk ?_
  exact evalArgs_plain h

theorem machine_looks {fv : Value} (h : keeperOf fv = pure .machine) : ∀ hh : Heap, (∀ a o, hb.get? a = some o → hh.get? a = some o) → ∃ k, (k = Keeper.frame ∨ k = Keeper.machine ∨ k = Keeper.boundFrame) ∧ Looks (model prog w) hh (keeperOf fv) k :=
  fun _ _ => ⟨.machine, .inr (.inl rfl), Looks.of_pure h⟩
end

end Mine
end
/-! Snd4 -/
section
open PySem.Calls
namespace Mine

noncomputable def rangeFrom (x : Int) : Nat → List AV
  | 0 => []
  | k + 1 => .int x :: rangeFrom (x + 1) k
theorem rangeFrom_eq (x : Int) : ∀ k, rangeFrom x k = (List.range k).map fun (i : Nat) => AV.int (x + (i : Int))
  | 0 => rfl
  | k + 1 => by
    rw [rangeFrom, rangeFrom_eq (x + 1) k, List.range_succ_eq_map, List.map_cons, List.map_map]
    simp only [Int.natCast_zero, Int.add_zero, List.cons.injEq, true_and]
    apply List.map_congr_left
    intro i _
    simp only [Function.comp]
    congr 1
    push_cast
    omega
theorem rangeL_eq (n : Int) : rangeL n = rangeFrom 0 n.toNat := by
  rw [rangeFrom_eq]; unfold rangeL; simp

/-- what an iterator still hands out -/
inductive Src (P : Par) (I : Addr) (c : Cf) (h : Heap) : List AV → Prop
  | list {l : Addr} {o : Obj} {vs : List Value} {n i : Nat} {ds : List AV} : h.IsListIter I l i → c.F l o → o.cls = .type "list" → o.data = .seq vs.toArray n → VRs P c.F c.as (vs.drop i) ds → Src P I c h ds
  | range {x : Int} {k : Nat} : IsRangeIter h I x k 1 → Src P I c h (rangeFrom x k)

theorem get_none_of_le {h : Heap} {a : Nat} (hle : h.objs.size ≤ a) : h.get? a = none := by
  cases e : h.get? a with
  | none => rfl
  | some o => exact absurd (Heap.lt_size e) (Nat.not_lt.mpr hle)
/-- an address of the loop's own -/
noncomputable def Priv (c : Cf) (I : Addr) : Prop := I ∉ c.as ∧ ∀ o, ¬ c.F I o

section
variable {P : Par} {prog : Program} {w : World} {hb : Heap} {mg mb : Str → Option Value} {A : Around} {c c' : Cf} {h h' h0 : Heap} {s : Shared} {env : Env} {ρ : Rho} {Q : AV → Sto → Prop} {sc : Sc} {D : Nat} {Φ : Tab} {I : Addr} {X : Addr → Prop}

theorem Priv.stp (p : Priv c I) (S : Stp X c h c' h') (live : ∃ o, h.get? I = some o) : Priv c' I := by
  obtain ⟨n2, n1⟩ := p
  obtain ⟨ob, e⟩ := live
  refine ⟨fun q => ?_, fun o' q => ?_⟩
  · obtain ⟨bs, e1, e2⟩ := S.ale
    rw [e1] at q
    rcases List.mem_append.mp q with q | q
    · exact n2 q
    · rw [e2 I q] at e; cases e
  · rcases S.fnew I o' q with q | q | q
    · exact n1 _ q
    · rw [e] at q; cases q
    · exact n2 q
theorem Priv.fresh (G : Good P hb c h) (e : h.get? I = none) : Priv c I := ⟨G.fresh e, fun o q => by rw [G.fz _ _ q] at e; cases e⟩

/-- one private object has changed -/
theorem Good.but (G : Good P hb c h) (p : Priv c I) (k : ∀ a o, a ≠ I → h.get? a = some o → h'.get? a = some o) : Good P hb c h' := by
  refine ⟨fun a o e => k a o (fun z => p.2 o (z ▸ e)) (G.fz a o e), G.base, G.len, G.nd, fun i a ds e1 e2 => ?_, fun i a e => ?_⟩
  · obtain ⟨n, vs, ⟨m, e⟩, V⟩ := G.cell i a ds e1 e2
    exact ⟨n, vs, ⟨m, k a _ (fun z => p.1 (z ▸ List.mem_of_getElem? e1)) e⟩, V⟩
  · cases z : h.get? a with
    | none => have := G.live i a e; rw [z] at this; cases this
    | some o => rw [k a o (fun z => p.1 (z ▸ List.mem_of_getElem? e)) z]; rfl
theorem Stp.but (k : ∀ a o, a ≠ I → h.get? a = some o → h'.get? a = some o) (x : X I) (live : h'.get? I ≠ none) : Stp X c h c h' :=
  ⟨fun _ _ e => e, ⟨[], by simp, by simp⟩, fun _ _ e => .inl e, fun a o e _ nx => k a o (fun z => nx (z ▸ x)) e, fun a e => by
    by_cases z : a = I
    · rw [z]; exact live
    · cases q : h.get? a with
      | none => exact absurd q e
      | some o => rw [k a o z q]; simp⟩
theorem Stp.last (S : Stp X c h0 c' h) (e0 : h0.get? I = none) (k : ∀ a o, a ≠ I → h.get? a = some o → h'.get? a = some o) : Stp X c h0 c' h' := by
  have ne : ∀ a, h0.get? a ≠ none → a ≠ I := fun a e z => e (z ▸ e0)
  refine ⟨S.fle, S.ale, S.fnew, fun a o e ha nx => k a o (ne a (by rw [e]; simp)) (S.keep a o e ha nx), fun a e => ?_⟩
  cases q : h.get? a with
  | none => exact absurd q (S.dom a e)
  | some o => rw [k a o (ne a e) q]; simp

theorem Src.live {ds : List AV} (r : Src P I c h ds) : ∃ o, h.get? I = some o := by
  cases r with
  | list h1 => obtain ⟨o, e, _⟩ := h1; exact ⟨o, e⟩
  | range h1 => exact ⟨_, h1⟩
theorem Src.stp {ds : List AV} (r : Src P I c h ds) (S : Stp X c h c' h') (k : ∀ o, h.get? I = some o → h'.get? I = some o) : Src P I c' h' ds := by
  cases r with
  | list h1 h2 h3 h4 h5 =>
    obtain ⟨o, e, r⟩ := h1
    exact .list ⟨o, k _ e, r⟩ (S.fle _ _ h2) h3 h4 (S.vrs h5)
  | range h1 => exact .range (k _ h1)
theorem Src.self {ds : List AV} {K : Value → Shared → Prop} {E : Value → Shared → Prop} (r : Src P I c s.heap ds) (q : K (.ref I) s) : wpAny (model prog w) A (pyIter (.ref I)) K E s := by
  cases r with
  | list h1 => exact wpAny_pyIter_listiter h1 q
  | range h1 => exact wpAny_pyIter_rangeiter h1 q

theorem Src.item {d : AV} {ds : List AV} {K : Option Value → Shared → Prop} {E : Value → Shared → Prop} (G : Good P hb c s.heap) (r : Src P I c s.heap (d :: ds)) (_pI : Priv c I)
    (q : ∀ v h' t, VR P c.F c.as v d → Src P I c h' ds → Heap.SameBut I s.heap h' → h'.get? I ≠ none → K (some v) { s with heap := h', toks := t }) : wpAny (model prog w) A (pyNext (.ref I)) K E s := by
  generalize hds : d :: ds = es at r
  cases r with
  | @list l o vs n i es h1 h2 h3 h4 h5 =>
    subst hds
    cases hv : vs.drop i with
    | nil => rw [hv] at h5; cases h5
    | cons v r =>
      rw [hv] at h5
      cases h5 with
      | cons V W =>
        have e : vs[i]? = some v := by
          have := congrArg List.head? hv
          rw [List.head?_drop] at this
          simpa using this
        have e2 : vs.drop (i + 1) = r := by
          rw [← List.drop_drop, hv]; rfl
        refine wpAny_pyNext_list_item h1 (items := vs.toArray) ⟨o, G.fz _ _ h2, h3, n, h4⟩ (by simpa using e) fun h' i' sb => ?_
        obtain ⟨o', eo, _⟩ := id i'
        exact q v h' _ V (.list i' h2 h3 h4 (by rw [e2]; exact W)) sb (by rw [eo]; simp)
  | @range x k h1 =>
    cases k with
    | zero => simp [rangeFrom] at hds
    | succ k =>
      simp only [rangeFrom, List.cons.injEq] at hds
      obtain ⟨rfl, rfl⟩ := hds
      refine wpAny_pyNext_range_item h1 (by omega) fun h' i' sb => ?_
      refine q _ h' _ (.int _ _) (.range (by rw [show ((k : Nat) : Int) = ((k + 1 : Nat) : Int) - 1 by omega]; exact i')) sb ?_
      rw [show h'.get? I = _ from i']; simp

theorem Src.done {K : Option Value → Shared → Prop} {E : Value → Shared → Prop} (hh : A.handled = none) (G : Good P hb c s.heap) (r : Src P I c s.heap [])
    (q : ∀ h', Heap.ExtBut I s.heap h' → K Option.none { s with heap := h' }) : wpAny (model prog w) A (pyNext (.ref I)) K E s := by
  generalize hds : ([] : List AV) = es at r
  cases r with
  | @list l o vs n i es h1 h2 h3 h4 h5 =>
    subst hds
    refine wpAny_pyNext_list_end hh h1 (items := vs.toArray) ⟨o, G.fz _ _ h2, h3, n, h4⟩ ?_ q
    have : vs.drop i = [] := by
      cases e : vs.drop i with
      | nil => rfl
      | cons v r => rw [e] at h5; cases h5
    rw [List.drop_eq_nil_iff] at this
    simp
    omega
  | @range x k h1 =>
    cases k with
    | zero => exact wpAny_pyNext_range_end hh h1 (by omega) q
    | succ k => simp [rangeFrom] at hds

/-- a list is iterated -/
theorem iter_list {ds : List AV} {v : Value} {K : Value → Shared → Prop} {E : Value → Shared → Prop} (G : Good P hb c s.heap) (V : VR P c.F c.as v (.list ds))
    (q : ∀ I h', s.heap.get? I = none → (∀ a o, s.heap.get? a = some o → h'.get? a = some o) → Src P I c h' ds → K (.ref I) { s with heap := h' }) : wpAny (model prog w) A (pyIter v) K E s := by
  cases V with
  | list h1 h2 h3 h4 =>
    refine wpAny_pyIter_list ⟨_, G.fz _ _ h1, h2, _, h3⟩ (q _ _ (none_size _) (keep_push _ _) ?_)
    exact .list (i := 0) ⟨_, Heap.get?_push_size _ rfl, rfl, rfl⟩ h1 h2 h3 (by simpa using h4)
theorem iter_range {n : Int} {t : Tok} {K : Value → Shared → Prop} {E : Value → Shared → Prop} (hn : n < 2 ^ 40) (_G : Good P hb c s.heap)
    (q : ∀ I h' tk, s.heap.get? I = none → (∀ a o, s.heap.get? a = some o → h'.get? a = some o) → Src P I c h' (rangeL n) → K (.ref I) { s with heap := h', toks := tk }) :
    -(2 ^ 40) < n → wpAny (model prog w) A (call (.type "range") [.int n t]) (fun r s1 => wpAny (model prog w) A (pyIter r) K E s1) E s := by
  intro hn'
  refine call_range_1 ?_
  refine wpAny_pyIter_range (IsRange.new _ _ _ _ _ _ _) (small_one (by omega) (by omega) (by omega) (by omega)) ?_
  refine q _ _ _ ?_ (fun a o e => keep_push _ _ _ _ (keep_push _ _ _ _ e)) ?_
  · dsimp only
    rw [Heap.size_push]
    exact get_none_of_le (Nat.le_succ _)
  · rw [rangeL_eq]
    refine .range ?_
    dsimp only
    have e : (Builtin.Range.rangeSize 0 n 1) = ((n.toNat : Nat) : Int) := by
      rw [rangeSize_one]
      by_cases z : (0 : Int) < n
      · rw [if_pos z]; omega
      · rw [if_neg z]; omega
    rw [e]
    exact Heap.get?_push_size _ rfl
end

end Mine
namespace Mine

noncomputable def clFrom (cells : List (Str × Addr)) : List (Str × NameKind) → List (Str × Addr) → List (Str × Addr)
  | [], acc => acc
  | (n, k) :: r, acc => if k == .free then clFrom cells r ((n, (cells.lookup n).getD 0) :: acc) else clFrom cells r acc

theorem closure_eq {scope : Scope} {env : Env} (hf : ∀ y ∈ scope.names, y.2 = .free → ∃ a, env.cells.lookup y.1 = some a) : closureFor scope env = pure (clFrom env.cells scope.names []) := by
  have key : ∀ (names : List (Str × NameKind)) (acc : List (Str × Addr)), (∀ y ∈ names, y.2 = .free → ∃ a, env.cells.lookup y.1 = some a) →
      (forIn names acc fun x cs => (if x.2 == .free then (do let a ← cellOf env x.1; pure (ForInStep.yield ((x.1, a) :: cs))) else pure (ForInStep.yield cs) : Sem (ForInStep (List (Str × Addr))))) = pure (clFrom env.cells names acc) := by
    intro names
    induction names with
    | nil => intro acc _; rfl
    | cons y r ih =>
      intro acc h
      obtain ⟨n, k⟩ := y
      rw [List.forIn_cons]
      have h' : ∀ y ∈ r, y.2 = .free → ∃ a, env.cells.lookup y.1 = some a := fun y hy => h y (.tail _ hy)
      by_cases hk : (k == NameKind.free) = true
      · obtain ⟨a, ea⟩ := h (n, k) (.head _) (by simpa using hk)
        have ea' : env.cells.lookup n = some a := ea
        unfold clFrom
        rw [if_pos hk, if_pos hk, ea']
        unfold cellOf
        rw [ea']
        exact ih _ h'
      · unfold clFrom
        rw [if_neg hk, if_neg hk]
        exact ih _ h'
  have := key scope.names [] hf
  unfold closureFor
  simp only [bind_pure]
  rw [← this]
  first | done | (congr 1)

theorem cl_sub {cells : List (Str × Addr)} : ∀ {names : List (Str × NameKind)} {acc : List (Str × Addr)}, (∀ y ∈ names, y.2 = .free → ∃ a, cells.lookup y.1 = some a) →
    (∀ n a, acc.lookup n = some a → cells.lookup n = some a) → ∀ n a, (clFrom cells names acc).lookup n = some a → cells.lookup n = some a
  | [], _, _, h, n, a, e => h n a e
  | (m, k) :: r, acc, hf, h, n, a, e => by
    unfold clFrom at e
    have h' : ∀ y ∈ r, y.2 = .free → ∃ a, cells.lookup y.1 = some a := fun y hy => hf y (.tail _ hy)
    split at e
    · rename_i hk
      obtain ⟨b, eb⟩ := hf (m, k) (.head _) (by simpa using hk)
      refine cl_sub h' (fun n' a' e' => ?_) n a e
      rw [List.lookup_cons] at e'
      split at e'
      · rename_i q
        cases e'
        dsimp only at eb
        rw [beq_iff_eq.mp q, eb]; rfl
      · exact h n' a' e'
    · exact cl_sub h' h n a e
theorem cl_has {cells : List (Str × Addr)} : ∀ {names : List (Str × NameKind)} {acc : List (Str × Addr)} (n : Str), ((n, NameKind.free) ∈ names ∨ (acc.lookup n).isSome = true) → ((clFrom cells names acc).lookup n).isSome = true
  | [], _, n, h => h.elim (fun q => nomatch q) id
  | (m, k) :: r, acc, n, h => by
    unfold clFrom
    split
    · refine cl_has n ?_
      rcases h with h | h
      · rcases List.mem_cons.mp h with q | q
        · cases q; right; simp [List.lookup_cons]
        · exact .inl q
      · right
        rw [List.lookup_cons]
        split
        · rfl
        · exact h
    · rename_i hk
      refine cl_has n ?_
      rcases h with h | h
      · rcases List.mem_cons.mp h with q | q
        · cases q; simp at hk
        · exact .inl q
      · exact .inr h

theorem relab_lookup_local {sc : Sc} : ∀ {names : Sc} {x : Str}, names.lookup x = some .local → (relab sc names).lookup x = some .local
  | [], x, h => by simp at h
  | (n, k) :: r, x, h => by
    have ih := @relab_lookup_local sc r x
    show List.lookup x ((if (k == .free && sc.lookup n == some .cell) = true then (n, NameKind.cell) else (n, k)) :: relab sc r) = _
    cases hx : x == n with
    | true =>
      simp only [List.lookup_cons, hx] at h
      cases h
      simp [List.lookup_cons, hx]
    | false =>
      simp only [List.lookup_cons, hx] at h
      by_cases hc : (k == NameKind.free && sc.lookup n == some .cell) = true
      · rw [if_pos hc]; simp only [List.lookup_cons, hx]; exact ih h
      · rw [if_neg hc]; simp only [List.lookup_cons, hx]; exact ih h
theorem relab_cell {sc : Sc} : ∀ {names : Sc} {x : Str}, (∀ y ∈ names, y.2 ≠ .cell) → (relab sc names).lookup x = some .cell → (x, NameKind.free) ∈ names
  | [], x, _, h => by simp [relab] at h
  | (n, k) :: r, x, hn, h => by
    have ih := @relab_cell sc r x (fun y hy => hn y (.tail _ hy))
    have h' : List.lookup x ((if (k == .free && sc.lookup n == some .cell) = true then (n, NameKind.cell) else (n, k)) :: relab sc r) = some .cell := h
    cases hx : x == n with
    | true =>
      have e := beq_iff_eq.mp hx
      subst e
      by_cases hc : (k == NameKind.free && sc.lookup x == some .cell) = true
      · rw [Bool.and_eq_true] at hc
        have : k = .free := by simpa using hc.1
        subst this
        exact .head _
      · rw [if_neg hc] at h'
        simp [List.lookup_cons] at h'
        exact absurd h' (hn (x, k) (.head _))
    | false =>
      refine .tail _ (ih ?_)
      by_cases hc : (k == NameKind.free && sc.lookup n == some .cell) = true
      · rw [if_pos hc] at h'; simpa only [List.lookup_cons, hx] using h'
      · rw [if_neg hc] at h'; simpa only [List.lookup_cons, hx] using h'

section
variable {P : Par} {prog : Program} {w : World} {hb : Heap} {mg mb : Str → Option Value} {A : Around} {c : Cf} {s : Shared} {env : Env} {ρ : Rho} {Q : AV → Sto → Prop} {sc : Sc} {D : Nat} {Φ : Tab}

/-- the block's own environment -/
noncomputable abbrev cenvOf (env : Env) (scope : Scope) (C : Addr) : Env := compEnvC scope (clFrom env.cells scope.names []) C env

theorem cenv_ok {scope : Scope} {x : Nat} {fvs : List Nat} (ok : EnvOk env sc) (co : CompOk sc scope x fvs) (C : Addr) : EnvOk (cenvOf env scope C) (relab sc scope.names) := by
  refine ⟨co.kind, ?_, ok.globals, ok.builtins⟩
  show (scope.names.map fun (n, k) => if (k == .free && env.scope.kind == .function && env.kindOf n == some .cell) then (n, NameKind.cell) else (n, k)) = relab sc scope.names
  unfold relab
  apply List.map_congr_left
  intro y _
  obtain ⟨n, k⟩ := y
  dsimp only
  rw [ok.kindOf, ok.kind]
  simp

theorem cenv_frm {scope : Scope} {x : Nat} {fvs : List Nat} (ok : EnvOk env sc) (co : CompOk sc scope x fvs) (f : Frm P env c s.heap ρ) {C : Addr} {m : Str → Option Value} {v : Value} {d : AV} (N : s.heap.Ns C m) (hv : m (nm x) = some v)
    (V : VR P c.F c.as v d) (pC : Priv c C) (nC : ∀ n a, env.cells.lookup n = some a → a ≠ C) : Frm P (cenvOf env scope C) c s.heap (upd (restr fvs ρ) x d) := by
  have ok' := cenv_ok (C := C) ok co
  have hf : ∀ y ∈ scope.names, y.2 = .free → ∃ a, env.cells.lookup y.1 = some a := fun y hy e => f.has _ (by rw [ok.kindOf]; exact co.free y hy e)
  have sub : ∀ n a, (clFrom env.cells scope.names []).lookup n = some a → env.cells.lookup n = some a := cl_sub hf (by intro n a e; cases e)
  have kx : (cenvOf env scope C).kindOf (nm x) = some .local := by rw [ok'.kindOf]; exact relab_lookup_local co.tgt
  have ky : ∀ y d', upd (restr fvs ρ) x d y = some d' → y ≠ x → ρ y = some d' ∧ y ∈ fvs ∧ (cenvOf env scope C).kindOf (nm y) = some .cell ∧ env.kindOf (nm y) = some .cell ∧ ∃ a, (clFrom env.cells scope.names []).lookup (nm y) = some a ∧ env.cells.lookup (nm y) = some a := by
    intro y d' e ne
    rw [upd_ne ne] at e
    unfold restr at e
    split at e
    · rename_i hm
      obtain ⟨_, k⟩ := co.fv y hm
      have fr := relab_cell co.nocell k
      have h1 : env.kindOf (nm y) = some .cell := by rw [ok.kindOf]; exact co.free _ fr rfl
      have h2 := cl_has (cells := env.cells) (names := scope.names) (acc := []) (nm y) (.inl fr)
      obtain ⟨a, ea⟩ := Option.isSome_iff_exists.mp h2
      exact ⟨e, hm, by rw [ok'.kindOf]; exact k, h1, a, ea, sub _ _ ea⟩
    · cases e
  refine ⟨⟨m, N, fun y d' e k => ?_⟩, fun y d' e k => ?_, fun y d' e => ?_, fun n a e => f.cells n a (sub n a e), fun n k => ?_, fun n n' a e e' => f.inj n n' a (sub _ _ e) (sub _ _ e'), fun a o => ?_, fun n a e => nC n a (sub n a e)⟩
  · by_cases ne : y = x
    · subst ne
      rw [upd_same] at e; cases e
      exact ⟨v, hv, V⟩
    · obtain ⟨_, _, k', _⟩ := ky y d' e ne
      rw [k] at k'; cases k'
  · by_cases ne : y = x
    · subst ne; rw [kx] at k; cases k
    · obtain ⟨e1, _, _, k2, a, e2, e3⟩ := ky y d' e ne
      obtain ⟨a', v', e4, e5, V'⟩ := f.cell y d' e1 k2
      rw [e3] at e4; cases e4
      exact ⟨a, v', e2, e5, V'⟩
  · by_cases ne : y = x
    · subst ne; exact .inl kx
    · obtain ⟨_, _, k', _⟩ := ky y d' e ne
      exact .inr k'
  · rw [ok'.kindOf] at k
    have fr := relab_cell co.nocell k
    obtain ⟨a, ea⟩ := Option.isSome_iff_exists.mp (cl_has (cells := env.cells) (names := scope.names) (acc := []) n (.inl fr))
    exact ⟨a, ea⟩
  · rcases o with rfl | ⟨n, e⟩
    · exact ⟨pC.2, pC.1⟩
    · exact f.own a (.inr ⟨n, sub n a e⟩)

/-- the loop of a comprehension; s0: the state before the iterator was made -/
theorem comp_core {s0 : Shared} {scope : Scope} {x : Nat} {fvs : List Nat} {pos px : Pos} {celt cit : PySem.Expr} {ifs : List PySem.Expr} {ds : List AV} {I : Addr} {step : AV → (Option AV → Sto → Prop) → Sto → Prop} {R : Value → Addr → Result → Shared → Prop}
    (hh : A.handled = none) (ok : EnvOk env sc) (co : CompOk sc scope x fvs) (fr : Frm P env c s0.heap ρ) (kp0 : ∀ a o, s0.heap.get? a = some o → s.heap.get? a = some o) (fI : s0.heap.get? I = none) (R0 : Rst s0 s) (G : Good P hb c s.heap) (src : Src P I c s.heap ds) (pI : Priv c I) (hq : compL step ds [] Q c.σ)
    (turn : ∀ (C : Addr) (d : AV) (K : Option AV → Sto → Prop) (c' : Cf) (s' : Shared), step d K c'.σ → Good P hb c' s'.heap → Frm P (cenvOf env scope C) c' s'.heap (upd (restr fvs ρ) x d) →
      wpAny (model prog w) A (forIn ifs true fun c r => if r = true then do let ok ← isTrue c (cenvOf env scope C) (eval c (cenvOf env scope C)); pure (ForInStep.yield ok) else pure (ForInStep.yield r))
        (fun t s3 => if t = true then wpAny (model prog w) A (eval celt (cenvOf env scope C)) (Pst P hb X0 c' s' fun y σ => K (some y) σ) E0 s3
          else ∃ c3 : Cf, K Option.none c3.σ ∧ Good P hb c3 s3.heap ∧ Stp X0 c' s'.heap c3 s3.heap ∧ Rst s' s3) E0 s')
    (fin : ∀ (c' : Cf) (s' : Shared) (l C : Addr) (ys : List AV), Q (.list ys) c'.σ → Good P hb c' s'.heap → Stp X0 c s0.heap c' s'.heap → Rst s0 s' → VR P c'.F c'.as (.ref l) (.list ys) → (∃ m, s'.heap.Ns C m) → Priv c' C → s0.heap.get? C = none → R (.ref l) C (.ok .next) s') :
    wpAny (model prog w) A (newList []) (fun acc s3 => wpAny (model prog w) A (newFunctionEnv scope env.globals (clFrom env.cells scope.names []) [] env.qual none .none (some env)) (fun cenv s4 =>
      codeAny (model prog w) A (.compStart (.ListComp celt [⟨.Name (nm x) px, cit, ifs, 0⟩] scope pos) 0 (.ref I) acc { cenv with scope := relabel scope env }) (R acc cenv.locals) s4) E0 s3) E0 s := by
  refine wpAny_newObj_type (wpAny_newFunctionEnv co.nocell (by intro y hy; simp at hy) (fun h₁ hns₁ hsb₁ => ?_) co.kind)
  dsimp only at hns₁ hsb₁ ⊢
  generalize hH2 : s.heap.push { cls := .type "list", dict := none, data := .seq ([] : List Value).toArray } = H2 at hns₁ hsb₁ ⊢
  have hC : H2.objs.size = s.heap.objs.size + 1 := by rw [← hH2, Heap.size_push]
  have fl : s.heap.get? s.heap.objs.size = none := none_size _
  have fC : s.heap.get? H2.objs.size = none := get_none_of_le (by rw [hC]; exact Nat.le_succ _)
  have lC : s.heap.objs.size ≠ H2.objs.size := by rw [hC]; exact Nat.ne_of_lt (Nat.lt_succ_self _)
  have gl : H2.get? s.heap.objs.size = some { cls := .type "list", dict := none, data := .seq ([] : List Value).toArray } := by rw [← hH2]; exact Heap.get?_push_size _ rfl
  have k2 : ∀ b o, s.heap.get? b = some o → H2.get? b = some o := fun b o e => by rw [← hH2]; exact keep_push _ _ b o e
  have k1 : ∀ b o, b ≠ H2.objs.size → H2.get? b = some o → h₁.get? b = some o := fun b o ne e => hsb₁.extBut b o ne (keep_push _ _ b o e)
  generalize s.heap.objs.size = l at fl lC gl ⊢
  generalize H2.objs.size = C at fC lC hns₁ k1 ⊢
  have old : ∀ b o, s.heap.get? b = some o → h₁.get? b = some o := fun b o e => k1 b o (by rintro rfl; rw [fC] at e; cases e) (k2 b o e)
  have hacc : h₁.PlainList l #[] := ⟨_, k1 l _ lC gl⟩
  clear hsb₁ hH2 hC k1 k2 gl
  obtain ⟨oI, eI⟩ := src.live
  have Il : I ≠ l := by rintro rfl; rw [fl] at eI; cases eI
  have IC : I ≠ C := by rintro rfl; rw [fC] at eI; cases eI
  have f : Frm P env c s.heap ρ := fr.step (Stp.grown (X := X0) kp0) fun _ _ z => z
  have nC : ∀ n a, env.cells.lookup n = some a → a ≠ C := by
    rintro n a e rfl
    obtain ⟨o, e'⟩ := f.live (.inr ⟨n, e⟩)
    rw [fC] at e'; cases e'
  have f0 : ∀ {a : Addr}, s.heap.get? a = none → s0.heap.get? a = none := fun {a} e => by
    cases q : s0.heap.get? a with
    | none => rfl
    | some o => rw [kp0 a o q] at e; cases e
  have loop : ∀ s₃ : Shared, s₃ = { s with heap := h₁, toks := s.toks + ([] : List (Str × Value)).length } →
      codeAny (model prog w) A (.compLoop (.ListComp celt [⟨.Name (nm x) px, cit, ifs, 0⟩] scope pos) 0 (.ref I) (.ref l) (cenvOf env scope C)) (R (.ref l) C) s₃ := by
    rintro s₃ rfl
    refine codeAny_compLoop_tests (fun n s' => ∃ (c' : Cf) (m : Str → Option Value) (es acc : List AV) (vs : List Value), n = es.length ∧ compL step es acc Q c'.σ ∧ Good P hb c' s'.heap ∧ Stp (fun a => a = I ∨ a = C ∨ a = l) c s.heap c' s'.heap ∧ Rst s s' ∧
      Src P I c' s'.heap es ∧ s'.heap.PlainList l vs.toArray ∧ VRs P c'.F c'.as vs acc ∧ s'.heap.Ns C m ∧ Priv c' I ∧ Priv c' C ∧ Priv c' l) ?_ ds.length
      ⟨c, fun _ => none, ds, [], [], rfl, hq, G.grown old, Stp.grown old, ⟨rfl, rfl, rfl⟩, src.stp (Stp.grown (X := X0) old) (fun o e => old _ o e), hacc, .nil, by simpa using hns₁, pI, Priv.fresh G fC, Priv.fresh G fl⟩
    rintro n s' ⟨c', m, es, acc, vs, rfl, hq', G', S', R', src', L', W', N', pI', pC', pl'⟩
    have lvC : ∃ o, s'.heap.get? C = some o := let ⟨o, _, _, e, _⟩ := N'; ⟨o, e⟩
    have lvl : ∃ o, s'.heap.get? l = some o := let ⟨_, e⟩ := L'; ⟨_, e⟩
    have S0 : Stp (fun a => a = I ∨ a = C ∨ a = l) c s0.heap c' s'.heap := Stp.trans (Stp.grown kp0) S'
    cases es with
    | nil =>
      refine Src.done hh G' src' fun h' xb => ?_
      obtain ⟨k, el⟩ := L'
      have kp : ∀ a o, a ≠ I → s'.heap.get? a = some o → h'.get? a = some o := fun a o ne e => xb a o ne e
      have S1 : Stp X0 c s0.heap c' h' := (Stp.last S0 fI kp).weaken fun a e z => by
        rcases z with z | z | z
        · rw [z, fI] at e; cases e
        · rw [z, f0 fC] at e; cases e
        · rw [z, f0 fl] at e; cases e
      have el' : h'.get? l = some _ := kp l _ (Ne.symm Il) el
      have S2 : Stp X0 c s0.heap (c'.frz l { cls := .type "list", data := .seq vs.toArray k }) h' := by
        refine ⟨fun a o e => .inl (S1.fle a o e), S1.ale, fun a o e => ?_, S1.keep, S1.dom⟩
        rcases e with e | ⟨rfl, rfl⟩
        · exact S1.fnew a o e
        · exact .inr (.inl (f0 fl))
      refine fin (c'.frz l { cls := .type "list", data := .seq vs.toArray k }) _ l C acc hq'.2 ((G'.but pI' kp).frz el' pl'.1) S2 (R0.trans ⟨R'.1, R'.2.1, R'.2.2⟩) (.list (.inr ⟨rfl, rfl⟩) rfl rfl (W'.mono (fun _ _ e => .inl e) fun _ _ e => e)) ?_ ?_ (f0 fC)
      · obtain ⟨o, a1, a2, e, r⟩ := N'
        exact ⟨m, o, a1, a2, kp C o (Ne.symm IC) e, r⟩
      · refine ⟨pC'.1, fun o e => ?_⟩
        rcases e with e | ⟨e, _⟩
        · exact pC'.2 o e
        · exact lC e.symm
    | cons d es =>
      refine Src.item G' src' pI' fun v h1 t1 V1 src1 sb1 lv1 => ?_
      dsimp only
      have kp1 : ∀ a o, a ≠ I → s'.heap.get? a = some o → h1.get? a = some o := fun a o ne e => sb1.extBut a o ne e
      have G1 := G'.but pI' kp1
      have S1 : Stp (fun a => a = I ∨ a = C ∨ a = l) c s.heap c' h1 := S'.trans (Stp.but kp1 (.inl rfl) lv1)
      have N1 : h1.Ns C m := let ⟨o, a1, a2, e, r⟩ := N'; ⟨o, a1, a2, kp1 C o (Ne.symm IC) e, r⟩
      have kx : (cenvOf env scope C).kindOf (nm x) = some .local := by rw [(cenv_ok (C := C) ok co).kindOf]; exact relab_lookup_local co.tgt
      refine wpAny_assign_Name (wpAny_storeName_local kx N1 (fun h2 N2 sb2 => ?_) (by show (((relabel scope env).kind == .class) || ((relabel scope env).kind == .module && _)) = false; rw [show (relabel scope env).kind = scope.kind from rfl, co.kind]; rfl))
      have kp2 : ∀ a o, a ≠ C → h1.get? a = some o → h2.get? a = some o := fun a o ne e => sb2.extBut a o ne e
      have lv2 : h2.get? C ≠ none := by
        obtain ⟨o, _, _, e, _⟩ := N2
        rw [show h2.get? C = some o from e]; simp
      have G2 := G1.but pC' kp2
      have B2 : Stp (fun a => a = I ∨ a = C ∨ a = l) c' h1 c' h2 := Stp.but kp2 (.inr (.inl rfl)) lv2
      have S2 := S1.trans B2
      have src2 : Src P I c' h2 es := src1.stp B2 (fun o e => kp2 I o IC e)
      have L2 : h2.PlainList l vs.toArray := let ⟨k, e⟩ := L'; ⟨k, kp2 l _ lC (kp1 l _ (Ne.symm Il) e)⟩
      have fe : Frm P env c' h2 ρ := f.step S2 fun a o z => by
        rcases z with z | z | z
        · obtain ⟨ob, e⟩ := fr.live o
          rw [z, fI] at e; cases e
        · obtain ⟨ob, e⟩ := f.live o
          rw [z, fC] at e; cases e
        · obtain ⟨ob, e⟩ := f.live o
          rw [z, fl] at e; cases e
      have f2 : Frm P (cenvOf env scope C) c' h2 (upd (restr fvs ρ) x d) :=
        cenv_frm (s := { s' with heap := h2 }) ok co fe N2 (by simp) V1 pC' nC
      have t := turn C d _ c' { s' with heap := h2, toks := t1 + 1 } hq'.2 G2 f2
      have R2 : Rst s { s' with heap := h2, toks := t1 + 1 } := ⟨R'.1, R'.2.1, R'.2.2⟩
      have fin2 : ∀ (c3 : Cf) (h3 : Heap), Good P hb c3 h3 → Stp X0 c' h2 c3 h3 → Src P I c3 h3 es ∧ h3.PlainList l vs.toArray ∧ VRs P c3.F c3.as vs acc ∧ (∃ m, h3.Ns C m) ∧ Priv c3 I ∧ Priv c3 C ∧ Priv c3 l ∧ Stp (fun a => a = I ∨ a = C ∨ a = l) c s.heap c3 h3 := by
        intro c3 h3 G3 S3
        have kI : ∀ o, h2.get? I = some o → h3.get? I = some o := fun o e => S3.keep I o e pI'.1 id
        have kC : ∀ o, h2.get? C = some o → h3.get? C = some o := fun o e => S3.keep C o e pC'.1 id
        have kl : ∀ o, h2.get? l = some o → h3.get? l = some o := fun o e => S3.keep l o e pl'.1 id
        refine ⟨src2.stp S3 kI, let ⟨k, e⟩ := L2; ⟨k, kl _ e⟩, S3.vrs W', ?_, pI'.stp S3 src2.live, pC'.stp S3 (by cases q : h2.get? C with | none => exact absurd q lv2 | some o => exact ⟨o, rfl⟩), pl'.stp S3 (let ⟨k, e⟩ := L2; ⟨_, e⟩), S2.trans (S3.weaken fun _ _ z => z.elim)⟩
        obtain ⟨o, a1, a2, e, r⟩ := N2
        exact ⟨_, o, a1, a2, kC o e, r⟩
      refine wpAny_mono t (fun tb s3 h3 => ?_) fun _ _ z => z.elim
      cases tb with
      | false =>
        obtain ⟨c3, q3, G3, S3, R3⟩ := h3
        obtain ⟨a1, a2, a3, ⟨m3, a4⟩, a5, a6, a7, a8⟩ := fin2 c3 s3.heap G3 S3
        exact ⟨es.length, by simp, c3, m3, es, acc, vs, rfl, q3, G3, a8, R2.trans R3, a1, a2, a3, a4, a5, a6, a7⟩
      | true =>
        refine wpAny_mono h3 (fun y s4 h4 => ?_) fun _ _ z => z.elim
        obtain ⟨c4, dy, q4, G4, S4, R4, V4⟩ := h4
        obtain ⟨a1, a2, a3, ⟨m3, a4⟩, a5, a6, a7, a8⟩ := fin2 c4 s4.heap G4 S4
        refine wpAny_list_append_plain a2 (fun h5 L5 sb5 => ?_) ?_
        · have kp5 : ∀ a o, a ≠ l → s4.heap.get? a = some o → h5.get? a = some o := fun a o ne e => sb5.extBut a o ne e
          have lv5 : h5.get? l ≠ none := by obtain ⟨k, e⟩ := L5; rw [e]; simp
          have B5 : Stp (fun a => a = I ∨ a = C ∨ a = l) c4 s4.heap c4 h5 := Stp.but kp5 (.inr (.inr rfl)) lv5
          refine ⟨es.length, by simp, c4, m3, es, acc ++ [dy], vs ++ [y], rfl, q4, G4.but a7 kp5, a8.trans B5, R2.trans ⟨R4.1, R4.2.1, R4.2.2⟩, a1.stp B5 (fun o e => kp5 I o Il e), by simpa using L5, a3.append (.cons V4 .nil), ?_, a5, a6, a7⟩
          obtain ⟨o, b1, b2, e, r⟩ := a4
          exact ⟨o, b1, b2, kp5 C o (Ne.symm lC) e, r⟩
        · have := a3.length
          have hl := hq'.1
          simp only [List.size_toArray]
          exact lenB_line (by omega)
  exact codeAny_compStart_list (loop _ rfl) (Src.self (src.stp (Stp.grown (X := X0) old) (fun o e => old _ o e)) (loop _ rfl))
end

end Mine
end
/-! Snd5 -/
section
open PySem.Calls
namespace Mine

section
variable {P : Par} {prog : Program} {w : World} {hb : Heap} {mg mb : Str → Option Value} {D : Nat} {Φ : Tab}

noncomputable def SE (P : Par) (prog : Program) (w : World) (hb : Heap) (D : Nat) (Φ : Tab) (e : ME) : Prop :=
  ∀ (sc : Sc) (ce : PySem.Expr), CE sc e ce → ∀ (A : Around) (env : Env) (c : Cf) (s : Shared) (ρ : Rho) (Q : AV → Sto → Prop), AOk (D + 1) A → EnvOk env sc → Frm P env c s.heap ρ → Good P hb c s.heap → mev Φ e Q ρ c.σ →
    wpAny (model prog w) A (eval ce env) (Pst P hb X0 c s Q) E0 s
noncomputable def ST (P : Par) (prog : Program) (w : World) (hb : Heap) (D : Nat) (Φ : Tab) (e : ME) : Prop :=
  ∀ (sc : Sc) (ce : PySem.Expr), CE sc e ce → ∀ (A : Around) (env : Env) (c : Cf) (s : Shared) (ρ : Rho) (K : Bool → Sto → Prop), AOk (D + 1) A → EnvOk env sc → Frm P env c s.heap ρ → Good P hb c s.heap → mtest Φ e K ρ c.σ →
    wpAny (model prog w) A (isTrue ce env (eval ce env)) (Pstb P hb c s K) E0 s
noncomputable def SEs (P : Par) (prog : Program) (w : World) (hb : Heap) (D : Nat) (Φ : Tab) (es : MEs) : Prop :=
  ∀ (sc : Sc) (ces : List PySem.Expr), CEs sc es ces → ∀ (A : Around) (env : Env) (c : Cf) (s : Shared) (ρ : Rho) (Q : List AV → Sto → Prop), AOk (D + 1) A → EnvOk env sc → Frm P env c s.heap ρ → Good P hb c s.heap → mevs Φ es Q ρ c.σ →
    wpAny (model prog w) A (spliced (ces.map fun c => (false, eval c env))) (Psts P hb ces.length c s Q) E0 s
noncomputable def SAnd (P : Par) (prog : Program) (w : World) (hb : Heap) (D : Nat) (Φ : Tab) (es : MEs) : Prop :=
  ∀ (sc : Sc) (ces : List PySem.Expr), CEs sc es ces → ∀ (A : Around) (env : Env) (c : Cf) (s : Shared) (ρ : Rho), AOk (D + 1) A → EnvOk env sc → Frm P env c s.heap ρ → Good P hb c s.heap →
    (∀ (pos : Pos) (Q : AV → Sto → Prop), mand Φ es Q ρ c.σ → wpAny (model prog w) A (boolOp pos .And (ces.map fun c => eval c env)) (Pst P hb X0 c s Q) E0 s) ∧
    (∀ (K : Bool → Sto → Prop), mand Φ es (fun x σ1 => onB (tru σ1 x) fun t => K t σ1) ρ c.σ → wpAny (model prog w) A (allTrue .And ces env) (Pstb P hb c s K) E0 s)
noncomputable def SOr (P : Par) (prog : Program) (w : World) (hb : Heap) (D : Nat) (Φ : Tab) (es : MEs) : Prop :=
  ∀ (sc : Sc) (ces : List PySem.Expr), CEs sc es ces → ∀ (A : Around) (env : Env) (c : Cf) (s : Shared) (ρ : Rho), AOk (D + 1) A → EnvOk env sc → Frm P env c s.heap ρ → Good P hb c s.heap →
    (∀ (pos : Pos) (Q : AV → Sto → Prop), mor Φ es Q ρ c.σ → wpAny (model prog w) A (boolOp pos .Or (ces.map fun c => eval c env)) (Pst P hb X0 c s Q) E0 s) ∧
    (∀ (K : Bool → Sto → Prop), mor Φ es (fun x σ1 => onB (tru σ1 x) fun t => K t σ1) ρ c.σ → wpAny (model prog w) A (allTrue .Or ces env) (Pstb P hb c s K) E0 s)


theorem AOk.h {A : Around} (a : AOk D A) : A.handled = none := a.1
theorem AOk.u {A : Around} (a : AOk D A) : A.units + 200 < cLine := by have := a.2.2; omega

theorem Pstb.after {c c1 : Cf} {s s1 : Shared} {K : Bool → Sto → Prop} (S : Stp X0 c s.heap c1 s1.heap) (R : Rst s s1) {b : Bool} {s2 : Shared} (p : Pstb P hb c1 s1 K b s2) : Pstb P hb c s K b s2 := by
  obtain ⟨c2, q, G, S2, R2⟩ := p
  exact ⟨c2, q, G, S.trans S2, R.trans R2⟩
theorem Frm.stp0 {env : Env} {c c' : Cf} {h h' : Heap} {ρ : Rho} (f : Frm P env c h ρ) (S : Stp X0 c h c' h') : Frm P env c' h' ρ := f.step S fun _ _ z => z

/-- first one expression, then the rest -/
theorem se_then {e : ME} {sc : Sc} {ce : PySem.Expr} (he : SE P prog w hb D Φ e) (ck : CE sc e ce) {A : Around} {env : Env} {c : Cf} {s : Shared} {ρ : Rho} {Q : AV → Sto → Prop} {K : Value → Shared → Prop}
    (a : AOk (D + 1) A) (ok : EnvOk env sc) (f : Frm P env c s.heap ρ) (G : Good P hb c s.heap) (h : mev Φ e Q ρ c.σ)
    (k : ∀ (v : Value) (s1 : Shared) (c1 : Cf) (d : AV), Q d c1.σ → Good P hb c1 s1.heap → Stp X0 c s.heap c1 s1.heap → Rst s s1 → VR P c1.F c1.as v d → Frm P env c1 s1.heap ρ → K v s1) :
    wpAny (model prog w) A (eval ce env) K E0 s :=
  wpAny_mono (he sc ce ck A env c s ρ Q a ok f G h) (fun v s1 ⟨c1, d, q, G1, S1, R1, V1⟩ => k v s1 c1 d q G1 S1 R1 V1 (f.stp0 S1)) fun _ _ z => z.elim
theorem st_then {e : ME} {sc : Sc} {ce : PySem.Expr} (he : ST P prog w hb D Φ e) (ck : CE sc e ce) {A : Around} {env : Env} {c : Cf} {s : Shared} {ρ : Rho} {Q : Bool → Sto → Prop} {K : Bool → Shared → Prop}
    (a : AOk (D + 1) A) (ok : EnvOk env sc) (f : Frm P env c s.heap ρ) (G : Good P hb c s.heap) (h : mtest Φ e Q ρ c.σ)
    (k : ∀ (b : Bool) (s1 : Shared) (c1 : Cf), Q b c1.σ → Good P hb c1 s1.heap → Stp X0 c s.heap c1 s1.heap → Rst s s1 → Frm P env c1 s1.heap ρ → K b s1) :
    wpAny (model prog w) A (isTrue ce env (eval ce env)) K E0 s :=
  wpAny_mono (he sc ce ck A env c s ρ Q a ok f G h) (fun v s1 ⟨c1, q, G1, S1, R1⟩ => k v s1 c1 q G1 S1 R1 (f.stp0 S1)) fun _ _ z => z.elim

/-- a value tested -/
theorem tr_snd {A : Around} {c : Cf} {s : Shared} {v : Value} {d : AV} {K : Bool → Sto → Prop} (G : Good P hb c s.heap) (V : VR P c.F c.as v d) (q : onB (tru c.σ d) fun t => K t c.σ) {B : Bool → Shared → Prop}
    (h : ∀ b t, tru c.σ d = some b → K b c.σ → B b { s with toks := t }) : wpAny (model prog w) A (truthy v) B E0 s := by
  cases e : tru c.σ d with
  | none => rw [e] at q; exact q.elim
  | some b => rw [e] at q; exact truthy_snd G V e fun t => h b t e q

theorem st_of_se {e : ME} (he : SE P prog w hb D Φ e) (hi : ∀ sc ce, CE sc e ce → ∀ (env : Env) (whole : Sem Value), isTrue ce env whole = (do let v ← whole; standAt ce.pos; holding [v] (truthy v))) : ST P prog w hb D Φ e := by
  intro sc ce ck A env c s ρ K a ok f G h
  refine wpAny_isTrue_value (se_then he ck a ok f G h fun v s1 c1 d q G1 S1 R1 V1 f1 => ?_) (hi sc ce ck env _)
  exact tr_snd G1 V1 q fun b t _ k => ⟨c1, k, G1, S1, R1.trans ⟨rfl, rfl, rfl⟩⟩

/-- these are tested by their values -/
noncomputable def plainE : ME → Bool
  | .cmp .. => false
  | .not .. => false
  | .and .. => false
  | .or .. => false
  | .ife .. => false
  | _ => true
theorem CE.hi {sc e ce} (h : CE sc e ce) (he : plainE e = true) (env : Env) (whole : Sem Value) : isTrue ce env whole = (do let v ← whole; standAt ce.pos; holding [v] (truthy v)) := by
  cases h <;> first | rfl | cases he
theorem se_name (x : Nat) : SE P prog w hb D Φ (.name x) := by
  intro sc ce ck A env c s ρ Q a ok f G h
  obtain ⟨_, hd, rfl⟩ := ck.inv
  simp only [v_name] at h
  split at h
  · rename_i d e; exact name_snd ok f G hd e h
  · exact h.elim
theorem base_vr {c : Cf} {h : Heap} (G : Good P hb c h) {v : Value} {d : AV} (V : VR P (fun a o => hb.get? a = some o) [] v d) : VR P c.F c.as v d := V.mono G.base (by intro n a e; cases e)
theorem se_glob (W : Wd P prog w hb mg mb) (g : Nat) : SE P prog w hb D Φ (.glob g) := by
  intro sc ce ck A env c s ρ Q a ok f G h
  obtain ⟨_, hd, hk, rfl⟩ := ck.inv
  simp only [v_glob] at h
  split at h
  · rename_i d e
    obtain ⟨v, e1, V⟩ := W.glob g d e
    exact gname_snd ok W G hd hk e1 (Pst.here G (base_vr G V) h _)
  · exact h.elim
theorem se_fnv (W : Wd P prog w hb mg mb) (g : Nat) : SE P prog w hb D Φ (.fnv g) := by
  intro sc ce ck A env c s ρ Q a ok f G h
  obtain ⟨_, hl, hd, hk, rfl⟩ := ck.inv
  exact gname_snd ok W G hd hk (W.fn g hl) (Pst.here G (.fn g) h _)
theorem se_cint (i : Int) : SE P prog w hb D Φ (.cint i) := by
  intro sc ce ck A env c s ρ Q a ok f G h
  obtain ⟨_, _, rfl⟩ := ck.inv
  exact wpAny_Constant_int (Pst.here G (.int _ _) h _)
theorem se_cstr (i : Nat) : SE P prog w hb D Φ (.cstr i) := by
  intro sc ce ck A env c s ρ Q a ok f G h
  obtain ⟨_, _, rfl⟩ := ck.inv
  exact wpAny_Constant_str (Pst.here G (.str _ _) h _)
theorem se_cbool (i : Bool) : SE P prog w hb D Φ (.cbool i) := by
  intro sc ce ck A env c s ρ Q a ok f G h
  obtain ⟨_, _, rfl⟩ := ck.inv
  exact wpAny_Constant_bool (Pst.here G (.bool _) h s.toks)
theorem se_cnone : SE P prog w hb D Φ .cnone := by
  intro sc ce ck A env c s ρ Q a ok f G h
  obtain ⟨_, _, rfl⟩ := ck.inv
  exact wpAny_Constant_none (Pst.here G .none h s.toks)

theorem ses_nil : SEs P prog w hb D Φ .nil := by
  intro sc ces ck A env c s ρ Q a ok f G h
  cases ck with
  | nil => exact spliced_nil ⟨c, [], rfl, h, G, Stp.refl _ _ _, Rst.refl _, .nil⟩
theorem ses_cons {e : ME} {es : MEs} (he : SE P prog w hb D Φ e) (hes : SEs P prog w hb D Φ es) : SEs P prog w hb D Φ (.cons e es) := by
  intro sc ces ck A env c s ρ Q a ok f G h
  cases ck with
  | cons h1 h2 =>
    refine spliced_cons (se_then he h1 a ok f G h fun v s1 c1 d q G1 S1 R1 V1 f1 => ?_)
    refine wpAny_mono (hes sc _ h2 A env c1 s1 ρ _ a ok f1 G1 q) (fun vs s2 ⟨c2, ds, l2, q2, G2, S2, R2, V2⟩ => ?_) fun _ _ z => z.elim
    exact ⟨c2, d :: ds, by simp [l2], q2, G2, S1.trans S2, R1.trans R2, .cons (S2.vr V1) V2⟩

theorem ses_then {es : MEs} {sc : Sc} {ces : List PySem.Expr} (he : SEs P prog w hb D Φ es) (ck : CEs sc es ces) {A : Around} {env : Env} {c : Cf} {s : Shared} {ρ : Rho} {Q : List AV → Sto → Prop} {K : List Value → Shared → Prop}
    (a : AOk (D + 1) A) (ok : EnvOk env sc) (f : Frm P env c s.heap ρ) (G : Good P hb c s.heap) (h : mevs Φ es Q ρ c.σ)
    (k : ∀ (v : List Value) (s1 : Shared) (c1 : Cf) (d : List AV), Q d c1.σ → Good P hb c1 s1.heap → Stp X0 c s.heap c1 s1.heap → Rst s s1 → VRs P c1.F c1.as v d → v.length = ces.length → K v s1) :
    wpAny (model prog w) A (spliced (ces.map fun c => (false, eval c env))) K E0 s :=
  wpAny_mono (he sc ces ck A env c s ρ Q a ok f G h) (fun v s1 ⟨c1, d, l1, q, G1, S1, R1, V1⟩ => k v s1 c1 d q G1 S1 R1 V1 l1) fun _ _ z => z.elim

theorem se_tup {es : MEs} (he : SEs P prog w hb D Φ es) : SE P prog w hb D Φ (.tup es) := by
  intro sc ce ck A env c s ρ Q a ok f G h
  obtain ⟨_, _, _, hl, h1, rfl⟩ := ck.inv
  refine wpAny_Tuple_spliced ?_
  rw [h1.trees]
  refine ses_then he h1 a ok f G h fun v s1 c1 d q G1 S1 R1 V1 l1 => ?_
  exact ⟨by rw [sizeLine_eq]; omega, Pst.after S1 R1 (Pst.newSeq G1 (.inr rfl) V1 (by simpa using q) _)⟩
theorem se_lst {es : MEs} (he : SEs P prog w hb D Φ es) : SE P prog w hb D Φ (.lst es) := by
  intro sc ce ck A env c s ρ Q a ok f G h
  obtain ⟨_, _, hl, h1, rfl⟩ := ck.inv
  refine wpAny_List_spliced ?_
  rw [h1.trees]
  refine ses_then he h1 a ok f G h fun v s1 c1 d q G1 S1 R1 V1 l1 => ?_
  exact ⟨by rw [sizeLine_eq]; omega, Pst.after S1 R1 (Pst.newSeq G1 (.inl rfl) V1 (by simpa using q) _)⟩
theorem se_lstM : SE P prog w hb D Φ .lstM := by
  intro sc ce ck A env c s ρ Q a ok f G h
  obtain ⟨_, rfl⟩ := ck.inv
  refine wpAny_List_spliced ?_
  exact spliced_nil ⟨by rw [sizeLine_eq]; simp, Pst.newTrk G .nil h _⟩
theorem se_bin {op : BinK} {x y : ME} (hx : SE P prog w hb D Φ x) (hy : SE P prog w hb D Φ y) : SE P prog w hb D Φ (.bin op x y) := by
  intro sc ce ck A env c s ρ Q a ok f G h
  obtain ⟨_, _, _, h1, h2, rfl⟩ := ck.inv
  refine wpAny_BinOp (se_then hx h1 a ok f G h fun v s1 c1 d q G1 S1 R1 V1 f1 => se_then hy h2 a ok f1 G1 q fun u s2 c2 e q2 G2 S2 R2 V2 f2 => ?_)
  exact wpAny_mono (bin_snd G2 (S2.vr V1) V2 q2) (fun _ _ p => Pst.after (S1.trans S2) (R1.trans R2) p) fun _ _ z => z
theorem se_neg {x : ME} (hx : SE P prog w hb D Φ x) : SE P prog w hb D Φ (.neg x) := by
  intro sc ce ck A env c s ρ Q a ok f G h
  obtain ⟨_, _, h1, rfl⟩ := ck.inv
  refine wpAny_UnaryOp (se_then hx h1 a ok f G h fun v s1 c1 d q G1 S1 R1 V1 f1 => ?_)
  cases d with
  | int i => exact wpAny_mono (neg_snd G1 V1 q) (fun _ _ p => Pst.after S1 R1 p) fun _ _ z => z
  | _ => exact q.elim
theorem se_cmp {op : CmpK} {x y : ME} (hx : SE P prog w hb D Φ x) (hy : SE P prog w hb D Φ y) : SE P prog w hb D Φ (.cmp op x y) := by
  intro sc ce ck A env c s ρ Q a ok f G h
  obtain ⟨_, _, _, h1, h2, rfl⟩ := ck.inv
  refine wpAny_Compare1 (se_then hx h1 a ok f G h fun v s1 c1 d q G1 S1 R1 V1 f1 => se_then hy h2 a ok f1 G1 q fun u s2 c2 e q2 G2 S2 R2 V2 f2 => ?_) (h2.noMark _)
  exact wpAny_mono (cmp_snd G2 a.u (S2.vr V1) V2 q2) (fun _ _ p => Pst.after (S1.trans S2) (R1.trans R2) p) fun _ _ z => z
theorem st_cmp {op : CmpK} {x y : ME} (hx : SE P prog w hb D Φ x) (hy : SE P prog w hb D Φ y) : ST P prog w hb D Φ (.cmp op x y) := by
  intro sc ce ck A env c s ρ K a ok f G h
  obtain ⟨_, _, _, h1, h2, rfl⟩ := ck.inv
  refine wpAny_isTrue_Compare1 (se_then hx h1 a ok f G h fun v s1 c1 d q G1 S1 R1 V1 f1 => se_then hy h2 a ok f1 G1 q fun u s2 c2 e q2 G2 S2 R2 V2 f2 => ?_) (h2.noMark _)
  refine wpAny_mono (cmp_snd (Q := fun x σ1 => onB (tru σ1 x) fun t => K t σ1) G2 a.u (S2.vr V1) V2 q2) (fun t s3 ⟨c3, d3, q3, G3, S3, R3, V3⟩ => ?_) fun _ _ z => z
  exact tr_snd G3 V3 q3 fun b t _ k => ⟨c3, k, G3, (S1.trans S2).trans S3, (R1.trans R2).trans (R3.trans ⟨rfl, rfl, rfl⟩)⟩
theorem mtest_not {x : ME} {K : Bool → Sto → Prop} {ρ : Rho} {σ : Sto} (h : mtest Φ (.not x) K ρ σ) : mtest Φ x (fun t => K (!t)) ρ σ := by
  unfold mtest at h ⊢
  rw [v_not] at h
  refine cast ?_ h
  congr 1
theorem st_not {x : ME} (hx : ST P prog w hb D Φ x) : ST P prog w hb D Φ (.not x) := by
  intro sc ce ck A env c s ρ K a ok f G h
  obtain ⟨_, _, h1, rfl⟩ := ck.inv
  refine wpAny_isTrue_Not (st_then hx h1 a ok f G (mtest_not h) fun b s1 c1 q G1 S1 R1 f1 => ?_)
  exact ⟨c1, q, G1, S1, R1⟩
theorem mev_not {x : ME} {Q : AV → Sto → Prop} {ρ : Rho} {σ : Sto} (h : mev Φ (.not x) Q ρ σ) : mtest Φ x (fun t σ1 => Q (.bool (!t)) σ1) ρ σ := by
  unfold mtest
  rw [v_not] at h
  exact h
theorem se_not {x : ME} (hx : SE P prog w hb D Φ x) : SE P prog w hb D Φ (.not x) := by
  intro sc ce ck A env c s ρ Q a ok f G h
  obtain ⟨_, _, h1, rfl⟩ := ck.inv
  rw [v_not] at h
  refine wpAny_UnaryOp (se_then hx h1 a ok f G h fun v s1 c1 d q G1 S1 R1 V1 f1 => ?_)
  have q' : onB (tru c1.σ d) fun t => (fun t σ => Q (.bool (!t)) σ) t c1.σ := q
  refine not_of (tr_snd G1 V1 q' fun b t _ k => ?_)
  exact Pst.after S1 (R1.trans ⟨rfl, rfl, rfl⟩) ⟨c1, _, k, G1, Stp.refl _ _ _, ⟨rfl, rfl, rfl⟩, .bool _⟩
end

end Mine
end
/-! Snd6 -/
section
open PySem.Calls
namespace Mine

section
variable {P : Par} {prog : Program} {w : World} {hb : Heap} {mg mb : Str → Option Value} {D : Nat} {Φ : Tab}

theorem sand_nil : SAnd P prog w hb D Φ .nil := by
  intro sc ces ck A env c s ρ a ok f G
  exact ⟨fun _ _ h => (by rw [mand] at h; exact h.elim), fun _ h => (by rw [mand] at h; exact h.elim)⟩
theorem sand_one {e : ME} (he : SE P prog w hb D Φ e) (te : ST P prog w hb D Φ e) : SAnd P prog w hb D Φ (.cons e .nil) := by
  intro sc ces ck A env c s ρ a ok f G
  cases ck with
  | cons h1 h2 =>
    cases h2
    refine ⟨fun pos Q h => ?_, fun K h => ?_⟩
    · rw [mand] at h
      exact he sc _ h1 A env c s ρ Q a ok f G h
    · rw [mand] at h
      refine wpAny_allTrue_And_cons (st_then te h1 a ok f G (Q := K) h fun b s1 c1 q G1 S1 R1 f1 => ?_)
      cases b with
      | true => exact wpAny_allTrue_And_nil ⟨c1, q, G1, S1, R1⟩
      | false => exact ⟨c1, q, G1, S1, R1⟩
theorem sand_cons {e g : ME} {es : MEs} (he : SE P prog w hb D Φ e) (te : ST P prog w hb D Φ e) (hr : SAnd P prog w hb D Φ (.cons g es)) : SAnd P prog w hb D Φ (.cons e (.cons g es)) := by
  intro sc ces ck A env c s ρ a ok f G
  cases ck with
  | cons h1 h2 =>
  cases h2 with
  | @cons _ _ _ y ys h3 h4 =>
    have h2 := CEs.cons h3 h4
    refine ⟨fun pos Q h => ?_, fun K h => ?_⟩
    · rw [mand] at h
      show wpAny _ _ (do
        let v ← eval _ env
        standAt pos
        let t ← holding [v] (truthy v)
        match BoolOp.And, t with
        | .And, false | .Or, true => pure v
        | _, _ => boolOp pos .And ((y :: ys).map fun c => eval c env)) _ _ _
      refine wpAny_bind (se_then he h1 a ok f G h fun v s1 c1 d q G1 S1 R1 V1 f1 => wpAny_bind (wpAny_standAt (wpAny_bind (wpAny_holding ?_))))
      refine tr_snd (K := fun t σ => if t = true then mand Φ (.cons g es) Q ρ σ else Q d σ) G1 V1 q fun b t _ k => ?_
      have R1' : Rst s { s1 with toks := t } := R1.trans ⟨rfl, rfl, rfl⟩
      cases b with
      | false => exact wpAny_pure ⟨c1, d, by simpa using k, G1, S1, R1', V1⟩
      | true =>
        have k' : mand Φ (.cons g es) Q ρ c1.σ := by simpa using k
        exact wpAny_mono ((hr sc _ h2 A env c1 { s1 with toks := t } ρ a ok f1 G1).1 pos Q k') (fun _ _ p => Pst.after S1 R1' p) fun _ _ z => z
    · rw [mand] at h
      have h' : mtest Φ e (fun t σ1 => if t = true then mand Φ (.cons g es) (fun x σ1 => onB (tru σ1 x) fun t => K t σ1) ρ σ1 else K false σ1) ρ c.σ := by
        unfold mtest
        refine cast ?_ h
        congr 1
        funext x σ1
        cases ht : tru σ1 x with
        | none => rfl
        | some t => cases t <;> simp [ht]
      refine wpAny_allTrue_And_cons (st_then te h1 a ok f G h' fun b s1 c1 q G1 S1 R1 f1 => ?_)
      cases b with
      | true =>
        exact wpAny_mono ((hr sc _ h2 A env c1 s1 ρ a ok f1 G1).2 K (by simpa using q)) (fun _ _ p => Pstb.after S1 R1 p) fun _ _ z => z
      | false => exact ⟨c1, by simpa using q, G1, S1, R1⟩
theorem sor_nil : SOr P prog w hb D Φ .nil := by
  intro sc ces ck A env c s ρ a ok f G
  exact ⟨fun _ _ h => (by rw [mor] at h; exact h.elim), fun _ h => (by rw [mor] at h; exact h.elim)⟩
theorem sor_one {e : ME} (he : SE P prog w hb D Φ e) (te : ST P prog w hb D Φ e) : SOr P prog w hb D Φ (.cons e .nil) := by
  intro sc ces ck A env c s ρ a ok f G
  cases ck with
  | cons h1 h2 =>
    cases h2
    refine ⟨fun pos Q h => ?_, fun K h => ?_⟩
    · rw [mor] at h
      exact he sc _ h1 A env c s ρ Q a ok f G h
    · rw [mor] at h
      refine wpAny_allTrue_Or_cons (st_then te h1 a ok f G (Q := K) h fun b s1 c1 q G1 S1 R1 f1 => ?_)
      cases b with
      | false => exact wpAny_allTrue_Or_nil ⟨c1, q, G1, S1, R1⟩
      | true => exact ⟨c1, q, G1, S1, R1⟩
theorem sor_cons {e g : ME} {es : MEs} (he : SE P prog w hb D Φ e) (te : ST P prog w hb D Φ e) (hr : SOr P prog w hb D Φ (.cons g es)) : SOr P prog w hb D Φ (.cons e (.cons g es)) := by
  intro sc ces ck A env c s ρ a ok f G
  cases ck with
  | cons h1 h2 =>
  cases h2 with
  | @cons _ _ _ y ys h3 h4 =>
    have h2 := CEs.cons h3 h4
    refine ⟨fun pos Q h => ?_, fun K h => ?_⟩
    · rw [mor] at h
      show wpAny _ _ (do
        let v ← eval _ env
        standAt pos
        let t ← holding [v] (truthy v)
        match BoolOp.Or, t with
        | .And, false | .Or, true => pure v
        | _, _ => boolOp pos .Or ((y :: ys).map fun c => eval c env)) _ _ _
      refine wpAny_bind (se_then he h1 a ok f G h fun v s1 c1 d q G1 S1 R1 V1 f1 => wpAny_bind (wpAny_standAt (wpAny_bind (wpAny_holding ?_))))
      refine tr_snd (K := fun t σ => if t = true then Q d σ else mor Φ (.cons g es) Q ρ σ) G1 V1 q fun b t _ k => ?_
      have R1' : Rst s { s1 with toks := t } := R1.trans ⟨rfl, rfl, rfl⟩
      cases b with
      | true => exact wpAny_pure ⟨c1, d, by simpa using k, G1, S1, R1', V1⟩
      | false =>
        have k' : mor Φ (.cons g es) Q ρ c1.σ := by simpa using k
        exact wpAny_mono ((hr sc _ h2 A env c1 { s1 with toks := t } ρ a ok f1 G1).1 pos Q k') (fun _ _ p => Pst.after S1 R1' p) fun _ _ z => z
    · rw [mor] at h
      have h' : mtest Φ e (fun t σ1 => if t = true then K true σ1 else mor Φ (.cons g es) (fun x σ1 => onB (tru σ1 x) fun t => K t σ1) ρ σ1) ρ c.σ := by
        unfold mtest
        refine cast ?_ h
        congr 1
        funext x σ1
        cases ht : tru σ1 x with
        | none => rfl
        | some t => cases t <;> simp [ht]
      refine wpAny_allTrue_Or_cons (st_then te h1 a ok f G h' fun b s1 c1 q G1 S1 R1 f1 => ?_)
      cases b with
      | false =>
        exact wpAny_mono ((hr sc _ h2 A env c1 s1 ρ a ok f1 G1).2 K (by simpa using q)) (fun _ _ p => Pstb.after S1 R1 p) fun _ _ z => z
      | true => exact ⟨c1, by simpa using q, G1, S1, R1⟩

theorem se_and {es : MEs} (he : SAnd P prog w hb D Φ es) : SE P prog w hb D Φ (.and es) := by
  intro sc ce ck A env c s ρ Q a ok f G h
  obtain ⟨_, _, h1, rfl⟩ := ck.inv
  rw [v_and] at h
  rw [arm_eval_BoolOp, h1.each]
  exact (he sc _ h1 A env c s ρ a ok f G).1 _ Q h
theorem st_and {es : MEs} (he : SAnd P prog w hb D Φ es) : ST P prog w hb D Φ (.and es) := by
  intro sc ce ck A env c s ρ K a ok f G h
  obtain ⟨_, _, h1, rfl⟩ := ck.inv
  unfold mtest at h
  rw [v_and] at h
  exact wpAny_isTrue_BoolOp ((he sc _ h1 A env c s ρ a ok f G).2 K h)
theorem se_or {es : MEs} (he : SOr P prog w hb D Φ es) : SE P prog w hb D Φ (.or es) := by
  intro sc ce ck A env c s ρ Q a ok f G h
  obtain ⟨_, _, h1, rfl⟩ := ck.inv
  rw [v_or] at h
  rw [arm_eval_BoolOp, h1.each]
  exact (he sc _ h1 A env c s ρ a ok f G).1 _ Q h
theorem st_or {es : MEs} (he : SOr P prog w hb D Φ es) : ST P prog w hb D Φ (.or es) := by
  intro sc ce ck A env c s ρ K a ok f G h
  obtain ⟨_, _, h1, rfl⟩ := ck.inv
  unfold mtest at h
  rw [v_or] at h
  exact wpAny_isTrue_BoolOp ((he sc _ h1 A env c s ρ a ok f G).2 K h)

theorem ife_split {c0 x y : ME} {Q : AV → Sto → Prop} {ρ : Rho} {σ : Sto} (h : mev Φ (.ife c0 x y) Q ρ σ) : mtest Φ c0 (fun t σ1 => if t = true then mev Φ x Q ρ σ1 else mev Φ y Q ρ σ1) ρ σ := by
  unfold mtest
  rw [v_ife] at h
  exact h
theorem se_ife {c0 x y : ME} (tc : ST P prog w hb D Φ c0) (hx : SE P prog w hb D Φ x) (hy : SE P prog w hb D Φ y) : SE P prog w hb D Φ (.ife c0 x y) := by
  intro sc ce ck A env c s ρ Q a ok f G h
  obtain ⟨_, _, _, _, h0, h1, h2, rfl⟩ := ck.inv
  refine wpAny_IfExp (st_then tc h0 a ok f G (ife_split h) fun b s1 c1 q G1 S1 R1 f1 => ?_)
  cases b with
  | true => exact wpAny_mono (hx sc _ h1 A env c1 s1 ρ Q a ok f1 G1 (by simpa using q)) (fun _ _ p => Pst.after S1 R1 p) fun _ _ z => z
  | false => exact wpAny_mono (hy sc _ h2 A env c1 s1 ρ Q a ok f1 G1 (by simpa using q)) (fun _ _ p => Pst.after S1 R1 p) fun _ _ z => z
theorem st_ife {c0 x y : ME} (tc : ST P prog w hb D Φ c0) (hx : ST P prog w hb D Φ x) (hy : ST P prog w hb D Φ y) : ST P prog w hb D Φ (.ife c0 x y) := by
  intro sc ce ck A env c s ρ K a ok f G h
  obtain ⟨_, _, _, _, h0, h1, h2, rfl⟩ := ck.inv
  rw [arm_isTrue_IfExp]
  refine wpAny_bind (st_then tc h0 a ok f G (ife_split h) fun b s1 c1 q G1 S1 R1 f1 => ?_)
  cases b with
  | true => exact wpAny_mono (hx sc _ h1 A env c1 s1 ρ K a ok f1 G1 (by simp only [↓reduceIte] at q; exact q)) (fun _ _ p => Pstb.after S1 R1 p) fun _ _ z => z
  | false => exact wpAny_mono (hy sc _ h2 A env c1 s1 ρ K a ok f1 G1 (by simp only [Bool.false_eq_true, if_false] at q; exact q)) (fun _ _ p => Pstb.after S1 R1 p) fun _ _ z => z

theorem se_idx {x y : ME} (hx : SE P prog w hb D Φ x) (hy : SE P prog w hb D Φ y) : SE P prog w hb D Φ (.idx x y) := by
  intro sc ce ck A env c s ρ Q a ok f G h
  obtain ⟨_, _, _, h1, h2, rfl⟩ := ck.inv
  refine Subscript_ (se_then hx h1 a ok f G h fun v s1 c1 d q G1 S1 R1 V1 f1 => se_then hy h2 a ok f1 G1 q fun u s2 c2 e q2 G2 S2 R2 V2 f2 => ?_)
  exact wpAny_mono (idx_snd G2 (S2.vr V1) V2 q2 h2.noSlice) (fun _ _ p => Pst.after (S1.trans S2) (R1.trans R2) p) fun _ _ z => z

theorem listGrow {h h' : Heap} {l : Addr} {xs : Array Value} (L : h.IsList l xs) (k : ∀ a o, h.get? a = some o → h'.get? a = some o) : h'.IsList l xs := let ⟨o, e, r⟩ := L; ⟨o, k _ _ e, r⟩
theorem slice_push {c : Cf} {s : Shared} (G : Good P hb c s.heap) (o : Obj) : Good P hb c (s.heap.push o) := G.grown (keep_push _ _)

theorem se_upto {x : Nat} {y : ME} (hy : SE P prog w hb D Φ y) : SE P prog w hb D Φ (.upto (.name x) y) := by
  intro sc ce ck A env c s ρ Q a ok f G h
  obtain ⟨_, _, _, _, _, hx', hd, h2, rfl⟩ := ck.inv
  cases hx'
  rw [v_upto] at h
  refine wpAny_Subscript_list_slice (se_then (se_name x) (.name hd) a ok f G h fun v s1 c1 d q G1 S1 R1 V1 f1 => wpAny_pure ?_)
  refine se_then hy h2 a ok f1 G1 q fun u s2 c2 e q2 G2 S2 R2 V2 f2 => ?_
  split at q2
  · rename_i ds k e1
    obtain ⟨k0, k1, kl, q3⟩ := q2
    obtain ⟨t, rfl⟩ := vr_int V2
    obtain ⟨l, vs, rfl, L, W⟩ := items_at G2 (S2.vr V1) e1
    have hl := W.length
    refine ⟨l, vs.toArray, Option.none, some k, rfl, L, by rw [List.size_toArray, hl]; exact lenB_line kl, .none, .int _ _, ?_⟩
    have e2 : slicePick vs.toArray Option.none (some k) Option.none = (vs.take k.toNat).toArray := by
      have := slicePick_upto' vs.toArray k.toNat
      rw [show ((k.toNat : Nat) : Int) = k by omega] at this
      simpa using this
    rw [e2]
    have := Pst.newSeq (Q := Q) (s := { s2 with heap := s2.heap.push { cls := .type "slice", data := .fields #[.none, .int k t, .none] } }) (X := X0) (T := "list") (slice_push G2 _) (.inl rfl) (W.take k.toNat) (by simpa using q3) s2.toks
    rw [Heap.size_push] at this
    exact Pst.after (s1 := { s2 with heap := s2.heap.push { cls := .type "slice", data := .fields #[.none, .int k t, .none] } }) (S1.trans (S2.trans (Stp.grown (keep_push _ _)))) (R1.trans (R2.trans ⟨rfl, rfl, rfl⟩)) this
  · exact q2.elim
theorem se_uptoM {x : Nat} {y : ME} (hy : SE P prog w hb D Φ y) : SE P prog w hb D Φ (.uptoM (.name x) y) := by
  intro sc ce ck A env c s ρ Q a ok f G h
  obtain ⟨_, _, _, _, _, hx', hd, h2, rfl⟩ := ck.inv
  cases hx'
  rw [v_uptoM] at h
  refine wpAny_Subscript_list_slice (se_then (se_name x) (.name hd) a ok f G h fun v s1 c1 d q G1 S1 R1 V1 f1 => wpAny_pure ?_)
  refine se_then hy h2 a ok f1 G1 q fun u s2 c2 e q2 G2 S2 R2 V2 f2 => ?_
  split at q2
  · rename_i ds k e1
    obtain ⟨k0, k1, kl, q3⟩ := q2
    obtain ⟨t, rfl⟩ := vr_int V2
    obtain ⟨l, vs, rfl, L, W⟩ := items_at G2 (S2.vr V1) e1
    have hl := W.length
    refine ⟨l, vs.toArray, Option.none, some k, rfl, L, by rw [List.size_toArray, hl]; exact lenB_line kl, .none, .int _ _, ?_⟩
    have e2 : slicePick vs.toArray Option.none (some k) Option.none = (vs.take k.toNat).toArray := by
      have := slicePick_upto' vs.toArray k.toNat
      rw [show ((k.toNat : Nat) : Int) = k by omega] at this
      simpa using this
    rw [e2]
    have := Pst.newTrk (Q := Q) (s := { s2 with heap := s2.heap.push { cls := .type "slice", data := .fields #[.none, .int k t, .none] } }) (X := X0) (slice_push G2 _) (W.take k.toNat) q3 s2.toks
    rw [Heap.size_push] at this
    exact Pst.after (s1 := { s2 with heap := s2.heap.push { cls := .type "slice", data := .fields #[.none, .int k t, .none] } }) (S1.trans (S2.trans (Stp.grown (keep_push _ _)))) (R1.trans (R2.trans ⟨rfl, rfl, rfl⟩)) this
  · exact q2.elim
theorem se_from {x : Nat} {y : ME} (hy : SE P prog w hb D Φ y) : SE P prog w hb D Φ (.from (.name x) y) := by
  intro sc ce ck A env c s ρ Q a ok f G h
  obtain ⟨_, _, _, _, _, hx', hd, h2, rfl⟩ := ck.inv
  cases hx'
  rw [v_from] at h
  refine wpAny_Subscript_list_slice (se_then (se_name x) (.name hd) a ok f G h fun v s1 c1 d q G1 S1 R1 V1 f1 => ?_)
  refine se_then hy h2 a ok f1 G1 q fun u s2 c2 e q2 G2 S2 R2 V2 f2 => wpAny_pure ?_
  split at q2
  · rename_i ds k e1
    obtain ⟨k0, k1, kl, q3⟩ := q2
    obtain ⟨t, rfl⟩ := vr_int V2
    obtain ⟨l, vs, rfl, L, W⟩ := items_at G2 (S2.vr V1) e1
    have hl := W.length
    refine ⟨l, vs.toArray, some k, Option.none, rfl, L, by rw [List.size_toArray, hl]; exact lenB_line kl, .int _ _, .none, ?_⟩
    have e2 : slicePick vs.toArray (some k) Option.none Option.none = (vs.drop k.toNat).toArray := by
      have := slicePick_from' vs.toArray k.toNat
      rw [show ((k.toNat : Nat) : Int) = k by omega] at this
      simpa using this
    rw [e2]
    have := Pst.newSeq (Q := Q) (s := { s2 with heap := s2.heap.push { cls := .type "slice", data := .fields #[.int k t, .none, .none] } }) (X := X0) (T := "list") (slice_push G2 _) (.inl rfl) (W.drop k.toNat) (by simpa using q3) s2.toks
    rw [Heap.size_push] at this
    exact Pst.after (s1 := { s2 with heap := s2.heap.push { cls := .type "slice", data := .fields #[.int k t, .none, .none] } }) (S1.trans (S2.trans (Stp.grown (keep_push _ _)))) (R1.trans (R2.trans ⟨rfl, rfl, rfl⟩)) this
  · exact q2.elim
theorem se_rev {x : Nat} : SE P prog w hb D Φ (.rev (.name x)) := by
  intro sc ce ck A env c s ρ Q a ok f G h
  obtain ⟨_, _, _, _, _, _, _, hx', hd, rfl⟩ := ck.inv
  cases hx'
  rw [v_rev] at h
  refine wpAny_Subscript_Slice_step (T := "list") list_getitem_lookup (se_then (se_name x) (.name hd) a ok f G h fun v s1 c1 d q G1 S1 R1 V1 f1 => ?_)
  refine wpAny_Slice (wpAny_pure (wpAny_pure (wpAny_UnaryOp (wpAny_Constant_int (neg_int ?_)))))
  split at q
  · rename_i ds e1
    obtain ⟨kl, q3⟩ := q
    obtain ⟨l, vs, rfl, L, W⟩ := items_at G1 V1 e1
    have hl := W.length
    dsimp only
    refine ⟨(listGrow L (keep_push _ _)).typeIs, wpAny_getItem_list_slice (listGrow L (keep_push _ _)) (Heap.IsSliceOf.new ..) .none .none (.int _ _) (by simp) ?_ (by rw [List.size_toArray, hl]; exact lenB_line kl)⟩
    rw [pick_rev]
    have := Pst.newSeq (Q := Q) (s := { s1 with heap := s1.heap.push { cls := .type "slice", data := .fields #[.none, .none, .int (-1) (s1.toks + 1)] } }) (X := X0) (T := "list") (slice_push G1 _) (.inl rfl) W.reverse (by simpa using q3) (s1.toks + 1 + 1)
    exact Pst.after (s1 := { s1 with heap := s1.heap.push { cls := .type "slice", data := .fields #[.none, .none, .int (-1) (s1.toks + 1)] } }) (S1.trans (Stp.grown (keep_push _ _))) (R1.trans ⟨rfl, rfl, rfl⟩) this
  · exact q.elim
end

end Mine
end
/-! Snd7 -/
section
open PySem.Calls
namespace Mine

section
variable {P : Par} {prog : Program} {w : World} {hb : Heap} {mg mb : Str → Option Value} {D : Nat} {Φ : Tab}

theorem attr_snd (W : Wd P prog w hb mg mb) {A : Around} {c : Cf} {s : Shared} {name : Str} (hn : name = "kind" ∨ name = "items") {v : Value} {k i d : AV} {Q : AV → Sto → Prop} (G : Good P hb c s.heap) (V : VR P c.F c.as v (.vec k i))
    (hd : d = if name = "kind" then k else i) (q : Q d c.σ) : wpAny (model prog w) A (getAttr v name true) (Pst P hb X0 c s Q) E0 s := by
  cases V with
  | vec h1 h2 h3 h4 h5 h6 =>
    rcases hn with rfl | rfl
    · refine W.attr A s _ _ _ _ _ _ _ (.inl rfl) G.keep (G.fz _ _ h1) (G.fz _ _ h2) h3 (vr_handed h5) ?_
      rw [if_pos rfl] at hd
      subst hd
      exact Pst.here G h5 q _
    · refine W.attr A s _ _ _ _ _ _ _ (.inr rfl) G.keep (G.fz _ _ h1) (G.fz _ _ h2) h4 (vr_handed h6) ?_
      rw [if_neg (by decide)] at hd
      subst hd
      exact Pst.here G h6 q _
theorem eval_attr {l : PySem.Expr} (h : bare l = false) (name : Str) (pos : Pos) (env : Env) : eval (.Attribute l name pos) env = (do
      let o ← eval l env
      standAt pos.atName
      let r ← holding [o] (getAttr o name true)
      letTemporaryGo l o r
      pure r) := by
  show (do
      let o ← attributeBase l name env (eval l env)
      standAt pos.atName
      let r ← holding [o] (getAttr o name true)
      letTemporaryGo l o r
      pure r) = _
  rw [attr_base h]
theorem se_kind (W : Wd P prog w hb mg mb) {x : ME} (hx : SE P prog w hb D Φ x) : SE P prog w hb D Φ (.kind x) := by
  intro sc ce ck A env c s ρ Q a ok f G h
  obtain ⟨_, _, hbare, h1, rfl⟩ := ck.inv
  rw [v_kind] at h
  refine Attribute_any_ (se_then hx h1 a ok f G h fun v s1 c1 d q G1 S1 R1 V1 f1 => ?_) (eval_attr hbare _ _ _)
  cases d with
  | vec k i => exact wpAny_mono (attr_snd W (.inl rfl) G1 V1 (by rw [if_pos rfl]) q) (fun _ _ p => Pst.after S1 R1 p) fun _ _ z => z
  | _ => exact q.elim
theorem se_items (W : Wd P prog w hb mg mb) {x : ME} (hx : SE P prog w hb D Φ x) : SE P prog w hb D Φ (.items x) := by
  intro sc ce ck A env c s ρ Q a ok f G h
  obtain ⟨_, _, hbare, h1, rfl⟩ := ck.inv
  rw [v_items] at h
  refine Attribute_any_ (se_then hx h1 a ok f G h fun v s1 c1 d q G1 S1 R1 V1 f1 => ?_) (eval_attr hbare _ _ _)
  cases d with
  | vec k i => exact wpAny_mono (attr_snd W (.inr rfl) G1 V1 (by rw [if_neg (by decide)]) q) (fun _ _ p => Pst.after S1 R1 p) fun _ _ z => z
  | _ => exact q.elim

theorem AOk.down {A : Around} (a : AOk (D + 1) A) : AOk D A := by
  obtain ⟨h1, h2, h3⟩ := a
  exact ⟨h1, by omega, by omega⟩
theorem AOk.one {A : Around} (a : AOk (D + 1) A) : AOk 1 A := by
  obtain ⟨h1, h2, h3⟩ := a
  exact ⟨h1, by omega, by omega⟩

theorem se_call (W : Wd P prog w hb mg mb) (T : TabOk P prog w hb D Φ) {g : Nat} {es : MEs} (hes : SEs P prog w hb D Φ es) : SE P prog w hb D Φ (.call g es) := by
  intro sc ce ck A env c s ρ Q a ok f G h
  obtain ⟨_, _, _, _, _, _, rfl, hl, hd, hk, h1, rfl⟩ := ck.inv
  rw [v_call] at h
  refine wpAny_Call_NameR (gname_snd ok W G hd hk (W.fn g hl) (callW_snd h1 (W.keep g hl) (ses_then hes h1 a ok f G h fun v s1 c1 d q G1 S1 R1 V1 _ => ⟨G1.keep, ?_⟩)))
  exact wpAny_mono ((T g d Q c1.σ q).2 A c1 s1 v a.down G1 rfl V1) (fun _ _ p => Pst.after S1 R1 p) fun _ _ z => z
theorem se_callV (W : Wd P prog w hb mg mb) (T : TabOk P prog w hb D Φ) {x : Nat} {es : MEs} (hes : SEs P prog w hb D Φ es) : SE P prog w hb D Φ (.callV x es) := by
  intro sc ce ck A env c s ρ Q a ok f G h
  obtain ⟨_, _, _, _, _, _, rfl, hd, h1, rfl⟩ := ck.inv
  rw [v_callV] at h
  split at h
  · rename_i g e
    obtain ⟨hl, h⟩ := h
    refine wpAny_Call_NameR (wpAny_mono (name_snd (Q := fun d σ => d = .fn g ∧ mevs Φ _ (fun ds σ' => Φ g ds Q σ') ρ σ) ok f G hd e ⟨rfl, h⟩) (fun v s1 ⟨c1, d, ⟨ed, q⟩, G1, S1, R1, V1⟩ => ?_) fun _ _ z => z)
    subst ed
    cases V1
    have f1 := f.stp0 S1
    refine callW_snd h1 (W.keep g hl) (ses_then hes h1 a ok f1 G1 q fun v s2 c2 d q2 G2 S2 R2 V2 _ => ⟨G2.keep, ?_⟩)
    exact wpAny_mono ((T g d Q c2.σ q2).2 A c2 s2 v a.down G2 rfl V2) (fun _ _ p => Pst.after (S1.trans S2) (R1.trans R2) p) fun _ _ z => z
  · exact h.elim
theorem two_args {x y : ME} {sc : Sc} {l r : PySem.Expr} (h1 : CE sc x l) (h2 : CE sc y r) : CEs sc (.cons x (.cons y .nil)) [l, r] := .cons h1 (.cons h2 .nil)
theorem se_vector (W : Wd P prog w hb mg mb) {x y : ME} (hx : SE P prog w hb D Φ x) (hy : SE P prog w hb D Φ y) : SE P prog w hb D Φ (.vector x y) := by
  intro sc ce ck A env c s ρ Q a ok f G h
  obtain ⟨_, _, _, _, hk, h1, h2, rfl⟩ := ck.inv
  rw [v_vector] at h
  refine wpAny_Call_NameR (gname_snd ok W G (by decide) hk W.vec (callW_snd (two_args h1 h2) W.veck ?_))
  refine spliced_cons (se_then hx h1 a ok f G h fun v s1 c1 d q G1 S1 R1 V1 f1 => ?_)
  refine spliced_cons (se_then hy h2 a ok f1 G1 q fun u s2 c2 e q2 G2 S2 R2 V2 f2 => spliced_nil ⟨G2.keep, ?_⟩)
  refine wpAny_mono (W.vcall A c2 s2 v u d e a.one G2 (S2.vr V1) V2) (fun r s3 ⟨c3, e3, G3, S3, R3, V3⟩ => ?_) fun _ _ z => z
  exact ⟨c3, _, by rw [e3]; exact q2, G3, (S1.trans S2).trans S3, (R1.trans R2).trans R3, V3⟩
theorem se_len (W : Wd P prog w hb mg mb) {x : ME} (hx : SE P prog w hb D Φ x) : SE P prog w hb D Φ (.len x) := by
  intro sc ce ck A env c s ρ Q a ok f G h
  obtain ⟨_, _, _, hk, h1, rfl⟩ := ck.inv
  rw [v_len] at h
  refine wpAny_Call_NameR (bname_snd ok W G (by decide) hk W.len (callW_snd (hb := hb) (.cons h1 .nil) (machine_looks rfl) ?_))
  refine spliced_cons (se_then hx h1 a ok f G h fun v s1 c1 d q G1 S1 R1 V1 f1 => spliced_nil ⟨G1.keep, ?_⟩)
  split at q
  · rename_i ds e
    obtain ⟨l, vs, rfl, L, U⟩ := items_at G1 V1 e
    have hl := U.length
    obtain ⟨q1, q2⟩ := q
    unfold lenB at q1
    refine call_len_list L (by rw [List.size_toArray]; omega) (Pst.after S1 R1 (Pst.here G1 (.int _ _) ?_ _))
    rw [List.size_toArray, hl]
    exact q2
  · exact q.elim
theorem se_abs (W : Wd P prog w hb mg mb) {x : ME} (hx : SE P prog w hb D Φ x) : SE P prog w hb D Φ (.abs x) := by
  intro sc ce ck A env c s ρ Q a ok f G h
  obtain ⟨_, _, _, hk, h1, rfl⟩ := ck.inv
  rw [v_abs] at h
  refine wpAny_Call_NameR (bname_snd ok W G (by decide) hk W.abs (callW_snd (hb := hb) (.cons h1 .nil) (machine_looks rfl) ?_))
  refine spliced_cons (se_then hx h1 a ok f G h fun v s1 c1 d q G1 S1 R1 V1 f1 => spliced_nil ⟨G1.keep, ?_⟩)
  cases d with
  | int i =>
    obtain ⟨t, rfl⟩ := vr_int V1
    exact call_abs_int fun u tk => Pst.after S1 R1 (Pst.here G1 (.int _ _) q _)
  | _ => exact q.elim
theorem se_listOf (W : Wd P prog w hb mg mb) {x : ME} (hx : SE P prog w hb D Φ x) : SE P prog w hb D Φ (.listOf x) := by
  intro sc ce ck A env c s ρ Q a ok f G h
  obtain ⟨_, _, _, hk, h1, rfl⟩ := ck.inv
  rw [v_listOf] at h
  refine wpAny_Call_NameR (bname_snd ok W G (by decide) hk W.list (callW_snd (hb := hb) (.cons h1 .nil) (machine_looks rfl) ?_))
  refine spliced_cons (se_then hx h1 a ok f G h fun v s1 c1 d q G1 S1 R1 V1 f1 => spliced_nil ⟨G1.keep, ?_⟩)
  cases d with
  | list ds =>
    obtain ⟨q1, q2⟩ := q
    cases V1 with
    | list e1 e2 e3 e4 =>
      have hl := e4.length
      refine call_list_seq _ (.inl rfl) (G1.fz _ _ e1) e2 e3 (fun h' c' kp gx => ?_) (by rw [List.size_toArray, hl]; exact lenB_line q1)
      refine Pst.after S1 R1 ⟨c1.frz s1.heap.objs.size _, .list ds, q2, (G1.grown kp).frz gx (G1.fresh (none_size _)), Stp.frz kp (none_size _), ⟨rfl, rfl, rfl⟩, ?_⟩
      exact .list (.inr ⟨rfl, rfl⟩) rfl rfl (e4.mono (fun _ _ e => .inl e) fun _ _ e => e)
  | _ => exact q.elim

theorem plain_erase {h : Heap} {l : Addr} {ws : List Value} {v : Value} (L : h.PlainList l (ws ++ [v]).toArray) : (h.update l (Obj.mapSeq fun xs => xs.eraseIdxIfInBounds ((ws ++ [v]).toArray.size - 1))).PlainList l ws.toArray := by
  obtain ⟨n, e⟩ := L
  have u := IsL.update (h := h) (l := l) (items := (ws ++ [v]).toArray) (n := n) e (fun xs => xs.eraseIdxIfInBounds ((ws ++ [v]).toArray.size - 1))
  have hk : (ws ++ [v]).toArray.size - 1 = ws.length := by rw [List.size_toArray, List.length_append]; rfl
  rw [hk, kl_erase, List.append_nil] at u
  rw [hk]
  exact ⟨_, u⟩
theorem se_pop {x : Nat} : SE P prog w hb D Φ (.pop x) := by
  intro sc ce ck A env c s ρ Q a ok f G h
  obtain ⟨_, _, _, hd, hline, rfl⟩ := ck.inv
  rw [v_pop] at h
  split at h
  · rename_i n e
    obtain ⟨ds, d, e1, hl, q⟩ := h
    refine wpAny_Call_method0_late (attr_base rfl _ _ _) hline ?_
    refine wpAny_mono (name_snd (Q := fun d' σ => d' = .ref n ∧ σ = c.σ) ok f G hd e ⟨rfl, rfl⟩) (fun v s1 ⟨c1, d1, ⟨ed, es⟩, G1, S1, R1, V1⟩ => ?_) fun _ _ z => z
    subst ed
    cases V1 with
    | @ref l _ ha =>
      rw [← es] at e1
      obtain ⟨nf, vs, L, U⟩ := G1.cell _ _ _ ha e1
      obtain ⟨ws, y, rfl, U1, U2⟩ := U.snoc
      have L' := plain_erase L
      obtain ⟨k, eL⟩ := L
      refine ⟨"list", "list.pop", PySem.F.plainAttrs_list, PySem.F.slot_list_pop, PySem.F.type_list_pop, ⟨_, eL, rfl⟩, fun b eb => by cases eb; exact ⟨_, eL, rfl⟩, ?_⟩
      refine callWith_builtin rfl (evalArgs_nil3 ?_)
      have hlen := U1.length
      have hz : (ws ++ [y]).toArray.size ≤ sizeLine := by
        unfold lenB at hl
        rw [List.size_toArray, List.length_append, sizeLine_eq]
        simp only [List.length_cons, List.length_nil]
        omega
      have hy : (ws ++ [y]).toArray[(ws ++ [y]).toArray.size - 1]? = some y := by
        rw [List.size_toArray, List.length_append]
        simp
      refine call_meets PySem.F.slot_list_pop ⟨_, eL, rfl⟩ PySem.F.entry_list_pop (PySem.F.args_list_pop_1 _) (PySem.MeetsSeq.list_pop_last l _ k y hy hz) ⟨eL, ?_⟩
      have kp : ∀ b o, b ≠ l → s1.heap.get? b = some o → (s1.heap.update l (Obj.mapSeq fun xs => xs.eraseIdxIfInBounds ((ws ++ [y]).toArray.size - 1))).get? b = some o := fun b o ne eb => (Heap.get?_update_other _ _ (Ne.symm ne)).trans eb
      refine Pst.after S1 R1 ⟨c1.put n (some ds), d, ?_, G1.put ha e1 kp L' U1, Stp.put G1 ha kp (by obtain ⟨_, z⟩ := L'; rw [z]; simp), ⟨rfl, rfl, rfl⟩, U2⟩
      show Q d (c1.σ.set n (some ds))
      rw [es]
      exact q
  · exact h.elim

theorem se_freeze {x : ME} : SE P prog w hb D Φ (.freeze x) := by
  intro sc ce ck A env c s ρ Q a ok f G h
  obtain ⟨x, _, rfl, hd, rfl⟩ := ck.inv
  rw [v_freeze] at h
  refine wpAny_mono (se_name x sc _ (.name hd) A env c s ρ _ a ok f G h) (fun v s1 ⟨c1, d, q, G1, S1, R1, V1⟩ => ?_) fun _ _ z => z
  cases d with
  | ref n =>
    dsimp only at q
    split at q
    · rename_i ds e
      cases V1 with
      | @ref l _ ha =>
        obtain ⟨nf, vs, ⟨k, L⟩, U⟩ := G1.cell _ _ _ ha e
        refine Pst.after S1 R1 ⟨_, .list ds, ?_, G1.off ha e L, Stp.off ha, ⟨rfl, rfl, rfl⟩, .list (.inr ⟨rfl, rfl⟩) rfl rfl (U.mono (fun _ _ e => .inl e) fun _ _ e => e)⟩
        exact q
    · exact q.elim
  | _ => exact Pst.after S1 R1 ⟨c1, _, q, G1, Stp.refl _ _ _, Rst.refl _, V1⟩

theorem comp_end {c c1 c' : Cf} {s s1 s' : Shared} {Q : AV → Sto → Prop} {l C : Addr} {ys : List AV} (S0 : Stp X0 c s.heap c1 s1.heap) (R0 : Rst s s1) (q : Q (.list ys) c'.σ) (G : Good P hb c' s'.heap) (S : Stp X0 c1 s1.heap c' s'.heap) (R : Rst s1 s')
    (V : VR P c'.F c'.as (.ref l) (.list ys)) (pC : Priv c' C) (fC : s1.heap.get? C = none) (h' : Heap) (sb : Heap.SameBut C s'.heap h') : Pst P hb X0 c s Q (.ref l) { s' with heap := h' } := by
  have kp : ∀ a o, a ≠ C → s'.heap.get? a = some o → h'.get? a = some o := fun a o ne e => sb.extBut a o ne e
  exact ⟨c', _, q, G.but pC kp, S0.trans (Stp.last S fC kp), R0.trans ⟨R.1, R.2.1, R.2.2⟩, V⟩

theorem comp_clos {env : Env} {sc : Sc} {scope : Scope} {x : Nat} {fvs : List Nat} {c : Cf} {h : Heap} {ρ : Rho} (ok : EnvOk env sc) (co : CompOk sc scope x fvs) (f : Frm P env c h ρ) : closureFor scope env = pure (clFrom env.cells scope.names []) :=
  closure_eq fun y hy e => f.has _ (by rw [ok.kindOf]; exact co.free y hy e)

/-- how a comprehension goes on behind its first iterable; U: what is done with the list -/
theorem comp_list {A : Around} {env : Env} {sc : Sc} {scope : Scope} {x : Nat} {fvs : List Nat} {it : ME} {cit celt : PySem.Expr} {ifs : List PySem.Expr} {px pos : Pos} {ρ : Rho} {c : Cf} {s : Shared} {Q : AV → Sto → Prop} {step : AV → (Option AV → Sto → Prop) → Sto → Prop}
    {R : Value → Addr → Result → Shared → Prop}
    (hit : SE P prog w hb D Φ it) (h1 : CE sc it cit) (a : AOk (D + 1) A) (ok : EnvOk env sc) (co : CompOk sc scope x fvs) (f : Frm P env c s.heap ρ) (G : Good P hb c s.heap)
    (h : mev Φ it (fun v σ1 => match v with | .list ds => compL step ds [] Q σ1 | _ => False) ρ c.σ)
    (turn : ∀ (C : Addr) (d : AV) (K : Option AV → Sto → Prop) (c' : Cf) (s' : Shared), step d K c'.σ → Good P hb c' s'.heap → Frm P (cenvOf env scope C) c' s'.heap (upd (restr fvs ρ) x d) →
      wpAny (model prog w) A (forIn ifs true fun c r => if r = true then do let ok ← isTrue c (cenvOf env scope C) (eval c (cenvOf env scope C)); pure (ForInStep.yield ok) else pure (ForInStep.yield r))
        (fun t s3 => if t = true then wpAny (model prog w) A (eval celt (cenvOf env scope C)) (Pst P hb X0 c' s' fun y σ => K (some y) σ) E0 s3
          else ∃ c3 : Cf, K Option.none c3.σ ∧ Good P hb c3 s3.heap ∧ Stp X0 c' s'.heap c3 s3.heap ∧ Rst s' s3) E0 s')
    (fin : ∀ (c1 c' : Cf) (s1 s' : Shared) (l C : Addr) (ys : List AV), Stp X0 c s.heap c1 s1.heap → Rst s s1 → Q (.list ys) c'.σ → Good P hb c' s'.heap → Stp X0 c1 s1.heap c' s'.heap → Rst s1 s' → VR P c'.F c'.as (.ref l) (.list ys) → (∃ m, s'.heap.Ns C m) → Priv c' C → s1.heap.get? C = none → R (.ref l) C (.ok .next) s') :
    wpAny (model prog w) A (eval cit env) (fun xv s₁ => wpAny (model prog w) A (pyIter xv) (fun it s₂ => wpAny (model prog w) A (newList []) (fun acc s₃ =>
      wpAny (model prog w) A (newFunctionEnv scope env.globals (clFrom env.cells scope.names []) [] env.qual none .none (some env)) (fun cenv s₄ =>
        codeAny (model prog w) A (.compStart (.ListComp celt [⟨.Name (nm x) px, cit, ifs, 0⟩] scope pos) 0 it acc { cenv with scope := relabel scope env }) (R acc cenv.locals) s₄) E0 s₃) E0 s₂) E0 s₁) E0 s := by
  refine se_then hit h1 a ok f G h fun v s1 c1 d q G1 S1 R1 V1 f1 => ?_
  cases d with
  | list ds =>
    refine iter_list G1 V1 fun I h' fI kp src => ?_
    exact comp_core (s0 := s1) (s := { s1 with heap := h' }) a.h ok co f1 kp fI ⟨rfl, rfl, rfl⟩ (G1.grown kp) src (Priv.fresh G1 fI) q turn fun c' s' l C ys q' G' S' R' V' N' pC fC => fin c1 c' s1 s' l C ys S1 R1 q' G' S' R' V' N' pC fC
  | _ => exact q.elim
theorem comp_range (W : Wd P prog w hb mg mb) {A : Around} {env : Env} {sc : Sc} {scope : Scope} {x : Nat} {fvs : List Nat} {it : ME} {cn celt : PySem.Expr} {ifs : List PySem.Expr} {p p2 px pos : Pos} {ρ : Rho} {c : Cf} {s : Shared} {Q : AV → Sto → Prop} {step : AV → (Option AV → Sto → Prop) → Sto → Prop}
    {R : Value → Addr → Result → Shared → Prop}
    (hit : SE P prog w hb D Φ it) (h1 : CE sc it cn) (hk : sc.lookup ("range" : Str) = some .globalImplicit) (a : AOk (D + 1) A) (ok : EnvOk env sc) (co : CompOk sc scope x fvs) (f : Frm P env c s.heap ρ) (G : Good P hb c s.heap)
    (h : mev Φ it (fun v σ1 => match v with | .int k => 0 ≤ k ∧ k < 2 ^ 40 ∧ compL step (rangeL k) [] Q σ1 | _ => False) ρ c.σ)
    (turn : ∀ (C : Addr) (d : AV) (K : Option AV → Sto → Prop) (c' : Cf) (s' : Shared), step d K c'.σ → Good P hb c' s'.heap → Frm P (cenvOf env scope C) c' s'.heap (upd (restr fvs ρ) x d) →
      wpAny (model prog w) A (forIn ifs true fun c r => if r = true then do let ok ← isTrue c (cenvOf env scope C) (eval c (cenvOf env scope C)); pure (ForInStep.yield ok) else pure (ForInStep.yield r))
        (fun t s3 => if t = true then wpAny (model prog w) A (eval celt (cenvOf env scope C)) (Pst P hb X0 c' s' fun y σ => K (some y) σ) E0 s3
          else ∃ c3 : Cf, K Option.none c3.σ ∧ Good P hb c3 s3.heap ∧ Stp X0 c' s'.heap c3 s3.heap ∧ Rst s' s3) E0 s')
    (fin : ∀ (c1 c' : Cf) (s1 s' : Shared) (l C : Addr) (ys : List AV), Stp X0 c s.heap c1 s1.heap → Rst s s1 → Q (.list ys) c'.σ → Good P hb c' s'.heap → Stp X0 c1 s1.heap c' s'.heap → Rst s1 s' → VR P c'.F c'.as (.ref l) (.list ys) → (∃ m, s'.heap.Ns C m) → Priv c' C → s1.heap.get? C = none → R (.ref l) C (.ok .next) s') :
    wpAny (model prog w) A (eval (.Call (.Name "range" p) [cn] [] p2) env) (fun xv s₁ => wpAny (model prog w) A (pyIter xv) (fun it s₂ => wpAny (model prog w) A (newList []) (fun acc s₃ =>
      wpAny (model prog w) A (newFunctionEnv scope env.globals (clFrom env.cells scope.names []) [] env.qual none .none (some env)) (fun cenv s₄ =>
        codeAny (model prog w) A (.compStart (.ListComp celt [⟨.Name (nm x) px, .Call (.Name "range" p) [cn] [] p2, ifs, 0⟩] scope pos) 0 it acc { cenv with scope := relabel scope env }) (R acc cenv.locals) s₄) E0 s₃) E0 s₂) E0 s₁) E0 s := by
  refine wpAny_Call_NameR (bname_snd ok W G (by decide) hk W.range (callW_snd (hb := hb) (.cons h1 .nil) (machine_looks rfl) ?_))
  refine spliced_cons (se_then hit h1 a ok f G h fun v s1 c1 d q G1 S1 R1 V1 f1 => spliced_nil ⟨G1.keep, ?_⟩)
  cases d with
  | int n =>
    obtain ⟨q0, q1, q2⟩ := q
    obtain ⟨t, rfl⟩ := vr_int V1
    refine iter_range q1 G1 (fun I h' tk fI kp src => ?_) (by omega)
    exact comp_core (s0 := s1) (s := { s1 with heap := h', toks := tk }) a.h ok co f1 kp fI ⟨rfl, rfl, rfl⟩ (G1.grown kp) src (Priv.fresh G1 fI) q2 turn fun c' s' l C ys q' G' S' R' V' N' pC fC => fin c1 c' s1 s' l C ys S1 R1 q' G' S' R' V' N' pC fC
  | _ => exact q.elim

theorem turn_plain {A : Around} {env : Env} {sc : Sc} {scope : Scope} {x : Nat} {fvs : List Nat} {elt : ME} {celt : PySem.Expr} {ρ : Rho} (helt : SE P prog w hb D Φ elt) (h2 : CE (relab sc scope.names) elt celt) (a : AOk (D + 1) A) (ok : EnvOk env sc) (co : CompOk sc scope x fvs) :
    ∀ (C : Addr) (d : AV) (K : Option AV → Sto → Prop) (c' : Cf) (s' : Shared), (fun d K σ2 => mev Φ elt (fun y σ3 => K (some y) σ3) (upd (restr fvs ρ) x d) σ2) d K c'.σ → Good P hb c' s'.heap → Frm P (cenvOf env scope C) c' s'.heap (upd (restr fvs ρ) x d) →
      wpAny (model prog w) A (forIn ([] : List PySem.Expr) true fun c r => if r = true then do let ok ← isTrue c (cenvOf env scope C) (eval c (cenvOf env scope C)); pure (ForInStep.yield ok) else pure (ForInStep.yield r))
        (fun t s3 => if t = true then wpAny (model prog w) A (eval celt (cenvOf env scope C)) (Pst P hb X0 c' s' fun y σ => K (some y) σ) E0 s3
          else ∃ c3 : Cf, K Option.none c3.σ ∧ Good P hb c3 s3.heap ∧ Stp X0 c' s'.heap c3 s3.heap ∧ Rst s' s3) E0 s' := by
  intro C d K c' s' q G' f'
  refine wpAny_tests_nil ?_
  rw [if_pos rfl]
  exact helt _ _ h2 A _ c' s' _ _ a (cenv_ok ok co C) f' G' q
theorem turn_if {A : Around} {env : Env} {sc : Sc} {scope : Scope} {x : Nat} {fvs : List Nat} {elt cnd : ME} {celt ccnd : PySem.Expr} {ρ : Rho} (hcnd : ST P prog w hb D Φ cnd) (h3 : CE (relab sc scope.names) cnd ccnd) (helt : SE P prog w hb D Φ elt) (h2 : CE (relab sc scope.names) elt celt) (a : AOk (D + 1) A) (ok : EnvOk env sc) (co : CompOk sc scope x fvs) :
    ∀ (C : Addr) (d : AV) (K : Option AV → Sto → Prop) (c' : Cf) (s' : Shared), (fun d K σ2 => mev Φ cnd (fun t σ3 => onB (tru σ3 t) fun b =>
          if b = true then mev Φ elt (fun y σ4 => K (some y) σ4) (upd (restr fvs ρ) x d) σ3 else K Option.none σ3) (upd (restr fvs ρ) x d) σ2) d K c'.σ → Good P hb c' s'.heap → Frm P (cenvOf env scope C) c' s'.heap (upd (restr fvs ρ) x d) →
      wpAny (model prog w) A (forIn ([ccnd] : List PySem.Expr) true fun c r => if r = true then do let ok ← isTrue c (cenvOf env scope C) (eval c (cenvOf env scope C)); pure (ForInStep.yield ok) else pure (ForInStep.yield r))
        (fun t s3 => if t = true then wpAny (model prog w) A (eval celt (cenvOf env scope C)) (Pst P hb X0 c' s' fun y σ => K (some y) σ) E0 s3
          else ∃ c3 : Cf, K Option.none c3.σ ∧ Good P hb c3 s3.heap ∧ Stp X0 c' s'.heap c3 s3.heap ∧ Rst s' s3) E0 s' := by
  intro C d K c' s' q G' f'
  refine wpAny_tests_one (st_then hcnd h3 a (cenv_ok ok co C) f' G' (Q := fun b σ3 => if b = true then mev Φ elt (fun y σ4 => K (some y) σ4) (upd (restr fvs ρ) x d) σ3 else K Option.none σ3) q fun b s1 c1 q1 G1 S1 R1 f1 => ?_)
  cases b with
  | true =>
    rw [if_pos rfl]
    refine wpAny_mono (helt _ _ h2 A _ c1 s1 _ _ a (cenv_ok ok co C) f1 G1 (by rw [if_pos rfl] at q1; exact q1)) (fun _ _ p => Pst.after S1 R1 p) fun _ _ z => z
  | false =>
    rw [if_neg (by decide)]
    rw [if_neg (by decide)] at q1
    exact ⟨c1, q1, G1, S1, R1⟩

theorem se_comp {x : Nat} {fvs : List Nat} {it elt : ME} (hit : SE P prog w hb D Φ it) (helt : SE P prog w hb D Φ elt) : SE P prog w hb D Φ (.comp x fvs it elt) := by
  intro sc ce ck A env c s ρ Q a ok f G h
  obtain ⟨_, _, _, _, _, co, h1, h2, rfl⟩ := ck.inv
  rw [v_comp] at h
  rw [eval_ListComp]
  refine wpAny_comprehension_free (use := none) rfl (h1.noSet env) (comp_clos ok co f) co.kind co.names ?_
  refine comp_list (R := fun acc C => compPost (model prog w) A E0 none (Pst P hb X0 c s Q) acc C) hit h1 a ok co f G h (turn_plain helt h2 a ok co) fun c1 c' s1 s' l C ys S1 R1 q G' S' R' V' N' pC fC => ?_
  obtain ⟨m, N'⟩ := N'
  exact ⟨m, N', fun h' sb => comp_end S1 R1 q G' S' R' V' pC fC h' sb⟩
theorem se_compIf {x : Nat} {fvs : List Nat} {it cnd elt : ME} (hit : SE P prog w hb D Φ it) (hcnd : ST P prog w hb D Φ cnd) (helt : SE P prog w hb D Φ elt) : SE P prog w hb D Φ (.compIf x fvs it cnd elt) := by
  intro sc ce ck A env c s ρ Q a ok f G h
  obtain ⟨_, _, _, _, _, _, co, h1, h3, h2, rfl⟩ := ck.inv
  rw [v_compIf] at h
  rw [eval_ListComp]
  refine wpAny_comprehension_free (use := none) rfl (h1.noSet env) (comp_clos ok co f) co.kind co.names ?_
  refine comp_list (R := fun acc C => compPost (model prog w) A E0 none (Pst P hb X0 c s Q) acc C) hit h1 a ok co f G h (turn_if hcnd h3 helt h2 a ok co) fun c1 c' s1 s' l C ys S1 R1 q G' S' R' V' N' pC fC => ?_
  obtain ⟨m, N'⟩ := N'
  exact ⟨m, N', fun h' sb => comp_end S1 R1 q G' S' R' V' pC fC h' sb⟩
theorem se_compR (W : Wd P prog w hb mg mb) {x : Nat} {fvs : List Nat} {n elt : ME} (hn : SE P prog w hb D Φ n) (helt : SE P prog w hb D Φ elt) : SE P prog w hb D Φ (.compR x fvs n elt) := by
  intro sc ce ck A env c s ρ Q a ok f G h
  obtain ⟨_, _, _, _, _, _, _, co, hk, h1, h2, rfl⟩ := ck.inv
  rw [v_compR] at h
  rw [eval_ListComp]
  refine wpAny_comprehension_free (use := none) rfl (fun _ => rfl) (comp_clos ok co f) co.kind co.names ?_
  refine comp_range W (R := fun acc C => compPost (model prog w) A E0 none (Pst P hb X0 c s Q) acc C) hn h1 hk a ok co f G h (turn_plain helt h2 a ok co) fun c1 c' s1 s' l C ys S1 R1 q G' S' R' V' N' pC fC => ?_
  obtain ⟨m, N'⟩ := N'
  exact ⟨m, N', fun h' sb => comp_end S1 R1 q G' S' R' V' pC fC h' sb⟩
end

end Mine
end
/-! Snd8 -/
section
open PySem.Calls
namespace Mine

section
variable {P : Par} {prog : Program} {w : World} {hb : Heap} {mg mb : Str → Option Value} {D : Nat} {Φ : Tab}

mutual
theorem snd (W : Wd P prog w hb mg mb) (T : TabOk P prog w hb D Φ) : ∀ e : ME, SE P prog w hb D Φ e ∧ ST P prog w hb D Φ e
  | .name x => ⟨se_name x, st_of_se (se_name x) fun _ _ ck => ck.hi rfl⟩
  | .glob x => ⟨se_glob W x, st_of_se (se_glob W x) fun _ _ ck => ck.hi rfl⟩
  | .fnv x => ⟨se_fnv W x, st_of_se (se_fnv W x) fun _ _ ck => ck.hi rfl⟩
  | .cint x => ⟨se_cint x, st_of_se (se_cint x) fun _ _ ck => ck.hi rfl⟩
  | .cstr x => ⟨se_cstr x, st_of_se (se_cstr x) fun _ _ ck => ck.hi rfl⟩
  | .cbool x => ⟨se_cbool x, st_of_se (se_cbool x) fun _ _ ck => ck.hi rfl⟩
  | .cnone => ⟨se_cnone, st_of_se se_cnone fun _ _ ck => ck.hi rfl⟩
  | .tup es => ⟨se_tup (snds W T es).1, st_of_se (se_tup (snds W T es).1) fun _ _ ck => ck.hi rfl⟩
  | .lst es => ⟨se_lst (snds W T es).1, st_of_se (se_lst (snds W T es).1) fun _ _ ck => ck.hi rfl⟩
  | .lstM => ⟨se_lstM, st_of_se se_lstM fun _ _ ck => ck.hi rfl⟩
  | .bin op a b => ⟨se_bin (snd W T a).1 (snd W T b).1, st_of_se (se_bin (snd W T a).1 (snd W T b).1) fun _ _ ck => ck.hi rfl⟩
  | .neg a => ⟨se_neg (snd W T a).1, st_of_se (se_neg (snd W T a).1) fun _ _ ck => ck.hi rfl⟩
  | .cmp op a b => ⟨se_cmp (snd W T a).1 (snd W T b).1, st_cmp (snd W T a).1 (snd W T b).1⟩
  | .not a => ⟨se_not (snd W T a).1, st_not (snd W T a).2⟩
  | .and es => ⟨se_and (snds W T es).2.1, st_and (snds W T es).2.1⟩
  | .or es => ⟨se_or (snds W T es).2.2, st_or (snds W T es).2.2⟩
  | .ife c a b => ⟨se_ife (snd W T c).2 (snd W T a).1 (snd W T b).1, st_ife (snd W T c).2 (snd W T a).2 (snd W T b).2⟩
  | .idx a b => ⟨se_idx (snd W T a).1 (snd W T b).1, st_of_se (se_idx (snd W T a).1 (snd W T b).1) fun _ _ ck => ck.hi rfl⟩
  | .upto a b => by
    have h : SE P prog w hb D Φ (.upto a b) := by
      intro sc ce ck
      have ck' := ck
      obtain ⟨_, _, _, _, _, rfl, hd, h2, rfl⟩ := ck.inv
      exact se_upto (snd W T b).1 sc _ ck'
    exact ⟨h, st_of_se h fun _ _ ck => ck.hi rfl⟩
  | .uptoM a b => by
    have h : SE P prog w hb D Φ (.uptoM a b) := by
      intro sc ce ck
      have ck' := ck
      obtain ⟨_, _, _, _, _, rfl, hd, h2, rfl⟩ := ck.inv
      exact se_uptoM (snd W T b).1 sc _ ck'
    exact ⟨h, st_of_se h fun _ _ ck => ck.hi rfl⟩
  | .from a b => by
    have h : SE P prog w hb D Φ (.from a b) := by
      intro sc ce ck
      have ck' := ck
      obtain ⟨_, _, _, _, _, rfl, hd, h2, rfl⟩ := ck.inv
      exact se_from (snd W T b).1 sc _ ck'
    exact ⟨h, st_of_se h fun _ _ ck => ck.hi rfl⟩
  | .rev a => by
    have h : SE P prog w hb D Φ (.rev a) := by
      intro sc ce ck
      have ck' := ck
      obtain ⟨_, _, _, _, _, _, _, rfl, hd, rfl⟩ := ck.inv
      exact se_rev sc _ ck'
    exact ⟨h, st_of_se h fun _ _ ck => ck.hi rfl⟩
  | .kind a => ⟨se_kind W (snd W T a).1, st_of_se (se_kind W (snd W T a).1) fun _ _ ck => ck.hi rfl⟩
  | .items a => ⟨se_items W (snd W T a).1, st_of_se (se_items W (snd W T a).1) fun _ _ ck => ck.hi rfl⟩
  | .call f es => ⟨se_call W T (snds W T es).1, st_of_se (se_call W T (snds W T es).1) fun _ _ ck => ck.hi rfl⟩
  | .callV x es => ⟨se_callV W T (snds W T es).1, st_of_se (se_callV W T (snds W T es).1) fun _ _ ck => ck.hi rfl⟩
  | .vector a b => ⟨se_vector W (snd W T a).1 (snd W T b).1, st_of_se (se_vector W (snd W T a).1 (snd W T b).1) fun _ _ ck => ck.hi rfl⟩
  | .len a => ⟨se_len W (snd W T a).1, st_of_se (se_len W (snd W T a).1) fun _ _ ck => ck.hi rfl⟩
  | .abs a => ⟨se_abs W (snd W T a).1, st_of_se (se_abs W (snd W T a).1) fun _ _ ck => ck.hi rfl⟩
  | .listOf a => ⟨se_listOf W (snd W T a).1, st_of_se (se_listOf W (snd W T a).1) fun _ _ ck => ck.hi rfl⟩
  | .pop x => ⟨se_pop, st_of_se se_pop fun _ _ ck => ck.hi rfl⟩
  | .comp x fvs it elt => ⟨se_comp (snd W T it).1 (snd W T elt).1, st_of_se (se_comp (snd W T it).1 (snd W T elt).1) fun _ _ ck => ck.hi rfl⟩
  | .compIf x fvs it c elt => ⟨se_compIf (snd W T it).1 (snd W T c).2 (snd W T elt).1, st_of_se (se_compIf (snd W T it).1 (snd W T c).2 (snd W T elt).1) fun _ _ ck => ck.hi rfl⟩
  | .compR x fvs n elt => ⟨se_compR W (snd W T n).1 (snd W T elt).1, st_of_se (se_compR W (snd W T n).1 (snd W T elt).1) fun _ _ ck => ck.hi rfl⟩
  | .freeze e => ⟨se_freeze, st_of_se se_freeze fun _ _ ck => ck.hi rfl⟩
theorem snds (W : Wd P prog w hb mg mb) (T : TabOk P prog w hb D Φ) : ∀ es : MEs, SEs P prog w hb D Φ es ∧ SAnd P prog w hb D Φ es ∧ SOr P prog w hb D Φ es
  | .nil => ⟨ses_nil, sand_nil, sor_nil⟩
  | .cons e .nil => ⟨ses_cons (snd W T e).1 ses_nil, sand_one (snd W T e).1 (snd W T e).2, sor_one (snd W T e).1 (snd W T e).2⟩
  | .cons e (.cons g es) => ⟨ses_cons (snd W T e).1 (snds W T (.cons g es)).1, sand_cons (snd W T e).1 (snd W T e).2 (snds W T (.cons g es)).2.1, sor_cons (snd W T e).1 (snd W T e).2 (snds W T (.cons g es)).2.2⟩
end
end

end Mine
end
/-! Snd9 -/
section
open PySem.Calls
namespace Mine

noncomputable def tgt (sc : Sc) (x : Nat) : Prop := sc.lookup (nm x) = some .local ∨ sc.lookup (nm x) = some .cell
noncomputable def noComp : PySem.Expr → Bool
  | .ListComp .. => false
  | .SetComp .. => false
  | .DictComp .. => false
  | _ => true
noncomputable def noTup : PySem.Expr → Bool
  | .Tuple .. => false
  | _ => true

/-- the stores of «x, y = (a, b)» stand swapped -/
noncomputable def swapOk (sc : Sc) (x y : Nat) (ts : List PySem.Expr) (v : PySem.Expr) : Prop :=
  ∀ env : Env, EnvOk env sc → swappedStores ts v env = pure (some [nm x, nm y])

mutual
inductive CS : Sc → MS → Stmt → Prop
  | assign {sc x e ce p pos} : tgt sc x → noComp ce = true → CE sc e ce → CS sc (.assign x e) (.Assign [.Name (nm x) p] ce pos)
  | assignC {sc x e celt gens scope cpos p pos} : sc.lookup (nm x) = some .local → (p.line == cpos.line && !(scope.names.any fun (n, k) => n == nm x && (k == .local || k == .cell))) = true → CE sc e (.ListComp celt gens scope cpos) →
      CS sc (.assignC x e) (.Assign [.Name (nm x) p] (.ListComp celt gens scope cpos) pos)
  | unpack2 {sc x y e ce p1 p2 k p3 pos} : tgt sc x → tgt sc y → noComp ce = true → noTup ce = true → CE sc e ce → CS sc (.unpack2 x y e) (.Assign [.Tuple [.Name (nm x) p1, .Name (nm y) p2] k p3] ce pos)
  | swap2 {sc x y a b ca cb p1 p2 k p3 k2 p4 pos} : tgt sc x → tgt sc y → swapOk sc x y [.Tuple [.Name (nm x) p1, .Name (nm y) p2] k p3] (.Tuple [ca, cb] k2 p4) → CE sc a ca → CE sc b cb →
      CS sc (.swap2 x y a b) (.Assign [.Tuple [.Name (nm x) p1, .Name (nm y) p2] k p3] (.Tuple [ca, cb] k2 p4) pos)
  | aug {sc x e ce p pos} : tgt sc x → CE sc e ce → CS sc (.aug x e) (.AugAssign (.Name (nm x) p) .Add ce pos)
  | append {sc x e ce p ap cpos pos} : dbg (nm x) → (ap.endLine == cpos.line) = true → CE sc e ce → CS sc (.append x e) (.Expr (.Call (.Attribute (.Name (nm x) p) "append" ap) [ce] [] cpos) pos)
  | reverse {sc x p ap cpos pos} : dbg (nm x) → (ap.endLine == cpos.line) = true → CS sc (.reverse x) (.Expr (.Call (.Attribute (.Name (nm x) p) "reverse" ap) [] [] cpos) pos)
  | expr {sc e ce pos} : noComp ce = true → CE sc e ce → CS sc (.expr e) (.Expr ce pos)
  | ret {sc e ce pos} : CE sc e ce → CS sc (.ret e) (.Return (some ce) pos)
  | ite {sc c s t cc cs ct pos} : CE sc c cc → CSs sc s cs → CSs sc t ct → CS sc (.ite c s t) (.If cc cs ct pos)
  | for {sc x it body cit cb p pos} : tgt sc x → CE sc it cit → CSs sc body cb → CS sc (.for x it body) (.For (.Name (nm x) p) cit cb [] pos)
  | forR {sc x n body cn cb p p1 p2 pos} : tgt sc x → sc.lookup ("range" : Str) = some .globalImplicit → CE sc n cn → CSs sc body cb → CS sc (.forR x n body) (.For (.Name (nm x) p) (.Call (.Name "range" p1) [cn] [] p2) cb [] pos)
  | while {sc c body cc cb pos} : CE sc c cc → CSs sc body cb → CS sc (.while c body) (.While cc cb [] pos)
  | brk {sc pos} : CS sc .brk (.Break pos)
  | raise {sc st} : CS sc .raise st
inductive CSs : Sc → MSs → List Stmt → Prop
  | nil {sc} : CSs sc .nil []
  | cons {sc s ss c cs} : CS sc s c → CSs sc ss cs → CSs sc (.cons s ss) (c :: cs)
  | gfreeze {sc x ss cs} : CSs sc ss cs → CSs sc (.gfreeze x ss) cs
end
noncomputable def CSinv (sc : Sc) : MS → Stmt → Prop
  | .assign x e, cz => ∃ ce p pos, (tgt sc x) ∧ (noComp ce = true) ∧ (CE sc e ce) ∧ cz = .Assign [.Name (nm x) p] ce pos
  | .assignC x e, cz => ∃ celt gens scope cpos p pos, (sc.lookup (nm x) = some .local) ∧ ((p.line == cpos.line && !(scope.names.any fun (n, k) => n == nm x && (k == .local || k == .cell))) = true) ∧ (CE sc e (.ListComp celt gens scope cpos)) ∧ cz = .Assign [.Name (nm x) p] (.ListComp celt gens scope cpos) pos
  | .unpack2 x y e, cz => ∃ ce p1 p2 k p3 pos, (tgt sc x) ∧ (tgt sc y) ∧ (noComp ce = true) ∧ (noTup ce = true) ∧ (CE sc e ce) ∧ cz = .Assign [.Tuple [.Name (nm x) p1, .Name (nm y) p2] k p3] ce pos
  | .swap2 x y a b, cz => ∃ ca cb p1 p2 k p3 k2 p4 pos, (tgt sc x) ∧ (tgt sc y) ∧ (swapOk sc x y [.Tuple [.Name (nm x) p1, .Name (nm y) p2] k p3] (.Tuple [ca, cb] k2 p4)) ∧ (CE sc a ca) ∧ (CE sc b cb) ∧ cz = .Assign [.Tuple [.Name (nm x) p1, .Name (nm y) p2] k p3] (.Tuple [ca, cb] k2 p4) pos
  | .aug x e, cz => ∃ ce p pos, (tgt sc x) ∧ (CE sc e ce) ∧ cz = .AugAssign (.Name (nm x) p) .Add ce pos
  | .append x e, cz => ∃ ce p ap cpos pos, (dbg (nm x)) ∧ ((ap.endLine == cpos.line) = true) ∧ (CE sc e ce) ∧ cz = .Expr (.Call (.Attribute (.Name (nm x) p) "append" ap) [ce] [] cpos) pos
  | .reverse x, cz => ∃ p ap cpos pos, (dbg (nm x)) ∧ ((ap.endLine == cpos.line) = true) ∧ cz = .Expr (.Call (.Attribute (.Name (nm x) p) "reverse" ap) [] [] cpos) pos
  | .expr e, cz => ∃ ce pos, (noComp ce = true) ∧ (CE sc e ce) ∧ cz = .Expr ce pos
  | .ret e, cz => ∃ ce pos, (CE sc e ce) ∧ cz = .Return (some ce) pos
  | .ite c s t, cz => ∃ cc cs ct pos, (CE sc c cc) ∧ (CSs sc s cs) ∧ (CSs sc t ct) ∧ cz = .If cc cs ct pos
  | .for x it body, cz => ∃ cit cb p pos, (tgt sc x) ∧ (CE sc it cit) ∧ (CSs sc body cb) ∧ cz = .For (.Name (nm x) p) cit cb [] pos
  | .forR x n body, cz => ∃ cn cb p p1 p2 pos, (tgt sc x) ∧ (sc.lookup ("range" : Str) = some .globalImplicit) ∧ (CE sc n cn) ∧ (CSs sc body cb) ∧ cz = .For (.Name (nm x) p) (.Call (.Name "range" p1) [cn] [] p2) cb [] pos
  | .while c body, cz => ∃ cc cb pos, (CE sc c cc) ∧ (CSs sc body cb) ∧ cz = .While cc cb [] pos
  | .brk, cz => ∃ pos, cz = .Break pos
  | .raise, cz => True
theorem CS.inv {sc e ce} (h : CS sc e ce) : CSinv sc e ce := by
  cases h with
  | assign h0 h1 h2 => exact ⟨_, _, _, h0, h1, h2, rfl⟩
  | assignC h0 h1 h2 => exact ⟨_, _, _, _, _, _, h0, h1, h2, rfl⟩
  | unpack2 h0 h1 h2 h3 h4 => exact ⟨_, _, _, _, _, _, h0, h1, h2, h3, h4, rfl⟩
  | swap2 h0 h1 h2 h3 h4 => exact ⟨_, _, _, _, _, _, _, _, _, h0, h1, h2, h3, h4, rfl⟩
  | aug h0 h1 => exact ⟨_, _, _, h0, h1, rfl⟩
  | append h0 h1 h2 => exact ⟨_, _, _, _, _, h0, h1, h2, rfl⟩
  | reverse h0 h1 => exact ⟨_, _, _, _, h0, h1, rfl⟩
  | expr h0 h1 => exact ⟨_, _, h0, h1, rfl⟩
  | ret h0 => exact ⟨_, _, h0, rfl⟩
  | ite h0 h1 h2 => exact ⟨_, _, _, _, h0, h1, h2, rfl⟩
  | «for» h0 h1 h2 => exact ⟨_, _, _, _, h0, h1, h2, rfl⟩
  | forR h0 h1 h2 h3 => exact ⟨_, _, _, _, _, _, h0, h1, h2, h3, rfl⟩
  | «while» h0 h1 => exact ⟨_, _, _, h0, h1, rfl⟩
  | brk => exact ⟨_, rfl⟩
  | raise => exact trivial

section
variable {P : Par} {prog : Program} {w : World} {hb : Heap} {mg mb : Str → Option Value} {D : Nat} {Φ : Tab}

inductive FlR (P : Par) (c : Cf) : Flow → Fl → Prop
  | next : FlR P c .next .next
  | brk : FlR P c .brk .brk
  | ret {v : Value} {d : AV} : VR P c.F c.as v d → FlR P c (.ret v) (.ret d)

/-- the end of a statement -/
noncomputable def PstS (P : Par) (hb : Heap) (env : Env) (c : Cf) (s : Shared) (Q : Fl → Rho → Sto → Prop) (fl : Flow) (s' : Shared) : Prop :=
  ∃ (c' : Cf) (f : Fl) (ρ' : Rho), Q f ρ' c'.σ ∧ Good P hb c' s'.heap ∧ Stp (Own env) c s.heap c' s'.heap ∧ Rst s s' ∧ Frm P env c' s'.heap ρ' ∧ FlR P c' fl f
theorem PstS.after {env : Env} {c c1 : Cf} {s s1 : Shared} {Q : Fl → Rho → Sto → Prop} (S : Stp (Own env) c s.heap c1 s1.heap) (R : Rst s s1) {fl : Flow} {s2 : Shared} (p : PstS P hb env c1 s1 Q fl s2) : PstS P hb env c s Q fl s2 := by
  obtain ⟨c2, f, ρ', q, G, S2, R2, F2, L2⟩ := p
  exact ⟨c2, f, ρ', q, G, S.trans S2, R.trans R2, F2, L2⟩
theorem Stp.own {env : Env} {c c' : Cf} {h h' : Heap} (S : Stp X0 c h c' h') : Stp (Own env) c h c' h' := S.weaken fun _ _ z => z.elim

noncomputable def SSt (P : Par) (prog : Program) (w : World) (hb : Heap) (D : Nat) (Φ : Tab) (m : MS) : Prop :=
  ∀ (sc : Sc) (cs : Stmt), CS sc m cs → ∀ (A : Around) (env : Env) (c : Cf) (s : Shared) (ρ : Rho) (Q : Fl → Rho → Sto → Prop), AOk (D + 1) A → EnvOk env sc → Frm P env c s.heap ρ → Good P hb c s.heap → mwp Φ m Q ρ c.σ →
    wpAny (model prog w) A (exec cs env) (PstS P hb env c s Q) E0 s
noncomputable def SSs (P : Par) (prog : Program) (w : World) (hb : Heap) (D : Nat) (Φ : Tab) (m : MSs) : Prop :=
  ∀ (sc : Sc) (cs : List Stmt), CSs sc m cs → ∀ (A : Around) (env : Env) (c : Cf) (s : Shared) (ρ : Rho) (Q : Fl → Rho → Sto → Prop), AOk (D + 1) A → EnvOk env sc → Frm P env c s.heap ρ → Good P hb c s.heap → mwps Φ m Q ρ c.σ →
    wpAny (model prog w) A (execs cs env) (PstS P hb env c s Q) E0 s

/-- a name is stored -/
theorem store_snd {A : Around} {env : Env} {sc : Sc} {c : Cf} {s : Shared} {ρ : Rho} {x : Nat} {v : Value} {d : AV} {K : Unit → Shared → Prop} (ok : EnvOk env sc) (ht : tgt sc x) (f : Frm P env c s.heap ρ) (G : Good P hb c s.heap) (V : VR P c.F c.as v d)
    (k : ∀ s1 : Shared, Good P hb c s1.heap → Stp (Own env) c s.heap c s1.heap → Rst s s1 → Frm P env c s1.heap (upd ρ x d) → K () s1) : wpAny (model prog w) A (storeName env (nm x) v) K E0 s := by
  have hk : (env.scope.kind == .class || (env.scope.kind == .module && env.locals != env.globals)) = false := by rw [ok.kind]; rfl
  rcases ht with ht | ht
  · have hkx : env.kindOf (nm x) = some .local := by rw [ok.kindOf]; exact ht
    obtain ⟨m, N, r⟩ := f.ns
    refine wpAny_storeName_local hkx N (fun h' N' sb => ?_) hk
    have kp : ∀ a o, a ≠ env.locals → s.heap.get? a = some o → h'.get? a = some o := fun a o ne e => sb.extBut a o ne e
    have lv : h'.get? env.locals ≠ none := by obtain ⟨o, _, _, e, _⟩ := N'; rw [e]; simp
    have pL : Priv c env.locals := ⟨(f.own _ (.inl rfl)).2, (f.own _ (.inl rfl)).1⟩
    have S : Stp (Own env) c s.heap c h' := Stp.but kp (.inl rfl) lv
    refine k _ (G.but pL kp) S ⟨rfl, rfl, rfl⟩ ⟨⟨_, N', fun y e ey ky => ?_⟩, fun y e ey ky => ?_, fun y e ey => ?_, fun n a e => ?_, f.has, f.inj, own_stp f S, f.neL⟩
    · by_cases ne : y = x
      · subst ne
        rw [upd_same] at ey; cases ey
        exact ⟨v, by simp, V⟩
      · rw [upd_ne ne] at ey
        obtain ⟨u, e1, U⟩ := r y e ey ky
        exact ⟨u, by rw [if_neg (fun z => ne (nm_inj z))]; exact e1, U⟩
    · by_cases ne : y = x
      · subst ne; rw [hkx] at ky; cases ky
      · rw [upd_ne ne] at ey
        obtain ⟨a, u, e1, ⟨o, e2, e3⟩, U⟩ := f.cell y e ey ky
        exact ⟨a, u, e1, ⟨o, kp a o (f.neL _ _ e1) e2, e3⟩, U⟩
    · by_cases ne : y = x
      · subst ne; exact .inl hkx
      · rw [upd_ne ne] at ey; exact f.kind y e ey
    · obtain ⟨u, o, e2, e3⟩ := f.cells n a e
      exact ⟨u, o, kp a o (f.neL _ _ e) e2, e3⟩
  · have hkx : env.kindOf (nm x) = some .cell := by rw [ok.kindOf]; exact ht
    obtain ⟨b, hbk⟩ := f.has _ hkx
    obtain ⟨v0, C0⟩ := f.cells _ _ hbk
    refine wpAny_storeName_cell ok.kind hkx hbk C0 fun h' C' sb => ?_
    have kp : ∀ a o, a ≠ b → s.heap.get? a = some o → h'.get? a = some o := fun a o ne e => sb.extBut a o ne e
    have lv : h'.get? b ≠ none := by obtain ⟨o, e, _⟩ := C'; rw [e]; simp
    have ow : Own env b := .inr ⟨_, hbk⟩
    have pL : Priv c b := ⟨(f.own _ ow).2, (f.own _ ow).1⟩
    have S : Stp (Own env) c s.heap c h' := Stp.but kp ow lv
    refine k _ (G.but pL kp) S ⟨rfl, rfl, rfl⟩ ⟨?_, fun y e ey ky => ?_, fun y e ey => ?_, fun n a e => ?_, f.has, f.inj, own_stp f S, f.neL⟩
    · obtain ⟨m, ⟨o, a1, a2, e, r1⟩, r⟩ := f.ns
      refine ⟨m, ⟨o, a1, a2, kp _ o (Ne.symm (f.neL _ _ hbk)) e, r1⟩, fun y e ey ky => ?_⟩
      by_cases ne : y = x
      · subst ne; rw [hkx] at ky; cases ky
      · rw [upd_ne ne] at ey
        exact r y e ey ky
    · by_cases ne : y = x
      · subst ne
        rw [upd_same] at ey; cases ey
        exact ⟨b, v, hbk, C', V⟩
      · rw [upd_ne ne] at ey
        obtain ⟨a, u, e1, ⟨o, e2, e3⟩, U⟩ := f.cell y e ey ky
        exact ⟨a, u, e1, ⟨o, kp a o (fun z => ne (nm_inj (f.inj _ _ _ e1 (z ▸ hbk)))) e2, e3⟩, U⟩
    · by_cases ne : y = x
      · subst ne; exact .inr hkx
      · rw [upd_ne ne] at ey; exact f.kind y e ey
    · by_cases z : a = b
      · rw [z]; exact ⟨_, C'⟩
      · obtain ⟨u, o, e2, e3⟩ := f.cells n a e
        exact ⟨u, o, kp a o z e2, e3⟩

theorem noComp_swaps {ce : PySem.Expr} (h : noComp ce = true) (t : Option PySem.Expr) (n : Nat) (env : Env) : swapsWith ce t n env = pure false := by
  unfold swapsWith
  cases ce <;> first | rfl | cases h
theorem noComp_sole {ce : PySem.Expr} (h : noComp ce = true) (ts : List PySem.Expr) (n : Nat) (env : Env) : swapsWithSole ts ce n env = pure false := by
  unfold swapsWithSole
  split
  · exact noComp_swaps h _ _ _
  · rfl

theorem ss_assign {x : Nat} {e : ME} (he : SE P prog w hb D Φ e) : SSt P prog w hb D Φ (.assign x e) := by
  intro sc cs ck A env c s ρ Q a ok f G h
  obtain ⟨_, _, _, ht, hn, h1, rfl⟩ := ck.inv
  rw [x_assign] at h
  refine wpAny_Assign_Name (se_then he h1 a ok f G h fun v s1 c1 d q G1 S1 R1 V1 f1 => ?_) (noComp_swaps hn _ _ _)
  exact store_snd ok ht f1 G1 V1 fun s2 G2 S2 R2 f2 => ⟨c1, .next, _, q, G2, S1.own.trans S2, R1.trans R2, f2, .next⟩
theorem ss_expr {e : ME} (he : SE P prog w hb D Φ e) : SSt P prog w hb D Φ (.expr e) := by
  intro sc cs ck A env c s ρ Q a ok f G h
  obtain ⟨_, _, hn, h1, rfl⟩ := ck.inv
  rw [x_expr] at h
  refine wpAny_Expr_any (se_then he h1 a ok f G h fun v s1 c1 d q G1 S1 R1 V1 f1 => ⟨c1, .next, ρ, q, G1, S1.own, R1, f1, .next⟩) ?_ (noComp_swaps hn _ _ _)
  unfold interactive
  rw [ok.kind]; rfl
theorem ss_ret {e : ME} (he : SE P prog w hb D Φ e) : SSt P prog w hb D Φ (.ret e) := by
  intro sc cs ck A env c s ρ Q a ok f G h
  obtain ⟨_, _, h1, rfl⟩ := ck.inv
  rw [x_ret] at h
  exact wpAny_Return_some (se_then he h1 a ok f G h fun v s1 c1 d q G1 S1 R1 V1 f1 => ⟨c1, .ret d, ρ, q, G1, S1.own, R1, f1, .ret V1⟩)
theorem ss_brk : SSt P prog w hb D Φ .brk := by
  intro sc cs ck A env c s ρ Q a ok f G h
  obtain ⟨_, rfl⟩ := ck.inv
  rw [x_brk] at h
  exact wpAny_Break ⟨c, .brk, ρ, h, G, Stp.refl _ _ _, Rst.refl _, f, .brk⟩
theorem ss_raise : SSt P prog w hb D Φ .raise := by
  intro sc cs ck A env c s ρ Q a ok f G h
  rw [x_raise] at h
  exact h.elim
theorem ss_ite {c0 : ME} {s0 t0 : MSs} (hc : ST P prog w hb D Φ c0) (hs : SSs P prog w hb D Φ s0) (ht : SSs P prog w hb D Φ t0) : SSt P prog w hb D Φ (.ite c0 s0 t0) := by
  intro sc cs ck A env c s ρ Q a ok f G h
  obtain ⟨_, _, _, _, h1, h2, h3, rfl⟩ := ck.inv
  rw [x_ite] at h
  refine wpAny_If (st_then hc h1 a ok f G h fun b s1 c1 q G1 S1 R1 f1 => ?_)
  cases b with
  | true =>
    rw [if_pos rfl] at q ⊢
    exact wpAny_mono (hs sc _ h2 A env c1 s1 ρ Q a ok f1 G1 q) (fun _ _ p => PstS.after S1.own R1 p) fun _ _ z => z
  | false =>
    rw [if_neg (by decide)] at q ⊢
    exact wpAny_mono (ht sc _ h3 A env c1 s1 ρ Q a ok f1 G1 q) (fun _ _ p => PstS.after S1.own R1 p) fun _ _ z => z
theorem ss_aug {x : Nat} {e : ME} (he : SE P prog w hb D Φ e) : SSt P prog w hb D Φ (.aug x e) := by
  intro sc cs ck A env c s ρ Q a ok f G h
  obtain ⟨_, _, _, ht, h1, rfl⟩ := ck.inv
  rw [x_aug] at h
  split at h
  · rename_i i ei
    have ld : wpAny (model prog w) A (loadName env (nm x)) (fun v s' => (∃ t, v = .int i t) ∧ s' = s) E0 s := by
      rcases f.kind x _ ei with k | k
      · obtain ⟨m, N, r⟩ := f.ns
        obtain ⟨v, ev, V⟩ := r x _ ei k
        exact wpAny_loadName_local ok.kind k N ev ⟨vr_int V, rfl⟩
      · obtain ⟨b, v, e1, e2, V⟩ := f.cell x _ ei k
        exact wpAny_loadName_cell ok.kind k e1 e2 ⟨vr_int V, rfl⟩
    refine wpAny_AugAssign_Name (wpAny_mono ld (fun v s' hv => ?_) fun _ _ z => z)
    obtain ⟨⟨t, rfl⟩, rfl⟩ := hv
    refine se_then he h1 a ok f G h fun v s1 c1 d q G1 S1 R1 V1 f1 => ?_
    cases d with
    | int j =>
      obtain ⟨t', rfl⟩ := vr_int V1
      refine wpAny_iadd_int ?_
      exact store_snd (s := { s1 with toks := s1.toks + 1 }) ok ht f1 G1 (.int _ _) fun s2 G2 S2 R2 f2 => ⟨c1, .next, _, q, G2, S1.own.trans S2, R1.trans R2, f2, .next⟩
    | _ => exact q.elim
  · exact h.elim

theorem two_Name {env : Env} {x y : Str} {p1 p2 : Pos} : assignEach [.Name x p1, .Name y p2] env = [(false, assign (.Name x p1) env), (false, assign (.Name y p2) env)] := rfl

theorem noTup_swap {ce : PySem.Expr} (h : noTup ce = true) (n1 n2 : Str) (p1 p2 : Pos) (k : Nat) (p3 : Pos) (env : Env) : swappedStores [.Tuple [.Name n1 p1, .Name n2 p2] k p3] ce env = pure none := by
  unfold swappedStores
  cases ce <;> first | rfl | cases h
theorem ss_unpack2 {x y : Nat} {e : ME} (he : SE P prog w hb D Φ e) : SSt P prog w hb D Φ (.unpack2 x y e) := by
  intro sc cs ck A env c s ρ Q a ok f G h
  obtain ⟨_, _, _, _, _, _, hx, hy, hn, hnt, h1, rfl⟩ := ck.inv
  rw [x_unpack2] at h
  refine Assign_Tuple (se_then he h1 a ok f G h fun v s1 c1 d q G1 S1 R1 V1 f1 => ?_) (noComp_sole hn _ _ _) ?_
  · split at q
    · rename_i d1 d2
      obtain ⟨t, vs, rfl, L, U⟩ := tup_at G1 V1
      cases U with
      | cons U1 U' =>
      cases U' with
      | cons U2 U3 =>
      cases U3
      refine wpAny_assign_Tuple a.h L rfl rfl fun h' xb => ?_
      rw [two_Name]
      have kp : ∀ b o, s1.heap.get? b = some o → h'.get? b = some o := fun b o e => xb b o (by rintro rfl; rw [none_size] at e; cases e) e
      have S' : Stp X0 c1 s1.heap c1 h' := Stp.grown kp
      refine wpAny_assignInOrder_more (PyProof.Rows.assign_Name (store_snd (s := { s1 with heap := h' }) ok hx (f1.stp0 S') (G1.grown kp) U1 fun s2 G2 S2 R2 f2 => ?_))
      refine wpAny_assignInOrder_more (PyProof.Rows.assign_Name (store_snd ok hy f2 G2 U2 fun s3 G3 S3 R3 f3 => wpAny_assignInOrder_none ?_))
      exact ⟨c1, .next, _, q, G3, ((S1.own.trans S'.own).trans S2).trans S3, ((R1.trans ⟨rfl, rfl, rfl⟩).trans R2).trans R3, f3, .next⟩
    · exact q.elim
  · exact noTup_swap hnt _ _ _ _ _ _ _
theorem ss_swap2 {x y : Nat} {e g : ME} (he : SE P prog w hb D Φ e) (hg : SE P prog w hb D Φ g) : SSt P prog w hb D Φ (.swap2 x y e g) := by
  intro sc cs ck A env c s ρ Q a ok f G h
  obtain ⟨_, _, _, _, _, _, _, _, _, hx, hy, hw, h1, h2, rfl⟩ := ck.inv
  rw [x_swap2] at h
  refine Assign_Tuple_swapped ?_ (noComp_sole rfl _ _ _) (hw env ok)
  refine wpAny_Tuple_spliced ?_
  rw [(two_args h1 h2).trees]
  refine spliced_cons (se_then he h1 a ok f G h fun v s1 c1 d q G1 S1 R1 V1 f1 => ?_)
  refine spliced_cons (se_then hg h2 a ok f1 G1 q fun u s2 c2 e q2 G2 S2 R2 V2 f2 => spliced_nil ⟨by rw [sizeLine_eq]; simp, ?_⟩)
  have gx : (s2.heap.push { cls := .type "tuple", data := .seq [v, u].toArray }).get? s2.heap.objs.size = some { cls := .type "tuple", data := .seq [v, u].toArray } := Heap.get?_push_size _ rfl
  have kp1 : ∀ b o, s2.heap.get? b = some o → (s2.heap.push { cls := .type "tuple", data := .seq [v, u].toArray }).get? b = some o := keep_push _ _
  refine PyProof.Rows.unpackItems_tuple (items := [v, u].toArray) a.h ⟨_, gx, rfl, _, rfl⟩ fun h' xb => ?_
  have kp : ∀ b o, s2.heap.get? b = some o → h'.get? b = some o := fun b o e => xb b o (by
    rintro rfl
    rw [get_none_of_le (by rw [Heap.size_push]; exact Nat.le_succ _)] at e; cases e) (kp1 b o e)
  have S' : Stp X0 c2 s2.heap c2 h' := Stp.grown kp
  refine wpAny_assignInOrder_more (bindName_ (store_snd (s := { s2 with heap := h' }) ok hy (f2.stp0 S') (G2.grown kp) V2 fun s3 G3 S3 R3 f3 => ?_))
  refine wpAny_assignInOrder_more (bindName_ (store_snd ok hx f3 G3 (S2.vr V1) fun s4 G4 S4 R4 f4 => wpAny_assignInOrder_none ?_))
  exact ⟨c2, .next, _, q2, G4, (((S1.own.trans S2.own).trans S'.own).trans S3).trans S4, (((R1.trans R2).trans ⟨rfl, rfl, rfl⟩).trans R3).trans R4, f4, .next⟩

theorem ss_append {x : Nat} {e : ME} (he : SE P prog w hb D Φ e) : SSt P prog w hb D Φ (.append x e) := by
  intro sc cs ck A env c s ρ Q a ok f G h
  obtain ⟨_, _, _, _, _, hd, hline, h1, rfl⟩ := ck.inv
  rw [x_append] at h
  split at h
  · rename_i n en
    refine wpAny_Expr_any ?_ (by unfold interactive; rw [ok.kind]; rfl) rfl
    refine wpAny_Call_method1_late (attr_base rfl _ _ _) hline ((CEs.cons h1 .nil).trees _ _) ?_
    refine wpAny_mono (name_snd (Q := fun d' σ => d' = .ref n ∧ σ = c.σ) ok f G hd en ⟨rfl, rfl⟩) (fun v s1 ⟨c1, d1, ⟨ed, es⟩, G1, S1, R1, V1⟩ => ?_) fun _ _ z => z
    subst ed
    rw [← es] at h
    cases V1 with
    | @ref l _ ha =>
      have f1 := f.stp0 S1
      have lv := G1.live _ _ ha
      obtain ⟨⟨dz, ez⟩, h⟩ := h
      obtain ⟨nf0, vs0, ⟨k0, e0⟩, U0⟩ := G1.cell _ _ _ ha ez
      refine ⟨"list", "list.append", PySem.F.plainAttrs_list, PySem.F.slot_list_append, PySem.F.type_list_append, ⟨_, e0, rfl⟩, fun b eb => by cases eb; exact ⟨_, e0, rfl⟩, ?_⟩
      refine callWith_builtin rfl (evalArgs_plain (spliced_cons (se_then he h1 a ok f1 G1 h fun u s2 c2 d q G2 S2 R2 V2 f2 => spliced_nil ?_)))
      obtain ⟨ds, e2, hl, q2⟩ := q
      have ha2 := S2.aget _ _ ha
      obtain ⟨nf, vs, L, U⟩ := G2.cell _ _ _ ha2 e2
      have hlen := U.length
      refine wpAny_list_append_plain L (fun h' L' sb => ?_) (by rw [List.size_toArray, hlen]; exact lenB_line hl)
      have kp : ∀ b o, b ≠ l → s2.heap.get? b = some o → h'.get? b = some o := fun b o ne e => sb.extBut b o ne e
      have L'' : h'.PlainList l (vs ++ [u]).toArray := by simpa using L'
      have Sp : Stp X0 c2 s2.heap (c2.put n (some (ds ++ [d]))) h' := Stp.put G2 ha2 kp (by obtain ⟨_, z⟩ := L'; rw [z]; simp)
      exact ⟨_, .next, ρ, q2, G2.put ha2 e2 kp L'' (U.append (.cons V2 .nil)), (S1.trans (S2.trans Sp)).own, (R1.trans R2).trans ⟨rfl, rfl, rfl⟩, f2.stp0 Sp, .next⟩
  · exact h.elim
theorem plain_rev {h : Heap} {l : Addr} {ws : List Value} (L : h.PlainList l ws.toArray) : (h.update l (Obj.mapSeq fun x => x.reverse)).PlainList l ws.reverse.toArray := by
  obtain ⟨n, e⟩ := L
  have u := IsL.update (h := h) (l := l) (items := ws.toArray) (n := n) e (fun x => x.reverse)
  rw [List.reverse_toArray] at u
  exact ⟨_, u⟩
theorem ss_reverse {x : Nat} : SSt P prog w hb D Φ (.reverse x) := by
  intro sc cs ck A env c s ρ Q a ok f G h
  obtain ⟨_, _, _, _, hd, hline, rfl⟩ := ck.inv
  rw [x_reverse] at h
  split at h
  · rename_i n en
    obtain ⟨ds, e1, hl, q⟩ := h
    refine wpAny_Expr_any ?_ (by unfold interactive; rw [ok.kind]; rfl) rfl
    refine wpAny_Call_method0_late (attr_base rfl _ _ _) hline ?_
    refine wpAny_mono (name_snd (Q := fun d' σ => d' = .ref n ∧ σ = c.σ) ok f G hd en ⟨rfl, rfl⟩) (fun v s1 ⟨c1, d1, ⟨ed, es⟩, G1, S1, R1, V1⟩ => ?_) fun _ _ z => z
    subst ed
    rw [← es] at e1 q
    cases V1 with
    | @ref l _ ha =>
      have f1 := f.stp0 S1
      obtain ⟨nf, vs, L, U⟩ := G1.cell _ _ _ ha e1
      have L' := plain_rev L
      obtain ⟨k, eL⟩ := L
      have hlen := U.length
      refine ⟨"list", "list.reverse", PySem.F.plainAttrs_list, PySem.F.slot_list_reverse, PySem.F.type_list_reverse, ⟨_, eL, rfl⟩, fun b eb => by cases eb; exact ⟨_, eL, rfl⟩, ?_⟩
      refine callWith_builtin rfl (evalArgs_nil3 ?_)
      have kp : ∀ b o, b ≠ l → s1.heap.get? b = some o → (s1.heap.update l (Obj.mapSeq fun x => x.reverse)).get? b = some o := fun b o ne eb => (Heap.get?_update_other _ _ (Ne.symm ne)).trans eb
      have Sp : Stp X0 c1 s1.heap (c1.put n (some ds.reverse)) (s1.heap.update l (Obj.mapSeq fun x => x.reverse)) := Stp.put G1 ha kp (by obtain ⟨_, z⟩ := L'; rw [z]; simp)
      refine call_meets PySem.F.slot_list_reverse ⟨_, eL, rfl⟩ PySem.F.entry_list_reverse (PySem.F.args_list_reverse_1 _) (PySem.AutoSeq1.list_reverse_list_0 l _ k (by rw [List.size_toArray, hlen]; exact lenB_line hl)) ⟨eL, ?_⟩
      exact ⟨_, .next, ρ, q, G1.put ha e1 kp L' U.reverse, (S1.trans Sp).own, R1.trans ⟨rfl, rfl, rfl⟩, f1.stp0 Sp, .next⟩
  · exact h.elim
end

end Mine
end
/-! Snd10 -/
section
open PySem.Calls
namespace Mine

section
variable {P : Par} {prog : Program} {w : World} {hb : Heap} {mg mb : Str → Option Value} {D : Nat} {Φ : Tab}

theorem Frm.but {env : Env} {c : Cf} {h h' : Heap} {ρ : Rho} {I : Addr} (f : Frm P env c h ρ) (nI : ¬ Own env I) (k : ∀ a o, a ≠ I → h.get? a = some o → h'.get? a = some o) : Frm P env c h' ρ := by
  have kp : ∀ a o, Own env a → h.get? a = some o → h'.get? a = some o := fun a o w e => k a o (fun z => nI (z ▸ w)) e
  refine ⟨?_, fun x d e k => ?_, f.kind, fun n a e => ?_, f.has, f.inj, f.own, f.neL⟩
  · obtain ⟨m, ⟨o, es, ep, e1, e2⟩, r⟩ := f.ns
    exact ⟨m, ⟨o, es, ep, kp _ _ (.inl rfl) e1, e2⟩, r⟩
  · obtain ⟨a, v, e1, ⟨o, e2, e3⟩, V⟩ := f.cell x d e k
    exact ⟨a, v, e1, ⟨o, kp _ _ (.inr ⟨_, e1⟩) e2, e3⟩, V⟩
  · obtain ⟨v, o, e2, e3⟩ := f.cells n a e
    exact ⟨v, o, kp _ _ (.inr ⟨_, e⟩) e2, e3⟩

/-- the end of a comprehension whose list is stored -/
theorem use_end {A : Around} {env : Env} {sc : Sc} {x : Nat} {p : Pos} {ρ : Rho} {c c1 c' : Cf} {s s1 s' : Shared} {Q : Fl → Rho → Sto → Prop} {l C : Addr} {ys : List AV} (ok : EnvOk env sc) (ht : tgt sc x) (f : Frm P env c s.heap ρ)
    (S0 : Stp X0 c s.heap c1 s1.heap) (R0 : Rst s s1) (q : Q .next (upd ρ x (.list ys)) c'.σ) (G : Good P hb c' s'.heap) (S : Stp X0 c1 s1.heap c' s'.heap) (R : Rst s1 s')
    (V : VR P c'.F c'.as (.ref l) (.list ys)) (N : ∃ m, s'.heap.Ns C m) (pC : Priv c' C) (fC : s1.heap.get? C = none) :
    compPost (model prog w) A E0 (some (assign (.Name (nm x) p) env)) (fun _ s'' => PstS P hb env c s Q .next s'') (.ref l) C (.ok .next) s' := by
  have f1 : Frm P env c1 s1.heap ρ := f.stp0 S0
  have f' : Frm P env c' s'.heap ρ := f1.stp0 S
  have nC : ¬ Own env C := fun o => by
    obtain ⟨ob, e⟩ := f1.live o
    rw [fC] at e; cases e
  obtain ⟨m, N⟩ := N
  refine PySem.wpAny_assign_Name (store_snd ok ht f' G V fun s2 G2 S2 R2 f2 => ?_)
  have kC : ∀ o, s'.heap.get? C = some o → s2.heap.get? C = some o := fun o e => S2.keep C o e pC.1 nC
  refine ⟨m, ?_, fun h' sb => ?_⟩
  · obtain ⟨o, a1, a2, e, r⟩ := N
    exact ⟨o, a1, a2, kC o e, r⟩
  · have kp : ∀ a o, a ≠ C → s2.heap.get? a = some o → h'.get? a = some o := fun a o ne e => sb.extBut a o ne e
    exact ⟨c', .next, _, q, G2.but pC kp, S0.own.trans (Stp.last (S.own.trans S2) fC kp), (R0.trans R).trans ⟨R2.1, R2.2.1, R2.2.2⟩, f2.but nC kp, .next⟩

theorem ss_assignC (W : Wd P prog w hb mg mb) (T : TabOk P prog w hb D Φ) {x : Nat} {e : ME} : SSt P prog w hb D Φ (.assignC x e) := by
  intro sc cs ck A env c s ρ Q a ok f G h
  obtain ⟨celt, gens, scope, cpos, p, pos, ht, hsw, h1, rfl⟩ := ck.inv
  rw [x_assignC] at h
  have hsw' : swapsWith (.ListComp celt gens scope cpos) (some (.Name (nm x) p)) pos.line env = pure true := by
    have e1 : (env.blockKind == .function) = true := by unfold Env.blockKind; rw [ok.kind]; rfl
    have e2 : (env.kindOf (nm x) == some .local) = true := by rw [ok.kindOf, ht]; rfl
    show (pure (env.blockKind == .function && env.kindOf (nm x) == some .local && p.line == cpos.line
    && !(scope.names.any fun (n, k) => n == nm x && (k == .local || k == .cell))) : Sem Bool) = _
    rw [e1, e2, Bool.true_and, Bool.true_and, hsw]
  rw [exec_Assign_Name_used _ _ _ _ hsw']
  refine wpAny_bind (wpAny_standAt (wpAny_bind ?_))
  cases h1 with
  | comp co h1 h2 =>
    rw [v_comp] at h
    refine wpAny_bind (wpAny_mono (wpAny_comprehension_free (use := some (assign (.Name (nm x) p) env)) (Q := fun _ s'' => PstS P hb env c s Q .next s'') rfl (h1.noSet env) (comp_clos ok co f) co.kind co.names ?_) (fun _ _ hq => wpAny_pure (wpAny_pure hq)) fun _ _ z => z)
    exact comp_list (R := fun acc C => compPost (model prog w) A E0 (some (assign (.Name (nm x) p) env)) (fun _ s'' => PstS P hb env c s Q .next s'') acc C) (snd W T _).1 h1 a ok co f G h (turn_plain (snd W T _).1 h2 a ok co) fun c1 c' s1 s' l C ys S1 R1 q G' S' R' V' N' pC fC => use_end ok (.inl ht) f S1 R1 q G' S' R' V' N' pC fC
  | compIf co h1 h3 h2 =>
    rw [v_compIf] at h
    refine wpAny_bind (wpAny_mono (wpAny_comprehension_free (use := some (assign (.Name (nm x) p) env)) (Q := fun _ s'' => PstS P hb env c s Q .next s'') rfl (h1.noSet env) (comp_clos ok co f) co.kind co.names ?_) (fun _ _ hq => wpAny_pure (wpAny_pure hq)) fun _ _ z => z)
    exact comp_list (R := fun acc C => compPost (model prog w) A E0 (some (assign (.Name (nm x) p) env)) (fun _ s'' => PstS P hb env c s Q .next s'') acc C) (snd W T _).1 h1 a ok co f G h (turn_if (snd W T _).2 h3 (snd W T _).1 h2 a ok co) fun c1 c' s1 s' l C ys S1 R1 q G' S' R' V' N' pC fC => use_end ok (.inl ht) f S1 R1 q G' S' R' V' N' pC fC
  | compR co hk h1 h2 =>
    rw [v_compR] at h
    refine wpAny_bind (wpAny_mono (wpAny_comprehension_free (use := some (assign (.Name (nm x) p) env)) (Q := fun _ s'' => PstS P hb env c s Q .next s'') rfl (fun _ => rfl) (comp_clos ok co f) co.kind co.names ?_) (fun _ _ hq => wpAny_pure (wpAny_pure hq)) fun _ _ z => z)
    exact comp_range W (R := fun acc C => compPost (model prog w) A E0 (some (assign (.Name (nm x) p) env)) (fun _ s'' => PstS P hb env c s Q .next s'') acc C) (snd W T _).1 h1 hk a ok co f G h (turn_plain (snd W T _).1 h2 a ok co) fun c1 c' s1 s' l C ys S1 R1 q G' S' R' V' N' pC fC => use_end ok (.inl ht) f S1 R1 q G' S' R' V' N' pC fC

/-- the loop of a for; s0: the state before the iterator was made -/
theorem for_core {A : Around} {env : Env} {sc : Sc} {x : Nat} {p : Pos} {body : MSs} {cb : List Stmt} {ds : List AV} {I : Addr} {c : Cf} {s0 s : Shared} {ρ : Rho} {Q : Fl → Rho → Sto → Prop} (hb' : SSs P prog w hb D Φ body) (hcb : CSs sc body cb) (a : AOk (D + 1) A) (ok : EnvOk env sc) (ht : tgt sc x)
    (fr : Frm P env c s0.heap ρ) (kp0 : ∀ a o, s0.heap.get? a = some o → s.heap.get? a = some o) (fI : s0.heap.get? I = none) (R0 : Rst s0 s) (G : Good P hb c s.heap) (src : Src P I c s.heap ds) (pI : Priv c I)
    (hq : forL x (fun Q' => mwps Φ body Q') ds Q ρ c.σ) :
    codeAny (model prog w) A (.forLoop (.Name (nm x) p) (.ref I) cb [] env) (fun r s' => match r with | .ok f => PstS P hb env c s0 Q f s' | .error e => cameBackBy (model prog w) A env E0 e s') s := by
  have nI : ¬ Own env I := fun o => by
    obtain ⟨ob, e⟩ := fr.live o
    rw [fI] at e; cases e
  refine codeAny_forLoop (fun n s' => ∃ (c' : Cf) (ρ' : Rho) (es : List AV), n = es.length ∧ forL x (fun Q' => mwps Φ body Q') es Q ρ' c'.σ ∧ Good P hb c' s'.heap ∧ Stp (fun a => Own env a ∨ a = I) c s0.heap c' s'.heap ∧ Rst s0 s' ∧
      Src P I c' s'.heap es ∧ Priv c' I ∧ Frm P env c' s'.heap ρ') ?_ ds.length ⟨c, ρ, ds, rfl, hq, G, Stp.grown kp0, R0, src, pI, fr.step (Stp.grown (X := X0) kp0) fun _ _ z => z⟩
  rintro n s' ⟨c', ρ', es, rfl, hq', G', S', R', src', pI', f'⟩
  have wk : ∀ {c2 : Cf} {h2 : Heap}, Stp (fun a => Own env a ∨ a = I) c s0.heap c2 h2 → Stp (Own env) c s0.heap c2 h2 := fun S => S.weaken fun a e z => by
    rcases z with z | z
    · exact z
    · rw [z, fI] at e; cases e
  cases es with
  | nil =>
    refine wpAny_mono (Src.done (E := E0) a.h G' src' (K := fun r s₁ => match r with
      | none => wpAny (model prog w) A (execs [] env) (fun f s₃ => PstS P hb env c s0 Q f s₃) E0 s₁
      | some v => False) fun h' xb => wpAny_execs_nil ?_) (fun r s1 h1 => ?_) fun _ _ z => z.elim
    · have kp : ∀ a o, a ≠ I → s'.heap.get? a = some o → h'.get? a = some o := fun a o ne e => xb a o ne e
      exact ⟨c', .next, ρ', hq', G'.but pI' kp, wk (Stp.last S' fI kp), R', f'.but nI kp, .next⟩
    · cases r with
      | none => exact wpAny_mono h1 (fun _ _ z => z) fun _ _ z => z.elim
      | some v => exact h1.elim
  | cons d es =>
    refine wpAny_mono (Src.item (E := E0) G' src' pI' (K := fun r s₁ => match r with
      | none => False
      | some v => wpAny (model prog w) A (assign (.Name (nm x) p) env v) (fun _ s₂ => wpAny (model prog w) A (execs cb env) (fun f s₃ => match f with
          | .next | .cont => ∃ m, m < (d :: es).length ∧ ∃ (c' : Cf) (ρ' : Rho) (es : List AV), m = es.length ∧ forL x (fun Q' => mwps Φ body Q') es Q ρ' c'.σ ∧ Good P hb c' s₃.heap ∧ Stp (fun a => Own env a ∨ a = I) c s0.heap c' s₃.heap ∧ Rst s0 s₃ ∧
              Src P I c' s₃.heap es ∧ Priv c' I ∧ Frm P env c' s₃.heap ρ'
          | .brk => PstS P hb env c s0 Q .next s₃
          | .ret v => PstS P hb env c s0 Q (.ret v) s₃) E0 s₂) E0 s₁) fun v h1 t1 V1 src1 sb1 lv1 => ?_) (fun r s1 h1 => ?_) fun _ _ z => z.elim
    · have kp1 : ∀ a o, a ≠ I → s'.heap.get? a = some o → h1.get? a = some o := fun a o ne e => sb1.extBut a o ne e
      have G1 := G'.but pI' kp1
      have S1 : Stp (fun a => Own env a ∨ a = I) c s0.heap c' h1 := S'.trans (Stp.but kp1 (.inr rfl) lv1)
      refine PySem.wpAny_assign_Name (store_snd (s := { s' with heap := h1, toks := t1 }) ok ht (f'.but nI kp1) G1 V1 fun s2 G2 S2 R2 f2 => ?_)
      refine wpAny_mono (hb' sc cb hcb A env c' s2 _ _ a ok f2 G2 hq') (fun f s3 h3 => ?_) fun _ _ z => z
      obtain ⟨c3, fl, ρ3, q3, G3, S3, R3, F3, L3⟩ := h3
      have S12 : Stp (Own env) c' h1 c3 s3.heap := S2.trans S3
      have SS : Stp (fun a => Own env a ∨ a = I) c s0.heap c3 s3.heap := S1.trans (S12.weaken fun _ _ z => .inl z)
      have RR : Rst s0 s3 := R'.trans (Rst.trans ⟨R2.1, R2.2.1, R2.2.2⟩ R3)
      have kI : ∀ o, h1.get? I = some o → s3.heap.get? I = some o := fun o e => S12.keep I o e pI'.1 nI
      cases L3 with
      | next => exact ⟨es.length, by simp, c3, ρ3, es, rfl, q3, G3, SS, RR, src1.stp S12 kI, pI'.stp S12 src1.live, F3⟩
      | brk => exact ⟨c3, .next, ρ3, q3, G3, wk SS, RR, F3, .next⟩
      | ret V => exact ⟨c3, .ret _, ρ3, q3, G3, wk SS, RR, F3, .ret V⟩
    · cases r with
      | none => exact h1.elim
      | some v => exact wpAny_mono h1 (fun _ s2 h2 => wpAny_mono h2 (fun f s3 h3 => by cases f <;> exact h3) fun _ _ z => z.elim) fun _ _ z => z.elim

theorem ss_for {x : Nat} {it : ME} {body : MSs} (hit : SE P prog w hb D Φ it) (hb' : SSs P prog w hb D Φ body) : SSt P prog w hb D Φ (.for x it body) := by
  intro sc cs ck A env c s ρ Q a ok f G h
  obtain ⟨_, _, _, _, ht, h1, h2, rfl⟩ := ck.inv
  rw [x_for] at h
  refine wpAny_For (se_then hit h1 a ok f G h fun v s1 c1 d q G1 S1 R1 V1 f1 => ?_) (h1.noSet env)
  cases d with
  | list ds =>
    refine iter_list G1 V1 fun I h' fI kp src => ?_
    refine codeAny_mono (for_core (s0 := s1) (s := { s1 with heap := h' }) hb' h2 a ok ht f1 kp fI ⟨rfl, rfl, rfl⟩ (G1.grown kp) src (Priv.fresh G1 fI) q) fun r s2 h2 => ?_
    cases r with
    | ok fl => exact PstS.after S1.own R1 h2
    | error e => exact h2
  | _ => exact q.elim
theorem ss_forR (W : Wd P prog w hb mg mb) {x : Nat} {it : ME} {body : MSs} (hit : SE P prog w hb D Φ it) (hb' : SSs P prog w hb D Φ body) : SSt P prog w hb D Φ (.forR x it body) := by
  intro sc cs ck A env c s ρ Q a ok f G h
  obtain ⟨_, _, _, _, _, _, ht, hk, h1, h2, rfl⟩ := ck.inv
  rw [x_forR] at h
  refine wpAny_For ?_ (fun _ => rfl)
  refine wpAny_Call_NameR (bname_snd ok W G (by decide) hk W.range (callW_snd (hb := hb) (.cons h1 .nil) (machine_looks rfl) ?_))
  refine spliced_cons (se_then hit h1 a ok f G h fun v s1 c1 d q G1 S1 R1 V1 f1 => spliced_nil ⟨G1.keep, ?_⟩)
  cases d with
  | int n =>
    obtain ⟨q0, q1, q2⟩ := q
    obtain ⟨t, rfl⟩ := vr_int V1
    refine iter_range q1 G1 (fun I h' tk fI kp src => ?_) (by omega)
    refine codeAny_mono (for_core (s0 := s1) (s := { s1 with heap := h', toks := tk }) hb' h2 a ok ht f1 kp fI ⟨rfl, rfl, rfl⟩ (G1.grown kp) src (Priv.fresh G1 fI) q2) fun r s2 h2 => ?_
    cases r with
    | ok fl => exact PstS.after S1.own R1 h2
    | error e => exact h2
  | _ => exact q.elim

theorem ss_while {cnd : ME} {body : MSs} (hc : ST P prog w hb D Φ cnd) (hb' : SSs P prog w hb D Φ body) : SSt P prog w hb D Φ (.while cnd body) := by
  intro sc cs ck A env c s ρ Q a ok f G h
  obtain ⟨cc, cb, _, h1, h2, rfl⟩ := ck.inv
  rw [x_while] at h
  obtain ⟨n0, h⟩ := h
  refine wpAny_While ?_
  refine codeAny_whileLoop (fun n s' => ∃ (c' : Cf) (ρ' : Rho), whlL (fun K => mtest Φ cnd K) (fun Q' => mwps Φ body Q') n Q ρ' c'.σ ∧ Good P hb c' s'.heap ∧ Stp (Own env) c s.heap c' s'.heap ∧ Rst s s' ∧ Frm P env c' s'.heap ρ')
    ?_ n0 ⟨c, ρ, h, G, Stp.refl _ _ _, Rst.refl _, f⟩
  rintro n s' ⟨c', ρ', hq', G', S', R', f'⟩
  cases n with
  | zero => exact hq'.elim
  | succ n =>
    rw [whlL] at hq'
    refine wpAny_mono (st_then (K := fun b s2 => if b = true then wpAny (model prog w) A (execs cb env) (fun f s₃ => match f with
          | .next | .cont => ∃ m, m < n + 1 ∧ ∃ (c' : Cf) (ρ' : Rho), whlL (fun K => mtest Φ cnd K) (fun Q' => mwps Φ body Q') m Q ρ' c'.σ ∧ Good P hb c' s₃.heap ∧ Stp (Own env) c s.heap c' s₃.heap ∧ Rst s s₃ ∧ Frm P env c' s₃.heap ρ'
          | .brk => PstS P hb env c s Q .next s₃
          | .ret v => PstS P hb env c s Q (.ret v) s₃) E0 s2 else wpAny (model prog w) A (execs [] env) (fun f s₃ => PstS P hb env c s Q f s₃) E0 s2) hc h1 a ok f' G' hq' fun b s1 c1 q1 G1 S1 R1 f1 => ?_) (fun b s1 hb1 => ?_) fun _ _ z => z.elim
    · cases b with
      | false =>
        rw [if_neg (by decide)] at q1 ⊢
        exact wpAny_execs_nil ⟨c1, .next, ρ', q1, G1, S'.trans S1.own, R'.trans R1, f1, .next⟩
      | true =>
        rw [if_pos rfl] at q1 ⊢
        refine wpAny_mono (hb' sc cb h2 A env c1 s1 _ _ a ok f1 G1 q1) (fun f s3 h3 => ?_) fun _ _ z => z
        obtain ⟨c3, fl, ρ3, q3, G3, S3, R3, F3, L3⟩ := h3
        have SS : Stp (Own env) c s.heap c3 s3.heap := (S'.trans S1.own).trans S3
        have RR : Rst s s3 := (R'.trans R1).trans R3
        cases L3 with
        | next => exact ⟨n, Nat.lt_succ_self n, c3, ρ3, q3, G3, SS, RR, F3⟩
        | brk => exact ⟨c3, .next, ρ3, q3, G3, SS, RR, F3, .next⟩
        | ret V => exact ⟨c3, .ret _, ρ3, q3, G3, SS, RR, F3, .ret V⟩
    · cases b with
      | false =>
        rw [if_neg (by decide)] at hb1 ⊢
        exact wpAny_mono hb1 (fun _ _ z => z) fun _ _ z => z.elim
      | true =>
        rw [if_pos rfl] at hb1 ⊢
        exact wpAny_mono hb1 (fun f s3 h3 => by cases f <;> exact h3) fun _ _ z => z.elim

theorem sss_nil : SSs P prog w hb D Φ .nil := by
  intro sc cs ck A env c s ρ Q a ok f G h
  cases ck
  rw [mwps] at h
  exact wpAny_execs_nil ⟨c, .next, ρ, h, G, Stp.refl _ _ _, Rst.refl _, f, .next⟩
theorem sss_cons {m : MS} {ms : MSs} (h1 : SSt P prog w hb D Φ m) (h2 : SSs P prog w hb D Φ ms) : SSs P prog w hb D Φ (.cons m ms) := by
  intro sc cs ck A env c s ρ Q a ok f G h
  cases ck with
  | cons k1 k2 =>
    rw [mwps] at h
    refine wpAny_execs_cons (wpAny_mono (h1 sc _ k1 A env c s ρ _ a ok f G h) (fun fl s1 p => ?_) fun _ _ z => z)
    obtain ⟨c1, f1, ρ1, q1, G1, S1, R1, F1, L1⟩ := p
    cases L1 with
    | next => exact wpAny_mono (h2 sc _ k2 A env c1 s1 ρ1 Q a ok F1 G1 q1) (fun _ _ p => PstS.after S1 R1 p) fun _ _ z => z
    | brk => exact ⟨c1, .brk, ρ1, q1, G1, S1, R1, F1, .brk⟩
    | ret V => exact ⟨c1, .ret _, ρ1, q1, G1, S1, R1, F1, .ret V⟩
theorem sss_gfreeze {x : Nat} {ms : MSs} (h2 : SSs P prog w hb D Φ ms) : SSs P prog w hb D Φ (.gfreeze x ms) := by
  intro sc cs ck A env c s ρ Q a ok f G h
  cases ck with
  | gfreeze k2 =>
    rw [mwps] at h
    split at h
    · rename_i n en
      split at h
      · rename_i ds e
        have loc : ∃ v, VR P c.F c.as v (.ref n) := by
          rcases f.kind x _ en with k | k
          · obtain ⟨m, N, r⟩ := f.ns
            obtain ⟨v, ev, V⟩ := r x _ en k
            exact ⟨v, V⟩
          · obtain ⟨b, v, e1, e2, V⟩ := f.cell x _ en k
            exact ⟨v, V⟩
        obtain ⟨v, V⟩ := loc
        cases V with
        | @ref l _ ha =>
          obtain ⟨nf, vs, ⟨k, L⟩, U⟩ := G.cell _ _ _ ha e
          have S1 : Stp X0 c s.heap ((c.put n Option.none).frz l { cls := .type "list", data := .seq vs.toArray k }) s.heap := Stp.off ha
          have V1 : VR P ((c.put n Option.none).frz l { cls := .type "list", data := .seq vs.toArray k }).F ((c.put n Option.none).frz l { cls := .type "list", data := .seq vs.toArray k }).as (.ref l) (.list ds) :=
            .list (.inr ⟨rfl, rfl⟩) rfl rfl (U.mono (fun _ _ e => .inl e) fun _ _ e => e)
          have f1 := f.stp0 S1
          have G1 := G.off ha e L
          have f2 : Frm P env ((c.put n Option.none).frz l { cls := .type "list", data := .seq vs.toArray k }) s.heap (upd ρ x (.list ds)) := by
            have ux : ∀ v, VR P c.F c.as v (.ref n) → v = .ref l := fun v V => by
              cases V with
              | ref ha' => rw [ha] at ha'; cases ha'; rfl
            refine ⟨?_, fun y d' ey ky => ?_, fun y d' ey => ?_, f1.cells, f1.has, f1.inj, f1.own, f1.neL⟩
            · obtain ⟨m, N, r⟩ := f.ns
              refine ⟨m, N, fun y d' ey ky => ?_⟩
              by_cases ne : y = x
              · subst ne
                rw [upd_same] at ey; cases ey
                obtain ⟨v, ev, V⟩ := r y _ en ky
                exact ⟨v, ev, by rw [ux v V]; exact V1⟩
              · rw [upd_ne ne] at ey
                obtain ⟨u, e1, U⟩ := r y d' ey ky
                exact ⟨u, e1, S1.vr U⟩
            · by_cases ne : y = x
              · subst ne
                rw [upd_same] at ey; cases ey
                obtain ⟨b, v, e1, e2, V⟩ := f.cell y _ en ky
                exact ⟨b, v, e1, e2, by rw [ux v V]; exact V1⟩
              · rw [upd_ne ne] at ey
                exact f1.cell y d' ey ky
            · by_cases ne : y = x
              · subst ne
                exact f.kind y _ en
              · rw [upd_ne ne] at ey
                exact f.kind y d' ey
          exact wpAny_mono (h2 sc _ k2 A env _ s _ Q a ok f2 G1 h) (fun _ _ p => PstS.after S1.own (Rst.refl _) p) fun _ _ z => z
      · exact h.elim
    · exact h.elim

mutual
theorem sst (W : Wd P prog w hb mg mb) (T : TabOk P prog w hb D Φ) : ∀ m : MS, SSt P prog w hb D Φ m
  | .assign _ e => ss_assign (snd W T e).1
  | .assignC _ _ => ss_assignC W T
  | .unpack2 _ _ e => ss_unpack2 (snd W T e).1
  | .swap2 _ _ a b => ss_swap2 (snd W T a).1 (snd W T b).1
  | .aug _ e => ss_aug (snd W T e).1
  | .append _ e => ss_append (snd W T e).1
  | .reverse _ => ss_reverse
  | .expr e => ss_expr (snd W T e).1
  | .ret e => ss_ret (snd W T e).1
  | .ite c s t => ss_ite (snd W T c).2 (sss W T s) (sss W T t)
  | .for _ it body => ss_for (snd W T it).1 (sss W T body)
  | .forR _ n body => ss_forR W (snd W T n).1 (sss W T body)
  | .while c body => ss_while (snd W T c).2 (sss W T body)
  | .brk => ss_brk
  | .raise => ss_raise
theorem sss (W : Wd P prog w hb mg mb) (T : TabOk P prog w hb D Φ) : ∀ m : MSs, SSs P prog w hb D Φ m
  | .nil => sss_nil
  | .cons s ss => sss_cons (sst W T s) (sss W T ss)
  | .gfreeze _ ss => sss_gfreeze (sss W T ss)
end
end

end Mine
end
/-! Chk -/
section
open PySem.Calls
namespace Mine

noncomputable abbrev Ck (p : Prop) := Option (PLift p)
theorem Ck.get {p : Prop} (o : Ck p) (h : o.isSome = true) : p := match o, h with
  | some x, _ => x.down

theorem compOk_of {sc : Sc} {scope : Scope} {x : Nat} {fvs : List Nat} (h : scope.kind = .function ∧ (∀ y ∈ scope.names, y.2 ≠ .cell) ∧ (∀ y ∈ scope.names, y.2 = .local → scope.names.lookup y.1 = some .local) ∧ scope.names.lookup (nm x) = some .local ∧
    (∀ y ∈ scope.names, y.2 = .free → sc.lookup y.1 = some .cell) ∧ (∀ y ∈ fvs, y ≠ x ∧ (relab sc scope.names).lookup (nm y) = some .cell)) : CompOk sc scope x fvs :=
  ⟨h.1, h.2.1, h.2.2.1, h.2.2.2.1, h.2.2.2.2.1, h.2.2.2.2.2⟩
noncomputable def ckComp (sc : Sc) (scope : Scope) (x : Nat) (fvs : List Nat) : Ck (CompOk sc scope x fvs) :=
  if h : scope.kind = .function ∧ (∀ y ∈ scope.names, y.2 ≠ .cell) ∧ (∀ y ∈ scope.names, y.2 = .local → scope.names.lookup y.1 = some .local) ∧ scope.names.lookup (nm x) = some .local ∧
    (∀ y ∈ scope.names, y.2 = .free → sc.lookup y.1 = some .cell) ∧ (∀ y ∈ fvs, y ≠ x ∧ (relab sc scope.names).lookup (nm y) = some .cell) then some ⟨compOk_of h⟩ else none

noncomputable def binK : (op : BinK) → (o : Operator) → Option (PLift (o = binO op))
  | .add, .Add => some ⟨rfl⟩
  | .sub, .Sub => some ⟨rfl⟩
  | .mul, .Mult => some ⟨rfl⟩
  | .fdiv, .FloorDiv => some ⟨rfl⟩
  | .mod, .Mod => some ⟨rfl⟩
  | _, _ => none
noncomputable def cmpK : (op : CmpK) → (o : CmpOp) → Option (PLift (o = cmpO op)) := fun op o => if h : o = cmpO op then some ⟨h⟩ else none

noncomputable abbrev gl (sc : Sc) (x : Str) : Prop := sc.lookup x = some .globalImplicit

mutual
noncomputable def ckE : (e : ME) → (sc : Sc) → (c : PySem.Expr) → Ck (CE sc e c)
  | .name x, sc, c => match c with
    | .Name n pos => if h : n = nm x ∧ dbg n then some ⟨h.1 ▸ .name (h.1 ▸ h.2)⟩ else none
    | _ => none
  | .glob g, sc, c => match c with
    | .Name n pos => if h : n = gnm g ∧ dbg n ∧ gl sc n then some ⟨by obtain ⟨rfl, h2, h3⟩ := h; exact .glob h2 h3⟩ else none
    | _ => none
  | .fnv f, sc, c => match c with
    | .Name n pos => if h : n = fnm f ∧ dbg n ∧ gl sc n ∧ f < 39 then some ⟨by obtain ⟨rfl, h2, h3, h4⟩ := h; exact .fnv h4 h2 h3⟩ else none
    | _ => none
  | .cint i, sc, c => match c with
    | .Constant (.int j) k pos => if h : j = i then some ⟨h ▸ .cint⟩ else none
    | _ => none
  | .cstr i, sc, c => match c with
    | .Constant (.str j) k pos => if h : j = st i then some ⟨h ▸ .cstr⟩ else none
    | _ => none
  | .cbool i, sc, c => match c with
    | .Constant (.bool j) k pos => if h : j = i then some ⟨h ▸ .cbool⟩ else none
    | _ => none
  | .cnone, sc, c => match c with
    | .Constant .none k pos => some ⟨.cnone⟩
    | _ => none
  | .tup es, sc, c => match c with
    | .Tuple ces k pos => if h : ces.length ≤ 100 then match ckEs es sc ces with
      | some ⟨r⟩ => some ⟨.tup h r⟩
      | none => none else none
    | _ => none
  | .lst es, sc, c => match c with
    | .List ces pos => if h : ces.length ≤ 100 then match ckEs es sc ces with
      | some ⟨r⟩ => some ⟨.lst h r⟩
      | none => none else none
    | _ => none
  | .lstM, sc, c => match c with
    | .List [] pos => some ⟨.lstM⟩
    | _ => none
  | .bin op a b, sc, c => match c with
    | .BinOp l o r pos => match binK op o, ckE a sc l, ckE b sc r with
      | some ⟨h⟩, some ⟨h1⟩, some ⟨h2⟩ => some ⟨h ▸ .bin h1 h2⟩
      | _, _, _ => none
    | _ => none
  | .neg a, sc, c => match c with
    | .UnaryOp .USub l pos => match ckE a sc l with
      | some ⟨h1⟩ => some ⟨.neg h1⟩
      | _ => none
    | _ => none
  | .cmp op a b, sc, c => match c with
    | .Compare l [o] [r] pos => match cmpK op o, ckE a sc l, ckE b sc r with
      | some ⟨h⟩, some ⟨h1⟩, some ⟨h2⟩ => some ⟨h ▸ .cmp h1 h2⟩
      | _, _, _ => none
    | _ => none
  | .not a, sc, c => match c with
    | .UnaryOp .Not l pos => match ckE a sc l with
      | some ⟨h1⟩ => some ⟨.not h1⟩
      | _ => none
    | _ => none
  | .and es, sc, c => match c with
    | .BoolOp .And ces pos => match ckEs es sc ces with
      | some ⟨r⟩ => some ⟨.and r⟩
      | none => none
    | _ => none
  | .or es, sc, c => match c with
    | .BoolOp .Or ces pos => match ckEs es sc ces with
      | some ⟨r⟩ => some ⟨.or r⟩
      | none => none
    | _ => none
  | .ife t a b, sc, c => match c with
    | .IfExp u l r pos => match ckE t sc u, ckE a sc l, ckE b sc r with
      | some ⟨h⟩, some ⟨h1⟩, some ⟨h2⟩ => some ⟨.ife h h1 h2⟩
      | _, _, _ => none
    | _ => none
  | .idx a i, sc, c => match c with
    | .Subscript l r pos => match ckE a sc l, ckE i sc r with
      | some ⟨h1⟩, some ⟨h2⟩ => some ⟨.idx h1 h2⟩
      | _, _ => none
    | _ => none
  | .upto (.name x) e, sc, c => match c with
    | .Subscript (.Name n p) (.Slice none (some r) none q) pos => if h : n = nm x ∧ dbg n then match ckE e sc r with
      | some ⟨h2⟩ => some ⟨by obtain ⟨rfl, h1⟩ := h; exact .upto h1 h2⟩
      | _ => none else none
    | _ => none
  | .uptoM (.name x) e, sc, c => match c with
    | .Subscript (.Name n p) (.Slice none (some r) none q) pos => if h : n = nm x ∧ dbg n then match ckE e sc r with
      | some ⟨h2⟩ => some ⟨by obtain ⟨rfl, h1⟩ := h; exact .uptoM h1 h2⟩
      | _ => none else none
    | _ => none
  | .from (.name x) e, sc, c => match c with
    | .Subscript (.Name n p) (.Slice (some r) none none q) pos => if h : n = nm x ∧ dbg n then match ckE e sc r with
      | some ⟨h2⟩ => some ⟨by obtain ⟨rfl, h1⟩ := h; exact .from h1 h2⟩
      | _ => none else none
    | _ => none
  | .rev (.name x), sc, c => match c with
    | .Subscript (.Name n p) (.Slice none none (some (.UnaryOp .USub (.Constant (.int i) k p1) p2)) q) pos => if h : n = nm x ∧ dbg n ∧ i = 1 then
        some ⟨by obtain ⟨rfl, h1, rfl⟩ := h; exact .rev h1⟩ else none
    | _ => none
  | .kind a, sc, c => match c with
    | .Attribute l n pos => if h : n = ("kind" : Str) ∧ bare l = false then match ckE a sc l with
      | some ⟨h2⟩ => some ⟨by obtain ⟨rfl, h1⟩ := h; exact .kind h1 h2⟩
      | _ => none else none
    | _ => none
  | .items a, sc, c => match c with
    | .Attribute l n pos => if h : n = ("items" : Str) ∧ bare l = false then match ckE a sc l with
      | some ⟨h2⟩ => some ⟨by obtain ⟨rfl, h1⟩ := h; exact .items h1 h2⟩
      | _ => none else none
    | _ => none
  | .call f es, sc, c => match es, c with
    | .cons e es, .Call (.Name n p) (c :: ces) [] pos => if h : n = fnm f ∧ dbg n ∧ gl sc n ∧ f < 39 then match ckE e sc c, ckEs es sc ces with
      | some ⟨r⟩, some ⟨r2⟩ => some ⟨by obtain ⟨rfl, h2, h3, h4⟩ := h; exact .call h4 h2 h3 (.cons r r2)⟩
      | _, _ => none else none
    | _, _ => none
  | .callV x es, sc, c => match es, c with
    | .cons e es, .Call (.Name n p) (c :: ces) [] pos => if h : n = nm x ∧ dbg n then match ckE e sc c, ckEs es sc ces with
      | some ⟨r⟩, some ⟨r2⟩ => some ⟨by obtain ⟨rfl, h2⟩ := h; exact .callV h2 (.cons r r2)⟩
      | _, _ => none else none
    | _, _ => none
  | .vector a b, sc, c => match c with
    | .Call (.Name n p) [l, r] [] pos => if h : n = ("Vector" : Str) ∧ gl sc n then match ckE a sc l, ckE b sc r with
      | some ⟨h1⟩, some ⟨h2⟩ => some ⟨by obtain ⟨rfl, h3⟩ := h; exact .vector h3 h1 h2⟩
      | _, _ => none else none
    | _ => none
  | .len a, sc, c => match c with
    | .Call (.Name n p) [l] [] pos => if h : n = ("len" : Str) ∧ gl sc n then match ckE a sc l with
      | some ⟨h1⟩ => some ⟨by obtain ⟨rfl, h3⟩ := h; exact .len h3 h1⟩
      | _ => none else none
    | _ => none
  | .abs a, sc, c => match c with
    | .Call (.Name n p) [l] [] pos => if h : n = ("abs" : Str) ∧ gl sc n then match ckE a sc l with
      | some ⟨h1⟩ => some ⟨by obtain ⟨rfl, h3⟩ := h; exact .abs h3 h1⟩
      | _ => none else none
    | _ => none
  | .listOf a, sc, c => match c with
    | .Call (.Name n p) [l] [] pos => if h : n = ("list" : Str) ∧ gl sc n then match ckE a sc l with
      | some ⟨h1⟩ => some ⟨by obtain ⟨rfl, h3⟩ := h; exact .listOf h3 h1⟩
      | _ => none else none
    | _ => none
  | .pop x, sc, c => match c with
    | .Call (.Attribute (.Name n p) m ap) [] [] pos => if h : n = nm x ∧ dbg n ∧ m = ("pop" : Str) ∧ (ap.endLine == pos.line) = true then
        some ⟨by obtain ⟨rfl, h1, rfl, h2⟩ := h; exact .pop h1 h2⟩ else none
    | _ => none
  | .comp x fvs it elt, sc, c => match c with
    | .ListComp celt [⟨.Name n px, cit, [], a⟩] scope pos => if h : n = nm x ∧ a = 0 then match ckComp sc scope x fvs, ckE it sc cit, ckE elt (relab sc scope.names) celt with
      | some ⟨h0⟩, some ⟨h1⟩, some ⟨h2⟩ => some ⟨by obtain ⟨rfl, rfl⟩ := h; exact .comp h0 h1 h2⟩
      | _, _, _ => none else none
    | _ => none
  | .compIf x fvs it t elt, sc, c => match c with
    | .ListComp celt [⟨.Name n px, cit, [cc], a⟩] scope pos => if h : n = nm x ∧ a = 0 then match ckComp sc scope x fvs, ckE it sc cit, ckE t (relab sc scope.names) cc, ckE elt (relab sc scope.names) celt with
      | some ⟨h0⟩, some ⟨h1⟩, some ⟨h2⟩, some ⟨h3⟩ => some ⟨by obtain ⟨rfl, rfl⟩ := h; exact .compIf h0 h1 h2 h3⟩
      | _, _, _, _ => none else none
    | _ => none
  | .compR x fvs it elt, sc, c => match c with
    | .ListComp celt [⟨.Name n px, .Call (.Name m p) [cn] [] p2, [], a⟩] scope pos => if h : n = nm x ∧ a = 0 ∧ m = ("range" : Str) ∧ gl sc m then match ckComp sc scope x fvs, ckE it sc cn, ckE elt (relab sc scope.names) celt with
      | some ⟨h0⟩, some ⟨h1⟩, some ⟨h2⟩ => some ⟨by obtain ⟨rfl, rfl, rfl, h3⟩ := h; exact .compR h0 h3 h1 h2⟩
      | _, _, _ => none else none
    | _ => none
  | .freeze (.name x), sc, c => match c with
    | .Name n pos => if h : n = nm x ∧ dbg n then some ⟨by obtain ⟨rfl, h2⟩ := h; exact .freeze h2⟩ else none
    | _ => none
  | _, _, _ => none
noncomputable def ckEs : (es : MEs) → (sc : Sc) → (cs : List PySem.Expr) → Ck (CEs sc es cs)
  | .nil, sc, cs => match cs with
    | [] => some ⟨.nil⟩
    | _ => none
  | .cons e es, sc, cs => match cs with
    | c :: cs => match ckE e sc c, ckEs es sc cs with
      | some ⟨h1⟩, some ⟨h2⟩ => some ⟨.cons h1 h2⟩
      | _, _ => none
    | _ => none
end

theorem pos_Name (n : Str) (p : Pos) : (PySem.Expr.Name n p).pos = p := rfl
theorem swap_ok {sc : Sc} {x y : Nat} {p1 p2 : Pos} {k : Nat} {p3 : Pos} {id : Str} {pi : Pos} {cb : PySem.Expr} {k2 : Nat} {p4 : Pos} (hx : sc.lookup (nm x) = some .local) (hy : sc.lookup (nm y) = some .local) (hl : p1.line = p2.line) (hn : nm x ≠ nm y) (hd : dbg id)
    (hs : (match cb with | .Starred .. => true | _ => false) = false) : swapOk sc x y [.Tuple [.Name (nm x) p1, .Name (nm y) p2] k p3] (.Tuple [.Name id pi, cb] k2 p4) := by
  intro env ok
  unfold swappedStores
  have e1 : env.blockKind = .function := by unfold Env.blockKind; rw [ok.kind]; rfl
  have e2 : env.kindOf (nm x) = some .local := by rw [ok.kindOf]; exact hx
  have e3 : env.kindOf (nm y) = some .local := by rw [ok.kindOf]; exact hy
  have hn' : (nm x == nm y) = false := by simpa using hn
  have hn'' : (nm y == nm x) = false := by simpa using Ne.symm hn
  have f1 : foldedForSure 8 (.Name id pi) = false := rfl
  have f2 : constantsAlone 8 (.Name id pi) = false := hd
  have hed : ([nm x, nm y] : List Str).eraseDups = [nm x, nm y] := by
    have : ([nm y] : List Str).filter (fun b => !b == nm x) = [nm y] := by rw [List.filter_cons, List.filter_nil, hn'']; rfl
    rw [List.eraseDups_cons, this]
    rfl
  simp [e1, e2, e3, hl, f1, f2, hs, hed, pos_Name]
  intro z
  cases cb <;> first | (cases hs; done) | (cases z; done)

noncomputable def tg (sc : Sc) (x : Str) : Prop := sc.lookup x = some .local ∨ sc.lookup x = some .cell
noncomputable def ckT (sc : Sc) (x : Nat) : Ck (tgt sc x) := if h : sc.lookup (nm x) = some .local ∨ sc.lookup (nm x) = some .cell then some ⟨h⟩ else none
noncomputable def isStar : PySem.Expr → Bool | .Starred .. => true | _ => false
theorem star_eq (cb : PySem.Expr) : (match cb with | .Starred .. => true | _ => false) = isStar cb := by cases cb <;> rfl

mutual
noncomputable def ckS : (m : MS) → (sc : Sc) → (c : Stmt) → Ck (CS sc m c)
  | .assign x e, sc, c => match c with
    | .Assign [.Name n p] ce pos => if h : n = nm x ∧ noComp ce = true then match ckT sc x, ckE e sc ce with
      | some ⟨h1⟩, some ⟨h2⟩ => some ⟨by obtain ⟨rfl, h0⟩ := h; exact .assign h1 h0 h2⟩
      | _, _ => none else none
    | _ => none
  | .assignC x e, sc, c => match c with
    | .Assign [.Name n p] (.ListComp celt gens scope cpos) pos => if h : n = nm x ∧ sc.lookup n = some .local ∧ (p.line == cpos.line && !(scope.names.any fun (n, k) => n == nm x && (k == .local || k == .cell))) = true then match ckE e sc (.ListComp celt gens scope cpos) with
      | some ⟨h2⟩ => some ⟨by obtain ⟨rfl, h0, h1⟩ := h; exact .assignC h0 h1 h2⟩
      | _ => none else none
    | _ => none
  | .unpack2 x y e, sc, c => match c with
    | .Assign [.Tuple [.Name n p1, .Name m p2] k p3] ce pos => if h : n = nm x ∧ m = nm y ∧ noComp ce = true ∧ noTup ce = true then match ckT sc x, ckT sc y, ckE e sc ce with
      | some ⟨h1⟩, some ⟨h2⟩, some ⟨h3⟩ => some ⟨by obtain ⟨rfl, rfl, h4, h5⟩ := h; exact .unpack2 h1 h2 h4 h5 h3⟩
      | _, _, _ => none else none
    | _ => none
  | .swap2 x y a b, sc, c => match c with
    | .Assign [.Tuple [.Name n p1, .Name m p2] k p3] (.Tuple [.Name id pi, cb] k2 p4) pos => if h : n = nm x ∧ m = nm y ∧ sc.lookup n = some .local ∧ sc.lookup m = some .local ∧ p1.line = p2.line ∧ n ≠ m ∧ dbg id ∧ isStar cb = false then
        match ckE a sc (.Name id pi), ckE b sc cb with
        | some ⟨h3⟩, some ⟨h4⟩ => some ⟨by
            obtain ⟨rfl, rfl, h1, h2, hl, hn, hd, hs⟩ := h
            exact .swap2 (.inl h1) (.inl h2) (swap_ok h1 h2 hl hn hd (by rw [star_eq]; exact hs)) h3 h4⟩
        | _, _ => none else none
    | _ => none
  | .aug x e, sc, c => match c with
    | .AugAssign (.Name n p) .Add ce pos => if h : n = nm x then match ckT sc x, ckE e sc ce with
      | some ⟨h1⟩, some ⟨h2⟩ => some ⟨by subst h; exact .aug h1 h2⟩
      | _, _ => none else none
    | _ => none
  | .append x e, sc, c => match c with
    | .Expr (.Call (.Attribute (.Name n p) m ap) [ce] [] cpos) pos => if h : n = nm x ∧ dbg n ∧ m = ("append" : Str) ∧ (ap.endLine == cpos.line) = true then match ckE e sc ce with
      | some ⟨h2⟩ => some ⟨by obtain ⟨rfl, h1, rfl, h3⟩ := h; exact .append h1 h3 h2⟩
      | _ => none else none
    | _ => none
  | .reverse x, sc, c => match c with
    | .Expr (.Call (.Attribute (.Name n p) m ap) [] [] cpos) pos => if h : n = nm x ∧ dbg n ∧ m = ("reverse" : Str) ∧ (ap.endLine == cpos.line) = true then
        some ⟨by obtain ⟨rfl, h1, rfl, h3⟩ := h; exact .reverse h1 h3⟩ else none
    | _ => none
  | .expr e, sc, c => match c with
    | .Expr ce pos => if h : noComp ce = true then match ckE e sc ce with
      | some ⟨h2⟩ => some ⟨.expr h h2⟩
      | _ => none else none
    | _ => none
  | .ret e, sc, c => match c with
    | .Return (some ce) pos => match ckE e sc ce with
      | some ⟨h2⟩ => some ⟨.ret h2⟩
      | _ => none
    | _ => none
  | .ite e s t, sc, c => match c with
    | .If cc cs ct pos => match ckE e sc cc, ckSs s sc cs, ckSs t sc ct with
      | some ⟨h1⟩, some ⟨h2⟩, some ⟨h3⟩ => some ⟨.ite h1 h2 h3⟩
      | _, _, _ => none
    | _ => none
  | .for x it body, sc, c => match c with
    | .For (.Name n p) cit cb [] pos => if h : n = nm x then match ckT sc x, ckE it sc cit, ckSs body sc cb with
      | some ⟨h1⟩, some ⟨h2⟩, some ⟨h3⟩ => some ⟨by subst h; exact .for h1 h2 h3⟩
      | _, _, _ => none else none
    | _ => none
  | .forR x it body, sc, c => match c with
    | .For (.Name n p) (.Call (.Name m p1) [cn] [] p2) cb [] pos => if h : n = nm x ∧ m = ("range" : Str) ∧ gl sc m then match ckT sc x, ckE it sc cn, ckSs body sc cb with
      | some ⟨h1⟩, some ⟨h2⟩, some ⟨h3⟩ => some ⟨by obtain ⟨rfl, rfl, h4⟩ := h; exact .forR h1 h4 h2 h3⟩
      | _, _, _ => none else none
    | _ => none
  | .while e body, sc, c => match c with
    | .While cc cb [] pos => match ckE e sc cc, ckSs body sc cb with
      | some ⟨h2⟩, some ⟨h3⟩ => some ⟨.while h2 h3⟩
      | _, _ => none
    | _ => none
  | .brk, sc, c => match c with
    | .Break pos => some ⟨.brk⟩
    | _ => none
  | .raise, _, _ => some ⟨.raise⟩
noncomputable def ckSs : (m : MSs) → (sc : Sc) → (cs : List Stmt) → Ck (CSs sc m cs)
  | .nil, sc, cs => match cs with
    | [] => some ⟨.nil⟩
    | _ => none
  | .cons s ss, sc, cs => match cs with
    | c :: cs => match ckS s sc c, ckSs ss sc cs with
      | some ⟨h1⟩, some ⟨h2⟩ => some ⟨.cons h1 h2⟩
      | _, _ => none
    | _ => none
  | .gfreeze x ss, sc, cs => match ckSs ss sc cs with
      | some ⟨h2⟩ => some ⟨.gfreeze h2⟩
      | _ => none
end

end Mine
end
/-! Prog -/
section
open PySem.Calls
namespace Mine

/- 0: gcd -/
noncomputable def b_gcd : MSs := (.cons (.while (.cmp .gt (.name 1) (.cint 0)) (.cons (.swap2 0 1 (.name 1) (.bin .mod (.name 0) (.name 1))) .nil)) (.cons (.ret (.name 0)) .nil))
noncomputable def p_gcd : List Nat := [0, 1]
/- 1: make -/
noncomputable def b_make : MSs := (.cons (.ite (.cmp .eq (.name 3) (.cint 0)) (.cons (.ite (.cmp .eq (.name 2) (.cint 0)) (.cons (.ret (.glob 0)) .nil) .nil) (.cons (.ret (.ife (.cmp .gt (.name 2) (.cint 0)) (.tup (.cons (.cint 1) (.cons (.cint 0) .nil))) (.tup (.cons (.neg (.cint 1)) (.cons (.cint 0) .nil))))) .nil)) .nil) (.cons (.ite (.cmp .lt (.name 3) (.cint 0)) (.cons (.assign 2 (.bin .sub (.cint 0) (.name 2))) (.cons (.assign 3 (.bin .sub (.cint 0) (.name 3))) .nil)) .nil) (.cons (.assign 4 (.call 0 (.cons (.abs (.name 2)) (.cons (.name 3) .nil)))) (.cons (.ret (.tup (.cons (.bin .fdiv (.name 2) (.name 4)) (.cons (.bin .fdiv (.name 3) (.name 4)) .nil)))) .nil))))
noncomputable def p_make : List Nat := [2, 3]
/- 2: from_int -/
noncomputable def b_from_int : MSs := (.cons (.ite (.cmp .isNone (.name 2) .cnone) (.cons (.ret .cnone) .nil) .nil) (.cons (.ret (.tup (.cons (.name 2) (.cons (.cint 1) .nil)))) .nil))
noncomputable def p_from_int : List Nat := [2]
/- 3: is_na -/
noncomputable def b_is_na : MSs := (.cons (.ret (.or (.cons (.cmp .isNone (.name 5) .cnone) (.cons (.and (.cons (.cmp .eq (.idx (.name 5) (.cint 0)) (.cint 0)) (.cons (.cmp .eq (.idx (.name 5) (.cint 1)) (.cint 0)) .nil))) .nil)))) .nil)
noncomputable def p_is_na : List Nat := [5]
/- 4: marked -/
noncomputable def b_marked : MSs := (.cons (.ite (.or (.cons (.cmp .isNone (.name 5) .cnone) (.cons (.cmp .isNone (.name 6) .cnone) .nil))) (.cons (.ret .cnone) .nil) .nil) (.cons (.ret (.glob 0)) .nil))
noncomputable def p_marked : List Nat := [5, 6]
/- 5: neg -/
noncomputable def b_neg : MSs := (.cons (.ite (.cmp .isNone (.name 5) .cnone) (.cons (.ret .cnone) .nil) .nil) (.cons (.ret (.tup (.cons (.bin .sub (.cint 0) (.idx (.name 5) (.cint 0))) (.cons (.idx (.name 5) (.cint 1)) .nil)))) .nil))
noncomputable def p_neg : List Nat := [5]
/- 6: add -/
noncomputable def b_add : MSs := (.cons (.ite (.or (.cons (.call 3 (.cons (.name 5) .nil)) (.cons (.call 3 (.cons (.name 6) .nil)) .nil))) (.cons (.ret (.call 4 (.cons (.name 5) (.cons (.name 6) .nil)))) .nil) .nil) (.cons (.ite (.and (.cons (.cmp .eq (.idx (.name 5) (.cint 1)) (.cint 0)) (.cons (.cmp .eq (.idx (.name 6) (.cint 1)) (.cint 0)) .nil))) (.cons (.ret (.ife (.cmp .eq (.idx (.name 5) (.cint 0)) (.idx (.name 6) (.cint 0))) (.name 5) (.glob 0))) .nil) .nil) (.cons (.ite (.cmp .eq (.idx (.name 5) (.cint 1)) (.cint 0)) (.cons (.ret (.name 5)) .nil) .nil) (.cons (.ite (.cmp .eq (.idx (.name 6) (.cint 1)) (.cint 0)) (.cons (.ret (.name 6)) .nil) .nil) (.cons (.ret (.call 1 (.cons (.bin .add (.bin .mul (.idx (.name 5) (.cint 0)) (.idx (.name 6) (.cint 1))) (.bin .mul (.idx (.name 6) (.cint 0)) (.idx (.name 5) (.cint 1)))) (.cons (.bin .mul (.idx (.name 5) (.cint 1)) (.idx (.name 6) (.cint 1))) .nil)))) .nil)))))
noncomputable def p_add : List Nat := [5, 6]
/- 7: sub -/
noncomputable def b_sub : MSs := (.cons (.ret (.call 6 (.cons (.name 5) (.cons (.call 5 (.cons (.name 6) .nil)) .nil)))) .nil)
noncomputable def p_sub : List Nat := [5, 6]
/- 8: mul -/
noncomputable def b_mul : MSs := (.cons (.ite (.or (.cons (.call 3 (.cons (.name 5) .nil)) (.cons (.call 3 (.cons (.name 6) .nil)) .nil))) (.cons (.ret (.call 4 (.cons (.name 5) (.cons (.name 6) .nil)))) .nil) .nil) (.cons (.ret (.call 1 (.cons (.bin .mul (.idx (.name 5) (.cint 0)) (.idx (.name 6) (.cint 0))) (.cons (.bin .mul (.idx (.name 5) (.cint 1)) (.idx (.name 6) (.cint 1))) .nil)))) .nil))
noncomputable def p_mul : List Nat := [5, 6]
/- 9: div -/
noncomputable def b_div : MSs := (.cons (.ite (.or (.cons (.call 3 (.cons (.name 5) .nil)) (.cons (.call 3 (.cons (.name 6) .nil)) .nil))) (.cons (.ret (.call 4 (.cons (.name 5) (.cons (.name 6) .nil)))) .nil) .nil) (.cons (.ite (.and (.cons (.cmp .eq (.idx (.name 5) (.cint 1)) (.cint 0)) (.cons (.cmp .eq (.idx (.name 6) (.cint 1)) (.cint 0)) .nil))) (.cons (.ret (.glob 0)) .nil) .nil) (.cons (.ite (.cmp .eq (.idx (.name 5) (.cint 1)) (.cint 0)) (.cons (.ret (.ife (.cmp .lt (.idx (.name 6) (.cint 0)) (.cint 0)) (.call 5 (.cons (.name 5) .nil)) (.name 5))) .nil) .nil) (.cons (.ret (.call 1 (.cons (.bin .mul (.idx (.name 5) (.cint 0)) (.idx (.name 6) (.cint 1))) (.cons (.bin .mul (.idx (.name 5) (.cint 1)) (.idx (.name 6) (.cint 0))) .nil)))) .nil))))
noncomputable def p_div : List Nat := [5, 6]
/- 10: compare -/
noncomputable def b_compare : MSs := (.cons (.ite (.or (.cons (.call 3 (.cons (.name 5) .nil)) (.cons (.call 3 (.cons (.name 6) .nil)) .nil))) (.cons (.ret .cnone) .nil) .nil) (.cons (.ite (.and (.cons (.cmp .eq (.idx (.name 5) (.cint 1)) (.cint 0)) (.cons (.cmp .eq (.idx (.name 6) (.cint 1)) (.cint 0)) .nil))) (.cons (.assign 7 (.idx (.name 5) (.cint 0))) (.cons (.assign 8 (.idx (.name 6) (.cint 0))) .nil)) (.cons (.assign 7 (.bin .mul (.idx (.name 5) (.cint 0)) (.idx (.name 6) (.cint 1)))) (.cons (.assign 8 (.bin .mul (.idx (.name 6) (.cint 0)) (.idx (.name 5) (.cint 1)))) (.cons (.ite (.cmp .eq (.idx (.name 5) (.cint 1)) (.cint 0)) (.cons (.assign 7 (.idx (.name 5) (.cint 0))) (.cons (.assign 8 (.cint 0)) .nil)) (.cons (.ite (.cmp .eq (.idx (.name 6) (.cint 1)) (.cint 0)) (.cons (.assign 7 (.cint 0)) (.cons (.assign 8 (.idx (.name 6) (.cint 0))) .nil)) .nil) .nil)) .nil)))) (.cons (.ite (.cmp .eq (.name 7) (.name 8)) (.cons (.ret (.cint 0)) .nil) .nil) (.cons (.ret (.ife (.cmp .lt (.name 7) (.name 8)) (.neg (.cint 1)) (.cint 1))) .nil))))
noncomputable def p_compare : List Nat := [5, 6]
/- 11: is_lacking -/
noncomputable def b_is_lacking : MSs := (.cons (.ite (.cmp .eq (.name 9) (.cstr 7)) (.cons (.ret (.call 3 (.cons (.name 10) .nil))) .nil) .nil) (.cons (.ret (.cmp .isNone (.name 10) .cnone)) .nil))
noncomputable def p_is_lacking : List Nat := [9, 10]
/- 12: summed_kind -/
noncomputable def b_summed_kind : MSs := (.cons (.assign 13 (.cstr 8)) (.cons (.for 14 (.name 11) (.cons (.ite (.and (.cons (.cmp .eq (.kind (.name 14)) (.cstr 6)) (.cons (.name 12) .nil))) (.cons (.assign 13 (.cstr 6)) .nil) (.cons (.ite (.cmp .eq (.kind (.name 14)) (.cstr 7)) (.cons (.ite (.cmp .eq (.name 13) (.cstr 8)) (.cons (.assign 13 (.cstr 7)) .nil) .nil) .nil) (.cons (.ite (.cmp .notIn (.kind (.name 14)) (.tup (.cons (.cstr 5) (.cons (.cstr 10) (.cons (.cstr 8) .nil))))) (.cons .raise .nil) .nil) .nil)) .nil)) .nil)) (.cons (.ret (.name 13)) .nil)))
noncomputable def p_summed_kind : List Nat := [11, 12]
/- 13: kept_items -/
noncomputable def b_kept_items : MSs := (.cons (.ite (.cmp .eq (.kind (.name 14)) (.cstr 5)) (.cons (.ret (.lst .nil)) .nil) .nil) (.cons (.ite (.not (.name 15)) (.cons (.ret (.items (.name 14))) .nil) .nil) (.cons (.ret (.compIf 10 [14] (.items (.name 14)) (.not (.call 11 (.cons (.kind (.name 14)) (.cons (.name 10) .nil)))) (.name 10))) .nil)))
noncomputable def p_kept_items : List Nat := [14, 15]
/- 14: gathered -/
noncomputable def b_gathered : MSs := (.cons (.assign 13 .lstM) (.cons (.for 14 (.name 11) (.cons (.for 10 (.call 13 (.cons (.name 14) (.cons (.name 15) .nil))) (.cons (.ite (.and (.cons (.cmp .eq (.name 9) (.cstr 7)) (.cons (.cmp .ne (.kind (.name 14)) (.cstr 7)) .nil))) (.cons (.assign 10 (.call 2 (.cons (.name 10) .nil))) .nil) (.cons (.ite (.and (.cons (.cmp .eq (.name 9) (.cstr 6)) (.cons (.cmp .ne (.kind (.name 14)) (.cstr 6)) .nil))) (.cons (.assign 10 (.call 38 (.cons (.kind (.name 14)) (.cons (.name 10) .nil)))) .nil) .nil) .nil)) (.cons (.append 13 (.name 10)) .nil))) .nil)) (.cons (.ret (.freeze (.name 13))) .nil)))
noncomputable def p_gathered : List Nat := [11, 9, 15]
/- 15: double_sum -/
noncomputable def b_double_sum : MSs := (.cons (.assign 17 (.glob 2)) (.cons (.for 10 (.name 16) (.cons (.assign 17 (.call 6 (.cons (.name 17) (.cons (.name 10) .nil)))) .nil)) (.cons (.ret (.name 17)) .nil)))
noncomputable def p_double_sum : List Nat := [16]
/- 16: sum_of -/
noncomputable def b_sum_of : MSs := (.cons (.assign 9 (.call 12 (.cons (.name 11) (.cons (.cbool false) .nil)))) (.cons (.assign 16 (.call 14 (.cons (.name 11) (.cons (.name 9) (.cons (.name 15) .nil))))) (.cons (.ite (.cmp .eq (.name 9) (.cstr 7)) (.cons (.ret (.vector (.cstr 7) (.lst (.cons (.call 15 (.cons (.name 16) .nil)) .nil)))) .nil) .nil) (.cons (.assign 17 (.cint 0)) (.cons (.for 10 (.name 16) (.cons (.ite (.cmp .isNone (.name 10) .cnone) (.cons (.ret (.vector (.cstr 8) (.lst (.cons .cnone .nil)))) .nil) .nil) (.cons (.assign 17 (.bin .add (.name 17) (.name 10))) .nil))) (.cons (.ite (.cmp .gt (.abs (.name 17)) (.glob 4)) (.cons (.append 18 (.cstr 9)) (.cons (.assign 17 .cnone) .nil)) .nil) (.cons (.ret (.vector (.cstr 8) (.lst (.cons (.name 17) .nil)))) .nil)))))))
noncomputable def p_sum_of : List Nat := [11, 15, 18]
/- 17: prod_of -/
noncomputable def b_prod_of : MSs := (.cons (.expr (.call 12 (.cons (.name 11) (.cons (.cbool false) .nil)))) (.cons (.assign 17 (.glob 3)) (.cons (.for 10 (.call 14 (.cons (.name 11) (.cons (.cstr 7) (.cons (.name 15) .nil)))) (.cons (.assign 17 (.call 8 (.cons (.name 17) (.cons (.name 10) .nil)))) .nil)) (.cons (.ret (.vector (.cstr 7) (.lst (.cons (.name 17) .nil)))) .nil))))
noncomputable def p_prod_of : List Nat := [11, 15, 18]
/- 18: item_order -/
noncomputable def b_item_order : MSs := (.cons (.ite (.cmp .eq (.name 9) (.cstr 7)) (.cons (.ret (.call 10 (.cons (.name 0) (.cons (.name 1) .nil)))) .nil) .nil) (.cons (.ite (.cmp .eq (.name 0) (.name 1)) (.cons (.ret (.cint 0)) .nil) .nil) (.cons (.ret (.ife (.cmp .lt (.name 0) (.name 1)) (.neg (.cint 1)) (.cint 1))) .nil)))
noncomputable def p_item_order : List Nat := [9, 0, 1]
/- 19: extreme_item -/
noncomputable def b_extreme_item : MSs := (.cons (.assign 20 (.idx (.name 16) (.cint 0))) (.cons (.for 10 (.name 16) (.cons (.ite (.or (.cons (.call 11 (.cons (.name 9) (.cons (.name 20) .nil))) (.cons (.call 11 (.cons (.name 9) (.cons (.name 10) .nil))) .nil))) (.cons (.ite (.cmp .eq (.name 9) (.cstr 7)) (.cons (.assign 20 (.call 4 (.cons (.name 20) (.cons (.name 10) .nil)))) .nil) (.cons (.ret .cnone) .nil)) .nil) (.cons (.ite (.cmp .eq (.call 18 (.cons (.name 9) (.cons (.name 10) (.cons (.name 20) .nil)))) (.name 19)) (.cons (.assign 20 (.name 10)) .nil) .nil) .nil)) .nil)) (.cons (.ret (.name 20)) .nil)))
noncomputable def p_extreme_item : List Nat := [9, 16, 19]
/- 20: extreme_of -/
noncomputable def b_extreme_of : MSs := (.cons (.assign 9 (.call 12 (.cons (.name 11) (.cons (.cbool true) .nil)))) (.cons (.assign 16 (.call 14 (.cons (.name 11) (.cons (.name 9) (.cons (.name 15) .nil))))) (.cons (.ite (.name 16) (.cons (.ret (.vector (.name 9) (.lst (.cons (.call 19 (.cons (.name 9) (.cons (.name 16) (.cons (.name 19) .nil)))) .nil)))) .nil) .nil) (.cons (.ite (.cmp .gt (.name 19) (.cint 0)) (.cons (.append 18 (.cstr 11)) (.cons (.ret (.vector (.cstr 7) (.lst (.cons (.call 5 (.cons (.glob 1) .nil)) .nil)))) .nil)) .nil) (.cons (.append 18 (.cstr 12)) (.cons (.ret (.vector (.cstr 7) (.lst (.cons (.glob 1) .nil)))) .nil))))))
noncomputable def p_extreme_of : List Nat := [11, 15, 18, 19]
/- 21: max_of -/
noncomputable def b_max_of : MSs := (.cons (.ret (.call 20 (.cons (.name 11) (.cons (.name 15) (.cons (.name 18) (.cons (.cint 1) .nil)))))) .nil)
noncomputable def p_max_of : List Nat := [11, 15, 18]
/- 22: min_of -/
noncomputable def b_min_of : MSs := (.cons (.ret (.call 20 (.cons (.name 11) (.cons (.name 15) (.cons (.name 18) (.cons (.neg (.cint 1)) .nil)))))) .nil)
noncomputable def p_min_of : List Nat := [11, 15, 18]
/- 23: range_of -/
noncomputable def b_range_of : MSs := (.cons (.assign 21 (.call 22 (.cons (.name 11) (.cons (.name 15) (.cons (.name 18) .nil))))) (.cons (.assign 22 (.call 21 (.cons (.name 11) (.cons (.name 15) (.cons (.name 18) .nil))))) (.cons (.ret (.vector (.kind (.name 21)) (.bin .add (.items (.name 21)) (.items (.name 22))))) .nil)))
noncomputable def p_range_of : List Nat := [11, 15, 18]
/- 24: number_items -/
noncomputable def b_number_items : MSs := (.cons (.ite (.cmp .eq (.kind (.name 14)) (.cstr 7)) (.cons (.ret (.items (.name 14))) .nil) .nil) (.cons (.ite (.cmp .notIn (.kind (.name 14)) (.tup (.cons (.cstr 10) (.cons (.cstr 8) .nil)))) (.cons .raise .nil) .nil) (.cons (.ret (.comp 10 [] (.items (.name 14)) (.call 2 (.cons (.name 10) .nil)))) .nil)))
noncomputable def p_number_items : List Nat := [14]
/- 25: mean_items -/
noncomputable def b_mean_items : MSs := (.cons (.ite (.not (.name 16)) (.cons (.ret (.glob 0)) .nil) .nil) (.cons (.ret (.call 9 (.cons (.call 15 (.cons (.name 16) .nil)) (.cons (.call 2 (.cons (.len (.name 16)) .nil)) .nil)))) .nil))
noncomputable def p_mean_items : List Nat := [16]
/- 26: mean_of -/
noncomputable def b_mean_of : MSs := (.cons (.ret (.call 25 (.cons (.call 24 (.cons (.name 14) .nil)) .nil))) .nil)
noncomputable def p_mean_of : List Nat := [14]
/- 27: var_of -/
noncomputable def b_var_of : MSs := (.cons (.assign 16 (.call 24 (.cons (.name 14) .nil))) (.cons (.ite (.cmp .lt (.len (.name 16)) (.cint 2)) (.cons (.ret .cnone) .nil) .nil) (.cons (.assign 23 (.call 25 (.cons (.name 16) .nil))) (.cons (.assign 17 (.glob 2)) (.cons (.for 10 (.name 16) (.cons (.assign 24 (.call 7 (.cons (.name 10) (.cons (.name 23) .nil)))) (.cons (.assign 17 (.call 6 (.cons (.name 17) (.cons (.call 8 (.cons (.name 24) (.cons (.name 24) .nil))) .nil)))) .nil))) (.cons (.ret (.call 9 (.cons (.name 17) (.cons (.call 2 (.cons (.bin .sub (.len (.name 16)) (.cint 1)) .nil)) .nil)))) .nil))))))
noncomputable def p_var_of : List Nat := [14]
/- 28: _law_stock -/
noncomputable def b_law_stock : MSs := (.cons (.assign 26 .lstM) (.cons (.for 27 (.upto (.name 25) (.cint 50)) (.cons (.assign 28 (.ife (.cmp .lt (.name 27) (.cint 0)) (.bin .sub (.bin .mul (.neg (.cint 2)) (.name 27)) (.cint 1)) (.name 27))) (.cons (.append 26 (.bin .mod (.name 28) (.cint 512))) (.cons (.forR 29 (.cint 24) (.cons (.assign 28 (.bin .fdiv (.name 28) (.cint 512))) (.cons (.ite (.cmp .eq (.name 28) (.cint 0)) (.cons .brk .nil) .nil) (.cons (.append 26 (.bin .mod (.name 28) (.cint 512))) .nil)))) .nil)))) (.cons (.assign 26 (.uptoM (.name 26) (.cint 200))) (.cons (.reverse 26) (.cons (.ret (.name 26)) .nil)))))
noncomputable def p_law_stock : List Nat := [25]
/- 29: _law_take -/
noncomputable def b_law_take : MSs := (.cons (.ite (.cmp .eq (.len (.name 26)) (.cint 0)) (.cons (.ret (.cint 0)) .nil) .nil) (.cons (.ret (.bin .mod (.pop 26) (.name 30))) .nil))
noncomputable def p_law_take : List Nat := [26, 30]
/- 30: _law_lowest_terms -/
noncomputable def b_law_lowest_terms : MSs := (.cons (.assign 33 (.abs (.name 31))) (.cons (.assign 34 (.name 32)) (.cons (.while (.cmp .ne (.name 34) (.cint 0)) (.cons (.swap2 33 34 (.name 34) (.bin .mod (.name 33) (.name 34))) .nil)) (.cons (.ret (.tup (.cons (.bin .fdiv (.name 31) (.name 33)) (.cons (.bin .fdiv (.name 32) (.name 33)) .nil)))) .nil))))
noncomputable def p_law_lowest_terms : List Nat := [31, 32]
/- 31: _law_entry -/
noncomputable def b_law_entry : MSs := (.cons (.assign 36 (.call 29 (.cons (.name 26) (.cons (.cint 10) .nil)))) (.cons (.ite (.cmp .eq (.name 36) (.cint 9)) (.cons (.ret .cnone) .nil) .nil) (.cons (.ite (.cmp .eq (.name 35) (.cstr 10)) (.cons (.ret (.bin .mod (.name 36) (.cint 2))) .nil) .nil) (.cons (.ite (.cmp .eq (.name 35) (.cstr 8)) (.cons (.ret (.bin .sub (.bin .mul (.name 36) (.cint 7)) (.cint 30))) .nil) .nil) (.cons (.ite (.cmp .eq (.name 36) (.cint 8)) (.cons (.ret (.tup (.cons (.cint 0) (.cons (.cint 0) .nil)))) .nil) .nil) (.cons (.ite (.cmp .eq (.name 36) (.cint 7)) (.cons (.ret (.idx (.lst (.cons (.tup (.cons (.cint 1) (.cons (.cint 0) .nil))) (.cons (.tup (.cons (.neg (.cint 1)) (.cons (.cint 0) .nil))) .nil))) (.call 29 (.cons (.name 26) (.cons (.cint 2) .nil))))) .nil) .nil) (.cons (.ret (.call 30 (.cons (.bin .sub (.call 29 (.cons (.name 26) (.cons (.cint 40) .nil))) (.cint 15)) (.cons (.bin .add (.cint 1) (.name 36)) .nil)))) .nil)))))))
noncomputable def p_law_entry : List Nat := [26, 35]
/- 32: _law_as_pairs -/
noncomputable def b_law_as_pairs : MSs := (.cons (.assign 13 .lstM) (.cons (.for 37 (.items (.name 14)) (.cons (.ite (.or (.cons (.cmp .isNone (.name 37) .cnone) (.cons (.cmp .eq (.kind (.name 14)) (.cstr 7)) .nil))) (.cons (.append 13 (.name 37)) .nil) (.cons (.append 13 (.tup (.cons (.name 37) (.cons (.cint 1) .nil)))) .nil)) .nil)) (.cons (.ret (.freeze (.name 13))) .nil)))
noncomputable def p_law_as_pairs : List Nat := [14]
/- 33: _law_remaining -/
noncomputable def b_law_remaining : MSs := (.cons (.assign 38 (.cint 0)) (.cons (.for 14 (.name 11) (.cons (.for 37 (.items (.name 14)) (.cons (.ite (.or (.cons (.not (.name 15)) (.cons (.and (.cons (.cmp .isNotNone (.name 37) .cnone) (.cons (.cmp .ne (.name 37) (.tup (.cons (.cint 0) (.cons (.cint 0) .nil)))) .nil))) .nil))) (.cons (.aug 38 (.cint 1)) .nil) .nil) .nil)) .nil)) (.cons (.ret (.name 38)) .nil)))
noncomputable def p_law_remaining : List Nat := [11, 15]
/- 34: _law_totals_hold -/
noncomputable def b_law_totals_hold : MSs := (.cons (.assign 40 (.cmp .gt (.len (.compIf 14 [] (.name 11) (.cmp .eq (.kind (.name 14)) (.cstr 7)) (.name 14))) (.cint 0))) (.cons (.for 41 (.lst (.cons (.fnv 16) (.cons (.fnv 17) .nil))) (.cons (.assign 42 .lstM) (.cons (.assign 43 (.callV 41 (.cons (.name 11) (.cons (.name 15) (.cons (.name 42) .nil))))) (.cons (.assign 44 (.lst (.cons (.callV 41 (.cons (.upto (.name 11) (.name 39)) (.cons (.name 15) (.cons (.name 42) .nil)))) (.cons (.callV 41 (.cons (.from (.name 11) (.name 39)) (.cons (.name 15) (.cons (.name 42) .nil)))) .nil)))) (.cons (.assign 45 (.callV 41 (.cons (.name 44) (.cons (.cbool false) (.cons (.name 42) .nil))))) (.cons (.assign 46 (.callV 41 (.cons (.rev (.name 11)) (.cons (.name 15) (.cons (.name 42) .nil))))) (.cons (.ite (.or (.cons (.cmp .ne (.name 42) (.lst .nil)) (.cons (.cmp .ne (.len (.items (.name 43))) (.cint 1)) .nil))) (.cons (.ret (.cbool false)) .nil) .nil) (.cons (.ite (.or (.cons (.cmp .ne (.call 32 (.cons (.name 43) .nil)) (.call 32 (.cons (.name 45) .nil))) (.cons (.cmp .ne (.call 32 (.cons (.name 43) .nil)) (.call 32 (.cons (.name 46) .nil))) .nil))) (.cons (.ret (.cbool false)) .nil) .nil) .nil)))))))) (.cons (.assign 35 (.ife (.name 40) (.cstr 7) (.cstr 8))) (.cons (.ret (.and (.cons (.cmp .eq (.kind (.call 16 (.cons (.name 11) (.cons (.name 15) (.cons (.lst .nil) .nil))))) (.name 35)) (.cons (.cmp .eq (.kind (.call 17 (.cons (.name 11) (.cons (.name 15) (.cons (.lst .nil) .nil))))) (.cstr 7)) .nil)))) .nil))))
noncomputable def p_law_totals_hold : List Nat := [11, 39, 15]
/- 35: _law_ranges_hold -/
noncomputable def b_law_ranges_hold : MSs := (.cons (.assign 42 .lstM) (.cons (.assign 43 (.call 23 (.cons (.name 11) (.cons (.name 15) (.cons (.name 42) .nil))))) (.cons (.ite (.cmp .eq (.call 33 (.cons (.name 11) (.cons (.name 15) .nil))) (.cint 0)) (.cons (.assign 48 (.lst (.cons (.cstr 12) (.cons (.cstr 11) .nil)))) (.cons (.ret (.and (.cons (.cmp .eq (.kind (.name 43)) (.cstr 7)) (.cons (.cmp .eq (.items (.name 43)) (.lst (.cons (.tup (.cons (.cint 1) (.cons (.cint 0) .nil))) (.cons (.tup (.cons (.neg (.cint 1)) (.cons (.cint 0) .nil))) .nil)))) (.cons (.cmp .eq (.name 42) (.name 48)) .nil))))) .nil)) .nil) (.cons (.assign 44 .lstM) (.cons (.for 47 (.lst (.cons (.upto (.name 11) (.name 39)) (.cons (.from (.name 11) (.name 39)) .nil))) (.cons (.ite (.cmp .gt (.call 33 (.cons (.name 47) (.cons (.name 15) .nil))) (.cint 0)) (.cons (.append 44 (.call 23 (.cons (.name 47) (.cons (.name 15) (.cons (.name 42) .nil))))) .nil) .nil) .nil)) (.gfreeze 44 (.cons (.assign 45 (.call 23 (.cons (.name 44) (.cons (.cbool false) (.cons (.name 42) .nil))))) (.cons (.ite (.cmp .ne (.name 42) (.lst .nil)) (.cons (.ret (.cbool false)) .nil) .nil) (.cons (.ite (.cmp .eq (.kind (.name 43)) (.cstr 6)) (.cons (.ret (.and (.cons (.cmp .eq (.kind (.name 45)) (.cstr 6)) (.cons (.cmp .eq (.items (.name 43)) (.items (.name 45))) .nil)))) .nil) .nil) (.cons (.ret (.cmp .eq (.call 32 (.cons (.name 43) .nil)) (.call 32 (.cons (.name 45) .nil)))) .nil))))))))))
noncomputable def p_law_ranges_hold : List Nat := [11, 39, 15]
/- 36: _law_spread_holds -/
noncomputable def b_law_spread_holds : MSs := (.cons (.assign 49 (.call 32 (.cons (.name 14) .nil))) (.cons (.assign 17 (.idx (.call 32 (.cons (.call 16 (.cons (.lst (.cons (.name 14) .nil)) (.cons (.cbool false) (.cons (.lst .nil) .nil)))) .nil)) (.cint 0))) (.cons (.assign 23 (.call 26 (.cons (.name 14) .nil))) (.cons (.ite (.cmp .eq (.name 49) (.lst .nil)) (.cons (.ret (.and (.cons (.cmp .eq (.name 23) (.tup (.cons (.cint 0) (.cons (.cint 0) .nil)))) (.cons (.cmp .isNone (.call 27 (.cons (.name 14) .nil)) .cnone) .nil)))) .nil) .nil) (.cons (.ite (.or (.cons (.cmp .isNone (.name 17) .cnone) (.cons (.cmp .eq (.idx (.name 17) (.cint 1)) (.cint 0)) .nil))) (.cons (.ite (.cmp .ne (.name 23) (.name 17)) (.cons (.ret (.cbool false)) .nil) .nil) .nil) (.cons (.ite (.cmp .ne (.bin .mul (.bin .mul (.idx (.name 23) (.cint 0)) (.len (.name 49))) (.idx (.name 17) (.cint 1))) (.bin .mul (.idx (.name 17) (.cint 0)) (.idx (.name 23) (.cint 1)))) (.cons (.ret (.cbool false)) .nil) .nil) .nil)) (.cons (.assign 50 (.call 27 (.cons (.name 14) .nil))) (.cons (.ite (.or (.cons (.cmp .lt (.len (.name 49)) (.cint 2)) (.cons (.cmp .isIn .cnone (.name 49)) .nil))) (.cons (.ret (.cmp .isNone (.name 50) .cnone)) .nil) .nil) (.cons (.ite (.cmp .gt (.len (.compIf 37 [] (.name 49) (.cmp .eq (.idx (.name 37) (.cint 1)) (.cint 0)) (.name 37))) (.cint 0)) (.cons (.ret (.cmp .eq (.name 50) (.tup (.cons (.cint 0) (.cons (.cint 0) .nil))))) .nil) .nil) (.cons (.assign 31 (.cint 0)) (.cons (.assign 32 (.cint 1)) (.cons (.forR 51 (.len (.name 49)) (.cons (.forR 52 (.name 51) (.cons (.assign 53 (.bin .sub (.bin .mul (.idx (.idx (.name 49) (.name 51)) (.cint 0)) (.idx (.idx (.name 49) (.name 52)) (.cint 1))) (.bin .mul (.idx (.idx (.name 49) (.name 52)) (.cint 0)) (.idx (.idx (.name 49) (.name 51)) (.cint 1))))) (.cons (.assign 54 (.bin .mul (.idx (.idx (.name 49) (.name 51)) (.cint 1)) (.idx (.idx (.name 49) (.name 52)) (.cint 1)))) (.cons (.assign 31 (.bin .add (.bin .mul (.bin .mul (.name 31) (.name 54)) (.name 54)) (.bin .mul (.bin .mul (.name 53) (.name 53)) (.name 32)))) (.cons (.assign 32 (.bin .mul (.bin .mul (.name 32) (.name 54)) (.name 54))) (.cons (.unpack2 31 32 (.call 30 (.cons (.name 31) (.cons (.name 32) .nil)))) .nil)))))) .nil)) (.cons (.ret (.cmp .eq (.bin .mul (.bin .mul (.bin .mul (.idx (.name 50) (.cint 0)) (.len (.name 49))) (.bin .sub (.len (.name 49)) (.cint 1))) (.name 32)) (.bin .mul (.name 31) (.idx (.name 50) (.cint 1))))) .nil))))))))))))
noncomputable def p_law_spread_holds : List Nat := [14]
/- 37: law -/
noncomputable def b_law : MSs := (.cons (.assign 26 (.call 28 (.cons (.name 25) .nil))) (.cons (.assign 11 .lstM) (.cons (.forR 29 (.call 29 (.cons (.name 26) (.cons (.cint 5) .nil))) (.cons (.assign 35 (.idx (.lst (.cons (.cstr 10) (.cons (.cstr 8) (.cons (.cstr 7) .nil)))) (.call 29 (.cons (.name 26) (.cons (.cint 3) .nil))))) (.cons (.assign 57 (.call 29 (.cons (.name 26) (.cons (.cint 5) .nil)))) (.cons (.append 11 (.vector (.name 35) (.compR 59 [26, 35] (.name 57) (.call 31 (.cons (.name 26) (.cons (.name 35) .nil)))))) .nil)))) (.gfreeze 11 (.cons (.assign 39 (.call 29 (.cons (.name 26) (.cons (.bin .add (.len (.name 11)) (.cint 1)) .nil)))) (.cons (.assign 15 (.cmp .eq (.call 29 (.cons (.name 26) (.cons (.cint 2) .nil))) (.cint 1))) (.cons (.assignC 55 (.comp 14 [] (.name 11) (.tup (.cons (.kind (.name 14)) (.cons (.listOf (.items (.name 14))) .nil))))) (.cons (.ite (.or (.cons (.not (.call 34 (.cons (.name 11) (.cons (.name 39) (.cons (.name 15) .nil))))) (.cons (.not (.call 35 (.cons (.name 11) (.cons (.name 39) (.cons (.name 15) .nil))))) .nil))) (.cons (.ret (.cbool false)) .nil) .nil) (.cons (.for 14 (.name 11) (.cons (.ite (.not (.call 36 (.cons (.name 14) .nil))) (.cons (.ret (.cbool false)) .nil) .nil) .nil)) (.cons (.assign 56 .lstM) (.cons (.forR 29 (.call 29 (.cons (.name 26) (.cons (.cint 4) .nil))) (.cons (.assignC 58 (.compR 59 [26] (.call 29 (.cons (.name 26) (.cons (.cint 4) .nil))) (.call 29 (.cons (.name 26) (.cons (.cint 6) .nil))))) (.cons (.append 56 (.vector (.cstr 6) (.comp 36 [] (.name 58) (.idx (.lst (.cons (.cstr 0) (.cons (.cstr 3) (.cons (.cstr 2) (.cons (.cstr 4) (.cons (.cstr 1) (.cons .cnone .nil))))))) (.name 36))))) .nil))) (.gfreeze 56 (.cons (.ite (.not (.call 35 (.cons (.name 56) (.cons (.call 29 (.cons (.name 26) (.cons (.bin .add (.len (.name 56)) (.cint 1)) .nil))) (.cons (.name 15) .nil))))) (.cons (.ret (.cbool false)) .nil) .nil) (.cons (.ret (.cmp .eq (.comp 14 [] (.name 11) (.tup (.cons (.kind (.name 14)) (.cons (.listOf (.items (.name 14))) .nil)))) (.name 55))) .nil))))))))))))))
noncomputable def p_law : List Nat := [25]

/-- the program's own definition of a function -/
noncomputable def fdIn (n : Str) : List Stmt → Option (Arguments × List Stmt × Scope)
  | [] => none
  | .FunctionDef m args body _ _ _ scope _ _ _ :: r => if m == n then some (args, body, scope) else fdIn n r
  | _ :: r => fdIn n r
noncomputable def ckF (f : Nat) (m : MSs) (ps : List Nat) : Bool :=
  match fdIn (fnm f) PySem.Challenge.pw_ov0069_01.main.body with
  | some (args, body, scope) => (ckSs m scope.names body).isSome && (args.args.map (·.arg) == ps.map nm)
  | none => false
end Mine
end
/-! Head -/
section
open PySem.Calls
namespace Mine
noncomputable abbrev pw : Program := PySem.Challenge.pw_ov0069_01
/-- the defs that are looked at -/
noncomputable def vw : Program := view pw [68]
noncomputable def looseN : List Str := (["_wall", "MOST_INTEGER", "NAN", "INF", "ZERO", "ONE", "gcd", "make", "from_int", "is_na", "marked", "neg", "add", "sub", "mul", "div", "nearest_whole", "exponent", "compare", "whole_text", "special_text", "scaled", "significant", "without_tail", "scientific_text", "fixed_text", "measures", "chosen_form", "formed", "common_texts", "number_text", "to_text", "CoveError", "Refusal", "Vector", "is_lacking", "summed_kind", "kept_items", "gathered", "sum_of", "double_sum", "prod_of", "item_order", "extreme_item", "extreme_of", "max_of", "min_of", "range_of", "number_items", "mean_items", "mean_of", "var_of", "_law_stock", "_law_take", "_law_lowest_terms", "_law_entry", "_law_as_pairs", "_law_remaining", "_law_totals_hold", "_law_ranges_hold", "_law_spread_holds"] : List String).map Str.ofString
noncomputable def vbody : List Stmt := [.Assign [.Attribute (.Name "self" ⟨211, 8, 211, 12⟩) "kind" ⟨211, 8, 211, 17⟩] (.Name "kind" ⟨211, 20, 211, 24⟩) ⟨211, 8, 211, 24⟩, .Assign [.Attribute (.Name "self" ⟨212, 8, 212, 12⟩) "items" ⟨212, 8, 212, 18⟩] (.Name "items" ⟨212, 21, 212, 26⟩) ⟨212, 8, 212, 26⟩, .Assign [.Attribute (.Name "self" ⟨213, 8, 213, 12⟩) "attrs" ⟨213, 8, 213, 18⟩] (.Name "attrs" ⟨213, 21, 213, 26⟩) ⟨213, 8, 213, 26⟩, .Assign [.Attribute (.Name "self" ⟨214, 8, 214, 12⟩) "shared" ⟨214, 8, 214, 19⟩] (.Constant (.bool false) 0 ⟨214, 22, 214, 27⟩) ⟨214, 8, 214, 27⟩, .Assign [.Attribute (.Name "self" ⟨215, 8, 215, 12⟩) "loose" ⟨215, 8, 215, 18⟩] (.Constant (.bool false) 0 ⟨215, 21, 215, 26⟩) ⟨215, 8, 215, 26⟩]
noncomputable def faT : List Nat := [32, 39, 46, 53, 60, 67, 74, 81, 88, 95, 116, 274, 281, 286, 293, 307, 300, 314, 321, 328, 335, 342, 349, 356, 361, 368, 375, 382, 389, 396, 403, 410, 417, 424, 429, 436, 441, 446, 206]
noncomputable def faN (f : Nat) : Addr := faT.getD f 0
noncomputable def pmN (f : Nat) : Value := if f < 11 then .str "vectorcove.rational" 196 else if f < 28 then .str "vectorcove.summaries" 542 else if f < 38 then .str "law_ov0069_01" 706 else .str "vectorcove.coerce" 441
/-- a function's record, read off the text -/
noncomputable def fnRec (f : Nat) : FuncData := match fdIn (fnm f) pw.main.body with
  | some (args, body, scope) => docDef (fnm f) args body scope (pmN f) (.ref (faN f - 1)) .none
  | none => docDef "" ⟨[], [], none, [], [], none, []⟩ [] ⟨.function, [], false, false, []⟩ .none .none .none
noncomputable def fnObj (f : Nat) : Addr × Obj := (faN f, { cls := .type "function", data := .func (fnRec f) })
/-- the class Vector, its namespace, its __init__, and the four pairs -/
noncomputable def kF (p : Params) : Frag := (List.range 39).map fnObj ++ [
  (22, { cls := .type "tuple", data := .seq #[.int 0 198, .int 0 199] }),
  (23, { cls := .type "tuple", data := .seq #[.int 1 201, .int 0 202] }),
  (24, { cls := .type "tuple", data := .seq #[.int 0 204, .int 1 205] }),
  (25, { cls := .type "tuple", data := .seq #[.int 1 207, .int 1 208] }),
  (246, { cls := .type "tuple", data := .seq #[.none] }),
  (252, { cls := .type "code", data := .fields #[.str "__init__" 512, .str "Vector.__init__" 513, .str "/claim/cut.py" 514, .int 210 0, .int 4 0, .int 0 0, .int 0 0, .int 3 0, .ref 247, .bool true, .int 181 0, .ref 248, .none, .ref 249, .ref 250, .ref 251, .int 519 0, .int 210 0, .str "/claim/cut.py" 520] }),
  (253, { cls := .type "function", data := .func { name := "__init__", qualname := "Vector.__init__", params := ⟨[], [⟨"self", none, ⟨210, 17, 210, 21⟩⟩, ⟨"kind", none, ⟨210, 23, 210, 27⟩⟩, ⟨"items", none, ⟨210, 29, 210, 34⟩⟩, ⟨"attrs", none, ⟨210, 36, 210, 41⟩⟩], none, [], [], none, [.Constant .none 0 ⟨210, 42, 210, 46⟩]⟩, body := .stmts vbody, scope := ⟨.function, [("self", .local), ("kind", .local), ("items", .local), ("attrs", .local)], false, false, []⟩, globals := 3, closure := [], defaults := .ref 246, kwdefaults := .none, pyModule := .str "vectorcove.values" 498, code := .ref 252, builtins := builtinsNs } }),
  (262, { cls := .type "dict", data := .dict #[⟨PyData.keyHash p (Str.ofString "__module__"), .str (Str.ofString "__module__") 507, .str "vectorcove.values" 498⟩, ⟨PyData.keyHash p (Str.ofString "__firstlineno__"), .str (Str.ofString "__firstlineno__") 511, .int 208 510⟩, ⟨PyData.keyHash p (Str.ofString "__init__"), .str (Str.ofString "__init__") 521, .ref 253⟩, ⟨PyData.keyHash p (Str.ofString "copy"), .str (Str.ofString "copy") 528, .ref 260⟩, ⟨PyData.keyHash p (Str.ofString "__static_attributes__"), .str (Str.ofString "__static_attributes__") 534, .ref 261⟩, ⟨PyData.keyHash p (Str.ofString "__dict__"), .str (Str.ofString "__dict__") 536, .ref 264⟩, ⟨PyData.keyHash p (Str.ofString "__weakref__"), .str (Str.ofString "__weakref__") 538, .ref 265⟩, ⟨PyData.keyHash p (Str.ofString "__doc__"), .str (Str.ofString "__doc__") 539, .none⟩] 4 }),
  (263, { cls := .type "type", data := .cls { name := "Vector", bases := [.type "object"], mro := [.ref 263, .type "object"], ns := 262, qualname := "Vector" }, slots := #[none, none, some (.str "Vector" 500), some (.str "Vector" 508), some (.builtin "object.__new__"), some (.bool true)] })]
noncomputable abbrev kA : List Addr := faT ++ [22, 23, 24, 25, 246, 252, 253, 262, 263]
noncomputable abbrev hK : Hook := kHook kF kA (fun _ => rfl)
noncomputable def mgL : List (Str × Option Value) := [("Vector", some (.ref 263)), ("NAN", some (.ref 22)), ("INF", some (.ref 23)), ("ZERO", some (.ref 24)), ("ONE", some (.ref 25)), ("len", none), ("abs", none), ("range", none), ("list", none)]
noncomputable def cdOk (h : Heap) (a : Addr) (q : Str) : Bool := match h.get? a with
  | some ⟨_, _, .fields vs, _⟩ => (match vs.toList with | _ :: .str n _ :: _ => n == q | _ => false)
  | _ => false
theorem cdOk_rec {h : Heap} {a : Addr} {q : Str} (e : cdOk h a q = true) : h.CodeRec (.ref a) q := by
  unfold cdOk at e
  split at e
  · rename_i vs _ ho
    split at e
    · rename_i a n t r hv
      exact ⟨_, _, vs, t, rfl, ho, rfl, by rw [← Array.getElem?_toList, hv, ← beq_iff_eq.mp e]; rfl⟩
    · cases e
  · cases e
noncomputable def xt (s : Shared) : Bool := (List.range 39).all (fun f => s.heap.nsMap mainGlobals (fnm f) == some (.ref (faN f)) && cdOk s.heap (faN f - 1) (fnm f)) && mgL.all (fun x => s.heap.nsMap mainGlobals x.1 == x.2) && (match s.heap.nsMap mainGlobals "MOST_INTEGER" with | some (.int i _) => i == 2147483647 | _ => false)
noncomputable def xp (mg : Str → Option Value) (h : Heap) : Prop := (∀ f, f < 39 → mg (fnm f) = some (.ref (faN f)) ∧ h.CodeRec (.ref (faN f - 1)) (fnm f)) ∧ (∀ x ∈ mgL, mg x.1 = x.2) ∧ ∃ t, mg "MOST_INTEGER" = some (.int 2147483647 t)
theorem xt_xp (s : Shared) (h : xt s = true) : xp (s.heap.nsMap mainGlobals) s.heap := by
  unfold xt at h
  rw [Bool.and_eq_true, Bool.and_eq_true] at h
  refine ⟨fun f hf => ?_, fun x hx => beq_iff_eq.mp (List.all_eq_true.mp h.1.2 x hx), ?_⟩
  · have := List.all_eq_true.mp h.1.1 f (List.mem_range.mpr hf)
    rw [Bool.and_eq_true] at this
    exact ⟨beq_iff_eq.mp this.1, cdOk_rec this.2⟩
  · have h2 := h.2
    split at h2
    · rename_i i t e
      rw [beq_iff_eq] at h2; subst h2
      exact ⟨t, e⟩
    · cases h2
theorem xp_keeps (mg : Str → Option Value) (h h' : Heap) (x : xp mg h) (k : ∀ b o, h.get? b = some o → h'.get? b = some o) : xp mg h' := by
  refine ⟨fun f hf => ⟨(x.1 f hf).1, ?_⟩, x.2⟩
  obtain ⟨a, o, vs, t, e1, e2, e3⟩ := (x.1 f hf).2
  exact ⟨a, o, vs, t, e1, k _ _ e2, e3⟩

theorem left_of_boot {p q : Program} {loose : List Str} {Xt : Shared → Bool} {α : Type} {Yf : Shared → α} {Ya : World → α} {N : Nat} (e : opening p = plainProg p.main.scope.names) (hN : Nat.ble 600 N = true) (f : ∀ s, fenceModules? p s = some s)
    (h : ∀ (w : World) (os : OsState), (topFrom treeTable p w N ⟨boot_heap w.params, #[], boot_drawn, boot_toks, os⟩).map (fun s => (openSeen q loose (importedModules p.main.body) Xt true s, Yf s)) = some (openGood q loose, Ya w)) : LeftO p q loose Xt Yf Ya N := fun w => by
  obtain ⟨⟨h', gs, d, k, os⟩, e1, e2⟩ := Option.map_eq_some_iff.mp (boot_open (N := N) e hN f w)
  obtain ⟨rfl, rfl, rfl, rfl⟩ : h' = boot_heap w.params ∧ gs = #[] ∧ d = boot_drawn ∧ k = boot_toks := by simpa using e2
  unfold openEnds
  rw [e1]
  exact h w os
theorem open_is : opening pw = plainProg pw.main.scope.names := by rfl
theorem fence_is (s : Shared) : fenceModules? pw s = some s := by rfl
theorem left_ok : LeftO pw vw looseN xt hK.obs hK.val 5200 := left_of_boot open_is (by decide) fence_is fun w os => by kernel_rfl
theorem said_ok : PySem.Challenge.rw_ov0069_01.wellSaid = true := by decide +kernel
theorem look_ok : (chainsOk vw && opensWell pw && (frees PySem.Challenge.rw_ov0069_01.row.toRowW && PySem.Challenge.rw_ov0069_01.row.within.isEmpty)) = true := by decide +kernel
end Mine
end
/-! Fun -/
section
open PySem.Calls
namespace Mine

mutual
theorem refsBelow_mono {k l : Nat} (h : k ≤ l) : ∀ {d : AV}, refsBelow k d = true → refsBelow l d = true
  | .none, _ => rfl
  | .bool _, _ => rfl
  | .int _, _ => rfl
  | .str _, _ => rfl
  | .fn _, _ => rfl
  | .ref n, e => by
    rw [refsBelow, decide_eq_true_eq] at *
    omega
  | .tup ds, e => by rw [refsBelow] at *; exact refsBelows_mono h e
  | .list ds, e => by rw [refsBelow] at *; exact refsBelows_mono h e
  | .vec a b, e => by
    rw [refsBelow, Bool.and_eq_true] at *
    exact ⟨refsBelow_mono h e.1, refsBelow_mono h e.2⟩
theorem refsBelows_mono {k l : Nat} (h : k ≤ l) : ∀ {d : List AV}, refsBelows k d = true → refsBelows l d = true
  | [], _ => rfl
  | _ :: _, e => by
    rw [refsBelows, Bool.and_eq_true] at *
    exact ⟨refsBelow_mono h e.1, refsBelows_mono h e.2⟩
end

theorem VR.refs2 {P : Par} {F : Addr → Obj → Prop} {as : List Addr} : (∀ {v : Value} {d : AV}, VR P F as v d → refsBelow as.length d = true) ∧ (∀ {vs : List Value} {ds : List AV}, VRs P F as vs ds → refsBelows as.length ds = true) :=
  VR.both rfl (fun _ => rfl) (fun _ _ => rfl) (fun _ _ => rfl) (fun _ _ _ _ r => r) (fun _ _ _ _ r => r) (fun _ _ _ _ _ _ h5 h6 => Bool.and_eq_true_iff.mpr ⟨h5, h6⟩)
    (fun h => decide_eq_true (List.getElem?_eq_some_iff.mp h).1) (fun _ => rfl) rfl (fun _ _ h r => Bool.and_eq_true_iff.mpr ⟨h, r⟩)
theorem VR.refs {P : Par} {F : Addr → Obj → Prop} {as : List Addr} {v : Value} {d : AV} (h : VR P F as v d) : refsBelow as.length d = true := VR.refs2.1 h
theorem VRs.refs {P : Par} {F : Addr → Obj → Prop} {as : List Addr} {vs : List Value} {ds : List AV} (h : VRs P F as vs ds) : refsBelows as.length ds = true := VR.refs2.2 h

/-- what a function's end leaves: cells at k and above are dropped -/
noncomputable def Fin (σ : Sto) (Q : AV → Sto → Prop) (fl : Fl) (σ' : Sto) : Prop :=
  ∃ d k, fl = .ret d ∧ refsBelow k d = true ∧ σ.length ≤ k ∧ k ≤ σ'.length ∧ (∀ (i : Nat) ds, i < k → σ'[i]? = some (some ds) → σ[i]? = some (some ds) ∨ refsBelows k ds = true) ∧ Q d (σ'.take k)

noncomputable def bindR : List Nat → List AV → Rho → Rho
  | p :: ps, d :: ds, ρ => bindR ps ds (upd ρ p d)
  | _, _, ρ => ρ
noncomputable def rho0 : Rho := fun _ => Option.none

structure FnOk (P : Par) (hb : Heap) (f : Nat) (m : MSs) (ps : List Nat) : Prop where
  ex : ∃ (o : Obj) (fd : FuncData) (body : List Stmt), hb.get? (P.fa f) = some o ∧ o.data = .func fd ∧ hb.CodeRec fd.code fd.qualname ∧ fd.body = .stmts body ∧ fd.closure = [] ∧ fd.globals = mainGlobals ∧ fd.builtins = builtinsNs ∧
    fd.scope.kind = .function ∧ fd.scope.isCoroutine = false ∧ fd.scope.isGenerator = false ∧ CSs fd.scope.names m body ∧ (∀ vals : List Value, vals.length = ps.length → bindArgs fd ⟨vals, []⟩ = pure ((ps.map nm).zip vals)) ∧
    (∀ p ∈ ps, fd.scope.names.lookup (nm p) = some .local ∨ fd.scope.names.lookup (nm p) = some .cell)

theorem cf_has : ∀ {names : List (Str × NameKind)} {k : Nat} {acc : List (Str × Addr)} (n : Str), (names.lookup n = some .cell ∨ (acc.lookup n).isSome = true) → ((cellsFrom k names acc).lookup n).isSome = true
  | [], k, acc, n, h => by
    rcases h with h | h
    · cases h
    · exact h
  | (m, kd) :: r, k, acc, n, h => by
    unfold cellsFrom
    by_cases hk : (kd == NameKind.cell) = true
    · rw [if_pos hk]
      refine cf_has n ?_
      rw [List.lookup_cons] at h ⊢
      cases e : n == m with
      | true => right; rfl
      | false =>
        rw [e] at h
        exact h
    · rw [if_neg hk]
      refine cf_has n ?_
      rw [List.lookup_cons] at h
      cases e : n == m with
      | true =>
        rw [e] at h
        rcases h with h | h
        · cases h; exact absurd rfl hk
        · exact .inr h
      | false =>
        rw [e] at h
        exact h

section
variable {P : Par} {prog : Program} {w : World} {hb : Heap} {mg mb : Str → Option Value} {D : Nat} {Φ : Tab}

theorem bind_rel {F : Addr → Obj → Prop} {as : List Addr} {ko : Str → Option NameKind} : ∀ {ps : List Nat} {vs : List Value} {ds : List AV} {ρ : Rho} {m cm : Str → Option Value}, VRs P F as vs ds → ps.length = ds.length →
    (∀ p ∈ ps, ko (nm p) = some .local ∨ ko (nm p) = some .cell) →
    (∀ x d, ρ x = some d → ko (nm x) = some .local → ∃ v, m (nm x) = some v ∧ VR P F as v d) → (∀ x d, ρ x = some d → ko (nm x) = some .cell → ∃ v, cm (nm x) = some v ∧ VR P F as v d) → (∀ x d, ρ x = some d → ko (nm x) = some .local ∨ ko (nm x) = some .cell) →
    (∀ x d, bindR ps ds ρ x = some d → ko (nm x) = some .local → ∃ v, bindL ko ((ps.map nm).zip vs) m (nm x) = some v ∧ VR P F as v d) ∧ (∀ x d, bindR ps ds ρ x = some d → ko (nm x) = some .cell → ∃ v, bindC ko ((ps.map nm).zip vs) cm (nm x) = some v ∧ VR P F as v d) ∧
    (∀ x d, bindR ps ds ρ x = some d → ko (nm x) = some .local ∨ ko (nm x) = some .cell)
  | [], _, _, ρ, m, cm, V, hl, hp, h1, h2, h3 => by
    cases V with
    | nil => exact ⟨h1, h2, h3⟩
    | cons _ _ => cases hl
  | p :: ps, _, _, ρ, m, cm, V, hl, hp, h1, h2, h3 => by
    cases V with
    | nil => cases hl
    | @cons v vs d ds V1 V2 =>
      have hl' : ps.length = ds.length := by simpa using hl
      show (∀ x d', bindR ps ds (upd ρ p d) x = some d' → _ → ∃ v', bindL ko ((nm p, v) :: (ps.map nm).zip vs) m (nm x) = some v' ∧ _) ∧ (∀ x d', bindR ps ds (upd ρ p d) x = some d' → _ → ∃ v', bindC ko ((nm p, v) :: (ps.map nm).zip vs) cm (nm x) = some v' ∧ _) ∧ (∀ x d', bindR ps ds (upd ρ p d) x = some d' → _)
      unfold bindL bindC
      refine bind_rel V2 hl' (fun q hq => hp q (.tail _ hq)) (fun x d' e k => ?_) (fun x d' e k => ?_) (fun x d' e => ?_)
      · by_cases ne : x = p
        · subst ne
          rw [upd_same] at e; cases e
          rw [if_pos k]
          exact ⟨v, by simp, V1⟩
        · rw [upd_ne ne] at e
          obtain ⟨u, e1, U⟩ := h1 x d' e k
          refine ⟨u, ?_, U⟩
          split
          · dsimp only
            rw [if_neg (fun z => ne (nm_inj z))]; exact e1
          · exact e1
      · by_cases ne : x = p
        · subst ne
          rw [upd_same] at e; cases e
          rw [if_neg (by rw [k]; decide)]
          exact ⟨v, by simp, V1⟩
        · rw [upd_ne ne] at e
          obtain ⟨u, e1, U⟩ := h2 x d' e k
          refine ⟨u, ?_, U⟩
          split
          · exact e1
          · dsimp only
            rw [if_neg (fun z => ne (nm_inj z))]; exact e1
      · by_cases ne : x = p
        · subst ne; exact hp x (.head _)
        · rw [upd_ne ne] at e
          exact h3 x d' e

theorem aok_deeper {A : Around} (a : AOk (D + 2) A) (env : Env) : AOk (D + 1) (A.deeper env) := by
  obtain ⟨h1, h2, h3⟩ := a
  refine ⟨h1, ?_, ?_⟩
  · show A.depth + 1 + 2 * (D + 1) + 10 < _
    omega
  · show A.units + 3 + 8 * (D + 1) + 200 < _
    omega

theorem fun_code (W : Wd P prog w hb mg mb) (T : TabOk P prog w hb D Φ) {f : Nat} {m : MSs} {ps : List Nat} (O : FnOk P hb f m ps) {ds : List AV} {Q : AV → Sto → Prop} {σ : Sto} (hlen : ds.length = ps.length)
    (hq : mwps Φ m (fun fl _ σ' => Fin σ Q fl σ') (bindR ps ds rho0) σ) {A : Around} {c : Cf} {s : Shared} {vs : List Value} (a : AOk (D + 2) A) (G : Good P hb c s.heap) (hσ : c.σ = σ) (V : VRs P c.F c.as vs ds) :
    codeAny (model prog w) A (.call (.ref (P.fa f)) ⟨vs, []⟩) (fun r s' => match r with | .ok (.ret v) => Pst P hb X0 c s Q v s' | .ok _ => False | .error e => E0 e s') s := by
  obtain ⟨o, fd, body, e1, e2, e3, e4, e5, e6, e7, e8, e9, e10, e11, e12, e13⟩ := O.ex
  have hvl : vs.length = ps.length := V.length.trans hlen
  have mem : ∀ x ∈ (ps.map nm).zip vs, ∃ p ∈ ps, x.1 = nm p := fun x hx => by
    obtain ⟨n, v⟩ := x
    obtain ⟨p, hp, e⟩ := List.mem_map.mp (List.of_mem_zip hx).1
    exact ⟨p, hp, e.symm⟩
  have hroom : A.depth < recursionLimit := by have := a.2.1; omega
  refine codeAny_call_cells (fd := fd) (body := body) (binds := (ps.map nm).zip vs) hroom (G.keep _ _ e1) e2 (W.nolim.keeps G.keep) ?_ e4 (e12 vs hvl) e5 ?_ (fun s₁ X => ?_) e9 e10 e8
  · obtain ⟨a', o', vs', t, z1, z2, z3⟩ := e3
    exact ⟨a', o', vs', t, z1, G.keep _ _ z2, z3⟩
  · intro x hx
    obtain ⟨p, hp, e⟩ := mem x hx
    rw [e]
    rcases e13 p hp with k | k
    · exact .inl k
    · exact .inr ⟨k, cf_has _ (.inl k)⟩
  · generalize hE : callEnvC fd s.heap.objs.size (P.fa f) = env at X ⊢
    have hk : env.scope.kind = .function := by rw [← hE]; exact e8
    have ok : EnvOk env fd.scope.names := ⟨hk, by rw [← hE]; rfl, by rw [← hE]; exact e6, by rw [← hE]; exact e7⟩
    have hL : env.locals = s.heap.objs.size := by rw [← hE]; rfl
    have hC : env.cells = cellsFrom (s.heap.objs.size + 1) fd.scope.names [] := by rw [← hE]; rfl
    obtain ⟨B1, B2, B3⟩ := bind_rel (P := P) (ko := env.kindOf) (ρ := rho0) (m := fun _ => none) (cm := fun _ => none) V hlen.symm (fun p hp => by rw [ok.kindOf]; exact e13 p hp) (fun _ _ e => by cases e) (fun _ _ e => by cases e) (fun _ _ e => by cases e)
    have keep : ∀ b o, s.heap.get? b = some o → s₁.heap.get? b = some o := X.toInCall.keep
    have S1 : Stp X0 c s.heap c s₁.heap := Stp.grown keep
    have fresh : ∀ a, Own env a → s.heap.get? a = none := fun a o => by
      rcases o with rfl | ⟨n, e⟩
      · rw [hL]; exact none_size _
      · have := X.above n a (mem_of_lookup e)
        rw [hL] at this
        exact get_none_of_le (Nat.le_of_lt this)
    have R1 : Rst s s₁ := by
      obtain ⟨h, tk, rfl⟩ := X.toInCall.same
      exact ⟨rfl, rfl, rfl⟩
    have fr : Frm P env c s₁.heap (bindR ps ds rho0) := by
      refine ⟨⟨_, X.toInCall.ns, B1⟩, fun x d e k => ?_, B3, fun n a e => ⟨_, X.cell n a e⟩, fun n k => ?_, fun n n' a e e' => name_of_addr X.apart (mem_of_lookup e) (mem_of_lookup e'), fun a o => ?_, fun n a e => ?_⟩
      · obtain ⟨v, e', U⟩ := B2 x d e k
        have kk : fd.scope.names.lookup (nm x) = some .cell := by rw [← ok.kindOf]; exact k
        obtain ⟨a, ea⟩ := Option.isSome_iff_exists.mp (cf_has (k := s.heap.objs.size + 1) (acc := []) (nm x) (.inl kk))
        have ea' : env.cells.lookup (nm x) = some a := by rw [hC]; exact ea
        have := X.cell _ _ ea'
        rw [e'] at this
        exact ⟨a, v, ea', this, U⟩
      · rw [ok.kindOf] at k
        obtain ⟨a, ea⟩ := Option.isSome_iff_exists.mp (cf_has (k := s.heap.objs.size + 1) (acc := []) n (.inl k))
        exact ⟨a, by rw [hC]; exact ea⟩
      · have := fresh a o
        refine ⟨fun o' q => ?_, G.fresh this⟩
        have z := G.fz _ _ q
        rw [this] at z; cases z
      · exact Nat.ne_of_gt (X.above n a (mem_of_lookup e))
    refine wpAny_mono (sss W T m _ body e11 _ env c s₁ _ _ (aok_deeper a env) ok fr (G.grown keep) (by rw [hσ]; exact hq)) (fun fl s2 p => ?_) fun _ _ z => z.elim
    obtain ⟨c2, f2, ρ2, ⟨d, k, rfl, hd, k1, k2, k3, q⟩, G2, S2, R2, F2, L2⟩ := p
    cases L2 with
    | @ret v _ U =>
      have S : Stp X0 c s.heap c2 s2.heap := (Stp.grown keep |>.trans S2).weaken fun a e o => by
        rw [fresh a o] at e; cases e
      refine ⟨{ c2 with as := c2.as.take k, σ := c2.σ.take k }, d, q, ?_, ?_, R1.trans R2, ?_⟩
      · have gl : ∀ (i : Nat) (b : Addr), (c2.as.take k)[i]? = some b → i < k ∧ c2.as[i]? = some b := fun i b e => by
          rw [List.getElem?_take] at e
          split at e
          · rename_i hi; exact ⟨hi, e⟩
          · cases e
        refine ⟨G2.fz, G2.base, ?_, ?_, fun i b es eb ee => ?_, fun i b eb => G2.live i b (gl i b eb).2⟩
        · show (c2.as.take k).length = (c2.σ.take k).length
          rw [List.length_take, List.length_take, G2.len]
        · exact G2.nd.sublist (List.take_sublist _ _)
        · obtain ⟨hi, eb'⟩ := gl i b eb
          have ee' : c2.σ[i]? = some (some es) := by
            rw [List.getElem?_take, if_pos hi] at ee; exact ee
          obtain ⟨n, ws, L, U'⟩ := G2.cell i b es eb' ee'
          refine ⟨?_, ws, L, U'.lower (k := k) (fun j a' hj e => by rw [List.getElem?_take, if_pos hj]; exact e) ?_⟩
          · exact n
          · rcases k3 i es hi ee' with z | z
            · rw [← hσ] at z
              have : i < c.as.length := by rw [G.len]; exact (List.getElem?_eq_some_iff.mp z).1
              obtain ⟨n0, ws0, L0, U0⟩ := G.cell i _ es (List.getElem?_eq_getElem this) z
              have le : c.as.length ≤ k := by rw [G.len, hσ]; exact k1
              exact refsBelows_mono le U0.refs
            · exact z
      · have le : c.as.length ≤ k := by rw [G.len, hσ]; exact k1
        refine ⟨S.fle, ?_, S.fnew, S.keep, S.dom⟩
        obtain ⟨bs, z1, z2⟩ := S.ale
        refine ⟨bs.take (k - c.as.length), ?_, fun b hb' => z2 b (List.mem_of_mem_take hb')⟩
        show c2.as.take k = _
        rw [z1, List.take_append, List.take_of_length_le le]
      · exact U.lower (k := k) (fun j a' hj e => by
          show (c2.as.take k)[j]? = _
          rw [List.getElem?_take, if_pos hj]; exact e) hd

theorem fun_rule (W : Wd P prog w hb mg mb) (T : TabOk P prog w hb D Φ) {f : Nat} {m : MSs} {ps : List Nat} (O : FnOk P hb f m ps) {ds : List AV} {Q : AV → Sto → Prop} {σ : Sto} (hlen : ds.length = ps.length)
    (hq : mwps Φ m (fun fl _ σ' => Fin σ Q fl σ') (bindR ps ds rho0) σ) {A : Around} {c : Cf} {s : Shared} {vs : List Value} (a : AOk (D + 2) A) (G : Good P hb c s.heap) (hσ : c.σ = σ) (V : VRs P c.F c.as vs ds) :
    wpAny (model prog w) A (call (.ref (P.fa f)) vs) (Pst P hb X0 c s Q) E0 s :=
  wpAny_call (fun_code W T O hlen hq a G hσ V)
end

end Mine
end
/-! World -/
section
open PySem.Calls
namespace Mine

/-- binding of plain positional arguments -/
theorem zip_isSome : ∀ {ns : List Str} {vals : List Value}, ns.length = vals.length → ∀ n ∈ ns, ((ns.zip vals).lookup n).isSome = true
  | [], _, _, n, h => by cases h
  | m :: ns, [], h, _, _ => by cases h
  | m :: ns, v :: vs, h, n, hn => by
    rw [List.zip_cons_cons, List.lookup_cons]
    cases e : n == m with
    | true => rfl
    | false =>
      rcases List.mem_cons.mp hn with rfl | hn
      · simp at e
      · exact zip_isSome (by simpa using h) n hn
theorem zip_back : ∀ {ns : List Str} {vals : List Value} (pre : List (Str × Value)), ns.length = vals.length → ns.Nodup → (∀ n ∈ ns, pre.lookup n = none) → (ns.filterMap fun n => ((pre ++ ns.zip vals).lookup n).map (n, ·)) = ns.zip vals
  | [], _, _, _, _, _ => rfl
  | m :: ns, [], _, h, _, _ => by cases h
  | m :: ns, v :: vs, pre, h, nd, hp => by
    rw [List.nodup_cons] at nd
    have e : (pre ++ (m :: ns).zip (v :: vs)).lookup m = some v := by
      rw [List.lookup_append, hp m (.head _), List.zip_cons_cons, List.lookup_cons]; simp
    rw [List.filterMap_cons, e]
    show (m, v) :: _ = _
    rw [List.zip_cons_cons]
    congr 1
    have := zip_back (ns := ns) (vals := vs) (pre ++ [(m, v)]) (by simpa using h) nd.2 (fun n hn => by
      rw [List.lookup_append, hp n (.tail _ hn)]
      have : (n == m) = false := by
        rw [beq_eq_false_iff_ne]; rintro rfl; exact nd.1 hn
      simp [List.lookup_cons, this])
    rw [List.append_assoc] at this
    exact this

theorem bind_plain {fd : FuncData} {ns : List Str} {vals : List Value} (h1 : fd.params.posonlyargs = []) (h2 : fd.params.args.map (·.arg) = ns) (h3 : fd.params.vararg = none) (h4 : fd.params.kwonlyargs = []) (h5 : fd.params.kwarg = none) (h6 : fd.defaults = .none)
    (nd : ns.Nodup) (hl : vals.length = ns.length) : bindArgs fd ⟨vals, []⟩ = pure (ns.zip vals) := by
  have fm : (ns.filter fun n => ((ns.zip vals).lookup n).isNone) = [] := by
    rw [List.filter_eq_nil_iff]
    intro n hn
    have := zip_isSome hl.symm n hn
    cases e : (ns.zip vals).lookup n with
    | none => rw [e] at this; cases this
    | some v => simp
  have fb := zip_back [] hl.symm nd (fun _ _ => rfl)
  rw [List.nil_append] at fb
  unfold bindArgs
  simp only [h1, h2, h3, h4, h5, h6, List.map_nil, List.nil_append, List.append_nil, hl, gt_iff_lt, Nat.lt_irrefl, decide_false, Bool.false_and, List.forIn_nil]
  have e0 : seqItems? Value.none = pure none := rfl
  rw [e0]
  simp only [pure_bind, Option.getD_none, List.toList_toArray, List.length_nil, Nat.sub_zero, List.drop_nil, List.take_length, fm, List.isEmpty_nil, Bool.not_true, Bool.false_eq_true, if_false, List.drop_length, List.zip_nil_left, List.forIn_nil, fb]

noncomputable def plainP (p : Arguments) (ps : List Nat) : Bool := p.posonlyargs.isEmpty && p.vararg.isNone && p.kwonlyargs.isEmpty && p.kwarg.isNone && decide (p.args.map (·.arg) = ps.map nm)
noncomputable def ckG (f : Nat) (m : MSs) (ps : List Nat) : Bool := match fdIn (fnm f) pw.main.body with
  | some (args, body, scope) => (ckSs m scope.names body).isSome && (match scope.kind with | .function => true | _ => false) && !scope.isCoroutine && !scope.isGenerator && plainP args ps &&
    (ps.all fun p => (match scope.names.lookup (nm p) with | some .local => true | some .cell => true | _ => false)) && decide ps.Nodup
  | none => false

/-- the functions, by index -/
noncomputable def ptab : List (MSs × List Nat) := [(b_gcd, p_gcd), (b_make, p_make), (b_from_int, p_from_int), (b_is_na, p_is_na), (b_marked, p_marked), (b_neg, p_neg), (b_add, p_add), (b_sub, p_sub), (b_mul, p_mul), (b_div, p_div), (b_compare, p_compare), (b_is_lacking, p_is_lacking), (b_summed_kind, p_summed_kind), (b_kept_items, p_kept_items),
  (b_gathered, p_gathered), (b_double_sum, p_double_sum), (b_sum_of, p_sum_of), (b_prod_of, p_prod_of), (b_item_order, p_item_order), (b_extreme_item, p_extreme_item), (b_extreme_of, p_extreme_of), (b_max_of, p_max_of), (b_min_of, p_min_of), (b_range_of, p_range_of), (b_number_items, p_number_items),
  (b_mean_items, p_mean_items), (b_mean_of, p_mean_of), (b_var_of, p_var_of), (b_law_stock, p_law_stock), (b_law_take, p_law_take), (b_law_lowest_terms, p_law_lowest_terms), (b_law_entry, p_law_entry), (b_law_as_pairs, p_law_as_pairs), (b_law_remaining, p_law_remaining), (b_law_totals_hold, p_law_totals_hold),
  (b_law_ranges_hold, p_law_ranges_hold), (b_law_spread_holds, p_law_spread_holds), (b_law, p_law)]

noncomputable def ckAll : Bool := (List.range 38).all fun f => match ptab[f]? with
  | some (m, ps) => ckG f m ps
  | none => false
set_option maxHeartbeats 8000000 in
theorem ck_all : ckAll = true := by decide +kernel

section
variable {prog : Program} {w : World} {loose : List Str} {mean : ExcName → Option Value} {mg mb : Str → Option Value} {hb : Heap}
noncomputable abbrev parN : Par := ⟨faN, 263⟩

theorem k_fn {p : Params} {f : Nat} (hf : f < 39) : (kF p).lookup (faN f) = some { cls := .type "function", data := .func (fnRec f) } := by
  match f, hf with
  | 0, _ => rfl
  | 1, _ => rfl
  | 2, _ => rfl
  | 3, _ => rfl
  | 4, _ => rfl
  | 5, _ => rfl
  | 6, _ => rfl
  | 7, _ => rfl
  | 8, _ => rfl
  | 9, _ => rfl
  | 10, _ => rfl
  | 11, _ => rfl
  | 12, _ => rfl
  | 13, _ => rfl
  | 14, _ => rfl
  | 15, _ => rfl
  | 16, _ => rfl
  | 17, _ => rfl
  | 18, _ => rfl
  | 19, _ => rfl
  | 20, _ => rfl
  | 21, _ => rfl
  | 22, _ => rfl
  | 23, _ => rfl
  | 24, _ => rfl
  | 25, _ => rfl
  | 26, _ => rfl
  | 27, _ => rfl
  | 28, _ => rfl
  | 29, _ => rfl
  | 30, _ => rfl
  | 31, _ => rfl
  | 32, _ => rfl
  | 33, _ => rfl
  | 34, _ => rfl
  | 35, _ => rfl
  | 36, _ => rfl
  | 37, _ => rfl
  | 38, _ => rfl
  | f + 39, h => omega
theorem fn_at {p : Params} (KX : (kF p).In hb) {f : Nat} (hf : f < 39) : hb.get? (faN f) = some { cls := .type "function", data := .func (fnRec f) } := KX _ _ (k_fn hf)

theorem fnOk_of {p : Params} (KX : (kF p).In hb) (X : xp mg hb) {f : Nat} {m : MSs} {ps : List Nat} (e : ptab[f]? = some (m, ps)) : FnOk parN hb f m ps := by
  have hf : f < 38 := (List.getElem?_eq_some_iff.mp e).1
  have k := List.all_eq_true.mp ck_all f (List.mem_range.mpr hf)
  rw [e] at k
  dsimp only at k
  unfold ckG at k
  cases q : fdIn (fnm f) pw.main.body with
  | none => rw [q] at k; cases k
  | some r =>
    obtain ⟨args, body, scope⟩ := r
    rw [q] at k
    simp only [Bool.and_eq_true, decide_eq_true_eq, Bool.not_eq_true'] at k
    obtain ⟨⟨⟨⟨⟨⟨r2, r3⟩, r4⟩, r5⟩, r6⟩, r7⟩, nd⟩ := k
    unfold plainP at r6
    simp only [Bool.and_eq_true, decide_eq_true_eq, List.isEmpty_iff, Option.isNone_iff_eq_none] at r6
    obtain ⟨⟨⟨⟨q1, q2⟩, q3⟩, q4⟩, q5⟩ := r6
    have e0 : fnRec f = docDef (fnm f) args body scope (pmN f) (.ref (faN f - 1)) .none := by unfold fnRec; rw [q]
    have ho := fn_at KX (f := f) (by omega)
    rw [e0] at ho
    refine ⟨_, _, body, ho, rfl, (X.1 f (by omega)).2, rfl, rfl, rfl, rfl, ?_, r4, r5, Ck.get _ r2, fun vals hl => ?_, fun p hp => ?_⟩
    · show scope.kind = .function
      revert r3
      cases scope.kind <;> intro r3 <;> first | rfl | cases r3
    · exact bind_plain (fd := docDef (fnm f) args body scope (pmN f) (.ref (faN f - 1)) .none) q1 q5 q2 q3 q4 rfl (List.Pairwise.map _ (fun a b ne e => ne (nm_inj e)) nd) (by rw [List.length_map]; exact hl)
    · have := List.all_eq_true.mp r7 p hp
      show scope.names.lookup (nm p) = _ ∨ scope.names.lookup (nm p) = _
      revert this
      cases scope.names.lookup (nm p) with
      | none => intro q; cases q
      | some k => cases k <;> intro q <;> first | exact .inl rfl | exact .inr rfl | cases q
end

/-! the class Vector -/
section vec
variable (p : Params)
noncomputable abbrev KV (p : Params) : Frag := kF p
theorem kv_makes : makesIn (KV p) 263 = true := by kernel_rfl
theorem kv_init : findIn (KV p) (.ref 263) "__init__" = some (some (.ref 253)) := by kernel_rfl
theorem kv_fn : typeIn (KV p) (.ref 253) = some (.type "function") := by kernel_rfl
theorem kv_set : findIn (KV p) (.ref 263) "__setattr__" = some (some (.builtin "object.__setattr__")) := by kernel_rfl
theorem kv_get : findIn (KV p) (.ref 263) "__getattribute__" = some (some (.builtin "object.__getattribute__")) := by kernel_rfl
theorem kv_plain : plainOver (KV p) 263 = true := by kernel_rfl
theorem kv_dict : hasDictIn (KV p) 263 = true := by kernel_rfl
theorem kv_keep : keepIn (KV p) (.ref 263) = true := by kernel_rfl
theorem kv_find (n : Str) (h : n = "kind" ∨ n = "items" ∨ n = "attrs" ∨ n = "shared" ∨ n = "loose") : findIn (KV p) (.ref 263) n = some none := by
  rcases h with rfl | rfl | rfl | rfl | rfl <;> kernel_rfl
theorem kv_take (n : Str) (h : n = "kind" ∨ n = "items" ∨ n = "attrs" ∨ n = "shared" ∨ n = "loose") : takerIn (KV p) 263 n = some none := by
  unfold takerIn; rw [kv_find p n h]; rfl
theorem kv_dflt : (KV p).lookup 246 = some { cls := .type "tuple", data := .seq #[Value.none] } := by kernel_rfl
theorem kv_code : codeIn (KV p) (.ref 252) "Vector.__init__" = true := by kernel_rfl
theorem kv_tup : (∃ t u, (KV p).lookup 22 = some { cls := .type "tuple", data := .seq #[Value.int 0 t, Value.int 0 u] }) ∧ (∃ t u, (KV p).lookup 23 = some { cls := .type "tuple", data := .seq #[Value.int 1 t, Value.int 0 u] }) ∧
    (∃ t u, (KV p).lookup 24 = some { cls := .type "tuple", data := .seq #[Value.int 0 t, Value.int 1 u] }) ∧ (∃ t u, (KV p).lookup 25 = some { cls := .type "tuple", data := .seq #[Value.int 1 t, Value.int 1 u] }) :=
  ⟨⟨198, 199, by kernel_rfl⟩, ⟨201, 202, by kernel_rfl⟩, ⟨204, 205, by kernel_rfl⟩, ⟨207, 208, by kernel_rfl⟩⟩
/-- the object of Vector.__init__ -/
noncomputable def vobj (p : Params) : Obj := ((KV p).lookup 253).getD { cls := .none, data := .plain }
noncomputable def vfd (p : Params) : FuncData := match (vobj p).data with
  | .func fd => fd
  | _ => docDef "" ⟨[], [], none, [], [], none, []⟩ [] ⟨.function, [], false, false, []⟩ .none .none .none
theorem kv_obj : (KV p).lookup 253 = some (vobj p) := by kernel_rfl
theorem vo_data : (vobj p).data = .func (vfd p) := by kernel_rfl
theorem vf_body : (vfd p).body = .stmts vbody := by kernel_rfl
theorem vf_scope : (vfd p).scope = ⟨.function, [("self", .local), ("kind", .local), ("items", .local), ("attrs", .local)], false, false, []⟩ := by kernel_rfl
theorem vf_code : (vfd p).code = .ref 252 ∧ (vfd p).qualname = "Vector.__init__" ∧ (vfd p).defaults = .ref 246 := ⟨by kernel_rfl, by kernel_rfl, by kernel_rfl⟩
theorem vf_params : (vfd p).params.posonlyargs = [] ∧ (vfd p).params.args.map (·.arg) = [("self" : Str), ("kind" : Str), ("items" : Str), ("attrs" : Str)] ∧ (vfd p).params.vararg = none ∧ (vfd p).params.kwonlyargs = [] ∧ (vfd p).params.kwarg = none := ⟨by kernel_rfl, by kernel_rfl, by kernel_rfl, by kernel_rfl, by kernel_rfl⟩

theorem vf_binds {s : Shared} (ho : s.heap.get? 246 = some { cls := .type "tuple", data := .seq #[Value.none] }) (a b c : Value) : BindsTo s (vfd p) ⟨[a, b, c], []⟩ [("self", a), ("kind", b), ("items", c), ("attrs", .none)] := by
  intro M A E Q q
  obtain ⟨h1, h2, h3, h4, h5⟩ := vf_params p
  unfold bindArgs
  simp only [h1, h2, h3, h4, h5, (vf_code p).2.2, List.map_nil, List.nil_append, List.append_nil, List.forIn_nil, pure_bind]
  have e : ∀ X : Sem (List (Str × Value)), X = pure [(("self" : Str), a), (("kind" : Str), b), (("items" : Str), c), (("attrs" : Str), .none)] → wpAny M A X Q E s := fun X e => by rw [e]; exact wpAny_pure q
  refine wpAny_bind (wpAny_seqItems ho rfl (e _ ?_))
  kernel_rfl

section
variable {prog : Program} {w : World} {A : Around} {s : Shared} {env : Env} {L x dx : Addr} {h₀ : Heap} {m : Str → Option Value}
/-- one statement self.n = e -/
theorem set_one {EE : Value → Shared → Prop} {hh : Heap} {gg : Array GenState} {dd : Drawn} {tt : Nat} {oo : OsState} {es : List DictEntry} {n : Nat} {nme : Str} {p1 p2 p3 : Pos} {e : PySem.Expr} {v : Value} {R : Flow → Shared → Prop} (hk : env.scope.kind = .function) (hL : env.locals = L) (hs : env.kindOf "self" = some .local) (F : Fr h₀ L hh m) (X₀ : (KV w.params).In h₀)
    (N : News h₀ L hh [(x, instObj 263 dx), (dx, dictOf es n)]) (hm : m "self" = some (.ref x)) (ne : x ≠ dx) (hn : nme = "kind" ∨ nme = "items" ∨ nme = "attrs" ∨ nme = "shared" ∨ nme = "loose") (hg : (getL nme es).isSome = true) (hz : es.length < 1000)
    (he : ∀ K : Value → Shared → Prop, K v ⟨hh, gg, dd, tt, oo⟩ → wpAny (model prog w) A (eval e env) K EE ⟨hh, gg, dd, tt, oo⟩) (hsw : swapsWith e (some (.Attribute (.Name "self" p1) nme p2)) p3.line env = pure false)
    (h : ∀ h' tk hsh key, Fr h₀ L h' m → News h₀ L h' [(x, instObj 263 dx), (dx, dictOf (putL nme hsh (.str nme key) v es) (putN nme es n))] → R .next ⟨h', gg, dd, tk, oo⟩) :
    wpAny (model prog w) A (exec (.Assign [.Attribute (.Name "self" p1) nme p2] e p3) env) R EE ⟨hh, gg, dd, tt, oo⟩ := by
  refine plainObj_wpAny_Assign_Attribute (he _ ?_) hsw
  refine wpAny_Name (wpAny_loadName_local hk hs (hL ▸ F.ns) hm ?_) (by decide)
  refine set_dict F X₀ N (InstAt.of_news N (.head _) (.tail _ (.head _))) rfl (kv_set _) (kv_plain _) (kv_take _ _ hn) (kv_dict _) hg rfl (.tail ne (.head (fun _ q => nomatch q))) ?_ fun h' F' N' => h h' _ _ _ F' N'
  have : ∀ (l : List DictEntry) hs k, (putL nme hs k v l).length ≤ l.length + 1 := by
    intro l hs k
    induction l with
    | nil => simp [putL]
    | cons a r ih =>
      unfold putL
      split
      · simp
      · simp only [List.length_cons]; omega
  have := this es (PyData.keyHash w.params nme) (.str nme (tt + 1))
  dsimp only
  omega

theorem vcall_ok {hb : Heap} (KX : (KV w.params).In hb) (nl : hb.NoLimit) (A : Around) (c : Cf) (s : Shared) (v1 v2 : Value) (d1 d2 : AV) (a : AOk 1 A) (G : Good parN hb c s.heap) (V1 : VR parN c.F c.as v1 d1) (V2 : VR parN c.F c.as v2 d2) :
    wpAny (model prog w) A (call (.ref parN.C) [v1, v2]) (fun v s' => ∃ c' : Cf, c'.σ = c.σ ∧ Good parN hb c' s'.heap ∧ Stp X0 c s.heap c' s'.heap ∧ Rst s s' ∧ VR parN c'.F c'.as v (.vec d1 d2)) E0 s := by
  obtain ⟨h, g, d, t, os⟩ := s
  dsimp only at G
  have X : (KV w.params).In h := KX.keeps G.keep
  refine wpAny_call (make_core (makes_of X (kv_makes _)) (looks_findIn X (kv_init _)) (fun self => bind_fn X self (kv_fn _)) (.inl rfl) ?_)
  have k2 : ∀ b o, h.get? b = some o → ((h.push emptyDict).push (instObj 263 h.objs.size)).get? b = some o := fun b o e => Heap.get?_push_of_some _ (Heap.get?_push_of_some _ e)
  have hx : ((h.push emptyDict).push (instObj 263 h.objs.size)).get? (h.objs.size + 1) = some (instObj 263 h.objs.size) := by heap_get
  have hd : ((h.push emptyDict).push (instObj 263 h.objs.size)).get? h.objs.size = some emptyDict := by heap_get
  have sz : ((h.push emptyDict).push (instObj 263 h.objs.size)).objs.size = h.objs.size + 2 := by rw [Heap.size_push, Heap.size_push]
  have nx : h.get? (h.objs.size + 1) = none := get_none_of_le (by omega)
  have nd : h.get? h.objs.size = none := get_none_of_le (by omega)
  generalize ((h.push emptyDict).push (instObj 263 h.objs.size)) = h2 at k2 hx hd sz ⊢
  generalize hxx : h.objs.size + 1 = x at hx nx ⊢
  generalize hdd : h.objs.size = dx at hx hd nd hxx sz ⊢
  have sc := vf_scope w.params
  have hroom : (A.under (.builtin "type.__call__" ⟨.ref 263 :: [v1, v2], []⟩)).depth < recursionLimit := by
    have := a.2.1
    show A.depth + 1 < _
    omega
  refine codeAny_call_def (fd := vfd w.params) (body := vbody) (binds := [("self", .ref x), ("kind", v1), ("items", v2), ("attrs", .none)]) hroom (k2 _ _ (X _ _ (kv_obj _))) (vo_data _) ((nl.keeps G.keep).keeps k2) ?_ (vf_body _) (vf_binds _ (k2 _ _ (X _ _ (kv_dflt _))) _ _ _) ?_ ?_ (fun h3 ns k3 => ?_) (by rw [sc]) (by rw [sc]) (by rw [sc])
  · rw [(vf_code _).1, (vf_code _).2.1]
    exact codeRec_of (X.keeps k2) (kv_code _)
  · rw [sc]; decide
  · rw [sc]
    intro y hy
    simp only [List.mem_cons, List.not_mem_nil, or_false] at hy
    rcases hy with rfl | rfl | rfl | rfl <;> rfl
  · generalize hE : callEnv (vfd w.params) _ 253 = env
    have hk : env.scope.kind = .function := by rw [← hE]; show (vfd w.params).scope.kind = _; rw [sc]
    have hL : env.locals = h2.objs.size := by rw [← hE]; rfl
    have hkind : ∀ n, env.kindOf n = [(("self" : Str), NameKind.local), (("kind" : Str), .local), (("items" : Str), .local), (("attrs" : Str), .local)].lookup n := fun n => by
      rw [← hE]; show (vfd w.params).scope.names.lookup n = _; rw [sc]
    have F : Fr h h2.objs.size h3 (fun y => List.lookup y ([(("self" : Str), Value.ref x), (("kind" : Str), v1), (("items" : Str), v2), (("attrs" : Str), .none)].reverse)) := ⟨ns, fun b o e => k3 b o (k2 b o e), by omega⟩
    have N : News h h2.objs.size h3 [(x, instObj 263 dx), (dx, dictOf [] 0)] := by
      intro q hq
      simp only [List.mem_cons, List.not_mem_nil, or_false] at hq
      rcases hq with rfl | rfl
      · exact ⟨k3 _ _ hx, Nat.ne_of_lt (by show x < _; omega), nx⟩
      · exact ⟨k3 _ _ hd, Nat.ne_of_lt (by show dx < _; omega), nd⟩
    have nxd : x ≠ dx := by omega
    have hse : env.kindOf "self" = some .local := by rw [hkind]; rfl
    generalize hm : (fun y => List.lookup y ([(("self" : Str), Value.ref x), (("kind" : Str), v1), (("items" : Str), v2), (("attrs" : Str), Value.none)].reverse)) = m at F
    have m1 : m "self" = some (.ref x) := by rw [← hm]; rfl
    have m2 : m "kind" = some v1 := by rw [← hm]; rfl
    have m3 : m "items" = some v2 := by rw [← hm]; rfl
    have m4 : m "attrs" = some .none := by rw [← hm]; rfl
    unfold vbody
    refine wpAny_execs_cons ?_
    refine set_one (v := v1) hk hL hse F X N m1 nxd (.inl rfl) ?_ ?_ ?_ ?_ fun h4 tk4 s4 y4 F N => ?_
    · kernel_rfl
    · exact Nat.le_of_ble_eq_true (by kernel_rfl)
    · exact (fun K q => wpAny_Name (wpAny_loadName_local hk (by rw [hkind]; rfl) (hL ▸ F.ns) m2 q) (by decide))
    · rfl
    try dsimp only
    refine wpAny_execs_cons ?_
    refine set_one (v := v2) hk hL hse F X N m1 nxd (.inr (.inl rfl)) ?_ ?_ ?_ ?_ fun h5 tk5 s5 y5 F N => ?_
    · kernel_rfl
    · exact Nat.le_of_ble_eq_true (by kernel_rfl)
    · exact (fun K q => wpAny_Name (wpAny_loadName_local hk (by rw [hkind]; rfl) (hL ▸ F.ns) m3 q) (by decide))
    · rfl
    try dsimp only
    refine wpAny_execs_cons ?_
    refine set_one (v := .none) hk hL hse F X N m1 nxd (.inr (.inr (.inl rfl))) ?_ ?_ ?_ ?_ fun h6 tk6 s6 y6 F N => ?_
    · kernel_rfl
    · exact Nat.le_of_ble_eq_true (by kernel_rfl)
    · exact (fun K q => wpAny_Name (wpAny_loadName_local hk (by rw [hkind]; rfl) (hL ▸ F.ns) m4 q) (by decide))
    · rfl
    try dsimp only
    refine wpAny_execs_cons ?_
    refine set_one (v := .bool false) hk hL hse F X N m1 nxd (.inr (.inr (.inr (.inl rfl)))) ?_ ?_ ?_ ?_ fun h7 tk7 s7 y7 F N => ?_
    · kernel_rfl
    · exact Nat.le_of_ble_eq_true (by kernel_rfl)
    · exact (fun K q => wpAny_pure q)
    · rfl
    try dsimp only
    refine wpAny_execs_cons ?_
    refine set_one (v := .bool false) hk hL hse F X N m1 nxd (.inr (.inr (.inr (.inr rfl)))) ?_ ?_ ?_ ?_ fun h8 tk8 s8 y8 F N => ?_
    · kernel_rfl
    · exact Nat.le_of_ble_eq_true (by kernel_rfl)
    · exact (fun K q => wpAny_pure q)
    · rfl
    try dsimp only
    refine wpAny_execs_nil ?_
    refine ⟨rfl, ?_⟩
    have gx := (N _ (.head _)).1
    have gd := (N _ (.tail _ (.head _))).1
    refine ⟨(c.frz x (instObj 263 dx)).frz dx _, rfl, ((G.grown F.keep).frz gx (G.fresh nx)).frz gd (G.fresh nd), ?_, ⟨rfl, rfl, rfl⟩, ?_⟩
    · refine ⟨fun b o e => .inl (.inl e), ⟨[], by simp [Cf.frz], by simp⟩, fun b o e => ?_, fun b o e _ _ => F.keep b o e, (Stp.grown (X := X0) (c := c) F.keep).dom⟩
      rcases e with (e | ⟨rfl, rfl⟩) | ⟨rfl, rfl⟩
      · exact .inl e
      · exact .inr (.inl nx)
      · exact .inr (.inl nd)
    · exact .vec (.inl (.inr ⟨rfl, rfl⟩)) (.inr ⟨rfl, rfl⟩) (by kernel_rfl) (by kernel_rfl) (V1.mono (fun _ _ e => .inl (.inl e)) fun _ _ e => e) (V2.mono (fun _ _ e => .inl (.inl e)) fun _ _ e => e)

theorem world_ok {loose : List Str} {mean : ExcName → Option Value} {mg mb : Str → Option Value} {hb : Heap} (KX : (KV w.params).In hb) (X : xp mg hb) (T : Top vw loose mean mg mb hb) : Wd parN prog w hb mg mb := by
  have mgv : ∀ {n : Str} {v : Option Value}, (n, v) ∈ mgL → mg n = v := fun e => X.2.1 _ e
  refine ⟨T.g, T.b, T.nolimit, fun f hf => (X.1 f hf).1, fun f hf h k => ?_, fun g d e => ?_, ⟨mgv (by decide), T.builtins _ (by decide)⟩, ⟨mgv (by decide), T.builtins _ (by decide)⟩, ⟨mgv (by decide), T.builtins _ (by decide)⟩, ⟨mgv (by decide), T.builtins _ (by decide)⟩,
    mgv (by decide), fun h k => keeps_K (kv_keep _) h (KX.keeps k), fun A c s v1 v2 d1 d2 a G V1 V2 => vcall_ok KX T.nolimit A c s v1 v2 d1 d2 a G V1 V2, fun A s name x dx es n v Q hn hk hx hd hg hh q => ?_⟩
  · refine ⟨.frame, .inl rfl, ?_⟩
    exact (Looks.ld (part := Option.none) (k _ _ (fn_at KX hf))).andThen .now
  · have tup : ∀ (n : Str) (a : Addr) (i j : Int) (t u : Tok), mg n = some (.ref a) → (KV w.params).lookup a = some { cls := .type "tuple", data := .seq #[Value.int i t, Value.int j u] } →
        ∃ v, mg n = some v ∧ VR parN (fun a o => hb.get? a = some o) [] v (.tup [.int i, .int j]) := fun n a i j t u e1 e2 => ⟨_, e1, .tup (vs := [.int i t, .int j u]) (KX _ _ e2) rfl rfl (.cons (.int _ _) (.cons (.int _ _) .nil))⟩
    obtain ⟨⟨t0, u0, q0⟩, ⟨t1, u1, q1⟩, ⟨t2, u2, q2⟩, ⟨t3, u3, q3⟩⟩ := kv_tup w.params
    match g, e with
    | 0, e => cases e; exact tup _ _ _ _ _ _ (mgv (by decide)) q0
    | 1, e => cases e; exact tup _ _ _ _ _ _ (mgv (by decide)) q1
    | 2, e => cases e; exact tup _ _ _ _ _ _ (mgv (by decide)) q2
    | 3, e => cases e; exact tup _ _ _ _ _ _ (mgv (by decide)) q3
    | 4, e =>
      cases e
      obtain ⟨t, q⟩ := X.2.2
      exact ⟨_, q, .int _ _⟩
    | n + 5, e => cases e
  · have hn' : name = "kind" ∨ name = "items" ∨ name = "attrs" ∨ name = "shared" ∨ name = "loose" := by
      rcases hn with e | e
      · exact .inl e
      · exact .inr (.inl e)
    exact get_value (K := KV w.params) (C := 263) (od := some (dictOf es n)) (KX.keeps hk) ⟨hx, rfl, rfl, hd⟩ (kv_get _) (findObj_own (kv_dict _) (kv_find _ _ hn') rfl hg) hh q
end
end vec
end Mine
end
/-! Conn -/
section
open PySem.Calls
namespace Mine

theorem ints_vrs {P : Par} {F : Addr → Obj → Prop} {as : List Addr} : ∀ {vs : List Value} {is : List Int}, IntsAre vs is → VRs P F as vs (is.map .int)
  | [], [], _ => .nil
  | _ :: _, [], h => by cases h
  | [], _ :: _, h => by cases h
  | v :: vs, i :: is, h => by
    first
      | (obtain ⟨⟨t, rfl⟩, r⟩ := h; exact .cons (.int _ _) (ints_vrs r))
      | (cases h; exact .cons (.int _ _) (ints_vrs (by assumption)))

/-- what the abstract side gives -/
noncomputable def LawOk (Φ : Tab) : Prop := ∀ is : List Int, is.length ≤ 63 → mwps Φ b_law (fun fl _ σ' => Fin [] (fun d _ => d = .bool true) fl σ') (bindR p_law [.list (is.map .int)] rho0) []

theorem law_run {Φ : Tab} (LO : LawOk Φ) {prog : Program} {w : World} {s : Shared} {mg mb : Str → Option Value} (W : Wd parN prog w s.heap mg mb) (T : TabOk parN prog w s.heap 74 Φ) (O : FnOk parN s.heap 37 b_law p_law) {a : Addr} {vs : List Value} {is : List Int} (hL : s.heap.IsList a vs.toArray) (hI : IntsAre vs is)
    (hl : is.length ≤ 63) : codeAny (model prog w) callerA (.call (.ref (faN 37)) ⟨[.ref a], []⟩) (fun r s' => r = .ok (.ret (.bool true)) ∧ (∀ b o, s.heap.get? b = some o → s'.heap.get? b = some o) ∧ s'.os = s.os ∧ s'.gens = s.gens) s := by
  obtain ⟨o, ho, hc, n, hd⟩ := hL
  have G : Good parN s.heap ⟨fun b o => s.heap.get? b = some o, [], []⟩ s.heap := ⟨fun _ _ e => e, fun _ _ e => e, rfl, List.nodup_nil, fun i b ds e => by simp at e, fun i b e => by simp at e⟩
  refine codeAny_mono (fun_code (c := ⟨fun b o => s.heap.get? b = some o, [], []⟩) (Q := fun d _ => d = .bool true) (ds := [.list (is.map .int)]) W T O rfl (LO is hl) ⟨rfl, by decide, by decide⟩ G rfl (.cons (.list ho hc hd (ints_vrs hI)) .nil)) fun r s' z => ?_
  match r, z with
  | .ok (.ret v), z =>
    obtain ⟨c', d, rfl, G', S, R, V⟩ := z
    cases V
    exact ⟨rfl, fun b o e => S.keep b o e (by simp) (fun q => q), R.2.2, R.1⟩

/-- the statement, from the abstract law -/
theorem claim_of {Φ : Tab} (LO : LawOk Φ) (TAB : ∀ {prog : Program} {w : World} {hb : Heap} {mg mb : Str → Option Value}, Wd parN prog w hb mg mb → (∀ f m ps, ptab[f]? = some (m, ps) → FnOk parN hb f m ps) → TabOk parN prog w hb 74 Φ) : PySem.Challenge.rw_ov0069_01.Holds := by
  refine holds_law said_ok fun said => ?_
  refine PySem.W.holds_open (r := PySem.Challenge.rw_ov0069_01.row) (q := vw) (loose := looseN) (Xt := xt) (XP := xp) (Yf := hK.obs) (Ya := hK.val) (YP := hK.says) (N := 5200) left_ok hK.of hK.keeps xt_xp xp_keeps (by rfl) (by rfl) (by rfl) (fun s e => recFacts_of (by rfl)) (by rfl) said look_ok ⟨rfl, rfl, rfl, rfl, rfl, by decide +kernel⟩ ?hw ?hc
  case hw => w_witness2
  case hc =>
    intro w s₀ s₁ mg mb G Y fa o pm cd doc dV kV ho hd hcd hD hmg hg args vals as hpre hlay hrd hwl hlo
    have KX : (kF w.params).In s₁.heap := kIn_of Y
    have XX := G.X
    have T := G.T
    have efa : fa = faN 37 := by
      have e1 : mg "law" = some (.ref fa) := hmg
      have e2 : mg "law" = some (.ref (faN 37)) := (XX.1 37 (by decide)).1
      rw [e1] at e2
      cases e2; rfl
    subst efa
    wrow_args hpre hlay hrd hwl hlo
    all_goals (
      first | refine callC_kw (enter_call ?_) | refine enter_call ?_ | refine callC_kw (enter_callW ?_) | refine enter_callW ?_ | w_how
      try refine codeAny_mono ?_ (fun _ _ g => GoodW.toG g)
      have W := world_ok (prog := pw) KX XX T
      have O : ∀ f m ps, ptab[f]? = some (m, ps) → FnOk parN s₁.heap f m ps := fun f m ps e => fnOk_of KX XX e
      refine codeAny_mono (law_run LO W (TAB W O) (O 37 _ _ rfl) (by assumption) (by assumption) (by omega)) fun r s' z => ?_
      obtain ⟨rfl, k, z2, z3⟩ := z
      refine ⟨.inl ⟨_, .bool true, [], rfl, raisesW_false ?_, .bool true, ?_, unshared_nil⟩, k, z2, z3.trans hg⟩
      · wrow_none_raised
      · wrow_post)

end Mine
end
/-! Spec -/
namespace Mine

/-- extended fractions -/
inductive X where
  | na | nan | inf (neg : Bool) | fin (r : Rat)
inductive It where
  | q (x : X) | i (n : Int) | s (k : Nat)

noncomputable def pr (a b : Int) : AV := .tup [.int a, .int b]
noncomputable def enX : X → AV
  | .na => .none
  | .nan => pr 0 0
  | .inf b => pr (if b then -1 else 1) 0
  | .fin r => pr r.num r.den
noncomputable def en : It → AV
  | .q x => enX x
  | .i n => .int n
  | .s k => .str k
noncomputable abbrev Vc := Nat × List It
noncomputable def enV (v : Vc) : AV := .vec (.str v.1) (.list (v.2.map en))
noncomputable def enVs (vs : List Vc) : AV := .list (vs.map enV)

noncomputable def lackX : X → Bool
  | .na => true
  | .nan => true
  | _ => false
noncomputable def lack : It → Bool
  | .q x => lackX x
  | _ => false
noncomputable def toX : It → X
  | .q x => x
  | .i n => .fin n
  | .s k => .fin (k : Int)
noncomputable def mkX (n d : Int) : X := if d = 0 then (if n = 0 then .nan else .inf (decide (n < 0))) else .fin (Rat.divInt n d)
noncomputable def markX (x y : X) : X := match x, y with
  | .na, _ => .na
  | _, .na => .na
  | _, _ => .nan
noncomputable def negX : X → X
  | .na => .na
  | .nan => .nan
  | .inf b => .inf (!b)
  | .fin r => .fin (-r)
noncomputable def addX (x y : X) : X := match x, y with
  | .na, _ => .na
  | _, .na => .na
  | .nan, _ => .nan
  | _, .nan => .nan
  | .inf a, .inf b => if a = b then .inf a else .nan
  | .inf a, .fin _ => .inf a
  | .fin _, .inf b => .inf b
  | .fin r, .fin s => .fin (r + s)
noncomputable def sgX (b : Bool) (r : Rat) : X := if r = 0 then .nan else .inf (b != decide (r < 0))
noncomputable def mulX (x y : X) : X := match x, y with
  | .na, _ => .na
  | _, .na => .na
  | .nan, _ => .nan
  | _, .nan => .nan
  | .inf a, .inf b => .inf (a != b)
  | .inf a, .fin s => sgX a s
  | .fin r, .inf b => sgX b r
  | .fin r, .fin s => .fin (r * s)
/-- the quotient by a positive whole number -/
noncomputable def divX (x : X) (n : Int) : X := match x with
  | .fin r => .fin (r / n)
  | x => x
noncomputable def sumX (l : List X) : X := l.foldl addX (.fin 0)
noncomputable def prodX (l : List X) : X := l.foldl mulX (.fin 1)
noncomputable def meanX (l : List X) : X := if l = [] then .nan else divX (sumX l) l.length
noncomputable def gapX (m x : X) : X := addX x (negX m)
noncomputable def varX (l : List X) : X := if l.length < 2 then .na else divX (l.foldl (fun t x => addX t (mulX (gapX (meanX l) x) (gapX (meanX l) x))) (.fin 0)) (l.length - 1 : Int)

/-- the order: what lacks stands last both ways -/
noncomputable def key (o : Int) : X → Int × Rat
  | .na => (100, 0)
  | .nan => (99, 0)
  | .inf b => (if b then -o else o, 0)
  | .fin r => (0, o * r)
noncomputable def gtX (o : Int) (x b : X) : Prop := (key o b).1 < (key o x).1 ∨ ((key o b).1 = (key o x).1 ∧ (key o b).2 < (key o x).2)
open Classical in
noncomputable def stepX (o : Int) (b x : X) : X := if gtX o x b then x else b
open Classical in
noncomputable def step (o : Int) (b x : It) : It := if gtX o (toX x) (toX b) then x else b
noncomputable def exX (o : Int) : List X → X
  | [] => .na
  | x :: l => (x :: l).foldl (stepX o) x
noncomputable def ex (o : Int) : List It → It
  | [] => .q .na
  | x :: l => (x :: l).foldl (step o) x

noncomputable def keep (skip : Bool) (it : It) : Bool := !skip || !lack it
noncomputable def conv (kind : Nat) (it : It) : It := if kind = 7 then .q (toX it) else it
noncomputable def gath (kind : Nat) (skip : Bool) (vs : List Vc) : List It := vs.flatMap fun v => (v.2.filter (keep skip)).map (conv kind)
noncomputable def skind : List Vc → Nat → Nat
  | [], f => f
  | v :: vs, f => skind vs (if v.1 = 6 then 6 else if v.1 = 7 then (if f = 8 then 7 else f) else f)
noncomputable def sk (vs : List Vc) : Nat := skind vs 8
noncomputable def isumG : List It → Int → It
  | [], t => .i t
  | .i n :: l, t => isumG l (t + n)
  | _ :: _, _ => .q .na
noncomputable def sumOf (skip : Bool) (vs : List Vc) : Vc := if sk vs = 7 then (7, [.q (sumX ((gath 7 skip vs).map toX))]) else (8, [isumG (gath (sk vs) skip vs) 0])
noncomputable def prodOf (skip : Bool) (vs : List Vc) : Vc := (7, [.q (prodX ((gath 7 skip vs).map toX))])
noncomputable def rangeOf (skip : Bool) (vs : List Vc) : Vc := if gath (sk vs) skip vs = [] then (7, [.q (.inf false), .q (.inf true)]) else (sk vs, [ex (-1) (gath (sk vs) skip vs), ex 1 (gath (sk vs) skip vs)])
noncomputable def remn (skip : Bool) : List Vc → Int
  | [] => 0
  | v :: vs => ((v.2.filter (keep skip)).length : Int) + remn skip vs

/-- the kinds -/
noncomputable def Wt (k : Nat) (it : It) : Prop := match it with
  | .q .na => k = 6 ∨ k = 7 ∨ k = 8 ∨ k = 10
  | .q _ => k = 7
  | .i _ => k = 8 ∨ k = 10
  | .s j => k = 6 ∧ j < 5
noncomputable def SzX (B : Nat) : X → Prop
  | .fin r => r.num.natAbs < 2 ^ B ∧ r.den < 2 ^ B
  | _ => True
noncomputable def SzI : It → Prop
  | .i n => n.natAbs ≤ 2000
  | _ => True

/-! the store is not read -/
theorem refs_enX {k : Nat} : ∀ x : X, refsBelow k (enX x) = true
  | .na => rfl
  | .nan => rfl
  | .inf _ => rfl
  | .fin _ => rfl
theorem refs_en {k : Nat} : ∀ x : It, refsBelow k (en x) = true
  | .q x => refs_enX x
  | .i _ => rfl
  | .s _ => rfl
theorem refs_map {α : Type} {k : Nat} {f : α → AV} (h : ∀ x, refsBelow k (f x) = true) : ∀ l : List α, refsBelows k (l.map f) = true
  | [] => rfl
  | x :: l => by rw [List.map_cons, refsBelows, h x, refs_map h l]; rfl
theorem refs_enV {k : Nat} (v : Vc) : refsBelow k (enV v) = true := by
  show (true && refsBelows k (v.2.map en)) = true
  rw [refs_map refs_en]; rfl

/-! what each function does -/
noncomputable def numK (k : Nat) : Prop := k = 7 ∨ k = 8 ∨ k = 10
/-- vectors of numbers -/
noncomputable def NumV (B : Nat) (v : Vc) : Prop := numK v.1 ∧ ∀ it ∈ v.2, Wt v.1 it ∧ SzX B (toX it) ∧ SzI it
noncomputable def TxtV (v : Vc) : Prop := v.1 = 6 ∧ ∀ it ∈ v.2, Wt 6 it
noncomputable def tot : List Vc → Nat
  | [] => 0
  | v :: vs => v.2.length + tot vs
noncomputable def NumVs (B : Nat) (vs : List Vc) : Prop := (∀ v ∈ vs, NumV B v) ∧ vs.length ≤ 16 ∧ tot vs ≤ 16
noncomputable def TxtVs (vs : List Vc) : Prop := (∀ v ∈ vs, TxtV v) ∧ vs.length ≤ 16 ∧ tot vs ≤ 16
noncomputable abbrev Tf := List AV → (AV → Sto → Prop) → Sto → Prop
noncomputable abbrev S_gcd : Tf := fun ds Q σ => ∃ a b : Int, ds = [.int a, .int b] ∧ 0 ≤ a ∧ 0 ≤ b ∧ Q (.int (Int.gcd a b)) σ
noncomputable abbrev S_make : Tf := fun ds Q σ => ∃ n d : Int, ds = [.int n, .int d] ∧ d.natAbs < bigB ∧ Q (enX (mkX n d)) σ
noncomputable abbrev S_from : Tf := fun ds Q σ => (ds = [.none] ∧ Q .none σ) ∨ ∃ n : Int, ds = [.int n] ∧ Q (pr n 1) σ
noncomputable abbrev S_isna : Tf := fun ds Q σ => ∃ x : X, ds = [enX x] ∧ Q (.bool (lackX x)) σ
noncomputable abbrev S_marked : Tf := fun ds Q σ => ∃ x y : X, ds = [enX x, enX y] ∧ Q (enX (markX x y)) σ
noncomputable abbrev S_neg : Tf := fun ds Q σ => ∃ x : X, ds = [enX x] ∧ Q (enX (negX x)) σ
noncomputable abbrev S_add : Tf := fun ds Q σ => ∃ x y : X, ds = [enX x, enX y] ∧ SzX 1900 x ∧ SzX 1900 y ∧ Q (enX (addX x y)) σ
noncomputable abbrev S_sub : Tf := fun ds Q σ => ∃ x y : X, ds = [enX x, enX y] ∧ SzX 1900 x ∧ SzX 1900 y ∧ Q (enX (gapX y x)) σ
noncomputable abbrev S_mul : Tf := fun ds Q σ => ∃ x y : X, ds = [enX x, enX y] ∧ SzX 1900 x ∧ SzX 1900 y ∧ Q (enX (mulX x y)) σ
noncomputable abbrev S_div : Tf := fun ds Q σ => ∃ (x : X) (n : Int), ds = [enX x, pr n 1] ∧ 0 < n ∧ n < 2 ^ 40 ∧ SzX 3900 x ∧ Q (enX (divX x n)) σ
noncomputable abbrev cmpI (x y : X) (K : Int → Prop) : Prop := (gtX 1 y x → K (-1)) ∧ (¬ gtX 1 y x → gtX 1 x y → K 1) ∧ (¬ gtX 1 y x → ¬ gtX 1 x y → K 0)
noncomputable abbrev S_cmp : Tf := fun ds Q σ => ∃ x y : X, ds = [enX x, enX y] ∧ lackX x = false ∧ lackX y = false ∧ SzX 1900 x ∧ SzX 1900 y ∧ cmpI x y fun c => Q (.int c) σ
noncomputable abbrev S_lacking : Tf := fun ds Q σ => ∃ k it, ds = [.str k, en it] ∧ Wt k it ∧ Q (.bool (lack it)) σ
noncomputable abbrev S_kind : Tf := fun ds Q σ => ∃ (vs : List Vc) (t : Bool), ds = [enVs vs, .bool t] ∧ (∀ v ∈ vs, numK v.1 ∨ (t = true ∧ v.1 = 6)) ∧ Q (.str (sk vs)) σ
noncomputable abbrev S_kept : Tf := fun ds Q σ => ∃ (v : Vc) (skip : Bool), ds = [enV v, .bool skip] ∧ (numK v.1 ∨ v.1 = 6) ∧ (∀ it ∈ v.2, Wt v.1 it) ∧ v.2.length ≤ 16 ∧ Q (.list ((v.2.filter (keep skip)).map en)) σ
noncomputable abbrev S_gath : Tf := fun ds Q σ => ∃ (vs : List Vc) (k : Nat) (skip : Bool), ds = [enVs vs, .str k, .bool skip] ∧ k < 13 ∧ (∀ v ∈ vs, (numK v.1 ∨ v.1 = 6) ∧ (∀ it ∈ v.2, Wt v.1 it)) ∧ (k = 7 → ∀ v ∈ vs, numK v.1) ∧ (k = 6 → ∀ v ∈ vs, v.1 = 6) ∧ tot vs ≤ 16 ∧ Q (.list ((gath k skip vs).map en)) σ
noncomputable abbrev S_dsum : Tf := fun ds Q σ => ∃ (l : List X) (B : Nat), ds = [.list (l.map enX)] ∧ (∀ x ∈ l, SzX B x) ∧ (B + 1) * l.length + 1 ≤ 1900 ∧ Q (enX (sumX l)) σ
noncomputable abbrev S_sum : Tf := fun ds Q σ => ∃ (vs : List Vc) (skip : Bool) (d : AV) (B : Nat), ds = [enVs vs, .bool skip, d] ∧ NumVs B vs ∧ 0 < B ∧ (B + 1) * tot vs + 1 ≤ 1900 ∧ Q (enV (sumOf skip vs)) σ
noncomputable abbrev S_prod : Tf := fun ds Q σ => ∃ (vs : List Vc) (skip : Bool) (d : AV) (B : Nat), ds = [enVs vs, .bool skip, d] ∧ NumVs B vs ∧ 0 < B ∧ (B + 1) * tot vs + 1 ≤ 1900 ∧ Q (enV (prodOf skip vs)) σ
noncomputable abbrev S_order : Tf := fun ds Q σ => ∃ (k : Nat) (x y : It), ds = [.str k, en x, en y] ∧ Wt k x ∧ Wt k y ∧ lack x = false ∧ lack y = false ∧ SzX 1900 (toX x) ∧ SzX 1900 (toX y) ∧ cmpI (toX x) (toX y) fun c => Q (.int c) σ
noncomputable abbrev S_exi : Tf := fun ds Q σ => ∃ (k : Nat) (l : List It) (o : Int), ds = [.str k, .list (l.map en), .int o] ∧ (o = 1 ∨ o = -1) ∧ l ≠ [] ∧ (∀ it ∈ l, Wt k it ∧ SzX 1900 (toX it)) ∧ Q (en (ex o l)) σ
/-- what the ranges take -/
noncomputable def RngVs (vs : List Vc) : Prop := ((∀ v ∈ vs, numK v.1) ∨ ∀ v ∈ vs, v.1 = 6) ∧ (∀ v ∈ vs, ∀ it ∈ v.2, Wt v.1 it ∧ SzX 1900 (toX it)) ∧ tot vs ≤ 16
noncomputable abbrev noteX (d : AV) (σ : Sto) (xs : List Nat) (K : Sto → Prop) : Prop := ∃ (n : Nat) (ns : List Nat), d = .ref n ∧ σ[n]? = some (some (ns.map .str)) ∧ ns.length + xs.length ≤ 16 ∧ K (σ.set n (some ((ns ++ xs).map .str)))
noncomputable abbrev S_exo : Tf := fun ds Q σ => ∃ (vs : List Vc) (skip : Bool) (d : AV) (o : Int), ds = [enVs vs, .bool skip, d, .int o] ∧ RngVs vs ∧ (o = 1 ∨ o = -1) ∧
  (gath (sk vs) skip vs ≠ [] → Q (enV (sk vs, [ex o (gath (sk vs) skip vs)])) σ) ∧ (gath (sk vs) skip vs = [] → noteX d σ [if o = 1 then 11 else 12] fun σ' => Q (enV (7, [.q (.inf (decide (o = 1)))])) σ')
noncomputable abbrev S_max : Tf := fun ds Q σ => ∃ a b c, ds = [a, b, c] ∧ S_exo [a, b, c, .int 1] Q σ
noncomputable abbrev S_min : Tf := fun ds Q σ => ∃ a b c, ds = [a, b, c] ∧ S_exo [a, b, c, .int (-1)] Q σ
noncomputable abbrev S_range : Tf := fun ds Q σ => ∃ (vs : List Vc) (skip : Bool) (d : AV), ds = [enVs vs, .bool skip, d] ∧ RngVs vs ∧
  (gath (sk vs) skip vs ≠ [] → Q (enV (rangeOf skip vs)) σ) ∧ (gath (sk vs) skip vs = [] → noteX d σ [12, 11] fun σ' => Q (enV (rangeOf skip vs)) σ')
noncomputable abbrev S_nums : Tf := fun ds Q σ => ∃ v : Vc, ds = [enV v] ∧ numK v.1 ∧ (∀ it ∈ v.2, Wt v.1 it) ∧ v.2.length ≤ 16 ∧ Q (.list ((v.2.map toX).map enX)) σ
noncomputable abbrev S_meani : Tf := fun ds Q σ => ∃ l : List X, ds = [.list (l.map enX)] ∧ (∀ x ∈ l, SzX 6 x) ∧ l.length ≤ 4 ∧ Q (enX (meanX l)) σ
noncomputable abbrev S_mean : Tf := fun ds Q σ => ∃ v : Vc, ds = [enV v] ∧ NumV 6 v ∧ v.2.length ≤ 4 ∧ Q (enX (meanX (v.2.map toX))) σ
noncomputable abbrev S_var : Tf := fun ds Q σ => ∃ v : Vc, ds = [enV v] ∧ NumV 6 v ∧ v.2.length ≤ 4 ∧ Q (enX (varX (v.2.map toX))) σ
noncomputable abbrev S_stock : Tf := fun ds Q σ => ∃ is : List Int, ds = [.list (is.map .int)] ∧ is.length ≤ 63 ∧ ∀ l₀ l : List Int, l.length ≤ 200 → Q (.ref (σ.length + 1)) (σ ++ [some (l₀.map .int), some (l.map .int)])
/-- the stock moves on -/
noncomputable abbrev draw (d : AV) (σ : Sto) (K : Sto → Prop) : Prop := ∃ (n : Nat) (l : List Int), d = .ref n ∧ σ[n]? = some (some (l.map .int)) ∧ l.length ≤ 200 ∧ ∀ l' : List Int, l'.length ≤ 200 → K (σ.set n (some (l'.map .int)))
noncomputable abbrev S_take : Tf := fun ds Q σ => ∃ (d : AV) (c : Int), ds = [d, .int c] ∧ 0 < c ∧ draw d σ fun σ' => ∀ r : Int, 0 ≤ r → r < c → Q (.int r) σ'
noncomputable abbrev S_low : Tf := fun ds Q σ => ∃ t b : Int, ds = [.int t, .int b] ∧ 0 < b ∧ b.natAbs < bigB ∧ Q (enX (.fin (Rat.divInt t b))) σ
noncomputable abbrev S_entry : Tf := fun ds Q σ => ∃ (d : AV) (k : Nat), ds = [d, .str k] ∧ numK k ∧ draw d σ fun σ' => ∀ it, Wt k it → SzX 6 (toX it) → SzI it → Q (en it) σ'
noncomputable abbrev S_pairs : Tf := fun ds Q σ => ∃ v : Vc, ds = [enV v] ∧ numK v.1 ∧ (∀ it ∈ v.2, Wt v.1 it) ∧ v.2.length ≤ 16 ∧ Q (.list ((v.2.map toX).map enX)) σ
noncomputable abbrev S_rem : Tf := fun ds Q σ => ∃ (vs : List Vc) (skip : Bool), ds = [enVs vs, .bool skip] ∧ (∀ v ∈ vs, ∀ it ∈ v.2, Wt v.1 it) ∧ Q (.int (remn skip vs)) σ
noncomputable abbrev S_totals : Tf := fun ds Q σ => ∃ (vs : List Vc) (cut : Int) (skip : Bool), ds = [enVs vs, .int cut, .bool skip] ∧ NumVs 6 vs ∧ 0 ≤ cut ∧ cut < 2 ^ 40 ∧ Q (.bool true) σ
noncomputable abbrev S_ranges : Tf := fun ds Q σ => ∃ (vs : List Vc) (cut : Int) (skip : Bool), ds = [enVs vs, .int cut, .bool skip] ∧ (NumVs 6 vs ∨ TxtVs vs) ∧ 0 ≤ cut ∧ cut < 2 ^ 40 ∧ Q (.bool true) σ
noncomputable abbrev S_spread : Tf := fun ds Q σ => ∃ v : Vc, ds = [enV v] ∧ NumV 6 v ∧ v.2.length ≤ 4 ∧ Q (.bool true) σ

noncomputable def Sp : Nat → Tf
  | 0 => S_gcd
  | 1 => S_make
  | 2 => S_from
  | 3 => S_isna
  | 4 => S_marked
  | 5 => S_neg
  | 6 => S_add
  | 7 => S_sub
  | 8 => S_mul
  | 9 => S_div
  | 10 => S_cmp
  | 11 => S_lacking
  | 12 => S_kind
  | 13 => S_kept
  | 14 => S_gath
  | 15 => S_dsum
  | 16 => S_sum
  | 17 => S_prod
  | 18 => S_order
  | 19 => S_exi
  | 20 => S_exo
  | 21 => S_max
  | 22 => S_min
  | 23 => S_range
  | 24 => S_nums
  | 25 => S_meani
  | 26 => S_mean
  | 27 => S_var
  | 28 => S_stock
  | 29 => S_take
  | 30 => S_low
  | 31 => S_entry
  | 32 => S_pairs
  | 33 => S_rem
  | 34 => S_totals
  | 35 => S_ranges
  | 36 => S_spread
  | _ => fun _ _ _ => False
/-- the functions below k, by their specifications -/
noncomputable def Tk (k : Nat) : Tab := fun f ds Q σ => f < k ∧ Sp f ds Q σ
section
variable {k : Nat} {ds : List AV} {Q : AV → Sto → Prop} {σ : Sto}
theorem t_gcd (h : S_gcd ds Q σ) (l : 0 < k := by decide) : Tk k 0 ds Q σ := ⟨l, h⟩
theorem t_make (h : S_make ds Q σ) (l : 1 < k := by decide) : Tk k 1 ds Q σ := ⟨l, h⟩
theorem t_from (h : S_from ds Q σ) (l : 2 < k := by decide) : Tk k 2 ds Q σ := ⟨l, h⟩
theorem t_isna (h : S_isna ds Q σ) (l : 3 < k := by decide) : Tk k 3 ds Q σ := ⟨l, h⟩
theorem t_marked (h : S_marked ds Q σ) (l : 4 < k := by decide) : Tk k 4 ds Q σ := ⟨l, h⟩
theorem t_neg (h : S_neg ds Q σ) (l : 5 < k := by decide) : Tk k 5 ds Q σ := ⟨l, h⟩
theorem t_add (h : S_add ds Q σ) (l : 6 < k := by decide) : Tk k 6 ds Q σ := ⟨l, h⟩
theorem t_sub (h : S_sub ds Q σ) (l : 7 < k := by decide) : Tk k 7 ds Q σ := ⟨l, h⟩
theorem t_mul (h : S_mul ds Q σ) (l : 8 < k := by decide) : Tk k 8 ds Q σ := ⟨l, h⟩
theorem t_div (h : S_div ds Q σ) (l : 9 < k := by decide) : Tk k 9 ds Q σ := ⟨l, h⟩
theorem t_cmp (h : S_cmp ds Q σ) (l : 10 < k := by decide) : Tk k 10 ds Q σ := ⟨l, h⟩
theorem t_lacking (h : S_lacking ds Q σ) (l : 11 < k := by decide) : Tk k 11 ds Q σ := ⟨l, h⟩
theorem t_kind (h : S_kind ds Q σ) (l : 12 < k := by decide) : Tk k 12 ds Q σ := ⟨l, h⟩
theorem t_kept (h : S_kept ds Q σ) (l : 13 < k := by decide) : Tk k 13 ds Q σ := ⟨l, h⟩
theorem t_gath (h : S_gath ds Q σ) (l : 14 < k := by decide) : Tk k 14 ds Q σ := ⟨l, h⟩
theorem t_dsum (h : S_dsum ds Q σ) (l : 15 < k := by decide) : Tk k 15 ds Q σ := ⟨l, h⟩
theorem t_sum (h : S_sum ds Q σ) (l : 16 < k := by decide) : Tk k 16 ds Q σ := ⟨l, h⟩
theorem t_prod (h : S_prod ds Q σ) (l : 17 < k := by decide) : Tk k 17 ds Q σ := ⟨l, h⟩
theorem t_order (h : S_order ds Q σ) (l : 18 < k := by decide) : Tk k 18 ds Q σ := ⟨l, h⟩
theorem t_exi (h : S_exi ds Q σ) (l : 19 < k := by decide) : Tk k 19 ds Q σ := ⟨l, h⟩
theorem t_exo (h : S_exo ds Q σ) (l : 20 < k := by decide) : Tk k 20 ds Q σ := ⟨l, h⟩
theorem t_max (h : S_max ds Q σ) (l : 21 < k := by decide) : Tk k 21 ds Q σ := ⟨l, h⟩
theorem t_min (h : S_min ds Q σ) (l : 22 < k := by decide) : Tk k 22 ds Q σ := ⟨l, h⟩
theorem t_range (h : S_range ds Q σ) (l : 23 < k := by decide) : Tk k 23 ds Q σ := ⟨l, h⟩
theorem t_nums (h : S_nums ds Q σ) (l : 24 < k := by decide) : Tk k 24 ds Q σ := ⟨l, h⟩
theorem t_meani (h : S_meani ds Q σ) (l : 25 < k := by decide) : Tk k 25 ds Q σ := ⟨l, h⟩
theorem t_mean (h : S_mean ds Q σ) (l : 26 < k := by decide) : Tk k 26 ds Q σ := ⟨l, h⟩
theorem t_var (h : S_var ds Q σ) (l : 27 < k := by decide) : Tk k 27 ds Q σ := ⟨l, h⟩
theorem t_stock (h : S_stock ds Q σ) (l : 28 < k := by decide) : Tk k 28 ds Q σ := ⟨l, h⟩
theorem t_take (h : S_take ds Q σ) (l : 29 < k := by decide) : Tk k 29 ds Q σ := ⟨l, h⟩
theorem t_low (h : S_low ds Q σ) (l : 30 < k := by decide) : Tk k 30 ds Q σ := ⟨l, h⟩
theorem t_entry (h : S_entry ds Q σ) (l : 31 < k := by decide) : Tk k 31 ds Q σ := ⟨l, h⟩
theorem t_pairs (h : S_pairs ds Q σ) (l : 32 < k := by decide) : Tk k 32 ds Q σ := ⟨l, h⟩
theorem t_rem (h : S_rem ds Q σ) (l : 33 < k := by decide) : Tk k 33 ds Q σ := ⟨l, h⟩
theorem t_totals (h : S_totals ds Q σ) (l : 34 < k := by decide) : Tk k 34 ds Q σ := ⟨l, h⟩
theorem t_ranges (h : S_ranges ds Q σ) (l : 35 < k := by decide) : Tk k 35 ds Q σ := ⟨l, h⟩
theorem t_spread (h : S_spread ds Q σ) (l : 36 < k := by decide) : Tk k 36 ds Q σ := ⟨l, h⟩
end
section
variable {σ : Sto} {Q : AV → Prop} {K : Bool → Prop} {i j a b : Int}
theorem b_addi : binA .add (.int i) (.int j) Q = Q (.int (i + j)) := rfl
theorem b_subi : binA .sub (.int i) (.int j) Q = Q (.int (i - j)) := rfl
theorem b_muli : binA .mul (.int i) (.int j) Q = (mulOk i j ∧ Q (.int (i * j))) := rfl
theorem b_divi : binA .fdiv (.int i) (.int j) Q = (j ≠ 0 ∧ j.natAbs < bigB ∧ Q (.int (Int.fdiv i j))) := rfl
theorem b_modi : binA .mod (.int i) (.int j) Q = (j ≠ 0 ∧ Q (.int (Int.fmod i j))) := rfl
theorem c_eqi : cmpA σ .eq (.int i) (.int j) K = K (decide (i = j)) := by
  show (true = true ∧ true = true ∧ _) = _
  simp only [true_and]; rfl
theorem c_nei : cmpA σ .ne (.int i) (.int j) K = K (!decide (i = j)) := by
  show (true = true ∧ true = true ∧ _) = _
  simp only [true_and]; rfl
theorem c_lti : cmpA σ .lt (.int i) (.int j) K = K (decide (i < j)) := rfl
theorem c_gti : cmpA σ .gt (.int i) (.int j) K = K (decide (j < i)) := rfl
theorem c_eqs {x y : Nat} (hx : decide (x < 13) = true) (hy : decide (y < 13) = true) : cmpA σ .eq (.str x) (.str y) K = K (decide (x = y)) := by
  show (decide (x < 13) = true ∧ decide (y < 13) = true ∧ _) = _
  simp only [hx, hy, true_and]; rfl
noncomputable def isN : AV → Bool
  | .none => true
  | _ => false
theorem c_isN {x : AV} : cmpA σ .isNone x .none K = K (isN x) := by cases x <;> rfl
theorem c_isNN {x : AV} : cmpA σ .isNotNone x .none K = K (!isN x) := by cases x <;> rfl
theorem i_pr0 : idxA (pr a b) (.int 0) Q = Q (.int a) := by
  apply propext
  constructor
  · rintro ⟨_, _, d, e, q⟩
    cases e; exact q
  · exact fun q => ⟨by decide, by decide, _, rfl, q⟩
theorem i_pr1 : idxA (pr a b) (.int 1) Q = Q (.int b) := by
  apply propext
  constructor
  · rintro ⟨_, _, d, e, q⟩
    cases e; exact q
  · exact fun q => ⟨by decide, by decide, _, rfl, q⟩
theorem n_pr : isN (pr a b) = false := rfl
theorem n_none : isN .none = true := rfl
theorem n_int : isN (.int i) = false := rfl
theorem n_str {x : Nat} : isN (.str x) = false := rfl
theorem t_bool {t : Bool} : tru σ (.bool t) = some t := rfl
theorem p_eq : AV.tup [.int a, .int b] = pr a b := rfl
end
/-! the statements, one by one -/
noncomputable def lp (Φ : Tab) (m : MSs) : (Fl → Rho → Sto → Prop) → Rho → Sto → Prop := fun Q' => mwps Φ m Q'
section
variable {Φ : Tab} {x y : Nat} {e e' c : ME} {s t m : MSs} {Q : Fl → Rho → Sto → Prop} {ρ : Rho} {σ : Sto}
theorem m_asg : mwp Φ (.assign x e) Q ρ σ = mev Φ e (fun d σ1 => Q .next (upd ρ x d) σ1) ρ σ := rfl
theorem m_asgC : mwp Φ (.assignC x e) Q ρ σ = mev Φ e (fun d σ1 => Q .next (upd ρ x d) σ1) ρ σ := rfl
theorem m_un2 : mwp Φ (.unpack2 x y e) Q ρ σ = mev Φ e (fun d σ1 => match d with
      | .tup [a, b] => Q .next (upd (upd ρ x a) y b) σ1
      | _ => False) ρ σ := rfl
theorem m_swap : mwp Φ (.swap2 x y e e') Q ρ σ = mev Φ e (fun d σ1 => mev Φ e' (fun e σ2 => Q .next (upd (upd ρ y e) x d) σ2) ρ σ1) ρ σ := rfl
theorem m_aug : mwp Φ (.aug x e) Q ρ σ = match ρ x with
      | some (.int i) => mev Φ e (fun d σ1 => match d with
        | .int j => Q .next (upd ρ x (.int (i + j))) σ1
        | _ => False) ρ σ
      | _ => False := rfl
theorem m_app : mwp Φ (.append x e) Q ρ σ = match ρ x with
      | some (.ref n) => (∃ ds, σ[n]? = some (some ds)) ∧ mev Φ e (fun d σ1 => ∃ ds, σ1[n]? = some (some ds) ∧ ds.length < lenB ∧ Q .next ρ (σ1.set n (some (ds ++ [d])))) ρ σ
      | _ => False := rfl
theorem m_revs : mwp Φ (.reverse x) Q ρ σ = match ρ x with
      | some (.ref n) => ∃ ds, σ[n]? = some (some ds) ∧ ds.length < lenB ∧ Q .next ρ (σ.set n (some ds.reverse))
      | _ => False := rfl
theorem m_expr : mwp Φ (.expr e) Q ρ σ = mev Φ e (fun _ σ1 => Q .next ρ σ1) ρ σ := rfl
theorem m_ret : mwp Φ (.ret e) Q ρ σ = mev Φ e (fun d σ1 => Q (.ret d) ρ σ1) ρ σ := rfl
theorem m_ite : mwp Φ (.ite c s t) Q ρ σ = mev Φ c (fun x σ1 => onB (tru σ1 x) fun b => if b = true then mwps Φ s Q ρ σ1 else mwps Φ t Q ρ σ1) ρ σ := rfl
theorem m_for : mwp Φ (.for x e m) Q ρ σ = mev Φ e (fun v σ1 => match v with
      | .list ds => forL x (lp Φ m) ds Q ρ σ1
      | _ => False) ρ σ := rfl
theorem m_forR : mwp Φ (.forR x e m) Q ρ σ = mev Φ e (fun v σ1 => match v with
      | .int k => 0 ≤ k ∧ k < 2 ^ 40 ∧ forL x (lp Φ m) (rangeL k) Q ρ σ1
      | _ => False) ρ σ := rfl
theorem m_brk : mwp Φ .brk Q ρ σ = Q .brk ρ σ := rfl
theorem m_raise : mwp Φ .raise Q ρ σ = False := rfl
end
end Mine
/-! Wk1 -/
namespace Mine

theorem fin0 {σ : Sto} {Q : AV → Sto → Prop} {d : AV} (r : refsBelow σ.length d = true) (q : Q d σ) : Fin σ Q (.ret d) σ :=
  ⟨d, σ.length, rfl, r, Nat.le_refl _, Nat.le_refl _, fun _ _ _ e => .inl e, by rw [List.take_length]; exact q⟩
theorem fin1 {σ τ : Sto} {Q : AV → Sto → Prop} {d : AV} (r : refsBelow σ.length d = true) (q : Q d σ) : Fin σ Q (.ret d) (σ ++ τ) :=
  ⟨d, σ.length, rfl, r, Nat.le_refl _, by simp, fun i _ h e => .inl (by rw [List.getElem?_append_left h] at e; exact e), by rw [List.take_left]; exact q⟩

theorem int_gcd_mod (a b : Int) (hb : 0 < b) : Int.gcd b (Int.fmod a b) = Int.gcd a b := by
  rw [Int.fmod_eq_emod_of_nonneg _ (Int.le_of_lt hb), Int.gcd_comm b, Int.emod_def, Int.gcd_comm, Int.gcd_comm a]
  rw [Int.mul_comm]; exact Int.gcd_sub_mul_right_right b a (a / b)
  
theorem gcd_loop {Φ : Tab} {K : Fl → Rho → Sto → Prop} {σ : Sto} : ∀ (n : Nat) (ρ : Rho) (a b : Int), 0 ≤ a → 0 ≤ b → b.toNat < n → ρ 0 = some (.int a) → ρ 1 = some (.int b) → (∀ ρ', ρ' 0 = some (.int (Int.gcd a b)) → K .next ρ' σ) →
    whlL (fun k => mtest Φ (.cmp .gt (.name 1) (.cint 0)) k) (fun Q' => mwps Φ (.cons (.swap2 0 1 (.name 1) (.bin .mod (.name 0) (.name 1))) .nil) Q') n K ρ σ
  | 0, _, _, _, _, _, h, _, _, _ => absurd h (Nat.not_lt_zero _)
  | n + 1, ρ, a, b, ha, hb, hn, e0, e1, k => by
    simp only [whlL, mtest, v_name, v_glob, v_fnv, v_cint, v_cstr, v_cbool, v_cnone, v_tup, v_lst, v_lstM, v_bin, v_neg, v_cmp, v_not, v_and, v_or, v_ife, v_idx, v_upto, v_uptoM, v_from, v_rev, v_kind, v_items, v_call, v_callV, v_vector, v_len, v_abs, v_listOf, v_pop, v_comp, v_compIf, v_compR, v_freeze, mwps, m_asg, m_ret, m_ite, m_for, m_app, m_expr, m_swap, x_while, e0, e1, c_gti, t_bool, onB_some, b_modi, decide_eq_true_eq]
    split
    · rename_i hp
      refine ⟨Int.ne_of_gt hp, gcd_loop n _ b _ hb (Int.fmod_nonneg_of_pos a hp) ?_ rfl rfl fun ρ' e => k ρ' ?_⟩
      · have := Int.fmod_lt_of_pos a hp
        omega
      · rw [e, int_gcd_mod a b hp]
    · rename_i hp
      have : b = 0 := by omega
      subst this
      refine k ρ ?_
      rw [e0, Int.gcd_zero]
      congr 2; omega

section
variable {k : Nat} {ds : List AV} {Q : AV → Sto → Prop} {σ : Sto}
theorem w_gcd (h : S_gcd ds Q σ) : mwps (Tk k) b_gcd (fun fl _ σ' => Fin σ Q fl σ') (bindR p_gcd ds rho0) σ := by
  obtain ⟨a, b, rfl, ha, hb, q⟩ := h
  simp only [b_gcd, mwps, m_asg, m_ret, m_ite, m_for, m_app, m_expr, m_swap, x_while]
  refine ⟨b.toNat + 1, gcd_loop _ _ a b ha hb (Nat.lt_succ_self _) rfl rfl fun ρ' e => ?_⟩
  simp only [v_name, v_glob, v_fnv, v_cint, v_cstr, v_cbool, v_cnone, v_tup, v_lst, v_lstM, v_bin, v_neg, v_cmp, v_not, v_and, v_or, v_ife, v_idx, v_upto, v_uptoM, v_from, v_rev, v_kind, v_items, v_call, v_callV, v_vector, v_len, v_abs, v_listOf, v_pop, v_comp, v_compIf, v_compR, v_freeze, e]
  exact fin0 rfl q

theorem make_eq {n d : Int} (hd : 0 < d) : enX (.fin (Rat.divInt n d)) = pr (Int.fdiv n (Int.gcd (if n < 0 then -n else n) d)) (Int.fdiv d (Int.gcd (if n < 0 then -n else n) d)) := by
  obtain ⟨m, rfl⟩ := Int.eq_ofNat_of_zero_le (Int.le_of_lt hd)
  have e : Int.gcd (if n < 0 then -n else n) (m : Int) = m.gcd n.natAbs := by
    rw [Nat.gcd_comm]
    split
    · rw [Int.neg_gcd]; rfl
    · rfl
  rw [e, Rat.divInt_ofNat]
  have hm : m ≠ 0 := by omega
  show pr (mkRat n m).num (mkRat n m).den = _
  rw [Rat.num_mkRat, Rat.den_mkRat, if_neg hm, if_neg hm, Int.fdiv_eq_ediv_of_nonneg _ (Int.natCast_nonneg _), Int.fdiv_eq_ediv_of_nonneg _ (Int.natCast_nonneg _)]
  rfl

theorem w_make (h : S_make ds Q σ) : mwps (Tk 1) b_make (fun fl _ σ' => Fin σ Q fl σ') (bindR p_make ds rho0) σ := by
  obtain ⟨n, d, rfl, hb, q⟩ := h
  unfold mkX at q
  simp only [b_make, p_make, bindR, mwps, m_asg, m_ret, m_ite, m_for, m_app, m_expr, m_swap, x_while, mtest, v_name, v_glob, v_fnv, v_cint, v_cstr, v_cbool, v_cnone, v_tup, v_lst, v_lstM, v_bin, v_neg, v_cmp, v_not, v_and, v_or, v_ife, v_idx, v_upto, v_uptoM, v_from, v_rev, v_kind, v_items, v_call, v_callV, v_vector, v_len, v_abs, v_listOf, v_pop, v_comp, v_compIf, v_compR, v_freeze, mevs, upd, c_eqi, c_gti, c_lti, t_bool, onB_some, Nat.reduceEqDiff, if_false, if_true, decide_eq_true_eq, gav, b_subi]
  by_cases hd : d = 0
  · subst hd
    simp only [if_true] at q ⊢
    by_cases hn : n = 0
    · subst hn; simp only [if_true] at q ⊢; exact fin0 rfl q
    · rw [if_neg hn] at q ⊢
      by_cases hp : 0 < n
      · rw [if_pos hp]
        have : ¬ n < 0 := by omega
        exact fin0 rfl (by rw [decide_eq_false this] at q; exact q)
      · rw [if_neg hp]
        have : n < 0 := by omega
        exact fin0 rfl (by rw [decide_eq_true this] at q; exact q)
  · rw [if_neg hd] at q ⊢
    have fin : ∀ n d : Int, 0 < d → d.natAbs < bigB → Q (enX (.fin (Rat.divInt n d))) σ → binA .fdiv (.int n) (.int (Int.gcd (if n < 0 then -n else n) d)) fun x => binA .fdiv (.int d) (.int (Int.gcd (if n < 0 then -n else n) d)) fun y => Fin σ Q (.ret (.tup [x, y])) σ := fun n d hd hb q => by
      have g0 : Int.gcd (if n < 0 then -n else n) d ≠ 0 := fun e => by have := (Int.gcd_eq_zero_iff.mp e).2; omega
      have gl : Int.gcd (if n < 0 then -n else n) d ≤ d.natAbs := Int.gcd_le_natAbs_right _ (by omega)
      have g1 : ((Int.gcd (if n < 0 then -n else n) d : Nat) : Int).natAbs < bigB := by
        show Int.gcd _ _ < _
        omega
      rw [make_eq hd] at q
      exact ⟨by omega, g1, by omega, g1, fin0 rfl q⟩
    by_cases hn : d < 0
    · rw [if_pos hn]
      refine t_gcd ⟨_, _, rfl, ?_, ?_, ?_⟩
      · split <;> omega
      · omega
      · simp only [upd, Nat.reduceEqDiff, if_false, if_true]
        have e : Rat.divInt n d = Rat.divInt (0 - n) (0 - d) := by rw [Int.zero_sub, Int.zero_sub, Rat.neg_divInt_neg]
        rw [e] at q
        exact fin _ _ (by omega) (by omega) q
    · rw [if_neg hn]
      refine t_gcd ⟨_, _, rfl, ?_, ?_, ?_⟩
      · split <;> omega
      · omega
      · simp only [upd, Nat.reduceEqDiff, if_false, if_true]
        exact fin _ _ (by omega) hb q

theorem w_from (h : S_from ds Q σ) : mwps (Tk 2) b_from_int (fun fl _ σ' => Fin σ Q fl σ') (bindR p_from_int ds rho0) σ := by
  rcases h with ⟨rfl, q⟩ | ⟨n, rfl, q⟩
  · simp only [b_from_int, p_from_int, bindR, mwps, m_asg, m_ret, m_ite, m_for, m_app, m_expr, m_swap, x_while, mtest, v_name, v_glob, v_fnv, v_cint, v_cstr, v_cbool, v_cnone, v_tup, v_lst, v_lstM, v_bin, v_neg, v_cmp, v_not, v_and, v_or, v_ife, v_idx, v_upto, v_uptoM, v_from, v_rev, v_kind, v_items, v_call, v_callV, v_vector, v_len, v_abs, v_listOf, v_pop, v_comp, v_compIf, v_compR, v_freeze, upd_same, c_isN, n_none, n_int, n_pr, t_bool, onB_some, if_true]
    exact fin0 rfl q
  · simp only [b_from_int, p_from_int, bindR, mwps, m_asg, m_ret, m_ite, m_for, m_app, m_expr, m_swap, x_while, mtest, v_name, v_glob, v_fnv, v_cint, v_cstr, v_cbool, v_cnone, v_tup, v_lst, v_lstM, v_bin, v_neg, v_cmp, v_not, v_and, v_or, v_ife, v_idx, v_upto, v_uptoM, v_from, v_rev, v_kind, v_items, v_call, v_callV, v_vector, v_len, v_abs, v_listOf, v_pop, v_comp, v_compIf, v_compR, v_freeze, mevs, upd_same, c_isN, n_none, n_int, n_pr, t_bool, onB_some]
    exact fin0 rfl q

/-- the two numbers of a pair -/
noncomputable def nu : X → Int
  | .inf b => if b then -1 else 1
  | .fin r => r.num
  | _ => 0
noncomputable def de : X → Int
  | .fin r => r.den
  | _ => 0
theorem enX_pr {x : X} (h : x ≠ .na) : enX x = pr (nu x) (de x) := by cases x <;> first | rfl | exact absurd rfl h
theorem lack_pr {x : X} (h : x ≠ .na) : lackX x = (decide (nu x = 0) && decide (de x = 0)) := by
  cases x with
  | na => exact absurd rfl h
  | nan => rfl
  | inf b => cases b <;> rfl
  | fin r =>
    have : (r.den : Int) ≠ 0 := by have := r.den_nz; omega
    show false = (_ && decide ((r.den : Int) = 0))
    rw [decide_eq_false this, Bool.and_false]

theorem w_isna (h : S_isna ds Q σ) : mwps (Tk 3) b_is_na (fun fl _ σ' => Fin σ Q fl σ') (bindR p_is_na ds rho0) σ := by
  obtain ⟨x, rfl, q⟩ := h
  by_cases hx : x = .na
  · subst hx
    simp only [b_is_na, p_is_na, bindR, mwps, m_asg, m_ret, m_ite, m_for, m_app, m_expr, m_swap, x_while, v_name, v_glob, v_fnv, v_cint, v_cstr, v_cbool, v_cnone, v_tup, v_lst, v_lstM, v_bin, v_neg, v_cmp, v_not, v_and, v_or, v_ife, v_idx, v_upto, v_uptoM, v_from, v_rev, v_kind, v_items, v_call, v_callV, v_vector, v_len, v_abs, v_listOf, v_pop, v_comp, v_compIf, v_compR, v_freeze, mor, mand, upd_same, enX, c_isN, n_none, n_pr, t_bool, onB_some, if_true]
    exact fin0 rfl q
  · rw [lack_pr hx] at q
    rw [enX_pr hx]
    simp only [b_is_na, p_is_na, bindR, mwps, m_asg, m_ret, m_ite, m_for, m_app, m_expr, m_swap, x_while, v_name, v_glob, v_fnv, v_cint, v_cstr, v_cbool, v_cnone, v_tup, v_lst, v_lstM, v_bin, v_neg, v_cmp, v_not, v_and, v_or, v_ife, v_idx, v_upto, v_uptoM, v_from, v_rev, v_kind, v_items, v_call, v_callV, v_vector, v_len, v_abs, v_listOf, v_pop, v_comp, v_compIf, v_compR, v_freeze, mor, mand, upd_same, c_isN, n_pr, t_bool, onB_some, i_pr0, i_pr1, c_eqi, decide_eq_true_eq, Bool.false_eq_true, if_false]
    by_cases h0 : nu x = 0
    · rw [if_pos h0]
      rw [decide_eq_true h0, Bool.true_and] at q
      exact fin0 rfl q
    · rw [if_neg h0]
      rw [decide_eq_false h0, Bool.false_and] at q
      exact fin0 rfl (by rw [decide_eq_false h0]; exact q)
theorem w_marked (h : S_marked ds Q σ) : mwps (Tk 4) b_marked (fun fl _ σ' => Fin σ Q fl σ') (bindR p_marked ds rho0) σ := by
  obtain ⟨x, y, rfl, q⟩ := h
  by_cases hx : x = .na
  · subst hx
    simp only [b_marked, p_marked, bindR, mwps, m_asg, m_ret, m_ite, m_for, m_app, m_expr, m_swap, x_while, mtest, v_name, v_glob, v_fnv, v_cint, v_cstr, v_cbool, v_cnone, v_tup, v_lst, v_lstM, v_bin, v_neg, v_cmp, v_not, v_and, v_or, v_ife, v_idx, v_upto, v_uptoM, v_from, v_rev, v_kind, v_items, v_call, v_callV, v_vector, v_len, v_abs, v_listOf, v_pop, v_comp, v_compIf, v_compR, v_freeze, mor, upd, Nat.reduceEqDiff, if_false, if_true, enX, c_isN, n_none, n_pr, t_bool, onB_some]
    exact fin0 rfl (by simpa [markX, enX] using q)
  · by_cases hy : y = .na
    · subst hy
      have : markX x .na = .na := by cases x <;> rfl
      rw [this] at q
      rw [enX_pr hx]
      simp only [b_marked, p_marked, bindR, mwps, m_asg, m_ret, m_ite, m_for, m_app, m_expr, m_swap, x_while, mtest, v_name, v_glob, v_fnv, v_cint, v_cstr, v_cbool, v_cnone, v_tup, v_lst, v_lstM, v_bin, v_neg, v_cmp, v_not, v_and, v_or, v_ife, v_idx, v_upto, v_uptoM, v_from, v_rev, v_kind, v_items, v_call, v_callV, v_vector, v_len, v_abs, v_listOf, v_pop, v_comp, v_compIf, v_compR, v_freeze, mor, upd, Nat.reduceEqDiff, if_false, if_true, enX, c_isN, n_none, n_pr, t_bool, onB_some, Bool.false_eq_true]
      exact fin0 rfl q
    · have : markX x y = .nan := by cases x <;> cases y <;> first | rfl | exact absurd rfl hx | exact absurd rfl hy
      rw [this] at q
      rw [enX_pr hx, enX_pr hy]
      simp only [b_marked, p_marked, bindR, mwps, m_asg, m_ret, m_ite, m_for, m_app, m_expr, m_swap, x_while, mtest, v_name, v_glob, v_fnv, v_cint, v_cstr, v_cbool, v_cnone, v_tup, v_lst, v_lstM, v_bin, v_neg, v_cmp, v_not, v_and, v_or, v_ife, v_idx, v_upto, v_uptoM, v_from, v_rev, v_kind, v_items, v_call, v_callV, v_vector, v_len, v_abs, v_listOf, v_pop, v_comp, v_compIf, v_compR, v_freeze, mor, upd, Nat.reduceEqDiff, if_false, if_true, c_isN, n_pr, t_bool, onB_some, Bool.false_eq_true, gav]
      exact fin0 rfl q
theorem w_neg (h : S_neg ds Q σ) : mwps (Tk 5) b_neg (fun fl _ σ' => Fin σ Q fl σ') (bindR p_neg ds rho0) σ := by
  obtain ⟨x, rfl, q⟩ := h
  by_cases hx : x = .na
  · subst hx
    simp only [b_neg, p_neg, bindR, mwps, m_asg, m_ret, m_ite, m_for, m_app, m_expr, m_swap, x_while, mtest, v_name, v_glob, v_fnv, v_cint, v_cstr, v_cbool, v_cnone, v_tup, v_lst, v_lstM, v_bin, v_neg, v_cmp, v_not, v_and, v_or, v_ife, v_idx, v_upto, v_uptoM, v_from, v_rev, v_kind, v_items, v_call, v_callV, v_vector, v_len, v_abs, v_listOf, v_pop, v_comp, v_compIf, v_compR, v_freeze, upd_same, enX, c_isN, n_none, n_pr, t_bool, onB_some, if_true]
    exact fin0 rfl q
  · have e : enX (negX x) = pr (0 - nu x) (de x) := by
      cases x with
      | na => exact absurd rfl hx
      | nan => rfl
      | inf b => cases b <;> rfl
      | fin r => show pr (-r).num (-r).den = pr (0 - r.num) r.den; rw [Rat.neg_num, Rat.neg_den, Int.zero_sub]
    rw [e] at q
    rw [enX_pr hx]
    simp only [b_neg, p_neg, bindR, mwps, m_asg, m_ret, m_ite, m_for, m_app, m_expr, m_swap, x_while, mtest, v_name, v_glob, v_fnv, v_cint, v_cstr, v_cbool, v_cnone, v_tup, v_lst, v_lstM, v_bin, v_neg, v_cmp, v_not, v_and, v_or, v_ife, v_idx, v_upto, v_uptoM, v_from, v_rev, v_kind, v_items, v_call, v_callV, v_vector, v_len, v_abs, v_listOf, v_pop, v_comp, v_compIf, v_compR, v_freeze, mevs, upd_same, c_isN, n_pr, t_bool, onB_some, i_pr0, i_pr1, b_subi, Bool.false_eq_true, if_false]
    exact fin0 rfl q
end
end Mine
/-! Wk2 -/
namespace Mine
section
variable {k : Nat} {ds : List AV} {Q : AV → Sto → Prop} {σ : Sto}

theorem lt_big {n B : Nat} (h : n < 2 ^ B) (hB : B ≤ 4000) : n < bigB := Nat.lt_of_lt_of_le h (Nat.pow_le_pow_right (by decide) hB)
theorem mul_ok {a b : Int} {B C : Nat} (ha : a.natAbs < 2 ^ B) (hb : b.natAbs < 2 ^ C) (hB : B ≤ 4000) (hC : C ≤ 4000) : mulOk a b := .inr (.inr ⟨lt_big ha hB, lt_big hb hC⟩)
theorem pow_mul {a b B C : Nat} (ha : a < 2 ^ B) (hb : b < 2 ^ C) : a * b < 2 ^ (B + C) := by
  rw [Nat.pow_add]; exact Nat.mul_lt_mul'' ha hb
theorem szf {B : Nat} {x : X} (h : SzX B x) : (nu x).natAbs < 2 ^ B ∨ B = 0 := by
  cases B with
  | zero => exact .inr rfl
  | succ B =>
    refine .inl ?_
    have p : 1 < 2 ^ (B + 1) := Nat.one_lt_two_pow (by omega)
    cases x with
    | na => exact Nat.lt_trans Nat.zero_lt_one p
    | nan => exact Nat.lt_trans Nat.zero_lt_one p
    | inf b => cases b <;> exact p
    | fin r => exact h.1
theorem szn {B : Nat} {x : X} (h : SzX (B + 1) x) : (nu x).natAbs < 2 ^ (B + 1) := (szf h).resolve_right (by omega)
theorem szd {B : Nat} {x : X} (h : SzX (B + 1) x) : (de x).natAbs < 2 ^ (B + 1) := by
  have p : 0 < 2 ^ (B + 1) := Nat.two_pow_pos _
  cases x with
  | fin r => exact h.2
  | _ => exact p
theorem de0 {x : X} : de x = 0 ∨ ∃ r, x = .fin r := by cases x <;> first | exact .inl rfl | exact .inr ⟨_, rfl⟩
theorem den_ne (r : Rat) : (r.den : Int) ≠ 0 := by have := r.den_nz; omega

theorem add_lack {x y : X} (h : (lackX x || lackX y) = true) : addX x y = markX x y := by cases x <;> cases y <;> first | rfl | cases h
theorem mul_lack {x y : X} (h : (lackX x || lackX y) = true) : mulX x y = markX x y := by cases x <;> cases y <;> first | rfl | cases h
theorem add_fin (r s : Rat) : mkX (r.num * s.den + s.num * r.den) (r.den * s.den) = .fin (r + s) := by
  have : ((r.den : Int) * s.den) ≠ 0 := Int.mul_ne_zero (den_ne r) (den_ne s)
  rw [mkX, if_neg this, Rat.add_def', ← Int.natCast_mul, Rat.divInt_ofNat]
theorem mul_fin (r s : Rat) : mkX (r.num * s.num) (r.den * s.den) = .fin (r * s) := by
  have : ((r.den : Int) * s.den) ≠ 0 := Int.mul_ne_zero (den_ne r) (den_ne s)
  rw [mkX, if_neg this, Rat.mul_def', ← Int.natCast_mul, Rat.divInt_ofNat]
/-- the two tests at a head: what lacks is marked -/
theorem head2 {f : Nat} (hf : 4 < f) {K : Fl → Rho → Sto → Prop} {ρ : Rho} {x y : X} {rest : MSs} (e1 : ρ 5 = some (enX x)) (e2 : ρ 6 = some (enX y)) (h : (lackX x || lackX y) = true → K (.ret (enX (markX x y))) ρ σ) (h' : lackX x = false → lackX y = false → mwps (Tk f) rest K ρ σ) :
    mwps (Tk f) (.cons (.ite (.or (.cons (.call 3 (.cons (.name 5) .nil)) (.cons (.call 3 (.cons (.name 6) .nil)) .nil))) (.cons (.ret (.call 4 (.cons (.name 5) (.cons (.name 6) .nil)))) .nil) .nil) rest) K ρ σ := by
  simp only [mwps, m_asg, m_ret, m_ite, m_for, m_app, m_expr, m_raise, v_name, v_glob, v_fnv, v_cint, v_cstr, v_cbool, v_cnone, v_tup, v_lst, v_lstM, v_bin, v_neg, v_cmp, v_not, v_and, v_or, v_ife, v_idx, v_upto, v_uptoM, v_from, v_rev, v_kind, v_items, v_call, v_callV, v_vector, v_len, v_abs, v_listOf, v_pop, v_comp, v_compIf, v_compR, v_freeze, mevs, mor, e1, e2]
  have mk : Tk f 4 [enX x, enX y] (fun d σ1 => K (.ret d) ρ σ1) σ ∨ ¬ (lackX x || lackX y) = true := by
    by_cases hl : (lackX x || lackX y) = true
    · exact .inl (t_marked ⟨x, y, rfl, h hl⟩ hf)
    · exact .inr hl
  refine t_isna ⟨x, rfl, ?_⟩ (by omega)
  simp only [t_bool, onB_some]
  cases hx : lackX x with
  | true =>
    rw [if_pos rfl]
    exact mk.resolve_right (by rw [hx]; simp)
  | false =>
    rw [if_neg (by decide)]
    refine t_isna ⟨y, rfl, ?_⟩ (by omega)
    simp only [t_bool, onB_some]
    cases hy : lackX y with
    | true => exact mk.resolve_right (by rw [hy]; simp)
    | false => exact h' hx hy
theorem not_na {x : X} (h : lackX x = false) : x ≠ .na := fun e => by subst e; cases h

theorem w_add (h : S_add ds Q σ) : mwps (Tk 6) b_add (fun fl _ σ' => Fin σ Q fl σ') (bindR p_add ds rho0) σ := by
  obtain ⟨x, y, rfl, sx, sy, q⟩ := h
  refine head2 (by decide) rfl rfl (fun hl => fin0 (refs_enX _) (by rw [add_lack hl] at q; exact q)) fun hx hy => ?_
  rw [enX_pr (not_na hx), enX_pr (not_na hy)]
  have nx := szn sx; have ny := szn sy; have dx := szd sx; have dy := szd sy
  simp only [mwps, m_asg, m_ret, m_ite, m_for, m_app, m_expr, m_raise, v_name, v_glob, v_fnv, v_cint, v_cstr, v_cbool, v_cnone, v_tup, v_lst, v_lstM, v_bin, v_neg, v_cmp, v_not, v_and, v_or, v_ife, v_idx, v_upto, v_uptoM, v_from, v_rev, v_kind, v_items, v_call, v_callV, v_vector, v_len, v_abs, v_listOf, v_pop, v_comp, v_compIf, v_compR, v_freeze, mevs, mand, p_add, bindR, upd, Nat.reduceEqDiff, if_false, if_true, i_pr0, i_pr1, c_eqi, t_bool, onB_some, decide_eq_true_eq]
  cases x with
  | na => cases hx
  | nan => cases hx
  | inf a =>
    rw [if_pos (show de (.inf a) = 0 from rfl)]
    cases y with
    | na => cases hy
    | nan => cases hy
    | inf b =>
      rw [if_pos (show de (.inf b) = 0 from rfl)]
      revert q
      show Q (enX (if a = b then .inf a else .nan)) σ → _
      intro q
      cases a <;> cases b <;> exact fin0 rfl q
    | fin s =>
      rw [if_neg (show ¬ de (.fin s) = 0 from den_ne s), if_pos (show de (.inf a) = 0 from rfl)]
      exact fin0 rfl q
  | fin r =>
    simp only [if_neg (show ¬ de (.fin r) = 0 from den_ne r)]
    cases y with
    | na => cases hy
    | nan => cases hy
    | inf b =>
      rw [if_pos (show de (.inf b) = 0 from rfl)]
      exact fin0 rfl q
    | fin s =>
      rw [if_neg (show ¬ de (.fin s) = 0 from den_ne s)]
      simp only [b_muli, b_addi]
      refine ⟨mul_ok nx dy (by decide) (by decide), mul_ok ny dx (by decide) (by decide), mul_ok dx dy (by decide) (by decide), t_make ⟨_, _, rfl, ?_, ?_⟩⟩
      · rw [Int.natAbs_mul]
        exact lt_big (pow_mul dx dy) (by decide)
      · have e := add_fin r s
        show Fin σ Q (.ret (enX (mkX (r.num * s.den + s.num * r.den) (r.den * s.den)))) σ
        rw [e]
        exact fin0 rfl q
theorem w_sub (h : S_sub ds Q σ) : mwps (Tk 7) b_sub (fun fl _ σ' => Fin σ Q fl σ') (bindR p_sub ds rho0) σ := by
  obtain ⟨x, y, rfl, sx, sy, q⟩ := h
  simp only [b_sub, mwps, m_asg, m_ret, m_ite, m_for, m_app, m_expr, v_name, v_glob, v_fnv, v_cint, v_cstr, v_cbool, v_cnone, v_tup, v_lst, v_lstM, v_bin, v_neg, v_cmp, v_not, v_and, v_or, v_ife, v_idx, v_upto, v_uptoM, v_from, v_rev, v_kind, v_items, v_call, v_callV, v_vector, v_len, v_abs, v_listOf, v_pop, v_comp, v_compIf, v_compR, v_freeze, mevs, p_sub, bindR, upd, Nat.reduceEqDiff, if_false, if_true]
  refine t_neg ⟨y, rfl, t_add ⟨x, negX y, rfl, sx, ?_, fin0 (refs_enX _) q⟩⟩
  cases y with
  | fin r =>
    refine ⟨?_, ?_⟩
    · rw [Rat.neg_num, Int.natAbs_neg]; exact sy.1
    · rw [Rat.neg_den]; exact sy.2
  | _ => exact trivial
theorem sg_mk (b : Bool) (r : Rat) : mkX ((if b then -1 else 1) * r.num) 0 = sgX b r ∧ mkX (r.num * (if b then -1 else 1)) 0 = sgX b r := by
  have e : mkX ((if b then -1 else 1) * r.num) 0 = sgX b r := by
    unfold mkX sgX
    rw [if_pos rfl]
    have z : r.num = 0 ↔ r = 0 := Rat.num_eq_zero
    have n : r.num < 0 ↔ r < 0 := by
      have := Rat.lt_iff r 0
      simpa using this.symm
    by_cases h : r = 0
    · rw [if_pos h, if_pos (by rw [z.mpr h, Int.mul_zero])]
    · have h' : r.num ≠ 0 := fun e => h (z.mp e)
      rw [if_neg h, if_neg (by cases b <;> simp [h'])]
      congr 1
      by_cases hn : r < 0
      · have := n.mpr hn
        rw [decide_eq_true hn]
        cases b
        · exact decide_eq_true (show 1 * r.num < 0 by omega)
        · exact decide_eq_false (show ¬ -1 * r.num < 0 by omega)
      · have : ¬ r.num < 0 := fun q => hn (n.mp q)
        rw [decide_eq_false hn]
        cases b
        · exact decide_eq_false (show ¬ 1 * r.num < 0 by omega)
        · exact decide_eq_true (show -1 * r.num < 0 by omega)
  exact ⟨e, by rw [Int.mul_comm]; exact e⟩
theorem w_mul (h : S_mul ds Q σ) : mwps (Tk 8) b_mul (fun fl _ σ' => Fin σ Q fl σ') (bindR p_mul ds rho0) σ := by
  obtain ⟨x, y, rfl, sx, sy, q⟩ := h
  refine head2 (by decide) rfl rfl (fun hl => fin0 (refs_enX _) (by rw [mul_lack hl] at q; exact q)) fun hx hy => ?_
  rw [enX_pr (not_na hx), enX_pr (not_na hy)]
  have nx := szn sx; have ny := szn sy; have dx := szd sx; have dy := szd sy
  simp only [mwps, m_asg, m_ret, m_ite, m_for, m_app, m_expr, v_name, v_glob, v_fnv, v_cint, v_cstr, v_cbool, v_cnone, v_tup, v_lst, v_lstM, v_bin, v_neg, v_cmp, v_not, v_and, v_or, v_ife, v_idx, v_upto, v_uptoM, v_from, v_rev, v_kind, v_items, v_call, v_callV, v_vector, v_len, v_abs, v_listOf, v_pop, v_comp, v_compIf, v_compR, v_freeze, mevs, p_mul, bindR, upd, Nat.reduceEqDiff, if_false, if_true, i_pr0, i_pr1, b_muli]
  refine ⟨mul_ok nx ny (by decide) (by decide), mul_ok dx dy (by decide) (by decide), t_make ⟨_, _, rfl, ?_, ?_⟩⟩
  · rw [Int.natAbs_mul]
    exact lt_big (pow_mul dx dy) (by decide)
  · have e : mkX (nu x * nu y) (de x * de y) = mulX x y := by
      cases x with
      | na => cases hx
      | nan => cases hx
      | inf a =>
        cases y with
        | na => cases hy
        | nan => cases hy
        | inf b => cases a <;> cases b <;> rfl
        | fin s => show mkX _ (0 * _) = _; rw [Int.zero_mul]; exact (sg_mk a s).1
      | fin r =>
        cases y with
        | na => cases hy
        | nan => cases hy
        | inf b => show mkX _ (_ * 0) = _; rw [Int.mul_zero]; exact (sg_mk b r).2
        | fin s => exact mul_fin r s
    rw [e]
    exact fin0 (refs_enX _) q
end
end Mine
/-! Wk3 -/
namespace Mine
section
variable {k : Nat} {ds : List AV} {Q : AV → Sto → Prop} {σ : Sto}

theorem en_int (n : Int) : enX (.fin n) = pr n 1 := by
  show pr (n : Rat).num (n : Rat).den = _
  rw [Rat.num_intCast, Rat.den_intCast]; rfl
theorem fld (a d n r : Rat) (e : a / d = r) : a / (d * n) = r / n := by
  subst e
  rw [Rat.div_def, Rat.div_def, Rat.div_def, Rat.inv_mul_rev, Rat.mul_assoc, Rat.mul_comm n⁻¹]
theorem div_fin (r : Rat) {n : Int} (hn : 0 < n) : mkX (r.num * 1) (r.den * n) = .fin (r / n) := by
  have h : ((r.den : Int) * n) ≠ 0 := Int.mul_ne_zero (den_ne r) (by omega)
  rw [mkX, if_neg h, Rat.divInt_eq_div, Int.mul_one, Rat.intCast_mul]
  congr 1
  exact fld _ _ _ _ (by rw [← Rat.divInt_eq_div]; exact Rat.num_divInt_den r)
theorem w_div (h : S_div ds Q σ) : mwps (Tk 9) b_div (fun fl _ σ' => Fin σ Q fl σ') (bindR p_div ds rho0) σ := by
  obtain ⟨x, n, rfl, hn, hn', sx, q⟩ := h
  rw [← en_int]
  refine head2 (y := .fin n) (by decide) rfl rfl (fun hl => ?_) fun hx hy => ?_
  · cases x with
    | na => exact fin0 rfl q
    | nan => exact fin0 rfl q
    | inf b => cases hl
    | fin r => cases hl
  · rw [enX_pr (not_na hx), en_int]
    have nx := szn sx; have dx := szd sx
    have n1 : ¬ (1 : Int) = 0 := by decide
    have n2 : ¬ n < 0 := by omega
    simp only [mwps, m_asg, m_ret, m_ite, m_for, m_app, m_expr, m_raise, v_name, v_glob, v_fnv, v_cint, v_cstr, v_cbool, v_cnone, v_tup, v_lst, v_lstM, v_bin, v_neg, v_cmp, v_not, v_and, v_or, v_ife, v_idx, v_upto, v_uptoM, v_from, v_rev, v_kind, v_items, v_call, v_callV, v_vector, v_len, v_abs, v_listOf, v_pop, v_comp, v_compIf, v_compR, v_freeze, mevs, mand, p_div, bindR, upd, Nat.reduceEqDiff, if_false, if_true, i_pr0, i_pr1, c_eqi, c_lti, t_bool, onB_some, decide_eq_true_eq, if_neg n1, if_neg n2, b_muli]
    cases x with
    | na => cases hx
    | nan => cases hx
    | inf a =>
      simp only [if_pos (show de (.inf a) = 0 from rfl)]
      exact fin0 rfl q
    | fin r =>
      simp only [if_neg (show ¬ de (.fin r) = 0 from den_ne r)]
      have nb : n.natAbs < 2 ^ 40 := by omega
      refine ⟨.inr (.inr ⟨lt_big nx (by decide), lt_big (B := 1) (by decide) (by decide)⟩), mul_ok dx nb (by decide) (by decide), t_make ⟨_, _, rfl, ?_, ?_⟩⟩
      · rw [Int.natAbs_mul]
        exact lt_big (pow_mul dx nb) (by decide)
      · show Fin σ Q (.ret (enX (mkX (r.num * 1) (r.den * n)))) σ
        rw [div_fin r hn]
        exact fin0 rfl q

/-- what is compared -/
noncomputable def cL (x y : X) : Int := if de x = 0 then nu x else if de y = 0 then 0 else nu x * de y
theorem cmp_of {x y : X} (hx : lackX x = false) (hy : lackX y = false) : (gtX 1 y x ↔ cL x y < cL y x) := by
  unfold gtX cL
  cases x with
  | na => cases hx
  | nan => cases hx
  | inf a =>
    cases y with
    | na => cases hy
    | nan => cases hy
    | inf b => cases a <;> cases b <;> decide
    | fin s =>
      rw [if_pos (show de (.inf a) = 0 from rfl), if_neg (show ¬ de (.fin s) = 0 from den_ne s), if_pos (show de (.inf a) = 0 from rfl)]
      cases a
      · exact ⟨fun h => by rcases h with h | h; exact absurd (show (1 : Int) < 0 from h) (by decide); exact absurd (show (1 : Int) = 0 from h.1) (by decide), fun h => absurd (show (1 : Int) < 0 from h) (by decide)⟩
      · exact ⟨fun _ => (by decide : (-1 : Int) < 0), fun _ => .inl (by decide : (-1 : Int) < 0)⟩
  | fin r =>
    cases y with
    | na => cases hy
    | nan => cases hy
    | inf b =>
      rw [if_pos (show de (.inf b) = 0 from rfl), if_neg (show ¬ de (.fin r) = 0 from den_ne r), if_pos (show de (.inf b) = 0 from rfl)]
      cases b
      · exact ⟨fun _ => (by decide : (0 : Int) < 1), fun _ => .inl (by decide : (0 : Int) < 1)⟩
      · exact ⟨fun h => by rcases h with h | h; exact absurd (show (0 : Int) < -1 from h) (by decide); exact absurd (show (0 : Int) = -1 from h.1) (by decide), fun h => absurd (show (0 : Int) < -1 from h) (by decide)⟩
    | fin s =>
      rw [if_neg (show ¬ de (.fin r) = 0 from den_ne r), if_neg (show ¬ de (.fin s) = 0 from den_ne s), if_neg (show ¬ de (.fin s) = 0 from den_ne s), if_neg (show ¬ de (.fin r) = 0 from den_ne r)]
      show ((0 : Int) < 0 ∨ ((0 : Int) = 0 ∧ (1 : Int) * r < (1 : Int) * s)) ↔ r.num * s.den < s.num * r.den
      rw [← Rat.lt_iff, Rat.intCast_one, Rat.one_mul, Rat.one_mul]
      simp

noncomputable def m_cT : MSs := .cons (.ite (.cmp .eq (.name 7) (.name 8)) (.cons (.ret (.cint 0)) .nil) .nil) (.cons (.ret (.ife (.cmp .lt (.name 7) (.name 8)) (.neg (.cint 1)) (.cint 1))) .nil)
theorem cT {a b : Int} {ρ : Rho} (e7 : ρ 7 = some (.int a)) (e8 : ρ 8 = some (.int b)) (h1 : a < b → Q (.int (-1)) σ) (h2 : b < a → Q (.int 1) σ) (h3 : a = b → Q (.int 0) σ) : mwps (Tk 10) m_cT (fun fl _ σ' => Fin σ Q fl σ') ρ σ := by
  unfold m_cT
  rw [mwps, m_ite]
  simp only [v_cmp, v_name, e7, e8, c_eqi, t_bool, onB_some]
  by_cases e : a = b
  · rw [if_pos (decide_eq_true e), mwps, m_ret]; exact fin0 rfl (h3 e)
  · rw [if_neg (by rw [decide_eq_false e]; decide), mwps]
    dsimp only
    rw [mwps, m_ret]
    simp only [v_ife, v_cmp, v_name, e7, e8, c_lti, t_bool, onB_some]
    by_cases l : a < b
    · rw [if_pos (decide_eq_true l)]; exact fin0 rfl (h1 l)
    · rw [if_neg (by rw [decide_eq_false l]; decide)]; exact fin0 rfl (h2 (by omega))
noncomputable def m_cM : MSs := .cons (.ite (.and (.cons (.cmp .eq (.idx (.name 5) (.cint 1)) (.cint 0)) (.cons (.cmp .eq (.idx (.name 6) (.cint 1)) (.cint 0)) .nil))) (.cons (.assign 7 (.idx (.name 5) (.cint 0))) (.cons (.assign 8 (.idx (.name 6) (.cint 0))) .nil)) (.cons (.assign 7 (.bin .mul (.idx (.name 5) (.cint 0)) (.idx (.name 6) (.cint 1)))) (.cons (.assign 8 (.bin .mul (.idx (.name 6) (.cint 0)) (.idx (.name 5) (.cint 1)))) (.cons (.ite (.cmp .eq (.idx (.name 5) (.cint 1)) (.cint 0)) (.cons (.assign 7 (.idx (.name 5) (.cint 0))) (.cons (.assign 8 (.cint 0)) .nil)) (.cons (.ite (.cmp .eq (.idx (.name 6) (.cint 1)) (.cint 0)) (.cons (.assign 7 (.cint 0)) (.cons (.assign 8 (.idx (.name 6) (.cint 0))) .nil)) .nil) .nil)) .nil)))) m_cT
theorem cmp_eq : b_compare = .cons (.ite (.or (.cons (.call 3 (.cons (.name 5) .nil)) (.cons (.call 3 (.cons (.name 6) .nil)) .nil))) (.cons (.ret .cnone) .nil) .nil) m_cM := rfl
theorem w_cmp (h : S_cmp ds Q σ) : mwps (Tk 10) b_compare (fun fl _ σ' => Fin σ Q fl σ') (bindR p_compare ds rho0) σ := by
  obtain ⟨x, y, rfl, hx, hy, sx, sy, h1, h2, h3⟩ := h
  have nx := szn sx; have ny := szn sy; have dx := szd sx; have dy := szd sy
  rw [cmp_of hx hy] at h1 h2 h3
  rw [cmp_of hy hx] at h2 h3
  have tl : ∀ (ρ : Rho), ρ 7 = some (.int (cL x y)) → ρ 8 = some (.int (cL y x)) → mwps (Tk 10) m_cT (fun fl _ σ' => Fin σ Q fl σ') ρ σ := fun ρ e7 e8 => cT e7 e8 h1 (fun z => h2 (by omega) z) (fun z => h3 (by omega) (by omega))
  have m1 := mul_ok nx dy (by decide) (by decide)
  have m2 := mul_ok ny dx (by decide) (by decide)
  have cl : ∀ a b : X, cL a b = if de a = 0 then nu a else if de b = 0 then 0 else nu a * de b := fun _ _ => rfl
  rw [cl x y, cl y x] at tl
  clear h1 h2 h3 cl nx ny dx dy sx sy
  rw [cmp_eq, mwps, m_ite]
  simp only [v_or, v_call, v_name, mevs, mor, p_compare, bindR, upd, Nat.reduceEqDiff, if_false, if_true]
  refine t_isna ⟨x, rfl, ?_⟩
  rw [hx]
  dsimp only
  rw [t_bool, onB_some, if_neg (by decide)]
  refine t_isna ⟨y, rfl, ?_⟩
  rw [hy]
  dsimp only
  rw [t_bool, onB_some, if_neg (by decide), mwps]
  unfold m_cM
  generalize m_cT = N at tl ⊢
  dsimp only
  rw [mwps, m_ite, enX_pr (not_na hx), enX_pr (not_na hy)]
  generalize nu x = a at *; generalize de x = b at *; generalize nu y = c at *; generalize de y = d at *
  by_cases zx : b = 0
  · by_cases zy : d = 0
    · rw [if_pos zx, if_pos zy] at tl
      simp only [v_and, v_cmp, v_idx, v_name, v_cint, mand, m_asg, mwps, upd, Nat.reduceEqDiff, if_false, if_true, i_pr0, i_pr1, c_eqi, t_bool, onB_some, decide_eq_true_eq, if_pos zx, if_pos zy]
      exact tl _ rfl rfl
    · rw [if_pos zx, if_neg zy, if_pos zx] at tl
      simp only [v_and, v_cmp, v_idx, v_name, v_cint, v_bin, mand, m_asg, m_ite, mwps, upd, Nat.reduceEqDiff, if_false, if_true, i_pr0, i_pr1, c_eqi, t_bool, onB_some, decide_eq_true_eq, b_muli, if_pos zx, if_neg zy]
      exact ⟨m1, m2, tl _ rfl rfl⟩
  · by_cases zy : d = 0
    · rw [if_neg zx, if_pos zy, if_pos zy] at tl
      simp only [v_and, v_cmp, v_idx, v_name, v_cint, v_bin, mand, m_asg, m_ite, mwps, upd, Nat.reduceEqDiff, if_false, if_true, i_pr0, i_pr1, c_eqi, t_bool, onB_some, decide_eq_true_eq, b_muli, if_neg zx, if_pos zy]
      exact ⟨m1, m2, tl _ rfl rfl⟩
    · rw [if_neg zx, if_neg zy, if_neg zy, if_neg zx] at tl
      simp only [v_and, v_cmp, v_idx, v_name, v_cint, v_bin, mand, m_asg, m_ite, mwps, upd, Nat.reduceEqDiff, if_false, if_true, i_pr0, i_pr1, c_eqi, t_bool, onB_some, decide_eq_true_eq, b_muli, if_neg zx, if_neg zy]
      exact ⟨m1, m2, tl _ rfl rfl⟩

theorem wt_cases {k : Nat} {it : It} (h : Wt k it) : (k = 7 ∧ ∃ x, it = .q x) ∨ ((k = 6 ∨ k = 8 ∨ k = 10) ∧ isN (en it) = lack it) := by
  cases it with
  | q x =>
    cases x with
    | na =>
      rcases h with e | e | e | e
      · exact .inr ⟨.inl e, rfl⟩
      · exact .inl ⟨e, _, rfl⟩
      · exact .inr ⟨.inr (.inl e), rfl⟩
      · exact .inr ⟨.inr (.inr e), rfl⟩
    | _ => exact .inl ⟨h, _, rfl⟩
  | i n =>
    rcases h with e | e
    · exact .inr ⟨.inr (.inl e), rfl⟩
    · exact .inr ⟨.inr (.inr e), rfl⟩
  | s j => exact .inr ⟨.inl h.1, rfl⟩
theorem w_lacking (h : S_lacking ds Q σ) : mwps (Tk 11) b_is_lacking (fun fl _ σ' => Fin σ Q fl σ') (bindR p_is_lacking ds rho0) σ := by
  obtain ⟨k, it, rfl, w, q⟩ := h
  rcases wt_cases w with ⟨rfl, x, rfl⟩ | ⟨hk, e⟩
  · simp only [b_is_lacking, mwps, m_asg, m_ret, m_ite, m_for, m_app, m_expr, m_raise, v_name, v_glob, v_fnv, v_cint, v_cstr, v_cbool, v_cnone, v_tup, v_lst, v_lstM, v_bin, v_neg, v_cmp, v_not, v_and, v_or, v_ife, v_idx, v_upto, v_uptoM, v_from, v_rev, v_kind, v_items, v_call, v_callV, v_vector, v_len, v_abs, v_listOf, v_pop, v_comp, v_compIf, v_compR, v_freeze, mevs, p_is_lacking, bindR, upd, Nat.reduceEqDiff, if_false, if_true, c_eqs (x := 7) (y := 7) rfl rfl, t_bool, onB_some, decide_true]
    exact t_isna ⟨x, rfl, fin0 rfl q⟩
  · have h7 : decide (k = 7) = false := decide_eq_false (by omega)
    have h13 : decide (k < 13) = true := decide_eq_true (by omega)
    simp only [b_is_lacking, mwps, m_asg, m_ret, m_ite, m_for, m_app, m_expr, m_raise, v_name, v_glob, v_fnv, v_cint, v_cstr, v_cbool, v_cnone, v_tup, v_lst, v_lstM, v_bin, v_neg, v_cmp, v_not, v_and, v_or, v_ife, v_idx, v_upto, v_uptoM, v_from, v_rev, v_kind, v_items, v_call, v_callV, v_vector, v_len, v_abs, v_listOf, v_pop, v_comp, v_compIf, v_compR, v_freeze, mevs, p_is_lacking, bindR, upd, Nat.reduceEqDiff, if_false, if_true, c_eqs (x := k) (y := 7) h13 rfl, h7, t_bool, onB_some, Bool.false_eq_true, c_isN, e]
    exact fin0 rfl q
end
end Mine
/-! Wk4 -/
namespace Mine
section
variable {k : Nat} {ds : List AV} {Q : AV → Sto → Prop} {σ : Sto}

/-- how a loop goes on -/
noncomputable def fK (x : Nat) (B : (Fl → Rho → Sto → Prop) → Rho → Sto → Prop) (l : List AV) (K : Fl → Rho → Sto → Prop) : Fl → Rho → Sto → Prop := fun fl ρ' σ' => match fl with
  | .next => forL x B l K ρ' σ'
  | .brk => K .next ρ' σ'
  | .ret v => K (.ret v) ρ' σ'
theorem for_cons {x : Nat} {Φ : Tab} {m : MSs} {d : AV} {l : List AV} {K : Fl → Rho → Sto → Prop} {ρ : Rho} {σ : Sto} (h : mwps Φ m (fK x (lp Φ m) l K) (upd ρ x d) σ) : forL x (lp Φ m) (d :: l) K ρ σ := h
theorem kind_ok {k : Nat} (h : numK k ∨ k = 6) : decide (k < 13) = true := decide_eq_true (by unfold numK at h; omega)
theorem c_not3 {K : Bool → Prop} {k : Nat} (h : k = 8 ∨ k = 10) (q : K false) : cmpA σ .notIn (.str k) (.tup [.str 5, .str 10, .str 8]) K := by
  rcases h with rfl | rfl <;> exact ⟨by decide, by decide, q⟩
theorem c_not2 {K : Bool → Prop} {k : Nat} (h : k = 8 ∨ k = 10) (q : K false) : cmpA σ .notIn (.str k) (.tup [.str 10, .str 8]) K := by
  rcases h with rfl | rfl <;> exact ⟨by decide, by decide, q⟩

noncomputable def m_kind : MSs := (.cons (.ite (.and (.cons (.cmp .eq (.kind (.name 14)) (.cstr 6)) (.cons (.name 12) .nil))) (.cons (.assign 13 (.cstr 6)) .nil) (.cons (.ite (.cmp .eq (.kind (.name 14)) (.cstr 7)) (.cons (.ite (.cmp .eq (.name 13) (.cstr 8)) (.cons (.assign 13 (.cstr 7)) .nil) .nil) .nil) (.cons (.ite (.cmp .notIn (.kind (.name 14)) (.tup (.cons (.cstr 5) (.cons (.cstr 10) (.cons (.cstr 8) .nil))))) (.cons .raise .nil) .nil) .nil)) .nil)) .nil)
noncomputable def m_gath : MSs := (.cons (.ite (.and (.cons (.cmp .eq (.name 9) (.cstr 7)) (.cons (.cmp .ne (.kind (.name 14)) (.cstr 7)) .nil))) (.cons (.assign 10 (.call 2 (.cons (.name 10) .nil))) .nil) (.cons (.ite (.and (.cons (.cmp .eq (.name 9) (.cstr 6)) (.cons (.cmp .ne (.kind (.name 14)) (.cstr 6)) .nil))) (.cons (.assign 10 (.call 38 (.cons (.kind (.name 14)) (.cons (.name 10) .nil)))) .nil) .nil) .nil)) (.cons (.append 13 (.name 10)) .nil))
theorem kind_loop {Φ : Tab} {K : Fl → Rho → Sto → Prop} {t : Bool} : ∀ (vs : List Vc) (f : Nat) (ρ : Rho), (∀ v ∈ vs, numK v.1 ∨ (t = true ∧ v.1 = 6)) → f < 13 → ρ 13 = some (.str f) → ρ 12 = some (.bool t) → (∀ ρ', ρ' 13 = some (.str (skind vs f)) → K .next ρ' σ) →
    forL 14 (lp Φ m_kind) (vs.map enV) K ρ σ
  | [], f, ρ, _, _, e, _, q => q ρ e
  | v :: vs, f, ρ, h, hf, e, et, q => by
    have hv := h v (.head _)
    have hv13 : decide (v.1 < 13) = true := kind_ok (hv.imp id fun z => z.2)
    have go : ∀ f' (ρ' : Rho), f' < 13 → ρ' 13 = some (.str f') → ρ' 12 = some (.bool t) → f' = (if v.1 = 6 then 6 else if v.1 = 7 then (if f = 8 then 7 else f) else f) → fK 14 (lp Φ m_kind) (vs.map enV) K .next ρ' σ := fun f' ρ' hf' e' et' ee => kind_loop vs f' ρ' (fun u hu => h u (.tail _ hu)) hf' e' et' fun ρ'' e'' => q ρ'' (by rw [e'', ee]; rfl)
    refine for_cons ?_
    generalize fK 14 (lp Φ m_kind) (vs.map enV) K = C at go ⊢
    simp only [m_kind, enV, mwps, m_asg, m_ret, m_ite, m_for, m_app, m_expr, m_raise, v_name, v_glob, v_fnv, v_cint, v_cstr, v_cbool, v_cnone, v_tup, v_lst, v_lstM, v_bin, v_neg, v_cmp, v_not, v_and, v_or, v_ife, v_idx, v_upto, v_uptoM, v_from, v_rev, v_kind, v_items, v_call, v_callV, v_vector, v_len, v_abs, v_listOf, v_pop, v_comp, v_compIf, v_compR, v_freeze, mevs, mand, upd, Nat.reduceEqDiff, if_false, if_true, c_eqs (x := v.1) (y := 6) hv13 rfl, c_eqs (x := v.1) (y := 7) hv13 rfl, e, et, c_eqs (x := f) (y := 8) (decide_eq_true hf) rfl, t_bool, onB_some, decide_eq_true_eq]
    by_cases h6 : v.1 = 6
    · have ht : t = true := by
        rcases hv with z | z
        · unfold numK at z; omega
        · exact z.1
      rw [if_pos h6, if_pos ht]
      exact go 6 _ (by decide) rfl et (by rw [if_pos h6])
    · simp only [if_neg h6]
      by_cases h7 : v.1 = 7
      · rw [if_pos h7]
        by_cases h8 : f = 8
        · rw [if_pos h8]
          exact go 7 _ (by decide) rfl et (by rw [if_neg h6, if_pos h7, if_pos h8])
        · rw [if_neg h8]
          exact go f _ hf e et (by rw [if_neg h6, if_pos h7, if_neg h8])
      · rw [if_neg h7]
        refine c_not3 (by rcases hv with z | z; (unfold numK at z; omega); omega) ?_
        rw [if_neg (by decide)]
        exact go f _ hf e et (by rw [if_neg h6, if_neg h7])
theorem w_kind (h : S_kind ds Q σ) : mwps (Tk 12) b_summed_kind (fun fl _ σ' => Fin σ Q fl σ') (bindR p_summed_kind ds rho0) σ := by
  obtain ⟨vs, t, rfl, hv, q⟩ := h
  simp only [b_summed_kind, mwps, m_asg, m_ret, m_ite, m_for, m_app, m_expr, v_name, v_glob, v_fnv, v_cint, v_cstr, v_cbool, v_cnone, v_tup, v_lst, v_lstM, v_bin, v_neg, v_cmp, v_not, v_and, v_or, v_ife, v_idx, v_upto, v_uptoM, v_from, v_rev, v_kind, v_items, v_call, v_callV, v_vector, v_len, v_abs, v_listOf, v_pop, v_comp, v_compIf, v_compR, v_freeze, p_summed_kind, bindR, upd, Nat.reduceEqDiff, if_false, if_true, enVs]
  refine kind_loop vs 8 _ hv (by decide) rfl rfl fun ρ' e => ?_
  simp only [e]
  exact fin0 rfl q

/-- a list that is filtered -/
theorem filt {α : Type} {f : α → AV} {p : α → Bool} {step : AV → (Option AV → Sto → Prop) → Sto → Prop} {K : AV → Sto → Prop} : ∀ (l : List α) (acc : List AV), acc.length + l.length ≤ 64 → (∀ x ∈ l, ∀ C : Option AV → Sto → Prop, C (if p x then some (f x) else none) σ → step (f x) C σ) → K (.list (acc ++ (l.filter p).map f)) σ → compL step (l.map f) acc K σ
  | [], acc, hl, _, q => ⟨by unfold lenB; simp only [List.length_nil] at hl; omega, by simpa using q⟩
  | x :: l, acc, hl, h, q => by
    simp only [List.length_cons] at hl
    refine ⟨by unfold lenB; omega, h x (.head _) _ ?_⟩
    cases hp : p x with
    | true =>
      refine filt l _ (by simp only [List.length_append, List.length_cons, List.length_nil]; omega) (fun y hy => h y (.tail _ hy)) ?_
      rw [List.filter_cons_of_pos hp] at q
      simpa using q
    | false =>
      refine filt l _ (by omega) (fun y hy => h y (.tail _ hy)) ?_
      rw [List.filter_cons_of_neg (by rw [hp]; decide)] at q
      exact q
/-- a list that is mapped -/
theorem maps {α : Type} {f g : α → AV} {step : AV → (Option AV → Sto → Prop) → Sto → Prop} {K : AV → Sto → Prop} : ∀ (l : List α) (acc : List AV), acc.length + l.length ≤ 64 → (∀ x ∈ l, ∀ C : Option AV → Sto → Prop, C (some (g x)) σ → step (f x) C σ) → K (.list (acc ++ l.map g)) σ → compL step (l.map f) acc K σ
  | [], acc, hl, _, q => ⟨by unfold lenB; simp only [List.length_nil] at hl; omega, by simpa using q⟩
  | x :: l, acc, hl, h, q => by
    simp only [List.length_cons] at hl
    refine ⟨by unfold lenB; omega, h x (.head _) _ (maps l _ (by simp only [List.length_append, List.length_cons, List.length_nil]; omega) (fun y hy => h y (.tail _ hy)) ?_)⟩
    simpa using q
theorem refs_ens {k : Nat} (l : List It) : refsBelow k (.list (l.map en)) = true := refs_map refs_en l
theorem w_kept (h : S_kept ds Q σ) : mwps (Tk 13) b_kept_items (fun fl _ σ' => Fin σ Q fl σ') (bindR p_kept_items ds rho0) σ := by
  obtain ⟨v, skip, rfl, hk, hw, hl, q⟩ := h
  have h5 : ¬ v.1 = 5 := by unfold numK at hk; omega
  simp only [b_kept_items, mwps, m_asg, m_ret, m_ite, m_for, m_app, m_expr, m_raise, v_name, v_glob, v_fnv, v_cint, v_cstr, v_cbool, v_cnone, v_tup, v_lst, v_lstM, v_bin, v_neg, v_cmp, v_not, v_and, v_or, v_ife, v_idx, v_upto, v_uptoM, v_from, v_rev, v_kind, v_items, v_call, v_callV, v_vector, v_len, v_abs, v_listOf, v_pop, v_comp, v_compIf, v_compR, v_freeze, p_kept_items, bindR, upd, Nat.reduceEqDiff, if_false, if_true, enV, c_eqs (x := v.1) (y := 5) (kind_ok hk) rfl, t_bool, onB_some, decide_eq_true_eq, if_neg h5]
  cases skip with
  | false =>
    have e : v.2.filter (keep false) = v.2 := List.filter_eq_self.mpr fun _ _ => rfl
    rw [e] at q
    exact fin0 (refs_ens _) q
  | true =>
    rw [if_neg (by decide)]
    refine filt (p := keep true) v.2 [] (by simp only [List.length_nil]; omega) (fun it hit C c => ?_) (fin0 (refs_ens _) q)
    simp only [v_name, v_glob, v_fnv, v_cint, v_cstr, v_cbool, v_cnone, v_tup, v_lst, v_lstM, v_bin, v_neg, v_cmp, v_not, v_and, v_or, v_ife, v_idx, v_upto, v_uptoM, v_from, v_rev, v_kind, v_items, v_call, v_callV, v_vector, v_len, v_abs, v_listOf, v_pop, v_comp, v_compIf, v_compR, v_freeze, mevs, restr, upd, List.mem_cons, List.not_mem_nil, or_false, Nat.reduceEqDiff, if_true, if_false]
    refine t_lacking ⟨v.1, it, rfl, hw it hit, ?_⟩
    simp only [t_bool, onB_some]
    unfold keep at c
    cases hh : lack it with
    | true => rw [hh] at c; exact c
    | false => rw [hh] at c; exact c

theorem last_get {x : Option (List AV)} : (σ ++ [x])[σ.length]? = some x := by simp
theorem last_set {x y : Option (List AV)} : (σ ++ [x]).set σ.length y = σ ++ [y] := by simp
theorem fin_last {τ : Option (List AV)} {K : AV → Sto → Prop} {d : AV} (r : refsBelow σ.length d = true) (q : K d σ) : Fin σ K (.ret d) (σ ++ [τ]) := fin1 r q

theorem c_nes {K : Bool → Prop} {x y : Nat} (hx : decide (x < 13) = true) (hy : decide (y < 13) = true) : cmpA σ .ne (.str x) (.str y) K = K (!decide (x = y)) := by
  show (decide (x < 13) = true ∧ decide (y < 13) = true ∧ _) = _
  simp only [hx, hy, true_and]; rfl
theorem conv7 {v : Nat} {it : It} (h : Wt v it) (e : v = 7) : conv 7 it = it := by
  subst e
  rcases wt_cases h with ⟨_, x, rfl⟩ | ⟨z, _⟩
  · rfl
  · omega
theorem conv_not {k : Nat} {it : It} (h : k ≠ 7) : conv k it = it := if_neg h
theorem conv_num {v : Nat} {it : It} (h : Wt v it) (n : v = 8 ∨ v = 10) : (it = .q .na ∧ enX (toX it) = .none) ∨ ∃ n, it = .i n ∧ enX (toX it) = pr n 1 := by
  cases it with
  | q x =>
    cases x with
    | na => exact .inl ⟨rfl, rfl⟩
    | _ => have : v = 7 := h; omega
  | i n => exact .inr ⟨n, rfl, en_int n⟩
  | s j => have := h.1; omega

/-- what the loops of gathered keep -/
noncomputable def GInv (k : Nat) (skip : Bool) (n : Nat) (ρ : Rho) : Prop := ρ 13 = some (.ref n) ∧ ρ 9 = some (.str k) ∧ ρ 15 = some (.bool skip)
theorem gath_in {k : Nat} {skip : Bool} {v : Vc} {K : Fl → Rho → Sto → Prop} (hk13 : k < 13) (hv : numK v.1 ∨ v.1 = 6) (h7 : k = 7 → numK v.1) (h6 : k = 6 → v.1 = 6) : ∀ (l acc : List It) (ρ : Rho), (∀ it ∈ l, Wt v.1 it) → acc.length + l.length ≤ 64 → GInv k skip σ.length ρ → ρ 14 = some (enV v) →
    (∀ ρ', GInv k skip σ.length ρ' → K .next ρ' (σ ++ [some ((acc ++ l.map (conv k)).map en)])) → forL 10 (lp (Tk 14) m_gath) (l.map en) K ρ (σ ++ [some (acc.map en)])
  | [], acc, ρ, _, _, g, _, q => by rw [List.map_nil, List.append_nil] at q; exact q ρ g
  | it :: l, acc, ρ, hw, hl, g, ev, q => by
    simp only [List.length_cons] at hl
    have w := hw it (.head _)
    have hv13 := kind_ok hv
    have go : ∀ (ρ' : Rho), GInv k skip σ.length ρ' → ρ' 14 = some (enV v) → fK 10 (lp (Tk 14) m_gath) (l.map en) K .next ρ' (σ ++ [some (acc.map en ++ [en (conv k it)])]) := fun ρ' g' ev' => by
      have := gath_in hk13 hv h7 h6 l (acc ++ [conv k it]) ρ' (fun u hu => hw u (.tail _ hu)) (by simp only [List.length_append, List.length_cons, List.length_nil]; omega) g' ev' (by simpa using q)
      rw [List.map_append] at this
      exact this
    refine for_cons ?_
    generalize fK 10 (lp (Tk 14) m_gath) (l.map en) K = C at go ⊢
    obtain ⟨g1, g2, g3⟩ := g
    have nx : ∀ (ρ' : Rho), GInv k skip σ.length ρ' → ρ' 14 = some (enV v) → ρ' 10 = some (en (conv k it)) → mwps (Tk 14) (.cons (.append 13 (.name 10)) .nil) C ρ' (σ ++ [some (acc.map en)]) := fun ρ' g' ev' e10 => by
      simp only [mwps, m_asg, m_ret, m_ite, m_for, m_app, m_expr, v_name, v_glob, v_fnv, v_cint, v_cstr, v_cbool, v_cnone, v_tup, v_lst, v_lstM, v_bin, v_neg, v_cmp, v_not, v_and, v_or, v_ife, v_idx, v_upto, v_uptoM, v_from, v_rev, v_kind, v_items, v_call, v_callV, v_vector, v_len, v_abs, v_listOf, v_pop, v_comp, v_compIf, v_compR, v_freeze, g'.1, e10, last_get, last_set]
      exact ⟨⟨_, rfl⟩, _, rfl, by rw [List.length_map]; unfold lenB; omega, go ρ' g' ev'⟩
    unfold m_gath
    rw [mwps]
    generalize hN : MSs.cons (.append 13 (.name 10)) .nil = N at nx ⊢
    simp only [m_asg, m_ret, m_ite, m_for, m_app, m_expr, mwps, mtest, v_name, v_glob, v_fnv, v_cint, v_cstr, v_cbool, v_cnone, v_tup, v_lst, v_lstM, v_bin, v_neg, v_cmp, v_not, v_and, v_or, v_ife, v_idx, v_upto, v_uptoM, v_from, v_rev, v_kind, v_items, v_call, v_callV, v_vector, v_len, v_abs, v_listOf, v_pop, v_comp, v_compIf, v_compR, v_freeze, mevs, mand, upd, Nat.reduceEqDiff, if_false, if_true, g2, ev, enV, c_eqs (x := k) (y := 7) (decide_eq_true hk13) rfl, c_eqs (x := k) (y := 6) (decide_eq_true hk13) rfl, c_nes (x := v.1) (y := 7) hv13 rfl, c_nes (x := v.1) (y := 6) hv13 rfl, t_bool, onB_some, decide_eq_true_eq]
    by_cases k7 : k = 7
    · have k6 : ¬ k = 6 := by omega
      simp only [if_pos k7, if_neg k6, Bool.false_eq_true, if_false, decide_eq_false k6]
      by_cases v7 : v.1 = 7
      · rw [if_neg (by rw [decide_eq_true v7]; decide)]
        exact nx _ ⟨g1, g2, g3⟩ ev (by subst k7; rw [conv7 w v7]; rfl)
      · rw [if_pos (by rw [decide_eq_false v7]; rfl)]
        have n := h7 k7
        rcases conv_num w (by unfold numK at n; omega) with ⟨rfl, e⟩ | ⟨n, rfl, e⟩
        · exact t_from (.inl ⟨rfl, nx _ ⟨g1, g2, g3⟩ ev (by subst k7; exact congrArg some e.symm)⟩)
        · exact t_from (.inr ⟨n, rfl, nx _ ⟨g1, g2, g3⟩ ev (by subst k7; exact congrArg some e.symm)⟩)
    · have fin := nx (upd ρ 10 (en it)) ⟨g1, g2, g3⟩ ev (by rw [conv_not k7]; rfl)
      simp only [if_neg k7]
      by_cases k6 : k = 6
      · rw [if_pos k6, if_neg (by rw [decide_eq_true (h6 k6)]; decide)]
        exact fin
      · simp only [if_neg k6]
        exact fin
end
end Mine
/-! Wk5 -/
namespace Mine
section
variable {k : Nat} {ds : List AV} {Q : AV → Sto → Prop} {σ : Sto}

/-! gathered -/
noncomputable def m_g2 : MSs := .cons (.for 10 (.call 13 (.cons (.name 14) (.cons (.name 15) .nil))) m_gath) .nil
theorem gath_out {k : Nat} {skip : Bool} {K : Fl → Rho → Sto → Prop} (hk13 : k < 13) : ∀ (vs : List Vc) (acc : List It) (ρ : Rho), (∀ v ∈ vs, (numK v.1 ∨ v.1 = 6) ∧ ∀ it ∈ v.2, Wt v.1 it) → (k = 7 → ∀ v ∈ vs, numK v.1) → (k = 6 → ∀ v ∈ vs, v.1 = 6) → acc.length + tot vs ≤ 64 → (∀ v ∈ vs, v.2.length ≤ 16) → GInv k skip σ.length ρ →
    (∀ ρ', GInv k skip σ.length ρ' → K .next ρ' (σ ++ [some ((acc ++ gath k skip vs).map en)])) → forL 14 (lp (Tk 14) m_g2) (vs.map enV) K ρ (σ ++ [some (acc.map en)])
  | [], acc, ρ, _, _, _, _, _, g, q => by
    have : gath k skip [] = [] := rfl
    rw [this, List.append_nil] at q
    exact q ρ g
  | v :: vs, acc, ρ, hw, h7, h6, hl, h16, g, q => by
    unfold tot at hl
    have hv := hw v (.head _)
    have lv := h16 v (.head _)
    have lf : (v.2.filter (keep skip)).length ≤ v.2.length := List.length_filter_le _ _
    have e : (acc ++ gath k skip (v :: vs)) = acc ++ (v.2.filter (keep skip)).map (conv k) ++ gath k skip vs := by unfold gath; rw [List.flatMap_cons, List.append_assoc]
    have go : ∀ (ρ' : Rho), GInv k skip σ.length ρ' → fK 14 (lp (Tk 14) m_g2) (vs.map enV) K .next ρ' (σ ++ [some ((acc ++ (v.2.filter (keep skip)).map (conv k)).map en)]) := fun ρ' g' =>
      gath_out hk13 vs _ ρ' (fun u hu => hw u (.tail _ hu)) (fun z u hu => h7 z u (.tail _ hu)) (fun z u hu => h6 z u (.tail _ hu)) (by rw [List.length_append, List.length_map]; omega) (fun u hu => h16 u (.tail _ hu)) g' fun ρ'' g'' => by
        rw [← e]; exact q ρ'' g''
    refine for_cons ?_
    generalize fK 14 (lp (Tk 14) m_g2) (vs.map enV) K = C at go ⊢
    obtain ⟨g1, g2, g3⟩ := g
    have e15 : upd ρ 14 (enV v) 15 = some (.bool skip) := g3
    simp only [m_g2, mwps, m_asg, m_ret, m_ite, m_for, m_app, m_expr, v_name, v_glob, v_fnv, v_cint, v_cstr, v_cbool, v_cnone, v_tup, v_lst, v_lstM, v_bin, v_neg, v_cmp, v_not, v_and, v_or, v_ife, v_idx, v_upto, v_uptoM, v_from, v_rev, v_kind, v_items, v_call, v_callV, v_vector, v_len, v_abs, v_listOf, v_pop, v_comp, v_compIf, v_compR, v_freeze, mevs, upd_same, e15]
    refine t_kept ⟨v, skip, rfl, hv.1, hv.2, lv, ?_⟩
    exact gath_in hk13 hv.1 (fun z => h7 z v (.head _)) (fun z => h6 z v (.head _)) _ acc _ (fun it hit => hv.2 it (List.mem_filter.mp hit).1) (by omega) ⟨g1, g2, g3⟩ rfl fun ρ' g' => go ρ' g'
theorem tot_len : ∀ (vs : List Vc) {n : Nat}, tot vs ≤ n → ∀ v ∈ vs, v.2.length ≤ n
  | v :: vs, n, h, u, hu => by
    unfold tot at h
    rcases List.mem_cons.mp hu with rfl | hu
    · omega
    · exact tot_len vs (by omega) u hu
theorem w_gath (h : S_gath ds Q σ) : mwps (Tk 14) b_gathered (fun fl _ σ' => Fin σ Q fl σ') (bindR p_gathered ds rho0) σ := by
  obtain ⟨vs, k, skip, rfl, hk13, hw, h7, h6, hl, q⟩ := h
  simp only [b_gathered, mwps, m_asg, m_ret, m_ite, m_for, m_app, m_expr, v_name, v_glob, v_fnv, v_cint, v_cstr, v_cbool, v_cnone, v_tup, v_lst, v_lstM, v_bin, v_neg, v_cmp, v_not, v_and, v_or, v_ife, v_idx, v_upto, v_uptoM, v_from, v_rev, v_kind, v_items, v_call, v_callV, v_vector, v_len, v_abs, v_listOf, v_pop, v_comp, v_compIf, v_compR, v_freeze, p_gathered, bindR, upd, Nat.reduceEqDiff, if_false, if_true, enVs]
  refine gath_out hk13 vs [] _ hw h7 h6 (by simp only [List.length_nil]; omega) (tot_len vs hl) ⟨rfl, rfl, rfl⟩ fun ρ' g => ?_
  simp only [g.1, last_get, last_set, List.nil_append]
  exact fin1 (refs_ens _) q

/-! sizes -/
theorem szx_mono {B C : Nat} (h : B ≤ C) : ∀ {x : X}, SzX B x → SzX C x
  | .na, _ => trivial
  | .nan, _ => trivial
  | .inf _, _ => trivial
  | .fin _, s => ⟨Nat.lt_of_lt_of_le s.1 (Nat.pow_le_pow_right (by decide) h), Nat.lt_of_lt_of_le s.2 (Nat.pow_le_pow_right (by decide) h)⟩
theorem mk_le (n : Int) {d : Nat} (hd : d ≠ 0) : (mkRat n d).num.natAbs ≤ n.natAbs ∧ (mkRat n d).den ≤ d := by
  rw [Rat.num_mkRat, Rat.den_mkRat, if_neg hd, if_neg hd]
  refine ⟨?_, Nat.div_le_self _ _⟩
  rw [Int.natAbs_ediv_of_dvd (Int.ofNat_dvd_left.mpr (Nat.gcd_dvd_right _ _))]
  exact Nat.div_le_self _ _
theorem sz_add {B C : Nat} : ∀ {x y : X}, SzX B x → SzX C y → SzX (B + C + 1) (addX x y)
  | .fin r, .fin s, h, k => by
    show (r + s).num.natAbs < _ ∧ (r + s).den < _
    rw [Rat.add_def']
    have hd : r.den * s.den ≠ 0 := Nat.mul_ne_zero r.den_nz s.den_nz
    have m := mk_le (r.num * s.den + s.num * r.den) hd
    have p1 := pow_mul h.1 k.2
    have p2 := pow_mul k.1 h.2
    have p3 := pow_mul h.2 k.2
    have p4 : (r.num * s.den + s.num * r.den).natAbs ≤ r.num.natAbs * s.den + s.num.natAbs * r.den := by
      refine Nat.le_trans (Int.natAbs_add_le _ _) ?_
      rw [Int.natAbs_mul, Int.natAbs_mul]; exact Nat.le_refl _
    rw [Nat.add_comm C B] at p2
    rw [Nat.pow_succ]
    omega
  | .na, _, _, _ => trivial
  | .nan, .na, _, _ => trivial
  | .inf _, .na, _, _ => trivial
  | .fin _, .na, _, _ => trivial
  | .nan, .nan, _, _ => trivial
  | .nan, .inf _, _, _ => trivial
  | .nan, .fin _, _, _ => trivial
  | .inf _, .nan, _, _ => trivial
  | .fin _, .nan, _, _ => trivial
  | .inf a, .inf b, _, _ => by unfold addX; dsimp only; split <;> exact trivial
  | .inf _, .fin _, _, _ => trivial
  | .fin _, .inf _, _, _ => trivial
theorem sz_sg {B : Nat} (b : Bool) (r : Rat) : SzX B (sgX b r) := by unfold sgX; split <;> exact trivial
theorem sz_mul {B C : Nat} : ∀ {x y : X}, SzX B x → SzX C y → SzX (B + C) (mulX x y)
  | .fin r, .fin s, h, k => by
    show (r * s).num.natAbs < _ ∧ (r * s).den < _
    rw [Rat.mul_def']
    have hd : r.den * s.den ≠ 0 := Nat.mul_ne_zero r.den_nz s.den_nz
    have m := mk_le (r.num * s.num) hd
    have p1 := pow_mul h.1 k.1
    have p3 := pow_mul h.2 k.2
    rw [Int.natAbs_mul] at m
    omega
  | .na, _, _, _ => trivial
  | .nan, .na, _, _ => trivial
  | .inf _, .na, _, _ => trivial
  | .fin _, .na, _, _ => trivial
  | .nan, .nan, _, _ => trivial
  | .nan, .inf _, _, _ => trivial
  | .nan, .fin _, _, _ => trivial
  | .inf _, .nan, _, _ => trivial
  | .fin _, .nan, _, _ => trivial
  | .inf a, .inf b, _, _ => trivial
  | .inf a, .fin s, _, _ => sz_sg _ _
  | .fin r, .inf b, _, _ => sz_sg _ _

/-! a fold over pairs -/
noncomputable def m_add : MSs := .cons (.assign 17 (.call 6 (.cons (.name 17) (.cons (.name 10) .nil)))) .nil
noncomputable def m_mul : MSs := .cons (.assign 17 (.call 8 (.cons (.name 17) (.cons (.name 10) .nil)))) .nil
theorem add_loop {f : Nat} (hf : 6 < f) {K : Fl → Rho → Sto → Prop} {B : Nat} : ∀ (l : List X) (c : Nat) (t : X) (ρ : Rho), (∀ x ∈ l, SzX B x) → SzX c t → c + (B + 1) * l.length ≤ 1900 → ρ 17 = some (enX t) → (∀ ρ', ρ' 17 = some (enX (l.foldl addX t)) → K .next ρ' σ) → forL 10 (lp (Tk f) m_add) (l.map enX) K ρ σ
  | [], c, t, ρ, _, _, _, e, q => q ρ e
  | x :: l, c, t, ρ, h, hc, hl, e, q => by
    rw [List.length_cons, Nat.mul_add, Nat.mul_one] at hl
    have go : ∀ ρ' : Rho, ρ' 17 = some (enX (addX t x)) → fK 10 (lp (Tk f) m_add) (l.map enX) K .next ρ' σ := fun ρ' e' => add_loop hf l (c + B + 1) _ ρ' (fun y hy => h y (.tail _ hy)) (sz_add hc (h x (.head _))) (by omega) e' q
    refine for_cons ?_
    generalize fK 10 (lp (Tk f) m_add) (l.map enX) K = C at go ⊢
    simp only [m_add, mwps, m_asg, m_ret, m_ite, m_for, m_app, m_expr, v_name, v_glob, v_fnv, v_cint, v_cstr, v_cbool, v_cnone, v_tup, v_lst, v_lstM, v_bin, v_neg, v_cmp, v_not, v_and, v_or, v_ife, v_idx, v_upto, v_uptoM, v_from, v_rev, v_kind, v_items, v_call, v_callV, v_vector, v_len, v_abs, v_listOf, v_pop, v_comp, v_compIf, v_compR, v_freeze, mevs, upd, Nat.reduceEqDiff, if_false, if_true, e]
    exact t_add ⟨t, x, rfl, szx_mono (by omega) hc, szx_mono (by omega) (h x (.head _)), go _ rfl⟩ hf
theorem mul_loop {f : Nat} (hf : 8 < f) {K : Fl → Rho → Sto → Prop} {B : Nat} : ∀ (l : List X) (c : Nat) (t : X) (ρ : Rho), (∀ x ∈ l, SzX B x) → SzX c t → c + (B + 1) * l.length ≤ 1900 → ρ 17 = some (enX t) → (∀ ρ', ρ' 17 = some (enX (l.foldl mulX t)) → K .next ρ' σ) → forL 10 (lp (Tk f) m_mul) (l.map enX) K ρ σ
  | [], c, t, ρ, _, _, _, e, q => q ρ e
  | x :: l, c, t, ρ, h, hc, hl, e, q => by
    rw [List.length_cons, Nat.mul_add, Nat.mul_one] at hl
    have go : ∀ ρ' : Rho, ρ' 17 = some (enX (mulX t x)) → fK 10 (lp (Tk f) m_mul) (l.map enX) K .next ρ' σ := fun ρ' e' => mul_loop hf l (c + B) _ ρ' (fun y hy => h y (.tail _ hy)) (sz_mul hc (h x (.head _))) (by omega) e' q
    refine for_cons ?_
    generalize fK 10 (lp (Tk f) m_mul) (l.map enX) K = C at go ⊢
    simp only [m_mul, mwps, m_asg, m_ret, m_ite, m_for, m_app, m_expr, v_name, v_glob, v_fnv, v_cint, v_cstr, v_cbool, v_cnone, v_tup, v_lst, v_lstM, v_bin, v_neg, v_cmp, v_not, v_and, v_or, v_ife, v_idx, v_upto, v_uptoM, v_from, v_rev, v_kind, v_items, v_call, v_callV, v_vector, v_len, v_abs, v_listOf, v_pop, v_comp, v_compIf, v_compR, v_freeze, mevs, upd, Nat.reduceEqDiff, if_false, if_true, e]
    exact t_mul ⟨t, x, rfl, szx_mono (by omega) hc, szx_mono (by omega) (h x (.head _)), go _ rfl⟩ hf
theorem sz0 : SzX 1 (.fin 0) := ⟨by decide, by decide⟩
theorem sz1 : SzX 1 (.fin 1) := ⟨by decide, by decide⟩
theorem w_dsum (h : S_dsum ds Q σ) : mwps (Tk 15) b_double_sum (fun fl _ σ' => Fin σ Q fl σ') (bindR p_double_sum ds rho0) σ := by
  obtain ⟨l, B, rfl, hs, hl, q⟩ := h
  simp only [b_double_sum, mwps, m_asg, m_ret, m_ite, m_for, m_app, m_expr, v_name, v_glob, v_fnv, v_cint, v_cstr, v_cbool, v_cnone, v_tup, v_lst, v_lstM, v_bin, v_neg, v_cmp, v_not, v_and, v_or, v_ife, v_idx, v_upto, v_uptoM, v_from, v_rev, v_kind, v_items, v_call, v_callV, v_vector, v_len, v_abs, v_listOf, v_pop, v_comp, v_compIf, v_compR, v_freeze, p_double_sum, bindR, upd, Nat.reduceEqDiff, if_false, if_true, gav]
  refine add_loop (by decide) l 1 (.fin 0) _ hs sz0 (by omega) rfl fun ρ' e => ?_
  simp only [e]
  exact fin0 (refs_enX _) q
end
end Mine
/-! Wk6 -/
namespace Mine
section
variable {k : Nat} {ds : List AV} {Q : AV → Sto → Prop} {σ : Sto}

/-! the kind of many -/
theorem sk_seven : ∀ (vs : List Vc), (∀ v ∈ vs, numK v.1) → skind vs 7 = 7
  | [], _ => rfl
  | v :: vs, h => by
    have hv := h v (.head _)
    unfold skind
    rw [if_neg (by unfold numK at hv; omega), if_neg (by decide : ¬ (7 = 8)), ite_self]
    exact sk_seven vs fun u hu => h u (.tail _ hu)
theorem sk_eight : ∀ (vs : List Vc), (∀ v ∈ vs, numK v.1) → (skind vs 8 = 7 ∧ ∃ v ∈ vs, v.1 = 7) ∨ (skind vs 8 = 8 ∧ ∀ v ∈ vs, v.1 ≠ 7)
  | [], _ => .inr ⟨rfl, fun _ h => nomatch h⟩
  | v :: vs, h => by
    have hv := h v (.head _)
    have ht : ∀ u ∈ vs, numK u.1 := fun u hu => h u (.tail _ hu)
    unfold skind
    rw [if_neg (by unfold numK at hv; omega), if_pos (rfl : 8 = 8)]
    by_cases h7 : v.1 = 7
    · rw [if_pos h7]; exact .inl ⟨sk_seven vs ht, v, .head _, h7⟩
    · rw [if_neg h7]
      rcases sk_eight vs ht with ⟨e, u, hu, e'⟩ | ⟨e, n⟩
      · exact .inl ⟨e, u, .tail _ hu, e'⟩
      · refine .inr ⟨e, fun u hu => ?_⟩
        rcases List.mem_cons.mp hu with rfl | hu
        · exact h7
        · exact n u hu
theorem sk_six : ∀ (vs : List Vc) (f : Nat), (∀ v ∈ vs, v.1 = 6) → vs ≠ [] ∨ f = 6 → skind vs f = 6
  | [], f, _, h => h.resolve_left fun z => z rfl
  | v :: vs, f, h, _ => by
    unfold skind
    rw [if_pos (h v (.head _))]
    exact sk_six vs 6 (fun u hu => h u (.tail _ hu)) (.inr rfl)
/-- the three ways -/
theorem sk_ways {vs : List Vc} (h : (∀ v ∈ vs, numK v.1) ∨ ∀ v ∈ vs, v.1 = 6) : (sk vs = 7 ∧ ∀ v ∈ vs, numK v.1) ∨ (sk vs = 8 ∧ ∀ v ∈ vs, v.1 = 8 ∨ v.1 = 10) ∨ (sk vs = 6 ∧ ∀ v ∈ vs, v.1 = 6) := by
  rcases h with h | h
  · rcases sk_eight vs h with ⟨e, -⟩ | ⟨e, n⟩
    · exact .inl ⟨e, h⟩
    · refine .inr (.inl ⟨e, fun v hv => ?_⟩)
      have := h v hv
      have := n v hv
      unfold numK at *; omega
  · cases vs with
    | nil => exact .inr (.inl ⟨rfl, fun _ h => nomatch h⟩)
    | cons v vs => exact .inr (.inr ⟨sk_six _ _ h (.inl (by simp)), h⟩)

/-! what is gathered -/
theorem gath_len (k : Nat) (skip : Bool) : ∀ vs : List Vc, (gath k skip vs).length ≤ tot vs
  | [] => Nat.le_refl _
  | v :: vs => by
    have := gath_len k skip vs
    have e : (gath k skip (v :: vs)).length = (v.2.filter (keep skip)).length + (gath k skip vs).length := by
      unfold gath; rw [List.flatMap_cons, List.length_append, List.length_map]
    have e2 : tot (v :: vs) = v.2.length + tot vs := rfl
    have := List.length_filter_le (keep skip) v.2
    omega
theorem gath_mem {k : Nat} {skip : Bool} {vs : List Vc} {it : It} (h : it ∈ gath k skip vs) : ∃ v ∈ vs, ∃ u ∈ v.2, it = conv k u := by
  unfold gath at h
  obtain ⟨v, hv, h⟩ := List.mem_flatMap.mp h
  obtain ⟨u, hu, rfl⟩ := List.mem_map.mp h
  exact ⟨v, hv, u, (List.mem_filter.mp hu).1, rfl⟩
theorem toX_conv (k : Nat) (it : It) : toX (conv k it) = toX it := by unfold conv; split <;> rfl
theorem gath7_en (skip : Bool) (vs : List Vc) : (gath 7 skip vs).map en = ((gath 7 skip vs).map toX).map enX := by
  rw [List.map_map]
  refine List.map_congr_left fun it h => ?_
  obtain ⟨v, _, u, _, rfl⟩ := gath_mem h
  rfl
theorem gath_sz {B k : Nat} {skip : Bool} {vs : List Vc} (h : ∀ v ∈ vs, ∀ it ∈ v.2, SzX B (toX it)) : ∀ x ∈ (gath k skip vs).map toX, SzX B x := fun x hx => by
  obtain ⟨it, hit, rfl⟩ := List.mem_map.mp hx
  obtain ⟨v, hv, u, hu, rfl⟩ := gath_mem hit
  rw [toX_conv]; exact h v hv u hu
theorem finV {v : Vc} (q : Q (enV v) σ) : Fin σ Q (.ret (.vec (.str v.1) (.list (v.2.map en)))) σ := fin0 (d := enV v) (refs_enV v) q

/-! sums -/
noncomputable def m_isum : MSs := .cons (.ite (.cmp .isNone (.name 10) .cnone) (.cons (.ret (.vector (.cstr 8) (.lst (.cons .cnone .nil)))) .nil) .nil) (.cons (.assign 17 (.bin .add (.name 17) (.name 10))) .nil)
theorem isum_loop {Φ : Tab} {K : Fl → Rho → Sto → Prop} : ∀ (l : List It) (t : Int) (ρ : Rho), (∀ it ∈ l, it = .q .na ∨ ∃ n, it = .i n ∧ n.natAbs ≤ 2000) → ρ 17 = some (.int t) → t.natAbs + 2000 * l.length ≤ 100000 →
    (isumG l t = .q .na → ∀ ρ', K (.ret (enV (8, [.q .na]))) ρ' σ) → (∀ s ρ', isumG l t = .i s → s.natAbs ≤ 100000 → ρ' 17 = some (.int s) → K .next ρ' σ) → forL 10 (lp Φ m_isum) (l.map en) K ρ σ
  | [], t, ρ, _, e, hl, _, q => q t ρ rfl (by omega) e
  | it :: l, t, ρ, h, e, hl, q1, q2 => by
    rw [List.length_cons] at hl
    rcases h it (.head _) with rfl | ⟨n, rfl, hn⟩
    · refine for_cons ?_
      have : ∀ ρ', fK 10 (lp Φ m_isum) (l.map en) K (.ret (enV (8, [.q .na]))) ρ' σ := q1 rfl
      generalize fK 10 (lp Φ m_isum) (l.map en) K = C at this ⊢
      simp only [m_isum, mwps, m_asg, m_ret, m_ite, m_for, m_app, m_expr, m_raise, v_name, v_glob, v_fnv, v_cint, v_cstr, v_cbool, v_cnone, v_tup, v_lst, v_lstM, v_bin, v_neg, v_cmp, v_not, v_and, v_or, v_ife, v_idx, v_upto, v_uptoM, v_from, v_rev, v_kind, v_items, v_call, v_callV, v_vector, v_len, v_abs, v_listOf, v_pop, v_comp, v_compIf, v_compR, v_freeze, mevs, upd_same, c_isN, en, enX, n_none, t_bool, onB_some, if_true]
      exact this _
    · have go : ∀ ρ' : Rho, ρ' 17 = some (.int (t + n)) → fK 10 (lp Φ m_isum) (l.map en) K .next ρ' σ := fun ρ' e' => isum_loop l (t + n) ρ' (fun u hu => h u (.tail _ hu)) e' (by omega) q1 q2
      refine for_cons ?_
      generalize fK 10 (lp Φ m_isum) (l.map en) K = C at go ⊢
      simp only [m_isum, mwps, m_asg, m_ret, m_ite, m_for, m_app, m_expr, m_raise, v_name, v_glob, v_fnv, v_cint, v_cstr, v_cbool, v_cnone, v_tup, v_lst, v_lstM, v_bin, v_neg, v_cmp, v_not, v_and, v_or, v_ife, v_idx, v_upto, v_uptoM, v_from, v_rev, v_kind, v_items, v_call, v_callV, v_vector, v_len, v_abs, v_listOf, v_pop, v_comp, v_compIf, v_compR, v_freeze, mevs, upd, Nat.reduceEqDiff, if_false, if_true, c_isN, en, n_int, t_bool, onB_some, Bool.false_eq_true, e, b_addi]
      exact go _ rfl
theorem isum_item {v : Vc} (hv : v.1 = 8 ∨ v.1 = 10) {it : It} (w : Wt v.1 it) (s : SzI it) : it = .q .na ∨ ∃ n, it = .i n ∧ n.natAbs ≤ 2000 := by
  rcases conv_num w hv with ⟨e, -⟩ | ⟨n, rfl, -⟩
  · exact .inl e
  · exact .inr ⟨n, rfl, s⟩
theorem w_sum (h : S_sum ds Q σ) : mwps (Tk 16) b_sum_of (fun fl _ σ' => Fin σ Q fl σ') (bindR p_sum_of ds rho0) σ := by
  obtain ⟨vs, skip, d, B, rfl, ⟨hv, hlen, htot⟩, hB, hl, q⟩ := h
  have num : ∀ v ∈ vs, numK v.1 := fun v m => (hv v m).1
  have wt : ∀ v ∈ vs, ∀ it ∈ v.2, Wt v.1 it := fun v m it hi => ((hv v m).2 it hi).1
  have w7 := sk_ways (.inl num)
  unfold sumOf at q
  simp only [b_sum_of, mwps, m_asg, m_ret, m_ite, m_for, m_app, m_expr, v_name, v_glob, v_fnv, v_cint, v_cstr, v_cbool, v_cnone, v_tup, v_lst, v_lstM, v_bin, v_neg, v_cmp, v_not, v_and, v_or, v_ife, v_idx, v_upto, v_uptoM, v_from, v_rev, v_kind, v_items, v_call, v_callV, v_vector, v_len, v_abs, v_listOf, v_pop, v_comp, v_compIf, v_compR, v_freeze, mevs, p_sum_of, bindR, upd, Nat.reduceEqDiff, if_false, if_true]
  refine t_kind ⟨vs, false, rfl, fun v m => .inl (num v m), ?_⟩
  refine t_gath ⟨vs, sk vs, skip, rfl, ?_, fun v m => ⟨.inl (num v m), wt v m⟩, fun _ => num, fun e v m => ?_, by omega, ?_⟩
  · rcases w7 with ⟨e, -⟩ | ⟨e, -⟩ | ⟨e, -⟩ <;> omega
  · rcases w7 with ⟨e', -⟩ | ⟨e', -⟩ | ⟨e', z⟩
    · omega
    · omega
    · exact z v m
  · rcases w7 with ⟨e, -⟩ | ⟨e, n8⟩ | ⟨e, z⟩
    · rw [e] at q ⊢
      rw [if_pos rfl] at q
      simp only [m_asg, m_ret, m_ite, m_for, m_app, m_expr, v_name, v_glob, v_fnv, v_cint, v_cstr, v_cbool, v_cnone, v_tup, v_lst, v_lstM, v_bin, v_neg, v_cmp, v_not, v_and, v_or, v_ife, v_idx, v_upto, v_uptoM, v_from, v_rev, v_kind, v_items, v_call, v_callV, v_vector, v_len, v_abs, v_listOf, v_pop, v_comp, v_compIf, v_compR, v_freeze, mwps, mevs, upd, Nat.reduceEqDiff, if_false, if_true, c_eqs (x := 7) (y := 7) rfl rfl, t_bool, onB_some, decide_true]
      rw [gath7_en]
      refine t_dsum ⟨_, B, rfl, gath_sz fun v m it hi => ((hv v m).2 it hi).2.1, ?_, finV q⟩
      rw [List.length_map]
      have := gath_len 7 skip vs
      have := Nat.mul_le_mul_left (B + 1) this
      omega
    · rw [e] at q ⊢
      rw [if_neg (by decide)] at q
      simp only [m_asg, m_ret, m_ite, m_for, m_app, m_expr, v_name, v_glob, v_fnv, v_cint, v_cstr, v_cbool, v_cnone, v_tup, v_lst, v_lstM, v_bin, v_neg, v_cmp, v_not, v_and, v_or, v_ife, v_idx, v_upto, v_uptoM, v_from, v_rev, v_kind, v_items, v_call, v_callV, v_vector, v_len, v_abs, v_listOf, v_pop, v_comp, v_compIf, v_compR, v_freeze, mwps, mevs, upd, Nat.reduceEqDiff, if_false, if_true, c_eqs (x := 8) (y := 7) rfl rfl, t_bool, onB_some, decide_false, Bool.false_eq_true]
      have gl := gath_len 8 skip vs
      refine isum_loop (gath 8 skip vs) 0 _ (fun it hit => ?_) rfl (by show 0 + _ ≤ _; omega) (fun e' ρ' => ?_) fun s ρ' e' hs eρ => ?_
      · obtain ⟨v, m, u, hu, e0⟩ := gath_mem hit
        have z := (hv v m).2 u hu
        rw [e0, conv_not (by decide)]
        exact isum_item (n8 v m) z.1 z.2.2
      · rw [e'] at q
        exact fin0 rfl q
      · rw [e'] at q
        have h1 : ¬ (2147483647 : Int) < (if s < 0 then -s else s) := by split <;> omega
        simp only [eρ, gav, c_gti, t_bool, onB_some, decide_eq_true_eq, if_neg h1]
        exact fin0 rfl q
    · cases vs with
      | nil => cases e
      | cons v vs => have := num v (.head _); have := z v (.head _); unfold numK at *; omega
theorem w_prod (h : S_prod ds Q σ) : mwps (Tk 17) b_prod_of (fun fl _ σ' => Fin σ Q fl σ') (bindR p_prod_of ds rho0) σ := by
  obtain ⟨vs, skip, d, B, rfl, ⟨hv, hlen, htot⟩, hB, hl, q⟩ := h
  have num : ∀ v ∈ vs, numK v.1 := fun v m => (hv v m).1
  have wt : ∀ v ∈ vs, ∀ it ∈ v.2, Wt v.1 it := fun v m it hi => ((hv v m).2 it hi).1
  unfold prodOf at q
  simp only [b_prod_of, mwps, m_asg, m_ret, m_ite, m_for, m_app, m_expr, v_name, v_glob, v_fnv, v_cint, v_cstr, v_cbool, v_cnone, v_tup, v_lst, v_lstM, v_bin, v_neg, v_cmp, v_not, v_and, v_or, v_ife, v_idx, v_upto, v_uptoM, v_from, v_rev, v_kind, v_items, v_call, v_callV, v_vector, v_len, v_abs, v_listOf, v_pop, v_comp, v_compIf, v_compR, v_freeze, mevs, p_prod_of, bindR, upd, Nat.reduceEqDiff, if_false, if_true, gav]
  refine t_kind ⟨vs, false, rfl, fun v m => .inl (num v m), ?_⟩
  refine t_gath ⟨vs, 7, skip, rfl, by decide, fun v m => ⟨.inl (num v m), wt v m⟩, fun _ => num, fun e v m => absurd e (by decide), by omega, ?_⟩
  rw [gath7_en]
  refine mul_loop (B := B) (by decide) _ 1 (.fin 1) _ (gath_sz fun v m it hi => ((hv v m).2 it hi).2.1) sz1 ?_ rfl fun ρ' e => ?_
  · rw [List.length_map]
    have := gath_len 7 skip vs
    have := Nat.mul_le_mul_left (B + 1) this
    omega
  · simp only [e]
    exact finV q
end
end Mine
/-! Wk7 -/
namespace Mine

theorem rat_asymm {a b : Rat} (h : a < b) : ¬ b < a := by grind
theorem gt_asymm {o : Int} {x y : X} (h : gtX o x y) : ¬ gtX o y x := by
  unfold gtX at *
  rintro (z | ⟨z, w⟩)
  · rcases h with h | ⟨h, -⟩ <;> omega
  · rcases h with h | ⟨-, h⟩
    · omega
    · exact rat_asymm h w
theorem gt_fin {o : Int} {r s : Rat} : gtX o (.fin r) (.fin s) ↔ o * s < o * r := by
  show ((0 : Int) < 0 ∨ ((0 : Int) = 0 ∧ (o : Rat) * s < (o : Rat) * r)) ↔ _
  simp
theorem gt_int {m n : Int} : gtX 1 (.fin m) (.fin n) ↔ n < m := by
  rw [gt_fin, Rat.intCast_one, Rat.one_mul, Rat.one_mul, Rat.intCast_lt_intCast]
theorem gt_neg {x b : X} (hx : lackX x = false) (hb : lackX b = false) : gtX (-1) x b ↔ gtX 1 b x := by
  cases x with
  | na => cases hx
  | nan => cases hx
  | inf a =>
    cases b with
    | na => cases hb
    | nan => cases hb
    | inf c => unfold gtX; cases a <;> cases c <;> decide
    | fin s =>
      cases a
      · exact ⟨fun h => by rcases h with h | h; exact absurd (show (0 : Int) < -1 from h) (by decide); exact absurd (show (0 : Int) = -1 from h.1) (by decide), fun h => by rcases h with h | h; exact absurd (show (1 : Int) < 0 from h) (by decide); exact absurd (show (1 : Int) = 0 from h.1) (by decide)⟩
      · exact ⟨fun _ => .inl (by decide : (-1 : Int) < 0), fun _ => .inl (by decide : (0 : Int) < 1)⟩
  | fin r =>
    cases b with
    | na => cases hb
    | nan => cases hb
    | inf c =>
      cases c
      · exact ⟨fun _ => .inl (by decide : (0 : Int) < 1), fun _ => .inl (by decide : (-1 : Int) < 0)⟩
      · exact ⟨fun h => by rcases h with h | h; exact absurd (show (1 : Int) < 0 from h) (by decide); exact absurd (show (1 : Int) = 0 from h.1) (by decide), fun h => by rcases h with h | h; exact absurd (show (0 : Int) < -1 from h) (by decide); exact absurd (show (0 : Int) = -1 from h.1) (by decide)⟩
    | fin s =>
      rw [gt_fin, gt_fin]
      have : ((-1 : Int) : Rat) = -1 := rfl
      rw [this, Rat.intCast_one]
      grind
theorem key_le {o : Int} (ho : o = 1 ∨ o = -1) {x : X} (h : lackX x = false) : (key o x).1 < 99 := by
  cases x with
  | na => cases h
  | nan => cases h
  | inf b => show (if b then -o else o) < 99; split <;> omega
  | fin r => show (0 : Int) < 99; decide
theorem gt_na {o : Int} (ho : o = 1 ∨ o = -1) (x : X) : ¬ gtX o x .na := by
  unfold gtX
  cases x with
  | na => exact fun h => by rcases h with h | h; exact absurd (show (100 : Int) < 100 from h) (by decide); exact absurd (show (0 : Rat) < 0 from h.2) (by decide)
  | nan => exact fun h => by rcases h with h | h; exact absurd (show (100 : Int) < 99 from h) (by decide); exact absurd (show (100 : Int) = 99 from h.1) (by decide)
  | inf b => have := key_le ho (x := .inf b) rfl; exact fun h => by rcases h with h | h; (have : (100 : Int) < _ := h; omega); (have : (100 : Int) = _ := h.1; omega)
  | fin r => exact fun h => by rcases h with h | h; exact absurd (show (100 : Int) < 0 from h) (by decide); exact absurd (show (100 : Int) = 0 from h.1) (by decide)
theorem mark_step {o : Int} (ho : o = 1 ∨ o = -1) {b x : X} (h : (lackX b || lackX x) = true) : stepX o b x = markX b x := by
  unfold stepX
  cases b with
  | na => rw [if_neg (gt_na ho x)]; cases x <;> rfl
  | nan =>
    cases x with
    | na => rw [if_pos (.inl (by decide : (99 : Int) < 100))]; rfl
    | nan => rw [if_neg (fun h => by rcases h with h | h; exact absurd (show (99 : Int) < 99 from h) (by decide); exact absurd (show (0 : Rat) < 0 from h.2) (by decide))]; rfl
    | inf c => have := key_le ho (x := .inf c) rfl; rw [if_neg (fun h => by rcases h with h | h; (have : (99 : Int) < _ := h; omega); (have : (99 : Int) = _ := h.1; omega))]; rfl
    | fin r => rw [if_neg (fun h => by rcases h with h | h; exact absurd (show (99 : Int) < 0 from h) (by decide); exact absurd (show (99 : Int) = 0 from h.1) (by decide))]; rfl
  | inf c =>
    have := key_le ho (x := .inf c) rfl
    cases x with
    | na => rw [if_pos (.inl (show (key o (.inf c)).1 < 100 by omega))]; rfl
    | nan => rw [if_pos (.inl this)]; rfl
    | inf d => cases h
    | fin r => cases h
  | fin r =>
    cases x with
    | na => rw [if_pos (.inl (by decide : (0 : Int) < 100))]; rfl
    | nan => rw [if_pos (.inl (by decide : (0 : Int) < 99))]; rfl
    | inf d => cases h
    | fin r => cases h
theorem lack_toX (it : It) : lackX (toX it) = lack it := by cases it <;> rfl
theorem step_toX (o : Int) (b x : It) : toX (step o b x) = stepX o (toX b) (toX x) := by
  by_cases h : gtX o (toX x) (toX b)
  · rw [step, stepX, if_pos h, if_pos h]
  · rw [step, stepX, if_neg h, if_neg h]
theorem step_mem (o : Int) (b x : It) : step o b x = b ∨ step o b x = x := by unfold step; split <;> simp
theorem step_q (o : Int) (x y : X) : step o (.q x) (.q y) = .q (stepX o x y) := by
  by_cases h : gtX o y x
  · rw [step, stepX, if_pos h, if_pos (show gtX o (toX (.q y)) (toX (.q x)) from h)]
  · rw [step, stepX, if_neg h, if_neg (show ¬ gtX o (toX (.q y)) (toX (.q x)) from h)]
theorem fold_na {o : Int} (ho : o = 1 ∨ o = -1) : ∀ l : List It, l.foldl (step o) (.q .na) = .q .na
  | [] => rfl
  | x :: l => by
    have : step o (.q .na) x = .q .na := if_neg (gt_na ho _)
    rw [List.foldl_cons, this]; exact fold_na ho l

section
variable {k : Nat} {ds : List AV} {Q : AV → Sto → Prop} {σ : Sto}
theorem w_order (h : S_order ds Q σ) : mwps (Tk 18) b_item_order (fun fl _ σ' => Fin σ Q fl σ') (bindR p_item_order ds rho0) σ := by
  obtain ⟨k, x, y, rfl, wx, wy, lx, ly, sx, sy, h1, h2, h3⟩ := h
  have tail : ∀ a b : Int, k ≠ 7 → (gtX 1 (toX y) (toX x) ↔ a < b) → (gtX 1 (toX x) (toX y) ↔ b < a) → (if a = b then Fin σ Q (.ret (.int 0)) σ else if a < b then Fin σ Q (.ret (.int (-1))) σ else Fin σ Q (.ret (.int 1)) σ) := fun a b _ e1 e2 => by
    rw [e1] at h1 h2 h3
    rw [e2] at h2 h3
    by_cases e : a = b
    · rw [if_pos e]; exact fin0 rfl (h3 (by omega) (by omega))
    · rw [if_neg e]
      by_cases l : a < b
      · rw [if_pos l]; exact fin0 rfl (h1 l)
      · rw [if_neg l]; exact fin0 rfl (h2 l (by omega))
  rcases wt_cases wx with ⟨rfl, x', rfl⟩ | ⟨hk, _⟩
  · rcases wt_cases wy with ⟨_, y', rfl⟩ | ⟨hk, _⟩
    · simp only [b_item_order, m_asg, m_ret, m_ite, mwps, v_name, v_glob, v_fnv, v_cint, v_cstr, v_cbool, v_cnone, v_tup, v_lst, v_lstM, v_bin, v_neg, v_cmp, v_not, v_and, v_or, v_ife, v_idx, v_upto, v_uptoM, v_from, v_rev, v_kind, v_items, v_call, v_callV, v_vector, v_len, v_abs, v_listOf, v_pop, v_comp, v_compIf, v_compR, v_freeze, mevs, p_item_order, bindR, upd, Nat.reduceEqDiff, if_false, if_true, c_eqs (x := 7) (y := 7) rfl rfl, t_bool, onB_some, decide_true]
      exact t_cmp ⟨x', y', rfl, lx, ly, sx, sy, fun z => fin0 rfl (h1 z), fun z w => fin0 rfl (h2 z w), fun z w => fin0 rfl (h3 z w)⟩
    · omega
  · have k7 : ¬ k = 7 := by omega
    have k13 : decide (k < 13) = true := decide_eq_true (by omega)
    have d7 := decide_eq_false k7
    cases x with
    | q x =>
      cases x with
      | na => cases lx
      | _ => exact absurd wx k7
    | i m =>
      cases y with
      | q y =>
        cases y with
        | na => cases ly
        | _ => exact absurd wy k7
      | i n =>
        simp only [b_item_order, m_asg, m_ret, m_ite, mwps, v_name, v_glob, v_fnv, v_cint, v_cstr, v_cbool, v_cnone, v_tup, v_lst, v_lstM, v_bin, v_neg, v_cmp, v_not, v_and, v_or, v_ife, v_idx, v_upto, v_uptoM, v_from, v_rev, v_kind, v_items, v_call, v_callV, v_vector, v_len, v_abs, v_listOf, v_pop, v_comp, v_compIf, v_compR, v_freeze, mevs, p_item_order, bindR, upd, Nat.reduceEqDiff, if_false, if_true, c_eqs (x := k) (y := 7) k13 rfl, d7, t_bool, onB_some, Bool.false_eq_true, en, c_eqi, c_lti, decide_eq_true_eq]
        exact tail m n k7 gt_int gt_int
      | s j => have := wx; have := wy.1; unfold Wt at *; omega
    | s j =>
      cases y with
      | q y =>
        cases y with
        | na => cases ly
        | _ => exact absurd wy k7
      | i n => have := wx.1; have := wy; unfold Wt at *; omega
      | s l =>
        have c5 : cmpA σ .lt (.str j) (.str l) = fun K : Bool → Prop => j < 5 ∧ l < 5 ∧ K (decide (j < l)) := rfl
        simp only [b_item_order, m_asg, m_ret, m_ite, mwps, v_name, v_glob, v_fnv, v_cint, v_cstr, v_cbool, v_cnone, v_tup, v_lst, v_lstM, v_bin, v_neg, v_cmp, v_not, v_and, v_or, v_ife, v_idx, v_upto, v_uptoM, v_from, v_rev, v_kind, v_items, v_call, v_callV, v_vector, v_len, v_abs, v_listOf, v_pop, v_comp, v_compIf, v_compR, v_freeze, mevs, p_item_order, bindR, upd, Nat.reduceEqDiff, if_false, if_true, c_eqs (x := k) (y := 7) k13 rfl, d7, t_bool, onB_some, Bool.false_eq_true, en, c_eqs (x := j) (y := l) (decide_eq_true (by have := wx.2; omega)) (decide_eq_true (by have := wy.2; omega)), c5, decide_eq_true_eq]
        have t := tail j l k7 (by show gtX 1 (.fin (l : Int)) (.fin (j : Int)) ↔ _; rw [gt_int]) (by show gtX 1 (.fin (j : Int)) (.fin (l : Int)) ↔ _; rw [gt_int])
        by_cases e : j = l
        · rw [if_pos e]; rw [if_pos (by rw [e])] at t; exact t
        · rw [if_neg e]; rw [if_neg (by omega)] at t
          refine ⟨wx.2, wy.2, ?_⟩
          by_cases z : j < l
          · rw [if_pos z]; rw [if_pos (by omega)] at t; exact t
          · rw [if_neg z]; rw [if_neg (by omega)] at t; exact t

noncomputable def m_ex : MSs := .cons (.ite (.or (.cons (.call 11 (.cons (.name 9) (.cons (.name 20) .nil))) (.cons (.call 11 (.cons (.name 9) (.cons (.name 10) .nil))) .nil))) (.cons (.ite (.cmp .eq (.name 9) (.cstr 7)) (.cons (.assign 20 (.call 4 (.cons (.name 20) (.cons (.name 10) .nil)))) .nil) (.cons (.ret .cnone) .nil)) .nil) (.cons (.ite (.cmp .eq (.call 18 (.cons (.name 9) (.cons (.name 10) (.cons (.name 20) .nil)))) (.name 19)) (.cons (.assign 20 (.name 10)) .nil) .nil) .nil)) .nil
theorem ex_loop {k : Nat} {o : Int} (ho : o = 1 ∨ o = -1) (k13 : k < 13) {K : Fl → Rho → Sto → Prop} : ∀ (l : List It) (b : It) (ρ : Rho), Wt k b → SzX 1900 (toX b) → (∀ it ∈ l, Wt k it ∧ SzX 1900 (toX it)) → ρ 20 = some (en b) → ρ 9 = some (.str k) → ρ 19 = some (.int o) →
    (l.foldl (step o) b = .q .na → ∀ ρ', K (.ret .none) ρ' σ) → (∀ ρ', ρ' 20 = some (en (l.foldl (step o) b)) → K .next ρ' σ) → forL 10 (lp (Tk 19) m_ex) (l.map en) K ρ σ
  | [], b, ρ, _, _, _, e, _, _, _, q => q ρ e
  | it :: l, b, ρ, wb, sb, h, e20, e9, e19, q1, q2 => by
    obtain ⟨wi, si⟩ := h it (.head _)
    have wm : Wt k (step o b it) ∧ SzX 1900 (toX (step o b it)) := by
      rcases step_mem o b it with e | e
      · rw [e]; exact ⟨wb, sb⟩
      · rw [e]; exact ⟨wi, si⟩
    have go : ∀ ρ' : Rho, ρ' 20 = some (en (step o b it)) → ρ' 9 = some (.str k) → ρ' 19 = some (.int o) → fK 10 (lp (Tk 19) m_ex) (l.map en) K .next ρ' σ := fun ρ' e1 e2 e3 => ex_loop ho k13 l (step o b it) ρ' wm.1 wm.2 (fun u hu => h u (.tail _ hu)) e1 e2 e3 q1 q2
    have rt : l.foldl (step o) (step o b it) = .q .na → ∀ ρ', fK 10 (lp (Tk 19) m_ex) (l.map en) K (.ret .none) ρ' σ := q1
    refine for_cons ?_
    generalize fK 10 (lp (Tk 19) m_ex) (l.map en) K = C at go rt ⊢
    have lk : (lack b || lack it) = true → (k = 7 → ∀ ρ' : Rho, ρ' 20 = some (en b) → ρ' 10 = some (en it) → ρ' 9 = some (.str k) → ρ' 19 = some (.int o) → Tk 19 4 [en b, en it] (fun d σ1 => C .next (upd ρ' 20 d) σ1) σ) ∧ (k ≠ 7 → ∀ ρ', C (.ret .none) ρ' σ) := fun hl => by
      constructor
      · rintro rfl ρ' _ _ e9 e19
        rcases wt_cases wb with ⟨_, x, rfl⟩ | ⟨z, _⟩
        · rcases wt_cases wi with ⟨_, y, rfl⟩ | ⟨z, _⟩
          · refine t_marked ⟨x, y, rfl, go _ ?_ e9 e19⟩
            rw [step_q, mark_step ho hl]; rfl
          · omega
        · omega
      · intro k7 ρ'
        refine rt ?_ ρ'
        have one : ∀ u, Wt k u → lack u = true → u = .q .na := fun u wu lu => by
          cases u with
          | q x =>
            cases x with
            | na => rfl
            | nan => exact absurd wu k7
            | inf _ => cases lu
            | fin _ => cases lu
          | i _ => cases lu
          | s _ => cases lu
        have : step o b it = .q .na := by
          cases hb : lack b with
          | true =>
            rw [one b wb hb]; exact if_neg (gt_na ho _)
          | false =>
            rw [hb, Bool.false_or] at hl
            rw [one it wi hl]
            exact if_pos (.inl (Int.lt_trans (key_le ho (by rw [lack_toX]; exact hb)) (by decide : (99 : Int) < 100)))
        rw [this]; exact fold_na ho l
    simp only [m_ex, m_asg, m_ret, m_ite, mwps, v_name, v_glob, v_fnv, v_cint, v_cstr, v_cbool, v_cnone, v_tup, v_lst, v_lstM, v_bin, v_neg, v_cmp, v_not, v_and, v_or, v_ife, v_idx, v_upto, v_uptoM, v_from, v_rev, v_kind, v_items, v_call, v_callV, v_vector, v_len, v_abs, v_listOf, v_pop, v_comp, v_compIf, v_compR, v_freeze, mevs, mor, upd, Nat.reduceEqDiff, if_false, if_true, e20, e9, e19]
    have tail : (lack b || lack it) = true → cmpA σ .eq (.str k) (.str 7) (fun t => onB (tru σ (.bool t)) fun b_1 => if b_1 = true then Tk 19 4 [en b, en it] (fun d σ1 => C .next (fun y => if y = 20 then some d else if y = 10 then some (en it) else ρ y) σ1) σ else C (.ret .none) (fun y => if y = 10 then some (en it) else ρ y) σ) := fun hl => by
      rw [c_eqs (decide_eq_true k13) rfl, t_bool, onB_some]
      by_cases k7 : k = 7
      · rw [if_pos (decide_eq_true k7)]
        exact (lk hl).1 k7 (upd ρ 10 (en it)) e20 rfl e9 e19
      · rw [if_neg (by rw [decide_eq_false k7]; decide)]
        exact (lk hl).2 k7 _
    refine t_lacking ⟨k, b, rfl, wb, ?_⟩
    simp only [t_bool, onB_some]
    cases hb : lack b with
    | true => exact tail (by rw [hb]; rfl)
    | false =>
      rw [if_neg (by decide)]
      refine t_lacking ⟨k, it, rfl, wi, ?_⟩
      simp only [t_bool, onB_some]
      cases hi : lack it with
      | true => exact tail (by rw [hb, hi]; rfl)
      | false =>
        rw [if_neg (by decide)]
        have lx : lackX (toX it) = false := by rw [lack_toX]; exact hi
        have ly : lackX (toX b) = false := by rw [lack_toX]; exact hb
        have st : gtX o (toX it) (toX b) → step o b it = it := fun z => if_pos z
        have sn : ¬ gtX o (toX it) (toX b) → step o b it = b := fun z => if_neg z
        have up : gtX o (toX it) (toX b) → ∀ c : Int, c = o → cmpA σ .eq (.int c) (.int o) fun t => onB (tru σ (.bool t)) fun t => if t = true then C .next (fun y => if y = 20 then some (en it) else if y = 10 then some (en it) else ρ y) σ else C .next (fun y => if y = 10 then some (en it) else ρ y) σ := fun z c hc => by
          rw [c_eqi, t_bool, onB_some, if_pos (decide_eq_true hc)]
          exact go _ (by rw [st z]; rfl) e9 e19
        have st' : ¬ gtX o (toX it) (toX b) → ∀ c : Int, c ≠ o → cmpA σ .eq (.int c) (.int o) fun t => onB (tru σ (.bool t)) fun t => if t = true then C .next (fun y => if y = 20 then some (en it) else if y = 10 then some (en it) else ρ y) σ else C .next (fun y => if y = 10 then some (en it) else ρ y) σ := fun z c hc => by
          rw [c_eqi, t_bool, onB_some, if_neg (by rw [decide_eq_false hc]; decide)]
          exact go _ (by rw [sn z]; exact e20) e9 e19
        refine t_order ⟨k, it, b, rfl, wi, wb, hi, hb, si, sb, fun z => ?_, fun z w => ?_, fun z w => ?_⟩
        · rcases ho with rfl | rfl
          · exact st' (gt_asymm z) _ (by decide)
          · exact up ((gt_neg lx ly).mpr z) _ rfl
        · rcases ho with rfl | rfl
          · exact up w _ rfl
          · exact st' (fun q => z ((gt_neg lx ly).mp q)) _ (by decide)
        · rcases ho with rfl | rfl
          · exact st' w _ (by decide)
          · exact st' (fun q => z ((gt_neg lx ly).mp q)) _ (by decide)
end
end Mine
/-! Wk8 -/
namespace Mine
section
variable {k : Nat} {ds : List AV} {Q : AV → Sto → Prop} {σ : Sto}
theorem fin2 {n : Nat} {es : List AV} {d : AV} (hr : ∀ j, refsBelows j es = true) (r : ∀ j, refsBelow j d = true) (q : Q d (σ.set n (some es))) : Fin σ Q (.ret d) (σ.set n (some es)) := by
  refine ⟨d, σ.length, rfl, r _, Nat.le_refl _, by rw [List.length_set]; exact Nat.le_refl _, fun i fs h e => ?_, by rw [List.take_of_length_le (by rw [List.length_set]; exact Nat.le_refl _)]; exact q⟩
  rw [List.getElem?_set] at e
  split at e
  · split at e
    · cases e; exact .inr (hr _)
    · cases e
  · exact .inl e
theorem refs_strs (l : List Nat) (j : Nat) : refsBelows j (l.map .str) = true := refs_map (fun _ => rfl) l
theorem refs_ints (l : List Int) (j : Nat) : refsBelows j (l.map .int) = true := refs_map (fun _ => rfl) l

theorem w_exi (h : S_exi ds Q σ) : mwps (Tk 19) b_extreme_item (fun fl _ σ' => Fin σ Q fl σ') (bindR p_extreme_item ds rho0) σ := by
  obtain ⟨k, l, o, rfl, ho, hn, hw, q⟩ := h
  cases l with
  | nil => exact absurd rfl hn
  | cons x l =>
    have k13 : k < 13 := by rcases wt_cases (hw x (.head _)).1 with ⟨e, _⟩ | ⟨e, _⟩ <;> omega
    simp only [b_extreme_item, m_asg, m_ret, m_for, mwps, v_name, v_glob, v_fnv, v_cint, v_cstr, v_cbool, v_cnone, v_tup, v_lst, v_lstM, v_bin, v_neg, v_cmp, v_not, v_and, v_or, v_ife, v_idx, v_upto, v_uptoM, v_from, v_rev, v_kind, v_items, v_call, v_callV, v_vector, v_len, v_abs, v_listOf, v_pop, v_comp, v_compIf, v_compR, v_freeze, p_extreme_item, bindR, upd, Nat.reduceEqDiff, if_false, if_true]
    refine ⟨by decide, by decide, en x, rfl, ?_⟩
    refine ex_loop ho k13 (x :: l) x _ (hw x (.head _)).1 (hw x (.head _)).2 hw rfl rfl rfl (fun e ρ' => ?_) fun ρ' e => ?_
    · have e0 : ex o (x :: l) = (x :: l).foldl (step o) x := rfl
      rw [e0, e] at q
      exact fin0 rfl q
    · simp only [e]
      exact fin0 (refs_en _) q
theorem t_list {l : List AV} (h : l.length < lenB) : tru σ (.list l) = some (!l.isEmpty) := if_pos h
theorem gath_wt {vs : List Vc} {skip : Bool} (h : RngVs vs) : (∀ it ∈ gath (sk vs) skip vs, Wt (sk vs) it ∧ SzX 1900 (toX it)) ∧ sk vs < 13 ∧ (sk vs = 7 → ∀ v ∈ vs, numK v.1) ∧ (sk vs = 6 → ∀ v ∈ vs, v.1 = 6) := by
  have w := sk_ways h.1
  refine ⟨fun it hit => ?_, ?_, fun e => ?_, fun e => ?_⟩
  · obtain ⟨v, hv, u, hu, rfl⟩ := gath_mem hit
    obtain ⟨wu, su⟩ := h.2.1 v hv u hu
    refine ⟨?_, by rw [toX_conv]; exact su⟩
    rcases w with ⟨e, n⟩ | ⟨e, n⟩ | ⟨e, n⟩
    · rw [e]
      show Wt 7 (.q (toX u))
      cases toX u <;> first | rfl | exact .inr (.inl rfl)
    · rw [e, conv_not (by decide)]
      rcases conv_num wu (n v hv) with ⟨z, -⟩ | ⟨m, z, -⟩
      · rw [z]; exact .inr (.inr (.inl rfl))
      · rw [z]; exact .inl rfl
    · rw [e, conv_not (by decide)]
      rw [n v hv] at wu; exact wu
  · rcases w with ⟨e, -⟩ | ⟨e, -⟩ | ⟨e, -⟩ <;> omega
  · rcases w with ⟨_, n⟩ | ⟨e', -⟩ | ⟨e', -⟩
    · exact n
    · omega
    · omega
  · rcases w with ⟨e', -⟩ | ⟨e', -⟩ | ⟨_, n⟩
    · omega
    · omega
    · exact n
theorem kinds_of {vs : List Vc} (h : RngVs vs) : ∀ v ∈ vs, numK v.1 ∨ v.1 = 6 := fun v hv => by
  rcases h.1 with z | z
  · exact .inl (z v hv)
  · exact .inr (z v hv)
theorem w_exo (h : S_exo ds Q σ) : mwps (Tk 20) b_extreme_of (fun fl _ σ' => Fin σ Q fl σ') (bindR p_extreme_of ds rho0) σ := by
  obtain ⟨vs, skip, d, o, rfl, hr, ho, q1, q2⟩ := h
  obtain ⟨gw, k13, g7, g6⟩ := gath_wt (skip := skip) hr
  have kk := kinds_of hr
  have gl := gath_len (sk vs) skip vs
  have ht := hr.2.2
  simp only [b_extreme_of, m_asg, m_ret, m_ite, m_app, mwps, v_name, v_glob, v_fnv, v_cint, v_cstr, v_cbool, v_cnone, v_tup, v_lst, v_lstM, v_bin, v_neg, v_cmp, v_not, v_and, v_or, v_ife, v_idx, v_upto, v_uptoM, v_from, v_rev, v_kind, v_items, v_call, v_callV, v_vector, v_len, v_abs, v_listOf, v_pop, v_comp, v_compIf, v_compR, v_freeze, mevs, p_extreme_of, bindR, upd, Nat.reduceEqDiff, if_false, if_true, gav]
  refine t_kind ⟨vs, true, rfl, fun v m => (kk v m).imp id fun e => ⟨rfl, e⟩, ?_⟩
  refine t_gath ⟨vs, sk vs, skip, rfl, k13, fun v m => ⟨kk v m, fun it hi => (hr.2.1 v m it hi).1⟩, g7, g6, ht, ?_⟩
  dsimp only
  rw [t_list (by rw [List.length_map]; unfold lenB; omega), onB_some]
  cases hg : gath (sk vs) skip vs with
  | nil =>
    rw [if_neg (by decide)]
    obtain ⟨n, ns, rfl, e, hl, q⟩ := q2 hg
    rcases ho with rfl | rfl
    · simp only [c_gti, t_bool, onB_some]
      rw [if_pos (by decide)]
      refine ⟨⟨_, e⟩, _, e, by rw [List.length_map]; unfold lenB; simp only [List.length_cons, List.length_nil] at hl; omega, ?_⟩
      refine t_neg ⟨.inf false, rfl, ?_⟩
      rw [List.map_append] at q
      refine fin2 (fun j => ?_) (fun j => rfl) q
      have := refs_strs (ns ++ [11]) j
      rwa [List.map_append] at this
    · simp only [c_gti, t_bool, onB_some]
      rw [if_neg (by decide)]
      refine ⟨⟨_, e⟩, _, e, by rw [List.length_map]; unfold lenB; simp only [List.length_cons, List.length_nil] at hl; omega, ?_⟩
      rw [List.map_append] at q
      refine fin2 (fun j => ?_) (fun j => rfl) q
      have := refs_strs (ns ++ [12]) j
      rwa [List.map_append] at this
  | cons x l =>
    rw [if_pos (show (!(List.map en (x :: l)).isEmpty) = true from rfl)]
    have hne : gath (sk vs) skip vs ≠ [] := by rw [hg]; simp
    have q := q1 hne
    rw [hg] at q gw
    exact t_exi ⟨sk vs, x :: l, o, rfl, ho, by simp, gw, finV q⟩
theorem w_max (h : S_max ds Q σ) : mwps (Tk 21) b_max_of (fun fl _ σ' => Fin σ Q fl σ') (bindR p_max_of ds rho0) σ := by
  obtain ⟨a, b, c, rfl, h⟩ := h
  simp only [b_max_of, m_ret, mwps, v_name, v_glob, v_fnv, v_cint, v_cstr, v_cbool, v_cnone, v_tup, v_lst, v_lstM, v_bin, v_neg, v_cmp, v_not, v_and, v_or, v_ife, v_idx, v_upto, v_uptoM, v_from, v_rev, v_kind, v_items, v_call, v_callV, v_vector, v_len, v_abs, v_listOf, v_pop, v_comp, v_compIf, v_compR, v_freeze, mevs, p_max_of, bindR, upd, Nat.reduceEqDiff, if_false, if_true]
  obtain ⟨vs, skip, d, o, e, hr, ho, q1, q2⟩ := h
  obtain ⟨rfl, rfl, rfl, rfl⟩ : a = enVs vs ∧ b = .bool skip ∧ c = d ∧ 1 = o := by simpa using e
  refine t_exo ⟨vs, skip, c, 1, rfl, hr, ho, fun z => fin0 (refs_enV _) (q1 z), fun z => ?_⟩
  obtain ⟨n, ns, rfl, e, hl, q⟩ := q2 z
  exact ⟨n, ns, rfl, e, hl, fin2 (refs_strs _) (fun j => refs_enV _) q⟩
theorem w_min (h : S_min ds Q σ) : mwps (Tk 22) b_min_of (fun fl _ σ' => Fin σ Q fl σ') (bindR p_min_of ds rho0) σ := by
  obtain ⟨a, b, c, rfl, h⟩ := h
  simp only [b_min_of, m_ret, mwps, v_name, v_glob, v_fnv, v_cint, v_cstr, v_cbool, v_cnone, v_tup, v_lst, v_lstM, v_bin, v_neg, v_cmp, v_not, v_and, v_or, v_ife, v_idx, v_upto, v_uptoM, v_from, v_rev, v_kind, v_items, v_call, v_callV, v_vector, v_len, v_abs, v_listOf, v_pop, v_comp, v_compIf, v_compR, v_freeze, mevs, p_min_of, bindR, upd, Nat.reduceEqDiff, if_false, if_true]
  obtain ⟨vs, skip, d, o, e, hr, ho, q1, q2⟩ := h
  obtain ⟨rfl, rfl, rfl, rfl⟩ : a = enVs vs ∧ b = .bool skip ∧ c = d ∧ -1 = o := by simpa using e
  refine t_exo ⟨vs, skip, c, -1, rfl, hr, ho, fun z => fin0 (refs_enV _) (q1 z), fun z => ?_⟩
  obtain ⟨n, ns, rfl, e, hl, q⟩ := q2 z
  exact ⟨n, ns, rfl, e, hl, fin2 (refs_strs _) (fun j => refs_enV _) q⟩
theorem b_app {a b : List AV} {K : AV → Prop} (ha : a.length < lenB) (hb : b.length < lenB) (q : K (.list (a ++ b))) : binA .add (.list a) (.list b) K := ⟨ha, hb, q⟩
theorem w_range (h : S_range ds Q σ) : mwps (Tk 23) b_range_of (fun fl _ σ' => Fin σ Q fl σ') (bindR p_range_of ds rho0) σ := by
  obtain ⟨vs, skip, d, rfl, hr, q1, q2⟩ := h
  simp only [b_range_of, m_asg, m_ret, mwps, v_name, v_glob, v_fnv, v_cint, v_cstr, v_cbool, v_cnone, v_tup, v_lst, v_lstM, v_bin, v_neg, v_cmp, v_not, v_and, v_or, v_ife, v_idx, v_upto, v_uptoM, v_from, v_rev, v_kind, v_items, v_call, v_callV, v_vector, v_len, v_abs, v_listOf, v_pop, v_comp, v_compIf, v_compR, v_freeze, mevs, p_range_of, bindR, upd, Nat.reduceEqDiff, if_false, if_true]
  have one : 1 < lenB := by decide
  refine t_min ⟨_, _, _, rfl, vs, skip, d, -1, rfl, hr, .inr rfl, fun z => ?_, fun z => ?_⟩
  · have q := q1 z
    unfold rangeOf at q
    rw [if_neg z] at q
    exact t_max ⟨_, _, _, rfl, vs, skip, d, 1, rfl, hr, .inl rfl, fun _ => b_app one one (finV q), fun z' => absurd z' z⟩
  · obtain ⟨n, ns, rfl, e, hl, q⟩ := q2 z
    unfold rangeOf at q
    rw [if_pos z] at q
    have hn : n < σ.length := (List.getElem?_eq_some_iff.mp e).1
    simp only [List.length_cons, List.length_nil] at hl
    refine ⟨n, ns, rfl, e, by simp only [List.length_cons, List.length_nil]; omega, ?_⟩
    refine t_max ⟨_, _, _, rfl, vs, skip, .ref n, 1, rfl, hr, .inl rfl, fun z' => absurd z z', fun _ => ⟨n, ns ++ [12], rfl, by rw [List.getElem?_set, if_pos rfl, if_pos hn]; rfl, ?_, ?_⟩⟩
    · simp only [List.length_append, List.length_cons, List.length_nil]; omega
    · rw [List.set_set, List.append_assoc]
      exact b_app one one (fin2 (refs_strs _) (fun j => refs_enV (7, [.q (.inf false), .q (.inf true)])) q)
end
end Mine
/-! Wk9 -/
namespace Mine
section
variable {k : Nat} {ds : List AV} {Q : AV → Sto → Prop} {σ : Sto}
theorem en7 {v : Vc} (e : v.1 = 7) (h : ∀ it ∈ v.2, Wt v.1 it) : v.2.map en = (v.2.map toX).map enX := by
  rw [List.map_map]
  refine List.map_congr_left fun it hit => ?_
  have w := h it hit
  rw [e] at w
  rcases wt_cases w with ⟨-, x, rfl⟩ | ⟨z, -⟩
  · rfl
  · omega
theorem refs_xs {j : Nat} (l : List X) : refsBelow j (.list (l.map enX)) = true := refs_map refs_enX l
theorem w_nums (h : S_nums ds Q σ) : mwps (Tk 24) b_number_items (fun fl _ σ' => Fin σ Q fl σ') (bindR p_number_items ds rho0) σ := by
  obtain ⟨v, rfl, hk, hw, hl, q⟩ := h
  simp only [b_number_items, m_ret, m_ite, m_raise, mwps, v_name, v_glob, v_fnv, v_cint, v_cstr, v_cbool, v_cnone, v_tup, v_lst, v_lstM, v_bin, v_neg, v_cmp, v_not, v_and, v_or, v_ife, v_idx, v_upto, v_uptoM, v_from, v_rev, v_kind, v_items, v_call, v_callV, v_vector, v_len, v_abs, v_listOf, v_pop, v_comp, v_compIf, v_compR, v_freeze, mevs, p_number_items, bindR, upd, Nat.reduceEqDiff, if_false, if_true, enV, c_eqs (x := v.1) (y := 7) (kind_ok (.inl hk)) rfl, t_bool, onB_some, decide_eq_true_eq]
  by_cases h7 : v.1 = 7
  · rw [if_pos h7, en7 h7 hw]
    exact fin0 (refs_xs _) q
  · have h8 : v.1 = 8 ∨ v.1 = 10 := by unfold numK at hk; omega
    rw [if_neg h7]
    refine c_not2 h8 ?_
    rw [if_neg (by decide)]
    refine maps (g := fun it => enX (toX it)) v.2 [] (by simp only [List.length_nil]; omega) (fun it hit C c => ?_) ?_
    · show Tk 24 2 [en it] (fun y σ3 => C (some y) σ3) σ
      rcases conv_num (hw it hit) h8 with ⟨rfl, e⟩ | ⟨n, rfl, e⟩
      · rw [e] at c; exact t_from (.inl ⟨rfl, c⟩)
      · rw [e] at c; exact t_from (.inr ⟨n, rfl, c⟩)
    · have := fin0 (refs_xs _) q
      rw [List.map_map] at this
      exact this
theorem sz_fold {B : Nat} : ∀ (l : List X) (c : Nat) (t : X), (∀ x ∈ l, SzX B x) → SzX c t → SzX (c + (B + 1) * l.length) (l.foldl addX t)
  | [], c, t, _, h => h
  | x :: l, c, t, h, hc => by
    have := sz_fold l (c + B + 1) _ (fun y hy => h y (.tail _ hy)) (sz_add hc (h x (.head _)))
    rw [List.length_cons, Nat.mul_add, Nat.mul_one]
    rw [show c + ((B + 1) * l.length + (B + 1)) = c + B + 1 + (B + 1) * l.length by omega]
    exact this
theorem sz_div {B : Nat} {x : X} {n : Int} (h : SzX B x) (h0 : 0 < n) (h1 : n < 8) : SzX (B + 3) (divX x n) := by
  cases x with
  | fin r =>
    have e := div_fin r h0
    have hd : r.den * n.natAbs ≠ 0 := Nat.mul_ne_zero r.den_nz (by omega)
    have e2 : mkX (r.num * 1) (r.den * n) = .fin (mkRat r.num (r.den * n.natAbs)) := by
      have : ((r.den : Int) * n) ≠ 0 := Int.mul_ne_zero (den_ne r) (by omega)
      have e3 : (r.den : Int) * n = ((r.den * n.natAbs : Nat) : Int) := by rw [Int.natCast_mul, Int.natAbs_of_nonneg (by omega)]
      rw [mkX, if_neg this, Int.mul_one, e3, Rat.divInt_ofNat]
    show SzX _ (.fin (r / n))
    rw [← e, e2]
    have m := mk_le r.num hd
    refine ⟨?_, ?_⟩
    · exact Nat.lt_of_le_of_lt m.1 (Nat.lt_of_lt_of_le h.1 (Nat.pow_le_pow_right (by decide) (by omega)))
    · exact Nat.lt_of_le_of_lt m.2 (pow_mul h.2 (show n.natAbs < 2 ^ 3 by omega))
  | _ => exact trivial
theorem w_meani (h : S_meani ds Q σ) : mwps (Tk 25) b_mean_items (fun fl _ σ' => Fin σ Q fl σ') (bindR p_mean_items ds rho0) σ := by
  obtain ⟨l, rfl, hs, hl, q⟩ := h
  unfold meanX at q
  simp only [b_mean_items, m_ret, m_ite, mwps, v_name, v_glob, v_fnv, v_cint, v_cstr, v_cbool, v_cnone, v_tup, v_lst, v_lstM, v_bin, v_neg, v_cmp, v_not, v_and, v_or, v_ife, v_idx, v_upto, v_uptoM, v_from, v_rev, v_kind, v_items, v_call, v_callV, v_vector, v_len, v_abs, v_listOf, v_pop, v_comp, v_compIf, v_compR, v_freeze, mevs, p_mean_items, bindR, upd, Nat.reduceEqDiff, if_false, if_true, gav, t_list (l := l.map enX) (by rw [List.length_map]; unfold lenB; omega), onB_some, t_bool]
  cases l with
  | nil => exact fin0 rfl q
  | cons x l =>
    rw [if_neg (by simp)] at q
    rw [if_neg (show ¬ (!!(List.map enX (x :: l)).isEmpty) = true by simp)]
    have e : (x :: l).length = l.length + 1 := rfl
    have hB : (6 + 1) * (x :: l).length ≤ 28 := by omega
    refine t_dsum ⟨x :: l, 6, rfl, hs, by omega, ?_⟩
    have hi : itemsOf σ (.list ((x :: l).map enX)) = some ((x :: l).map enX) := rfl
    simp only [hi]
    refine ⟨by rw [List.length_map]; unfold lenB; omega, t_from (.inr ⟨_, rfl, ?_⟩)⟩
    rw [List.length_map]
    exact t_div ⟨_, _, rfl, by omega, by omega, szx_mono (by omega) (sz_fold (x :: l) 1 _ hs sz0), fin0 (refs_enX _) q⟩
theorem xs6 {v : Vc} (h : NumV 6 v) : ∀ x ∈ v.2.map toX, SzX 6 x := fun x hx => by
  obtain ⟨it, hit, rfl⟩ := List.mem_map.mp hx
  exact (h.2 it hit).2.1
theorem w_mean (h : S_mean ds Q σ) : mwps (Tk 26) b_mean_of (fun fl _ σ' => Fin σ Q fl σ') (bindR p_mean_of ds rho0) σ := by
  obtain ⟨v, rfl, hv, hl, q⟩ := h
  simp only [b_mean_of, m_ret, mwps, v_name, v_glob, v_fnv, v_cint, v_cstr, v_cbool, v_cnone, v_tup, v_lst, v_lstM, v_bin, v_neg, v_cmp, v_not, v_and, v_or, v_ife, v_idx, v_upto, v_uptoM, v_from, v_rev, v_kind, v_items, v_call, v_callV, v_vector, v_len, v_abs, v_listOf, v_pop, v_comp, v_compIf, v_compR, v_freeze, mevs, p_mean_of, bindR, upd, Nat.reduceEqDiff, if_false, if_true]
  exact t_nums ⟨v, rfl, hv.1, fun it m => (hv.2 it m).1, by omega, t_meani ⟨_, rfl, xs6 hv, by rw [List.length_map]; exact hl, fin0 (refs_enX _) q⟩⟩
noncomputable def m_var : MSs := .cons (.assign 24 (.call 7 (.cons (.name 10) (.cons (.name 23) .nil)))) (.cons (.assign 17 (.call 6 (.cons (.name 17) (.cons (.call 8 (.cons (.name 24) (.cons (.name 24) .nil))) .nil)))) .nil)
theorem var_loop {K : Fl → Rho → Sto → Prop} {m : X} (hm : SzX 32 m) {it : AV} : ∀ (l : List X) (c : Nat) (t : X) (ρ : Rho), (∀ x ∈ l, SzX 6 x) → SzX c t → c + 79 * l.length ≤ 1900 → ρ 17 = some (enX t) → ρ 23 = some (enX m) → ρ 16 = some it →
    (∀ ρ', ρ' 17 = some (enX (l.foldl (fun t x => addX t (mulX (gapX m x) (gapX m x))) t)) → SzX (c + 79 * l.length) (l.foldl (fun t x => addX t (mulX (gapX m x) (gapX m x))) t) → ρ' 16 = some it → K .next ρ' σ) → forL 10 (lp (Tk 27) m_var) (l.map enX) K ρ σ
  | [], c, t, ρ, _, hc, _, e, _, e16, q => q ρ e hc e16
  | x :: l, c, t, ρ, h, hc, hl, e, e23, e16, q => by
    rw [List.length_cons, Nat.mul_add, Nat.mul_one] at hl q
    have hx := h x (.head _)
    have hn : SzX 32 (negX m) := by
      cases m with
      | fin r => exact ⟨by rw [Rat.neg_num, Int.natAbs_neg]; exact hm.1, by rw [Rat.neg_den]; exact hm.2⟩
      | _ => exact trivial
    have hg : SzX 39 (gapX m x) := sz_add hx hn
    have go : ∀ ρ' : Rho, ρ' 17 = some (enX (addX t (mulX (gapX m x) (gapX m x)))) → ρ' 23 = some (enX m) → ρ' 16 = some it → fK 10 (lp (Tk 27) m_var) (l.map enX) K .next ρ' σ := fun ρ' e1 e2 e3 =>
      var_loop hm l (c + 78 + 1) _ ρ' (fun y hy => h y (.tail _ hy)) (sz_add hc (sz_mul hg hg)) (by omega) e1 e2 e3 fun ρ'' a b c' => q ρ'' a (szx_mono (by omega) b) c'
    refine for_cons ?_
    generalize fK 10 (lp (Tk 27) m_var) (l.map enX) K = C at go ⊢
    simp only [m_var, m_asg, mwps, v_name, v_glob, v_fnv, v_cint, v_cstr, v_cbool, v_cnone, v_tup, v_lst, v_lstM, v_bin, v_neg, v_cmp, v_not, v_and, v_or, v_ife, v_idx, v_upto, v_uptoM, v_from, v_rev, v_kind, v_items, v_call, v_callV, v_vector, v_len, v_abs, v_listOf, v_pop, v_comp, v_compIf, v_compR, v_freeze, mevs, upd, Nat.reduceEqDiff, if_false, if_true, e, e23]
    refine t_sub ⟨x, m, rfl, szx_mono (by decide) hx, szx_mono (by decide) hm, ?_⟩
    refine t_mul ⟨_, _, rfl, szx_mono (by decide) hg, szx_mono (by decide) hg, ?_⟩
    exact t_add ⟨_, _, rfl, szx_mono (by omega) hc, szx_mono (by decide) (sz_mul hg hg), go _ rfl e23 e16⟩
theorem w_var (h : S_var ds Q σ) : mwps (Tk 27) b_var_of (fun fl _ σ' => Fin σ Q fl σ') (bindR p_var_of ds rho0) σ := by
  obtain ⟨v, rfl, hv, hl, q⟩ := h
  have hx := xs6 hv
  simp only [b_var_of, m_asg, m_ret, m_ite, m_for, mwps, v_name, v_glob, v_fnv, v_cint, v_cstr, v_cbool, v_cnone, v_tup, v_lst, v_lstM, v_bin, v_neg, v_cmp, v_not, v_and, v_or, v_ife, v_idx, v_upto, v_uptoM, v_from, v_rev, v_kind, v_items, v_call, v_callV, v_vector, v_len, v_abs, v_listOf, v_pop, v_comp, v_compIf, v_compR, v_freeze, mevs, p_var_of, bindR, upd, Nat.reduceEqDiff, if_false, if_true, gav]
  refine t_nums ⟨v, rfl, hv.1, fun it m => (hv.2 it m).1, by omega, ?_⟩
  have hl' : (v.2.map toX).length ≤ 4 := by rw [List.length_map]; exact hl
  generalize v.2.map toX = l at hx hl' q ⊢
  have hi : itemsOf σ (.list (l.map enX)) = some (l.map enX) := rfl
  have hL : (l.map enX).length < lenB := by rw [List.length_map]; unfold lenB; omega
  unfold varX at q
  simp only [hi, c_lti, t_bool, onB_some, decide_eq_true_eq]
  refine ⟨hL, ?_⟩
  rw [List.length_map]
  by_cases h2 : l.length < 2
  · rw [if_pos h2] at q
    rw [if_pos (by omega)]
    exact fin0 rfl q
  · rw [if_neg h2] at q
    rw [if_neg (by omega)]
    refine t_meani ⟨l, rfl, hx, hl', ?_⟩
    have hm : SzX 32 (meanX l) := by
      unfold meanX
      split
      · exact trivial
      · exact szx_mono (by omega) (sz_div (sz_fold l 1 _ hx sz0) (by omega) (by omega))
    refine var_loop hm l 1 (.fin 0) _ hx sz0 (by omega) rfl rfl rfl fun ρ' e1 e2 e3 => ?_
    simp only [e1, e3, hi]
    refine ⟨hL, ?_⟩
    simp only [b_subi]
    refine t_from (.inr ⟨_, rfl, ?_⟩)
    rw [List.length_map]
    exact t_div ⟨_, _, rfl, by omega, by omega, szx_mono (by omega) e2, fin0 (refs_enX _) q⟩
end
end Mine
/-! Wk10 -/
namespace Mine
section
variable {k : Nat} {ds : List AV} {Q : AV → Sto → Prop} {σ : Sto}

theorem items_ref {n : Nat} {es : List AV} (e : σ[n]? = some (some es)) : itemsOf σ (.ref n) = some es := by
  show (match σ[n]? with | some (some ds) => some ds | _ => none) = _
  rw [e]
/-! the stock -/
noncomputable def m_st2 : MSs := .cons (.assign 28 (.bin .fdiv (.name 28) (.cint 512))) (.cons (.ite (.cmp .eq (.name 28) (.cint 0)) (.cons .brk .nil) .nil) (.cons (.append 26 (.bin .mod (.name 28) (.cint 512))) .nil))
noncomputable def m_st1 : MSs := .cons (.assign 28 (.ife (.cmp .lt (.name 27) (.cint 0)) (.bin .sub (.bin .mul (.neg (.cint 2)) (.name 27)) (.cint 1)) (.name 27))) (.cons (.append 26 (.bin .mod (.name 28) (.cint 512))) (.cons (.forR 29 (.cint 24) m_st2) .nil))
theorem st_in {Φ : Tab} {K : Fl → Rho → Sto → Prop} : ∀ (ls : List AV) (a : Int) (l : List Int) (ρ : Rho), l.length + ls.length ≤ 4000 → ρ 26 = some (.ref σ.length) → ρ 28 = some (.int a) → (∀ ρ' (l' : List Int), l'.length ≤ l.length + ls.length → ρ' 26 = some (.ref σ.length) → K .next ρ' (σ ++ [some (l'.map .int)])) →
    forL 29 (lp Φ m_st2) ls K ρ (σ ++ [some (l.map .int)])
  | [], a, l, ρ, _, e, _, q => q ρ l (by simp) e
  | d :: ls, a, l, ρ, hl, e, ea, q => by
    simp only [List.length_cons] at hl q
    have go : ∀ (ρ' : Rho) (b : Int), ρ' 26 = some (.ref σ.length) → ρ' 28 = some (.int b) → fK 29 (lp Φ m_st2) ls K .next ρ' (σ ++ [some ((l ++ [Int.fmod b 512]).map .int)]) := fun ρ' b e1 e2 =>
      st_in ls b (l ++ [Int.fmod b 512]) ρ' (by simp only [List.length_append, List.length_cons, List.length_nil]; omega) e1 e2 fun ρ'' l'' h1 h2 => q ρ'' l'' (by simp only [List.length_append, List.length_cons, List.length_nil] at h1; omega) h2
    have br : ∀ ρ' : Rho, ρ' 26 = some (.ref σ.length) → fK 29 (lp Φ m_st2) ls K .brk ρ' (σ ++ [some (l.map .int)]) := fun ρ' e1 => q ρ' l (by omega) e1
    refine for_cons ?_
    generalize fK 29 (lp Φ m_st2) ls K = C at go br ⊢
    simp only [m_st2, m_asg, m_ite, m_brk, m_app, mwps, v_name, v_glob, v_fnv, v_cint, v_cstr, v_cbool, v_cnone, v_tup, v_lst, v_lstM, v_bin, v_neg, v_cmp, v_not, v_and, v_or, v_ife, v_idx, v_upto, v_uptoM, v_from, v_rev, v_kind, v_items, v_call, v_callV, v_vector, v_len, v_abs, v_listOf, v_pop, v_comp, v_compIf, v_compR, v_freeze, upd, Nat.reduceEqDiff, if_false, if_true, e, ea, b_divi, b_modi, c_eqi, t_bool, onB_some, decide_eq_true_eq, last_get, last_set]
    refine ⟨by decide, lt_big (B := 10) (by decide) (by decide), ?_⟩
    split
    · exact br _ e
    · refine ⟨⟨_, rfl⟩, by decide, _, rfl, by rw [List.length_map]; unfold lenB; omega, ?_⟩
      have := go (fun y => if y = 28 then some (.int (Int.fdiv a 512)) else if y = 29 then some d else ρ y) _ e rfl
      rw [List.map_append] at this
      exact this
theorem range_len (n : Int) : (rangeL n).length = n.toNat := by unfold rangeL; rw [List.length_map, List.length_range]
theorem st_out {Φ : Tab} {K : Fl → Rho → Sto → Prop} : ∀ (cs : List Int) (l : List Int) (ρ : Rho), l.length + 25 * cs.length ≤ 3000 → ρ 26 = some (.ref σ.length) → (∀ ρ' (l' : List Int), l'.length ≤ l.length + 25 * cs.length → ρ' 26 = some (.ref σ.length) → K .next ρ' (σ ++ [some (l'.map .int)])) →
    forL 27 (lp Φ m_st1) (cs.map .int) K ρ (σ ++ [some (l.map .int)])
  | [], l, ρ, _, e, q => q ρ l (by simp) e
  | c :: cs, l, ρ, hl, e, q => by
    simp only [List.length_cons] at hl q
    have go : ∀ (ρ' : Rho) (l' : List Int), l'.length ≤ l.length + 25 → ρ' 26 = some (.ref σ.length) → fK 27 (lp Φ m_st1) (cs.map .int) K .next ρ' (σ ++ [some (l'.map .int)]) := fun ρ' l' h1 e1 => st_out cs l' ρ' (by omega) e1 fun ρ'' l'' h2 h3 => q ρ'' l'' (by omega) h3
    refine for_cons ?_
    generalize fK 27 (lp Φ m_st1) (cs.map .int) K = C at go ⊢
    have inn : ∀ (ρ' : Rho) (a : Int), ρ' 26 = some (.ref σ.length) → ρ' 28 = some (.int a) → mwps Φ (.cons (.append 26 (.bin .mod (.name 28) (.cint 512))) (.cons (.forR 29 (.cint 24) m_st2) .nil)) C ρ' (σ ++ [some (l.map .int)]) := fun ρ' a e1 e2 => by
      simp only [m_app, m_forR, mwps, v_name, v_glob, v_fnv, v_cint, v_cstr, v_cbool, v_cnone, v_tup, v_lst, v_lstM, v_bin, v_neg, v_cmp, v_not, v_and, v_or, v_ife, v_idx, v_upto, v_uptoM, v_from, v_rev, v_kind, v_items, v_call, v_callV, v_vector, v_len, v_abs, v_listOf, v_pop, v_comp, v_compIf, v_compR, v_freeze, e1, e2, b_modi, last_get, last_set]
      refine ⟨⟨_, rfl⟩, by decide, _, rfl, by rw [List.length_map]; unfold lenB; omega, by decide, by decide, ?_⟩
      have h24 : (rangeL 24).length = 24 := range_len 24
      have := st_in (Φ := Φ) (K := C) (σ := σ) (rangeL 24) a (l ++ [Int.fmod a 512]) ρ' (by simp only [List.length_append, List.length_cons, List.length_nil, h24]; omega) e1 e2 fun ρ'' l'' h1 h2 => go ρ'' l'' (by simp only [List.length_append, List.length_cons, List.length_nil, h24] at h1; omega) h2
      rw [List.map_append] at this
      exact this
    unfold m_st1
    rw [mwps]
    generalize MSs.cons (.append 26 (.bin .mod (.name 28) (.cint 512))) (.cons (.forR 29 (.cint 24) m_st2) .nil) = N at inn ⊢
    simp only [m_asg, v_name, v_glob, v_fnv, v_cint, v_cstr, v_cbool, v_cnone, v_tup, v_lst, v_lstM, v_bin, v_neg, v_cmp, v_not, v_and, v_or, v_ife, v_idx, v_upto, v_uptoM, v_from, v_rev, v_kind, v_items, v_call, v_callV, v_vector, v_len, v_abs, v_listOf, v_pop, v_comp, v_compIf, v_compR, v_freeze, upd_same, c_lti, t_bool, onB_some, decide_eq_true_eq, b_subi, b_muli]
    split
    · exact ⟨.inl (by decide), inn _ _ e rfl⟩
    · exact inn _ _ e rfl
theorem w_stock (h : S_stock ds Q σ) : mwps (Tk 28) b_law_stock (fun fl _ σ' => Fin σ Q fl σ') (bindR p_law_stock ds rho0) σ := by
  obtain ⟨is, rfl, hl, q⟩ := h
  simp only [b_law_stock, m_asg, m_ret, m_for, m_revs, mwps, v_name, v_glob, v_fnv, v_cint, v_cstr, v_cbool, v_cnone, v_tup, v_lst, v_lstM, v_bin, v_neg, v_cmp, v_not, v_and, v_or, v_ife, v_idx, v_upto, v_uptoM, v_from, v_rev, v_kind, v_items, v_call, v_callV, v_vector, v_len, v_abs, v_listOf, v_pop, v_comp, v_compIf, v_compR, v_freeze, p_law_stock, bindR, upd, Nat.reduceEqDiff, if_false, if_true]
  have hi : itemsOf (σ ++ [some []]) (.list (is.map .int)) = some (is.map .int) := rfl
  simp only [hi]
  refine ⟨by decide, by decide, by rw [List.length_map]; unfold lenB; omega, ?_⟩
  rw [← List.map_take]
  refine st_out (is.take (50 : Int).toNat) [] _ (by rw [List.length_take, List.length_nil]; have : (50 : Int).toNat = 50 := rfl; omega) rfl fun ρ' l' hl' e => ?_
  have h26 : l'.length ≤ 1250 := by
    rw [List.length_take, List.length_nil] at hl'
    have : (50 : Int).toNat = 50 := rfl
    omega
  have hi : itemsOf (σ ++ [some (l'.map .int)]) (.ref σ.length) = some (l'.map .int) := items_ref last_get
  simp only [e, hi]
  refine ⟨by decide, by decide, by rw [List.length_map]; unfold lenB; omega, ?_⟩
  have e2 : (σ ++ [some (l'.map AV.int)]).length = σ.length + 1 := by simp
  rw [last_get]
  refine ⟨_, rfl, ?_, ?_⟩
  · rw [List.length_take, List.length_map]; unfold lenB; have : (200 : Int).toNat = 200 := rfl; omega
  · rw [last_set, e2, List.append_assoc, ← List.map_take, ← List.map_reverse]
    have := q l' (l'.take (200 : Int).toNat).reverse (by rw [List.length_reverse, List.length_take]; have : (200 : Int).toNat = 200 := rfl; omega)
    refine ⟨_, σ.length + 2, rfl, decide_eq_true (by omega), by omega, by simp, fun i fs h e => ?_, ?_⟩
    · by_cases hi : i < σ.length
      · rw [List.getElem?_append_left hi] at e; exact .inl e
      · right
        rw [List.getElem?_append_right (by omega)] at e
        rcases (show i - σ.length = 0 ∨ i - σ.length = 1 by omega) with z | z
        · rw [z] at e; cases e; exact refs_ints _ _
        · rw [z] at e; cases e; exact refs_ints _ _
    · rw [List.take_of_length_le (by simp)]
      exact this

/-! drawing -/
theorem set_self {n : Nat} {x : Option (List AV)} (h : σ[n]? = some x) : σ.set n x = σ := by
  apply List.ext_getElem?
  intro i
  rw [List.getElem?_set]
  split
  · rename_i e
    subst e
    split
    · exact h.symm
    · rename_i z; exact absurd (List.getElem?_eq_some_iff.mp h).1 z
  · rfl
theorem w_take (h : S_take ds Q σ) : mwps (Tk 29) b_law_take (fun fl _ σ' => Fin σ Q fl σ') (bindR p_law_take ds rho0) σ := by
  obtain ⟨d, c, rfl, hc, n, l, rfl, e, hl, q⟩ := h
  have hi : itemsOf σ (.ref n) = some (l.map .int) := items_ref e
  have hL : (l.map AV.int).length < lenB := by rw [List.length_map]; unfold lenB; omega
  simp only [b_law_take, m_ret, m_ite, mwps, v_name, v_glob, v_fnv, v_cint, v_cstr, v_cbool, v_cnone, v_tup, v_lst, v_lstM, v_bin, v_neg, v_cmp, v_not, v_and, v_or, v_ife, v_idx, v_upto, v_uptoM, v_from, v_rev, v_kind, v_items, v_call, v_callV, v_vector, v_len, v_abs, v_listOf, v_pop, v_comp, v_compIf, v_compR, v_freeze, p_law_take, bindR, upd, Nat.reduceEqDiff, if_false, if_true, hi, c_eqi, t_bool, onB_some, decide_eq_true_eq, List.length_map]
  rw [List.length_map] at hL
  refine ⟨hL, ?_⟩
  rcases List.eq_nil_or_concat l with rfl | ⟨l', x, rfl⟩
  · rw [if_pos (show ((([] : List Int).length : Nat) : Int) = 0 from rfl)]
    have := q [] (by simp) 0 (by omega) hc
    rw [set_self (by exact e)] at this
    exact fin0 rfl this
  · rw [List.concat_eq_append] at e hl hL ⊢
    rw [if_neg (by simp; omega)]
    rw [List.map_append] at e
    refine ⟨_, _, e, by rw [List.length_map]; simp only [List.length_append, List.length_cons, List.length_nil] at hL; omega, ?_⟩
    simp only [b_modi]
    refine ⟨by omega, ?_⟩
    have := q l' (by simp only [List.length_append, List.length_cons, List.length_nil] at hl; omega) (Int.fmod x c) (Int.fmod_nonneg_of_pos x hc) (Int.fmod_lt_of_pos x hc)
    exact fin2 (refs_ints _) (fun _ => rfl) this

theorem low_loop {Φ : Tab} {K : Fl → Rho → Sto → Prop} {t b : Int} : ∀ (n : Nat) (ρ : Rho) (x y : Int), 0 ≤ x → 0 ≤ y → y.toNat < n → ρ 33 = some (.int x) → ρ 34 = some (.int y) → ρ 31 = some (.int t) → ρ 32 = some (.int b) → (∀ ρ', ρ' 33 = some (.int (Int.gcd x y)) → ρ' 31 = some (.int t) → ρ' 32 = some (.int b) → K .next ρ' σ) →
    whlL (fun k => mtest Φ (.cmp .ne (.name 34) (.cint 0)) k) (fun Q' => mwps Φ (.cons (.swap2 33 34 (.name 34) (.bin .mod (.name 33) (.name 34))) .nil) Q') n K ρ σ
  | 0, _, _, _, _, _, h, _, _, _, _, _ => absurd h (Nat.not_lt_zero _)
  | n + 1, ρ, x, y, hx, hy, hn, e1, e2, e3, e4, k => by
    simp only [whlL, mtest, v_name, v_glob, v_fnv, v_cint, v_cstr, v_cbool, v_cnone, v_tup, v_lst, v_lstM, v_bin, v_neg, v_cmp, v_not, v_and, v_or, v_ife, v_idx, v_upto, v_uptoM, v_from, v_rev, v_kind, v_items, v_call, v_callV, v_vector, v_len, v_abs, v_listOf, v_pop, v_comp, v_compIf, v_compR, v_freeze, mwps, m_swap, e1, e2, c_nei, t_bool, onB_some, b_modi]
    by_cases hp : y = 0
    · subst hp
      rw [if_neg (by decide)]
      refine k ρ ?_ e3 e4
      rw [e1, Int.gcd_zero]
      congr 2; omega
    · rw [if_pos (by rw [decide_eq_false hp]; rfl)]
      have hp' : 0 < y := by omega
      refine ⟨hp, low_loop n _ y _ hy (Int.fmod_nonneg_of_pos x hp') ?_ rfl rfl e3 e4 fun ρ' e a c => k ρ' ?_ a c⟩
      · have := Int.fmod_lt_of_pos x hp'
        omega
      · rw [e, int_gcd_mod x y hp']
theorem w_low (h : S_low ds Q σ) : mwps (Tk 30) b_law_lowest_terms (fun fl _ σ' => Fin σ Q fl σ') (bindR p_law_lowest_terms ds rho0) σ := by
  obtain ⟨t, b, rfl, hb, hB, q⟩ := h
  rw [make_eq hb] at q
  simp only [b_law_lowest_terms, m_asg, m_ret, mwps, m_asg, m_ret, x_while, v_name, v_glob, v_fnv, v_cint, v_cstr, v_cbool, v_cnone, v_tup, v_lst, v_lstM, v_bin, v_neg, v_cmp, v_not, v_and, v_or, v_ife, v_idx, v_upto, v_uptoM, v_from, v_rev, v_kind, v_items, v_call, v_callV, v_vector, v_len, v_abs, v_listOf, v_pop, v_comp, v_compIf, v_compR, v_freeze, mevs, p_law_lowest_terms, bindR, upd, Nat.reduceEqDiff, if_false, if_true]
  refine ⟨b.toNat + 1, low_loop (t := t) (b := b) _ _ _ b (by split <;> omega) (by omega) (Nat.lt_succ_self _) rfl rfl rfl rfl fun ρ' e1 e2 e3 => ?_⟩
  have g0 : Int.gcd (if t < 0 then -t else t) b ≠ 0 := fun e => by have := (Int.gcd_eq_zero_iff.mp e).2; omega
  have gl : Int.gcd (if t < 0 then -t else t) b ≤ b.natAbs := Int.gcd_le_natAbs_right _ (by omega)
  have g1 : ((Int.gcd (if t < 0 then -t else t) b : Nat) : Int).natAbs < bigB := by
    show Int.gcd _ _ < _
    omega
  simp only [e1, e2, e3, b_divi]
  exact ⟨by omega, g1, by omega, g1, fin0 rfl q⟩
end
end Mine
/-! Wk11 -/
namespace Mine
section
variable {k : Nat} {ds : List AV} {Q : AV → Sto → Prop} {σ : Sto}

theorem get_set {n : Nat} {x y : Option (List AV)} (h : σ[n]? = some x) : (σ.set n y)[n]? = some y := by
  have := (List.getElem?_eq_some_iff.mp h).1
  rw [List.getElem?_set, if_pos rfl, if_pos this]
theorem sz_low {t b : Int} (h0 : t.natAbs < 64) (hb : 0 < b) (hb' : b < 64) : SzX 6 (.fin (Rat.divInt t b)) := by
  obtain ⟨m, rfl⟩ := Int.eq_ofNat_of_zero_le (Int.le_of_lt hb)
  rw [Rat.divInt_ofNat]
  have := mk_le t (d := m) (by omega)
  exact ⟨by show _ < 64; omega, by show _ < 64; omega⟩
theorem sz_int {n : Int} (h : n.natAbs < 64) : SzX 6 (toX (.i n)) := by
  show (n : Rat).num.natAbs < 64 ∧ (n : Rat).den < 64
  rw [Rat.num_intCast, Rat.den_intCast]
  exact ⟨h, by decide⟩
theorem w_entry (h : S_entry ds Q σ) : mwps (Tk 31) b_law_entry (fun fl _ σ' => Fin σ Q fl σ') (bindR p_law_entry ds rho0) σ := by
  obtain ⟨d, k, rfl, hk, n, l, rfl, e, hl, q⟩ := h
  have k13 : decide (k < 13) = true := kind_ok (.inl hk)
  simp only [b_law_entry, m_asg, m_ret, m_ite, mwps, v_name, v_glob, v_fnv, v_cint, v_cstr, v_cbool, v_cnone, v_tup, v_lst, v_lstM, v_bin, v_neg, v_cmp, v_not, v_and, v_or, v_ife, v_idx, v_upto, v_uptoM, v_from, v_rev, v_kind, v_items, v_call, v_callV, v_vector, v_len, v_abs, v_listOf, v_pop, v_comp, v_compIf, v_compR, v_freeze, mevs, p_law_entry, bindR, upd, Nat.reduceEqDiff, if_false, if_true]
  refine t_take ⟨_, 10, rfl, by decide, n, l, rfl, e, hl, fun l' hl' r h0 h1 => ?_⟩
  have fin : ∀ it, Wt k it → SzX 6 (toX it) → SzI it → Fin σ Q (.ret (en it)) (σ.set n (some (l'.map .int))) := fun it a b c => fin2 (refs_ints _) (fun _ => refs_en _) (q l' hl' it a b c)
  simp only [c_eqi, c_eqs (x := k) (y := 10) k13 rfl, c_eqs (x := k) (y := 8) k13 rfl, t_bool, onB_some, decide_eq_true_eq, b_modi, b_muli, b_subi, b_addi]
  by_cases r9 : r = 9
  · rw [if_pos r9]
    exact fin (.q .na) (by unfold numK at hk; unfold Wt; omega) trivial trivial
  · rw [if_neg r9]
    by_cases k10 : k = 10
    · rw [if_pos k10]
      have a := Int.fmod_nonneg_of_pos r (b := 2) (by decide)
      have b := Int.fmod_lt_of_pos r (b := 2) (by decide)
      exact ⟨by decide, fin (.i _) (.inr k10) (sz_int (by omega)) (by show _ ≤ _; omega)⟩
    · rw [if_neg k10]
      by_cases k8 : k = 8
      · rw [if_pos k8]
        exact ⟨.inl (by omega), fin (.i _) (.inl k8) (sz_int (by omega)) (by show _ ≤ _; omega)⟩
      · rw [if_neg k8]
        have k7 : k = 7 := by unfold numK at hk; omega
        have e' : (σ.set n (some (l'.map .int)))[n]? = some (some (l'.map .int)) := get_set e
        have fin' : ∀ (x : X) (m : List Int), m.length ≤ 200 → SzX 6 x → Fin σ Q (.ret (enX x)) (σ.set n (some (m.map .int))) := fun x m hm sx =>
          fin2 (refs_ints _) (fun _ => refs_enX _) (q m hm (.q x) (by subst k7; cases x <;> first | rfl | exact .inr (.inl rfl)) sx trivial)
        by_cases r8 : r = 8
        · rw [if_pos r8]
          exact fin' .nan l' hl' trivial
        · rw [if_neg r8]
          by_cases r7 : r = 7
          · rw [if_pos r7]
            refine t_take ⟨_, 2, rfl, by decide, n, l', rfl, e', hl', fun m hm s s0 s1 => ?_⟩
            rw [List.set_set]
            rcases (show s = 0 ∨ s = 1 by omega) with rfl | rfl
            · exact ⟨by decide, by decide, _, rfl, fin' (.inf false) m hm trivial⟩
            · exact ⟨by decide, by decide, _, rfl, fin' (.inf true) m hm trivial⟩
          · rw [if_neg r7]
            refine t_take ⟨_, 40, rfl, by decide, n, l', rfl, e', hl', fun m hm s s0 s1 => ?_⟩
            rw [List.set_set]
            refine t_low ⟨_, _, rfl, by omega, lt_big (B := 6) (by show _ < 64; omega) (by decide), ?_⟩
            exact fin' _ m hm (sz_low (by omega) (by omega) (by omega))

/-! pairs -/
noncomputable def m_pairs : MSs := .cons (.ite (.or (.cons (.cmp .isNone (.name 37) .cnone) (.cons (.cmp .eq (.kind (.name 14)) (.cstr 7)) .nil))) (.cons (.append 13 (.name 37)) .nil) (.cons (.append 13 (.tup (.cons (.name 37) (.cons (.cint 1) .nil)))) .nil)) .nil
theorem pairs_loop {Φ : Tab} {K : Fl → Rho → Sto → Prop} {v : Vc} (hk : numK v.1) : ∀ (l : List It) (acc : List X) (ρ : Rho), (∀ it ∈ l, Wt v.1 it) → acc.length + l.length ≤ 64 → ρ 13 = some (.ref σ.length) → ρ 14 = some (enV v) → (∀ ρ', ρ' 13 = some (.ref σ.length) → K .next ρ' (σ ++ [some ((acc ++ l.map toX).map enX)])) →
    forL 37 (lp Φ m_pairs) (l.map en) K ρ (σ ++ [some (acc.map enX)])
  | [], acc, ρ, _, _, e, _, q => by rw [List.map_nil, List.append_nil] at q; exact q ρ e
  | it :: l, acc, ρ, hw, hl, e, ev, q => by
    simp only [List.length_cons] at hl
    have w := hw it (.head _)
    have go : ∀ (ρ' : Rho), ρ' 13 = some (.ref σ.length) → ρ' 14 = some (enV v) → fK 37 (lp Φ m_pairs) (l.map en) K .next ρ' (σ ++ [some (acc.map enX ++ [enX (toX it)])]) := fun ρ' e1 e2 => by
      have := pairs_loop (Φ := Φ) (K := K) hk l (acc ++ [toX it]) ρ' (fun u hu => hw u (.tail _ hu)) (by simp only [List.length_append, List.length_cons, List.length_nil]; omega) e1 e2 (by simpa using q)
      rw [List.map_append] at this
      exact this
    refine for_cons ?_
    generalize fK 37 (lp Φ m_pairs) (l.map en) K = C at go ⊢
    have hL : (acc.map enX).length < lenB := by rw [List.length_map]; unfold lenB; omega
    simp only [m_pairs, m_ite, m_app, mwps, v_name, v_glob, v_fnv, v_cint, v_cstr, v_cbool, v_cnone, v_tup, v_lst, v_lstM, v_bin, v_neg, v_cmp, v_not, v_and, v_or, v_ife, v_idx, v_upto, v_uptoM, v_from, v_rev, v_kind, v_items, v_call, v_callV, v_vector, v_len, v_abs, v_listOf, v_pop, v_comp, v_compIf, v_compR, v_freeze, mevs, mor, upd, Nat.reduceEqDiff, if_false, if_true, e, ev, enV, c_isN, c_eqs (x := v.1) (y := 7) (kind_ok (.inl hk)) rfl, t_bool, onB_some, decide_eq_true_eq, last_get, last_set]
    have fin1' : enX (toX it) = en it → (∃ ds, some (some (acc.map enX)) = some (some ds)) ∧ ∃ ds, some (some (acc.map enX)) = some (some ds) ∧ ds.length < lenB ∧ C .next (fun y => if y = 37 then some (en it) else ρ y) (σ ++ [some (ds ++ [en it])]) := fun z => ⟨⟨_, rfl⟩, _, rfl, hL, by rw [← z]; exact go _ e ev⟩
    by_cases h7 : v.1 = 7
    · have z : enX (toX it) = en it := by
        rw [h7] at w
        rcases wt_cases w with ⟨_, x, rfl⟩ | ⟨z, _⟩
        · rfl
        · omega
      simp only [if_pos h7]
      split <;> exact fin1' z
    · rcases conv_num w (by unfold numK at hk; omega) with ⟨rfl, z⟩ | ⟨n, rfl, z⟩
      · rw [if_pos (show isN (en (.q .na)) = true from rfl)]
        exact fin1' z
      · rw [if_neg (show ¬ isN (en (.i n)) = true from fun z => by cases z), if_neg h7]
        exact ⟨⟨_, rfl⟩, _, rfl, hL, by have := go (fun y => if y = 37 then some (en (.i n)) else ρ y) e ev; rw [z] at this; exact this⟩
theorem w_pairs (h : S_pairs ds Q σ) : mwps (Tk 32) b_law_as_pairs (fun fl _ σ' => Fin σ Q fl σ') (bindR p_law_as_pairs ds rho0) σ := by
  obtain ⟨v, rfl, hk, hw, hl, q⟩ := h
  simp only [b_law_as_pairs, m_asg, m_ret, m_for, mwps, v_name, v_glob, v_fnv, v_cint, v_cstr, v_cbool, v_cnone, v_tup, v_lst, v_lstM, v_bin, v_neg, v_cmp, v_not, v_and, v_or, v_ife, v_idx, v_upto, v_uptoM, v_from, v_rev, v_kind, v_items, v_call, v_callV, v_vector, v_len, v_abs, v_listOf, v_pop, v_comp, v_compIf, v_compR, v_freeze, p_law_as_pairs, bindR, upd, Nat.reduceEqDiff, if_false, if_true]
  have ei : enV v = .vec (.str v.1) (.list (v.2.map en)) := rfl
  rw [ei]
  dsimp only
  rw [← ei]
  refine pairs_loop hk v.2 [] _ hw (by simp only [List.length_nil]; omega) rfl rfl fun ρ' e => ?_
  simp only [e, last_get, last_set, List.nil_append]
  exact fin1 (refs_xs _) q

/-! what remains -/
noncomputable def nanB : It → Bool
  | .q .nan => true
  | _ => false
theorem lack_nan (it : It) : lack it = (isN (en it) || nanB it) := by
  cases it with
  | q x => cases x <;> rfl
  | i n => rfl
  | s j => rfl
theorem c_ne00 {K : Bool → Prop} {v : Nat} {it : It} (w : Wt v it) (q : K (!nanB it)) : cmpA σ .ne (en it) (.tup [.int 0, .int 0]) K := by
  have t : okD 6 (.tup [.int 0, .int 0]) = true := rfl
  cases it with
  | q x =>
    cases x with
    | na => exact ⟨rfl, t, q⟩
    | nan => exact ⟨rfl, t, q⟩
    | inf b => cases b <;> exact ⟨rfl, t, q⟩
    | fin r =>
      refine ⟨rfl, t, ?_⟩
      have : eqb (.tup [.int r.num, .int r.den]) (.tup [.int 0, .int 0]) = false := by
        show (decide (r.num = 0) && (decide ((r.den : Int) = 0) && true)) = false
        rw [decide_eq_false (den_ne r)]; simp
      show K (!eqb (.tup [.int r.num, .int r.den]) (.tup [.int 0, .int 0]))
      rw [this]; exact q
  | i n => exact ⟨rfl, t, q⟩
  | s j => exact ⟨decide_eq_true (by have := w.2; omega), t, q⟩
noncomputable def m_rem2 : MSs := .cons (.ite (.or (.cons (.not (.name 15)) (.cons (.and (.cons (.cmp .isNotNone (.name 37) .cnone) (.cons (.cmp .ne (.name 37) (.tup (.cons (.cint 0) (.cons (.cint 0) .nil)))) .nil))) .nil))) (.cons (.aug 38 (.cint 1)) .nil) .nil) .nil
noncomputable def m_rem1 : MSs := .cons (.for 37 (.items (.name 14)) m_rem2) .nil
theorem rem_in {Φ : Tab} {K : Fl → Rho → Sto → Prop} {v : Nat} {skip : Bool} : ∀ (l : List It) (c : Int) (ρ : Rho), (∀ it ∈ l, Wt v it) → ρ 38 = some (.int c) → ρ 15 = some (.bool skip) → (∀ ρ', ρ' 38 = some (.int (c + ((l.filter (keep skip)).length : Int))) → ρ' 15 = some (.bool skip) → K .next ρ' σ) →
    forL 37 (lp Φ m_rem2) (l.map en) K ρ σ
  | [], c, ρ, _, e, e15, q => q ρ (by rw [e]; simp) e15
  | it :: l, c, ρ, hw, e, e15, q => by
    have w := hw it (.head _)
    have go : ∀ (ρ' : Rho), ρ' 38 = some (.int (if keep skip it then c + 1 else c)) → ρ' 15 = some (.bool skip) → fK 37 (lp Φ m_rem2) (l.map en) K .next ρ' σ := fun ρ' e1 e2 => rem_in l _ ρ' (fun u hu => hw u (.tail _ hu)) e1 e2 fun ρ'' a b => q ρ'' (by
      rw [a]
      cases hkp : keep skip it with
      | true => rw [List.filter_cons_of_pos hkp, List.length_cons, if_pos rfl]; congr 2; omega
      | false => rw [List.filter_cons_of_neg (by rw [hkp]; decide), if_neg (by decide)]) b
    refine for_cons ?_
    generalize fK 37 (lp Φ m_rem2) (l.map en) K = C at go ⊢
    simp only [m_rem2, m_ite, m_aug, mwps, v_name, v_glob, v_fnv, v_cint, v_cstr, v_cbool, v_cnone, v_tup, v_lst, v_lstM, v_bin, v_neg, v_cmp, v_not, v_and, v_or, v_ife, v_idx, v_upto, v_uptoM, v_from, v_rev, v_kind, v_items, v_call, v_callV, v_vector, v_len, v_abs, v_listOf, v_pop, v_comp, v_compIf, v_compR, v_freeze, mevs, mor, mand, upd, Nat.reduceEqDiff, if_false, if_true, e, e15, c_isNN, t_bool, onB_some]
    have yes : keep skip it = true → C .next (fun y => if y = 38 then some (.int (c + 1)) else if y = 37 then some (en it) else ρ y) σ := fun z => go _ (by rw [z]; rfl) e15
    have no : keep skip it = false → C .next (fun y => if y = 37 then some (en it) else ρ y) σ := fun z => go _ (by rw [z]; exact e) e15
    cases skip with
    | false => exact yes rfl
    | true =>
      rw [if_neg (by decide)]
      have kp : keep true it = !(isN (en it) || nanB it) := by rw [← lack_nan]; rfl
      cases hn : isN (en it) with
      | true =>
        rw [hn] at kp
        exact no kp
      | false =>
        rw [hn] at kp
        rw [if_pos (by decide)]
        refine c_ne00 w ?_
        cases hz : nanB it with
        | true => rw [hz] at kp; exact no kp
        | false => rw [hz] at kp; exact yes kp
theorem rem_out {Φ : Tab} {K : Fl → Rho → Sto → Prop} {skip : Bool} : ∀ (vs : List Vc) (c : Int) (ρ : Rho), (∀ v ∈ vs, ∀ it ∈ v.2, Wt v.1 it) → ρ 38 = some (.int c) → ρ 15 = some (.bool skip) → (∀ ρ', ρ' 38 = some (.int (c + remn skip vs)) → K .next ρ' σ) →
    forL 14 (lp Φ m_rem1) (vs.map enV) K ρ σ
  | [], c, ρ, _, e, e15, q => q ρ (by rw [e]; show some (AV.int c) = some (.int (c + 0)); rw [Int.add_zero])
  | v :: vs, c, ρ, hw, e, e15, q => by
    have go : ∀ (ρ' : Rho), ρ' 38 = some (.int (c + ((v.2.filter (keep skip)).length : Int))) → ρ' 15 = some (.bool skip) → fK 14 (lp Φ m_rem1) (vs.map enV) K .next ρ' σ := fun ρ' e1 e2 => rem_out vs _ ρ' (fun u hu => hw u (.tail _ hu)) e1 e2 fun ρ'' a => q ρ'' (by rw [a]; show _ = some (AV.int (c + (((v.2.filter (keep skip)).length : Int) + remn skip vs))); rw [Int.add_assoc])
    refine for_cons ?_
    generalize fK 14 (lp Φ m_rem1) (vs.map enV) K = C at go ⊢
    simp only [m_rem1, m_for, mwps, v_name, v_glob, v_fnv, v_cint, v_cstr, v_cbool, v_cnone, v_tup, v_lst, v_lstM, v_bin, v_neg, v_cmp, v_not, v_and, v_or, v_ife, v_idx, v_upto, v_uptoM, v_from, v_rev, v_kind, v_items, v_call, v_callV, v_vector, v_len, v_abs, v_listOf, v_pop, v_comp, v_compIf, v_compR, v_freeze, upd_same, enV]
    exact rem_in v.2 c _ (hw v (.head _)) e e15 fun ρ' a b => go ρ' a b
theorem w_rem (h : S_rem ds Q σ) : mwps (Tk 33) b_law_remaining (fun fl _ σ' => Fin σ Q fl σ') (bindR p_law_remaining ds rho0) σ := by
  obtain ⟨vs, skip, rfl, hw, q⟩ := h
  simp only [b_law_remaining, m_asg, m_ret, m_for, mwps, v_name, v_glob, v_fnv, v_cint, v_cstr, v_cbool, v_cnone, v_tup, v_lst, v_lstM, v_bin, v_neg, v_cmp, v_not, v_and, v_or, v_ife, v_idx, v_upto, v_uptoM, v_from, v_rev, v_kind, v_items, v_call, v_callV, v_vector, v_len, v_abs, v_listOf, v_pop, v_comp, v_compIf, v_compR, v_freeze, p_law_remaining, bindR, upd, Nat.reduceEqDiff, if_false, if_true, enVs]
  refine rem_out vs 0 _ hw rfl rfl fun ρ' e => ?_
  rw [Int.zero_add] at e
  simp only [e]
  exact fin0 rfl q
end
end Mine
/-! Pl1 -/
namespace Mine

/-! sums and products: order and cuts -/
theorem add_comm' (x y : X) : addX x y = addX y x := by
  cases x <;> cases y <;> first | rfl | skip
  · rename_i a b; cases a <;> cases b <;> rfl
  · rename_i r s; show X.fin _ = .fin _; rw [Rat.add_comm]
theorem add_assoc' (x y z : X) : addX (addX x y) z = addX x (addX y z) := by
  cases x <;> cases y <;> cases z <;> first | rfl | skip
  all_goals first
    | (rename_i a b c; cases a <;> cases b <;> cases c <;> rfl)
    | (rename_i a b; cases a <;> cases b <;> rfl)
    | (rename_i a b c; cases a <;> cases b <;> rfl)
    | (rename_i a b c; cases b <;> cases c <;> rfl)
    | (rename_i a b c; cases a <;> cases c <;> rfl)
    | (show X.fin _ = .fin _; rw [Rat.add_assoc])
theorem add_zero' (x : X) : addX x (.fin 0) = x := by
  cases x with
  | fin r => show X.fin _ = _; rw [Rat.add_zero]
  | _ => rfl
theorem sg_lt (r : Rat) : (decide (r < 0)) = decide (r.num < 0) := by
  have : r.num < 0 ↔ r < 0 := by
    have := Rat.lt_iff r 0
    simpa using this.symm
  exact decide_eq_decide.mpr this.symm
theorem mul_comm' (x y : X) : mulX x y = mulX y x := by
  cases x <;> cases y <;> first | rfl | skip
  · rename_i a b; cases a <;> cases b <;> rfl
  · rename_i r s; show X.fin _ = .fin _; rw [Rat.mul_comm]
theorem sg_mul {r s : Rat} (hr : r ≠ 0) (hs : s ≠ 0) : decide (r * s < 0) = (decide (r < 0) != decide (s < 0)) := by
  have h1 : r < 0 ∨ 0 < r := by grind
  have h2 : s < 0 ∨ 0 < s := by grind
  rcases h1 with h1 | h1 <;> rcases h2 with h2 | h2
  · have : 0 < (-r) * (-s) := Rat.mul_pos (by grind) (by grind)
    rw [decide_eq_true h1, decide_eq_true h2, decide_eq_false (by grind)]; rfl
  · have : 0 < (-r) * s := Rat.mul_pos (by grind) h2
    rw [decide_eq_true h1, decide_eq_false (show ¬ s < 0 by grind), decide_eq_true (by grind)]; rfl
  · have : 0 < r * (-s) := Rat.mul_pos h1 (by grind)
    rw [decide_eq_false (show ¬ r < 0 by grind), decide_eq_true h2, decide_eq_true (by grind)]; rfl
  · have : 0 < r * s := Rat.mul_pos h1 h2
    rw [decide_eq_false (show ¬ r < 0 by grind), decide_eq_false (show ¬ s < 0 by grind), decide_eq_false (by grind)]; rfl
/-- signed infinities: mulX of an infinity and anything without marks -/
theorem mul_assoc' (x y z : X) : mulX (mulX x y) z = mulX x (mulX y z) := by
  have sn : ∀ (a : Bool) (r s : Rat), mulX (sgX a r) (.fin s) = sgX a (r * s) := fun a r s => by
    unfold sgX
    by_cases hr : r = 0
    · subst hr; rw [if_pos rfl, if_pos (Rat.zero_mul s)]; rfl
    · by_cases hs : s = 0
      · subst hs
        rw [if_neg hr, if_pos (Rat.mul_zero r)]
        show sgX _ 0 = _
        unfold sgX; rw [if_pos rfl]
      · have hrs : r * s ≠ 0 := by
          intro e
          rcases Rat.mul_eq_zero.mp e with z | z
          · exact hr z
          · exact hs z
        rw [if_neg hr, if_neg hrs]
        show sgX _ s = _
        unfold sgX
        rw [if_neg hs, sg_mul hr hs]
        cases a <;> cases decide (r < 0) <;> cases decide (s < 0) <;> rfl
  have si : ∀ (a b : Bool) (r : Rat), mulX (sgX a r) (.inf b) = sgX (a != b) r := fun a b r => by
    unfold sgX
    by_cases hr : r = 0
    · rw [if_pos hr, if_pos hr]; rfl
    · rw [if_neg hr, if_neg hr]
      show X.inf _ = _
      cases a <;> cases b <;> cases decide (r < 0) <;> rfl
  cases x with
  | na => rfl
  | nan => cases y <;> cases z <;> first | rfl | (rename_i a b; first | (show _ = mulX .nan (sgX _ _); unfold sgX; split <;> rfl) | rfl)
  | inf a =>
    cases y with
    | na => rfl
    | nan => cases z <;> rfl
    | inf b =>
      cases z with
      | na => rfl
      | nan => rfl
      | inf c => show X.inf _ = .inf _; cases a <;> cases b <;> cases c <;> rfl
      | fin t =>
        show sgX (a != b) t = mulX (.inf a) (sgX b t)
        rw [mul_comm', si]; cases a <;> cases b <;> rfl
    | fin s =>
      cases z with
      | na => show mulX (sgX a s) .na = _; unfold sgX; split <;> rfl
      | nan => show mulX (sgX a s) .nan = _; unfold sgX; split <;> rfl
      | inf c =>
        show mulX (sgX a s) (.inf c) = mulX (.inf a) (sgX c s)
        rw [si, mul_comm', si]; cases a <;> cases c <;> rfl
      | fin t => exact sn a s t
  | fin r =>
    cases y with
    | na => rfl
    | nan => cases z <;> rfl
    | inf b =>
      cases z with
      | na => show mulX (sgX b r) .na = _; unfold sgX; split <;> rfl
      | nan => show mulX (sgX b r) .nan = _; unfold sgX; split <;> rfl
      | inf c => exact si b c r
      | fin t =>
        show mulX (sgX b r) (.fin t) = mulX (.fin r) (sgX b t)
        rw [sn, mul_comm', sn, Rat.mul_comm]
    | fin s =>
      cases z with
      | na => rfl
      | nan => rfl
      | inf c =>
        show sgX c (r * s) = mulX (.fin r) (sgX c s)
        rw [mul_comm', sn, Rat.mul_comm]
      | fin t => show X.fin _ = .fin _; rw [Rat.mul_assoc]
theorem mul_one' (x : X) : mulX x (.fin 1) = x := by
  have h1 : ¬ (1 : Rat) = 0 := by decide
  have h2 : decide ((1 : Rat) < 0) = false := by decide
  cases x with
  | fin r => show X.fin _ = _; rw [Rat.mul_one]
  | inf a => show sgX a 1 = _; unfold sgX; rw [if_neg h1, h2]; cases a <;> rfl
  | _ => rfl

section
variable {f : X → X → X} {e : X} (hc : ∀ x y, f x y = f y x) (ha : ∀ x y z, f (f x y) z = f x (f y z)) (he : ∀ x, f x e = x)
include ha he
theorem fold_app (l l' : List X) : (l ++ l').foldl f e = f (l.foldl f e) (l'.foldl f e) := by
  rw [List.foldl_append]
  generalize l.foldl f e = a
  have : ∀ (l' : List X) (a b : X), l'.foldl f (f a b) = f a (l'.foldl f b) := fun l' => by
    induction l' with
    | nil => intro a b; rfl
    | cons x l' ih => intro a b; rw [List.foldl_cons, List.foldl_cons, ha, ih]
  rw [← this, he]
include hc
theorem fold_two (l l' : List X) : (l ++ l').foldl f e = [l.foldl f e, l'.foldl f e].foldl f e := by
  rw [fold_app ha he]
  show _ = f (f e _) _
  rw [hc e, he]
theorem fold_perm {l l' : List X} (p : l.Perm l') : l.foldl f e = l'.foldl f e :=
  p.foldl_eq' (fun x _ y _ z => by rw [ha, ha, hc x]) e
end

/-! what is summed -/
noncomputable def xs (skip : Bool) (vs : List Vc) : List X := vs.flatMap fun v => (v.2.filter (keep skip)).map toX
theorem gath_xs (k : Nat) (skip : Bool) (vs : List Vc) : (gath k skip vs).map toX = xs skip vs := by
  unfold gath xs
  rw [List.map_flatMap]
  congr 1
  funext v
  rw [List.map_map]
  exact List.map_congr_left fun it _ => toX_conv k it
theorem xs_app (skip : Bool) (a b : List Vc) : xs skip (a ++ b) = xs skip a ++ xs skip b := List.flatMap_append
theorem xs_cut (skip : Bool) (vs : List Vc) (n : Nat) : xs skip vs = xs skip (vs.take n) ++ xs skip (vs.drop n) := by rw [← xs_app, List.take_append_drop]
theorem filter_false (l : List It) : l.filter (keep false) = l := List.filter_eq_self.mpr fun _ _ => rfl
theorem xs_perm (skip : Bool) (vs : List Vc) : (xs skip vs.reverse).Perm (xs skip vs) := (List.reverse_perm vs).flatMap_right _
theorem isum_toX : ∀ (l : List It) (t : Int), (∀ it ∈ l, it = .q .na ∨ ∃ n, it = .i n) → toX (isumG l t) = (l.map toX).foldl addX (.fin t)
  | [], t, _ => rfl
  | it :: l, t, h => by
    rcases h it (.head _) with rfl | ⟨n, rfl⟩
    · have na : ∀ l : List X, l.foldl addX .na = .na := fun l => by
        induction l with
        | nil => rfl
        | cons x l ih => exact ih
      exact (na _).symm
    · show toX (isumG l (t + n)) = (l.map toX).foldl addX (.fin ((t : Rat) + (n : Rat)))
      rw [isum_toX l _ fun u hu => h u (.tail _ hu), Rat.intCast_add]
end Mine
/-! Wk12 -/
namespace Mine

noncomputable def tb (f : Nat) (skip : Bool) (vs : List Vc) : Vc := if f = 16 then sumOf skip vs else prodOf skip vs
noncomputable def tX (f : Nat) (l : List X) : X := if f = 16 then l.foldl addX (.fin 0) else l.foldl mulX (.fin 1)
theorem tX_cut (f : Nat) (a b : List X) : tX f (a ++ b) = tX f [tX f a, tX f b] := by
  unfold tX
  split
  · exact fold_two add_comm' add_assoc' add_zero' a b
  · exact fold_two mul_comm' mul_assoc' mul_one' a b
theorem tX_perm (f : Nat) {a b : List X} (p : a.Perm b) : tX f a = tX f b := by
  unfold tX
  split
  · exact fold_perm add_comm' add_assoc' add_zero' p
  · exact fold_perm mul_comm' mul_assoc' mul_one' p
theorem sz_foldm {B : Nat} : ∀ (l : List X) (c : Nat) (t : X), (∀ x ∈ l, SzX B x) → SzX c t → SzX (c + B * l.length) (l.foldl mulX t)
  | [], c, t, _, h => h
  | x :: l, c, t, h, hc => by
    have := sz_foldm l (c + B) _ (fun y hy => h y (.tail _ hy)) (sz_mul hc (h x (.head _)))
    rw [List.length_cons, Nat.mul_add, Nat.mul_one]
    rw [show c + (B * l.length + B) = c + B + B * l.length by omega]
    exact this
theorem wt_q7 (x : X) : Wt 7 (.q x) := by cases x <;> first | rfl | exact .inr (.inl rfl)
theorem isum_bound : ∀ (l : List It) (t : Int), (∀ it ∈ l, it = .q .na ∨ ∃ n, it = .i n ∧ n.natAbs < 64) → isumG l t = .q .na ∨ ∃ s, isumG l t = .i s ∧ s.natAbs ≤ t.natAbs + 64 * l.length
  | [], t, _ => .inr ⟨t, rfl, by simp⟩
  | it :: l, t, h => by
    rcases h it (.head _) with rfl | ⟨n, rfl, hn⟩
    · exact .inl rfl
    · rcases isum_bound l (t + n) fun u hu => h u (.tail _ hu) with e | ⟨s, e, hs⟩
      · exact .inl e
      · exact .inr ⟨s, e, by rw [List.length_cons]; omega⟩
theorem gath_small {vs : List Vc} {skip : Bool} (h : NumVs 6 vs) (e8 : ∀ v ∈ vs, v.1 = 8 ∨ v.1 = 10) (k : Nat) (hk : k ≠ 7) : ∀ it ∈ gath k skip vs, it = .q .na ∨ ∃ n, it = .i n ∧ n.natAbs < 64 := fun it hit => by
  obtain ⟨v, hv, u, hu, e⟩ := gath_mem hit
  obtain ⟨w, s, -⟩ := (h.1 v hv).2 u hu
  rw [e, conv_not hk]
  rcases conv_num w (e8 v hv) with ⟨z, -⟩ | ⟨n, z, -⟩
  · exact .inl z
  · refine .inr ⟨n, z, ?_⟩
    rw [z] at s
    have : (n : Rat).num.natAbs < 2 ^ 6 := s.1
    rw [Rat.num_intCast] at this
    exact this
theorem tb_val {f : Nat} {skip : Bool} {vs : List Vc} (B : Nat) (h : NumVs B vs) : ∃ it, (tb f skip vs).2 = [it] ∧ toX it = tX f (xs skip vs) := by
  have num : ∀ v ∈ vs, numK v.1 := fun v m => (h.1 v m).1
  unfold tb tX
  split
  · unfold sumOf
    split
    · exact ⟨_, rfl, by rw [gath_xs]; rfl⟩
    · rename_i n7
      refine ⟨_, rfl, ?_⟩
      rcases sk_eight vs num with ⟨e, -⟩ | ⟨e, n⟩
      · exact absurd e n7
      · rw [isum_toX, gath_xs]
        · rfl
        · intro it hit
          obtain ⟨v, hv, u, hu, e'⟩ := gath_mem hit
          rw [e', conv_not n7]
          have hn := n v hv
          have hk := num v hv
          rcases conv_num ((h.1 v hv).2 u hu).1 (by unfold numK at hk; omega) with ⟨z, -⟩ | ⟨m, z, -⟩
          · exact .inl z
          · exact .inr ⟨m, z⟩
  · exact ⟨_, rfl, by rw [gath_xs]; rfl⟩
theorem xs_len (skip : Bool) (vs : List Vc) : (xs skip vs).length ≤ tot vs := by
  have := gath_len 0 skip vs
  rw [← List.length_map (f := toX), gath_xs] at this
  exact this
theorem xs_sz {B : Nat} {skip : Bool} {vs : List Vc} (h : NumVs B vs) : ∀ x ∈ xs skip vs, SzX B x := by
  rw [← gath_xs 0]
  exact gath_sz fun v hv it hi => ((h.1 v hv).2 it hi).2.1
theorem tb_num {f : Nat} {skip : Bool} {vs : List Vc} (h : NumVs 6 vs) : NumV 200 (tb f skip vs) := by
  have num : ∀ v ∈ vs, numK v.1 := fun v m => (h.1 v m).1
  have hl := xs_len skip vs
  have ht := h.2.2
  have hs := xs_sz (skip := skip) h
  have one : ∀ x, SzX 200 x → NumV 200 (7, [.q x]) := fun x s => ⟨.inl rfl, fun it hit => by
    rcases List.mem_singleton.mp hit with rfl
    exact ⟨wt_q7 x, s, trivial⟩⟩
  unfold tb
  split
  · unfold sumOf
    split
    · refine one _ ?_
      rw [gath_xs]
      exact szx_mono (by omega) (sz_fold _ 1 _ hs sz0)
    · rename_i n7
      rcases sk_eight vs num with ⟨e, -⟩ | ⟨e, n⟩
      · exact absurd e n7
      · have e8 : ∀ v ∈ vs, v.1 = 8 ∨ v.1 = 10 := fun v hv => by
          have hn := n v hv
          have hk := num v hv
          unfold numK at hk; omega
        refine ⟨.inr (.inl rfl), fun it hit => ?_⟩
        rcases List.mem_singleton.mp hit with rfl
        have gl := gath_len (sk vs) skip vs
        rcases isum_bound _ 0 (gath_small (skip := skip) h e8 (sk vs) n7) with e' | ⟨s, e', hs'⟩
        · rw [e']; exact ⟨.inr (.inr (.inl rfl)), trivial, trivial⟩
        · rw [e']
          have h1024 : s.natAbs ≤ 1024 := by simp only [Int.natAbs_zero] at hs'; omega
          refine ⟨.inl rfl, ?_, by show _ ≤ _; omega⟩
          have e2 : SzX 11 (toX (.i s)) := by
            show (s : Rat).num.natAbs < 2 ^ 11 ∧ (s : Rat).den < 2 ^ 11
            rw [Rat.num_intCast, Rat.den_intCast]
            exact ⟨by show _ < 2048; omega, by decide⟩
          exact szx_mono (by decide) e2
  · refine one _ ?_
    rw [gath_xs]
    exact szx_mono (by omega) (sz_foldm _ 1 _ hs sz1)
theorem isum_wt : ∀ (l : List It) (t : Int), Wt 8 (isumG l t)
  | [], t => .inl rfl
  | .i n :: l, t => isum_wt l (t + n)
  | .q _ :: _, _ => .inr (.inr (.inl rfl))
  | .s _ :: _, _ => .inr (.inr (.inl rfl))
theorem tb_wt (f : Nat) (skip : Bool) (vs : List Vc) : numK (tb f skip vs).1 ∧ ∀ it ∈ (tb f skip vs).2, Wt (tb f skip vs).1 it := by
  have one : ∀ v : Vc, (∃ x, v = (7, [.q x])) ∨ (∃ l t, v = (8, [isumG l t])) → numK v.1 ∧ ∀ it ∈ v.2, Wt v.1 it := fun v h => by
    rcases h with ⟨x, rfl⟩ | ⟨l, t, rfl⟩
    · exact ⟨.inl rfl, fun it hit => by rcases List.mem_singleton.mp hit with rfl; exact wt_q7 _⟩
    · exact ⟨.inr (.inl rfl), fun it hit => by rcases List.mem_singleton.mp hit with rfl; exact isum_wt _ _⟩
  refine one _ ?_
  unfold tb
  split
  · unfold sumOf
    split
    · exact .inl ⟨_, rfl⟩
    · exact .inr ⟨_, _, rfl⟩
  · exact .inl ⟨_, rfl⟩
theorem tot_app : ∀ a b : List Vc, tot (a ++ b) = tot a + tot b
  | [], b => by show tot b = 0 + tot b; omega
  | v :: a, b => by show v.2.length + tot (a ++ b) = v.2.length + tot a + tot b; rw [tot_app a b]; omega
theorem tot_cut (vs : List Vc) (n : Nat) : tot (vs.take n) + tot (vs.drop n) = tot vs := by rw [← tot_app, List.take_append_drop]
theorem tot_rev : ∀ vs : List Vc, tot vs.reverse = tot vs
  | [] => rfl
  | v :: vs => by rw [List.reverse_cons, tot_app, tot_rev vs]; show _ + (v.2.length + 0) = v.2.length + tot vs; omega
theorem num_take {B : Nat} {vs : List Vc} (h : NumVs B vs) (n : Nat) : NumVs B (vs.take n) := by
  have := tot_cut vs n
  exact ⟨fun v hv => h.1 v (List.mem_of_mem_take hv), by rw [List.length_take]; have := h.2.1; omega, by have := h.2.2; omega⟩
theorem num_drop {B : Nat} {vs : List Vc} (h : NumVs B vs) (n : Nat) : NumVs B (vs.drop n) := by
  have := tot_cut vs n
  exact ⟨fun v hv => h.1 v (List.mem_of_mem_drop hv), by rw [List.length_drop]; have := h.2.1; omega, by have := h.2.2; omega⟩
theorem num_rev {B : Nat} {vs : List Vc} (h : NumVs B vs) : NumVs B vs.reverse :=
  ⟨fun v hv => h.1 v (List.mem_reverse.mp hv), by rw [List.length_reverse]; exact h.2.1, by rw [tot_rev]; exact h.2.2⟩

section
variable {k : Nat} {ds : List AV} {Q : AV → Sto → Prop} {σ : Sto}
theorem t_tb {f : Nat} (hf : f = 16 ∨ f = 17) {k : Nat} (hk : 17 < k) {vs : List Vc} {skip : Bool} {d : AV} {B : Nat} (h : NumVs B vs) (hB : 0 < B) (hb : (B + 1) * tot vs + 1 ≤ 1900) (q : Q (enV (tb f skip vs)) σ) : Tk k f [enVs vs, .bool skip, d] Q σ := by
  rcases hf with rfl | rfl
  · exact t_sum ⟨vs, skip, d, B, rfl, h, hB, hb, q⟩ (by omega)
  · exact t_prod ⟨vs, skip, d, B, rfl, h, hB, hb, q⟩ (by omega)
theorem okX (n : Nat) (x : X) : okD (n + 1) (enX x) = true := by
  cases x with
  | na => rfl
  | nan => cases n <;> rfl
  | inf b => cases n <;> rfl
  | fin r => cases n <;> rfl
theorem eqb_self (x : X) : eqb (enX x) (enX x) = true := by
  have p : ∀ a b : Int, eqb (pr a b) (pr a b) = true := fun a b => by
    show (decide (a = a) && (decide (b = b) && true)) = true
    simp
  cases x with
  | na => rfl
  | nan => exact p _ _
  | inf b => exact p _ _
  | fin r => exact p _ _
theorem okXs (n : Nat) (l : List X) : okD (n + 2) (.list (l.map enX)) = true := by
  show ((l.map enX).all (okD (n + 1))) = true
  rw [List.all_map, List.all_eq_true]
  exact fun x _ => okX n x
theorem eqbs_self : ∀ l : List X, eqbs (l.map enX) (l.map enX) = true
  | [] => rfl
  | x :: l => by show (eqb (enX x) (enX x) && eqbs (l.map enX) (l.map enX)) = true; rw [eqb_self, eqbs_self l]; rfl
theorem c_neXs {K : Bool → Prop} {l l' : List X} (e : l = l') (q : K false) : cmpA σ .ne (.list (l.map enX)) (.list (l'.map enX)) K := by
  subst e
  refine ⟨okXs 4 l, okXs 4 l, ?_⟩
  have : eqb (.list (l.map enX)) (.list (l.map enX)) = true := eqbs_self l
  rw [this]; exact q
theorem c_eqXs {K : Bool → Prop} {l l' : List X} (e : l = l') (q : K true) : cmpA σ .eq (.list (l.map enX)) (.list (l'.map enX)) K := by
  subst e
  refine ⟨okXs 4 l, okXs 4 l, ?_⟩
  have : eqb (.list (l.map enX)) (.list (l.map enX)) = true := eqbs_self l
  rw [this]; exact q
theorem c_ne0 {K : Bool → Prop} {n : Nat} (h : σ[n]? = some (some [])) (q : K false) : cmpA σ .ne (.ref n) (.list []) K := by
  have : deref σ (.ref n) = some (.list []) := by show (match σ[n]? with | some (some ds) => some (AV.list ds) | _ => none) = _; rw [h]
  unfold cmpA
  simp only [this]
  exact ⟨rfl, rfl, q⟩
theorem it_vs {vs : List Vc} : itemsOf σ (enVs vs) = some (vs.map enV) := rfl
noncomputable def m_tot : MSs := .cons (.assign 42 .lstM) (.cons (.assign 43 (.callV 41 (.cons (.name 11) (.cons (.name 15) (.cons (.name 42) .nil))))) (.cons (.assign 44 (.lst (.cons (.callV 41 (.cons (.upto (.name 11) (.name 39)) (.cons (.name 15) (.cons (.name 42) .nil)))) (.cons (.callV 41 (.cons (.from (.name 11) (.name 39)) (.cons (.name 15) (.cons (.name 42) .nil)))) .nil)))) (.cons (.assign 45 (.callV 41 (.cons (.name 44) (.cons (.cbool false) (.cons (.name 42) .nil))))) (.cons (.assign 46 (.callV 41 (.cons (.rev (.name 11)) (.cons (.name 15) (.cons (.name 42) .nil))))) (.cons (.ite (.or (.cons (.cmp .ne (.name 42) (.lst .nil)) (.cons (.cmp .ne (.len (.items (.name 43))) (.cint 1)) .nil))) (.cons (.ret (.cbool false)) .nil) .nil) (.cons (.ite (.or (.cons (.cmp .ne (.call 32 (.cons (.name 43) .nil)) (.call 32 (.cons (.name 45) .nil))) (.cons (.cmp .ne (.call 32 (.cons (.name 43) .nil)) (.call 32 (.cons (.name 46) .nil))) .nil))) (.cons (.ret (.cbool false)) .nil) .nil) .nil))))))
theorem one_item {v : Vc} {it : It} (e : v.2 = [it]) : v.2.length ≤ 16 := by rw [e]; exact Nat.le_of_ble_eq_true rfl
theorem tot_body {f : Nat} (hf : f = 16 ∨ f = 17) {C : Fl → Rho → Sto → Prop} {vs : List Vc} {cut : Int} {skip : Bool} (h : NumVs 6 vs) (h0 : 0 ≤ cut) (h1 : cut < 2 ^ 40) {ρ : Rho} (e41 : ρ 41 = some (.fn f)) (e11 : ρ 11 = some (enVs vs)) (e15 : ρ 15 = some (.bool skip)) (e39 : ρ 39 = some (.int cut))
    (q : ∀ ρ' : Rho, ρ' 11 = ρ 11 → ρ' 15 = ρ 15 → ρ' 39 = ρ 39 → ρ' 40 = ρ 40 → C .next ρ' (σ ++ [some []])) : mwps (Tk 34) m_tot C ρ σ := by
  have hf39 : f < 39 := by omega
  have bits : ∀ us : List Vc, tot us ≤ 16 → (6 + 1) * tot us + 1 ≤ 1900 := fun us z => by omega
  have nt := num_take h cut.toNat
  have nd := num_drop h cut.toNat
  have nr := num_rev h
  obtain ⟨a, ea, xa⟩ := tb_val (f := f) (skip := skip) 6 h
  obtain ⟨b, eb, xb⟩ := tb_val (f := f) (skip := skip) 6 nt
  obtain ⟨c, ec, xc⟩ := tb_val (f := f) (skip := skip) 6 nd
  obtain ⟨d, ed, xd⟩ := tb_val (f := f) (skip := skip) 6 nr
  have ts : tot [tb f skip (vs.take cut.toNat), tb f skip (vs.drop cut.toNat)] = 2 := by unfold tot tot tot; rw [eb, ec]; rfl
  have ns : NumVs 200 [tb f skip (vs.take cut.toNat), tb f skip (vs.drop cut.toNat)] := by
    refine ⟨fun v hv => ?_, Nat.le_of_ble_eq_true rfl, by rw [ts]; decide⟩
    rcases List.mem_cons.mp hv with rfl | hv
    · exact tb_num nt
    · rcases List.mem_singleton.mp hv with rfl; exact tb_num nd
  obtain ⟨g, eg, xg⟩ := tb_val (f := f) (skip := false) 200 ns
  have key1 : toX a = toX g := by
    rw [xa, xg, xs_cut skip vs cut.toNat, tX_cut]
    congr 1
    show _ = ((tb f skip (vs.take cut.toNat)).2.filter (keep false)).map toX ++ (((tb f skip (vs.drop cut.toNat)).2.filter (keep false)).map toX ++ [])
    rw [filter_false, filter_false, eb, ec, ← xb, ← xc]; rfl
  have key2 : toX a = toX d := by rw [xa, xd]; exact (tX_perm f (xs_perm skip vs)).symm
  have np : NumV 200 (tb f skip vs) := tb_num h
  have wg := tb_wt f false [tb f skip (vs.take cut.toNat), tb f skip (vs.drop cut.toNat)]
  have nrr : NumV 200 (tb f skip vs.reverse) := tb_num nr
  have hL : (vs.map enV).length < lenB := by rw [List.length_map]; unfold lenB; have := h.2.1; omega
  unfold m_tot
  rw [mwps, m_asg, v_lstM]
  dsimp only
  rw [mwps, m_asg]
  simp only [v_callV, v_name, mevs, upd, Nat.reduceEqDiff, if_false, if_true, e41, e11, e15]
  refine ⟨hf39, t_tb hf (by decide) h (by decide) (bits _ h.2.2) ?_⟩
  rw [mwps, m_asg]
  simp only [v_lst, v_callV, v_upto, v_from, v_name, mevs, upd, Nat.reduceEqDiff, if_false, if_true, e41, e11, e15, e39, it_vs]
  refine ⟨hf39, h0, h1, hL, ?_⟩
  rw [← List.map_take]
  refine t_tb (vs := vs.take cut.toNat) hf (by decide) nt (by decide) (bits _ nt.2.2) ⟨hf39, h0, h1, hL, ?_⟩
  rw [← List.map_drop]
  refine t_tb (vs := vs.drop cut.toNat) hf (by decide) nd (by decide) (bits _ nd.2.2) ?_
  rw [mwps, m_asg]
  simp only [v_callV, v_name, v_cbool, mevs, upd, Nat.reduceEqDiff, if_false, if_true, e41]
  refine ⟨hf39, t_tb (vs := [tb f skip (vs.take cut.toNat), tb f skip (vs.drop cut.toNat)]) hf (by decide) ns (by decide) (by rw [ts]; decide) ?_⟩
  rw [mwps, m_asg]
  simp only [v_callV, v_name, v_rev, mevs, upd, Nat.reduceEqDiff, if_false, if_true, e41, e11, e15, it_vs]
  refine ⟨hf39, hL, ?_⟩
  rw [← List.map_reverse]
  refine t_tb (vs := vs.reverse) hf (by decide) nr (by decide) (bits _ nr.2.2) ?_
  rw [mwps, m_ite]
  simp only [v_or, v_cmp, v_name, v_lst, v_len, v_items, v_cint, mevs, mor, upd, Nat.reduceEqDiff, if_false, if_true]
  refine c_ne0 last_get ?_
  simp only [t_bool, onB_some, Bool.false_eq_true, if_false]
  have ei : ∀ v : Vc, enV v = .vec (.str v.1) (.list (v.2.map en)) := fun v => rfl
  have hi : itemsOf (σ ++ [some []]) (.list ((tb f skip vs).2.map en)) = some ((tb f skip vs).2.map en) := rfl
  simp only [ei (tb f skip vs), hi]
  rw [← ei]
  have h1' : ((tb f skip vs).2.map en).length = 1 := by rw [ea]; rfl
  refine ⟨by rw [h1']; decide, ?_⟩
  rw [h1', c_nei]
  rw [if_neg (by decide)]
  have pa : ∀ {K : AV → Sto → Prop} {τ : Sto}, K (.list ([toX a].map enX)) τ → Tk 34 32 [enV (tb f skip vs)] K τ := fun z => t_pairs ⟨_, rfl, np.1, fun it hi => (np.2 it hi).1, one_item ea, by rw [ea]; exact z⟩
  refine pa (t_pairs ⟨_, rfl, wg.1, wg.2, one_item eg, ?_⟩)
  rw [eg]
  refine c_neXs (by rw [key1]; rfl) ?_
  simp only [t_bool, onB_some, Bool.false_eq_true, if_false]
  refine pa (t_pairs ⟨_, rfl, nrr.1, fun it hi => (nrr.2 it hi).1, one_item ed, ?_⟩)
  rw [ed]
  refine c_neXs (by rw [key2]; rfl) ?_
  simp only [t_bool, onB_some, Bool.false_eq_true, if_false]
  exact q _ rfl rfl rfl rfl

theorem w_totals (h : S_totals ds Q σ) : mwps (Tk 34) b_law_totals_hold (fun fl _ σ' => Fin σ Q fl σ') (bindR p_law_totals_hold ds rho0) σ := by
  obtain ⟨vs, cut, skip, rfl, hv, h0, h1, q⟩ := h
  have num : ∀ v ∈ vs, numK v.1 := fun v m => (hv.1 v m).1
  simp only [b_law_totals_hold, m_asg, m_ret, m_for, mwps, v_name, v_glob, v_fnv, v_cint, v_cstr, v_cbool, v_cnone, v_tup, v_lst, v_lstM, v_bin, v_neg, v_cmp, v_not, v_and, v_or, v_ife, v_idx, v_upto, v_uptoM, v_from, v_rev, v_kind, v_items, v_call, v_callV, v_vector, v_len, v_abs, v_listOf, v_pop, v_comp, v_compIf, v_compR, v_freeze, mevs, mand, p_law_totals_hold, bindR, upd, Nat.reduceEqDiff, if_false, if_true]
  have ei : enVs vs = .list (vs.map enV) := rfl
  rw [ei]
  dsimp only
  refine filt (p := fun v => decide (v.1 = 7)) vs [] (by simp only [List.length_nil]; have := hv.2.1; omega) (fun v m C c => ?_) ?_
  · show cmpA σ .eq (.str v.1) (.str 7) _
    rw [c_eqs (kind_ok (.inl (num v m))) rfl]
    show (if decide (v.1 = 7) = true then C (some (enV v)) σ else C none σ)
    cases hh : decide (v.1 = 7) with
    | true => rw [hh] at c; exact c
    | false => rw [hh] at c; exact c
  · rw [List.nil_append]
    have hf : (vs.filter fun v => decide (v.1 = 7)).length ≤ vs.length := List.length_filter_le _ _
    have hi : itemsOf σ (.list ((vs.filter fun v => decide (v.1 = 7)).map enV)) = some ((vs.filter fun v => decide (v.1 = 7)).map enV) := rfl
    simp only [hi]
    refine ⟨by rw [List.length_map]; unfold lenB; have := hv.2.1; omega, ?_⟩
    rw [List.length_map, c_gti]
    refine for_cons (tot_body (.inl rfl) hv h0 h1 rfl rfl rfl rfl fun ρ1 a1 a2 a3 a4 => ?_)
    refine for_cons (tot_body (.inr rfl) hv h0 h1 rfl a1 a2 a3 fun ρ2 c1 c2 c3 c4 => ?_)
    have e11 : ρ2 11 = some (enVs vs) := by rw [c1]; exact a1
    have e15 : ρ2 15 = some (.bool skip) := by rw [c2]; exact a2
    have e40 : ρ2 40 = some (.bool (decide ((0 : Int) < ((vs.filter fun v => decide (v.1 = 7)).length : Int)))) := by rw [c4]; exact a4
    show match ρ2 40 with
      | some d => _
      | none => False
    rw [e40]
    simp only [t_bool, onB_some, e11, e15]
    have bits : (6 + 1) * tot vs + 1 ≤ 1900 := by have := hv.2.2; omega
    have k7 : (sumOf skip vs).1 = if decide ((0 : Int) < ((vs.filter fun v => decide (v.1 = 7)).length : Int)) = true then 7 else 8 := by
      unfold sumOf
      rcases sk_eight vs num with ⟨e, v, m, e7⟩ | ⟨e, n⟩
      · have : v ∈ vs.filter fun v => decide (v.1 = 7) := List.mem_filter.mpr ⟨m, decide_eq_true e7⟩
        have := List.length_pos_of_mem this
        have e' : sk vs = 7 := e
        rw [if_pos e', if_pos (decide_eq_true (by omega))]
      · have : (vs.filter fun v => decide (v.1 = 7)) = [] := List.filter_eq_nil_iff.mpr fun v m => by simp [n v m]
        have e' : sk vs = 8 := e
        rw [e', this]; rfl
    have tail : ∀ (K : Nat) (τ : Sto), (K = 7 ∨ K = 8) → (sumOf skip vs).1 = K → (Q (.bool true) σ → Fin σ Q (.ret (.bool true)) τ) → Tk 34 16 [enVs vs, .bool skip, .list []] (fun d σ1 => match d with
        | .vec k _ => cmpA σ1 .eq k (.str K) fun t => if t = true then Tk 34 17 [enVs vs, .bool skip, .list []] (fun d σ2 => match d with
            | .vec k _ => cmpA σ2 .eq k (.str 7) fun t => Fin σ Q (.ret (.bool t)) σ2
            | _ => False) σ1 else Fin σ Q (.ret (.bool t)) σ1
        | _ => False) τ := fun K τ hK e fin => by
      refine t_sum ⟨vs, skip, _, 6, rfl, hv, by decide, bits, ?_⟩
      show cmpA τ .eq (.str (sumOf skip vs).1) (.str K) _
      have k13 : decide (K < 13) = true := decide_eq_true (by omega)
      rw [e, c_eqs k13 k13, if_pos (decide_eq_true rfl)]
      refine t_prod ⟨vs, skip, _, 6, rfl, hv, by decide, bits, ?_⟩
      show cmpA τ .eq (.str 7) (.str 7) _
      rw [c_eqs rfl rfl]
      exact fin q
    have fin : Q (.bool true) σ → Fin σ Q (.ret (.bool true)) (σ ++ [some []] ++ [some []]) := fun q => by
      rw [List.append_assoc]; exact fin1 rfl q
    cases hd : decide ((0 : Int) < ((vs.filter fun v => decide (v.1 = 7)).length : Int)) with
    | true => rw [hd] at k7; exact tail 7 _ (.inl rfl) k7 fin
    | false => rw [hd] at k7; exact tail 8 _ (.inr rfl) k7 fin
end
end Mine
/-! Pl2 -/
namespace Mine

theorem gt_trans {o : Int} {x y z : X} (h : gtX o x y) (k : gtX o y z) : gtX o x z := by
  unfold gtX at *
  rcases h with h | ⟨h, h'⟩
  · rcases k with k | ⟨k, _⟩
    · exact .inl (by omega)
    · exact .inl (by omega)
  · rcases k with k | ⟨k, k'⟩
    · exact .inl (by omega)
    · exact .inr ⟨by omega, by grind⟩
theorem key_inj {o : Int} (ho : o = 1 ∨ o = -1) {x y : X} (h1 : (key o x).1 = (key o y).1) (h2 : (key o x).2 = (key o y).2) : x = y := by
  cases x with
  | na =>
    cases y with
    | na => rfl
    | nan => exact absurd (show (100 : Int) = 99 from h1) (by decide)
    | inf b => have := key_le ho (x := .inf b) rfl; have : (100 : Int) = _ := h1; omega
    | fin r => exact absurd (show (100 : Int) = 0 from h1) (by decide)
  | nan =>
    cases y with
    | na => exact absurd (show (99 : Int) = 100 from h1) (by decide)
    | nan => rfl
    | inf b => have := key_le ho (x := .inf b) rfl; have : (99 : Int) = _ := h1; omega
    | fin r => exact absurd (show (99 : Int) = 0 from h1) (by decide)
  | inf a =>
    cases y with
    | na => have := key_le ho (x := .inf a) rfl; have : _ = (100 : Int) := h1; omega
    | nan => have := key_le ho (x := .inf a) rfl; have : _ = (99 : Int) := h1; omega
    | inf b => rcases ho with rfl | rfl <;> cases a <;> cases b <;> first | rfl | exact absurd h1 (by decide)
    | fin r => rcases ho with rfl | rfl <;> cases a <;> first | exact absurd (show (1 : Int) = 0 from h1) (by decide) | exact absurd (show (-1 : Int) = 0 from h1) (by decide)
  | fin r =>
    cases y with
    | na => exact absurd (show (0 : Int) = 100 from h1) (by decide)
    | nan => exact absurd (show (0 : Int) = 99 from h1) (by decide)
    | inf b => rcases ho with rfl | rfl <;> cases b <;> first | exact absurd (show (0 : Int) = 1 from h1) (by decide) | exact absurd (show (0 : Int) = -1 from h1) (by decide)
    | fin s =>
      have h : (o : Rat) * r = (o : Rat) * s := h2
      rcases ho with rfl | rfl
      · rw [Rat.intCast_one, Rat.one_mul, Rat.one_mul] at h; rw [h]
      · have e : ((-1 : Int) : Rat) = -1 := rfl
        rw [e] at h
        have : r = s := by grind
        rw [this]
theorem gt_total {o : Int} (ho : o = 1 ∨ o = -1) {x y : X} (h : ¬ gtX o x y) (k : ¬ gtX o y x) : x = y := by
  unfold gtX at h k
  have e1 : (key o x).1 = (key o y).1 := by
    have a : ¬ (key o y).1 < (key o x).1 := fun z => h (.inl z)
    have b : ¬ (key o x).1 < (key o y).1 := fun z => k (.inl z)
    omega
  refine key_inj ho e1 ?_
  have a : ¬ (key o y).2 < (key o x).2 := fun z => h (.inr ⟨e1.symm, z⟩)
  have b : ¬ (key o x).2 < (key o y).2 := fun z => k (.inr ⟨e1, z⟩)
  grind
section
variable {o : Int} (ho : o = 1 ∨ o = -1)
include ho
theorem st_comm (x y : X) : stepX o x y = stepX o y x := by
  unfold stepX
  by_cases h : gtX o y x
  · rw [if_pos h, if_neg (gt_asymm h)]
  · rw [if_neg h]
    by_cases k : gtX o x y
    · rw [if_pos k]
    · rw [if_neg k]; exact gt_total ho k h
theorem st_idem (x : X) : stepX o x x = x := by unfold stepX; split <;> rfl
theorem st_assoc (x y z : X) : stepX o (stepX o x y) z = stepX o x (stepX o y z) := by
  unfold stepX
  by_cases h1 : gtX o y x
  · rw [if_pos h1]
    by_cases h2 : gtX o z y
    · rw [if_pos h2, if_pos (gt_trans h2 h1)]
    · rw [if_neg h2, if_pos h1]
  · rw [if_neg h1]
    by_cases h2 : gtX o z y
    · rw [if_pos h2]
    · rw [if_neg h2, if_neg h1]
      by_cases h3 : gtX o z x
      · exfalso
        by_cases h4 : gtX o x y
        · exact h2 (gt_trans h3 h4)
        · have := gt_total ho h4 h1; subst this; exact h2 h3
      · rw [if_neg h3]
theorem st_mem (x y : X) : stepX o x y = x ∨ stepX o x y = y := by unfold stepX; split <;> simp
theorem st_fold (l : List X) (a b : X) : l.foldl (stepX o) (stepX o a b) = stepX o a (l.foldl (stepX o) b) := by
  induction l generalizing b with
  | nil => rfl
  | cons x l ih => rw [List.foldl_cons, List.foldl_cons, st_assoc ho, ih]
theorem ex_cons (x : X) (l : List X) : exX o (x :: l) = l.foldl (stepX o) x := by
  show (l.foldl (stepX o) (stepX o x x)) = _
  rw [st_idem ho]
theorem ex_app {l l' : List X} (h : l ≠ []) (h' : l' ≠ []) : exX o (l ++ l') = stepX o (exX o l) (exX o l') := by
  cases l with
  | nil => exact absurd rfl h
  | cons x l =>
    cases l' with
    | nil => exact absurd rfl h'
    | cons y l' =>
      rw [List.cons_append, ex_cons ho, ex_cons ho, ex_cons ho, List.foldl_append, List.foldl_cons, st_fold ho]
theorem ex_mem : ∀ {l : List X}, l ≠ [] → exX o l ∈ l := fun {l} h => by
  cases l with
  | nil => exact absurd rfl h
  | cons x l =>
    rw [ex_cons ho]
    have : ∀ (l : List X) (x : X), l.foldl (stepX o) x ∈ x :: l := fun l => by
      induction l with
      | nil => intro x; exact .head _
      | cons y l ih =>
        intro x
        rw [List.foldl_cons]
        rcases List.mem_cons.mp (ih (stepX o x y)) with e | e
        · rw [e]
          rcases st_mem ho x y with z | z <;> rw [z]
          · exact .head _
          · exact .tail _ (.head _)
        · exact .tail _ (.tail _ e)
    exact this l x
theorem ex_abs {l : List X} {x : X} (h : x ∈ l) : stepX o (exX o l) x = exX o l := by
  cases l with
  | nil => cases h
  | cons y l =>
    rw [ex_cons ho]
    have : ∀ (l : List X) (y : X), x ∈ y :: l → stepX o (l.foldl (stepX o) y) x = l.foldl (stepX o) y := fun l => by
      induction l with
      | nil => intro y h; rcases List.mem_singleton.mp h with rfl; exact st_idem ho _
      | cons z l ih =>
        intro y h
        rw [List.foldl_cons, st_fold ho, st_assoc ho]
        rcases List.mem_cons.mp h with rfl | h
        · rw [st_comm ho, st_assoc ho, st_idem ho, st_comm ho]
        · rw [ih z h]
    exact this l y h
end
/-- the ends of the ends -/
noncomputable def lohi (l : List X) : List X := [exX (-1) l, exX 1 l]
theorem lo_lohi {l : List X} (h : l ≠ []) : exX (-1) (lohi l) = exX (-1) l := by
  have a : (-1 : Int) = 1 ∨ (-1 : Int) = -1 := .inr rfl
  unfold lohi
  rw [ex_cons a]
  exact ex_abs a (ex_mem (.inl rfl) h)
theorem hi_lohi {l : List X} (h : l ≠ []) : exX 1 (lohi l) = exX 1 l := by
  have a : (1 : Int) = 1 ∨ (1 : Int) = -1 := .inl rfl
  unfold lohi
  rw [ex_cons a]
  show stepX 1 _ _ = _
  rw [st_comm a]
  exact ex_abs a (ex_mem (.inr rfl) h)
theorem lohi_one {l : List X} (h : l ≠ []) : lohi (lohi l) = lohi l := by
  show [exX (-1) (lohi l), exX 1 (lohi l)] = _
  rw [lo_lohi h, hi_lohi h]; rfl
theorem lohi_two {l l' : List X} (h : l ≠ []) (h' : l' ≠ []) : lohi (lohi l ++ lohi l') = lohi (l ++ l') := by
  have n : ∀ l : List X, lohi l ≠ [] := fun l z => by cases z
  show [exX (-1) (lohi l ++ lohi l'), exX 1 (lohi l ++ lohi l')] = [exX (-1) (l ++ l'), exX 1 (l ++ l')]
  rw [ex_app (.inr rfl) (n _) (n _), ex_app (.inl rfl) (n _) (n _), lo_lohi h, lo_lohi h', hi_lohi h, hi_lohi h', ex_app (.inr rfl) h h', ex_app (.inl rfl) h h']
theorem ex_toX (o : Int) : ∀ l : List It, l ≠ [] → toX (ex o l) = exX o (l.map toX)
  | [], h => absurd rfl h
  | x :: l, _ => by
    have : ∀ (l : List It) (b : It), toX (l.foldl (step o) b) = (l.map toX).foldl (stepX o) (toX b) := fun l => by
      induction l with
      | nil => intro b; rfl
      | cons y l ih => intro b; rw [List.foldl_cons, ih, step_toX]; rfl
    exact this (x :: l) x
/-- the two ends, as pairs -/
theorem range_toX {skip : Bool} {vs : List Vc} (h : gath (sk vs) skip vs ≠ []) : (rangeOf skip vs).2.map toX = lohi (xs skip vs) ∧ (rangeOf skip vs).1 = sk vs := by
  unfold rangeOf
  rw [if_neg h]
  refine ⟨?_, rfl⟩
  show [toX (ex (-1) _), toX (ex 1 _)] = _
  rw [ex_toX _ _ h, ex_toX _ _ h, gath_xs]; rfl
theorem gath_nil {k : Nat} {skip : Bool} {vs : List Vc} : gath k skip vs = [] ↔ xs skip vs = [] := by
  rw [← gath_xs k, List.map_eq_nil_iff]
theorem remn_len (skip : Bool) : ∀ vs : List Vc, remn skip vs = ((xs skip vs).length : Int)
  | [] => rfl
  | v :: vs => by
    show ((v.2.filter (keep skip)).length : Int) + remn skip vs = _
    rw [remn_len skip vs]
    have : xs skip (v :: vs) = (v.2.filter (keep skip)).map toX ++ xs skip vs := rfl
    rw [this, List.length_append, List.length_map]
    omega
end Mine
/-! Wk13 -/
namespace Mine

theorem rng_of {vs : List Vc} (h : NumVs 6 vs ∨ TxtVs vs) : RngVs vs := by
  rcases h with h | h
  · exact ⟨.inl fun v hv => (h.1 v hv).1, fun v hv it hi => ⟨((h.1 v hv).2 it hi).1, szx_mono (by decide) ((h.1 v hv).2 it hi).2.1⟩, h.2.2⟩
  · refine ⟨.inr fun v hv => (h.1 v hv).1, fun v hv it hi => ?_, h.2.2⟩
    have w := (h.1 v hv).2 it hi
    have e := (h.1 v hv).1
    refine ⟨by rw [e]; exact w, ?_⟩
    cases it with
    | q x =>
      cases x with
      | na => exact trivial
      | _ => exact absurd (show (6 : Nat) = 7 from w) (by decide)
    | i n => have : (6 : Nat) = 8 ∨ (6 : Nat) = 10 := w; omega
    | s j =>
      have hj : j < 5 := w.2
      have e2 : SzX 3 (toX (.s j)) := by
        show (((j : Int) : Rat)).num.natAbs < 2 ^ 3 ∧ (((j : Int) : Rat)).den < 2 ^ 3
        rw [Rat.num_intCast, Rat.den_intCast]
        exact ⟨by show _ < 8; omega, by decide⟩
      exact szx_mono (by decide) e2
theorem rng_sub {vs us : List Vc} (h : RngVs vs) (hs : ∀ v ∈ us, v ∈ vs) (ht : tot us ≤ tot vs) : RngVs us :=
  ⟨h.1.imp (fun z v hv => z v (hs v hv)) (fun z v hv => z v (hs v hv)), fun v hv => h.2.1 v (hs v hv), by have := h.2.2; omega⟩
theorem ex_mem_it (o : Int) : ∀ l : List It, l ≠ [] → ex o l ∈ l
  | [], h => absurd rfl h
  | x :: l, _ => by
    have : ∀ (l : List It) (b : It), l.foldl (step o) b = b ∨ l.foldl (step o) b ∈ l := fun l => by
      induction l with
      | nil => intro b; exact .inl rfl
      | cons y l ih =>
        intro b
        rw [List.foldl_cons]
        rcases ih (step o b y) with e | e
        · rw [e]
          rcases step_mem o b y with z | z <;> rw [z]
          · exact .inl rfl
          · exact .inr (.head _)
        · exact .inr (.tail _ e)
    rcases this (x :: l) x with e | e
    · show (x :: l).foldl (step o) x ∈ _
      rw [e]; exact .head _
    · exact e
/-- what a range is like -/
theorem rng_val {skip : Bool} {vs : List Vc} (h : RngVs vs) (hn : xs skip vs ≠ []) : (rangeOf skip vs).1 = sk vs ∧ (rangeOf skip vs).2.length = 2 ∧ (∀ it ∈ (rangeOf skip vs).2, Wt (sk vs) it ∧ SzX 1900 (toX it)) ∧ (rangeOf skip vs).2.map toX = lohi (xs skip vs) := by
  have hg : gath (sk vs) skip vs ≠ [] := fun z => hn (gath_nil.mp z)
  obtain ⟨e1, e2⟩ := range_toX hg
  refine ⟨e2, ?_, ?_, e1⟩
  · unfold rangeOf; rw [if_neg hg]; rfl
  · obtain ⟨gw, -⟩ := gath_wt (skip := skip) h
    unfold rangeOf
    rw [if_neg hg]
    intro it hit
    rcases List.mem_cons.mp hit with rfl | hit
    · exact gw _ (ex_mem_it _ _ hg)
    · rcases List.mem_singleton.mp hit with rfl
      exact gw _ (ex_mem_it _ _ hg)
theorem toX_inj6 {a b : It} (ha : Wt 6 a) (hb : Wt 6 b) (e : toX a = toX b) : a = b := by
  cases a with
  | q x =>
    cases x with
    | na =>
      cases b with
      | q y => cases y <;> first | rfl | exact absurd (show (6 : Nat) = 7 from hb) (by decide)
      | i n => have : (6 : Nat) = 8 ∨ (6 : Nat) = 10 := hb; omega
      | s j => cases e
    | _ => exact absurd (show (6 : Nat) = 7 from ha) (by decide)
  | i n => have : (6 : Nat) = 8 ∨ (6 : Nat) = 10 := ha; omega
  | s j =>
    cases b with
    | q y =>
      cases y with
      | na => cases e
      | _ => exact absurd (show (6 : Nat) = 7 from hb) (by decide)
    | i n => have : (6 : Nat) = 8 ∨ (6 : Nat) = 10 := hb; omega
    | s l =>
      have e' : ((j : Int) : Rat) = ((l : Int) : Rat) := X.fin.inj e
      rw [Rat.intCast_inj] at e'
      have : j = l := by omega
      rw [this]
theorem list_inj6 : ∀ {l l' : List It}, (∀ it ∈ l, Wt 6 it) → (∀ it ∈ l', Wt 6 it) → l.map toX = l'.map toX → l = l'
  | [], [], _, _, _ => rfl
  | [], _ :: _, _, _, e => by cases e
  | _ :: _, [], _, _, e => by cases e
  | a :: l, b :: l', h, h', e => by
    rw [List.map_cons, List.map_cons, List.cons.injEq] at e
    rw [toX_inj6 (h a (.head _)) (h' b (.head _)) e.1, list_inj6 (fun u hu => h u (.tail _ hu)) (fun u hu => h' u (.tail _ hu)) e.2]
theorem eq6 {a : It} (h : Wt 6 a) : okD 5 (en a) = true ∧ eqb (en a) (en a) = true := by
  cases a with
  | q x =>
    cases x with
    | na => exact ⟨rfl, rfl⟩
    | _ => exact absurd (show (6 : Nat) = 7 from h) (by decide)
  | i n => have : (6 : Nat) = 8 ∨ (6 : Nat) = 10 := h; omega
  | s j => have := h.2; exact ⟨decide_eq_true (by omega), decide_eq_true rfl⟩
section
variable {k : Nat} {ds : List AV} {Q : AV → Sto → Prop} {σ : Sto}
theorem c_eq6 {K : Bool → Prop} {l : List It} (h : ∀ it ∈ l, Wt 6 it) (q : K true) : cmpA σ .eq (.list (l.map en)) (.list (l.map en)) K := by
  have o : okD 6 (.list (l.map en)) = true := by
    show ((l.map en).all (okD 5)) = true
    rw [List.all_map, List.all_eq_true]
    exact fun x hx => (eq6 (h x hx)).1
  have e : ∀ l : List It, (∀ it ∈ l, Wt 6 it) → eqbs (l.map en) (l.map en) = true := fun l => by
    induction l with
    | nil => intro _; rfl
    | cons x l ih => intro h; show (eqb (en x) (en x) && _) = true; rw [(eq6 (h x (.head _))).2]; exact ih fun u hu => h u (.tail _ hu)
  refine ⟨o, o, ?_⟩
  have : eqb (.list (l.map en)) (.list (l.map en)) = true := e l h
  rw [this]; exact q
theorem t_rng {k : Nat} (hk : 23 < k) {vs : List Vc} {skip : Bool} {d : AV} (h : RngVs vs) (hn : xs skip vs ≠ []) (q : Q (enV (rangeOf skip vs)) σ) : Tk k 23 [enVs vs, .bool skip, d] Q σ :=
  t_range ⟨vs, skip, d, rfl, h, fun _ => q, fun z => absurd (gath_nil.mp z) hn⟩ hk

noncomputable def m_side : MSs := .cons (.ite (.cmp .gt (.call 33 (.cons (.name 47) (.cons (.name 15) .nil))) (.cint 0)) (.cons (.append 44 (.call 23 (.cons (.name 47) (.cons (.name 15) (.cons (.name 42) .nil))))) .nil) .nil) .nil
noncomputable def sideOf (skip : Bool) (us : List Vc) : List Vc := if (xs skip us).length = 0 then [] else [rangeOf skip us]
theorem side_body {C : Fl → Rho → Sto → Prop} {us S : List Vc} {skip : Bool} {n : Nat} (h : RngVs us) (hS : S.length ≤ 4) {ρ : Rho} (e47 : ρ 47 = some (enVs us)) (e15 : ρ 15 = some (.bool skip)) (e44 : ρ 44 = some (.ref n)) (hσ : σ[n]? = some (some (S.map enV))) {d : AV} (e42 : ρ 42 = some d)
    (q : C .next ρ (σ.set n (some ((S ++ sideOf skip us).map enV)))) : mwps (Tk 35) m_side C ρ σ := by
  simp only [m_side, m_ite, m_app, mwps, v_name, v_glob, v_fnv, v_cint, v_cstr, v_cbool, v_cnone, v_tup, v_lst, v_lstM, v_bin, v_neg, v_cmp, v_not, v_and, v_or, v_ife, v_idx, v_upto, v_uptoM, v_from, v_rev, v_kind, v_items, v_call, v_callV, v_vector, v_len, v_abs, v_listOf, v_pop, v_comp, v_compIf, v_compR, v_freeze, mevs, upd, Nat.reduceEqDiff, if_false, if_true, e47, e15, e44, e42]
  refine t_rem ⟨us, skip, rfl, fun v hv it hi => (h.2.1 v hv it hi).1, ?_⟩
  rw [remn_len]
  dsimp only
  rw [c_gti, t_bool, onB_some]
  unfold sideOf at q
  by_cases hz : (xs skip us).length = 0
  · rw [if_pos hz, List.append_nil, set_self hσ] at q
    rw [if_neg (by rw [decide_eq_false (by omega)]; decide)]
    exact q
  · rw [if_neg hz, List.map_append] at q
    rw [if_pos (decide_eq_true (by omega))]
    have hn : xs skip us ≠ [] := fun z => hz (by rw [z]; rfl)
    exact ⟨⟨_, hσ⟩, t_rng (by decide) h hn ⟨_, hσ, by rw [List.length_map]; unfold lenB; omega, q⟩⟩
theorem sides_rng {vs us us' : List Vc} {skip : Bool} (h : RngVs vs) (hu : ∀ v ∈ us, v ∈ vs) (hu' : ∀ v ∈ us', v ∈ vs) (tu : tot us ≤ tot vs) (tu' : tot us' ≤ tot vs) : RngVs (sideOf skip us ++ sideOf skip us') ∧ ((∀ v ∈ vs, v.1 = 6) → ∀ v ∈ sideOf skip us ++ sideOf skip us', v.1 = 6) ∧ ((∀ v ∈ vs, numK v.1) → ∀ v ∈ sideOf skip us ++ sideOf skip us', numK v.1) := by
  have one : ∀ us : List Vc, (∀ v ∈ us, v ∈ vs) → tot us ≤ tot vs → (∀ v ∈ sideOf skip us, ((∀ v ∈ vs, numK v.1) → numK v.1) ∧ ((∀ v ∈ vs, v.1 = 6) → v.1 = 6) ∧ ∀ it ∈ v.2, Wt v.1 it ∧ SzX 1900 (toX it)) ∧ tot (sideOf skip us) ≤ 2 := fun us hu tu => by
    unfold sideOf
    by_cases hz : (xs skip us).length = 0
    · rw [if_pos hz]; exact ⟨fun _ h => (nomatch h), by decide⟩
    · rw [if_neg hz]
      have hn : xs skip us ≠ [] := fun z => hz (by rw [z]; rfl)
      have hr := rng_sub h hu tu
      obtain ⟨e1, e2, e3, -⟩ := rng_val hr hn
      refine ⟨fun v hv => ?_, by show (rangeOf skip us).2.length + 0 ≤ 2; omega⟩
      rcases List.mem_singleton.mp hv with rfl
      refine ⟨fun z => ?_, fun z => ?_, ?_⟩
      · rw [e1]
        rcases sk_eight us (fun v hv => z v (hu v hv)) with ⟨e, -⟩ | ⟨e, -⟩
        · exact .inl e
        · exact .inr (.inl e)
      · rw [e1]
        refine sk_six us 8 (fun v hv => z v (hu v hv)) (.inl fun e => hn (by rw [e]; rfl))
      · rw [e1]; exact e3
  obtain ⟨a1, a2⟩ := one us hu tu
  obtain ⟨b1, b2⟩ := one us' hu' tu'
  have all : ∀ v ∈ sideOf skip us ++ sideOf skip us', ((∀ v ∈ vs, numK v.1) → numK v.1) ∧ ((∀ v ∈ vs, v.1 = 6) → v.1 = 6) ∧ ∀ it ∈ v.2, Wt v.1 it ∧ SzX 1900 (toX it) := fun v hv => by
    rcases List.mem_append.mp hv with z | z
    · exact a1 v z
    · exact b1 v z
  refine ⟨⟨h.1.imp (fun z v hv => (all v hv).1 z) (fun z v hv => (all v hv).2.1 z), fun v hv => (all v hv).2.2, by rw [tot_app]; omega⟩, fun z v hv => (all v hv).2.1 z, fun z v hv => (all v hv).1 z⟩
theorem sides_xs {vs us us' : List Vc} {skip : Bool} (h : RngVs vs) (hu : ∀ v ∈ us, v ∈ vs) (hu' : ∀ v ∈ us', v ∈ vs) (tu : tot us ≤ tot vs) (tu' : tot us' ≤ tot vs) (hn : xs skip us ++ xs skip us' ≠ []) : xs false (sideOf skip us ++ sideOf skip us') ≠ [] ∧ lohi (xs false (sideOf skip us ++ sideOf skip us')) = lohi (xs skip us ++ xs skip us') := by
  have one : ∀ us : List Vc, (∀ v ∈ us, v ∈ vs) → tot us ≤ tot vs → (xs skip us = [] ∧ xs false (sideOf skip us) = []) ∨ (xs skip us ≠ [] ∧ xs false (sideOf skip us) = lohi (xs skip us)) := fun us hu tu => by
    unfold sideOf
    by_cases hz : (xs skip us).length = 0
    · rw [if_pos hz]; exact .inl ⟨List.length_eq_zero_iff.mp hz, rfl⟩
    · rw [if_neg hz]
      have hn : xs skip us ≠ [] := fun z => hz (by rw [z]; rfl)
      refine .inr ⟨hn, ?_⟩
      show ((rangeOf skip us).2.filter (keep false)).map toX ++ [] = _
      rw [filter_false, List.append_nil]
      exact (rng_val (rng_sub h hu tu) hn).2.2.2
  have nl : ∀ l : List X, lohi l ≠ [] := fun l z => by cases z
  rw [xs_app]
  rcases one us hu tu with ⟨a, a'⟩ | ⟨a, a'⟩
  · rcases one us' hu' tu' with ⟨b, b'⟩ | ⟨b, b'⟩
    · rw [a, b] at hn; exact absurd rfl hn
    · rw [a, a', b', List.nil_append, List.nil_append]; exact ⟨nl _, lohi_one b⟩
  · rcases one us' hu' tu' with ⟨b, b'⟩ | ⟨b, b'⟩
    · rw [b, a', b', List.append_nil, List.append_nil]; exact ⟨nl _, lohi_one a⟩
    · rw [a', b']; exact ⟨fun z => (by cases z), lohi_two a b⟩
end
end Mine
/-! Wk14 -/
namespace Mine
section
variable {k : Nat} {ds : List AV} {Q : AV → Sto → Prop} {σ : Sto}
theorem two_get {x y : Option (List AV)} : (σ ++ [x] ++ [y])[σ.length + 1]? = some y := by
  have := last_get (σ := σ ++ [x]) (x := y)
  rw [List.length_append] at this; exact this
theorem two_get0 {x y : Option (List AV)} : (σ ++ [x] ++ [y])[σ.length]? = some x := by
  rw [List.append_assoc]; simp
theorem two_set {x y z : Option (List AV)} : (σ ++ [x] ++ [y]).set (σ.length + 1) z = σ ++ [x] ++ [z] := by
  have := last_set (σ := σ ++ [x]) (x := y) (y := z)
  rw [List.length_append] at this; exact this
theorem fin_two {x y : Option (List AV)} {d : AV} (r : refsBelow σ.length d = true) (q : Q d σ) : Fin σ Q (.ret d) (σ ++ [x] ++ [y]) := by
  rw [List.append_assoc]; exact fin1 r q
theorem fK_nil {x : Nat} {B : (Fl → Rho → Sto → Prop) → Rho → Sto → Prop} {K : Fl → Rho → Sto → Prop} {ρ : Rho} : fK x B [] K .next ρ σ = K .next ρ σ := rfl
noncomputable def m_rtail : MSs := .cons (.assign 45 (.call 23 (.cons (.name 44) (.cons (.cbool false) (.cons (.name 42) .nil))))) (.cons (.ite (.cmp .ne (.name 42) (.lst .nil)) (.cons (.ret (.cbool false)) .nil) .nil) (.cons (.ite (.cmp .eq (.kind (.name 43)) (.cstr 6)) (.cons (.ret (.and (.cons (.cmp .eq (.kind (.name 45)) (.cstr 6)) (.cons (.cmp .eq (.items (.name 43)) (.items (.name 45))) .nil)))) .nil) .nil) (.cons (.ret (.cmp .eq (.call 32 (.cons (.name 43) .nil)) (.call 32 (.cons (.name 45) .nil)))) .nil)))
theorem rtail {vs S : List Vc} {skip : Bool} (h : RngVs vs) (hn : xs skip vs ≠ []) (hS : RngVs S) (hSn : xs false S ≠ []) (h6 : (∀ v ∈ vs, v.1 = 6) → ∀ v ∈ S, v.1 = 6) (h7 : (∀ v ∈ vs, numK v.1) → ∀ v ∈ S, numK v.1) (key : lohi (xs false S) = lohi (xs skip vs)) {ρ : Rho} (e42 : ρ 42 = some (.ref σ.length)) (e43 : ρ 43 = some (enV (rangeOf skip vs))) (e44 : ρ 44 = some (enVs S))
    (q : Q (.bool true) σ) : mwps (Tk 35) m_rtail (fun fl _ σ' => Fin σ Q fl σ') ρ (σ ++ [some []] ++ [none]) := by
  obtain ⟨a1, a2, a3, a4⟩ := rng_val h hn
  obtain ⟨b1, b2, b3, b4⟩ := rng_val hS hSn
  have fin : Fin σ Q (.ret (.bool true)) (σ ++ [some []] ++ [none]) := fin_two rfl q
  simp only [m_rtail, m_asg, m_ite, m_ret, mwps, v_name, v_glob, v_fnv, v_cint, v_cstr, v_cbool, v_cnone, v_tup, v_lst, v_lstM, v_bin, v_neg, v_cmp, v_not, v_and, v_or, v_ife, v_idx, v_upto, v_uptoM, v_from, v_rev, v_kind, v_items, v_call, v_callV, v_vector, v_len, v_abs, v_listOf, v_pop, v_comp, v_compIf, v_compR, v_freeze, mevs, mand, upd, Nat.reduceEqDiff, if_false, if_true, e42, e43, e44]
  refine t_rng (by decide) hS hSn ?_
  refine c_ne0 two_get0 ?_
  rw [t_bool, onB_some, if_neg (by decide)]
  have ei : ∀ v : Vc, enV v = .vec (.str v.1) (.list (v.2.map en)) := fun v => rfl
  have k13 : decide (sk vs < 13) = true := decide_eq_true (gath_wt (skip := skip) h).2.1
  have nk : ∀ us : List Vc, (∀ v ∈ us, numK v.1) → numK (sk us) := fun us z => by
    rcases sk_eight us z with ⟨e', -⟩ | ⟨e', -⟩
    · exact .inl e'
    · exact .inr (.inl e')
  rcases h.1 with num | six
  · have n1 := nk vs num
    have n2 := nk S (h7 num)
    simp only [ei (rangeOf skip vs), a1, c_eqs k13 (show decide (6 < 13) = true from rfl), t_bool, onB_some]
    rw [if_neg (by rw [decide_eq_false (by unfold numK at n1; omega)]; decide), ← a1, ← ei]
    refine t_pairs ⟨_, rfl, by rw [a1]; exact n1, fun it hi => by rw [a1]; exact (a3 it hi).1, by omega, ?_⟩
    refine t_pairs ⟨_, rfl, by rw [b1]; exact n2, fun it hi => by rw [b1]; exact (b3 it hi).1, by omega, ?_⟩
    rw [a4, b4, key]
    exact c_eqXs rfl fin
  · have e1 : sk vs = 6 := sk_six vs 8 six (.inl fun e => hn (by rw [e]; rfl))
    have e2 : sk S = 6 := sk_six S 8 (h6 six) (.inl fun e => hSn (by rw [e]; rfl))
    rw [e1] at a1 a3
    rw [e2] at b1 b3
    have same : (rangeOf skip vs).2 = (rangeOf false S).2 := list_inj6 (fun it hi => (a3 it hi).1) (fun it hi => (b3 it hi).1) (by rw [a4, b4, key])
    simp only [ei (rangeOf skip vs), ei (rangeOf false S), a1, b1, c_eqs (show decide (6 < 13) = true from rfl) (show decide (6 < 13) = true from rfl), t_bool, onB_some]
    rw [if_pos (by decide), if_pos (by decide), same]
    exact c_eq6 (fun it hi => (b3 it hi).1) fin

theorem w_ranges (h : S_ranges ds Q σ) : mwps (Tk 35) b_law_ranges_hold (fun fl _ σ' => Fin σ Q fl σ') (bindR p_law_ranges_hold ds rho0) σ := by
  obtain ⟨vs, cut, skip, rfl, hv, h0, h1, q⟩ := h
  have hr := rng_of hv
  have hlen : vs.length ≤ 16 := by rcases hv with z | z; exact z.2.1; exact z.2.1
  have wt : ∀ v ∈ vs, ∀ it ∈ v.2, Wt v.1 it := fun v m it hi => (hr.2.1 v m it hi).1
  have hL : (vs.map enV).length < lenB := by rw [List.length_map]; unfold lenB; omega
  have hg : gath (sk vs) skip vs = [] ↔ xs skip vs = [] := gath_nil
  unfold b_law_ranges_hold
  rw [mwps, m_asg, v_lstM]
  dsimp only
  rw [mwps, m_asg]
  simp only [v_name, v_glob, v_fnv, v_cint, v_cstr, v_cbool, v_cnone, v_tup, v_lst, v_lstM, v_bin, v_neg, v_cmp, v_not, v_and, v_or, v_ife, v_idx, v_upto, v_uptoM, v_from, v_rev, v_kind, v_items, v_call, v_callV, v_vector, v_len, v_abs, v_listOf, v_pop, v_comp, v_compIf, v_compR, v_freeze, mevs, p_law_ranges_hold, bindR, upd, Nat.reduceEqDiff, if_false, if_true]
  refine t_range ⟨vs, skip, _, rfl, hr, fun hne => ?_, fun he => ⟨σ.length, [], rfl, last_get, by decide, ?_⟩⟩
  · have hn : xs skip vs ≠ [] := fun z => hne (hg.mpr z)
    have hz : ¬ ((xs skip vs).length : Int) = 0 := fun z => hn (List.length_eq_zero_iff.mp (by omega))
    dsimp only
    rw [mwps, m_ite]
    simp only [v_name, v_glob, v_fnv, v_cint, v_cstr, v_cbool, v_cnone, v_tup, v_lst, v_lstM, v_bin, v_neg, v_cmp, v_not, v_and, v_or, v_ife, v_idx, v_upto, v_uptoM, v_from, v_rev, v_kind, v_items, v_call, v_callV, v_vector, v_len, v_abs, v_listOf, v_pop, v_comp, v_compIf, v_compR, v_freeze, mevs, upd, Nat.reduceEqDiff, if_false, if_true]
    refine t_rem ⟨vs, skip, rfl, wt, ?_⟩
    rw [remn_len]
    dsimp only
    rw [c_eqi, t_bool, onB_some, if_neg (by rw [decide_eq_false hz]; decide), mwps]
    dsimp only
    rw [mwps, m_asg, v_lstM]
    dsimp only
    rw [mwps, m_for]
    simp only [v_name, v_glob, v_fnv, v_cint, v_cstr, v_cbool, v_cnone, v_tup, v_lst, v_lstM, v_bin, v_neg, v_cmp, v_not, v_and, v_or, v_ife, v_idx, v_upto, v_uptoM, v_from, v_rev, v_kind, v_items, v_call, v_callV, v_vector, v_len, v_abs, v_listOf, v_pop, v_comp, v_compIf, v_compR, v_freeze, mevs, upd, Nat.reduceEqDiff, if_false, if_true, it_vs]
    refine ⟨h0, h1, hL, h0, h1, hL, ?_⟩
    rw [← List.map_take, ← List.map_drop]
    have ht := tot_cut vs cut.toNat
    have mt : ∀ v ∈ vs.take cut.toNat, v ∈ vs := fun v m => List.mem_of_mem_take m
    have md : ∀ v ∈ vs.drop cut.toNat, v ∈ vs := fun v m => List.mem_of_mem_drop m
    have tt : tot (vs.take cut.toNat) ≤ tot vs := by omega
    have td : tot (vs.drop cut.toNat) ≤ tot vs := by omega
    obtain ⟨sr, s6, s7⟩ := sides_rng (skip := skip) hr mt md tt td
    have hc := xs_cut skip vs cut.toNat
    obtain ⟨sn, sk'⟩ := sides_xs (skip := skip) hr mt md tt td (by rw [← hc]; exact hn)
    rw [← hc] at sk'
    have l1 : ∀ us, (sideOf skip us).length ≤ 1 := fun us => by unfold sideOf; split <;> exact Nat.le_of_ble_eq_true rfl
    have len1 : (σ ++ [some ([] : List AV)]).length = σ.length + 1 := by simp
    refine for_cons (side_body (us := vs.take cut.toNat) (S := []) (n := σ.length + 1) (rng_sub hr mt tt) (by decide) rfl rfl (by show some (AV.ref (σ ++ [some []]).length) = _; rw [len1]) two_get rfl ?_)
    rw [two_set, List.nil_append]
    refine for_cons (side_body (us := vs.drop cut.toNat) (S := sideOf skip (vs.take cut.toNat)) (n := σ.length + 1) (rng_sub hr md td) (by have := l1 (vs.take cut.toNat); omega) rfl rfl (by show some (AV.ref (σ ++ [some []]).length) = _; rw [len1]) two_get rfl ?_)
    rw [two_set]
    rw [fK_nil]
    dsimp only
    rw [mwps]
    dsimp only [upd]
    simp only [Nat.reduceEqDiff, if_false, if_true, len1, two_get, two_set]
    exact rtail hr hn sr sn s6 s7 sk' rfl rfl rfl q
  · have hn := hg.mp he
    have e0 : ((xs skip vs).length : Int) = 0 := by rw [hn]; rfl
    have e1 : rangeOf skip vs = (7, [.q (.inf false), .q (.inf true)]) := by unfold rangeOf; rw [if_pos he]
    rw [last_set, e1]
    dsimp only
    rw [mwps, m_ite]
    simp only [v_name, v_glob, v_fnv, v_cint, v_cstr, v_cbool, v_cnone, v_tup, v_lst, v_lstM, v_bin, v_neg, v_cmp, v_not, v_and, v_or, v_ife, v_idx, v_upto, v_uptoM, v_from, v_rev, v_kind, v_items, v_call, v_callV, v_vector, v_len, v_abs, v_listOf, v_pop, v_comp, v_compIf, v_compR, v_freeze, mevs, upd, Nat.reduceEqDiff, if_false, if_true]
    refine t_rem ⟨vs, skip, rfl, wt, ?_⟩
    rw [remn_len, e0]
    dsimp only
    rw [c_eqi, t_bool, onB_some, if_pos (by decide)]
    have ei : ∀ v : Vc, enV v = .vec (.str v.1) (.list (v.2.map en)) := fun v => rfl
    simp only [mwps, m_asg, m_ret, v_name, v_glob, v_fnv, v_cint, v_cstr, v_cbool, v_cnone, v_tup, v_lst, v_lstM, v_bin, v_neg, v_cmp, v_not, v_and, v_or, v_ife, v_idx, v_upto, v_uptoM, v_from, v_rev, v_kind, v_items, v_call, v_callV, v_vector, v_len, v_abs, v_listOf, v_pop, v_comp, v_compIf, v_compR, v_freeze, mevs, mand, upd, Nat.reduceEqDiff, if_false, if_true, ei]
    rw [c_eqs rfl rfl, t_bool, onB_some, if_pos (by decide)]
    refine c_eqXs (l := [.inf false, .inf true]) (l' := [.inf false, .inf true]) rfl ?_
    rw [t_bool, onB_some, if_pos rfl]
    have dr : deref (σ ++ [some (([12, 11] : List Nat).map AV.str)]) (.ref σ.length) = some (.list (([12, 11] : List Nat).map AV.str)) := by
      show (match (σ ++ [some (([12, 11] : List Nat).map AV.str)])[σ.length]? with | some (some ds) => some (AV.list ds) | _ => none) = _
      rw [last_get]
    unfold cmpA
    simp only [List.nil_append, dr]
    exact ⟨rfl, rfl, fin1 rfl q⟩
end
end Mine
/-! Pl3 -/
namespace Mine

theorem add_na (t : X) : addX t .na = .na := by cases t <;> rfl
theorem add_nan {t : X} (h : t ≠ .na) : addX t .nan = .nan := by cases t <;> first | rfl | exact absurd rfl h
theorem add_no_na {t x : X} (h : t ≠ .na) (k : x ≠ .na) : addX t x ≠ .na := by
  cases t with
  | na => exact absurd rfl h
  | nan => cases x <;> first | exact absurd rfl k | exact fun e => (by cases e)
  | inf a =>
    cases x with
    | na => exact absurd rfl k
    | inf b => show (if a = b then X.inf a else .nan) ≠ .na; split <;> exact fun e => (by cases e)
    | _ => exact fun e => (by cases e)
  | fin r => cases x <;> first | exact absurd rfl k | exact fun e => (by cases e)
theorem fold_na_abs : ∀ l : List X, l.foldl addX .na = .na
  | [] => rfl
  | x :: l => fold_na_abs l
theorem fold_has_na : ∀ (l : List X) (t : X), .na ∈ l → l.foldl addX t = .na
  | x :: l, t, h => by
    rcases List.mem_cons.mp h with e | h
    · rw [← e, List.foldl_cons, add_na]; exact fold_na_abs l
    · exact fold_has_na l _ h
theorem fold_nan_abs : ∀ l : List X, .na ∉ l → l.foldl addX .nan = .nan
  | [], _ => rfl
  | x :: l, h => by
    have : addX .nan x = .nan := by
      cases x with
      | na => exact absurd (.head _) h
      | _ => rfl
    rw [List.foldl_cons, this]; exact fold_nan_abs l fun z => h (.tail _ z)
theorem fold_has_nan : ∀ (l : List X) (t : X), t ≠ .na → .na ∉ l → .nan ∈ l → l.foldl addX t = .nan
  | x :: l, t, ht, hn, h => by
    have hn' : .na ∉ l := fun z => hn (.tail _ z)
    rcases List.mem_cons.mp h with e | h
    · rw [← e, List.foldl_cons, add_nan ht]; exact fold_nan_abs l hn'
    · exact fold_has_nan l _ (add_no_na ht fun e => hn (e ▸ .head _)) hn' h
/-- an infinity among the summed: the sum is no fraction; an infinite sum has that sign -/
theorem fold_inf : ∀ (l : List X) (t : X), (∀ x ∈ t :: l, lackX x = false) → (l.foldl addX t = .nan) ∨ (∃ c, l.foldl addX t = .inf c ∧ ∀ b, .inf b ∈ t :: l → b = c) ∨ (∃ r, l.foldl addX t = .fin r ∧ ∀ x ∈ t :: l, de x ≠ 0)
  | [], t, h => by
    cases t with
    | na => have := h .na (.head _); cases this
    | nan => exact .inl rfl
    | inf c => exact .inr (.inl ⟨c, rfl, fun b hb => by rcases List.mem_singleton.mp hb with e; cases e; rfl⟩)
    | fin r => exact .inr (.inr ⟨r, rfl, fun x hx => by rcases List.mem_singleton.mp hx with rfl; exact den_ne r⟩)
  | x :: l, t, h => by
    have hx := h x (.tail _ (.head _))
    have ht := h t (.head _)
    have hl : ∀ y ∈ l, lackX y = false := fun y hy => h y (.tail _ (.tail _ hy))
    have nn : .na ∉ l := fun z => by have := hl _ z; cases this
    rw [List.foldl_cons]
    cases ha : addX t x with
    | na => exact absurd ha (add_no_na (fun e => by rw [e] at ht; cases ht) (fun e => by rw [e] at hx; cases hx))
    | nan => exact .inl (fold_nan_abs l nn)
    | inf c =>
      have hm : ∀ b, .inf b ∈ [t, x] → b = c := fun b hb => by
        cases t with
        | na => cases ht
        | nan => cases ht
        | inf a =>
          cases x with
          | na => cases hx
          | nan => cases hx
          | inf d =>
            cases a <;> cases d <;> cases ha <;> (rcases List.mem_cons.mp hb with e | hb; (cases e; rfl); (rcases List.mem_singleton.mp hb with e; cases e; rfl))
          | fin s =>
            cases ha
            rcases List.mem_cons.mp hb with e | hb
            · cases e; rfl
            · rcases List.mem_singleton.mp hb with e; cases e
        | fin r =>
          cases x with
          | na => cases hx
          | nan => cases hx
          | inf d =>
            cases ha
            rcases List.mem_cons.mp hb with e | hb
            · cases e
            · rcases List.mem_singleton.mp hb with e; cases e; rfl
          | fin s => cases ha
      rcases fold_inf l (.inf c) (fun y hy => by rcases List.mem_cons.mp hy with rfl | hy; rfl; exact hl y hy) with e | ⟨d, e, hd⟩ | ⟨r, e, hr⟩
      · exact .inl e
      · refine .inr (.inl ⟨d, e, fun b hb => ?_⟩)
        have hc := hd c (.head _)
        rcases List.mem_cons.mp hb with z | hb
        · rw [← hc]; exact hm b (by rw [z]; exact .head _)
        · rcases List.mem_cons.mp hb with z | hb
          · rw [← hc]; exact hm b (by rw [z]; exact .tail _ (.head _))
          · exact hd b (.tail _ hb)
      · exact absurd rfl (hr (.inf c) (.head _))
    | fin s =>
      have hf : de t ≠ 0 ∧ de x ≠ 0 := by
        cases t with
        | na => cases ht
        | nan => cases ht
        | inf a =>
          cases x with
          | na => cases hx
          | nan => cases hx
          | inf d => cases a <;> cases d <;> cases ha
          | fin s => cases ha
        | fin r =>
          cases x with
          | na => cases hx
          | nan => cases hx
          | inf d => cases ha
          | fin s => exact ⟨den_ne r, den_ne s⟩
      rcases fold_inf l (.fin s) (fun y hy => by rcases List.mem_cons.mp hy with rfl | hy; rfl; exact hl y hy) with e | ⟨d, e, hd⟩ | ⟨r, e, hr⟩
      · exact .inl e
      · refine .inr (.inl ⟨d, e, fun b hb => ?_⟩)
        rcases List.mem_cons.mp hb with z | hb
        · rw [← z] at hf; exact absurd rfl hf.1
        · rcases List.mem_cons.mp hb with z | hb
          · rw [← z] at hf; exact absurd rfl hf.2
          · exact hd b (.tail _ hb)
      · refine .inr (.inr ⟨r, e, fun y hy => ?_⟩)
        rcases List.mem_cons.mp hy with rfl | hy
        · exact hf.1
        · rcases List.mem_cons.mp hy with rfl | hy
          · exact hf.2
          · exact hr y (.tail _ hy)

/-- the squared gap -/
noncomputable def sqX (m x : X) : X := mulX (gapX m x) (gapX m x)
theorem var_eq {l : List X} (h : ¬ l.length < 2) : varX l = divX ((l.map (sqX (meanX l))).foldl addX (.fin 0)) (l.length - 1 : Int) := by
  unfold varX
  rw [if_neg h, List.foldl_map]; rfl
theorem var_na {l : List X} (h : ¬ l.length < 2) (hn : .na ∈ l) : varX l = .na := by
  have hm : meanX l = .na := by
    unfold meanX
    rw [if_neg (by intro e; rw [e] at hn; cases hn)]
    have : sumX l = .na := fold_has_na l _ hn
    rw [this]; rfl
  have : X.na ∈ l.map (sqX (meanX l)) := by
    refine List.mem_map.mpr ⟨.na, hn, ?_⟩
    rw [hm]; rfl
  rw [var_eq h, fold_has_na _ _ this]; rfl
theorem var_nan {l : List X} (h : ¬ l.length < 2) (hn : .na ∉ l) (hd : ∃ x ∈ l, de x = 0) : varX l = .nan := by
  obtain ⟨x, hx, dx⟩ := hd
  have hl : l ≠ [] := by intro e; rw [e] at hx; cases hx
  have fin : ∀ m : X, m ≠ .na → (∃ y ∈ l, sqX m y = .nan) → meanX l = m → varX l = .nan := fun m hm hy e => by
    rw [var_eq h, e]
    obtain ⟨y, hy, ey⟩ := hy
    have nm : negX m ≠ .na := by cases m <;> first | exact absurd rfl hm | exact fun e => (by cases e)
    have no : X.na ∉ l.map (sqX m) := fun z => by
      obtain ⟨u, hu, eu⟩ := List.mem_map.mp z
      have : gapX m u ≠ .na := add_no_na (fun e => hn (e ▸ hu)) nm
      unfold sqX at eu
      cases hg : gapX m u with
      | na => exact this hg
      | nan => rw [hg] at eu; cases eu
      | inf b => rw [hg] at eu; cases eu
      | fin r => rw [hg] at eu; cases eu
    rw [fold_has_nan _ _ (fun e => by cases e) no (List.mem_map.mpr ⟨y, hy, ey⟩)]; rfl
  have mm : meanX l = divX (sumX l) l.length := if_neg hl
  have sq_nan : ∀ u, u ≠ .na → sqX .nan u = .nan := fun u hu => by unfold sqX gapX; rw [show negX .nan = .nan from rfl, add_nan hu]; rfl
  have xna : x ≠ .na := fun e => hn (e ▸ hx)
  by_cases hnan : .nan ∈ l
  · have : sumX l = .nan := fold_has_nan l _ (fun e => by cases e) hn hnan
    refine fin .nan (fun e => by cases e) ⟨x, hx, sq_nan x xna⟩ ?_
    rw [mm, this]; rfl
  · have good : ∀ y ∈ (.fin 0) :: l, lackX y = false := fun y hy => by
      rcases List.mem_cons.mp hy with rfl | hy
      · rfl
      · cases y with
        | na => exact absurd hy hn
        | nan => exact absurd hy hnan
        | _ => rfl
    rcases fold_inf l (.fin 0) good with e | ⟨c, e, hc⟩ | ⟨r, e, hr⟩
    · have : sumX l = .nan := e
      refine fin .nan (fun e => by cases e) ⟨x, hx, sq_nan x xna⟩ ?_
      rw [mm, this]; rfl
    · have : sumX l = .inf c := e
      refine fin (.inf c) (fun e => by cases e) ?_ (by rw [mm, this]; rfl)
      have xi : ∃ b, x = .inf b := by
        cases x with
        | na => exact absurd rfl xna
        | nan => exact absurd hx hnan
        | inf b => exact ⟨b, rfl⟩
        | fin r => exact absurd dx (den_ne r)
      obtain ⟨b, rfl⟩ := xi
      have := hc b (.tail _ hx)
      subst this
      exact ⟨_, hx, by cases b <;> rfl⟩
    · exact absurd dx (hr x (.tail _ hx))

/-! the sum of the squared differences -/
noncomputable def gq (l : List X) (i : Nat) : Rat := match l[i]? with
  | some (.fin r) => r
  | _ => 0
noncomputable def inP (l : List X) (i : Nat) (js : List Nat) (p : Rat) : Rat := js.foldl (fun p j => p + (gq l i - gq l j) * (gq l i - gq l j)) p
noncomputable def outP (l : List X) (is : List Nat) (p : Rat) : Rat := is.foldl (fun p i => inP l i (List.range i) p) p
theorem all_fin {l : List X} (h : ∀ x ∈ l, de x ≠ 0) : ∃ rs : List Rat, l = rs.map .fin := by
  induction l with
  | nil => exact ⟨[], rfl⟩
  | cons x l ih =>
    obtain ⟨rs, e⟩ := ih fun y hy => h y (.tail _ hy)
    have := h x (.head _)
    cases x with
    | fin r => exact ⟨r :: rs, by rw [e]; rfl⟩
    | _ => exact absurd rfl this
theorem var_fin {l : List X} (h : ∀ x ∈ l, de x ≠ 0) (h2 : ¬ l.length < 2) (h4 : l.length ≤ 4) : ∃ w, varX l = .fin w ∧ w * (l.length : Int) * (l.length - 1 : Int) = outP l (List.range l.length) 0 := by
  obtain ⟨rs, rfl⟩ := all_fin h
  rw [List.length_map] at h2 h4
  match rs, h2, h4 with
  | [a, b], _, _ =>
    refine ⟨_, rfl, ?_⟩
    show _ = (0 + (b - a) * (b - a) : Rat)
    have e1 : (((([X.fin a, .fin b] : List X).length : Int) : Int) : Rat) = 2 := rfl
    have e2 : (((([X.fin a, .fin b] : List X).length : Int) - 1 : Int) : Rat) = 1 := rfl
    show ((0 + (a + -((0 + a + b) / _)) * (a + -((0 + a + b) / _)) + (b + -((0 + a + b) / _)) * (b + -((0 + a + b) / _))) / _ : Rat) * _ * _ = _
    simp only [List.map, e1, e2]
    grind
  | [a, b, c], _, _ =>
    refine ⟨_, rfl, ?_⟩
    show _ = (0 + (b - a) * (b - a) + (c - a) * (c - a) + (c - b) * (c - b) : Rat)
    have e1 : (((([X.fin a, .fin b, .fin c] : List X).length : Int) : Int) : Rat) = 3 := rfl
    have e2 : (((([X.fin a, .fin b, .fin c] : List X).length : Int) - 1 : Int) : Rat) = 2 := rfl
    show ((0 + (a + -((0 + a + b + c) / _)) * (a + -((0 + a + b + c) / _)) + (b + -((0 + a + b + c) / _)) * (b + -((0 + a + b + c) / _)) + (c + -((0 + a + b + c) / _)) * (c + -((0 + a + b + c) / _))) / _ : Rat) * _ * _ = _
    simp only [List.map, e1, e2]
    grind
  | [a, b, c, d], _, _ =>
    refine ⟨_, rfl, ?_⟩
    show _ = (0 + (b - a) * (b - a) + (c - a) * (c - a) + (c - b) * (c - b) + (d - a) * (d - a) + (d - b) * (d - b) + (d - c) * (d - c) : Rat)
    have e1 : (((([X.fin a, .fin b, .fin c, .fin d] : List X).length : Int) : Int) : Rat) = 4 := rfl
    have e2 : (((([X.fin a, .fin b, .fin c, .fin d] : List X).length : Int) - 1 : Int) : Rat) = 3 := rfl
    show ((0 + (a + -((0 + a + b + c + d) / _)) * (a + -((0 + a + b + c + d) / _)) + (b + -((0 + a + b + c + d) / _)) * (b + -((0 + a + b + c + d) / _)) + (c + -((0 + a + b + c + d) / _)) * (c + -((0 + a + b + c + d) / _)) + (d + -((0 + a + b + c + d) / _)) * (d + -((0 + a + b + c + d) / _))) / _ : Rat) * _ * _ = _
    simp only [List.map, e1, e2]
    grind
  | a :: b :: c :: d :: e :: r, _, h4 => simp only [List.length_cons] at h4; omega
  | [a], h2, _ => exact absurd (Nat.lt_succ_self 1) h2
  | [], h2, _ => exact absurd (by decide) h2

/-- equal fractions, crosswise -/
theorem cross {w p : Rat} {m : Int} (h : w * m = p) : w.num * m * p.den = p.num * w.den := by
  have ew : (w.num : Rat) = w * (w.den : Int) := by
    have := Rat.num_divInt_den w
    rw [Rat.divInt_eq_div] at this
    have hd : ((w.den : Int) : Rat) ≠ 0 := fun e => den_ne w (Rat.intCast_inj.mp e)
    generalize ((w.den : Int) : Rat) = d at this hd ⊢
    generalize (w.num : Rat) = n at this ⊢
    rw [← this]; grind
  have ep : (p.num : Rat) = p * (p.den : Int) := by
    have := Rat.num_divInt_den p
    rw [Rat.divInt_eq_div] at this
    have hd : ((p.den : Int) : Rat) ≠ 0 := fun e => den_ne p (Rat.intCast_inj.mp e)
    generalize ((p.den : Int) : Rat) = d at this hd ⊢
    generalize (p.num : Rat) = n at this ⊢
    rw [← this]; grind
  apply Rat.intCast_inj.mp
  rw [Rat.intCast_mul, Rat.intCast_mul, Rat.intCast_mul, ew, ep, ← h]
  generalize ((w.den : Int) : Rat) = d
  generalize ((p.den : Int) : Rat) = e
  grind
/-- one step of the pairs -/
theorem pair_val (p a b : Rat) : Rat.divInt (p.num * (a.den * b.den) * (a.den * b.den) + (a.num * b.den - b.num * a.den) * (a.num * b.den - b.num * a.den) * p.den) (p.den * (a.den * b.den) * (a.den * b.den)) = p + (a - b) * (a - b) := by
  have val : ∀ q : Rat, q = (q.num : Rat) / ((q.den : Int) : Rat) := fun q => by rw [← Rat.divInt_eq_div]; exact (Rat.num_divInt_den q).symm
  have nz : ∀ q : Rat, ((q.den : Int) : Rat) ≠ 0 := fun q e => den_ne q (Rat.intCast_inj.mp e)
  have hp := val p; have ha := val a; have hb := val b
  have np := nz p; have na := nz a; have nb := nz b
  rw [Rat.divInt_eq_div]
  simp only [Rat.intCast_mul, Rat.intCast_add, Rat.intCast_sub]
  generalize (p.num : Rat) = pn at *
  generalize ((p.den : Int) : Rat) = pd at *
  generalize (a.num : Rat) = an at *
  generalize ((a.den : Int) : Rat) = ad at *
  generalize (b.num : Rat) = bn at *
  generalize ((b.den : Int) : Rat) = bd at *
  subst hp ha hb
  grind
end Mine
/-! Wk15 -/
namespace Mine
section
variable {k : Nat} {ds : List AV} {Q : AV → Sto → Prop} {σ : Sto}
theorem idx_l {l : List X} {i : Nat} {x : X} {K : AV → Prop} (h : l[i]? = some x) (hi : i < 64) (q : K (enX x)) : idxA (.list (l.map enX)) (.int (i : Int)) K :=
  ⟨by omega, by omega, enX x, by rw [List.getElem?_map]; show (l[i]?).map enX = _; rw [h]; rfl, q⟩
noncomputable def m_pair : MSs := .cons (.assign 53 (.bin .sub (.bin .mul (.idx (.idx (.name 49) (.name 51)) (.cint 0)) (.idx (.idx (.name 49) (.name 52)) (.cint 1))) (.bin .mul (.idx (.idx (.name 49) (.name 52)) (.cint 0)) (.idx (.idx (.name 49) (.name 51)) (.cint 1))))) (.cons (.assign 54 (.bin .mul (.idx (.idx (.name 49) (.name 51)) (.cint 1)) (.idx (.idx (.name 49) (.name 52)) (.cint 1)))) (.cons (.assign 31 (.bin .add (.bin .mul (.bin .mul (.name 31) (.name 54)) (.name 54)) (.bin .mul (.bin .mul (.name 53) (.name 53)) (.name 32)))) (.cons (.assign 32 (.bin .mul (.bin .mul (.name 32) (.name 54)) (.name 54))) (.cons (.unpack2 31 32 (.call 30 (.cons (.name 31) (.cons (.name 32) .nil)))) .nil))))
/-- what the loops keep -/
noncomputable def PInv (l : List X) (w : AV) (p : Rat) (ρ : Rho) : Prop := ρ 49 = some (.list (l.map enX)) ∧ ρ 50 = some w ∧ ρ 31 = some (.int p.num) ∧ ρ 32 = some (.int p.den)
theorem sz_step {c : Nat} {p a b : Rat} (hp : SzX c (.fin p)) (ha : SzX 6 (.fin a)) (hb : SzX 6 (.fin b)) : SzX (c + 27) (.fin (p + (a - b) * (a - b))) := by
  have hn : SzX 6 (.fin (-b)) := ⟨by rw [Rat.neg_num, Int.natAbs_neg]; exact hb.1, by rw [Rat.neg_den]; exact hb.2⟩
  have hg : SzX 13 (.fin (a + -b)) := sz_add ha hn
  have := sz_add hp (sz_mul hg hg)
  rw [Rat.sub_eq_add_neg]
  exact this
theorem pair_step {C : Fl → Rho → Sto → Prop} {l : List X} {w : AV} {p a b : Rat} {i j c : Nat} {ρ : Rho} (g : PInv l w p ρ) (hi : l[i]? = some (.fin a)) (hj : l[j]? = some (.fin b)) (i64 : i < 64) (j64 : j < 64) (sa : SzX 6 (.fin a)) (sb : SzX 6 (.fin b)) (sp : SzX c (.fin p)) (hc : c ≤ 1800) (e51 : ρ 51 = some (.int (i : Int))) (e52 : ρ 52 = some (.int (j : Int)))
    (q : ∀ ρ', PInv l w (p + (a - b) * (a - b)) ρ' → ρ' 51 = ρ 51 → C .next ρ' σ) : mwps (Tk 36) m_pair C ρ σ := by
  obtain ⟨g1, g2, g3, g4⟩ := g
  have ea : enX (.fin a) = pr a.num a.den := rfl
  have eb : enX (.fin b) = pr b.num b.den := rfl
  have A1 : a.num.natAbs < 64 := sa.1
  have A2 : a.den < 64 := sa.2
  have B1 : b.num.natAbs < 64 := sb.1
  have B2 : b.den < 64 := sb.2
  have sm : ∀ x y : Int, x.natAbs < 64 → mulOk x y := fun x y h => .inl (by omega)
  have U : ((a.den : Int) * b.den).natAbs < 4096 := by
    rw [Int.natAbs_mul]
    exact Nat.lt_of_lt_of_le (Nat.mul_lt_mul'' (show (a.den : Int).natAbs < 64 from A2) (show (b.den : Int).natAbs < 64 from B2)) (by decide)
  have F : (a.num * b.den - b.num * a.den).natAbs < 8192 := by
    have h1 : (a.num * b.den).natAbs < 4096 := by
      rw [Int.natAbs_mul]; exact Nat.lt_of_lt_of_le (Nat.mul_lt_mul'' A1 (show (b.den : Int).natAbs < 64 from B2)) (by decide)
    have h2 : (b.num * a.den).natAbs < 4096 := by
      rw [Int.natAbs_mul]; exact Nat.lt_of_lt_of_le (Nat.mul_lt_mul'' B1 (show (a.den : Int).natAbs < 64 from A2)) (by decide)
    omega
  have mU : ∀ x : Int, mulOk x ((a.den : Int) * b.den) := fun x => .inr (.inl (by omega))
  have FF : ((a.num * b.den - b.num * a.den) * (a.num * b.den - b.num * a.den)).natAbs < 67108864 := by
    rw [Int.natAbs_mul]; exact Nat.lt_of_lt_of_le (Nat.mul_lt_mul'' F F) (by decide)
  have pos : (0 : Int) < p.den * (a.den * b.den) * (a.den * b.den) := by
    have p1 : (0 : Int) < p.den := by have := p.den_pos; omega
    have p2 : (0 : Int) < a.den := by have := a.den_pos; omega
    have p3 : (0 : Int) < b.den := by have := b.den_pos; omega
    exact Int.mul_pos (Int.mul_pos p1 (Int.mul_pos p2 p3)) (Int.mul_pos p2 p3)
  have big : ((p.den : Int) * (a.den * b.den) * (a.den * b.den)).natAbs < bigB := by
    rw [Int.natAbs_mul, Int.natAbs_mul]
    have u : ((a.den : Int) * b.den).natAbs < 2 ^ 12 := U
    have d : (p.den : Int).natAbs < 2 ^ c := sp.2
    exact lt_big (pow_mul (pow_mul d u) u) (by omega)
  have i1 : ∀ (K : AV → Prop), K (enX (.fin a)) → idxA (.list (l.map enX)) (.int (i : Int)) K := fun K z => idx_l hi i64 z
  have i2 : ∀ (K : AV → Prop), K (enX (.fin b)) → idxA (.list (l.map enX)) (.int (j : Int)) K := fun K z => idx_l hj j64 z
  simp only [m_pair, m_asg, m_un2, mwps, v_name, v_glob, v_fnv, v_cint, v_cstr, v_cbool, v_cnone, v_tup, v_lst, v_lstM, v_bin, v_neg, v_cmp, v_not, v_and, v_or, v_ife, v_idx, v_upto, v_uptoM, v_from, v_rev, v_kind, v_items, v_call, v_callV, v_vector, v_len, v_abs, v_listOf, v_pop, v_comp, v_compIf, v_compR, v_freeze, mevs, upd, Nat.reduceEqDiff, if_false, if_true, g1, g3, g4, e51, e52]
  refine i1 _ ?_
  rw [ea, i_pr0]
  refine i2 _ ?_
  rw [eb, i_pr1, b_muli]
  refine ⟨sm _ _ A1, i2 _ ?_⟩
  rw [eb, i_pr0]
  refine i1 _ ?_
  rw [ea, i_pr1, b_muli]
  refine ⟨sm _ _ B1, ?_⟩
  rw [b_subi]
  refine i1 _ ?_
  rw [ea, i_pr1]
  refine i2 _ ?_
  rw [eb, i_pr1, b_muli]
  refine ⟨sm _ _ A2, ?_⟩
  rw [b_muli]
  refine ⟨mU _, ?_⟩
  rw [b_muli]
  refine ⟨mU _, ?_⟩
  rw [b_muli]
  refine ⟨.inl (by omega), ?_⟩
  rw [b_muli]
  refine ⟨.inl (by omega), ?_⟩
  rw [b_addi, b_muli]
  refine ⟨mU _, ?_⟩
  rw [b_muli]
  refine ⟨mU _, t_low ⟨_, _, rfl, pos, big, ?_⟩⟩
  rw [pair_val]
  exact q _ ⟨g1, g2, rfl, rfl⟩ rfl
theorem rangeL_nat (n : Nat) : rangeL (n : Int) = (List.range n).map fun i => AV.int ((i : Nat) : Int) := rfl
/-- the entries are small fractions -/
noncomputable def SmF (l : List X) : Prop := ∀ i x, l[i]? = some x → ∃ r, x = .fin r ∧ gq l i = r ∧ SzX 6 (.fin r)
theorem in_loop {K : Fl → Rho → Sto → Prop} {l : List X} {w : AV} (hl : SmF l) (l4 : l.length ≤ 4) {i : Nat} (hi : i < l.length) : ∀ (js : List Nat) (p : Rat) (c : Nat) (ρ : Rho), (∀ j ∈ js, j < l.length) → PInv l w p ρ → SzX c (.fin p) → c + 27 * js.length ≤ 1800 → ρ 51 = some (.int (i : Int)) →
    (∀ ρ', PInv l w (inP l i js p) ρ' → SzX (c + 27 * js.length) (.fin (inP l i js p)) → K .next ρ' σ) → forL 52 (lp (Tk 36) m_pair) (js.map fun j => AV.int ((j : Nat) : Int)) K ρ σ
  | [], p, c, ρ, _, g, sp, _, _, q => q ρ g sp
  | j :: js, p, c, ρ, hj, g, sp, hc, e, q => by
    rw [List.length_cons, Nat.mul_add, Nat.mul_one] at hc
    have jl := hj j (.head _)
    obtain ⟨a, ea, ga, sa⟩ := hl i _ (List.getElem?_eq_getElem hi)
    obtain ⟨b, eb, gb, sb⟩ := hl j _ (List.getElem?_eq_getElem jl)
    have go : ∀ ρ' : Rho, PInv l w (p + (a - b) * (a - b)) ρ' → ρ' 51 = some (.int (i : Int)) → fK 52 (lp (Tk 36) m_pair) (js.map fun j => AV.int ((j : Nat) : Int)) K .next ρ' σ := fun ρ' g' e' =>
      in_loop hl l4 hi js _ (c + 27) ρ' (fun u hu => hj u (.tail _ hu)) g' (sz_step sp sa sb) (by omega) e' fun ρ'' g'' s'' => by
        have : inP l i (j :: js) p = inP l i js (p + (a - b) * (a - b)) := by
          rw [← ga, ← gb]; rfl
        refine q ρ'' (by rw [this]; exact g'') ?_
        rw [this]
        exact szx_mono (by rw [List.length_cons, Nat.mul_add, Nat.mul_one]; omega) s''
    refine for_cons ?_
    generalize fK 52 (lp (Tk 36) m_pair) (js.map fun j => AV.int ((j : Nat) : Int)) K = C at go ⊢
    exact pair_step (i := i) (j := j) (c := c) (ρ := upd ρ 52 (.int (j : Int))) g (by rw [List.getElem?_eq_getElem hi, ea]) (by rw [List.getElem?_eq_getElem jl, eb]) (by omega) (by omega) sa sb sp (by omega) e rfl fun ρ' g' e' => go ρ' g' (by rw [e']; exact e)
noncomputable def m_late : MSs := .cons (.forR 52 (.name 51) m_pair) .nil
theorem out_loop {K : Fl → Rho → Sto → Prop} {l : List X} {w : AV} (hl : SmF l) (l4 : l.length ≤ 4) : ∀ (is : List Nat) (p : Rat) (c : Nat) (ρ : Rho), (∀ i ∈ is, i < l.length) → PInv l w p ρ → SzX c (.fin p) → c + 108 * is.length ≤ 1800 →
    (∀ ρ', PInv l w (outP l is p) ρ' → SzX (c + 108 * is.length) (.fin (outP l is p)) → K .next ρ' σ) → forL 51 (lp (Tk 36) m_late) (is.map fun i => AV.int ((i : Nat) : Int)) K ρ σ
  | [], p, c, ρ, _, g, sp, _, q => q ρ g sp
  | i :: is, p, c, ρ, hi, g, sp, hc, q => by
    rw [List.length_cons, Nat.mul_add, Nat.mul_one] at hc
    have il := hi i (.head _)
    have go : ∀ ρ' : Rho, PInv l w (inP l i (List.range i) p) ρ' → SzX (c + 108) (.fin (inP l i (List.range i) p)) → fK 51 (lp (Tk 36) m_late) (is.map fun i => AV.int ((i : Nat) : Int)) K .next ρ' σ := fun ρ' g' s' =>
      out_loop hl l4 is _ (c + 108) ρ' (fun u hu => hi u (.tail _ hu)) g' s' (by omega) fun ρ'' g'' s'' => q ρ'' g'' (szx_mono (by rw [List.length_cons, Nat.mul_add, Nat.mul_one]; omega) s'')
    refine for_cons ?_
    generalize fK 51 (lp (Tk 36) m_late) (is.map fun i => AV.int ((i : Nat) : Int)) K = C at go ⊢
    simp only [m_late, m_forR, mwps, v_name, v_glob, v_fnv, v_cint, v_cstr, v_cbool, v_cnone, v_tup, v_lst, v_lstM, v_bin, v_neg, v_cmp, v_not, v_and, v_or, v_ife, v_idx, v_upto, v_uptoM, v_from, v_rev, v_kind, v_items, v_call, v_callV, v_vector, v_len, v_abs, v_listOf, v_pop, v_comp, v_compIf, v_compR, v_freeze, upd_same]
    refine ⟨by omega, by omega, ?_⟩
    rw [rangeL_nat]
    refine in_loop hl l4 il (List.range i) p c _ (fun j hj => by have := List.mem_range.mp hj; omega) g sp (by rw [List.length_range]; omega) rfl fun ρ' g' s' => go ρ' g' (szx_mono (by rw [List.length_range]; omega) s')

theorem sz_var {l : List X} (h : ∀ x ∈ l, SzX 6 x) (h4 : l.length ≤ 4) : SzX 400 (varX l) := by
  have hm : SzX 32 (meanX l) := by
    unfold meanX
    split
    · exact trivial
    · rename_i hne
      have : l.length ≠ 0 := fun z => hne (List.length_eq_zero_iff.mp z)
      exact szx_mono (by omega) (sz_div (sz_fold l 1 _ h sz0) (by omega) (by omega))
  by_cases h2 : l.length < 2
  · unfold varX; rw [if_pos h2]; exact trivial
  · rw [var_eq h2]
    have hs : ∀ y ∈ l.map (sqX (meanX l)), SzX 78 y := fun y hy => by
      obtain ⟨x, hx, rfl⟩ := List.mem_map.mp hy
      have hn : SzX 32 (negX (meanX l)) := by
        cases hz : meanX l with
        | fin r => rw [hz] at hm; exact ⟨by rw [Rat.neg_num, Int.natAbs_neg]; exact hm.1, by rw [Rat.neg_den]; exact hm.2⟩
        | _ => exact trivial
      have hg : SzX 39 (gapX (meanX l) x) := sz_add (h x hx) hn
      exact sz_mul hg hg
    have := sz_fold _ 1 _ hs sz0
    rw [List.length_map] at this
    exact szx_mono (by omega) (sz_div this (by omega) (by omega))
theorem any_na : ∀ l : List X, (l.map enX).any (fun d => eqb d .none) = true ↔ .na ∈ l
  | [] => ⟨fun h => (by cases h), fun h => (by cases h)⟩
  | x :: l => by
    rw [List.map_cons, List.any_cons, Bool.or_eq_true, any_na l, List.mem_cons]
    refine or_congr ?_ Iff.rfl
    cases x with
    | na => exact ⟨fun _ => rfl, fun _ => rfl⟩
    | _ => exact ⟨fun h => (by cases h), fun h => (by cases h)⟩
theorem c_naIn {l : List X} {K : Bool → Prop} (q : K ((l.map enX).any fun d => eqb d .none)) : cmpA σ .isIn .none (.list (l.map enX)) K := by
  refine ⟨?_, rfl, q⟩
  rw [List.all_map, List.all_eq_true]
  exact fun x _ => okX 5 x
theorem c_eq00 {x : X} {K : Bool → Prop} (h : x = .nan) (q : K true) : cmpA σ .eq (enX x) (.tup [.int 0, .int 0]) K := by
  subst h; exact ⟨rfl, rfl, q⟩
theorem c_neself {x : X} {K : Bool → Prop} (q : K false) : cmpA σ .ne (enX x) (enX x) K := by
  have d : ∀ x : X, deref σ (enX x) = some (enX x) := fun x => by cases x <;> rfl
  unfold cmpA
  simp only [d]
  refine ⟨okX 5 x, okX 5 x, ?_⟩
  rw [eqb_self]; exact q
theorem c_eqnil {l : List X} {K : Bool → Prop} (q : K l.isEmpty) : cmpA σ .eq (.list (l.map enX)) (.list []) K := by
  refine ⟨okXs 4 l, rfl, ?_⟩
  cases l <;> exact q
end
end Mine
/-! Wk16 -/
namespace Mine
section
variable {k : Nat} {ds : List AV} {Q : AV → Sto → Prop} {σ : Sto}
noncomputable def m_sp8 : MSs := (.cons (.assign 31 (.cint 0)) (.cons (.assign 32 (.cint 1)) (.cons (.forR 51 (.len (.name 49)) m_late) (.cons (.ret (.cmp .eq (.bin .mul (.bin .mul (.bin .mul (.idx (.name 50) (.cint 0)) (.len (.name 49))) (.bin .sub (.len (.name 49)) (.cint 1))) (.name 32)) (.bin .mul (.name 31) (.idx (.name 50) (.cint 1))))) .nil))))
noncomputable def m_sp5 : MSs := (.cons (.assign 50 (.call 27 (.cons (.name 14) .nil))) (.cons (.ite (.or (.cons (.cmp .lt (.len (.name 49)) (.cint 2)) (.cons (.cmp .isIn .cnone (.name 49)) .nil))) (.cons (.ret (.cmp .isNone (.name 50) .cnone)) .nil) .nil) (.cons (.ite (.cmp .gt (.len (.compIf 37 [] (.name 49) (.cmp .eq (.idx (.name 37) (.cint 1)) (.cint 0)) (.name 37))) (.cint 0)) (.cons (.ret (.cmp .eq (.name 50) (.tup (.cons (.cint 0) (.cons (.cint 0) .nil))))) .nil) .nil) m_sp8)))
noncomputable def m_sp4 : MSs := (.cons (.ite (.or (.cons (.cmp .isNone (.name 17) .cnone) (.cons (.cmp .eq (.idx (.name 17) (.cint 1)) (.cint 0)) .nil))) (.cons (.ite (.cmp .ne (.name 23) (.name 17)) (.cons (.ret (.cbool false)) .nil) .nil) .nil) (.cons (.ite (.cmp .ne (.bin .mul (.bin .mul (.idx (.name 23) (.cint 0)) (.len (.name 49))) (.idx (.name 17) (.cint 1))) (.bin .mul (.idx (.name 17) (.cint 0)) (.idx (.name 23) (.cint 1)))) (.cons (.ret (.cbool false)) .nil) .nil) .nil)) m_sp5)
noncomputable def m_sp3 : MSs := (.cons (.ite (.cmp .eq (.name 49) (.lst .nil)) (.cons (.ret (.and (.cons (.cmp .eq (.name 23) (.tup (.cons (.cint 0) (.cons (.cint 0) .nil)))) (.cons (.cmp .isNone (.call 27 (.cons (.name 14) .nil)) .cnone) .nil)))) .nil) .nil) m_sp4)
noncomputable def m_sp0 : MSs := (.cons (.assign 49 (.call 32 (.cons (.name 14) .nil))) (.cons (.assign 17 (.idx (.call 32 (.cons (.call 16 (.cons (.lst (.cons (.name 14) .nil)) (.cons (.cbool false) (.cons (.lst .nil) .nil)))) .nil)) (.cint 0))) (.cons (.assign 23 (.call 26 (.cons (.name 14) .nil))) m_sp3)))
theorem sp_eq : b_law_spread_holds = m_sp0 := rfl
theorem len_l {l : List X} : itemsOf σ (.list (l.map enX)) = some (l.map enX) := rfl
theorem w_sp8 {l : List X} (hx : ∀ x ∈ l, SzX 6 x) (l4 : l.length ≤ 4) (h2 : ¬ l.length < 2) (hd : ∀ x ∈ l, de x ≠ 0) {ρ : Rho} (e49 : ρ 49 = some (.list (l.map enX))) (e50 : ρ 50 = some (enX (varX l))) (q : Q (.bool true) σ) :
    mwps (Tk 36) m_sp8 (fun fl _ σ' => Fin σ Q fl σ') ρ σ := by
  obtain ⟨w, ew, kw⟩ := var_fin hd h2 l4
  have sv := sz_var hx l4
  rw [ew] at sv e50
  have hL : (l.map enX).length < lenB := by rw [List.length_map]; unfold lenB; omega
  have sm : SmF l := fun i x hi => by
    have hm := List.mem_of_getElem? hi
    cases x with
    | fin r => exact ⟨r, rfl, by unfold gq; rw [hi], hx _ hm⟩
    | _ => exact absurd rfl (hd _ hm)
  simp only [m_sp8, m_asg, m_forR, m_ret, mwps, v_name, v_glob, v_fnv, v_cint, v_cstr, v_cbool, v_cnone, v_tup, v_lst, v_lstM, v_bin, v_neg, v_cmp, v_not, v_and, v_or, v_ife, v_idx, v_upto, v_uptoM, v_from, v_rev, v_kind, v_items, v_call, v_callV, v_vector, v_len, v_abs, v_listOf, v_pop, v_comp, v_compIf, v_compR, v_freeze, upd, Nat.reduceEqDiff, if_false, if_true, e49, len_l]
  refine ⟨hL, by rw [List.length_map]; omega, by rw [List.length_map]; omega, ?_⟩
  rw [List.length_map, rangeL_nat]
  refine out_loop (w := enX (.fin w)) sm l4 (List.range l.length) 0 1 _ (fun i hi => List.mem_range.mp hi) ⟨e49, e50, rfl, rfl⟩ sz0 (by rw [List.length_range]; omega) fun ρ' g' s' => ?_
  obtain ⟨g1, g2, g3, g4⟩ := g'
  rw [← kw] at g3 g4 s'
  have ew' : enX (.fin w) = pr w.num w.den := rfl
  simp only [g1, g2, g3, g4, ew', i_pr0, i_pr1, len_l, b_muli, b_subi]
  have key : w.num * (l.length : Int) * (l.length - 1 : Int) * (w * (l.length : Int) * (l.length - 1 : Int)).den = (w * (l.length : Int) * (l.length - 1 : Int)).num * w.den := by
    have := cross (w := w) (p := w * (l.length : Int) * (l.length - 1 : Int)) (m := (l.length : Int) * (l.length - 1 : Int)) (by rw [Rat.intCast_mul, Rat.mul_assoc])
    rw [← Int.mul_assoc] at this
    exact this
  have s1 : (w * (l.length : Int) * (l.length - 1 : Int)).num.natAbs < 2 ^ 600 := (szx_mono (C := 600) (by rw [List.length_range]; omega) s').1
  have s2 : (w * (l.length : Int) * (l.length - 1 : Int)).den < 2 ^ 600 := (szx_mono (C := 600) (by rw [List.length_range]; omega) s').2
  generalize (w * (l.length : Int) * (l.length - 1 : Int)) = p at key s1 s2 ⊢
  have n1 : (l.length : Int).natAbs < 2 ^ 3 := by show _ < 8; omega
  have n2 : (l.length - 1 : Int).natAbs < 2 ^ 3 := by show _ < 8; omega
  have m1 : (w.num * (l.length : Int)).natAbs < 2 ^ 403 := by rw [Int.natAbs_mul]; exact pow_mul sv.1 n1
  have m2 : (w.num * (l.length : Int) * (l.length - 1 : Int)).natAbs < 2 ^ 406 := by rw [Int.natAbs_mul]; exact pow_mul m1 n2
  refine ⟨hL, ?_⟩
  rw [List.length_map]
  refine ⟨mul_ok sv.1 n1 (by decide) (by decide), by rw [List.length_map] at hL; exact hL, ?_⟩
  refine ⟨mul_ok m1 n2 (by decide) (by decide), mul_ok m2 (show (p.den : Int).natAbs < 2 ^ 600 from s2) (by decide) (by decide), mul_ok s1 (show (w.den : Int).natAbs < 2 ^ 400 from sv.2) (by decide) (by decide), ?_⟩
  rw [c_eqi, decide_eq_true key]
  exact fin0 rfl q
theorem w_sp5 {v : Vc} (hv : NumV 6 v) (h4 : v.2.length ≤ 4) {ρ : Rho} (e14 : ρ 14 = some (enV v)) (e49 : ρ 49 = some (.list ((v.2.map toX).map enX))) (q : Q (.bool true) σ) : mwps (Tk 36) m_sp5 (fun fl _ σ' => Fin σ Q fl σ') ρ σ := by
  have hx := xs6 hv
  have l4 : (v.2.map toX).length ≤ 4 := by rw [List.length_map]; exact h4
  unfold m_sp5
  rw [mwps, m_asg]
  simp only [v_name, v_glob, v_fnv, v_cint, v_cstr, v_cbool, v_cnone, v_tup, v_lst, v_lstM, v_bin, v_neg, v_cmp, v_not, v_and, v_or, v_ife, v_idx, v_upto, v_uptoM, v_from, v_rev, v_kind, v_items, v_call, v_callV, v_vector, v_len, v_abs, v_listOf, v_pop, v_comp, v_compIf, v_compR, v_freeze, mevs, e14]
  refine t_var ⟨v, rfl, hv, h4, ?_⟩
  generalize v.2.map toX = l at hx l4 e49 ⊢
  have hL : (l.map enX).length < lenB := by rw [List.length_map]; unfold lenB; omega
  rw [mwps, m_ite]
  simp only [v_name, v_glob, v_fnv, v_cint, v_cstr, v_cbool, v_cnone, v_tup, v_lst, v_lstM, v_bin, v_neg, v_cmp, v_not, v_and, v_or, v_ife, v_idx, v_upto, v_uptoM, v_from, v_rev, v_kind, v_items, v_call, v_callV, v_vector, v_len, v_abs, v_listOf, v_pop, v_comp, v_compIf, v_compR, v_freeze, mevs, mor, upd, Nat.reduceEqDiff, if_false, if_true, e49, len_l]
  refine ⟨hL, ?_⟩
  rw [List.length_map, c_lti, t_bool, onB_some]
  by_cases h2 : l.length < 2
  · rw [if_pos (decide_eq_true (by omega)), onB_some, if_pos (decide_eq_true (by omega)), mwps, m_ret]
    simp only [v_name, v_glob, v_fnv, v_cint, v_cstr, v_cbool, v_cnone, v_tup, v_lst, v_lstM, v_bin, v_neg, v_cmp, v_not, v_and, v_or, v_ife, v_idx, v_upto, v_uptoM, v_from, v_rev, v_kind, v_items, v_call, v_callV, v_vector, v_len, v_abs, v_listOf, v_pop, v_comp, v_compIf, v_compR, v_freeze, upd, Nat.reduceEqDiff, if_false, if_true, c_isN]
    have : varX l = .na := by unfold varX; rw [if_pos h2]
    rw [this]; exact fin0 rfl q
  · rw [if_neg (by rw [decide_eq_false (by omega)]; decide)]
    refine c_naIn ?_
    rw [t_bool, onB_some]
    by_cases hn : X.na ∈ l
    · rw [if_pos ((any_na l).mpr hn), mwps, m_ret]
      simp only [v_name, v_glob, v_fnv, v_cint, v_cstr, v_cbool, v_cnone, v_tup, v_lst, v_lstM, v_bin, v_neg, v_cmp, v_not, v_and, v_or, v_ife, v_idx, v_upto, v_uptoM, v_from, v_rev, v_kind, v_items, v_call, v_callV, v_vector, v_len, v_abs, v_listOf, v_pop, v_comp, v_compIf, v_compR, v_freeze, upd, Nat.reduceEqDiff, if_false, if_true, c_isN]
      rw [var_na h2 hn]; exact fin0 rfl q
    · rw [if_neg (fun z => hn ((any_na l).mp z)), mwps]
      dsimp only
      rw [mwps, m_ite]
      simp only [v_name, v_glob, v_fnv, v_cint, v_cstr, v_cbool, v_cnone, v_tup, v_lst, v_lstM, v_bin, v_neg, v_cmp, v_not, v_and, v_or, v_ife, v_idx, v_upto, v_uptoM, v_from, v_rev, v_kind, v_items, v_call, v_callV, v_vector, v_len, v_abs, v_listOf, v_pop, v_comp, v_compIf, v_compR, v_freeze, upd, Nat.reduceEqDiff, if_false, if_true, e49]
      refine filt (p := fun x => decide (de x = 0)) l [] (by simp only [List.length_nil]; omega) (fun x hx' C c => ?_) ?_
      · have nx : x ≠ .na := fun e => hn (e ▸ hx')
        show idxA (enX x) (.int 1) fun z => cmpA σ .eq z (.int 0) _
        rw [enX_pr nx, i_pr1, c_eqi]
        show (if decide (de x = 0) = true then C (some (pr (nu x) (de x))) σ else C none σ)
        rw [← enX_pr nx]
        cases hh : decide (de x = 0) with
        | true => rw [hh] at c; exact c
        | false => rw [hh] at c; exact c
      · rw [List.nil_append]
        have hf : (l.filter fun x => decide (de x = 0)).length ≤ l.length := List.length_filter_le _ _
        simp only [len_l]
        refine ⟨by rw [List.length_map]; unfold lenB; omega, ?_⟩
        rw [List.length_map, c_gti, t_bool, onB_some]
        by_cases hd : ∃ x ∈ l, de x = 0
        · obtain ⟨x, hx', dx⟩ := hd
          have : x ∈ l.filter fun x => decide (de x = 0) := List.mem_filter.mpr ⟨hx', decide_eq_true dx⟩
          have := List.length_pos_of_mem this
          rw [if_pos (decide_eq_true (by omega)), mwps, m_ret]
          simp only [v_name, v_glob, v_fnv, v_cint, v_cstr, v_cbool, v_cnone, v_tup, v_lst, v_lstM, v_bin, v_neg, v_cmp, v_not, v_and, v_or, v_ife, v_idx, v_upto, v_uptoM, v_from, v_rev, v_kind, v_items, v_call, v_callV, v_vector, v_len, v_abs, v_listOf, v_pop, v_comp, v_compIf, v_compR, v_freeze, mevs, upd, Nat.reduceEqDiff, if_false, if_true]
          exact c_eq00 (var_nan h2 hn ⟨x, hx', dx⟩) (fin0 rfl q)
        · have : (l.filter fun x => decide (de x = 0)) = [] := List.filter_eq_nil_iff.mpr fun x hx' => by
            rw [decide_eq_true_eq]; exact fun z => hd ⟨x, hx', z⟩
          rw [this, if_neg (by decide), mwps]
          exact w_sp8 hx l4 h2 (fun x hx' z => hd ⟨x, hx', z⟩) e49 rfl q
end
end Mine
/-! Wk17 -/
namespace Mine
section
variable {k : Nat} {ds : List AV} {Q : AV → Sto → Prop} {σ : Sto}
theorem isN_enX {x : X} (h : x ≠ .na) : isN (enX x) = false := by cases x <;> first | rfl | exact absurd rfl h
theorem w_sp4 {v : Vc} (hv : NumV 6 v) (h4 : v.2.length ≤ 4) (hne : v.2.map toX ≠ []) {ρ : Rho} (e14 : ρ 14 = some (enV v)) (e49 : ρ 49 = some (.list ((v.2.map toX).map enX))) (e17 : ρ 17 = some (enX (sumX (v.2.map toX)))) (e23 : ρ 23 = some (enX (meanX (v.2.map toX)))) (q : Q (.bool true) σ) :
    mwps (Tk 36) m_sp4 (fun fl _ σ' => Fin σ Q fl σ') ρ σ := by
  have go := w_sp5 hv h4 e14 e49 q
  have hx := xs6 hv
  have l4 : (v.2.map toX).length ≤ 4 := by rw [List.length_map]; exact h4
  generalize v.2.map toX = l at hx l4 hne e49 e17 e23
  have hlen : l.length ≠ 0 := fun z => hne (List.length_eq_zero_iff.mp z)
  have mm : meanX l = divX (sumX l) l.length := if_neg hne
  have ss := sz_fold l 1 (.fin 0) hx sz0
  have ss' : SzX 29 (sumX l) := szx_mono (by omega) ss
  have hL : (l.map enX).length < lenB := by rw [List.length_map]; unfold lenB; omega
  unfold m_sp4
  generalize m_sp5 = N at go ⊢
  rw [mwps, m_ite]
  simp only [v_name, v_glob, v_fnv, v_cint, v_cstr, v_cbool, v_cnone, v_tup, v_lst, v_lstM, v_bin, v_neg, v_cmp, v_not, v_and, v_or, v_ife, v_idx, v_upto, v_uptoM, v_from, v_rev, v_kind, v_items, v_call, v_callV, v_vector, v_len, v_abs, v_listOf, v_pop, v_comp, v_compIf, v_compR, v_freeze, mevs, mor, upd, Nat.reduceEqDiff, if_false, if_true, e49, e17, len_l, c_isN, t_bool, onB_some]
  have same : divX (sumX l) l.length = sumX l → ∀ K : Bool → Prop, K false → cmpA σ .ne (enX (meanX l)) (enX (sumX l)) K := fun e K z => by
    rw [mm, e]; exact c_neself z
  have br1 : divX (sumX l) l.length = sumX l → mwps (Tk 36) (.cons (.ite (.cmp .ne (.name 23) (.name 17)) (.cons (.ret (.cbool false)) .nil) .nil) .nil) (fun fl ρ' σ' => match fl with
      | .next => mwps (Tk 36) N (fun fl _ σ' => Fin σ Q fl σ') ρ' σ'
      | .brk => Fin σ Q .brk σ'
      | .ret v => Fin σ Q (.ret v) σ') ρ σ := fun e => by
    rw [mwps, m_ite]
    simp only [v_name, v_glob, v_fnv, v_cint, v_cstr, v_cbool, v_cnone, v_tup, v_lst, v_lstM, v_bin, v_neg, v_cmp, v_not, v_and, v_or, v_ife, v_idx, v_upto, v_uptoM, v_from, v_rev, v_kind, v_items, v_call, v_callV, v_vector, v_len, v_abs, v_listOf, v_pop, v_comp, v_compIf, v_compR, v_freeze, e23, e17]
    refine same e _ ?_
    rw [t_bool, onB_some, if_neg (by decide), mwps]
    exact go
  by_cases hna : sumX l = .na
  · rw [hna, if_pos (show isN (enX .na) = true from rfl)]
    exact br1 (by rw [hna]; rfl)
  · rw [isN_enX hna, if_neg (by decide), enX_pr hna, i_pr1, c_eqi]
    rcases de0 (x := sumX l) with z | ⟨s, z⟩
    · rw [if_pos (decide_eq_true z)]
      refine br1 ?_
      cases hs : sumX l with
      | fin r => rw [hs] at z; exact absurd z (den_ne r)
      | _ => rfl
    · have zd : ¬ de (sumX l) = 0 := by rw [z]; exact den_ne s
      rw [if_neg (by rw [decide_eq_false zd]; decide), mwps, m_ite]
      rw [z] at e17 ss' mm
      have em : meanX l = .fin (s / (l.length : Int)) := mm
      have sm : SzX 32 (.fin (s / (l.length : Int))) := by
        have := sz_div ss' (n := (l.length : Int)) (by omega) (by omega)
        exact this
      have nz : ((l.length : Int) : Rat) ≠ 0 := fun e => by have : (l.length : Int) = 0 := Rat.intCast_inj.mp e; omega
      have key := cross (w := s / (l.length : Int)) (p := s) (m := l.length) (by grind)
      rw [em] at e23
      generalize (s / ((l.length : Int) : Rat)) = w at key sm e23
      have ew : enX (.fin w) = pr w.num w.den := rfl
      have es : enX (.fin s) = pr s.num s.den := rfl
      simp only [v_name, v_glob, v_fnv, v_cint, v_cstr, v_cbool, v_cnone, v_tup, v_lst, v_lstM, v_bin, v_neg, v_cmp, v_not, v_and, v_or, v_ife, v_idx, v_upto, v_uptoM, v_from, v_rev, v_kind, v_items, v_call, v_callV, v_vector, v_len, v_abs, v_listOf, v_pop, v_comp, v_compIf, v_compR, v_freeze, e23, e17, e49, ew, es, i_pr0, i_pr1, len_l, b_muli]
      refine ⟨hL, ?_⟩
      rw [List.length_map]
      have n1 : (l.length : Int).natAbs < 2 ^ 3 := by show _ < 8; omega
      have m1 : (w.num * (l.length : Int)).natAbs < 2 ^ 35 := by rw [Int.natAbs_mul]; exact pow_mul sm.1 n1
      refine ⟨mul_ok sm.1 n1 (by decide) (by decide), mul_ok m1 (show (s.den : Int).natAbs < 2 ^ 29 from ss'.2) (by decide) (by decide), mul_ok ss'.1 (show (w.den : Int).natAbs < 2 ^ 32 from sm.2) (by decide) (by decide), ?_⟩
      rw [c_nei, decide_eq_true key, t_bool, onB_some, if_neg (by decide), mwps]
      exact go
theorem w_spread (h : S_spread ds Q σ) : mwps (Tk 36) b_law_spread_holds (fun fl _ σ' => Fin σ Q fl σ') (bindR p_law_spread_holds ds rho0) σ := by
  obtain ⟨v, rfl, hv, h4, q⟩ := h
  have wt : ∀ it ∈ v.2, Wt v.1 it := fun it m => (hv.2 it m).1
  have nvs : NumVs 6 [v] := ⟨fun u hu => by rcases List.mem_singleton.mp hu with rfl; exact hv, Nat.le_of_ble_eq_true rfl, by show v.2.length + 0 ≤ 16; omega⟩
  obtain ⟨it, e1, e2⟩ := tb_val (f := 16) (skip := false) 6 nvs
  have tw := tb_wt 16 false [v]
  have ex : xs false [v] = v.2.map toX := by
    show (v.2.filter (keep false)).map toX ++ [] = _
    rw [filter_false, List.append_nil]
  have e2' : toX it = sumX (v.2.map toX) := by rw [e2, ex]; rfl
  rw [sp_eq]
  unfold m_sp0
  rw [mwps, m_asg]
  simp only [v_name, v_glob, v_fnv, v_cint, v_cstr, v_cbool, v_cnone, v_tup, v_lst, v_lstM, v_bin, v_neg, v_cmp, v_not, v_and, v_or, v_ife, v_idx, v_upto, v_uptoM, v_from, v_rev, v_kind, v_items, v_call, v_callV, v_vector, v_len, v_abs, v_listOf, v_pop, v_comp, v_compIf, v_compR, v_freeze, mevs, p_law_spread_holds, bindR, upd, Nat.reduceEqDiff, if_false, if_true]
  refine t_pairs ⟨v, rfl, hv.1, wt, by omega, ?_⟩
  dsimp only
  rw [mwps, m_asg]
  simp only [v_name, v_glob, v_fnv, v_cint, v_cstr, v_cbool, v_cnone, v_tup, v_lst, v_lstM, v_bin, v_neg, v_cmp, v_not, v_and, v_or, v_ife, v_idx, v_upto, v_uptoM, v_from, v_rev, v_kind, v_items, v_call, v_callV, v_vector, v_len, v_abs, v_listOf, v_pop, v_comp, v_compIf, v_compR, v_freeze, mevs, upd, Nat.reduceEqDiff, if_false, if_true]
  refine t_sum ⟨[v], false, _, 6, rfl, nvs, by decide, by show (6 + 1) * (v.2.length + 0) + 1 ≤ 1900; omega, ?_⟩
  refine t_pairs ⟨tb 16 false [v], rfl, tw.1, tw.2, one_item e1, ?_⟩
  rw [e1]
  refine idx_l (l := [toX it]) (i := 0) rfl (by decide) ?_
  rw [e2', mwps, m_asg]
  simp only [v_name, v_glob, v_fnv, v_cint, v_cstr, v_cbool, v_cnone, v_tup, v_lst, v_lstM, v_bin, v_neg, v_cmp, v_not, v_and, v_or, v_ife, v_idx, v_upto, v_uptoM, v_from, v_rev, v_kind, v_items, v_call, v_callV, v_vector, v_len, v_abs, v_listOf, v_pop, v_comp, v_compIf, v_compR, v_freeze, mevs, upd, Nat.reduceEqDiff, if_false, if_true]
  refine t_mean ⟨v, rfl, hv, h4, ?_⟩
  unfold m_sp3
  generalize hN : m_sp4 = N
  rw [mwps, m_ite]
  simp only [v_name, v_glob, v_fnv, v_cint, v_cstr, v_cbool, v_cnone, v_tup, v_lst, v_lstM, v_bin, v_neg, v_cmp, v_not, v_and, v_or, v_ife, v_idx, v_upto, v_uptoM, v_from, v_rev, v_kind, v_items, v_call, v_callV, v_vector, v_len, v_abs, v_listOf, v_pop, v_comp, v_compIf, v_compR, v_freeze, mevs, upd, Nat.reduceEqDiff, if_false, if_true]
  refine c_eqnil ?_
  rw [t_bool, onB_some]
  cases he : v.2.map toX with
  | nil =>
    rw [if_pos (by rfl), mwps, m_ret]
    simp only [v_name, v_glob, v_fnv, v_cint, v_cstr, v_cbool, v_cnone, v_tup, v_lst, v_lstM, v_bin, v_neg, v_cmp, v_not, v_and, v_or, v_ife, v_idx, v_upto, v_uptoM, v_from, v_rev, v_kind, v_items, v_call, v_callV, v_vector, v_len, v_abs, v_listOf, v_pop, v_comp, v_compIf, v_compR, v_freeze, mevs, mand, upd, Nat.reduceEqDiff, if_false, if_true]
    refine c_eq00 (by rfl) ?_
    rw [t_bool, onB_some, if_pos rfl]
    refine t_var ⟨v, rfl, hv, h4, ?_⟩
    rw [he]
    dsimp only
    rw [c_isN]
    exact fin0 rfl q
  | cons x l =>
    rw [if_neg (by simp), mwps, ← hN, ← he]
    exact w_sp4 hv h4 (by rw [he]; simp) rfl rfl rfl rfl q
end
end Mine
/-! Wk18 -/
namespace Mine
noncomputable def m_B1 : MSs := (.cons (.assign 35 (.idx (.lst (.cons (.cstr 10) (.cons (.cstr 8) (.cons (.cstr 7) .nil)))) (.call 29 (.cons (.name 26) (.cons (.cint 3) .nil))))) (.cons (.assign 57 (.call 29 (.cons (.name 26) (.cons (.cint 5) .nil)))) (.cons (.append 11 (.vector (.name 35) (.compR 59 [26, 35] (.name 57) (.call 31 (.cons (.name 26) (.cons (.name 35) .nil)))))) .nil)))
noncomputable def m_B2 : MSs := (.cons (.assignC 58 (.compR 59 [26] (.call 29 (.cons (.name 26) (.cons (.cint 4) .nil))) (.call 29 (.cons (.name 26) (.cons (.cint 6) .nil))))) (.cons (.append 56 (.vector (.cstr 6) (.comp 36 [] (.name 58) (.idx (.lst (.cons (.cstr 0) (.cons (.cstr 3) (.cons (.cstr 2) (.cons (.cstr 4) (.cons (.cstr 1) (.cons .cnone .nil))))))) (.name 36))))) .nil))
noncomputable def m_B3 : MSs := (.cons (.ite (.not (.call 36 (.cons (.name 14) .nil))) (.cons (.ret (.cbool false)) .nil) .nil) .nil)
noncomputable def m_end : MSs := (.cons (.ite (.not (.call 35 (.cons (.name 56) (.cons (.call 29 (.cons (.name 26) (.cons (.bin .add (.len (.name 56)) (.cint 1)) .nil))) (.cons (.name 15) .nil))))) (.cons (.ret (.cbool false)) .nil) .nil) (.cons (.ret (.cmp .eq (.comp 14 [] (.name 11) (.tup (.cons (.kind (.name 14)) (.cons (.listOf (.items (.name 14))) .nil)))) (.name 55))) .nil))
noncomputable def m_mid2 : MSs := (.cons (.assign 56 .lstM) (.cons (.forR 29 (.call 29 (.cons (.name 26) (.cons (.cint 4) .nil))) m_B2) (.gfreeze 56 m_end)))
noncomputable def m_mid1 : MSs := (.cons (.assign 39 (.call 29 (.cons (.name 26) (.cons (.bin .add (.len (.name 11)) (.cint 1)) .nil)))) (.cons (.assign 15 (.cmp .eq (.call 29 (.cons (.name 26) (.cons (.cint 2) .nil))) (.cint 1))) (.cons (.assignC 55 (.comp 14 [] (.name 11) (.tup (.cons (.kind (.name 14)) (.cons (.listOf (.items (.name 14))) .nil))))) (.cons (.ite (.or (.cons (.not (.call 34 (.cons (.name 11) (.cons (.name 39) (.cons (.name 15) .nil))))) (.cons (.not (.call 35 (.cons (.name 11) (.cons (.name 39) (.cons (.name 15) .nil))))) .nil))) (.cons (.ret (.cbool false)) .nil) .nil) (.cons (.for 14 (.name 11) m_B3) m_mid2)))))
noncomputable def m_top : MSs := (.cons (.assign 26 (.call 28 (.cons (.name 25) .nil))) (.cons (.assign 11 .lstM) (.cons (.forR 29 (.call 29 (.cons (.name 26) (.cons (.cint 5) .nil))) m_B1) (.gfreeze 11 m_mid1))))

theorem law_eq : b_law = m_top := rfl
/-- the store: the stock's first cell, the stock, the rest -/
noncomputable def T (l₀ st : List Int) (r : Sto) : Sto := some (l₀.map .int) :: some (st.map .int) :: r
noncomputable def K0 : Fl → Rho → Sto → Prop := fun fl _ σ' => Fin [] (fun d _ => d = .bool true) fl σ'
theorem finN (σ' : Sto) (ρ : Rho) : K0 (.ret (.bool true)) ρ σ' := ⟨_, 0, rfl, rfl, Nat.le_refl _, Nat.zero_le _, fun i ds h => absurd h (Nat.not_lt_zero _), rfl⟩
section
variable {l₀ : List Int} {Q : AV → Sto → Prop}
theorem take_T {st : List Int} {r : Sto} {c : Int} (hs : st.length ≤ 200) (hc : 0 < c) (q : ∀ st' : List Int, st'.length ≤ 200 → ∀ i : Int, 0 ≤ i → i < c → Q (.int i) (T l₀ st' r)) : Tk 37 29 [.ref 1, .int c] Q (T l₀ st r) :=
  t_take ⟨_, c, rfl, hc, 1, st, rfl, rfl, hs, fun l' hl' => q l' hl'⟩
theorem entry_T {st : List Int} {r : Sto} {k : Nat} (hs : st.length ≤ 200) (hk : numK k) (q : ∀ st' : List Int, st'.length ≤ 200 → ∀ it, Wt k it → SzX 6 (toX it) → SzI it → Q (en it) (T l₀ st' r)) : Tk 37 31 [.ref 1, .str k] Q (T l₀ st r) :=
  t_entry ⟨_, k, rfl, hk, 1, st, rfl, rfl, hs, fun l' hl' => q l' hl'⟩
/-- a comprehension that draws -/
theorem comp_T {α : Type} {f : α → AV} {P : α → Prop} {step : AV → (Option AV → Sto → Prop) → Sto → Prop} {r : Sto} {K : AV → Sto → Prop} (hstep : ∀ d C (st : List Int), st.length ≤ 200 → (∀ (st' : List Int) a, st'.length ≤ 200 → P a → C (some (f a)) (T l₀ st' r)) → step d C (T l₀ st r)) :
    ∀ (ds : List AV) (acc : List α) (st : List Int), st.length ≤ 200 → acc.length + ds.length ≤ 16 → (∀ a ∈ acc, P a) → (∀ (st' : List Int) (as : List α), st'.length ≤ 200 → as.length = acc.length + ds.length → (∀ a ∈ as, P a) → K (.list (as.map f)) (T l₀ st' r)) → compL step ds (acc.map f) K (T l₀ st r)
  | [], acc, st, hs, hl, hp, q => ⟨by rw [List.length_map]; unfold lenB; omega, q st acc hs rfl hp⟩
  | d :: ds, acc, st, hs, hl, hp, q => by
    rw [List.length_cons] at hl
    refine ⟨by rw [List.length_map]; unfold lenB; omega, hstep d _ st hs fun st' a hs' pa => ?_⟩
    have := comp_T hstep ds (acc ++ [a]) st' hs' (by rw [List.length_append, List.length_cons, List.length_nil]; omega) (fun b hb => by
      rcases List.mem_append.mp hb with z | z
      · exact hp b z
      · rcases List.mem_singleton.mp z with rfl; exact pa) fun st'' as h1 h2 h3 => q st'' as h1 (by rw [h2, List.length_append, List.length_cons, List.length_cons, List.length_nil]; omega) h3
    rw [List.map_append] at this
    exact this
/-- one of the vectors -/
noncomputable def GV (v : Vc) : Prop := NumV 6 v ∧ v.2.length ≤ 4
theorem vs_loop {K : Fl → Rho → Sto → Prop} : ∀ (ds : List AV) (vs : List Vc) (st : List Int) (ρ : Rho), st.length ≤ 200 → vs.length + ds.length ≤ 4 → (∀ v ∈ vs, GV v) → ρ 26 = some (.ref 1) → ρ 11 = some (.ref 2) →
    (∀ ρ' (vs' : List Vc) (st' : List Int), st'.length ≤ 200 → vs'.length ≤ 4 → (∀ v ∈ vs', GV v) → ρ' 26 = some (.ref 1) → ρ' 11 = some (.ref 2) → K .next ρ' (T l₀ st' [some (vs'.map enV)])) → forL 29 (lp (Tk 37) m_B1) ds K ρ (T l₀ st [some (vs.map enV)])
  | [], vs, st, ρ, hs, hl, hv, e1, e2, q => q ρ vs st hs (by simpa using hl) hv e1 e2
  | d :: ds, vs, st, ρ, hs, hl, hv, e1, e2, q => by
    rw [List.length_cons] at hl
    have go : ∀ (ρ' : Rho) (v : Vc) (st' : List Int), st'.length ≤ 200 → GV v → ρ' 26 = some (.ref 1) → ρ' 11 = some (.ref 2) → fK 29 (lp (Tk 37) m_B1) ds K .next ρ' (T l₀ st' [some (vs.map enV ++ [enV v])]) := fun ρ' v st' hs' gv a b => by
      have := vs_loop (K := K) ds (vs ++ [v]) st' ρ' hs' (by rw [List.length_append, List.length_cons, List.length_nil]; omega) (fun u hu => by
        rcases List.mem_append.mp hu with z | z
        · exact hv u z
        · rcases List.mem_singleton.mp z with rfl; exact gv) a b q
      rw [List.map_append] at this
      exact this
    refine for_cons ?_
    generalize fK 29 (lp (Tk 37) m_B1) ds K = C at go ⊢
    have hL : (vs.map enV).length < lenB := by rw [List.length_map]; unfold lenB; omega
    have body : ∀ (k : Nat) (st : List Int), st.length ≤ 200 → numK k → mwps (Tk 37) (.cons (.assign 57 (.call 29 (.cons (.name 26) (.cons (.cint 5) .nil)))) (.cons (.append 11 (.vector (.name 35) (.compR 59 [26, 35] (.name 57) (.call 31 (.cons (.name 26) (.cons (.name 35) .nil)))))) .nil)) C (upd (upd ρ 29 d) 35 (.str k)) (T l₀ st [some (vs.map enV)]) := fun k st hs hk => by
      simp only [m_asg, m_app, mwps, v_name, v_glob, v_fnv, v_cint, v_cstr, v_cbool, v_cnone, v_tup, v_lst, v_lstM, v_bin, v_neg, v_cmp, v_not, v_and, v_or, v_ife, v_idx, v_upto, v_uptoM, v_from, v_rev, v_kind, v_items, v_call, v_callV, v_vector, v_len, v_abs, v_listOf, v_pop, v_comp, v_compIf, v_compR, v_freeze, mevs, upd, restr, List.mem_cons, List.not_mem_nil, or_false, or_true, true_or, Nat.reduceEqDiff, if_false, if_true, e1, e2]
      refine take_T hs (by decide) fun st1 hs1 n n0 n5 => ?_
      dsimp only
      refine ⟨⟨_, rfl⟩, n0, by omega, ?_⟩
      have hn : (rangeL n).length ≤ 4 := by rw [range_len]; omega
      refine comp_T (f := en) (P := fun it => Wt k it ∧ SzX 6 (toX it) ∧ SzI it) (fun d C st hs z => ?_) (rangeL n) [] st1 hs1 (by rw [List.length_nil]; omega) (fun a h => (nomatch h)) fun st2 its hs2 hlen hits => ?_
      · exact entry_T hs hk fun st' hs' it a b c => z st' it hs' ⟨a, b, c⟩
      · refine ⟨_, rfl, hL, ?_⟩
        exact go _ (k, its) st2 hs2 ⟨⟨hk, hits⟩, by rw [List.length_nil] at hlen; show its.length ≤ 4; omega⟩ e1 e2
    unfold m_B1
    rw [mwps, m_asg]
    generalize (MSs.cons (.assign 57 (.call 29 (.cons (.name 26) (.cons (.cint 5) .nil)))) (.cons (.append 11 (.vector (.name 35) (.compR 59 [26, 35] (.name 57) (.call 31 (.cons (.name 26) (.cons (.name 35) .nil)))))) .nil)) = N at body ⊢
    have e1' : upd ρ 29 d 26 = some (.ref 1) := e1
    simp only [v_name, v_glob, v_fnv, v_cint, v_cstr, v_cbool, v_cnone, v_tup, v_lst, v_lstM, v_bin, v_neg, v_cmp, v_not, v_and, v_or, v_ife, v_idx, v_upto, v_uptoM, v_from, v_rev, v_kind, v_items, v_call, v_callV, v_vector, v_len, v_abs, v_listOf, v_pop, v_comp, v_compIf, v_compR, v_freeze, mevs, e1']
    refine take_T hs (by decide) fun st1 hs1 n n0 n3 => ?_
    rcases (show n = 0 ∨ n = 1 ∨ n = 2 by omega) with rfl | rfl | rfl
    · exact ⟨by decide, by decide, _, rfl, body 10 st1 hs1 (.inr (.inr rfl))⟩
    · exact ⟨by decide, by decide, _, rfl, body 8 st1 hs1 (.inr (.inl rfl))⟩
    · exact ⟨by decide, by decide, _, rfl, body 7 st1 hs1 (.inl rfl)⟩
/-- the words -/
noncomputable def wd (n : Int) : It := match n with
  | 0 => .s 0
  | 1 => .s 3
  | 2 => .s 2
  | 3 => .s 4
  | 4 => .s 1
  | _ => .q .na
theorem wd_wt (n : Int) : Wt 6 (wd n) := by
  unfold wd
  split <;> first | exact ⟨rfl, by decide⟩ | exact .inl rfl
noncomputable def GW (v : Vc) : Prop := TxtV v ∧ v.2.length ≤ 3
theorem ws_loop {K : Fl → Rho → Sto → Prop} {vs : AV} {b h : AV} : ∀ (ds : List AV) (ws : List Vc) (st : List Int) (ρ : Rho), st.length ≤ 200 → ws.length + ds.length ≤ 3 → (∀ v ∈ ws, GW v) → ρ 26 = some (.ref 1) → ρ 56 = some (.ref 3) → ρ 11 = some vs → ρ 15 = some b → ρ 55 = some h →
    (∀ ρ' (ws' : List Vc) (st' : List Int), st'.length ≤ 200 → ws'.length ≤ 3 → (∀ v ∈ ws', GW v) → ρ' 26 = some (.ref 1) → ρ' 56 = some (.ref 3) → ρ' 11 = some vs → ρ' 15 = some b → ρ' 55 = some h → K .next ρ' (T l₀ st' [none, some (ws'.map enV)])) → forL 29 (lp (Tk 37) m_B2) ds K ρ (T l₀ st [none, some (ws.map enV)])
  | [], ws, st, ρ, hs, hl, hv, e1, e2, e3, e4, e5, q => q ρ ws st hs (by simpa using hl) hv e1 e2 e3 e4 e5
  | d :: ds, ws, st, ρ, hs, hl, hv, e1, e2, e3, e4, e5, q => by
    rw [List.length_cons] at hl
    have go : ∀ (ρ' : Rho) (v : Vc) (st' : List Int), st'.length ≤ 200 → GW v → ρ' 26 = some (.ref 1) → ρ' 56 = some (.ref 3) → ρ' 11 = some vs → ρ' 15 = some b → ρ' 55 = some h → fK 29 (lp (Tk 37) m_B2) ds K .next ρ' (T l₀ st' [none, some (ws.map enV ++ [enV v])]) := fun ρ' v st' hs' gv a1 a2 a3 a4 a5 => by
      have := ws_loop (K := K) ds (ws ++ [v]) st' ρ' hs' (by rw [List.length_append, List.length_cons, List.length_nil]; omega) (fun u hu => by
        rcases List.mem_append.mp hu with z | z
        · exact hv u z
        · rcases List.mem_singleton.mp z with rfl; exact gv) a1 a2 a3 a4 a5 q
      rw [List.map_append] at this
      exact this
    refine for_cons ?_
    generalize fK 29 (lp (Tk 37) m_B2) ds K = C at go ⊢
    have hL : (ws.map enV).length < lenB := by rw [List.length_map]; unfold lenB; omega
    simp only [m_B2, m_asgC, m_app, mwps, v_name, v_glob, v_fnv, v_cint, v_cstr, v_cbool, v_cnone, v_tup, v_lst, v_lstM, v_bin, v_neg, v_cmp, v_not, v_and, v_or, v_ife, v_idx, v_upto, v_uptoM, v_from, v_rev, v_kind, v_items, v_call, v_callV, v_vector, v_len, v_abs, v_listOf, v_pop, v_comp, v_compIf, v_compR, v_freeze, mevs, upd, restr, List.mem_cons, List.not_mem_nil, or_false, or_true, true_or, Nat.reduceEqDiff, if_false, if_true, e1, e2]
    refine take_T hs (by decide) fun st1 hs1 n n0 n4 => ?_
    dsimp only
    refine ⟨n0, by omega, ?_⟩
    have hn : (rangeL n).length ≤ 3 := by rw [range_len]; omega
    refine comp_T (f := AV.int) (P := fun i => 0 ≤ i ∧ i < 6) (fun d C st hs z => ?_) (rangeL n) [] st1 hs1 (by rw [List.length_nil]; omega) (fun a h => (nomatch h)) fun st2 is hs2 hlen his => ?_
    · exact take_T hs (by decide) fun st' hs' i i0 i6 => z st' i hs' ⟨i0, i6⟩
    · rw [List.length_nil] at hlen
      refine ⟨⟨_, rfl⟩, ?_⟩
      refine maps (f := AV.int) (g := fun i => en (wd i)) is [] (by rw [List.length_nil]; omega) (fun i hi C c => ?_) ?_
      · obtain ⟨i0, i6⟩ := his i hi
        rcases (show i = 0 ∨ i = 1 ∨ i = 2 ∨ i = 3 ∨ i = 4 ∨ i = 5 by omega) with rfl | rfl | rfl | rfl | rfl | rfl <;> exact ⟨by decide, by decide, _, rfl, c⟩
      · rw [List.nil_append]
        refine ⟨_, rfl, hL, ?_⟩
        have := go (fun y => if y = 58 then some (.list (is.map AV.int)) else if y = 29 then some d else ρ y) (6, is.map wd) st2 hs2 ⟨⟨rfl, fun it hit => by
          obtain ⟨i, _, rfl⟩ := List.mem_map.mp hit
          exact wd_wt i⟩, by rw [List.length_map]; omega⟩ e1 e2 e3 e4 e5
        have ee : enV (6, is.map wd) = .vec (.str 6) (.list (is.map fun i => en (wd i))) := by
          show AV.vec _ (.list ((is.map wd).map en)) = _
          rw [List.map_map]; rfl
        rw [ee] at this
        exact this
end
end Mine
/-! Wk19 -/
namespace Mine
section
variable {l₀ : List Int} {Q : AV → Sto → Prop} {σ : Sto}
noncomputable def hv (v : Vc) : AV := .tup [.str v.1, .list (v.2.map en)]
theorem ok_it {k : Nat} {it : It} (h : Wt k it) (n : Nat) : okD (n + 1) (en it) = true ∧ eqb (en it) (en it) = true := by
  cases it with
  | q x => exact ⟨okX n x, eqb_self x⟩
  | i m => exact ⟨rfl, decide_eq_true rfl⟩
  | s j => have := h.2; exact ⟨decide_eq_true (by omega), decide_eq_true rfl⟩
theorem eqbs_its : ∀ {k : Nat} (l : List It), (∀ it ∈ l, Wt k it) → eqbs (l.map en) (l.map en) = true
  | _, [], _ => rfl
  | _, x :: l, h => by
    show (eqb (en x) (en x) && eqbs (l.map en) (l.map en)) = true
    rw [(ok_it (h x (.head _)) 0).2, eqbs_its l fun u hu => h u (.tail _ hu)]; rfl
theorem ok_hv {v : Vc} (h : GV v) : okD 5 (hv v) = true ∧ eqb (hv v) (hv v) = true := by
  have hk : decide (v.1 < 13) = true := kind_ok (.inl h.1.1)
  have wt : ∀ it ∈ v.2, Wt v.1 it := fun it m => (h.1.2 it m).1
  constructor
  · show (decide (v.1 < 13) && ((v.2.map en).all (okD 3) && true)) = true
    have al : (v.2.map en).all (okD 3) = true := by
      rw [List.all_map, List.all_eq_true]
      exact fun it m => (ok_it (wt it m) 2).1
    rw [hk, al]; rfl
  · show (decide (v.1 = v.1) && (eqbs (v.2.map en) (v.2.map en) && true)) = true
    rw [decide_eq_true rfl, eqbs_its v.2 wt]; rfl
theorem c_held {vs : List Vc} (h : ∀ v ∈ vs, GV v) {K : Bool → Prop} (q : K true) : cmpA σ .eq (.list (vs.map hv)) (.list (vs.map hv)) K := by
  have o : okD 6 (.list (vs.map hv)) = true := by
    show ((vs.map hv).all (okD 5)) = true
    rw [List.all_map, List.all_eq_true]
    exact fun v m => (ok_hv (h v m)).1
  have e : ∀ vs : List Vc, (∀ v ∈ vs, GV v) → eqbs (vs.map hv) (vs.map hv) = true := fun vs => by
    induction vs with
    | nil => intro _; rfl
    | cons v vs ih => intro h; show (eqb (hv v) (hv v) && _) = true; rw [(ok_hv (h v (.head _))).2]; exact ih fun u hu => h u (.tail _ hu)
  refine ⟨o, o, ?_⟩
  have : eqb (.list (vs.map hv)) (.list (vs.map hv)) = true := e vs h
  rw [this]; exact q
theorem tot_le : ∀ (vs : List Vc) (n : Nat), (∀ v ∈ vs, v.2.length ≤ n) → tot vs ≤ n * vs.length
  | [], n, _ => Nat.zero_le _
  | v :: vs, n, h => by
    have a := h v (.head _)
    have b := tot_le vs n fun u hu => h u (.tail _ hu)
    show v.2.length + tot vs ≤ n * (vs.length + 1)
    rw [Nat.mul_add, Nat.mul_one]; omega
/-- holding them: the comprehension -/
theorem held_comp {vs : List Vc} (h : ∀ v ∈ vs, GV v) (h4 : vs.length ≤ 4) {ρ : Rho} {K : AV → Sto → Prop} (e11 : ρ 11 = some (enVs vs)) (q : K (.list (vs.map hv)) σ) :
    mev (Tk 37) (.comp 14 [] (.name 11) (.tup (.cons (.kind (.name 14)) (.cons (.listOf (.items (.name 14))) .nil)))) K ρ σ := by
  rw [v_comp, v_name, e11]
  have ei : enVs vs = .list (vs.map enV) := rfl
  rw [ei]
  dsimp only
  refine maps (f := enV) (g := hv) vs [] (by rw [List.length_nil]; omega) (fun v m C c => ?_) (by rw [List.nil_append]; exact q)
  have gv := (h v m).2
  have ev : enV v = .vec (.str v.1) (.list (v.2.map en)) := rfl
  rw [ev]
  simp only [v_name, v_glob, v_fnv, v_cint, v_cstr, v_cbool, v_cnone, v_tup, v_lst, v_lstM, v_bin, v_neg, v_cmp, v_not, v_and, v_or, v_ife, v_idx, v_upto, v_uptoM, v_from, v_rev, v_kind, v_items, v_call, v_callV, v_vector, v_len, v_abs, v_listOf, v_pop, v_comp, v_compIf, v_compR, v_freeze, mevs, upd_same]
  exact ⟨by rw [List.length_map]; unfold lenB; omega, c⟩
theorem w_end {st : List Int} {vs ws : List Vc} {skip : Bool} (hs : st.length ≤ 200) (hv' : ∀ v ∈ vs, GV v) (h4 : vs.length ≤ 4) (hw : ∀ v ∈ ws, GW v) (h3 : ws.length ≤ 3) {ρ : Rho} (e26 : ρ 26 = some (.ref 1)) (e56 : ρ 56 = some (enVs ws)) (e11 : ρ 11 = some (enVs vs)) (e15 : ρ 15 = some (.bool skip)) (e55 : ρ 55 = some (.list (vs.map hv))) :
    mwps (Tk 37) m_end K0 ρ (T l₀ st [none, none]) := by
  unfold m_end
  rw [mwps, m_ite]
  simp only [v_name, v_glob, v_fnv, v_cint, v_cstr, v_cbool, v_cnone, v_tup, v_lst, v_lstM, v_bin, v_neg, v_cmp, v_not, v_and, v_or, v_ife, v_idx, v_upto, v_uptoM, v_from, v_rev, v_kind, v_items, v_call, v_callV, v_vector, v_len, v_abs, v_listOf, v_pop, v_comp, v_compIf, v_compR, v_freeze, mevs, e26, e56, e15, it_vs]
  refine ⟨by rw [List.length_map]; unfold lenB; omega, ?_⟩
  rw [b_addi, List.length_map]
  refine take_T hs (by omega) fun st' hs' c c0 c1 => ?_
  refine t_ranges ⟨ws, c, skip, rfl, .inr ⟨fun v m => (hw v m).1, by omega, ?_⟩, c0, by omega, ?_⟩
  · have := tot_le ws 3 fun v m => (hw v m).2
    omega
  · dsimp only
    rw [t_bool, onB_some, t_bool, onB_some, if_neg (by decide), mwps]
    dsimp only
    rw [mwps, m_ret, v_cmp]
    refine held_comp hv' h4 e11 ?_
    rw [v_name, e55]
    exact c_held hv' (finN _ _)
theorem b3_loop {K : Fl → Rho → Sto → Prop} (I : Rho → Prop) (hI : ∀ ρ d, I ρ → I (upd ρ 14 d)) : ∀ (vs : List Vc) (ρ : Rho), (∀ v ∈ vs, GV v) → I ρ → (∀ ρ', I ρ' → K .next ρ' σ) → forL 14 (lp (Tk 37) m_B3) (vs.map enV) K ρ σ
  | [], ρ, _, i, q => q ρ i
  | v :: vs, ρ, h, i, q => by
    have go : ∀ ρ', I ρ' → fK 14 (lp (Tk 37) m_B3) (vs.map enV) K .next ρ' σ := fun ρ' i' => b3_loop I hI vs ρ' (fun u hu => h u (.tail _ hu)) i' q
    refine for_cons ?_
    generalize fK 14 (lp (Tk 37) m_B3) (vs.map enV) K = C at go ⊢
    unfold m_B3
    rw [mwps, m_ite]
    simp only [v_name, v_glob, v_fnv, v_cint, v_cstr, v_cbool, v_cnone, v_tup, v_lst, v_lstM, v_bin, v_neg, v_cmp, v_not, v_and, v_or, v_ife, v_idx, v_upto, v_uptoM, v_from, v_rev, v_kind, v_items, v_call, v_callV, v_vector, v_len, v_abs, v_listOf, v_pop, v_comp, v_compIf, v_compR, v_freeze, mevs, upd_same]
    have gv := h v (.head _)
    refine t_spread ⟨v, rfl, gv.1, gv.2, ?_⟩
    dsimp only
    rw [t_bool, onB_some, t_bool, onB_some, if_neg (by decide), mwps]
    exact go _ (hI _ _ i)
theorem w_mid2 {st : List Int} {vs : List Vc} {skip : Bool} (hs : st.length ≤ 200) (hv' : ∀ v ∈ vs, GV v) (h4 : vs.length ≤ 4) {ρ : Rho} (e26 : ρ 26 = some (.ref 1)) (e11 : ρ 11 = some (enVs vs)) (e15 : ρ 15 = some (.bool skip)) (e55 : ρ 55 = some (.list (vs.map hv))) :
    mwps (Tk 37) m_mid2 K0 ρ (T l₀ st [none]) := by
  unfold m_mid2
  rw [mwps, m_asg, v_lstM]
  dsimp only
  rw [mwps, m_forR]
  have e26' : ∀ d, upd ρ 56 d 26 = some (.ref 1) := fun d => e26
  simp only [v_name, v_glob, v_fnv, v_cint, v_cstr, v_cbool, v_cnone, v_tup, v_lst, v_lstM, v_bin, v_neg, v_cmp, v_not, v_and, v_or, v_ife, v_idx, v_upto, v_uptoM, v_from, v_rev, v_kind, v_items, v_call, v_callV, v_vector, v_len, v_abs, v_listOf, v_pop, v_comp, v_compIf, v_compR, v_freeze, mevs, e26']
  have eT : T l₀ st [none] ++ [some []] = T l₀ st [none, some []] := rfl
  rw [eT]
  refine take_T hs (by decide) fun st1 hs1 n n0 n4 => ?_
  dsimp only
  refine ⟨n0, by omega, ?_⟩
  refine ws_loop (rangeL n) [] st1 _ hs1 (by rw [List.length_nil, range_len]; omega) (fun v h => (nomatch h)) e26 rfl e11 e15 e55 fun ρ' ws st' hs' h3 hw a1 a2 a3 a4 a5 => ?_
  rw [mwps, a2]
  have g3 : (T l₀ st' [none, some (ws.map enV)])[3]? = some (some (ws.map enV)) := rfl
  dsimp only
  rw [g3]
  exact w_end (vs := vs) (ws := ws) hs' hv' h4 hw h3 a1 rfl a3 a4 a5
theorem w_mid1 {st : List Int} {vs : List Vc} (hs : st.length ≤ 200) (hv' : ∀ v ∈ vs, GV v) (h4 : vs.length ≤ 4) {ρ : Rho} (e26 : ρ 26 = some (.ref 1)) (e11 : ρ 11 = some (enVs vs)) :
    mwps (Tk 37) m_mid1 K0 ρ (T l₀ st [none]) := by
  have nvs : NumVs 6 vs := ⟨fun v m => (hv' v m).1, by omega, by
    have := tot_le vs 4 fun v m => (hv' v m).2
    omega⟩
  unfold m_mid1
  generalize hN : m_mid2 = N
  rw [mwps, m_asg]
  simp only [v_name, v_glob, v_fnv, v_cint, v_cstr, v_cbool, v_cnone, v_tup, v_lst, v_lstM, v_bin, v_neg, v_cmp, v_not, v_and, v_or, v_ife, v_idx, v_upto, v_uptoM, v_from, v_rev, v_kind, v_items, v_call, v_callV, v_vector, v_len, v_abs, v_listOf, v_pop, v_comp, v_compIf, v_compR, v_freeze, mevs, e26, e11, it_vs]
  refine ⟨by rw [List.length_map]; unfold lenB; omega, ?_⟩
  rw [b_addi, List.length_map]
  refine take_T hs (by omega) fun st1 hs1 c c0 c1 => ?_
  rw [mwps, m_asg]
  have e26a : upd ρ 39 (.int c) 26 = some (.ref 1) := e26
  simp only [v_name, v_glob, v_fnv, v_cint, v_cstr, v_cbool, v_cnone, v_tup, v_lst, v_lstM, v_bin, v_neg, v_cmp, v_not, v_and, v_or, v_ife, v_idx, v_upto, v_uptoM, v_from, v_rev, v_kind, v_items, v_call, v_callV, v_vector, v_len, v_abs, v_listOf, v_pop, v_comp, v_compIf, v_compR, v_freeze, mevs, e26a]
  refine take_T hs1 (by decide) fun st2 hs2 s s0 s2 => ?_
  rw [c_eqi]
  generalize decide (s = 1) = skip
  rw [mwps, m_asgC]
  refine held_comp (vs := vs) hv' h4 e11 ?_
  dsimp only
  rw [mwps, m_ite]
  have f11 : upd (upd (upd ρ 39 (.int c)) 15 (.bool skip)) 55 (.list (vs.map hv)) 11 = some (enVs vs) := e11
  have f39 : upd (upd (upd ρ 39 (.int c)) 15 (.bool skip)) 55 (.list (vs.map hv)) 39 = some (.int c) := rfl
  have f15 : upd (upd (upd ρ 39 (.int c)) 15 (.bool skip)) 55 (.list (vs.map hv)) 15 = some (.bool skip) := rfl
  have f26 : upd (upd (upd ρ 39 (.int c)) 15 (.bool skip)) 55 (.list (vs.map hv)) 26 = some (.ref 1) := e26
  have f55 : upd (upd (upd ρ 39 (.int c)) 15 (.bool skip)) 55 (.list (vs.map hv)) 55 = some (.list (vs.map hv)) := rfl
  generalize upd (upd (upd ρ 39 (.int c)) 15 (.bool skip)) 55 (.list (vs.map hv)) = ρ1 at f11 f39 f15 f26 f55 ⊢
  simp only [v_name, v_glob, v_fnv, v_cint, v_cstr, v_cbool, v_cnone, v_tup, v_lst, v_lstM, v_bin, v_neg, v_cmp, v_not, v_and, v_or, v_ife, v_idx, v_upto, v_uptoM, v_from, v_rev, v_kind, v_items, v_call, v_callV, v_vector, v_len, v_abs, v_listOf, v_pop, v_comp, v_compIf, v_compR, v_freeze, mevs, mor, f11, f39, f15]
  refine t_totals ⟨vs, c, skip, rfl, nvs, c0, by omega, ?_⟩
  dsimp only
  rw [t_bool, onB_some, t_bool, onB_some, if_neg (by decide)]
  refine t_ranges ⟨vs, c, skip, rfl, .inl nvs, c0, by omega, ?_⟩
  dsimp only
  rw [t_bool, onB_some, t_bool, onB_some, if_neg (by decide), mwps]
  dsimp only
  rw [mwps, m_for]
  simp only [v_name, v_glob, v_fnv, v_cint, v_cstr, v_cbool, v_cnone, v_tup, v_lst, v_lstM, v_bin, v_neg, v_cmp, v_not, v_and, v_or, v_ife, v_idx, v_upto, v_uptoM, v_from, v_rev, v_kind, v_items, v_call, v_callV, v_vector, v_len, v_abs, v_listOf, v_pop, v_comp, v_compIf, v_compR, v_freeze, f11]
  have ei : enVs vs = .list (vs.map enV) := rfl
  rw [ei]
  dsimp only
  refine b3_loop (fun ρ => ρ 11 = some (enVs vs) ∧ ρ 15 = some (.bool skip) ∧ ρ 26 = some (.ref 1) ∧ ρ 55 = some (.list (vs.map hv))) (fun ρ d i => i) vs ρ1 hv' ⟨f11, f15, f26, f55⟩ fun ρ' i => ?_
  obtain ⟨i1, i2, i3, i4⟩ := i
  rw [← hN]
  exact w_mid2 hs2 hv' h4 i3 i1 i2 i4
theorem w_law : LawOk (Tk 37) := fun is hl => by
  rw [law_eq]
  unfold m_top
  rw [mwps, m_asg]
  simp only [v_name, v_glob, v_fnv, v_cint, v_cstr, v_cbool, v_cnone, v_tup, v_lst, v_lstM, v_bin, v_neg, v_cmp, v_not, v_and, v_or, v_ife, v_idx, v_upto, v_uptoM, v_from, v_rev, v_kind, v_items, v_call, v_callV, v_vector, v_len, v_abs, v_listOf, v_pop, v_comp, v_compIf, v_compR, v_freeze, mevs, p_law, bindR, upd_same]
  refine t_stock ⟨is, rfl, hl, fun l₀ l h200 => ?_⟩
  dsimp only
  rw [mwps, m_asg, v_lstM]
  dsimp only
  rw [mwps, m_forR]
  simp only [v_name, v_glob, v_fnv, v_cint, v_cstr, v_cbool, v_cnone, v_tup, v_lst, v_lstM, v_bin, v_neg, v_cmp, v_not, v_and, v_or, v_ife, v_idx, v_upto, v_uptoM, v_from, v_rev, v_kind, v_items, v_call, v_callV, v_vector, v_len, v_abs, v_listOf, v_pop, v_comp, v_compIf, v_compR, v_freeze, mevs, upd, Nat.reduceEqDiff, if_false, if_true]
  have eT : ([] : Sto) ++ [some (l₀.map .int), some (l.map .int)] ++ [some []] = T l₀ l [some []] := rfl
  rw [eT]
  refine take_T h200 (by decide) fun st1 hs1 n n0 n5 => ?_
  dsimp only
  refine ⟨n0, by omega, ?_⟩
  refine vs_loop (rangeL n) [] st1 _ hs1 (by rw [List.length_nil, range_len]; omega) (fun v h => (nomatch h)) rfl rfl fun ρ' vs st' hs' h4 hv' a1 a2 => ?_
  rw [mwps, a2]
  have g2 : (T l₀ st' [some (vs.map enV)])[2]? = some (some (vs.map enV)) := rfl
  dsimp only
  rw [g2]
  exact w_mid1 (vs := vs) hs' hv' h4 a1 rfl
end
end Mine
/-! Fin -/
namespace Mine
/-- every function does what its specification says -/
theorem steps (k : Nat) (hk : k < 37) : ∃ m ps, ptab[k]? = some (m, ps) ∧ ∀ ds Q σ, Sp k ds Q σ → ds.length = ps.length ∧ mwps (Tk k) m (fun fl _ σ' => Fin σ Q fl σ') (bindR ps ds rho0) σ :=
  match k, hk with
  | 0, _ => ⟨_, _, rfl, fun ds Q σ h => ⟨by (first | (obtain ⟨_, rfl, _⟩ := h; rfl) | (obtain ⟨_, _, rfl, _⟩ := h; rfl) | (obtain ⟨_, _, _, rfl, _⟩ := h; rfl) | (obtain ⟨_, _, _, _, rfl, _⟩ := h; rfl) | (rcases h with ⟨rfl, _⟩ | ⟨_, rfl, _⟩ <;> rfl)), w_gcd h⟩⟩
  | 1, _ => ⟨_, _, rfl, fun ds Q σ h => ⟨by (first | (obtain ⟨_, rfl, _⟩ := h; rfl) | (obtain ⟨_, _, rfl, _⟩ := h; rfl) | (obtain ⟨_, _, _, rfl, _⟩ := h; rfl) | (obtain ⟨_, _, _, _, rfl, _⟩ := h; rfl) | (rcases h with ⟨rfl, _⟩ | ⟨_, rfl, _⟩ <;> rfl)), w_make h⟩⟩
  | 2, _ => ⟨_, _, rfl, fun ds Q σ h => ⟨by (first | (obtain ⟨_, rfl, _⟩ := h; rfl) | (obtain ⟨_, _, rfl, _⟩ := h; rfl) | (obtain ⟨_, _, _, rfl, _⟩ := h; rfl) | (obtain ⟨_, _, _, _, rfl, _⟩ := h; rfl) | (rcases h with ⟨rfl, _⟩ | ⟨_, rfl, _⟩ <;> rfl)), w_from h⟩⟩
  | 3, _ => ⟨_, _, rfl, fun ds Q σ h => ⟨by (first | (obtain ⟨_, rfl, _⟩ := h; rfl) | (obtain ⟨_, _, rfl, _⟩ := h; rfl) | (obtain ⟨_, _, _, rfl, _⟩ := h; rfl) | (obtain ⟨_, _, _, _, rfl, _⟩ := h; rfl) | (rcases h with ⟨rfl, _⟩ | ⟨_, rfl, _⟩ <;> rfl)), w_isna h⟩⟩
  | 4, _ => ⟨_, _, rfl, fun ds Q σ h => ⟨by (first | (obtain ⟨_, rfl, _⟩ := h; rfl) | (obtain ⟨_, _, rfl, _⟩ := h; rfl) | (obtain ⟨_, _, _, rfl, _⟩ := h; rfl) | (obtain ⟨_, _, _, _, rfl, _⟩ := h; rfl) | (rcases h with ⟨rfl, _⟩ | ⟨_, rfl, _⟩ <;> rfl)), w_marked h⟩⟩
  | 5, _ => ⟨_, _, rfl, fun ds Q σ h => ⟨by (first | (obtain ⟨_, rfl, _⟩ := h; rfl) | (obtain ⟨_, _, rfl, _⟩ := h; rfl) | (obtain ⟨_, _, _, rfl, _⟩ := h; rfl) | (obtain ⟨_, _, _, _, rfl, _⟩ := h; rfl) | (rcases h with ⟨rfl, _⟩ | ⟨_, rfl, _⟩ <;> rfl)), w_neg h⟩⟩
  | 6, _ => ⟨_, _, rfl, fun ds Q σ h => ⟨by (first | (obtain ⟨_, rfl, _⟩ := h; rfl) | (obtain ⟨_, _, rfl, _⟩ := h; rfl) | (obtain ⟨_, _, _, rfl, _⟩ := h; rfl) | (obtain ⟨_, _, _, _, rfl, _⟩ := h; rfl) | (rcases h with ⟨rfl, _⟩ | ⟨_, rfl, _⟩ <;> rfl)), w_add h⟩⟩
  | 7, _ => ⟨_, _, rfl, fun ds Q σ h => ⟨by (first | (obtain ⟨_, rfl, _⟩ := h; rfl) | (obtain ⟨_, _, rfl, _⟩ := h; rfl) | (obtain ⟨_, _, _, rfl, _⟩ := h; rfl) | (obtain ⟨_, _, _, _, rfl, _⟩ := h; rfl) | (rcases h with ⟨rfl, _⟩ | ⟨_, rfl, _⟩ <;> rfl)), w_sub h⟩⟩
  | 8, _ => ⟨_, _, rfl, fun ds Q σ h => ⟨by (first | (obtain ⟨_, rfl, _⟩ := h; rfl) | (obtain ⟨_, _, rfl, _⟩ := h; rfl) | (obtain ⟨_, _, _, rfl, _⟩ := h; rfl) | (obtain ⟨_, _, _, _, rfl, _⟩ := h; rfl) | (rcases h with ⟨rfl, _⟩ | ⟨_, rfl, _⟩ <;> rfl)), w_mul h⟩⟩
  | 9, _ => ⟨_, _, rfl, fun ds Q σ h => ⟨by (first | (obtain ⟨_, rfl, _⟩ := h; rfl) | (obtain ⟨_, _, rfl, _⟩ := h; rfl) | (obtain ⟨_, _, _, rfl, _⟩ := h; rfl) | (obtain ⟨_, _, _, _, rfl, _⟩ := h; rfl) | (rcases h with ⟨rfl, _⟩ | ⟨_, rfl, _⟩ <;> rfl)), w_div h⟩⟩
  | 10, _ => ⟨_, _, rfl, fun ds Q σ h => ⟨by (first | (obtain ⟨_, rfl, _⟩ := h; rfl) | (obtain ⟨_, _, rfl, _⟩ := h; rfl) | (obtain ⟨_, _, _, rfl, _⟩ := h; rfl) | (obtain ⟨_, _, _, _, rfl, _⟩ := h; rfl) | (rcases h with ⟨rfl, _⟩ | ⟨_, rfl, _⟩ <;> rfl)), w_cmp h⟩⟩
  | 11, _ => ⟨_, _, rfl, fun ds Q σ h => ⟨by (first | (obtain ⟨_, rfl, _⟩ := h; rfl) | (obtain ⟨_, _, rfl, _⟩ := h; rfl) | (obtain ⟨_, _, _, rfl, _⟩ := h; rfl) | (obtain ⟨_, _, _, _, rfl, _⟩ := h; rfl) | (rcases h with ⟨rfl, _⟩ | ⟨_, rfl, _⟩ <;> rfl)), w_lacking h⟩⟩
  | 12, _ => ⟨_, _, rfl, fun ds Q σ h => ⟨by (first | (obtain ⟨_, rfl, _⟩ := h; rfl) | (obtain ⟨_, _, rfl, _⟩ := h; rfl) | (obtain ⟨_, _, _, rfl, _⟩ := h; rfl) | (obtain ⟨_, _, _, _, rfl, _⟩ := h; rfl) | (rcases h with ⟨rfl, _⟩ | ⟨_, rfl, _⟩ <;> rfl)), w_kind h⟩⟩
  | 13, _ => ⟨_, _, rfl, fun ds Q σ h => ⟨by (first | (obtain ⟨_, rfl, _⟩ := h; rfl) | (obtain ⟨_, _, rfl, _⟩ := h; rfl) | (obtain ⟨_, _, _, rfl, _⟩ := h; rfl) | (obtain ⟨_, _, _, _, rfl, _⟩ := h; rfl) | (rcases h with ⟨rfl, _⟩ | ⟨_, rfl, _⟩ <;> rfl)), w_kept h⟩⟩
  | 14, _ => ⟨_, _, rfl, fun ds Q σ h => ⟨by (first | (obtain ⟨_, rfl, _⟩ := h; rfl) | (obtain ⟨_, _, rfl, _⟩ := h; rfl) | (obtain ⟨_, _, _, rfl, _⟩ := h; rfl) | (obtain ⟨_, _, _, _, rfl, _⟩ := h; rfl) | (rcases h with ⟨rfl, _⟩ | ⟨_, rfl, _⟩ <;> rfl)), w_gath h⟩⟩
  | 15, _ => ⟨_, _, rfl, fun ds Q σ h => ⟨by (first | (obtain ⟨_, rfl, _⟩ := h; rfl) | (obtain ⟨_, _, rfl, _⟩ := h; rfl) | (obtain ⟨_, _, _, rfl, _⟩ := h; rfl) | (obtain ⟨_, _, _, _, rfl, _⟩ := h; rfl) | (rcases h with ⟨rfl, _⟩ | ⟨_, rfl, _⟩ <;> rfl)), w_dsum h⟩⟩
  | 16, _ => ⟨_, _, rfl, fun ds Q σ h => ⟨by (first | (obtain ⟨_, rfl, _⟩ := h; rfl) | (obtain ⟨_, _, rfl, _⟩ := h; rfl) | (obtain ⟨_, _, _, rfl, _⟩ := h; rfl) | (obtain ⟨_, _, _, _, rfl, _⟩ := h; rfl) | (rcases h with ⟨rfl, _⟩ | ⟨_, rfl, _⟩ <;> rfl)), w_sum h⟩⟩
  | 17, _ => ⟨_, _, rfl, fun ds Q σ h => ⟨by (first | (obtain ⟨_, rfl, _⟩ := h; rfl) | (obtain ⟨_, _, rfl, _⟩ := h; rfl) | (obtain ⟨_, _, _, rfl, _⟩ := h; rfl) | (obtain ⟨_, _, _, _, rfl, _⟩ := h; rfl) | (rcases h with ⟨rfl, _⟩ | ⟨_, rfl, _⟩ <;> rfl)), w_prod h⟩⟩
  | 18, _ => ⟨_, _, rfl, fun ds Q σ h => ⟨by (first | (obtain ⟨_, rfl, _⟩ := h; rfl) | (obtain ⟨_, _, rfl, _⟩ := h; rfl) | (obtain ⟨_, _, _, rfl, _⟩ := h; rfl) | (obtain ⟨_, _, _, _, rfl, _⟩ := h; rfl) | (rcases h with ⟨rfl, _⟩ | ⟨_, rfl, _⟩ <;> rfl)), w_order h⟩⟩
  | 19, _ => ⟨_, _, rfl, fun ds Q σ h => ⟨by (first | (obtain ⟨_, rfl, _⟩ := h; rfl) | (obtain ⟨_, _, rfl, _⟩ := h; rfl) | (obtain ⟨_, _, _, rfl, _⟩ := h; rfl) | (obtain ⟨_, _, _, _, rfl, _⟩ := h; rfl) | (rcases h with ⟨rfl, _⟩ | ⟨_, rfl, _⟩ <;> rfl)), w_exi h⟩⟩
  | 20, _ => ⟨_, _, rfl, fun ds Q σ h => ⟨by (first | (obtain ⟨_, rfl, _⟩ := h; rfl) | (obtain ⟨_, _, rfl, _⟩ := h; rfl) | (obtain ⟨_, _, _, rfl, _⟩ := h; rfl) | (obtain ⟨_, _, _, _, rfl, _⟩ := h; rfl) | (rcases h with ⟨rfl, _⟩ | ⟨_, rfl, _⟩ <;> rfl)), w_exo h⟩⟩
  | 21, _ => ⟨_, _, rfl, fun ds Q σ h => ⟨by (first | (obtain ⟨_, rfl, _⟩ := h; rfl) | (obtain ⟨_, _, rfl, _⟩ := h; rfl) | (obtain ⟨_, _, _, rfl, _⟩ := h; rfl) | (obtain ⟨_, _, _, _, rfl, _⟩ := h; rfl) | (rcases h with ⟨rfl, _⟩ | ⟨_, rfl, _⟩ <;> rfl)), w_max h⟩⟩
  | 22, _ => ⟨_, _, rfl, fun ds Q σ h => ⟨by (first | (obtain ⟨_, rfl, _⟩ := h; rfl) | (obtain ⟨_, _, rfl, _⟩ := h; rfl) | (obtain ⟨_, _, _, rfl, _⟩ := h; rfl) | (obtain ⟨_, _, _, _, rfl, _⟩ := h; rfl) | (rcases h with ⟨rfl, _⟩ | ⟨_, rfl, _⟩ <;> rfl)), w_min h⟩⟩
  | 23, _ => ⟨_, _, rfl, fun ds Q σ h => ⟨by (first | (obtain ⟨_, rfl, _⟩ := h; rfl) | (obtain ⟨_, _, rfl, _⟩ := h; rfl) | (obtain ⟨_, _, _, rfl, _⟩ := h; rfl) | (obtain ⟨_, _, _, _, rfl, _⟩ := h; rfl) | (rcases h with ⟨rfl, _⟩ | ⟨_, rfl, _⟩ <;> rfl)), w_range h⟩⟩
  | 24, _ => ⟨_, _, rfl, fun ds Q σ h => ⟨by (first | (obtain ⟨_, rfl, _⟩ := h; rfl) | (obtain ⟨_, _, rfl, _⟩ := h; rfl) | (obtain ⟨_, _, _, rfl, _⟩ := h; rfl) | (obtain ⟨_, _, _, _, rfl, _⟩ := h; rfl) | (rcases h with ⟨rfl, _⟩ | ⟨_, rfl, _⟩ <;> rfl)), w_nums h⟩⟩
  | 25, _ => ⟨_, _, rfl, fun ds Q σ h => ⟨by (first | (obtain ⟨_, rfl, _⟩ := h; rfl) | (obtain ⟨_, _, rfl, _⟩ := h; rfl) | (obtain ⟨_, _, _, rfl, _⟩ := h; rfl) | (obtain ⟨_, _, _, _, rfl, _⟩ := h; rfl) | (rcases h with ⟨rfl, _⟩ | ⟨_, rfl, _⟩ <;> rfl)), w_meani h⟩⟩
  | 26, _ => ⟨_, _, rfl, fun ds Q σ h => ⟨by (first | (obtain ⟨_, rfl, _⟩ := h; rfl) | (obtain ⟨_, _, rfl, _⟩ := h; rfl) | (obtain ⟨_, _, _, rfl, _⟩ := h; rfl) | (obtain ⟨_, _, _, _, rfl, _⟩ := h; rfl) | (rcases h with ⟨rfl, _⟩ | ⟨_, rfl, _⟩ <;> rfl)), w_mean h⟩⟩
  | 27, _ => ⟨_, _, rfl, fun ds Q σ h => ⟨by (first | (obtain ⟨_, rfl, _⟩ := h; rfl) | (obtain ⟨_, _, rfl, _⟩ := h; rfl) | (obtain ⟨_, _, _, rfl, _⟩ := h; rfl) | (obtain ⟨_, _, _, _, rfl, _⟩ := h; rfl) | (rcases h with ⟨rfl, _⟩ | ⟨_, rfl, _⟩ <;> rfl)), w_var h⟩⟩
  | 28, _ => ⟨_, _, rfl, fun ds Q σ h => ⟨by (first | (obtain ⟨_, rfl, _⟩ := h; rfl) | (obtain ⟨_, _, rfl, _⟩ := h; rfl) | (obtain ⟨_, _, _, rfl, _⟩ := h; rfl) | (obtain ⟨_, _, _, _, rfl, _⟩ := h; rfl) | (rcases h with ⟨rfl, _⟩ | ⟨_, rfl, _⟩ <;> rfl)), w_stock h⟩⟩
  | 29, _ => ⟨_, _, rfl, fun ds Q σ h => ⟨by (first | (obtain ⟨_, rfl, _⟩ := h; rfl) | (obtain ⟨_, _, rfl, _⟩ := h; rfl) | (obtain ⟨_, _, _, rfl, _⟩ := h; rfl) | (obtain ⟨_, _, _, _, rfl, _⟩ := h; rfl) | (rcases h with ⟨rfl, _⟩ | ⟨_, rfl, _⟩ <;> rfl)), w_take h⟩⟩
  | 30, _ => ⟨_, _, rfl, fun ds Q σ h => ⟨by (first | (obtain ⟨_, rfl, _⟩ := h; rfl) | (obtain ⟨_, _, rfl, _⟩ := h; rfl) | (obtain ⟨_, _, _, rfl, _⟩ := h; rfl) | (obtain ⟨_, _, _, _, rfl, _⟩ := h; rfl) | (rcases h with ⟨rfl, _⟩ | ⟨_, rfl, _⟩ <;> rfl)), w_low h⟩⟩
  | 31, _ => ⟨_, _, rfl, fun ds Q σ h => ⟨by (first | (obtain ⟨_, rfl, _⟩ := h; rfl) | (obtain ⟨_, _, rfl, _⟩ := h; rfl) | (obtain ⟨_, _, _, rfl, _⟩ := h; rfl) | (obtain ⟨_, _, _, _, rfl, _⟩ := h; rfl) | (rcases h with ⟨rfl, _⟩ | ⟨_, rfl, _⟩ <;> rfl)), w_entry h⟩⟩
  | 32, _ => ⟨_, _, rfl, fun ds Q σ h => ⟨by (first | (obtain ⟨_, rfl, _⟩ := h; rfl) | (obtain ⟨_, _, rfl, _⟩ := h; rfl) | (obtain ⟨_, _, _, rfl, _⟩ := h; rfl) | (obtain ⟨_, _, _, _, rfl, _⟩ := h; rfl) | (rcases h with ⟨rfl, _⟩ | ⟨_, rfl, _⟩ <;> rfl)), w_pairs h⟩⟩
  | 33, _ => ⟨_, _, rfl, fun ds Q σ h => ⟨by (first | (obtain ⟨_, rfl, _⟩ := h; rfl) | (obtain ⟨_, _, rfl, _⟩ := h; rfl) | (obtain ⟨_, _, _, rfl, _⟩ := h; rfl) | (obtain ⟨_, _, _, _, rfl, _⟩ := h; rfl) | (rcases h with ⟨rfl, _⟩ | ⟨_, rfl, _⟩ <;> rfl)), w_rem h⟩⟩
  | 34, _ => ⟨_, _, rfl, fun ds Q σ h => ⟨by (first | (obtain ⟨_, rfl, _⟩ := h; rfl) | (obtain ⟨_, _, rfl, _⟩ := h; rfl) | (obtain ⟨_, _, _, rfl, _⟩ := h; rfl) | (obtain ⟨_, _, _, _, rfl, _⟩ := h; rfl) | (rcases h with ⟨rfl, _⟩ | ⟨_, rfl, _⟩ <;> rfl)), w_totals h⟩⟩
  | 35, _ => ⟨_, _, rfl, fun ds Q σ h => ⟨by (first | (obtain ⟨_, rfl, _⟩ := h; rfl) | (obtain ⟨_, _, rfl, _⟩ := h; rfl) | (obtain ⟨_, _, _, rfl, _⟩ := h; rfl) | (obtain ⟨_, _, _, _, rfl, _⟩ := h; rfl) | (rcases h with ⟨rfl, _⟩ | ⟨_, rfl, _⟩ <;> rfl)), w_ranges h⟩⟩
  | 36, _ => ⟨_, _, rfl, fun ds Q σ h => ⟨by (first | (obtain ⟨_, rfl, _⟩ := h; rfl) | (obtain ⟨_, _, rfl, _⟩ := h; rfl) | (obtain ⟨_, _, _, rfl, _⟩ := h; rfl) | (obtain ⟨_, _, _, _, rfl, _⟩ := h; rfl) | (rcases h with ⟨rfl, _⟩ | ⟨_, rfl, _⟩ <;> rfl)), w_spread h⟩⟩
  | k + 37, h => absurd h (by omega)
theorem tab_ok {prog : Program} {w : World} {hb : Heap} {mg mb : Str → Option Value} (W : Wd parN prog w hb mg mb) (O : ∀ f m ps, ptab[f]? = some (m, ps) → FnOk parN hb f m ps) : ∀ k, k ≤ 37 → TabOk parN prog w hb (2 * k) (Tk k)
  | 0, _ => fun f ds Q σ h => absurd h.1 (Nat.not_lt_zero _)
  | k + 1, hk => fun f ds Q σ h => by
    have ih := tab_ok W O k (by omega)
    refine ⟨by have := h.1; omega, fun A c s vs a G hσ V => ?_⟩
    by_cases hf : f < k
    · exact (ih f ds Q σ ⟨hf, h.2⟩).2 A c s vs ⟨a.1, by have := a.2.1; omega, by have := a.2.2; omega⟩ G hσ V
    · have e : f = k := by have := h.1; omega
      subst e
      obtain ⟨m, ps, e, z⟩ := steps f (by omega)
      obtain ⟨hl, hw⟩ := z ds Q σ h.2
      exact fun_rule W ih (O f m ps e) hl hw a G hσ V
end Mine
end
theorem PySem.Challenge.cw_ov0069_01_holds : PySem.Challenge.rw_ov0069_01.Holds := by
  exact Mine.claim_of Mine.w_law fun W O => Mine.tab_ok W O 37 (Nat.le_refl _)
