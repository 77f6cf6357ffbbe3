import PyProof.Rows.All
import Wide.All
import OpenK.AllK
import Wide.FinOn
import PySem.Challenge.RW_pf0173_01
section
open PySem PySem.W PyProof.Rows
set_option Elab.async false
namespace Mine

/-- plain values; tuples are values, what can be changed is in the store -/
inductive V where
  | none
  | bool (b : Bool)
  | int (i : Int)
  | str (s : Str)
  | tup (l : List V)
  | ref (i : Nat)
  | rng (a c : Int) (n : Nat)
  deriving Inhabited

inductive O where
  | lst (l : List V)
  | inst (c : Str) (fs : List (Str × V))
  | dct
  | frz (l : List V)
  deriving Inhabited
noncomputable def O.frozen : O → Bool
  | .frz _ => true
  | _ => false

noncomputable abbrev S := List O
noncomputable abbrev L := List (Str × V)

inductive Bi where
  | len | range | max | int | sum | tuple | list
  deriving DecidableEq
inductive LM where
  | append | pop | extend
  deriving DecidableEq

inductive Ex where
  | lit (v : V)
  | var (x : Str)
  | glob (x : Str)
  | andor (isAnd : Bool) (es : List Ex)
  | not (e : Ex)
  | neg (e : Ex)
  | bin (op : Operator) (a b : Ex)
  | ite (c a b : Ex)
  | cmp (op : CmpOp) (a b : Ex)
  | cmp2 (op op' : CmpOp) (a b c : Ex)
  | call (f : Str) (as : List Ex)
  | blt (f : Bi) (as : List Ex)
  | isTup (e : Ex)
  | meth (o : Ex) (m : Str) (as : List Ex)
  | lmeth (m : LM) (o : Ex) (as : List Ex)
  | attr (o : Ex) (m : Str)
  | sub (o i : Ex)
  | slice (o lo hi : Ex)
  | tup (es : List Ex)
  | lst (es : List Ex)
  | dct
  | comp (elt : Ex) (x : Str) (it : Ex) (ifs : List Ex)
  | comp2 (elt : Ex) (x : Str) (it : Ex) (y : Str) (it2 : Ex)
  deriving Inhabited

inductive St where
  | pass
  | stuck
  | expr (e : Ex)
  | ret (e : Ex)
  | assign (x : Str) (e : Ex)
  | assignT (xs : List Str) (e : Ex)
  | setattr (o : Ex) (m : Str) (e : Ex)
  | setitem (o i e : Ex)
  | aug (op : Operator) (x : Str) (e : Ex)
  | ite (c : Ex) (a b : List St)
  | while (c : Ex) (b : List St)
  | for (x : Str) (it : Ex) (b : List St)
  deriving Inhabited

structure Fn where
  params : List Str
  dflts : List V
  body : List St
  deriving Inhabited

inductive Ent where
  | fn (f : Fn)
  | cls
  deriving Inhabited

inductive Fl where
  | next
  | ret (v : V)

/-- what the text's top is asked for: constants, attributes of instances, methods, functions -/
structure Tb where
  G : Str → Option V
  at_ : Str → Str → Bool
  mt : Str → Str → Bool
  fn : Str → Bool

noncomputable abbrev Or := Str → Str → List V → (V → S → Prop) → S → Prop

noncomputable def upd (x : Str) (v : V) : L → L
  | [] => [(x, v)]
  | (y, u) :: r => if y = x then (y, v) :: r else (y, u) :: upd x v r

mutual
noncomputable def V.py : V → Option PyData
  | .none => some .none
  | .bool b => some (.bool b)
  | .int i => some (.int i)
  | .str s => some (.str s)
  | .tup l => (V.pys l).map .tuple
  | .ref _ => Option.none
  | .rng _ _ _ => Option.none
noncomputable def V.pys : List V → Option (List PyData)
  | [] => some []
  | v :: r => (V.py v).bind fun d => (V.pys r).map fun ds => d :: ds
end

/-- what a value reads as: a list of the store too, its items plain -/
noncomputable def pyOf (σ : S) : V → Option PyData
  | .ref i => match σ[i]? with
    | some (.lst l) => (V.pys l).map .list
    | _ => none
  | v => v.py

noncomputable def truthV : V → Option Bool
  | .bool b => some b
  | _ => none

/-- bounds for products and powers -/
noncomputable def big : Nat := 2 ^ 60

noncomputable def withI (v : V) (f : Int → Prop) : Prop := match v with
  | .int i => f i
  | _ => False
noncomputable def withL (σ : S) (v : V) (f : List V → Prop) : Prop := match v with
  | .ref i => (match σ[i]? with
    | some (.lst l) => f l
    | _ => False)
  | _ => False
noncomputable def withS (σ : S) (v : V) (f : List V → Prop) : Prop := match v with
  | .ref i => (match σ[i]? with
    | some (.lst l) => f l
    | some (.frz l) => f l
    | _ => False)
  | _ => False
noncomputable def w1 (as : List V) (f : V → Prop) : Prop := match as with
  | [a] => f a
  | _ => False
theorem withI_inv {v : V} {f : Int → Prop} (h : withI v f) : ∃ i, v = .int i ∧ f i := by
  cases v <;> first | exact False.elim h | exact ⟨_, rfl, h⟩
theorem withL_inv {σ : S} {v : V} {f : List V → Prop} (h : withL σ v f) : ∃ i l, v = .ref i ∧ σ[i]? = some (.lst l) ∧ f l := by
  cases v with
  | ref i =>
    unfold withL at h
    dsimp only at h
    cases e : σ[i]? with
    | none => rw [e] at h; exact False.elim h
    | some o =>
      rw [e] at h
      cases o <;> first | exact False.elim h | exact ⟨_, _, rfl, e, h⟩
  | _ => exact False.elim h
theorem withS_inv {σ : S} {v : V} {f : List V → Prop} (h : withS σ v f) : ∃ i l, v = .ref i ∧ (σ[i]? = some (.lst l) ∨ σ[i]? = some (.frz l)) ∧ f l := by
  cases v with
  | ref i =>
    unfold withS at h
    dsimp only at h
    cases e : σ[i]? with
    | none => rw [e] at h; exact False.elim h
    | some o =>
      rw [e] at h
      cases o with
      | lst l => exact ⟨_, _, rfl, .inl e, h⟩
      | frz l => exact ⟨_, _, rfl, .inr e, h⟩
      | _ => exact False.elim h
  | _ => exact False.elim h
theorem withL_of {σ : S} {i : Nat} {l : List V} {f : List V → Prop} (e : σ[i]? = some (.lst l)) (h : f l) : withL σ (.ref i) f := by
  unfold withL
  dsimp only
  rw [e]
  exact h
theorem withS_of {σ : S} {i : Nat} {l : List V} {f : List V → Prop} (e : σ[i]? = some (.lst l)) (h : f l) : withS σ (.ref i) f := by
  unfold withS
  dsimp only
  rw [e]
  exact h
theorem withS_frz {σ : S} {i : Nat} {l : List V} {f : List V → Prop} (e : σ[i]? = some (.frz l)) (h : f l) : withS σ (.ref i) f := by
  unfold withS
  dsimp only
  rw [e]
  exact h
theorem w1_inv {as : List V} {f : V → Prop} (h : w1 as f) : ∃ a, as = [a] ∧ f a := by
  rcases as with _ | ⟨a, _ | ⟨b, r⟩⟩
  · exact False.elim h
  · exact ⟨a, rfl, h⟩
  · exact False.elim h

noncomputable def addW (a b : V) (Q : V → S → Prop) (σ : S) : Prop := match a with
  | .int x => withI b fun y => Q (.int (x + y)) σ
  | .ref _ => withL σ a fun l => withL σ b fun r => l.length + r.length ≤ 1000000 ∧ Q (.ref σ.length) (σ ++ [.lst (l ++ r)])
  | _ => False
noncomputable def mulL (l : List V) (n : Int) (Q : V → S → Prop) (σ : S) : Prop := match l with
  | [v] => 0 ≤ n ∧ n ≤ 1000000 ∧ Q (.ref σ.length) (σ ++ [.lst (List.replicate n.toNat v)])
  | _ => False
noncomputable def mulW (a b : V) (Q : V → S → Prop) (σ : S) : Prop := match a with
  | .int x => withI b fun y => (x.natAbs < big ∨ y.natAbs < big) ∧ Q (.int (x * y)) σ
  | .ref _ => withL σ a fun l => withI b fun n => mulL l n Q σ
  | _ => False
@[irreducible] noncomputable def binW (op : Operator) (a b : V) (Q : V → S → Prop) (σ : S) : Prop :=
  match op with
  | .Add => addW a b Q σ
  | .Sub => withI a fun x => withI b fun y => Q (.int (x - y)) σ
  | .Mult => mulW a b Q σ
  | .FloorDiv => withI a fun x => withI b fun y => y ≠ 0 ∧ y.natAbs < 1073741824 ∧ Q (.int (x.fdiv y)) σ
  | .Mod => withI a fun x => withI b fun y => y ≠ 0 ∧ Q (.int (x.fmod y)) σ
  | .Pow => withI a fun x => withI b fun y => x = 10 ∧ y = 18 ∧ Q (.int 1000000000000000000) σ
  | _ => False

noncomputable def strsOf : List V → Option (List Str)
  | [] => some []
  | v :: r => match v with
    | .str x => (strsOf r).map (x :: ·)
    | _ => none

noncomputable def eqW (a b : V) (Q : Bool → Prop) (σ : S) : Prop := ∃ d e, pyOf σ a = some d ∧ pyOf σ b = some e ∧ SeqAt.shaped d = true ∧ SeqAt.shaped e = true ∧ Q (PyData.eqv d e)
noncomputable def isW (a b : V) (Q : Bool → Prop) : Prop := match b with
  | .none => (match a with
    | .none => Q true
    | .ref _ => Q false
    | _ => False)
  | _ => False
noncomputable def inW (a b : V) (Q : Bool → Prop) : Prop := match a with
  | .str x => (match b with
    | .tup l => ∃ xs, strsOf l = some xs ∧ PyData.strOk x = true ∧ xs.all PyData.strOk = true ∧ Q (xs.any fun y => y == x)
    | _ => False)
  | _ => False
@[irreducible] noncomputable def cmpW (op : CmpOp) (a b : V) (Q : Bool → Prop) (σ : S) : Prop :=
  match op with
  | .Eq => eqW a b Q σ
  | .NotEq => eqW a b (fun t => Q !t) σ
  | .Lt => withI a fun x => withI b fun y => Q (decide (x < y))
  | .LtE => withI a fun x => withI b fun y => Q (decide (x ≤ y))
  | .Gt => withI a fun x => withI b fun y => Q (decide (y < x))
  | .GtE => withI a fun x => withI b fun y => Q (decide (y ≤ x))
  | .Is => isW a b Q
  | .IsNot => isW a b fun t => Q !t
  | .In => inW a b Q
  | _ => False

@[irreducible] noncomputable def subW (o i : V) (Q : V → S → Prop) (σ : S) : Prop := withI i fun k => 0 ≤ k ∧ k < 1000000 ∧ (match o with
  | .tup l => ∃ v, l[k.toNat]? = some v ∧ Q v σ
  | .ref _ => withS σ o fun l => ∃ v, l[k.toNat]? = some v ∧ Q v σ
  | _ => False)

noncomputable def cutW (l : List V) (lo hi : V) (Q : V → S → Prop) (σ : S) : Prop := match lo with
  | .int a => 0 ≤ a ∧ (match hi with
    | .int b => a ≤ b ∧ b ≤ l.length ∧ Q (.ref σ.length) (σ ++ [.lst ((l.take b.toNat).drop a.toNat)])
    | .none => a ≤ l.length ∧ Q (.ref σ.length) (σ ++ [.lst (l.drop a.toNat)])
    | _ => False)
  | .none => withI hi fun b => 0 ≤ b ∧ b ≤ l.length ∧ Q (.ref σ.length) (σ ++ [.lst (l.take b.toNat)])
  | _ => False
@[irreducible] noncomputable def sliceW (o lo hi : V) (Q : V → S → Prop) (σ : S) : Prop := withL σ o fun l => l.length ≤ 1000000 ∧ cutW l lo hi Q σ

noncomputable def sumInts : List V → Option Int
  | [] => some 0
  | v :: r => match v with
    | .int x => (sumInts r).map (x + ·)
    | _ => none

noncomputable def lenW (v : V) (Q : V → S → Prop) (σ : S) : Prop := match v with
  | .tup l => l.length ≤ 1000000 ∧ Q (.int l.length) σ
  | .ref _ => withS σ v fun l => l.length ≤ 1000000 ∧ Q (.int l.length) σ
  | _ => False
noncomputable def small (a : Int) : Prop := -1000000 ≤ a ∧ a ≤ 1000000
noncomputable def rangeW (as : List V) (Q : V → S → Prop) (σ : S) : Prop := match as with
  | [] => False
  | a :: r => withI a fun a => small a ∧ (match r with
    | [] => Q (.rng 0 1 a.toNat) σ
    | b :: r => withI b fun b => small b ∧ (match r with
      | [] => Q (.rng a 1 (b - a).toNat) σ
      | c :: r => withI c fun c => c = -1 ∧ (match r with
        | [] => Q (.rng a (-1) (a - b).toNat) σ
        | _ :: _ => False)))
noncomputable def intW (v : V) (Q : V → S → Prop) (σ : S) : Prop := match v with
  | .int a => Q (.int a) σ
  | .bool b => Q (.int (if b then 1 else 0)) σ
  | _ => False
noncomputable def listW (v : V) (Q : V → S → Prop) (σ : S) : Prop := match v with
  | .tup l => l.length ≤ 1000000 ∧ Q (.ref σ.length) (σ ++ [.lst l])
  | _ => False
noncomputable def maxW (as : List V) (Q : V → S → Prop) (σ : S) : Prop := match as with
  | [] => False
  | a :: r => withI a fun a => w1 r fun b => withI b fun b => Q (.int (if b > a then b else a)) σ
@[irreducible] noncomputable def bltW (f : Bi) (as : List V) (Q : V → S → Prop) (σ : S) : Prop :=
  match f with
  | .len => w1 as fun v => lenW v Q σ
  | .range => rangeW as Q σ
  | .max => maxW as Q σ
  | .int => w1 as fun v => intW v Q σ
  | .sum => w1 as fun v => withL σ v fun l => l.length ≤ 1000000 ∧ ∃ n, sumInts l = some n ∧ Q (.int n) σ
  | .tuple => w1 as fun v => withL σ v fun l => l.length ≤ 1000000 ∧ Q (.tup l) σ
  | .list => w1 as fun v => listW v Q σ

noncomputable def popW (l : List V) (i : Nat) (Q : V → S → Prop) (σ : S) : Prop := ∃ v, l.getLast? = some v ∧ Q v (σ.set i (.lst l.dropLast))
noncomputable def extW (l : List V) (i : Nat) (v : V) (Q : V → S → Prop) (σ : S) : Prop := match v with
  | .tup r => r.length ≤ 1000000 ∧ Q .none (σ.set i (.lst (l ++ r)))
  | _ => False
noncomputable def noArgs (as : List V) (P : Prop) : Prop := match as with
  | [] => P
  | _ :: _ => False
noncomputable def lmW (m : LM) (i : Nat) (as : List V) (l : List V) (Q : V → S → Prop) (σ : S) : Prop := match m with
  | .append => w1 as fun v => Q .none (σ.set i (.lst (l ++ [v])))
  | .pop => noArgs as (popW l i Q σ)
  | .extend => w1 as fun v => extW l i v Q σ
@[irreducible] noncomputable def lmethW (m : LM) (o : V) (as : List V) (Q : V → S → Prop) (σ : S) : Prop :=
  match o with
  | .ref i => withL σ o fun l => l.length ≤ 1000000 ∧ lmW m i as l Q σ
  | _ => False

@[irreducible] noncomputable def attrW (tb : Tb) (o : V) (m : Str) (Q : V → S → Prop) (σ : S) : Prop :=
  match o with
  | .ref i => match σ[i]? with
    | some (.inst c fs) => (match fs.lookup m with | some v => tb.at_ c m = true ∧ Q v σ | none => False)
    | _ => False
  | _ => False

@[irreducible] noncomputable def setattrW (tb : Tb) (o : V) (m : Str) (v : V) (Q : S → Prop) (σ : S) : Prop :=
  match o with
  | .ref i => match σ[i]? with
    | some (.inst c fs) => fs.length ≤ 100 ∧ tb.at_ c m = true ∧ Q (σ.set i (.inst c (upd m v fs)))
    | _ => False
  | _ => False

@[irreducible] noncomputable def setitemW (o k v : V) (Q : S → Prop) (σ : S) : Prop :=
  match o with
  | .ref i => withI k fun j => withL σ o fun l => 0 ≤ j ∧ j < l.length ∧ l.length ≤ 1000000 ∧ Q (σ.set i (.lst (l.set j.toNat v)))
  | _ => False

/-- the class at a call of a method; the object itself has no such name -/
@[irreducible] noncomputable def clsW (tb : Tb) (o : V) (m : Str) (Q : Str → Prop) (σ : S) : Prop :=
  match o with
  | .ref i => match σ[i]? with
    | some (.inst c fs) => fs.lookup m = none ∧ tb.mt c m = true ∧ Q c
    | _ => False
  | _ => False

noncomputable def itemAt (σ : S) (src : V) (k : Nat) : Option (Option V) :=
  match src with
  | .ref i => match σ[i]? with
    | some (.lst l) => some l[k]?
    | _ => none
  | .tup l => some l[k]?
  | .rng a c n => some (if k < n then some (.int (a + k * c)) else none)
  | _ => none

noncomputable def loopC (elt : V → (List V → S → Prop) → S → Prop) (src : V) : Nat → Nat → List V → (List V → S → Prop) → S → Prop
  | 0, _, _, _, _ => False
  | m + 1, k, acc, Q, σ => match itemAt σ src k with
    | some none => Q acc σ
    | some (some v) => elt v (fun r σ' => loopC elt src m (k + 1) (acc ++ r) Q σ') σ
    | none => False

noncomputable def loopF (body : V → L → (Fl → L → S → Prop) → S → Prop) (src : V) : Nat → Nat → L → (Fl → L → S → Prop) → S → Prop
  | 0, _, _, _, _ => False
  | m + 1, k, ℓ, Q, σ => match itemAt σ src k with
    | some none => Q .next ℓ σ
    | some (some v) => body v ℓ (fun f ℓ' σ' => match f with
      | .next => loopF body src m (k + 1) ℓ' Q σ'
      | .ret u => Q (.ret u) ℓ' σ') σ
    | none => False

noncomputable def loopW (test : L → (Bool → S → Prop) → S → Prop) (body : L → (Fl → L → S → Prop) → S → Prop) : Nat → L → (Fl → L → S → Prop) → S → Prop
  | 0, _, _, _ => False
  | m + 1, ℓ, Q, σ => test ℓ (fun b σ' => match b with
    | false => Q .next ℓ σ'
    | true => body ℓ (fun f ℓ' σ'' => match f with
      | .next => loopW test body m ℓ' Q σ''
      | .ret u => Q (.ret u) ℓ' σ'') σ') σ

section
variable (C : Or) (tb : Tb)
mutual
noncomputable def ev : Ex → L → (V → S → Prop) → S → Prop
  | .lit v, _, Q, σ => Q v σ
  | .var x, ℓ, Q, σ => match ℓ.lookup x with | some v => Q v σ | none => False
  | .glob x, _, Q, σ => match tb.G x with | some v => Q v σ | none => False
  | .andor isAnd es, ℓ, Q, σ => evand isAnd es ℓ Q σ
  | .not _, _, _, _ => False
  | .neg e, ℓ, Q, σ => ev e ℓ (fun v σ' => match v with | .int i => Q (.int (-i)) σ' | _ => False) σ
  | .bin op a b, ℓ, Q, σ => ev a ℓ (fun x σ' => ev b ℓ (fun y σ'' => binW op x y Q σ'') σ') σ
  | .ite c a b, ℓ, Q, σ => tru c ℓ (fun t σ' => match t with | true => ev a ℓ Q σ' | false => ev b ℓ Q σ') σ
  | .cmp op a b, ℓ, Q, σ => ev a ℓ (fun x σ' => ev b ℓ (fun y σ'' => cmpW op x y (fun t => Q (.bool t) σ'') σ'') σ') σ
  | .cmp2 op op' a b c, ℓ, Q, σ => ev a ℓ (fun x σ' => ev b ℓ (fun y σ'' => cmpW op x y (fun t => match t with
      | true => ev c ℓ (fun z σ3 => cmpW op' y z (fun u => Q (.bool u) σ3) σ3) σ''
      | false => Q (.bool false) σ'') σ'') σ') σ
  | .call f as, ℓ, Q, σ => tb.fn f = true ∧ evs as ℓ (fun vs σ' => C "" f vs Q σ') σ
  | .blt f as, ℓ, Q, σ => evs as ℓ (fun vs σ' => bltW f vs Q σ') σ
  | .isTup e, ℓ, Q, σ => ev e ℓ (fun v σ' => match v with
      | .tup _ => Q (.bool true) σ' | .int _ => Q (.bool false) σ' | .bool _ => Q (.bool false) σ' | _ => False) σ
  | .meth o m as, ℓ, Q, σ => ev o ℓ (fun x σ' => clsW tb x m (fun c => evs as ℓ (fun vs σ'' => C c m (x :: vs) Q σ'') σ') σ') σ
  | .lmeth m o as, ℓ, Q, σ => ev o ℓ (fun x σ' => (match x with
      | .ref i => (match σ'[i]? with | some (.lst _) => evs as ℓ (fun vs σ'' => lmethW m x vs Q σ'') σ' | _ => False)
      | _ => False)) σ
  | .attr o m, ℓ, Q, σ => ev o ℓ (fun x σ' => attrW tb x m Q σ') σ
  | .sub o i, ℓ, Q, σ => ev o ℓ (fun x σ' => ev i ℓ (fun k σ'' => subW x k Q σ'') σ') σ
  | .slice o lo hi, ℓ, Q, σ => ev o ℓ (fun x σ' => ev lo ℓ (fun a σ'' => ev hi ℓ (fun b σ3 => sliceW x a b Q σ3) σ'') σ') σ
  | .tup es, ℓ, Q, σ => evs es ℓ (fun vs σ' => vs.length ≤ 1000 ∧ Q (.tup vs) σ') σ
  | .lst es, ℓ, Q, σ => evs es ℓ (fun vs σ' => vs.length ≤ 1000 ∧ Q (.ref σ'.length) (σ' ++ [.lst vs])) σ
  | .dct, _, Q, σ => Q (.ref σ.length) (σ ++ [.dct])
  | .comp elt x it ifs, ℓ, Q, σ => ev it ℓ (fun src σ' => ∃ m, m ≤ 1000000 ∧
      loopC (fun v K σ1 => truAll ifs (upd x v ℓ) (fun t σ2 => match t with
        | true => ev elt (upd x v ℓ) (fun y σ3 => K [y] σ3) σ2
        | false => K [] σ2) σ1) src m 0 [] (fun l σ4 => Q (.ref σ4.length) (σ4 ++ [.lst l])) σ') σ
  | .comp2 elt x it y it2, ℓ, Q, σ => ℓ.lookup y = none ∧ y ≠ x ∧ ev it ℓ (fun src σ' => ∃ m, m ≤ 999 ∧
      loopC (fun v K σ1 => ev it2 (upd x v ℓ) (fun src2 σ2 => ∃ m2, m2 ≤ 1000 ∧
        loopC (fun u K2 σ3 => ev elt (upd y u (upd x v ℓ)) (fun z σ4 => K2 [z] σ4) σ3) src2 m2 0 [] K σ2) σ1)
        src m 0 [] (fun l σ4 => Q (.ref σ4.length) (σ4 ++ [.lst l])) σ') σ
noncomputable def evs : List Ex → L → (List V → S → Prop) → S → Prop
  | [], _, Q, σ => Q [] σ
  | e :: r, ℓ, Q, σ => ev e ℓ (fun v σ' => evs r ℓ (fun vs σ'' => Q (v :: vs) σ'') σ') σ
noncomputable def evand (isAnd : Bool) : List Ex → L → (V → S → Prop) → S → Prop
  | [], _, _, _ => False
  | e :: r, ℓ, Q, σ => match r with
    | [] => ev e ℓ Q σ
    | _ :: _ => ev e ℓ (fun v σ' => match v with
      | .bool t => if t = isAnd then evand isAnd r ℓ Q σ' else Q v σ'
      | _ => False) σ
noncomputable def tru : Ex → L → (Bool → S → Prop) → S → Prop
  | .not e, ℓ, Q, σ => tru e ℓ (fun b σ' => Q (!b) σ') σ
  | .andor isAnd es, ℓ, Q, σ => truo isAnd es ℓ Q σ
  | .cmp op a b, ℓ, Q, σ => ev a ℓ (fun x σ' => ev b ℓ (fun y σ'' => cmpW op x y (fun t => Q t σ'') σ'') σ') σ
  | .var x, ℓ, Q, σ => match ℓ.lookup x with | some (.bool b) => Q b σ | _ => False
  | .call f as, ℓ, Q, σ => tb.fn f = true ∧ evs as ℓ (fun vs σ' => C "" f vs (fun v σ'' => match v with | .bool b => Q b σ'' | _ => False) σ') σ
  | .meth o m as, ℓ, Q, σ => ev o ℓ (fun x σ' => clsW tb x m (fun c => evs as ℓ (fun vs σ'' => C c m (x :: vs) (fun v σ3 => match v with | .bool b => Q b σ3 | _ => False) σ'') σ') σ') σ
  | .attr o m, ℓ, Q, σ => ev o ℓ (fun x σ' => attrW tb x m (fun v σ3 => match v with | .bool b => Q b σ3 | _ => False) σ') σ
  | _, _, _, _ => False
noncomputable def truo (isAnd : Bool) : List Ex → L → (Bool → S → Prop) → S → Prop
  | [], _, Q, σ => Q isAnd σ
  | e :: r, ℓ, Q, σ => tru e ℓ (fun b σ' => if b = isAnd then truo isAnd r ℓ Q σ' else Q b σ') σ
noncomputable def truAll : List Ex → L → (Bool → S → Prop) → S → Prop
  | [], _, Q, σ => Q true σ
  | e :: r, ℓ, Q, σ => tru e ℓ (fun b σ' => match b with | true => truAll r ℓ Q σ' | false => Q false σ') σ
end
mutual
noncomputable def ex : St → L → (Fl → L → S → Prop) → S → Prop
  | .pass, ℓ, Q, σ => Q .next ℓ σ
  | .stuck, _, _, _ => False
  | .expr e, ℓ, Q, σ => ev C tb e ℓ (fun _ σ' => Q .next ℓ σ') σ
  | .ret e, ℓ, Q, σ => ev C tb e ℓ (fun v σ' => Q (.ret v) ℓ σ') σ
  | .assign x e, ℓ, Q, σ => ev C tb e ℓ (fun v σ' => Q .next (upd x v ℓ) σ') σ
  | .assignT xs e, ℓ, Q, σ => ev C tb e ℓ (fun v σ' => match v with
      | .tup vs => vs.length = xs.length ∧ Q .next ((xs.zip vs).foldl (fun ℓ p => upd p.1 p.2 ℓ) ℓ) σ'
      | _ => False) σ
  | .setattr o m e, ℓ, Q, σ => ev C tb e ℓ (fun v σ' => ev C tb o ℓ (fun x σ'' => setattrW tb x m v (fun σ3 => Q .next ℓ σ3) σ'') σ') σ
  | .setitem o i e, ℓ, Q, σ => ev C tb e ℓ (fun v σ' => ev C tb o ℓ (fun x σ'' => ev C tb i ℓ (fun k σ3 => setitemW x k v (fun σ4 => Q .next ℓ σ4) σ3) σ'') σ') σ
  | .aug op x e, ℓ, Q, σ => match ℓ.lookup x with
    | some (.int a) => op = .Add ∧ ev C tb e ℓ (fun v σ' => match v with | .int b => Q .next (upd x (.int (a + b)) ℓ) σ' | _ => False) σ
    | _ => False
  | .ite c a b, ℓ, Q, σ => tru C tb c ℓ (fun t σ' => match t with | true => exs a ℓ Q σ' | false => exs b ℓ Q σ') σ
  | .while c b, ℓ, Q, σ => ∃ m, loopW (fun ℓ' K σ' => tru C tb c ℓ' K σ') (fun ℓ' K σ' => exs b ℓ' K σ') m ℓ Q σ
  | .for x it b, ℓ, Q, σ => ev C tb it ℓ (fun src σ' => ∃ m, loopF (fun v ℓ' K σ1 => exs b (upd x v ℓ') K σ1) src m 0 ℓ Q σ') σ
noncomputable def exs : List St → L → (Fl → L → S → Prop) → S → Prop
  | [], ℓ, Q, σ => Q .next ℓ σ
  | s :: r, ℓ, Q, σ => ex s ℓ (fun f ℓ' σ' => match f with | .next => exs r ℓ' Q σ' | .ret v => Q (.ret v) ℓ' σ') σ
end
end

noncomputable def bindp : List Str → List V → List V → Option L
  | [], _, [] => some []
  | x :: xs, ds, v :: vs => (bindp xs ds vs).map ((x, v) :: ·)
  | x :: xs, ds, [] => match ds with
    | d :: ds' => if xs.length = ds'.length then (bindp xs ds' []).map ((x, d) :: ·) else none
    | [] => none
  | [], _, _ :: _ => none

noncomputable def callW (T : Str → Str → Option Ent) (tb : Tb) : Nat → Or
  | 0, _, _, _, _, _ => False
  | n + 1, c, f, vs, Q, σ => match T c f with
    | some (.fn fn) => (match bindp fn.params fn.dflts vs with
      | some ℓ => exs (callW T tb n) tb fn.body ℓ (fun fl _ σ' => match fl with | .ret v => Q v σ' | .next => Q .none σ') σ
      | none => False)
    | some .cls => callW T tb n f "__init__" (.ref σ.length :: vs) (fun v σ' => v = .none ∧ Q (.ref σ.length) σ') (σ ++ [.inst f []])
    | none => False

/-! the text's own terms read as these -/
noncomputable def okBase : Expr → Bool
  | .Call (.Name _ _) [] [] _ => false
  | _ => true
noncomputable def notSlice : Expr → Bool
  | .Slice .. => false
  | _ => true
noncomputable def notSet : Expr → Bool
  | .Set .. => false
  | _ => true
noncomputable def notStar : Expr → Bool
  | .Starred .. => false
  | _ => true
noncomputable def isVar : Option NameKind → Bool
  | some .local => true
  | some .cell => true
  | some .free => true
  | _ => false
noncomputable def kindVar (k : Option NameKind) : Bool := isVar k
noncomputable def compOk (sc : List (Str × NameKind)) (scope : Scope) : Bool :=
  scope.kind == .function && (scope.names.lookup (".0" : Str) == some .local) && scope.names.all (fun y => (y.2 == .local && scope.names.lookup y.1 == some .local) || (y.2 == .free && scope.names.lookup y.1 == some .free && (sc.lookup y.1 == some .cell || sc.lookup y.1 == some .free)) || (y.2 == .globalImplicit && scope.names.lookup y.1 == some .globalImplicit))
noncomputable def localsIn (xs : List Str) (scope : Scope) : Bool := scope.names.all fun y => y.2 != .local || xs.contains y.1
noncomputable def bltOf (f : Str) : Option Bi :=
  if f = "len" then some .len else if f = "range" then some .range else if f = "max" then some .max else if f = "int" then some .int else
  if f = "sum" then some .sum else if f = "tuple" then some .tuple else if f = "list" then some .list else none
noncomputable def lmOf (f : Str) : Option LM :=
  if f = "append" then some .append else if f = "pop" then some .pop else if f = "extend" then some .extend else none

noncomputable abbrev NK := List (Str × NameKind)
noncomputable def nameOf : Expr → Option Str
  | .Name x _ => some x
  | _ => none
noncomputable def sliceOf : Expr → Option (Option Expr × Option Expr × Option Expr)
  | .Slice a b c _ => some (a, b, c)
  | _ => none
noncomputable def attrOf : Expr → Option (Expr × Str × Pos)
  | .Attribute o m p => some (o, m, p)
  | _ => none
section
variable (f : NK → Expr → Option Ex) (g : NK → List Expr → Option (List Ex)) (o : NK → Option Expr → Option Ex)
noncomputable def tConst : Const → Option Ex
  | .none => some (.lit .none)
  | .bool b => some (.lit (.bool b))
  | .int i => some (.lit (.int i))
  | .str s => some (.lit (.str s))
  | _ => none
noncomputable def tName (sc : NK) (x : Str) : Option Ex := if (x == ("__debug__" : Str)) = true ∨ (x == ("__classdict__" : Str)) = true ∨ (x == (".0" : Str)) = true then none else
  if isVar (sc.lookup x) then some (.var x) else if sc.lookup x = some .globalImplicit then some (.glob x) else none
noncomputable def tUn (op : UnaryOp) (x : Option Ex) : Option Ex := match op with
  | .Not => x.map .not
  | .USub => x.map .neg
  | _ => none
noncomputable def tCmp (sc : NK) (l : Expr) : List CmpOp → List Expr → Option Ex
  | [op], [r] => if notSet r then (f sc l).bind fun a => (f sc r).map fun b => .cmp op a b else none
  | [op, op'], [r, r'] => if notSet r && notSet r' then (f sc l).bind fun a => (f sc r).bind fun b => (f sc r').map fun c => .cmp2 op op' a b c else none
  | _, _ => none
noncomputable def tIs (sc : NK) : List Expr → Option Ex
  | [x, y] => (nameOf y).bind fun t => if t = "tuple" && sc.lookup t = some .globalImplicit then (f sc x).map .isTup else none
  | _ => none
noncomputable def tCallN (sc : NK) (h : Str) (as : List Expr) : Option Ex := if sc.lookup h = some .globalImplicit && as.all notStar && (h == ("__debug__" : Str)) = false then
  (if h = "isinstance" then tIs f sc as else (g sc as).map fun es => match bltOf h with | some b => .blt b es | none => .call h es) else none
noncomputable def tCallA (sc : NK) (x : Expr) (m : Str) (apos : Pos) (as : List Expr) (pos : Pos) : Option Ex :=
  if apos.endLine == pos.line && okBase x && as.all notStar && decide (as.length < 20) then
    (f sc x).bind fun o' => (g sc as).map fun es => (match lmOf m with | some k => .lmeth k o' es | none => .meth o' m es) else none
noncomputable def tCall (sc : NK) (h : Expr) (as : List Expr) (kw : List Keyword) (pos : Pos) : Option Ex := match kw with
  | [] => (match nameOf h with
    | some n => tCallN f g sc n as
    | none => (attrOf h).bind fun p => tCallA f g sc p.1 p.2.1 p.2.2 as pos)
  | _ => none
noncomputable def tSub (sc : NK) (x i : Expr) : Option Ex := match sliceOf i with
  | some (lo, hi, none) => (f sc x).bind fun o' => (o sc lo).bind fun a => (o sc hi).map fun b => .slice o' a b
  | some (_, _, some _) => none
  | none => (f sc x).bind fun o' => (f sc i).map fun i' => .sub o' i'
noncomputable def tDict : List (Option Expr) → List Expr → Option Ex
  | [], [] => some .dct
  | _, _ => none
noncomputable def tComp1 (sc : NK) (elt : Expr) (x : Str) (it : Expr) (ifs : List Expr) (scope : Scope) : Option Ex :=
  if compOk sc scope && notSet it && scope.names.lookup x == some .local && localsIn [".0", x] scope then
    (f sc it).bind fun it' => (g scope.names ifs).bind fun ifs' => (f scope.names elt).map fun elt' => .comp elt' x it' ifs' else none
noncomputable def tComp2 (sc : NK) (elt : Expr) (x : Str) (it : Expr) (y : Str) (it2 : Expr) (scope : Scope) : Option Ex :=
  if compOk sc scope && notSet it && notSet it2 && scope.names.lookup x == some .local && scope.names.lookup y == some .local && localsIn [".0", x, y] scope then
    (f sc it).bind fun it' => (f scope.names it2).bind fun it2' => (f scope.names elt).map fun elt' => .comp2 elt' x it' y it2' else none
noncomputable def tC1 (sc : NK) (elt : Expr) (scope : Scope) (c : Comprehension) : Option Ex := match c with
  | ⟨t, it, ifs, z⟩ => if z == 0 then (nameOf t).bind fun x => tComp1 f g sc elt x it ifs scope else none
noncomputable def tC2 (sc : NK) (elt : Expr) (scope : Scope) (c d : Comprehension) : Option Ex := match c with
  | ⟨t, it, ifs, z⟩ => match d with
    | ⟨u, it2, ifs2, z2⟩ => if z == 0 && z2 == 0 && ifs.isEmpty && ifs2.isEmpty then (nameOf t).bind fun x => (nameOf u).bind fun y => tComp2 f sc elt x it y it2 scope else none
noncomputable def tComp (sc : NK) (elt : Expr) (scope : Scope) (cs : List Comprehension) : Option Ex := match cs with
  | [] => none
  | c :: r => match r with
    | [] => tC1 f g sc elt scope c
    | d :: r' => match r' with
      | [] => tC2 f sc elt scope c d
      | _ :: _ => none
noncomputable def tE (sc : NK) (e : Expr) : Option Ex := match e with
  | .Constant c _ _ => tConst c
  | .Name x _ => tName sc x
  | .BoolOp op vs _ => (g sc vs).map (.andor (op == .And))
  | .UnaryOp op x _ => tUn op (f sc x)
  | .BinOp l op r _ => (f sc l).bind fun a => (f sc r).map fun b => .bin op a b
  | .IfExp c a b _ => (f sc c).bind fun c' => (f sc a).bind fun a' => (f sc b).map fun b' => .ite c' a' b'
  | .Compare l ops rs _ => tCmp f sc l ops rs
  | .Call h as kw pos => tCall f g sc h as kw pos
  | .Attribute x m _ => if okBase x then (f sc x).map fun o' => .attr o' m else none
  | .Subscript x i _ => tSub f o sc x i
  | .Tuple es _ _ => if es.all notStar then (g sc es).map .tup else none
  | .List es _ => if es.all notStar then (g sc es).map .lst else none
  | .Dict ks vs _ => tDict ks vs
  | .ListComp elt gs scope _ => tComp f g sc elt scope gs
  | _ => none
noncomputable def tEs (sc : NK) : List Expr → Option (List Ex)
  | [] => some []
  | e :: r => (f sc e).bind fun e' => (g sc r).map fun r' => e' :: r'
noncomputable def tO (sc : NK) : Option Expr → Option Ex
  | none => some (.lit .none)
  | some e => f sc e
end
noncomputable abbrev TrA := (NK → Expr → Option Ex) × (NK → List Expr → Option (List Ex)) × (NK → Option Expr → Option Ex)
noncomputable def stepA (p : TrA) : TrA := (tE p.1 p.2.1 p.2.2, tEs p.1 p.2.1, tO p.1)
noncomputable def trA (n : Nat) : TrA := Nat.rec (fun _ _ => none, fun _ _ => none, fun _ _ => none) (fun _ p => stepA p) n
noncomputable def trE (n : Nat) : NK → Expr → Option Ex := (trA n).1
noncomputable def trEs (n : Nat) : NK → List Expr → Option (List Ex) := (trA n).2.1
noncomputable def trO (n : Nat) : NK → Option Expr → Option Ex := (trA n).2.2

noncomputable def namesIn : List Expr → Option (List Str)
  | [] => some []
  | .Name x _ :: r => (namesIn r).map (x :: ·)
  | _ => none
noncomputable def tupFine : Expr → Bool
  | .Tuple vs _ _ => vs.all (foldedForSure 8) || !vs.all (constantsAlone 8)
  | _ => true
noncomputable def isCall : Expr → Bool
  | .Call .. => true
  | _ => false

section
variable (f : NK → Expr → Option Ex) (b : NK → List Stmt → List St)
noncomputable def okT (sc : NK) (x : Str) : Bool := isVar (sc.lookup x) && sc.lookup x != some .free
noncomputable def tAssign (sc : NK) (t : Expr) (e : Expr) : Option St := match t with
  | .Name x _ => if okT sc x then (f sc e).map (.assign x) else none
  | .Tuple ts _ _ => (namesIn ts).bind fun xs => if xs.all (okT sc) && decide xs.Nodup && tupFine e && decide (xs.length < 20) then (f sc e).map (.assignT xs) else none
  | .Attribute o m _ => (f sc e).bind fun e' => (f sc o).map fun o' => .setattr o' m e'
  | .Subscript o i _ => if notSlice i then (f sc e).bind fun e' => (f sc o).bind fun o' => (f sc i).map fun i' => .setitem o' i' e' else none
  | _ => none
noncomputable def tS (sc : NK) (s : Stmt) : Option St := match s with
  | .Pass _ => some .pass
  | .Expr e _ => if isCall e then (f sc e).map .expr else none
  | .Return v _ => (match v with
    | some e => (f sc e).map .ret
    | none => some (.ret (.lit .none)))
  | .Assign ts e _ => (match ts with
    | [t] => tAssign f sc t e
    | _ => none)
  | .AugAssign t op e _ => (nameOf t).bind fun x => if okT sc x && !((x == ("__classdict__" : Str)) || (x == (".0" : Str))) then (f sc e).map (.aug op x) else none
  | .If c a d _ => (f sc c).map fun c' => .ite c' (b sc a) (b sc d)
  | .While c d els _ => (match els with
    | [] => (f sc c).map fun c' => .while c' (b sc d)
    | _ => none)
  | .For t it d els _ => (match els with
    | [] => (nameOf t).bind fun x => if okT sc x && notSet it then (f sc it).map fun it' => .for x it' (b sc d) else none
    | _ => none)
  | _ => none
end
noncomputable abbrev TrB := (NK → Stmt → Option St) × (NK → List Stmt → List St)
noncomputable def orStuck : Option St → St
  | some s => s
  | none => .stuck
noncomputable def tSs (p : TrB) (sc : NK) : List Stmt → List St
  | [] => []
  | s :: r => orStuck (p.1 sc s) :: p.2 sc r
noncomputable def trB (n : Nat) : TrB := Nat.rec (fun _ _ => none, fun _ _ => [.stuck]) (fun n p => (tS (trE n) p.2, tSs p)) n
noncomputable def trS (n : Nat) : NK → Stmt → Option St := (trB n).1
noncomputable def trSs (n : Nat) : NK → List Stmt → List St := (trB n).2
end Mine

end
section
open PySem PySem.W PySem.Calls PyProof.Rows
set_option Elab.async false
namespace Mine

noncomputable abbrev Rho := List (Addr × Addr)
noncomputable def InR (ρ : Rho) (b : Addr) : Prop := ∃ p ∈ ρ, b = p.1 ∨ b = p.2

noncomputable abbrev tupObj (vs : List Value) (n : Nat) : Obj := ⟨.type "tuple", none, .seq vs.toArray n, #[]⟩

mutual
noncomputable def VR (h : Heap) (ρ : Rho) : V → Value → Prop
  | .none, v => v = .none
  | .bool b, v => v = .bool b
  | .int i, v => ∃ t, v = .int i t
  | .str s, v => ∃ t, v = .str s t
  | .tup l, v => ∃ a vs n, v = .ref a ∧ h.get? a = some (tupObj vs n) ∧ VRs h ρ l vs
  | .ref i, v => ∃ p, ρ[i]? = some p ∧ v = .ref p.1
  | .rng a c n, v => ∃ r b t u y, v = .ref r ∧ IsRange h r a b c t u y ∧ Builtin.Range.rangeSize a b c = (n : Int) ∧ Builtin.Range.small a b c = true
noncomputable def VRs (h : Heap) (ρ : Rho) : List V → List Value → Prop
  | [], vs => vs = []
  | v :: r, vs => ∃ x xs, vs = x :: xs ∧ VR h ρ v x ∧ VRs h ρ r xs
end

noncomputable def FR (h : Heap) (ρ : Rho) : List (Str × V) → List DictEntry → Prop
  | [], es => es = []
  | p :: r, es => ∃ e es', es = e :: es' ∧ (∃ t, e.key = .str p.1 t) ∧ VR h ρ p.2 e.val ∧ FR h ρ r es'

/-- what stands once made -/
noncomputable def Firm (o : Obj) : Prop := (o.cls = .type "tuple" ∨ o.cls = .type "range") ∧ ((∃ xs n, o.data = .seq xs n) ∨ ∃ xs, o.data = .fields xs)
theorem firm_tup (vs : List Value) (n : Nat) : Firm (tupObj vs n) := ⟨.inl rfl, .inl ⟨_, _, rfl⟩⟩
theorem firm_dict {o : Obj} {es : Array DictEntry} {ep : Nat} (h : o.data = .dict es ep) : ¬ Firm o := by
  rintro ⟨_, ⟨xs, n, e⟩ | ⟨xs, e⟩⟩ <;> rw [h] at e <;> cases e
theorem firm_cell {o : Obj} {u : Option Value} (h : o.data = .cell u) : ¬ Firm o := by
  rintro ⟨_, ⟨xs, n, e⟩ | ⟨xs, e⟩⟩ <;> rw [h] at e <;> cases e
theorem firm_ns {h : Heap} {a : Addr} {m : Str → Option Value} (n : h.Ns a m) : ∀ o, h.get? a = some o → ¬ Firm o := by
  intro o e
  obtain ⟨o', es, ep, g, hd, _⟩ := n
  rw [g] at e; cases e; exact firm_dict hd

mutual
theorem VR.mono {h h' : Heap} {ρ ρ' : Rho} (hk : ∀ b o, Firm o → h.get? b = some o → h'.get? b = some o) (hr : ∀ (i : Nat) p, ρ[i]? = some p → ρ'[i]? = some p) :
    ∀ {v : V} {x : Value}, VR h ρ v x → VR h' ρ' v x
  | .none, _, e => e
  | .bool b, _, e => e
  | .int i, _, e => e
  | .str s, _, e => e
  | .tup l, _, e => by
    dsimp only [VR] at e ⊢
    obtain ⟨a, vs, n, rfl, hg, hv⟩ := e
    exact ⟨a, vs, n, rfl, hk _ _ (firm_tup _ _) hg, VRs.mono hk hr hv⟩
  | .ref i, _, e => by
    dsimp only [VR] at e ⊢
    obtain ⟨p, hp, rfl⟩ := e
    exact ⟨p, hr _ _ hp, rfl⟩
  | .rng a c n, _, e => by
    dsimp only [VR] at e ⊢
    obtain ⟨r, b, t, u, y, rfl, hg, h1, h2⟩ := e
    exact ⟨r, b, t, u, y, rfl, hk _ _ ⟨.inr rfl, .inr ⟨_, rfl⟩⟩ hg, h1, h2⟩
theorem VRs.mono {h h' : Heap} {ρ ρ' : Rho} (hk : ∀ b o, Firm o → h.get? b = some o → h'.get? b = some o) (hr : ∀ (i : Nat) p, ρ[i]? = some p → ρ'[i]? = some p) :
    ∀ {l : List V} {vs : List Value}, VRs h ρ l vs → VRs h' ρ' l vs
  | [], _, e => e
  | v :: r, _, e => by
    dsimp only [VRs] at e ⊢
    obtain ⟨x, xs, rfl, h1, h2⟩ := e
    exact ⟨x, xs, rfl, VR.mono hk hr h1, VRs.mono hk hr h2⟩
end

theorem FR.mono {h h' : Heap} {ρ ρ' : Rho} (hk : ∀ b o, Firm o → h.get? b = some o → h'.get? b = some o) (hr : ∀ (i : Nat) p, ρ[i]? = some p → ρ'[i]? = some p) :
    ∀ {l : List (Str × V)} {es : List DictEntry}, FR h ρ l es → FR h' ρ' l es
  | [], _, e => e
  | p :: r, _, e => by
    dsimp only [FR] at e ⊢
    obtain ⟨x, xs, rfl, h1, h2, h3⟩ := e
    exact ⟨x, xs, rfl, h1, VR.mono hk hr h2, FR.mono hk hr h3⟩

theorem VRs.length {h : Heap} {ρ : Rho} : ∀ {l : List V} {vs : List Value}, VRs h ρ l vs → vs.length = l.length
  | [], _, e => by dsimp only [VRs] at e; subst e; rfl
  | v :: r, _, e => by
    dsimp only [VRs] at e
    obtain ⟨x, xs, rfl, h1, h2⟩ := e
    simp [VRs.length h2]
theorem VRs.get {h : Heap} {ρ : Rho} : ∀ {l : List V} {vs : List Value} {k : Nat} {v : V}, VRs h ρ l vs → l[k]? = some v → ∃ x, vs[k]? = some x ∧ VR h ρ v x
  | [], _, _, _, _, e => by simp at e
  | u :: r, _, k, v, e, hk => by
    dsimp only [VRs] at e
    obtain ⟨x, xs, rfl, h1, h2⟩ := e
    cases k with
    | zero => simp at hk; subst hk; exact ⟨x, rfl, h1⟩
    | succ k => simpa using VRs.get h2 (by simpa using hk)
theorem VRs.append {h : Heap} {ρ : Rho} : ∀ {l r : List V} {vs ws : List Value}, VRs h ρ l vs → VRs h ρ r ws → VRs h ρ (l ++ r) (vs ++ ws)
  | [], _, _, _, e, f => by dsimp only [VRs] at e; subst e; simpa using f
  | u :: l, _, _, _, e, f => by
    dsimp only [VRs] at e
    obtain ⟨x, xs, rfl, h1, h2⟩ := e
    simp only [List.cons_append, VRs]
    exact ⟨x, _, rfl, h1, VRs.append h2 f⟩
theorem VRs.take {h : Heap} {ρ : Rho} : ∀ {l : List V} {vs : List Value} (k : Nat), VRs h ρ l vs → VRs h ρ (l.take k) (vs.take k)
  | _, _, 0, _ => by simp [VRs]
  | [], _, k + 1, e => by dsimp only [VRs] at e; subst e; simp [VRs]
  | u :: l, _, k + 1, e => by
    dsimp only [VRs] at e
    obtain ⟨x, xs, rfl, h1, h2⟩ := e
    simp only [List.take_succ_cons, VRs]
    exact ⟨x, _, rfl, h1, VRs.take k h2⟩
theorem VRs.drop {h : Heap} {ρ : Rho} : ∀ {l : List V} {vs : List Value} (k : Nat), VRs h ρ l vs → VRs h ρ (l.drop k) (vs.drop k)
  | _, _, 0, e => by simpa using e
  | [], _, k + 1, e => by dsimp only [VRs] at e; subst e; simp [VRs]
  | u :: l, _, k + 1, e => by
    dsimp only [VRs] at e
    obtain ⟨x, xs, rfl, h1, h2⟩ := e
    simpa using VRs.drop k h2
theorem VRs.set {h : Heap} {ρ : Rho} {v : V} {x : Value} (hv : VR h ρ v x) : ∀ {l : List V} {vs : List Value} (k : Nat), VRs h ρ l vs → VRs h ρ (l.set k v) (vs.set k x)
  | [], _, k, e => by dsimp only [VRs] at e; subst e; simp [VRs]
  | u :: l, _, 0, e => by
    dsimp only [VRs] at e
    obtain ⟨y, xs, rfl, h1, h2⟩ := e
    simp only [List.set_cons_zero, VRs]
    exact ⟨x, _, rfl, hv, h2⟩
  | u :: l, _, k + 1, e => by
    dsimp only [VRs] at e
    obtain ⟨y, xs, rfl, h1, h2⟩ := e
    simp only [List.set_cons_succ, VRs]
    exact ⟨y, _, rfl, h1, VRs.set hv k h2⟩
theorem VRs.replicate {h : Heap} {ρ : Rho} {v : V} {x : Value} (hv : VR h ρ v x) : ∀ k : Nat, VRs h ρ (List.replicate k v) (List.replicate k x)
  | 0 => by simp [VRs]
  | k + 1 => by simp only [List.replicate_succ, VRs]; exact ⟨x, _, rfl, hv, VRs.replicate hv k⟩

/-- what the text's top gives -/
structure Cx where
  K : Frag
  h₀ : Heap
  p : Program
  loose : List Str
  mean : ExcName → Option Value
  mg : Str → Option Value
  mb : Str → Option Value
  X : K.In h₀
  T : Top p loose mean mg mb h₀

noncomputable def clsAddr (K : Frag) (c : Str) : Option Addr := match nsIn K mainGlobals c with
  | some (some (.ref a)) => some a
  | _ => none

noncomputable def OR (K : Frag) (h : Heap) (ρ : Rho) : O → Addr × Addr → Prop
  | .lst l, p => p.2 = p.1 ∧ ∃ vs : List Value, h.PlainList p.1 vs.toArray ∧ VRs h ρ l vs
  | .inst c fs, p => p.1 ≠ p.2 ∧ ∃ C es n, clsAddr K c = some C ∧ h.get? p.1 = some (instObj C p.2) ∧ h.get? p.2 = some (dictOf es n) ∧ FR h ρ fs es
  | .dct, p => p.2 = p.1 ∧ ∃ o, h.get? p.1 = some o ∧ o.cls = .type "dict"
  | .frz l, p => p.2 = p.1 ∧ ∃ vs : List Value, h.IsList p.1 vs.toArray ∧ VRs h ρ l vs

structure Sim (cx : Cx) (ρ : Rho) (σ : S) (h : Heap) : Prop where
  base : ∀ b o, cx.h₀.get? b = some o → h.get? b = some o
  len : ρ.length = σ.length
  obj : ∀ (i : Nat) o p, σ[i]? = some o → ρ[i]? = some p → OR cx.K h ρ o p
  fresh : ∀ (i : Nat) o p, σ[i]? = some o → ρ[i]? = some p → o.frozen = false → cx.h₀.get? p.1 = none ∧ cx.h₀.get? p.2 = none
  apart : ∀ (i j : Nat) p q, ρ[i]? = some p → ρ[j]? = some q → i ≠ j → p.1 ≠ q.1 ∧ p.1 ≠ q.2 ∧ p.2 ≠ q.1 ∧ p.2 ≠ q.2

theorem InR.of_get {ρ : Rho} {i : Nat} {p : Addr × Addr} (h : ρ[i]? = some p) : InR ρ p.1 ∧ InR ρ p.2 :=
  ⟨⟨p, List.mem_of_getElem? h, .inl rfl⟩, ⟨p, List.mem_of_getElem? h, .inr rfl⟩⟩
theorem Sim.at {cx : Cx} {ρ : Rho} {σ : S} {h : Heap} (S : Sim cx ρ σ h) {i : Nat} {o : O} (e : σ[i]? = some o) : ∃ p, ρ[i]? = some p ∧ OR cx.K h ρ o p := by
  obtain ⟨hlt, _⟩ := List.getElem?_eq_some_iff.mp e
  have hlt' : i < ρ.length := by rw [S.len]; exact hlt
  exact ⟨ρ[i], List.getElem?_eq_getElem hlt', S.obj i o _ e (List.getElem?_eq_getElem hlt')⟩
theorem Sim.back {cx : Cx} {ρ : Rho} {σ : S} {h : Heap} (S : Sim cx ρ σ h) {i : Nat} {p : Addr × Addr} (e : ρ[i]? = some p) : ∃ o, σ[i]? = some o ∧ OR cx.K h ρ o p := by
  obtain ⟨hlt, _⟩ := List.getElem?_eq_some_iff.mp e
  have hlt' : i < σ.length := by rw [← S.len]; exact hlt
  exact ⟨σ[i], List.getElem?_eq_getElem hlt', S.obj i _ p (List.getElem?_eq_getElem hlt') e⟩
theorem OR.live {K : Frag} {h : Heap} {ρ : Rho} {o : O} {p : Addr × Addr} (x : OR K h ρ o p) : ∀ b, b = p.1 ∨ b = p.2 → ∃ o', h.get? b = some o' ∧ ¬ Firm o' := by
  intro b hb
  cases o with
  | lst l =>
    obtain ⟨e, vs, ⟨n, g⟩, _⟩ := x
    rcases hb with rfl | rfl
    · exact ⟨_, g, by simp [Firm]⟩
    · exact ⟨_, e ▸ g, by simp [Firm]⟩
  | inst c fs =>
    obtain ⟨e, C, es, n, _, g1, g2, _⟩ := x
    rcases hb with rfl | rfl
    · exact ⟨_, g1, by simp [Firm]⟩
    · exact ⟨_, g2, by simp [Firm]⟩
  | dct =>
    obtain ⟨e, o', g, hc⟩ := x
    rcases hb with rfl | rfl
    · exact ⟨_, g, by simp [Firm, hc]⟩
    · exact ⟨_, e ▸ g, by simp [Firm, hc]⟩
  | frz l =>
    obtain ⟨e, vs, ⟨o', g, hc, _⟩, _⟩ := x
    rcases hb with rfl | rfl
    · exact ⟨_, g, by simp [Firm, hc]⟩
    · exact ⟨_, e ▸ g, by simp [Firm, hc]⟩
theorem Sim.live {cx : Cx} {ρ : Rho} {σ : S} {h : Heap} (S : Sim cx ρ σ h) {b : Addr} (hb : InR ρ b) : ∃ o', h.get? b = some o' ∧ ¬ Firm o' := by
  obtain ⟨p, hp, e⟩ := hb
  obtain ⟨i, hi⟩ := List.mem_iff_getElem?.mp hp
  obtain ⟨o, _, x⟩ := S.back hi
  exact x.live b e

/-- from one state to a later one: what the store does not hold stays -/
structure Stp (ρ : Rho) (h : Heap) (ρ' : Rho) (h' : Heap) : Prop where
  ext : ∃ e, ρ' = ρ ++ e ∧ ∀ p ∈ e, h.get? p.1 = none ∧ h.get? p.2 = none
  keep : ∀ b o, ¬ InR ρ b → h.get? b = some o → h'.get? b = some o

theorem Stp.refl {ρ : Rho} {h : Heap} : Stp ρ h ρ h := ⟨⟨[], by simp, by simp⟩, fun _ _ _ e => e⟩
theorem Stp.get {ρ ρ' : Rho} {h h' : Heap} (x : Stp ρ h ρ' h') : ∀ (i : Nat) p, ρ[i]? = some p → ρ'[i]? = some p := by
  obtain ⟨e, rfl, _⟩ := x.ext
  intro i p hi
  obtain ⟨hlt, _⟩ := List.getElem?_eq_some_iff.mp hi
  rw [List.getElem?_append_left hlt]; exact hi
theorem Stp.off {ρ ρ' : Rho} {h h' : Heap} (x : Stp ρ h ρ' h') {b : Addr} {o : Obj} (hb : ¬ InR ρ b) (hg : h.get? b = some o) : ¬ InR ρ' b := by
  obtain ⟨e, rfl, hn⟩ := x.ext
  rintro ⟨p, hp, hq⟩
  rcases List.mem_append.mp hp with hp | hp
  · exact hb ⟨p, hp, hq⟩
  · rcases hq with rfl | rfl
    · rw [(hn p hp).1] at hg; cases hg
    · rw [(hn p hp).2] at hg; cases hg
theorem Stp.trans {cx : Cx} {ρ ρ₁ ρ₂ : Rho} {σ₁ : S} {h h₁ h₂ : Heap} (x : Stp ρ h ρ₁ h₁) (S : Sim cx ρ₁ σ₁ h₁) (y : Stp ρ₁ h₁ ρ₂ h₂) : Stp ρ h ρ₂ h₂ := by
  obtain ⟨e, he, hn⟩ := id x.ext
  obtain ⟨f, hf, hm⟩ := y.ext
  have old : ∀ b, h₁.get? b = none → h.get? b = none := fun b hb => by
    cases hq : h.get? b with
    | none => rfl
    | some o =>
      exfalso
      by_cases hr : InR ρ b
      · have : InR ρ₁ b := by
          obtain ⟨p, hp, hq⟩ := hr
          exact ⟨p, by rw [he]; exact List.mem_append_left _ hp, hq⟩
        obtain ⟨o', ho', _⟩ := S.live this
        rw [hb] at ho'; cases ho'
      · rw [x.keep b o hr hq] at hb; cases hb
  refine ⟨⟨e ++ f, by rw [hf, he, List.append_assoc], fun p hp => ?_⟩, fun b o hb hg => y.keep b o (x.off hb hg) (x.keep b o hb hg)⟩
  rcases List.mem_append.mp hp with hp | hp
  · exact hn p hp
  · exact ⟨old _ (hm p hp).1, old _ (hm p hp).2⟩
theorem Stp.firm {cx : Cx} {ρ ρ' : Rho} {σ : S} {h h' : Heap} (x : Stp ρ h ρ' h') (S : Sim cx ρ σ h) : ∀ b o, Firm o → h.get? b = some o → h'.get? b = some o := by
  intro b o hf hg
  refine x.keep b o (fun hb => ?_) hg
  obtain ⟨o', ho', hn⟩ := S.live hb
  rw [hg] at ho'; cases ho'; exact hn hf
theorem Stp.vr {cx : Cx} {ρ ρ' : Rho} {σ : S} {h h' : Heap} (x : Stp ρ h ρ' h') (S : Sim cx ρ σ h) {v : V} {y : Value} (r : VR h ρ v y) : VR h' ρ' v y := r.mono (x.firm S) x.get
theorem Stp.vrs {cx : Cx} {ρ ρ' : Rho} {σ : S} {h h' : Heap} (x : Stp ρ h ρ' h') (S : Sim cx ρ σ h) {v : List V} {y : List Value} (r : VRs h ρ v y) : VRs h' ρ' v y := r.mono (x.firm S) x.get

/-- a heap that only knows more -/
theorem OR.keeps {K : Frag} {h h' : Heap} {ρ ρ' : Rho} (hk : ∀ b o, h.get? b = some o → h'.get? b = some o) (hr : ∀ (i : Nat) p, ρ[i]? = some p → ρ'[i]? = some p) {o : O} {p : Addr × Addr} (x : OR K h ρ o p) : OR K h' ρ' o p := by
  cases o with
  | lst l => obtain ⟨e, vs, g, r⟩ := x; exact ⟨e, vs, g.at fun o => hk _ o, r.mono (fun b o _ => hk b o) hr⟩
  | inst c fs => obtain ⟨e, C, es, n, c, g1, g2, r⟩ := x; exact ⟨e, C, es, n, c, hk _ _ g1, hk _ _ g2, r.mono (fun b o _ => hk b o) hr⟩
  | dct => obtain ⟨e, o, g, c⟩ := x; exact ⟨e, o, hk _ _ g, c⟩
  | frz l => obtain ⟨e, vs, g, r⟩ := x; exact ⟨e, vs, g.at fun o => hk _ o, r.mono (fun b o _ => hk b o) hr⟩
theorem Sim.keeps {cx : Cx} {ρ : Rho} {σ : S} {h h' : Heap} (S : Sim cx ρ σ h) (hk : ∀ b o, h.get? b = some o → h'.get? b = some o) : Sim cx ρ σ h' :=
  ⟨fun b o e => hk b o (S.base b o e), S.len, fun i o p e1 e2 => (S.obj i o p e1 e2).keeps hk (fun _ _ e => e), S.fresh, S.apart⟩
theorem Stp.of_keeps {ρ : Rho} {h h' : Heap} (hk : ∀ b o, h.get? b = some o → h'.get? b = some o) : Stp ρ h ρ h' := ⟨⟨[], by simp, by simp⟩, fun b o _ => hk b o⟩

/-- what is left alone but for addresses outside of the store -/
theorem Sim.off {cx : Cx} {ρ : Rho} {σ : S} {h h' : Heap} (S : Sim cx ρ σ h) (X : Addr → Prop) (hX : ∀ b, X b → ¬ InR ρ b ∧ cx.h₀.get? b = none ∧ ∀ o, h.get? b = some o → ¬ Firm o)
    (hk : ∀ b o, ¬ X b → h.get? b = some o → h'.get? b = some o) : Sim cx ρ σ h' := by
  have firm : ∀ b o, Firm o → h.get? b = some o → h'.get? b = some o := fun b o hf hg => hk b o (fun hx => (hX b hx).2.2 o hg hf) hg
  refine ⟨fun b o e => hk b o (fun hx => by rw [(hX b hx).2.1] at e; cases e) (S.base b o e), S.len, fun i o p e1 e2 => ?_, S.fresh, S.apart⟩
  have hin := InR.of_get e2
  have x := S.obj i o p e1 e2
  have n1 : ¬ X p.1 := fun hx => (hX _ hx).1 hin.1
  have n2 : ¬ X p.2 := fun hx => (hX _ hx).1 hin.2
  cases o with
  | lst l => obtain ⟨e, vs, g, r⟩ := x; exact ⟨e, vs, g.at fun o => hk _ o n1, r.mono firm (fun _ _ e => e)⟩
  | inst c fs => obtain ⟨e, C, es, n, c, g1, g2, r⟩ := x; exact ⟨e, C, es, n, c, hk _ _ n1 g1, hk _ _ n2 g2, r.mono firm (fun _ _ e => e)⟩
  | dct => obtain ⟨e, o, g, c⟩ := x; exact ⟨e, o, hk _ _ n1 g, c⟩
  | frz l => obtain ⟨e, vs, g, r⟩ := x; exact ⟨e, vs, g.at fun o => hk _ o n1, r.mono firm (fun _ _ e => e)⟩

/-- a new object of the store -/
theorem Sim.add {cx : Cx} {ρ : Rho} {σ : S} {h h' : Heap} {o : O} {p : Addr × Addr} (S : Sim cx ρ σ h) (hk : ∀ b o, h.get? b = some o → h'.get? b = some o)
    (h1 : h.get? p.1 = none) (h2 : h.get? p.2 = none) (ho : OR cx.K h' (ρ ++ [p]) o p) : Sim cx (ρ ++ [p]) (σ ++ [o]) h' := by
  have hr : ∀ (i : Nat) q, ρ[i]? = some q → (ρ ++ [p])[i]? = some q := fun i q e => by
    obtain ⟨hlt, _⟩ := List.getElem?_eq_some_iff.mp e
    rw [List.getElem?_append_left hlt]; exact e
  have none0 : ∀ b, h.get? b = none → cx.h₀.get? b = none := fun b e => by
    cases hq : cx.h₀.get? b with
    | none => rfl
    | some o => rw [S.base b o hq] at e; cases e
  have split : ∀ (i : Nat) q, (ρ ++ [p])[i]? = some q → ρ[i]? = some q ∨ (i = ρ.length ∧ q = p) := fun i q e => by
    rcases Nat.lt_trichotomy i ρ.length with h | h | h
    · left; rwa [List.getElem?_append_left h] at e
    · right; subst h; simp at e; exact ⟨rfl, e.symm⟩
    · rw [List.getElem?_eq_none (by simp; omega)] at e; cases e
  refine ⟨fun b o e => hk b o (S.base b o e), by simp [S.len], fun i o' q e1 e2 => ?_, fun i o' q e1 e2 hz => ?_, fun i j q q' e1 e2 hne => ?_⟩
  · rcases split i q e2 with hq | ⟨rfl, rfl⟩
    · have hlt : i < σ.length := by rw [← S.len]; exact (List.getElem?_eq_some_iff.mp hq).1
      rw [List.getElem?_append_left hlt] at e1
      exact (S.obj i o' q e1 hq).keeps hk hr
    · rw [S.len] at e1; simp at e1; subst e1; exact ho
  · rcases split i q e2 with hq | ⟨rfl, rfl⟩
    · have hlt : i < σ.length := by rw [← S.len]; exact (List.getElem?_eq_some_iff.mp hq).1
      rw [List.getElem?_append_left hlt] at e1
      exact S.fresh i o' q e1 hq hz
    · exact ⟨none0 _ h1, none0 _ h2⟩
  · have live : ∀ (i : Nat) q, ρ[i]? = some q → q.1 ≠ p.1 ∧ q.1 ≠ p.2 ∧ q.2 ≠ p.1 ∧ q.2 ≠ p.2 := fun i q e => by
      have hin := InR.of_get e
      obtain ⟨o1, g1, _⟩ := S.live hin.1
      obtain ⟨o2, g2, _⟩ := S.live hin.2
      refine ⟨?_, ?_, ?_, ?_⟩ <;> intro hh
      · rw [hh, h1] at g1; cases g1
      · rw [hh, h2] at g1; cases g1
      · rw [hh, h1] at g2; cases g2
      · rw [hh, h2] at g2; cases g2
    rcases split i q e1 with h | ⟨rfl, rfl⟩ <;> rcases split j q' e2 with h' | ⟨rfl, rfl⟩
    · exact S.apart i j q q' h h' hne
    · exact live _ _ h
    · obtain ⟨a, b, c, d⟩ := live _ _ h'; exact ⟨Ne.symm a, Ne.symm c, Ne.symm b, Ne.symm d⟩
    · exact absurd rfl hne
theorem Stp.add {ρ : Rho} {h h' : Heap} {p : Addr × Addr} (hk : ∀ b o, h.get? b = some o → h'.get? b = some o)
    (h1 : h.get? p.1 = none) (h2 : h.get? p.2 = none) : Stp ρ h (ρ ++ [p]) h' := ⟨⟨[p], rfl, fun q hq => by rw [List.mem_singleton.mp hq]; exact ⟨h1, h2⟩⟩, fun b o _ => hk b o⟩

/-- an object of the store turned -/
theorem Sim.put {cx : Cx} {ρ : Rho} {σ : S} {h h' : Heap} {o o' : O} {i : Nat} {p : Addr × Addr} {d : Addr} (S : Sim cx ρ σ h) (hi : σ[i]? = some o) (hp : ρ[i]? = some p) (hd : d = p.1 ∨ d = p.2)
    (hs : ∀ b, b ≠ d → h'.get? b = h.get? b) (ho : OR cx.K h' ρ o' p) (hz : o.frozen = false := by rfl) : Sim cx ρ (σ.set i o') h' := by
  have hin := InR.of_get hp
  have hdin : InR ρ d := by rcases hd with rfl | rfl <;> first | exact hin.1 | exact hin.2
  have firm : ∀ b o, Firm o → h.get? b = some o → h'.get? b = some o := fun b o hf hg => by
    rw [hs b (fun e => ?_)]; exact hg
    subst e
    obtain ⟨o', ho', hn⟩ := S.live hdin
    rw [hg] at ho'; cases ho'; exact hn hf
  have hf := S.fresh i o p hi hp hz
  have hd0 : cx.h₀.get? d = none := by rcases hd with rfl | rfl <;> first | exact hf.1 | exact hf.2
  refine ⟨fun b o e => ?_, by simp [S.len], fun j o₁ q e1 e2 => ?_, fun j o₁ q e1 e2 hz' => ?_, S.apart⟩
  · rw [hs b (fun hb => by rw [hb, hd0] at e; cases e)]; exact S.base b o e
  · by_cases hij : i = j
    · subst hij
      rw [hp] at e2; cases e2
      have hlt : i < σ.length := by rw [← S.len]; exact (List.getElem?_eq_some_iff.mp hp).1
      rw [List.getElem?_set_self hlt] at e1; cases e1; exact ho
    · rw [List.getElem?_set_ne hij] at e1
      have ap := S.apart i j p q hp e2 hij
      have n1 : q.1 ≠ d := by rcases hd with rfl | rfl <;> first | exact Ne.symm ap.1 | exact Ne.symm ap.2.2.1
      have n2 : q.2 ≠ d := by rcases hd with rfl | rfl <;> first | exact Ne.symm ap.2.1 | exact Ne.symm ap.2.2.2
      have x := S.obj j o₁ q e1 e2
      cases o₁ with
      | lst l => obtain ⟨e, vs, g, r⟩ := x; exact ⟨e, vs, g.at fun o g' => by rw [hs _ n1]; exact g', r.mono firm (fun _ _ e => e)⟩
      | inst c fs => obtain ⟨e, C, es, n, c, g1, g2, r⟩ := x; exact ⟨e, C, es, n, c, by rw [hs _ n1]; exact g1, by rw [hs _ n2]; exact g2, r.mono firm (fun _ _ e => e)⟩
      | dct => obtain ⟨e, o, g, c⟩ := x; exact ⟨e, o, by rw [hs _ n1]; exact g, c⟩
      | frz l => obtain ⟨e, vs, g, r⟩ := x; exact ⟨e, vs, g.at fun o g' => by rw [hs _ n1]; exact g', r.mono firm (fun _ _ e => e)⟩
  · by_cases hij : i = j
    · subst hij
      rw [hp] at e2; cases e2; exact hf
    · rw [List.getElem?_set_ne hij] at e1
      exact S.fresh j o₁ q e1 e2 hz'
theorem Stp.put {ρ : Rho} {h h' : Heap} {i : Nat} {p : Addr × Addr} {d : Addr} (hp : ρ[i]? = some p) (hd : d = p.1 ∨ d = p.2)
    (hs : ∀ b, b ≠ d → h'.get? b = h.get? b) : Stp ρ h ρ h' := by
  have hin := InR.of_get hp
  refine ⟨⟨[], by simp, by simp⟩, fun b o hb hg => ?_⟩
  rw [hs b (fun e => hb ?_)]; exact hg
  subst e; rcases hd with rfl | rfl <;> first | exact hin.1 | exact hin.2

/-- the outcome of a run: the mini word holds of what stands for it -/
noncomputable def Pst {α β : Type} (cx : Cx) (rel : Heap → Rho → β → α → Prop) (ρ : Rho) (s : Shared) (Qm : β → S → Prop) (a : α) (s' : Shared) : Prop :=
  ∃ b σ' ρ' h' tk', s' = { s with heap := h', toks := tk' } ∧ Qm b σ' ∧ Sim cx ρ' σ' h' ∧ Stp ρ s.heap ρ' h' ∧ rel h' ρ' b a

theorem Pst.mk' {α β : Type} {cx : Cx} {rel : Heap → Rho → β → α → Prop} {ρ : Rho} {s : Shared} {Qm : β → S → Prop} {a : α} {b : β} {σ' : S} {ρ' : Rho} {h' : Heap} {tk' : Nat}
    (hq : Qm b σ') (hs : Sim cx ρ' σ' h') (ht : Stp ρ s.heap ρ' h') (hr : rel h' ρ' b a) : Pst cx rel ρ s Qm a { s with heap := h', toks := tk' } := ⟨b, σ', ρ', h', tk', rfl, hq, hs, ht, hr⟩
@[elab_as_elim] theorem Pst.elim {α β : Type} {cx : Cx} {rel : Heap → Rho → β → α → Prop} {ρ : Rho} {s s' : Shared} {Qm : β → S → Prop} {a : α} {G : Shared → Prop} (x : Pst cx rel ρ s Qm a s')
    (k : ∀ (b : β) (σ' : S) (ρ' : Rho) (h' : Heap) (tk' : Nat), Qm b σ' → Sim cx ρ' σ' h' → Stp ρ s.heap ρ' h' → rel h' ρ' b a → G { s with heap := h', toks := tk' }) : G s' := by
  obtain ⟨b, σ', ρ', h', tk', rfl, hq, hs', ht', hr⟩ := x
  exact k b σ' ρ' h' tk' hq hs' ht' hr
theorem Pst.trans {α β : Type} {cx : Cx} {rel : Heap → Rho → β → α → Prop} {ρ ρ₁ : Rho} {σ₁ : S} {s : Shared} {h₁ : Heap} {tk₁ : Nat} {Qm : β → S → Prop} {a : α} {s' : Shared}
    (ht : Stp ρ s.heap ρ₁ h₁) (hs : Sim cx ρ₁ σ₁ h₁) (x : Pst cx rel ρ₁ { s with heap := h₁, toks := tk₁ } Qm a s') : Pst cx rel ρ s Qm a s' := by
  obtain ⟨b, σ', ρ', h', tk', rfl, hq, hs', ht', hr⟩ := x
  exact ⟨b, σ', ρ', h', tk', rfl, hq, hs', ht.trans hs ht', hr⟩
end Mine

end
section
open PySem PySem.W PySem.Calls PyProof.Rows
set_option Elab.async false
set_option maxRecDepth 100000
namespace Mine

structure Room (A : Around) (n : Nat) : Prop where
  hh : A.handled = none
  dep : A.depth + n < recursionLimit
  un : A.units + 10 * n + 200 < cLine

theorem get_size_none (h : Heap) : h.get? h.objs.size = none := by
  cases q : h.get? h.objs.size with
  | none => rfl
  | some o => exact absurd (Heap.lt_size q) (Nat.lt_irrefl _)
theorem push_keeps (h : Heap) (o : Obj) : ∀ b o', h.get? b = some o' → (h.push o).get? b = some o' := fun _ _ e => Heap.get?_push_of_some o e

section
variable {prog : Program} {w : World} {cx : Cx} {A : Around} {E : Value → Shared → Prop} {s : Shared} {ρ : Rho} {σ : S}

theorem Pst.same {α β : Type} {rel : Heap → Rho → β → α → Prop} {h' : Heap} {tk' : Nat} {Qm : β → S → Prop} {b : β} {a : α} (X : Sim cx ρ σ s.heap)
    (hk : ∀ b o, s.heap.get? b = some o → h'.get? b = some o) (hq : Qm b σ) (hr : rel h' ρ b a) : Pst cx rel ρ s Qm a { s with heap := h', toks := tk' } :=
  .mk' hq (X.keeps hk) (.of_keeps hk) hr
theorem Pst.here {α β : Type} {rel : Heap → Rho → β → α → Prop} {tk' : Nat} {Qm : β → S → Prop} {b : β} {a : α} (X : Sim cx ρ σ s.heap)
    (hq : Qm b σ) (hr : rel s.heap ρ b a) : Pst cx rel ρ s Qm a { s with toks := tk' } :=
  .mk' (h' := s.heap) hq X .refl hr
theorem Pst.here0 {α β : Type} {rel : Heap → Rho → β → α → Prop} {Qm : β → S → Prop} {b : β} {a : α} (X : Sim cx ρ σ s.heap)
    (hq : Qm b σ) (hr : rel s.heap ρ b a) : Pst cx rel ρ s Qm a s :=
  .mk' (h' := s.heap) (tk' := s.toks) hq X .refl hr

theorem Pst.list {h' : Heap} {a : Addr} {tk' : Nat} {l : List V} {vs : List Value} {Qm : V → S → Prop} (X : Sim cx ρ σ s.heap)
    (hk : ∀ b o, s.heap.get? b = some o → h'.get? b = some o) (ha : s.heap.get? a = none) (hl : h'.PlainList a vs.toArray) (r : VRs s.heap ρ l vs)
    (hq : Qm (.ref σ.length) (σ ++ [.lst l])) : Pst cx VR ρ s Qm (.ref a) { s with heap := h', toks := tk' } := by
  have st : Stp ρ s.heap (ρ ++ [(a, a)]) h' := Stp.add hk ha ha
  refine .mk' (ρ' := ρ ++ [(a, a)]) hq (X.add hk ha ha ⟨rfl, vs, hl, st.vrs X r⟩) st ?_
  dsimp only [VR]
  refine ⟨(a, a), ?_, rfl⟩
  rw [← X.len]; simp

theorem Pst.tuple {h' : Heap} {a : Addr} {n tk' : Nat} {l : List V} {vs : List Value} {Qm : V → S → Prop} (X : Sim cx ρ σ s.heap)
    (hk : ∀ b o, s.heap.get? b = some o → h'.get? b = some o) (hl : h'.get? a = some (tupObj vs n)) (r : VRs s.heap ρ l vs)
    (hq : Qm (.tup l) σ) : Pst cx VR ρ s Qm (.ref a) { s with heap := h', toks := tk' } := by
  refine .same X hk hq ?_
  dsimp only [VR]
  exact ⟨a, vs, n, rfl, hl, r.mono (fun b o _ => hk b o) fun _ _ e => e⟩

/-- what stands for a list of the store -/
theorem Sim.list {l : List V} {i : Nat} (X : Sim cx ρ σ s.heap) (e : σ[i]? = some (.lst l)) : ∃ p vs, ρ[i]? = some p ∧ p.2 = p.1 ∧ s.heap.PlainList p.1 vs.toArray ∧ VRs s.heap ρ l vs := by
  obtain ⟨p, hp, e2, vs, h1, h2⟩ := X.at e
  exact ⟨p, vs, hp, e2, h1, h2⟩
theorem Sim.frz {l : List V} {i : Nat} (X : Sim cx ρ σ s.heap) (e : σ[i]? = some (.frz l)) : ∃ p vs, ρ[i]? = some p ∧ p.2 = p.1 ∧ s.heap.IsList p.1 vs.toArray ∧ VRs s.heap ρ l vs := by
  obtain ⟨p, hp, e2, vs, h1, h2⟩ := X.at e
  exact ⟨p, vs, hp, e2, h1, h2⟩
theorem VR.ref_inv {h : Heap} {i : Nat} {v : Value} {p : Addr × Addr} (r : VR h ρ (.ref i) v) (hp : ρ[i]? = some p) : v = .ref p.1 := by
  dsimp only [VR] at r
  obtain ⟨q, hq, rfl⟩ := r
  rw [hp] at hq; cases hq; rfl

theorem int_mulOk {x y : Int} (h : x.natAbs < big ∨ y.natAbs < big) : IntMulOk x y := by
  have key : ∀ z : Int, z.natAbs < big → Builtin.Int.intBits z ≤ 64 := fun z hz => by
    unfold Builtin.Int.intBits
    split
    · exact Nat.zero_le _
    · rename_i hz0
      have h0 : z.natAbs ≠ 0 := by simpa using hz0
      have : z.natAbs.log2 < 60 := (Nat.log2_lt h0).mpr (by unfold big at hz; exact hz)
      omega
  rcases h with h | h
  · exact IntMulOk.of_left (key _ h)
  · exact IntMulOk.of_right (key _ h)

theorem vr_int {h : Heap} {i : Int} {x : Value} (r : VR h ρ (.int i) x) : ∃ t, x = .int i t := r
theorem vrs1 {h : Heap} {a : V} {vs : List Value} (r : VRs h ρ [a] vs) : ∃ x, vs = [x] ∧ VR h ρ a x := by
  obtain ⟨x, xs, rfl, hx, rfl⟩ := r
  exact ⟨x, rfl, hx⟩
theorem vrsC {h : Heap} {a : V} {as : List V} {vs : List Value} (r : VRs h ρ (a :: as) vs) : ∃ x xs, vs = x :: xs ∧ VR h ρ a x ∧ VRs h ρ as xs := r
theorem vrs0 {h : Heap} {vs : List Value} (r : VRs h ρ [] vs) : vs = [] := r
theorem VRs.one {h : Heap} {a : V} {x : Value} (r : VR h ρ a x) : VRs h ρ [a] [x] := ⟨x, [], rfl, r, rfl⟩
/-- a list of the store, met -/
theorem withL_at {v : V} {x : Value} {f : List V → Prop} (X : Sim cx ρ σ s.heap) (h : withL σ v f) (r : VR s.heap ρ v x) :
    ∃ i l p vs n, v = .ref i ∧ σ[i]? = some (.lst l) ∧ ρ[i]? = some p ∧ p.2 = p.1 ∧ x = .ref p.1 ∧ s.heap.get? p.1 = some { cls := .type "list", data := .seq vs.toArray n } ∧ VRs s.heap ρ l vs ∧ vs.length = l.length ∧ f l := by
  obtain ⟨i, l, rfl, e, h⟩ := withL_inv h
  obtain ⟨p, vs, hp, h2, ⟨n, hl⟩, hv⟩ := X.list e
  exact ⟨i, l, p, vs, n, rfl, e, hp, h2, r.ref_inv hp, hl, hv, hv.length, h⟩
theorem withS_at {v : V} {x : Value} {f : List V → Prop} (X : Sim cx ρ σ s.heap) (h : withS σ v f) (r : VR s.heap ρ v x) :
    ∃ l a vs, x = .ref a ∧ s.heap.IsList a vs.toArray ∧ VRs s.heap ρ l vs ∧ vs.length = l.length ∧ f l := by
  obtain ⟨i, l, rfl, e | e, h⟩ := withS_inv h
  · obtain ⟨p, vs, hp, h2, hl, hv⟩ := X.list e
    exact ⟨l, _, vs, r.ref_inv hp, hl.isList, hv, hv.length, h⟩
  · obtain ⟨p, vs, hp, h2, hl, hv⟩ := X.frz e
    exact ⟨l, _, vs, r.ref_inv hp, hl, hv, hv.length, h⟩
theorem plain_of {h : Heap} {a : Addr} {vs : List Value} {n : Nat} (e : h.get? a = some { cls := .type "list", data := .seq vs.toArray n }) : h.PlainList a vs.toArray := ⟨n, e⟩
theorem size_of_len {vs : List Value} {n : Nat} (h : vs.length = n) (hn : n ≤ 1000000) : vs.toArray.size ≤ sizeLine := by
  rw [List.size_toArray, h, sizeLine_eq]; omega
theorem flat_rep (x : Value) : ∀ (k : Nat) (acc : Array Value), List.foldl (fun (x1 x2 : Array Value) => x1 ++ x2) acc (List.replicate k #[x]) = acc ++ (List.replicate k x).toArray
  | 0, acc => by simp
  | k + 1, acc => by
    rw [List.replicate_succ, List.foldl_cons, flat_rep x k, List.replicate_succ]
    apply Array.ext'
    simp

theorem add_ok {a b : V} {va vb : Value} {Q : V → S → Prop} (h : addW a b Q σ) (X : Sim cx ρ σ s.heap) (ra : VR s.heap ρ a va) (rb : VR s.heap ρ b vb) :
    wpAny (model prog w) A (binaryOp .Add va vb) (Pst cx VR ρ s Q) E s := by
  cases a with
  | int x =>
    obtain ⟨y, rfl, h⟩ := withI_inv h
    obtain ⟨t, rfl⟩ := vr_int ra
    obtain ⟨u, rfl⟩ := vr_int rb
    exact PyProof.Rows.add_int (.here X h ⟨_, rfl⟩)
  | ref i =>
    dsimp only [addW] at h
    obtain ⟨_, l, p, vs, n, _, _, _, _, rfl, hl, hv, el, h⟩ := withL_at X h ra
    obtain ⟨_, r, q, ws, n2, _, _, _, _, rfl, hr, hw, er, h⟩ := withL_at X h rb
    have hz : vs.length + ws.length ≤ sizeLine := by rw [el, er, sizeLine_eq]; omega
    refine concat_meets ⟨_, hl, rfl⟩ ⟨_, hr, rfl⟩ noFill_list_add seq_list_add PySem.F.slot_list_add PySem.F.entry_list_add (PySem.F.args_list_add_2 _ _)
      (list_addW p.1 q.1 vs.toArray ws.toArray n n2 none none #[] #[] (by simpa using hz)) ⟨hl, hr, ?_⟩
    exact .list X (push_keeps _ _) (get_size_none _) ⟨0, by rw [Heap.get?_push_size _ rfl]; simp⟩ (hv.append hw) h.2
  | _ => exact h.elim
theorem mulL_inv {l : List V} {n : Int} {Q : V → S → Prop} (h : mulL l n Q σ) : ∃ v, l = [v] ∧ 0 ≤ n ∧ n ≤ 1000000 ∧ Q (.ref σ.length) (σ ++ [.lst (List.replicate n.toNat v)]) := by
  rcases l with _ | ⟨v, _ | ⟨_, _⟩⟩
  · exact h.elim
  · exact ⟨v, rfl, h⟩
  · exact h.elim
theorem mul_ok {a b : V} {va vb : Value} {Q : V → S → Prop} (h : mulW a b Q σ) (X : Sim cx ρ σ s.heap) (ra : VR s.heap ρ a va) (rb : VR s.heap ρ b vb) :
    wpAny (model prog w) A (binaryOp .Mult va vb) (Pst cx VR ρ s Q) E s := by
  cases a with
  | int x =>
    obtain ⟨y, rfl, h1, h2⟩ := withI_inv h
    obtain ⟨t, rfl⟩ := vr_int ra
    obtain ⟨u, rfl⟩ := vr_int rb
    exact PyProof.Rows.mul_int (.here X h2 ⟨_, rfl⟩) (int_mulOk h1)
  | ref i =>
    dsimp only [mulW] at h
    obtain ⟨_, l, p, vs, k, _, _, _, _, rfl, hl, hv, el, h⟩ := withL_at X h ra
    obtain ⟨n, rfl, h⟩ := withI_inv h
    obtain ⟨u, rfl⟩ := vr_int rb
    obtain ⟨v, rfl, h0, h1, h2⟩ := mulL_inv h
    obtain ⟨x, rfl, hx⟩ := vrs1 hv
    refine wpAny_binaryOp_repeat_ref (T := "list") (U := "int") (by decide) ⟨_, hl, rfl⟩ (fun s' => typeIs_int s' n u) noFill_list_mul F.fills_int_mul F.slot_int_rmul repeat_list F.slot_int_index.lookup
      (call_meets F.slot_int_rmul (typeIs_int s n u) F.entry_int_rmul (F.args_int_rmul_2 _ _) (int___rmul___int_list n u p.1 [x].toArray k)
      ⟨hl, rfl, ⟨_, hl, rfl⟩, call_meets F.slot_list_mul ⟨_, hl, rfl⟩ F.entry_list_mul (F.args_list_mul_2 _ _)
      (AutoListH.list___mul___list_int_3 p.1 [x].toArray k n u (by simp [Builtin.List.listFitsIndex]; omega) (by show ¬ 1 * n.toNat > (2 ^ 63 - 1) / 8; omega) (by simp [Builtin.List.listTooLong, sizeLine]; omega))
      ⟨hl, ?_⟩⟩)
    refine .list (vs := List.replicate n.toNat x) X (push_keeps _ _) (get_size_none _) ⟨0, ?_⟩ (VRs.replicate hx _) h2
    have e2 := flat_rep x n.toNat #[]
    rw [Heap.get?_push_size _ rfl]
    simp only [List.isEmpty_toArray, List.isEmpty_cons, Bool.false_eq_true, if_false]
    rw [show ([x].toArray : Array Value) = #[x] from rfl, e2]
    simp
  | _ => exact h.elim
theorem binW_ok {op : Operator} {a b : V} {va vb : Value} {Q : V → S → Prop} (R : Room A 0) (h : binW op a b Q σ) (X : Sim cx ρ σ s.heap) (ra : VR s.heap ρ a va) (rb : VR s.heap ρ b vb) :
    wpAny (model prog w) A (binaryOp op va vb) (Pst cx VR ρ s Q) E s := by
  delta binW at h
  cases op with
  | Add => exact add_ok h X ra rb
  | Mult => exact mul_ok h X ra rb
  | Sub =>
    obtain ⟨x, rfl, y, rfl, h⟩ := (withI_inv h).imp fun _ q => q.imp id withI_inv
    obtain ⟨t, rfl⟩ := vr_int ra
    obtain ⟨u, rfl⟩ := vr_int rb
    exact PyProof.Rows.sub_int (.here X h ⟨_, rfl⟩)
  | FloorDiv =>
    obtain ⟨x, rfl, y, rfl, h⟩ := (withI_inv h).imp fun _ q => q.imp id withI_inv
    obtain ⟨t, rfl⟩ := vr_int ra
    obtain ⟨u, rfl⟩ := vr_int rb
    exact PyProof.Rows.floordiv_int h.1 (.here X h.2.2 ⟨_, rfl⟩) (.inl (PyProof.noPylong_small h.2.1))
  | Mod =>
    obtain ⟨x, rfl, y, rfl, h⟩ := (withI_inv h).imp fun _ q => q.imp id withI_inv
    obtain ⟨t, rfl⟩ := vr_int ra
    obtain ⟨u, rfl⟩ := vr_int rb
    exact PyProof.Rows.mod_int' h.1 (.here X h.2 ⟨_, rfl⟩)
  | Pow =>
    obtain ⟨x, rfl, y, rfl, h⟩ := (withI_inv h).imp fun _ q => q.imp id withI_inv
    obtain ⟨t, rfl⟩ := vr_int ra
    obtain ⟨u, rfl⟩ := vr_int rb
    obtain ⟨rfl, rfl, g⟩ := h
    exact PyProof.Rows.pow_int (by decide) (by decide +kernel) (.here X g ⟨_, rfl⟩)
  | _ => exact h.elim

/-! equality: plain data -/
mutual
theorem reads_of : ∀ {v : V} {x : Value} {d : PyData}, v.py = some d → VR s.heap ρ v x → ∃ as, Reads s.heap x d as
  | .none, _, _, e, r => by cases Option.some.inj e; cases r; exact ⟨_, .none⟩
  | .bool b, _, _, e, r => by cases Option.some.inj e; cases r; exact ⟨_, .bool b⟩
  | .int i, _, _, e, r => by cases Option.some.inj e; obtain ⟨t, rfl⟩ := r; exact ⟨_, .int i t⟩
  | .str i, _, _, e, r => by cases Option.some.inj e; obtain ⟨t, rfl⟩ := r; exact ⟨_, .str i t⟩
  | .tup l, _, _, e, r => by
    obtain ⟨ds, h1, rfl⟩ := Option.map_eq_some_iff.mp e
    obtain ⟨a, vs, n, rfl, hg, hv⟩ := r
    obtain ⟨as, q⟩ := readsAll_of h1 hv
    exact ⟨as, .tuple hg rfl rfl (by simpa using q)⟩
  | .ref _, _, _, e, _ => nomatch e
  | .rng _ _ _, _, _, e, _ => nomatch e
theorem readsAll_of : ∀ {l : List V} {vs : List Value} {ds : List PyData}, V.pys l = some ds → VRs s.heap ρ l vs → ∃ as, ReadsAll s.heap vs ds as
  | [], _, _, e, r => by cases Option.some.inj e; cases r; exact ⟨_, .nil⟩
  | v :: l, _, _, e, r => by
    obtain ⟨d, h1, e⟩ := Option.bind_eq_some_iff.mp e
    obtain ⟨ds, h2, rfl⟩ := Option.map_eq_some_iff.mp e
    obtain ⟨x, xs, rfl, hx, hxs⟩ := r
    obtain ⟨as, q⟩ := reads_of h1 hx
    obtain ⟨bs, q'⟩ := readsAll_of h2 hxs
    exact ⟨_, .cons q q'⟩
end
theorem reads_pyOf {v : V} {x : Value} {d : PyData} (X : Sim cx ρ σ s.heap) (e : pyOf σ v = some d) (r : VR s.heap ρ v x) : ∃ as, Reads s.heap x d as := by
  cases v with
  | ref i =>
    have key : ∃ l, σ[i]? = some (.lst l) ∧ (V.pys l).map .list = some d := by
      unfold pyOf at e
      dsimp only at e
      cases q : σ[i]? with
      | none => rw [q] at e; cases e
      | some o =>
        rw [q] at e
        cases o <;> first | exact ⟨_, rfl, e⟩ | cases e
    obtain ⟨l, el, e⟩ := key
    obtain ⟨ds, h1, rfl⟩ := Option.map_eq_some_iff.mp e
    obtain ⟨p, vs, hp, _, ⟨n, hl⟩, hv⟩ := X.list el
    rw [r.ref_inv hp]
    obtain ⟨as, q⟩ := readsAll_of h1 hv
    exact ⟨_, .list hl rfl rfl (by simpa using q)⟩
  | _ => exact reads_of e r

theorem strs_py : ∀ {l : List V} {xs : List Str}, strsOf l = some xs → V.pys l = some (xs.map .str)
  | [], _, e => by cases Option.some.inj e; rfl
  | v :: r, _, e => by
    cases v <;> first | (cases e; done) | skip
    obtain ⟨ys, h, rfl⟩ := Option.map_eq_some_iff.mp e
    simp [V.pys, V.py, strs_py h]

noncomputable def BoolIs (_ : Heap) (_ : Rho) (b : Bool) (v : Value) : Prop := v = .bool b

theorem lay_all : ∀ ys : List Str, ys.all PyData.strOk = true → PyData.canLayAll0 (ys.map .str) = true
  | [], _ => rfl
  | y :: r, q => by
    obtain ⟨h1, h2⟩ := Bool.and_eq_true_iff.mp q
    simp [PyData.canLayAll0, PyData.canLay0, h1, lay_all r h2]
theorem in_ok {a b : V} {va vb : Value} {Q : Bool → Prop} (hu : A.units + 64 < cLine) (h : inW a b (fun t => Q t)) (ra : VR s.heap ρ a va) (rb : VR s.heap ρ b vb) :
    wpAny (model prog w) A (compareOp .In va vb) (fun v s' => s' = s ∧ ∃ t, v = .bool t ∧ Q t) E s := by
  cases a with
  | str x =>
    cases b with
    | tup l =>
      obtain ⟨xs, hx, h1, h2, h3⟩ := h
      obtain ⟨as, r1⟩ := reads_of (d := .str x) rfl ra
      obtain ⟨bs, r2⟩ := reads_of (d := .tuple (xs.map .str)) (by simp [V.py, strs_py hx]) rb
      refine SeqAt.in_tuple_reads r2 r1 (lay_all _ h2) h1 ?_ ⟨rfl, _, rfl, ?_⟩
      · have h1 := Nat.min_le_right (PyData.depthAll (xs.map .str)) (PyData.depth (.str x))
        have h2 : PyData.depth (.str x) ≤ 1 := by simp [PyData.depth]
        omega
      · rw [List.any_map]
        exact h3
    | _ => exact h.elim
  | _ => exact h.elim
theorem is_inv {a b : V} {va vb : Value} {Q : Bool → Prop} {hh : Heap} (h : isW a b Q) (ra : VR hh ρ a va) (rb : VR hh ρ b vb) : (va = .none ∧ vb = .none ∧ Q true) ∨ (∃ p, va = .ref p) ∧ vb = .none ∧ Q false := by
  cases b with
  | none =>
    cases a with
    | none => exact .inl ⟨ra, rb, h⟩
    | ref i =>
      obtain ⟨p, _, rfl⟩ := ra
      exact .inr ⟨⟨_, rfl⟩, rb, h⟩
    | _ => exact h.elim
  | _ => exact h.elim
theorem cmpW_ok {op : CmpOp} {a b : V} {va vb : Value} {Q : Bool → S → Prop} (R : Room A 0) (h : cmpW op a b (fun t => Q t σ) σ) (X : Sim cx ρ σ s.heap) (ra : VR s.heap ρ a va) (rb : VR s.heap ρ b vb) :
    wpAny (model prog w) A (compareOp op va vb) (Pst cx BoolIs ρ s Q) E s := by
  have hu : A.units + 64 < cLine := by have := R.un; omega
  delta cmpW at h
  cases op with
  | Eq =>
    obtain ⟨d, e, h1, h2, h3, h4, h5⟩ := h
    obtain ⟨as, r1⟩ := reads_pyOf X h1 ra
    obtain ⟨bs, r2⟩ := reads_pyOf X h2 rb
    exact eq_dataH r1 r2 h3 h4 hu (.here0 X h5 rfl)
  | NotEq =>
    obtain ⟨d, e, h1, h2, h3, h4, h5⟩ := h
    obtain ⟨as, r1⟩ := reads_pyOf X h1 ra
    obtain ⟨bs, r2⟩ := reads_pyOf X h2 rb
    exact ne_dataH r1 r2 h3 h4 hu (.here0 X h5 rfl)
  | Lt =>
    obtain ⟨x, rfl, y, rfl, h⟩ := (withI_inv h).imp fun _ q => q.imp id withI_inv
    obtain ⟨t, rfl⟩ := vr_int ra
    obtain ⟨u, rfl⟩ := vr_int rb
    exact PyProof.Rows.lt_int (.here0 X h rfl)
  | LtE =>
    obtain ⟨x, rfl, y, rfl, h⟩ := (withI_inv h).imp fun _ q => q.imp id withI_inv
    obtain ⟨t, rfl⟩ := vr_int ra
    obtain ⟨u, rfl⟩ := vr_int rb
    exact PyProof.Rows.le_int (.here0 X h rfl)
  | Gt =>
    obtain ⟨x, rfl, y, rfl, h⟩ := (withI_inv h).imp fun _ q => q.imp id withI_inv
    obtain ⟨t, rfl⟩ := vr_int ra
    obtain ⟨u, rfl⟩ := vr_int rb
    exact PyProof.Rows.gt_int (.here0 X h rfl)
  | GtE =>
    obtain ⟨x, rfl, y, rfl, h⟩ := (withI_inv h).imp fun _ q => q.imp id withI_inv
    obtain ⟨t, rfl⟩ := vr_int ra
    obtain ⟨u, rfl⟩ := vr_int rb
    exact PyProof.Rows.ge_int (.here0 X h rfl)
  | Is =>
    rcases is_inv h ra rb with ⟨rfl, rfl, h⟩ | ⟨⟨p, rfl⟩, rfl, h⟩
    · exact wpAny_is_plain rfl (.here0 X h rfl)
    · exact wpAny_is_plain rfl (.here0 X h rfl)
  | IsNot =>
    rcases is_inv h ra rb with ⟨rfl, rfl, h⟩ | ⟨⟨p, rfl⟩, rfl, h⟩
    · exact wpAny_isNot_plain rfl (.here0 X h rfl)
    · exact wpAny_isNot_plain rfl (.here0 X h rfl)
  | In => exact wpAny_mono (in_ok hu h ra rb) (fun v s' q => by obtain ⟨rfl, t, rfl, q⟩ := q; exact .here0 X q rfl) fun _ _ e => e
  | _ => exact h.elim

theorem subW_ok {o i : V} {vo vi : Value} {Q : V → S → Prop} (h : subW o i Q σ) (X : Sim cx ρ σ s.heap) (ro : VR s.heap ρ o vo) (ri : VR s.heap ρ i vi) :
    wpAny (model prog w) A (getItem vo vi) (Pst cx VR ρ s Q) E s := by
  delta subW at h
  obtain ⟨k, rfl, h0, h1, h⟩ := withI_inv h
  obtain ⟨t, rfl⟩ := vr_int ri
  cases o with
  | tup l =>
    obtain ⟨a, vs, n, rfl, hg, hv⟩ := ro
    obtain ⟨v, hl, h⟩ := h
    obtain ⟨x, hx, hr⟩ := hv.get hl
    have hlt : k.toNat < vs.length := (List.getElem?_eq_some_iff.mp hx).1
    refine PyProof.Rows.getItem_tuple (items := vs.toArray) ⟨_, hg, rfl, n, rfl⟩ (by omega) (by omega) (seqIndex_of h0 ?_) (x := x) (by simpa using hx) (.here0 X h hr)
    simp; omega
  | ref j =>
    obtain ⟨l, a, vs, rfl, hl, hv, _, v, hlv, h⟩ := withS_at X h ro
    obtain ⟨x, hx, hr⟩ := hv.get hlv
    exact wpAny_getItem_list hl h0 (by omega) (x := x) (by simpa using hx) (.here0 X h hr)
  | _ => exact h.elim

theorem cutW_ok {l : List V} {vs : List Value} {p : Addr} {lo hi : V} {vl vu : Value} {Q : V → S → Prop} {sl : Addr} (h : cutW l lo hi Q σ) (X : Sim cx ρ σ s.heap) (hl : s.heap.PlainList p vs.toArray) (hv : VRs s.heap ρ l vs)
    (hsz : vs.toArray.size ≤ sizeLine) (rl : VR s.heap ρ lo vl) (ru : VR s.heap ρ hi vu) (hs : s.heap.IsSliceOf sl vl vu .none) :
    wpAny (model prog w) A (getItem (.ref p) (.ref sl)) (Pst cx VR ρ s Q) E s := by
  have el := hv.length
  cases lo with
  | int a =>
    obtain ⟨h0, h⟩ := h
    obtain ⟨t, rfl⟩ := vr_int rl
    obtain ⟨a', rfl⟩ := Int.eq_ofNat_of_zero_le h0
    cases hi with
    | int b =>
      obtain ⟨h1, h2, h⟩ := h
      obtain ⟨u, rfl⟩ := vr_int ru
      refine wpAny_getItem_list_slice (hsz := hsz) hl.isList hs (.int a' t) (.int b u) .none (by simp) ?_
      obtain ⟨b', rfl⟩ := Int.eq_ofNat_of_zero_le (Int.le_trans h0 h1)
      rw [slicePick_run vs.toArray a' b' (by simp [el]; omega) (by omega)]
      refine .list (vs := (vs.take b').drop a') X (push_keeps _ _) (get_size_none _) ⟨0, ?_⟩ ((hv.take _).drop _) h
      rw [Heap.get?_push_size _ rfl]
      simp [List.drop_take]
    | none =>
      obtain ⟨h2, h⟩ := h
      cases ru
      refine wpAny_getItem_list_slice (hsz := hsz) hl.isList hs (.int a' t) .none .none (by simp) ?_
      rw [slicePick_from vs.toArray a' (by simp [el]; omega)]
      refine .list (vs := vs.drop a') X (push_keeps _ _) (get_size_none _) ⟨0, ?_⟩ (hv.drop _) h
      rw [Heap.get?_push_size _ rfl]
    | _ => exact h.elim
  | none =>
    obtain ⟨b, rfl, h0, h2, h⟩ := withI_inv h
    obtain ⟨u, rfl⟩ := vr_int ru
    cases rl
    refine wpAny_getItem_list_slice (hsz := hsz) hl.isList hs .none (.int b u) .none (by simp) ?_
    obtain ⟨b', rfl⟩ := Int.eq_ofNat_of_zero_le h0
    rw [slicePick_upto vs.toArray b' (by simp [el]; omega)]
    refine .list (vs := vs.take b') X (push_keeps _ _) (get_size_none _) ⟨0, ?_⟩ (hv.take _) h
    rw [Heap.get?_push_size _ rfl]
  | _ => exact h.elim
/-- the slice object is made ahead -/
theorem sliceW_ok {o lo hi : V} {vo vl vu : Value} {Q : V → S → Prop} {sl : Addr} (h : sliceW o lo hi Q σ) (X : Sim cx ρ σ s.heap) (ro : VR s.heap ρ o vo) (rl : VR s.heap ρ lo vl) (ru : VR s.heap ρ hi vu)
    (hs : s.heap.IsSliceOf sl vl vu .none) :
    wpAny (model prog w) A (getItem vo (.ref sl)) (Pst cx VR ρ s Q) E s := by
  delta sliceW at h
  obtain ⟨_, l, p, vs, n, rfl, _, _, _, rfl, hl, hv, el, hz, h⟩ := withL_at X h ro
  exact cutW_ok h X (plain_of hl) hv (size_of_len el hz) rl ru hs

/-! built-ins -/
theorem VRs.ints {h : Heap} : ∀ {l : List V} {vs : List Value} {n : Int}, VRs h ρ l vs → sumInts l = some n → ∃ ns : List Int, IntsAre vs ns ∧ ns.sum = n
  | [], _, _, r, e => by cases r; cases Option.some.inj e; exact ⟨[], .nil, rfl⟩
  | v :: l, _, _, r, e => by
    cases v <;> first | (cases e; done) | skip
    obtain ⟨m, hm, rfl⟩ := Option.map_eq_some_iff.mp e
    obtain ⟨x, xs, rfl, ⟨t, rfl⟩, hxs⟩ := r
    obtain ⟨ns, h1, h2⟩ := VRs.ints hxs hm
    exact ⟨_, .cons _ t h1, by rw [List.sum_cons, h2]⟩

theorem preSum_take (ns : List Int) : ∀ k, preSum (fun i => ns.getD i 0) k = (ns.take k).sum
  | 0 => by simp [preSum]
  | k + 1 => by
    rw [preSum, preSum_take ns k, List.take_add_one, List.sum_append]
    congr 1
    cases h : ns[k]? <;> simp [h]

theorem sum_ok {p : Addr × Addr} {vs : List Value} {ns : List Int} {Q : Value → Shared → Prop} (R : Room A 0) (hl : s.heap.PlainList p.1 vs.toArray) (hi : IntsAre vs ns)
    (h : ∀ h' tk t, (∀ b o, s.heap.get? b = some o → h'.get? b = some o) → Q (.int ns.sum t) { s with heap := h', toks := tk }) :
    wpAny (model prog w) A (call (.builtin "sum") [.ref p.1]) Q E s := by
  have hlt : p.1 < s.heap.objs.size := by obtain ⟨n, e⟩ := hl; exact Heap.lt_size e
  refine call_sum_walkG (wpAny_pyIter_list hl.isList ?_)
  refine ⟨_, _, _, _, _, _, fun i => ns.getD i 0, rfl, Walks.list (A := A.in1) R.hh _ p.1 (Nat.ne_of_lt hlt) vs.toArray, ⟨⟨_, Heap.get?_push_size _ rfl, rfl, rfl⟩, hl.isList.push _⟩, ?_, ?_, ?_⟩
  · intro b hb
    show b < (s.heap.push _).objs.size
    rw [Heap.size_push]
    rcases List.mem_cons.mp hb with rfl | hb
    · exact Nat.lt_succ_self _
    · rw [List.mem_singleton.mp hb]; exact Nat.lt_succ_of_lt hlt
  · intro i v hv
    have hv' : vs[i]? = some v := by simpa using hv
    have hlt' : i < ns.length := by rw [← hi.length]; exact (List.getElem?_eq_some_iff.mp hv').1
    obtain ⟨t, ht⟩ := hi.get i ns[i] (by simp [hlt'])
    rw [hv'] at ht
    exact ⟨t, by rw [Option.some.inj ht]; simp [hlt']⟩
  · intro h' tk t' hk
    have e : preSum (fun i => ns.getD i 0) vs.toArray.size = ns.sum := by
      rw [preSum_take, List.size_toArray, hi.length, List.take_length]
    rw [e]
    refine h h' tk t' fun b o hg => hk b o (fun hb => ?_) (Heap.get?_push_of_some _ hg)
    have := Heap.lt_size hg
    rw [List.mem_singleton.mp hb] at this
    exact Nat.lt_irrefl _ this

noncomputable def bltV : Bi → Value
  | .len => .builtin "len"
  | .range => .type "range"
  | .max => .builtin "max"
  | .int => .type "int"
  | .sum => .builtin "sum"
  | .tuple => .type "tuple"
  | .list => .type "list"

theorem rng_one {a b : Int} (ha : small a) (hb : small b) : Builtin.Range.rangeSize a b 1 = ((b - a).toNat : Int) ∧ Builtin.Range.small a b 1 = true := by
  obtain ⟨h1, h2⟩ := ha
  obtain ⟨h3, h4⟩ := hb
  refine ⟨?_, small_one (by omega) (by omega) (by omega) (by omega)⟩
  rw [rangeSize_one]; split <;> omega
theorem rng_dn {a b : Int} (ha : small a) (hb : small b) : Builtin.Range.rangeSize a b (-1) = ((a - b).toNat : Int) ∧ Builtin.Range.small a b (-1) = true := by
  obtain ⟨h1, h2⟩ := ha
  obtain ⟨h3, h4⟩ := hb
  have e : Builtin.Range.rangeSize a b (-1) = ((a - b).toNat : Int) := by
    unfold Builtin.Range.rangeSize
    simp only [show ¬ ((-1 : Int) > 0) by decide, if_false, Int.neg_neg, Int.ediv_one]
    split <;> omega
  refine ⟨e, ?_⟩
  clear e
  unfold Builtin.Range.small
  unfold Builtin.Range.rangeSize
  simp only [Builtin.Range.rangeFitsLong, Bool.and_eq_true, Bool.or_eq_true, decide_eq_true_eq, beq_iff_eq, show ¬ ((-1 : Int) > 0) by decide, if_false, Int.neg_neg, Int.ediv_one]
  split <;> omega

theorem len_ok {v : V} {x : Value} {Q : V → S → Prop} (h : lenW v Q σ) (X : Sim cx ρ σ s.heap) (r : VR s.heap ρ v x) : wpAny (model prog w) A (call (.builtin "len") [x]) (Pst cx VR ρ s Q) E s := by
  cases v with
  | tup l =>
    obtain ⟨a, ws, n, rfl, hg, hv⟩ := r
    have el := hv.length
    obtain ⟨hz, h⟩ := h
    rw [← el] at h
    refine PyProof.Rows.len_tuple ⟨_, hg, rfl, n, rfl⟩ (by simp [el]; omega) ?_
    exact .here X h ⟨_, rfl⟩
  | ref i =>
    dsimp only [lenW] at h
    obtain ⟨l, a, ws, rfl, hl, hv, el, hz, h⟩ := withS_at X h r
    rw [← el] at h
    refine Calls.call_len_list hl (by simp [el]; omega) ?_
    exact .here X h ⟨_, rfl⟩
  | _ => exact h.elim
theorem range_ok {as : List V} {vs : List Value} {Q : V → S → Prop} (h : rangeW as Q σ) (X : Sim cx ρ σ s.heap) (ra : VRs s.heap ρ as vs) : wpAny (model prog w) A (call (.type "range") vs) (Pst cx VR ρ s Q) E s := by
  cases as with
  | nil => exact h.elim
  | cons a as =>
    obtain ⟨a, rfl, ha, h⟩ := withI_inv h
    obtain ⟨_, _, rfl, ⟨t, rfl⟩, ra⟩ := ra
    cases as with
    | nil =>
      cases ra
      refine call_range_1 (.same X (push_keeps _ _) h ?_)
      obtain ⟨e1, e2⟩ := rng_one (a := 0) ⟨by decide, by decide⟩ ha
      exact ⟨_, a, _, _, _, rfl, IsRange.new _ _ _ _ _ _ _, by rw [e1, Int.sub_zero], e2⟩
    | cons b as =>
      obtain ⟨b, rfl, hb, h⟩ := withI_inv h
      obtain ⟨_, _, rfl, ⟨u, rfl⟩, ra⟩ := ra
      cases as with
      | nil =>
        cases ra
        refine call_range_2 (.same X (push_keeps _ _) h ?_)
        obtain ⟨e1, e2⟩ := rng_one ha hb
        exact ⟨_, b, _, _, _, rfl, IsRange.new _ _ _ _ _ _ _, e1, e2⟩
      | cons c as =>
        obtain ⟨c, rfl, ec, g⟩ := withI_inv h
        cases ec
        obtain ⟨_, _, rfl, ⟨v, rfl⟩, ra⟩ := ra
        cases as with
        | nil =>
          cases ra
          refine call_range_3 (by decide) (.same X (push_keeps _ _) g ?_) (.inl (PyProof.noPylong_small (by decide)))
          obtain ⟨e1, e2⟩ := rng_dn ha hb
          exact ⟨_, b, _, _, _, rfl, IsRange.new _ _ _ _ _ _ _, e1, e2⟩
        | cons _ _ => exact g.elim
theorem max_ok {as : List V} {vs : List Value} {Q : V → S → Prop} (R : Room A 0) (h : maxW as Q σ) (X : Sim cx ρ σ s.heap) (ra : VRs s.heap ρ as vs) : wpAny (model prog w) A (call (.builtin "max") vs) (Pst cx VR ρ s Q) E s := by
  cases as with
  | nil => exact h.elim
  | cons a as =>
    obtain ⟨a, rfl, h⟩ := withI_inv h
    obtain ⟨b, rfl, h⟩ := w1_inv h
    obtain ⟨b, rfl, h⟩ := withI_inv h
    obtain ⟨_, _, rfl, ⟨t, rfl⟩, _, _, rfl, ⟨u, rfl⟩, rfl⟩ := ra
    refine max_two_ints R.hh fun h' tk hk => .same X hk h ?_
    split <;> exact ⟨_, rfl⟩
theorem intB_ok {v : V} {x : Value} {Q : V → S → Prop} (h : intW v Q σ) (X : Sim cx ρ σ s.heap) (r : VR s.heap ρ v x) : wpAny (model prog w) A (call (.type "int") [x]) (Pst cx VR ρ s Q) E s := by
  cases v with
  | int a =>
    obtain ⟨t, rfl⟩ := vr_int r
    exact call_int_int (.here0 X h ⟨_, rfl⟩)
  | bool b =>
    cases r
    exact call_int_bool (.here X h ⟨_, rfl⟩)
  | _ => exact h.elim
theorem listB_ok {v : V} {x : Value} {Q : V → S → Prop} (h : listW v Q σ) (X : Sim cx ρ σ s.heap) (r : VR s.heap ρ v x) : wpAny (model prog w) A (call (.type "list") [x]) (Pst cx VR ρ s Q) E s := by
  cases v with
  | tup l =>
    obtain ⟨a, ws, n, rfl, hg, hv⟩ := r
    obtain ⟨hz, h⟩ := h
    refine call_list_seq (hsz := size_of_len hv.length hz) a (.inr rfl) hg rfl rfl fun h' c' hk hl => ?_
    exact .list X hk (get_size_none _) ⟨c', hl⟩ hv h
  | _ => exact h.elim
theorem bltW_ok {f : Bi} {as : List V} {vs : List Value} {Q : V → S → Prop} (R : Room A 0) (h : bltW f as Q σ) (X : Sim cx ρ σ s.heap) (ra : VRs s.heap ρ as vs) :
    wpAny (model prog w) A (call (bltV f) vs) (Pst cx VR ρ s Q) E s := by
  delta bltW at h
  cases f with
  | range => exact range_ok h X ra
  | max => exact max_ok R h X ra
  | len =>
    obtain ⟨a, rfl, h⟩ := w1_inv h
    obtain ⟨x, rfl, r⟩ := vrs1 ra
    exact len_ok h X r
  | int =>
    obtain ⟨a, rfl, h⟩ := w1_inv h
    obtain ⟨x, rfl, r⟩ := vrs1 ra
    exact intB_ok h X r
  | list =>
    obtain ⟨a, rfl, h⟩ := w1_inv h
    obtain ⟨x, rfl, r⟩ := vrs1 ra
    exact listB_ok h X r
  | sum =>
    obtain ⟨a, rfl, h⟩ := w1_inv h
    obtain ⟨x, rfl, r⟩ := vrs1 ra
    obtain ⟨_, l, p, ws, n, rfl, _, _, _, rfl, hl, hv, el, hz, n, en, h⟩ := withL_at X h r
    obtain ⟨ns, h1, h2⟩ := hv.ints en
    refine sum_ok R (plain_of hl) h1 fun h' tk t hk => ?_
    exact .same X hk h ⟨t, by rw [h2]⟩
  | tuple =>
    obtain ⟨a, rfl, h⟩ := w1_inv h
    obtain ⟨x, rfl, r⟩ := vrs1 ra
    obtain ⟨_, l, p, ws, n, rfl, _, _, _, rfl, hl, hv, el, hz, h⟩ := withL_at X h r
    refine call_tuple_list (hsz := size_of_len el hz) (plain_of hl).isList fun h' hk => ?_
    have hk' : ∀ b o', s.heap.get? b = some o' → (h'.push { cls := .type "tuple", data := .seq ws.toArray }).get? b = some o' := fun b o e => Heap.get?_push_of_some _ (hk b o e)
    exact .tuple (vs := ws) (n := 0) X hk' (Heap.get?_push_size _ rfl) hv h

theorem isTup_ok {v : V} {x : Value} {Q : V → S → Prop} (X : Sim cx ρ σ s.heap)
    (h : match v with | .tup _ => Q (.bool true) σ | .int _ => Q (.bool false) σ | .bool _ => Q (.bool false) σ | _ => False) (r : VR s.heap ρ v x) :
    wpAny (model prog w) A (call (.builtin "isinstance") [x, .type "tuple"]) (Pst cx VR ρ s Q) E s := by
  cases v with
  | tup l =>
    obtain ⟨a, ws, n, rfl, hg, hv⟩ := r
    exact IsiPair.tuple_tuple hg rfl (.here0 X h rfl)
  | int i =>
    obtain ⟨t, rfl⟩ := r
    exact IsiPair.int_tuple (.here X h rfl)
  | bool b =>
    cases r
    exact IsiPair.bool_tuple (.here X h rfl)
  | _ => exact h.elim

/-! methods of lists -/
noncomputable def lmId : LM → String
  | .append => "list.append"
  | .pop => "list.pop"
  | .extend => "list.extend"
noncomputable def lmName : LM → Str
  | .append => "append"
  | .pop => "pop"
  | .extend => "extend"

theorem Pst.lput {l l' : List V} {i : Nat} {p : Addr × Addr} {vs ws : List Value} {f : Array Value → Array Value} {n tk' : Nat} {x : Value} {v : V} {Q : V → S → Prop} (X : Sim cx ρ σ s.heap) (e : σ[i]? = some (.lst l)) (hp : ρ[i]? = some p) (h2 : p.2 = p.1)
    (hl : s.heap.get? p.1 = some { cls := .type "list", data := .seq vs.toArray n }) (hf : f vs.toArray = ws.toArray) (r : VRs s.heap ρ l' ws) (rx : VR s.heap ρ v x) (hq : Q v (σ.set i (.lst l'))) :
    Pst cx VR ρ s Q x { s with heap := s.heap.update p.1 (Obj.mapSeq f), toks := tk' } := by
  have hs : ∀ b, b ≠ p.1 → (s.heap.update p.1 (Obj.mapSeq f)).get? b = s.heap.get? b := fun b hb => Heap.get?_update_other _ _ (Ne.symm hb)
  have st : Stp ρ s.heap ρ (s.heap.update p.1 (Obj.mapSeq f)) := Stp.put hp (.inl rfl) hs
  refine .mk' hq (X.put e hp (.inl rfl) hs ⟨h2, ws, ?_, st.vrs X r⟩) st (st.vr X rx)
  have hfree : (Obj.mapSeq f { cls := .type "list", data := .seq vs.toArray n }).isFreed = false := rfl
  refine ⟨if ws.toArray.size == vs.toArray.size then n else n + 1, ?_⟩
  rw [Heap.get?_update_self _ hl hfree]
  simp [Obj.mapSeq, hf]

theorem lmW_ok {m : LM} {i : Nat} {as l : List V} {p : Addr × Addr} {vs ws : List Value} {n : Nat} {Q : V → S → Prop} (h : lmW m i as l Q σ) (X : Sim cx ρ σ s.heap) (el : σ[i]? = some (.lst l)) (hp : ρ[i]? = some p) (h2 : p.2 = p.1)
    (hl : s.heap.get? p.1 = some { cls := .type "list", data := .seq ws.toArray n }) (hv : VRs s.heap ρ l ws) (hz : l.length ≤ 1000000) (hsz : ws.toArray.size ≤ sizeLine) (ra : VRs s.heap ρ as vs) :
    wpAny (model prog w) A (call (.builtin (lmId m)) (.ref p.1 :: vs)) (Pst cx VR ρ s Q) E s := by
  have hlen := hv.length
  cases m with
  | append =>
    obtain ⟨a, rfl, h⟩ := w1_inv h
    obtain ⟨x, rfl, rx⟩ := vrs1 ra
    refine wpAny_call_entry slot_list_append ⟨_, hl, rfl⟩ entry_list_append ?_ (args_list_append _ _)
    show wpAny _ _ (updateSeq p.1 (·.push x) >>= fun _ => ret .none) _ _ s
    refine wpAny_bind (wpAny_updateSeq (hz := hsz) hl rfl (wpAny_pure ⟨.none, rfl, ?_⟩) (by rw [Array.size_push]; omega))
    exact .lput (tk' := s.toks) (ws := ws ++ [x]) X el hp h2 hl (by simp) (hv.append (VRs.one rx)) (by first | exact rfl | exact ⟨_, rfl⟩) h
  | pop =>
    cases as with
    | cons _ _ => exact h.elim
    | nil =>
      cases ra
      obtain ⟨v, hv', h⟩ := h
      have hlt : 0 < l.length := by cases l with | nil => cases hv' | cons _ _ => exact Nat.succ_pos _
      have hget : l[l.length - 1]? = some v := by rw [← List.getLast?_eq_getElem?]; exact hv'
      obtain ⟨y, hy, ry⟩ := hv.get hget
      refine call_meets F.slot_list_pop ⟨_, hl, rfl⟩ F.entry_list_pop (F.args_list_pop_1 _) (MeetsSeq.list_pop_last p.1 ws.toArray n y (by simpa [hlen] using hy) hsz) ⟨hl, ?_⟩
      refine .lput (tk' := s.toks) (ws := ws.dropLast) X el hp h2 hl ?_ ?_ ry h
      · rw [List.dropLast_eq_take]
        have hw : 0 < ws.length := by rw [hlen]; exact hlt
        apply Array.ext'
        simp only [List.size_toArray, Array.eraseIdxIfInBounds]
        rw [dif_pos (by omega)]
        simp
        rw [List.dropLast_eq_take]
      · rw [List.dropLast_eq_take, List.dropLast_eq_take, hlen]
        exact hv.take _
  | extend =>
    obtain ⟨a, rfl, h⟩ := w1_inv h
    obtain ⟨x, rfl, rx⟩ := vrs1 ra
    cases a with
    | tup r =>
      obtain ⟨hr, h⟩ := h
      obtain ⟨a, us, k, rfl, hg, hu⟩ := rx
      have hulen := hu.length
      refine call_meets F.slot_list_extend ⟨_, hl, rfl⟩ F.entry_list_extend (F.args_list_extend_2 _ _)
        (AutoSeq1.list_extend_list_tuple_0 p.1 ws.toArray n a us.toArray k ?_ hsz ?_) ⟨hl, hg, ?_⟩
      · have := sizeLine_eq; simp [Builtin.List.listTooLong, hlen, hulen]; intro; omega
      · have := sizeLine_eq; simp only [List.size_toArray, hlen, hulen]; omega
      · exact .lput (tk' := s.toks) (ws := ws ++ us) X el hp h2 hl (by simp) (hv.append hu) (by first | exact rfl | exact ⟨_, rfl⟩) h
    | _ => exact h.elim
theorem lmethW_ok {m : LM} {o : V} {as : List V} {vo : Value} {vs : List Value} {Q : V → S → Prop} (h : lmethW m o as Q σ) (X : Sim cx ρ σ s.heap) (ro : VR s.heap ρ o vo) (ra : VRs s.heap ρ as vs) :
    wpAny (model prog w) A (call (.builtin (lmId m)) (vo :: vs)) (Pst cx VR ρ s Q) E s := by
  delta lmethW at h
  cases o with
  | ref i =>
    obtain ⟨_, l, p, ws, n, ei, el, hp, h2, rfl, hl, hv, hlen, hz, h⟩ := withL_at X h ro
    cases ei
    exact lmW_ok h X el hp h2 hl hv hz (size_of_len hlen hz) ra
  | _ => exact h.elim

theorem setI_ok {i : Nat} {j : Int} {l : List V} {p : Addr × Addr} {ws : List Value} {t : Tok} {v : V} {vv : Value} {Q : S → Prop} (X : Sim cx ρ σ s.heap) (el : σ[i]? = some (.lst l)) (hp : ρ[i]? = some p) (h2 : p.2 = p.1)
    (hpl : s.heap.PlainList p.1 ws.toArray) (hv : VRs s.heap ρ l ws) (h0 : 0 ≤ j) (h1 : j.toNat < ws.toArray.size) (hz : j < 1000000) (rv : VR s.heap ρ v vv) (h : Q (σ.set i (.lst (l.set j.toNat v)))) :
    wpAny (model prog w) A (setItem (.ref p.1) (.int j t) vv) (fun _ => Pst cx VR ρ s (fun (_ : V) σ' => Q σ') .none) E s := by
  obtain ⟨n, hl⟩ := id hpl
  unfold setItem
  try with_reducible refine wpAny_holding ?_
  first | refine wpAny_bind (wpAny_pure ?_) | skip
  refine wpAny_bind (wpAny_sequenceKey hpl.isList.typeIs (by decide) ?_)
  refine wpAny_bind (wpAny_callSpecial?_slot (name := Str.ofString "__setitem__") hpl.isList.typeIs slot_list_setitem
    (wpAny_call_entry slot_list_setitem hpl.isList.typeIs entry_list_setitem ?_ (args_list_setitem _ _ _)))
  show wpAny _ _ (Builtin.List.listSubscript? (.int j t) >>= _) _ _ s
  refine wpAny_bind (wpAny_listSubscript_int (fitsIndex_of h0 (by omega)) ?_)
  obtain ⟨k, rfl⟩ := Int.eq_ofNat_of_zero_le h0
  have hk : k < ws.toArray.size := h1
  show wpAny _ _ ((seqItemAt p.1 k >>= fun r => pure (r.map (k, ·))) >>= _) _ _ s
  refine wpAny_bind (wpAny_bind (wpAny_seqItemAt hl rfl (wpAny_pure ?_)))
  rw [Array.getElem?_eq_getElem hk]
  show wpAny _ _ (setSeqItemAt p.1 k vv >>= _) _ _ s
  refine wpAny_bind (wpAny_setSeqItemAt hl rfl ?_)
  have fin : Pst cx VR ρ s (fun _ σ' => Q σ') .none { s with heap := s.heap.update p.1 (Obj.mapSeq (·.setIfInBounds k vv)), toks := s.toks } :=
    .lput (v := .none) (ws := ws.set k vv) X el hp h2 hl (by simp) (hv.set rv k) (by first | exact rfl | exact ⟨_, rfl⟩) h
  first
    | exact wpAny_bind (wpAny_pure (wpAny_pure ⟨.none, rfl, wpAny_pure fin⟩))
    | exact wpAny_pure ⟨.none, rfl, wpAny_pure fin⟩
theorem setitemW_ok {o k v : V} {vo vk vv : Value} {Q : S → Prop} (h : setitemW o k v Q σ) (X : Sim cx ρ σ s.heap) (ro : VR s.heap ρ o vo) (rk : VR s.heap ρ k vk) (rv : VR s.heap ρ v vv) :
    wpAny (model prog w) A (setItem vo vk vv) (fun _ => Pst cx VR ρ s (fun (_ : V) σ' => Q σ') .none) E s := by
  delta setitemW at h
  cases o with
  | ref i =>
    dsimp only at h
    obtain ⟨j, rfl, g⟩ := withI_inv h
    obtain ⟨_, l, p, ws, n, ei, el, hp, h2, rfl, hl, hv, hlen, h0, h1, hz, g⟩ := withL_at X g ro
    cases ei
    obtain ⟨t, rfl⟩ := vr_int rk
    exact setI_ok X el hp h2 (plain_of hl) hv h0 (by rw [List.size_toArray, hlen]; omega) (by omega) rv g
  | _ => exact h.elim
end
end Mine

end
section
open PySem PySem.W PySem.Calls PyProof.Rows
set_option Elab.async false
set_option maxRecDepth 100000
namespace Mine

noncomputable def attrOK (K : Frag) (c m : Str) : Bool := match clsAddr K c with
  | some C => plainGet K C m && hasDictIn K C && (match findIn K (.ref C) m with | some a => noGet K a | none => false) &&
    (findIn K (.ref C) "__setattr__" == some (some (.builtin "object.__setattr__"))) && plainOver K C && (takerIn K C m == some none)
  | none => false
noncomputable def methOK (K : Frag) (c m : Str) : Bool := match clsAddr K c with
  | some C => plainGet K C m && (match findIn K (.ref C) m with | some (some (.ref f)) => isFn K (.ref f) && fnIn K f && keepIn K (.ref f) | _ => false)
  | none => false
noncomputable def fval (K : Frag) (c f : Str) : Option Value := if c = "" then (nsIn K mainGlobals f).join else (clsAddr K c).bind fun C => (findIn K (.ref C) f).join
noncomputable def fnOK (K : Frag) (f : Str) : Bool := match fval K "" f with
  | some v => keepIn K v
  | none => false

theorem handed_VR {h : Heap} {ρ : Rho} {v : V} {x : Value} (r : VR h ρ v x) : handedIn x = true := by
  cases v <;> dsimp only [VR] at r
  · subst r; rfl
  · subst r; rfl
  · obtain ⟨t, rfl⟩ := r; rfl
  · obtain ⟨t, rfl⟩ := r; rfl
  · obtain ⟨a, vs, n, rfl, _⟩ := r; rfl
  · obtain ⟨p, _, rfl⟩ := r; rfl
  · obtain ⟨a, _, _, _, _, rfl, _⟩ := r; rfl

theorem isStr_str (x y : Str) (t : Tok) : (Value.str x t).isStr y = (x == y) := rfl

theorem FR.noRef {h : Heap} {ρ : Rho} : ∀ {fs : List (Str × V)} {es : List DictEntry}, FR h ρ fs es → es.any (·.refKey) = false
  | [], _, r => by dsimp only [FR] at r; subst r; rfl
  | p :: fs, _, r => by
    dsimp only [FR] at r
    obtain ⟨e, es, rfl, ⟨t, ht⟩, _, hr⟩ := r
    rw [List.any_cons, FR.noRef hr]; simp [DictEntry.refKey, ht]
theorem FR.find {h : Heap} {ρ : Rho} (m : Str) : ∀ {fs : List (Str × V)} {es : List DictEntry}, FR h ρ fs es →
    match fs.lookup m with
    | some v => ∃ e, es.find? (·.key.isStr m) = some e ∧ VR h ρ v e.val
    | none => es.find? (·.key.isStr m) = none
  | [], _, r => by dsimp only [FR] at r; subst r; rfl
  | p :: fs, _, r => by
    dsimp only [FR] at r
    obtain ⟨e, es, rfl, ⟨t, ht⟩, hv, hr⟩ := r
    have ih := FR.find m hr
    obtain ⟨k, v⟩ := p
    simp only [List.lookup_cons, List.find?_cons, ht, isStr_str]
    by_cases hk : m = k
    · subst hk
      simp only [beq_self_eq_true]
      exact ⟨e, rfl, hv⟩
    · have h1 : (m == k) = false := by simpa using hk
      have h2 : (k == m) = false := by simpa using fun e => hk e.symm
      simp only [h1, h2]
      exact ih
theorem FR.getL {h : Heap} {ρ : Rho} {fs : List (Str × V)} {es : List DictEntry} (r : FR h ρ fs es) (m : Str) :
    (∀ v, fs.lookup m = some v → ∃ x, getL m es = some (some x) ∧ VR h ρ v x) ∧ (fs.lookup m = none → getL m es = some none) := by
  have q := r.find m
  unfold PySem.W.getL
  constructor
  · intro v hv
    rw [hv] at q
    obtain ⟨e, he, hr⟩ := q
    exact ⟨e.val, by rw [he], hr⟩
  · intro hn
    rw [hn] at q
    have q' : es.find? (·.key.isStr m) = none := q
    rw [q']
    simp [r.noRef]
theorem FR.put {h : Heap} {ρ : Rho} {m : Str} {v : V} {x : Value} (hv : VR h ρ v x) (hsh : Int) (t : Tok) : ∀ {fs : List (Str × V)} {es : List DictEntry}, FR h ρ fs es →
    FR h ρ (upd m v fs) (putL m hsh (.str m t) x es)
  | [], _, r => by
    dsimp only [FR] at r; subst r
    simp only [upd, putL, FR]
    exact ⟨_, [], rfl, ⟨t, rfl⟩, hv, rfl⟩
  | p :: fs, _, r => by
    dsimp only [FR] at r
    obtain ⟨e, es, rfl, ⟨u, hu⟩, hw, hr⟩ := r
    obtain ⟨k, w⟩ := p
    simp only [upd, putL, hu, isStr_str]
    by_cases hk : k = m
    · subst hk
      simp only [if_true, beq_self_eq_true, FR]
      exact ⟨_, es, rfl, ⟨u, rfl⟩, hv, hr⟩
    · have h1 : (k == m) = false := by simpa using hk
      simp only [hk, if_false, h1, Bool.false_eq_true, FR]
      exact ⟨_, _, rfl, ⟨u, hu⟩, hw, FR.put hv hsh t hr⟩
theorem FR.length {h : Heap} {ρ : Rho} : ∀ {fs : List (Str × V)} {es : List DictEntry}, FR h ρ fs es → es.length = fs.length
  | [], _, r => by dsimp only [FR] at r; subst r; rfl
  | p :: fs, _, r => by
    dsimp only [FR] at r
    obtain ⟨e, es, rfl, _, _, hr⟩ := r
    simp [FR.length hr]
theorem putL_length (m : Str) (h : Int) (k v : Value) : ∀ es : List DictEntry, (putL m h k v es).length ≤ es.length + 1
  | [] => by simp [putL]
  | e :: r => by
    simp only [putL]
    split
    · simp
    · have := putL_length m h k v r; simp; omega

structure TbOK (K : Frag) (tb : Tb) : Prop where
  glob : ∀ x v, tb.G x = some v → ∃ y, nsIn K mainGlobals x = some (some y) ∧ ∀ h ρ, K.In h → VR h ρ v y
  attr : ∀ c m, tb.at_ c m = true → attrOK K c m = true
  meth : ∀ c m, tb.mt c m = true → c ≠ "" ∧ methOK K c m = true
  fn : ∀ f, tb.fn f = true → fnOK K f = true
  blt : ∀ x : Str, x ∈ (["len", "range", "max", "int", "sum", "tuple", "list", "isinstance"] : List Str) → nsIn K mainGlobals x = some none

section
variable {prog : Program} {w : World} {cx : Cx} {tb : Tb} {A : Around} {E : Value → Shared → Prop} {s : Shared} {ρ : Rho} {σ : S}

theorem Sim.KIn (X : Sim cx ρ σ s.heap) : cx.K.In s.heap := cx.X.keeps X.base

theorem attrW_ok {o : V} {m : Str} {vo : Value} {ex : Bool} {Q : V → S → Prop} (H : TbOK cx.K tb) (h : attrW tb o m Q σ) (X : Sim cx ρ σ s.heap) (ro : VR s.heap ρ o vo) :
    wpAny (model prog w) A (getAttr vo m ex) (Pst cx VR ρ s Q) E s := by
  delta attrW at h
  split at h
  · rename_i i
    split at h
    · rename_i c fs e
      split at h
      · rename_i v hv
        obtain ⟨p, hp, hne, C, es, n, hC, g1, g2, r⟩ := X.at e
        rw [ro.ref_inv hp]
        have ok := H.attr _ _ h.1
        unfold attrOK at ok
        rw [hC] at ok
        simp only [Bool.and_eq_true, beq_iff_eq] at ok
        obtain ⟨⟨⟨⟨⟨a1, a2⟩, a3⟩, a4⟩, a5⟩, a6⟩ := ok
        split at a3
        · rename_i at' ha
          obtain ⟨x, hx, rx⟩ := (r.getL m).1 v hv
          have I : InstAt s.heap p.1 (instObj C p.2) C (some (dictOf es n)) := ⟨g1, rfl, rfl, g2⟩
          exact get_value X.KIn I (plainGet_of a1).1 (findObj_own a2 ha a3 hx) (handed_VR rx) (.here X h.2 rx)
        · cases a3
      · exact h.elim
    · exact h.elim
  · exact h.elim

theorem clsW_ok {o : V} {m : Str} {vo : Value} {pl : Sem Bool} {Q : Str → Prop} {QQ : Value × List Value → Shared → Prop} (H : TbOK cx.K tb) (h : clsW tb o m Q σ) (X : Sim cx ρ σ s.heap) (ro : VR s.heap ρ o vo)
    (hq : ∀ c f, Q c → fval cx.K c m = some (.ref f) → c ≠ "" → keepIn cx.K (.ref f) = true → QQ (.ref f, [vo]) s) :
    wpAny (model prog w) A (getMethod vo m pl) QQ E s := by
  delta clsW at h
  split at h
  · rename_i i
    split at h
    · rename_i c fs e
      obtain ⟨p, hp, hne, C, es, n, hC, g1, g2, r⟩ := X.at e
      rw [ro.ref_inv hp] at hq ⊢
      obtain ⟨hn, hm, hc⟩ := h
      obtain ⟨c0, ok⟩ := H.meth _ _ hm
      unfold methOK at ok
      rw [hC] at ok
      simp only [Bool.and_eq_true] at ok
      obtain ⟨a1, a2⟩ := ok
      split at a2
      · rename_i f hf
        simp only [Bool.and_eq_true] at a2
        have I : InstAt s.heap p.1 (instObj C p.2) C (some (dictOf es n)) := ⟨g1, rfl, rfl, g2⟩
        refine method_fn X.KIn I (plainGet_of a1).1 (plainGet_of a1).2 hf (beq_iff_eq.mp a2.1.1) ?_ (hq c f hc ?_ c0 a2.2)
        · show (lookIn m (dictOf es n)).map _ = _
          rw [lookIn_dict, (r.getL m).2 hn]; rfl
        · unfold fval; rw [if_neg c0, hC]; show (findIn cx.K (.ref C) m).join = _; rw [hf]; rfl
      · cases a2
    · exact h.elim
  · exact h.elim

theorem setattrW_ok {o v : V} {m : Str} {vo vv : Value} {Q : S → Prop} (H : TbOK cx.K tb) (h : setattrW tb o m v Q σ) (X : Sim cx ρ σ s.heap) (ro : VR s.heap ρ o vo) (rv : VR s.heap ρ v vv) :
    wpAny (model prog w) A (setAttr vo m vv) (fun _ => Pst cx VR ρ s (fun (_ : V) σ' => Q σ') .none) E s := by
  delta setattrW at h
  split at h
  · rename_i i
    split at h
    · rename_i c fs e
      obtain ⟨p, hp, hne, C, es, n, hC, g1, g2, r⟩ := X.at e
      rw [ro.ref_inv hp]
      obtain ⟨hz, ha, h⟩ := h
      have ok := H.attr _ _ ha
      unfold attrOK at ok
      rw [hC] at ok
      simp only [Bool.and_eq_true, beq_iff_eq] at ok
      obtain ⟨⟨⟨⟨⟨a1, a2⟩, a3⟩, a4⟩, a5⟩, a6⟩ := ok
      have I : InstAt s.heap p.1 (instObj C p.2) C (some (dictOf es n)) := ⟨g1, rfl, rfl, g2⟩
      refine set_plain X.KIn I a4 (osa_open (s := { s with toks := s.toks + 1 }) X.KIn I a5 a6 fun b => ?_)
      obtain ⟨cd, hc, hd'⟩ := any_some a2
      have D : ({ s with toks := s.toks + 1 } : Shared).heap.get? p.2 = some (dictOf es n) := g2
      refine wpAny_bind (wpAny_pure (wpAny_bind (wpAny_bind (wpAny_loadPart g1 (wpAny_bind (looks_clsIn X.KIn hc _ _ _ _ (fun _ _ e => e) ?_))))))
      rw [hd']
      refine wpAny_pure (a := some p.2) (wpAny_bind (wpAny_pure (wpAny_bind ?_)))
      unfold nsSet
      refine wpAny_bind (wpAny_bind (wpAny_askSetting (wpAny_pure (wpAny_bind (wpAny_mkText (wpAny_bind (wpAny_loadPart D ?_)))))))
      dsimp only [dictOf]
      have nr : es.toArray.any (·.refKey) = false := by rw [← Array.any_toList]; simpa using r.noRef
      rw [aRefKeyMayBeTheName_at]
      rw [nr, Bool.and_false]
      refine wpAny_updatePart D ?_
      have e1 := putName_dict m (PyData.keyHash w.params m) (.str m (s.toks + 1)) vv es n
      have hlen : (putL m (PyData.keyHash w.params m) (.str m (s.toks + 1)) vv es).length ≤ 101 := by
        have := putL_length m (PyData.keyHash w.params m) (.str m (s.toks + 1)) vv es
        have := r.length; omega
      have g3 : (s.heap.update p.2 (Obj.putName m (PyData.keyHash w.params m) (.str m (s.toks + 1)) vv)).get? p.2 = some (dictOf (putL m (PyData.keyHash w.params m) (.str m (s.toks + 1)) vv es) (putN m es n)) := by
        rw [Heap.get?_update_self _ g2 (by rw [e1]; rfl), e1]
      refine wpAny_bind (wpAny_lookBehind g3 (pastItsLine_dict (by rw [List.size_toArray, sizeLine_eq]; omega)) ?_)
      have hs : ∀ b, b ≠ p.2 → (s.heap.update p.2 (Obj.putName m (PyData.keyHash w.params m) (.str m (s.toks + 1)) vv)).get? b = s.heap.get? b := fun b hb => Heap.get?_update_other _ _ (Ne.symm hb)
      have st : Stp ρ s.heap ρ (s.heap.update p.2 (Obj.putName m (PyData.keyHash w.params m) (.str m (s.toks + 1)) vv)) := Stp.put hp (.inr rfl) hs
      refine wpAny_pure ?_
      refine Pst.mk' (b := V.none) h (X.put e hp (.inr rfl) hs ⟨hne, C, _, _, hC, (hs _ hne).trans g1, g3, ?_⟩) st (by first | exact rfl | exact ⟨_, rfl⟩)
      exact FR.put (st.vr X rv) _ _ (r.mono (st.firm X) st.get)
    · exact h.elim
  · exact h.elim
end
end Mine

end
section
open PySem PySem.W PySem.Calls PyProof.Rows
set_option Elab.async false
set_option maxRecDepth 100000
namespace Mine

/-- the frame at hand: what the mini names hold stands in it -/
structure FOK (cx : Cx) (sc : List (Str × NameKind)) (env : Env) (ℓ : L) (ρ : Rho) (h : Heap) : Prop where
  kind : env.scope.kind = .function
  glb : env.globals = mainGlobals
  blt : env.builtins = builtinsNs
  kLocal : ∀ x, sc.lookup x = some .local → env.kindOf x = some .local
  kCell : ∀ x, sc.lookup x = some .cell ∨ sc.lookup x = some .free → (env.kindOf x = some .cell ∨ env.kindOf x = some .free) ∧ ∃ c, env.cells.lookup x = some c
  kGlob : ∀ x, sc.lookup x = some .globalImplicit → env.kindOf x = some .globalImplicit
  ns : ∃ m, h.Ns env.locals m ∧ ∀ (x : Str) v, x ≠ ".0" → ℓ.lookup x = some v → env.kindOf x = some .local → ∃ y, m x = some y ∧ VR h ρ v y
  cell : ∀ x c, env.cells.lookup x = some c → ∃ u, h.IsCell c u ∧ ∀ v, ℓ.lookup x = some v → (env.kindOf x = some .cell ∨ env.kindOf x = some .free) → ∃ y, u = some y ∧ VR h ρ v y
  offL : ¬ InR ρ env.locals
  offC : ∀ x c, env.cells.lookup x = some c → ¬ InR ρ c ∧ c ≠ env.locals ∧ cx.h₀.get? c = none
  one : ∀ x y c, env.cells.lookup x = some c → env.cells.lookup y = some c → x = y
  newL : cx.h₀.get? env.locals = none

section
variable {prog : Program} {w : World} {cx : Cx} {tb : Tb} {A : Around} {E : Value → Shared → Prop} {s : Shared} {ρ ρ' : Rho} {σ : S} {h h' : Heap} {sc : List (Str × NameKind)} {env : Env} {ℓ : L}

theorem FOK.step (F : FOK cx sc env ℓ ρ h) (X : Sim cx ρ σ h) (t : Stp ρ h ρ' h') : FOK cx sc env ℓ ρ' h' := by
  obtain ⟨m, hn, hv⟩ := F.ns
  obtain ⟨oL, es, ep, hL, r⟩ := id hn
  refine ⟨F.kind, F.glb, F.blt, F.kLocal, F.kCell, F.kGlob, ⟨m, ⟨oL, es, ep, t.keep _ _ F.offL hL, r⟩, fun x v e0 e1 e2 => ?_⟩, fun x c e => ?_, t.off F.offL hL, fun x c e => ?_, F.one, F.newL⟩
  · obtain ⟨y, h1, h2⟩ := hv x v e0 e1 e2
    exact ⟨y, h1, t.vr X h2⟩
  · obtain ⟨u, ⟨o, ho, hd⟩, hu⟩ := F.cell x c e
    refine ⟨u, ⟨o, t.keep _ _ (F.offC x c e).1 ho, hd⟩, fun v e1 e2 => ?_⟩
    obtain ⟨y, h1, h2⟩ := hu v e1 e2
    exact ⟨y, h1, t.vr X h2⟩
  · obtain ⟨u, ⟨o, ho, hd⟩, hu⟩ := F.cell x c e
    obtain ⟨a, b, c⟩ := F.offC x c e
    exact ⟨t.off a ho, b, c⟩

theorem Room.le {n m : Nat} (R : Room A n) (h : m ≤ n) : Room A m := ⟨R.hh, by have := R.dep; omega, by have := R.un; omega⟩

noncomputable def BEq (_ : Heap) (_ : Rho) (b a : Bool) : Prop := a = b
noncomputable def UEq (_ : Heap) (_ : Rho) (_ : Unit) (_ : Value) : Prop := True

/-- what the oracle says of calls -/
noncomputable def OrOK (prog : Program) (w : World) (cx : Cx) (C : Or) (n : Nat) : Prop := ∀ c f vs Qm σ, C c f vs Qm σ → ∀ fv, fval cx.K c f = some fv →
  ∀ A s ρ xs E, Room A n → Sim cx ρ σ s.heap → VRs s.heap ρ vs xs → wpAny (model prog w) A (call fv xs) (Pst cx VR ρ s Qm) E s

theorem ev_name {x : Str} {pos : Pos} {v : V} {Qm : V → S → Prop} (F : FOK cx sc env ℓ ρ s.heap) (X : Sim cx ρ σ s.heap) (hk : isVar (sc.lookup x) = true) (hv : ℓ.lookup x = some v) (hq : Qm v σ)
    (hd : (x == ("__debug__" : Str)) = false) (hc : (x == ("__classdict__" : Str)) = false) (h0 : (x == (".0" : Str)) = false) : wpAny (model prog w) A (eval (.Name x pos) env) (Pst cx VR ρ s Qm) E s := by
  refine wpAny_Name ?_ hd
  have cellCase : sc.lookup x = some .cell ∨ sc.lookup x = some .free → wpAny (model prog w) A (loadName env x) (Pst cx VR ρ s Qm) E s := fun hs => by
    obtain ⟨hkd, c, hcl⟩ := F.kCell x hs
    obtain ⟨u, hcell, hu⟩ := F.cell x c hcl
    obtain ⟨y, rfl, hr⟩ := hu v hv hkd
    rcases hkd with hkd | hkd
    · exact wpAny_loadName_cell F.kind hkd hcl hcell (.here0 X hq hr)
    · exact wpAny_loadName_free F.kind hkd hcl hcell (.here0 X hq hr) hc
  cases hs : sc.lookup x with
  | none => rw [hs] at hk; cases hk
  | some k =>
    rw [hs] at hk
    cases k with
    | «local» =>
      have hl := F.kLocal x hs
      obtain ⟨m, hn, hm⟩ := F.ns
      obtain ⟨y, h1, h2⟩ := hm x v (by simpa using h0) hv hl
      exact wpAny_loadName_local F.kind hl hn h1 (.here0 X hq h2)
    | cell => exact cellCase (.inl hs)
    | free => exact cellCase (.inr hs)
    | _ => cases hk

/-- a global name: its value -/
theorem ev_glob {x : Str} {pos : Pos} {y : Value} {Q : Value → Shared → Prop} (F : FOK cx sc env ℓ ρ s.heap) (X : Sim cx ρ σ s.heap) (hs : sc.lookup x = some .globalImplicit) (hv : nsIn cx.K mainGlobals x = some (some y)) (hq : Q y s)
    (hd : (x == ("__debug__" : Str)) = false) : wpAny (model prog w) A (eval (.Name x pos) env) Q E s :=
  Calls.Name_function_global F.kind (F.kGlob x hs) (Calls.loadGlobal_global (mg := cx.mg) (by rw [F.glb]; exact cx.T.g.keeps X.base) (mg_of cx.X cx.T.g hv) hq) hd
theorem ev_blt {x : Str} {pos : Pos} {y : Value} {Q : Value → Shared → Prop} (F : FOK cx sc env ℓ ρ s.heap) (X : Sim cx ρ σ s.heap) (hs : sc.lookup x = some .globalImplicit) (hv : nsIn cx.K mainGlobals x = some none)
    (hb : bootBuiltins x = some y) (hn : x ≠ "__name__") (hq : Q y s)
    (hd : (x == ("__debug__" : Str)) = false) : wpAny (model prog w) A (eval (.Name x pos) env) Q E s :=
  Calls.Name_function_global F.kind (F.kGlob x hs) (Calls.loadGlobal_builtin (mg := cx.mg) (mb := cx.mb) (by rw [F.glb]; exact cx.T.g.keeps X.base) (mg_none_of cx.X cx.T.g hv)
    (by rw [F.blt]; exact cx.T.b.keeps X.base) ((cx.T.builtins x hn).trans hb) hq) hd

noncomputable def bltName : Bi → Str
  | .len => "len" | .range => "range" | .max => "max" | .int => "int" | .sum => "sum" | .tuple => "tuple" | .list => "list"
theorem bltOf_name {f : Str} {b : Bi} (h : bltOf f = some b) : f = bltName b := by
  unfold bltOf at h
  repeat' (split at h)
  all_goals (first | (cases h; assumption) | cases h)
theorem boot_blt (b : Bi) : bootBuiltins (bltName b) = some (bltV b) := by cases b <;> kernel_rfl
theorem boot_isi : bootBuiltins "isinstance" = some (.builtin "isinstance") := by kernel_rfl
theorem boot_tup : bootBuiltins "tuple" = some (.type "tuple") := by kernel_rfl

theorem attributeBase_ok {o : Expr} {a : Str} {t : Sem Value} (h : okBase o = true) : attributeBase o a env t = t := by
  unfold attributeBase
  split
  · exact Bool.noConfusion h
  · rfl
theorem no_some' {α : Type} {P : Prop} {a : α} (h : (none : Option α) = some a) : P := nomatch h
theorem kwEach_nil (env : Env) : keywordEach [] env = [] := rfl
theorem notSet_marks {op : CmpOp} {e : Expr} (h : notSet e = true) : behindInMarks op e = false := by
  cases e <;> first | rfl | cases h
theorem notSet_folded {e : Expr} (h : notSet e = true) (x : Value) : foldedSetIterable e env x = pure x := by
  cases e <;> first | rfl | cases h

theorem starEach_cons {e : Expr} {r : List Expr} (h : notStar e = true) : starEach (e :: r) env = (false, eval e env) :: starEach r env := by
  cases e <;> first | rfl | cases h
theorem starEach_any : ∀ {es : List Expr}, es.all notStar = true → ∀ pos, (backTo pos (starEach es env)).any (·.1) = false
  | [], _, _ => rfl
  | e :: r, h, pos => by
    simp only [List.all_cons, Bool.and_eq_true] at h
    rw [starEach_cons h.1]
    have := starEach_any h.2 pos
    simpa [backTo] using this
theorem evalArgs_any {M : Model} {f : Value} {args : List (Bool × Sem Value)} {Q : Args → Shared → Prop} (hs : args.any (·.1) = false) (h : wpAny M A (spliced args) (fun vs s' => Q ⟨vs, []⟩ s') E s) :
    wpAny M A (evalArgs f true args []) Q E s := by
  cases args with
  | nil =>
    unfold evalArgs
    show wpAny M A (spliced [] >>= _) Q E s
    refine wpAny_bind (wpAny_mono h (fun vs s' h' => ?_) fun _ _ x => x)
    refine wpAny_bind (wpAny_pure ?_)
    refine wpAny_holding ?_
    exact wpAny_bind (wpAny_pure (wpAny_bind (wpAny_pure (wpAny_pure h'))))
  | cons p r =>
    obtain ⟨b, x⟩ := p
    simp only [List.any_cons, Bool.or_eq_false_iff] at hs
    obtain ⟨rfl, _⟩ := hs
    exact evalArgs_plain h
end
end Mine

end
section
open PySem PySem.W PySem.Calls PyProof.Rows
set_option Elab.async false
set_option maxRecDepth 100000
namespace Mine

section
variable (prog : Program) (w : World) (cx : Cx) (tb : Tb) (C : Or) (k : Nat)

noncomputable def SE (sc : List (Str × NameKind)) (e : Expr) (e' : Ex) : Prop := ∀ env ℓ Qm σ ρ s A E, ev C tb e' ℓ Qm σ → Sim cx ρ σ s.heap → FOK cx sc env ℓ ρ s.heap → Room A k →
  wpAny (model prog w) A (eval e env) (Pst cx VR ρ s Qm) E s
noncomputable def ST (sc : List (Str × NameKind)) (e : Expr) (e' : Ex) : Prop := ∀ env ℓ Qm σ ρ s A E, tru C tb e' ℓ Qm σ → Sim cx ρ σ s.heap → FOK cx sc env ℓ ρ s.heap → Room A k →
  wpAny (model prog w) A (isTrue e env (eval e env)) (Pst cx BEq ρ s Qm) E s
noncomputable def SL (sc : List (Str × NameKind)) (es : List Expr) (es' : List Ex) : Prop := ∀ env ℓ Qm σ ρ s A E pos, evs C tb es' ℓ Qm σ → Sim cx ρ σ s.heap → FOK cx sc env ℓ ρ s.heap → Room A k →
  wpAny (model prog w) A (spliced (backTo pos (starEach es env))) (Pst cx VRs ρ s Qm) E s
noncomputable def SA (sc : List (Str × NameKind)) (es : List Expr) (es' : List Ex) : Prop := ∀ op env ℓ Qm σ ρ s A E pos, evand C tb (op == .And) es' ℓ Qm σ → Sim cx ρ σ s.heap → FOK cx sc env ℓ ρ s.heap → Room A k →
  wpAny (model prog w) A (boolOp pos op (evalEach es env)) (Pst cx VR ρ s Qm) E s
noncomputable def SO (sc : List (Str × NameKind)) (es : List Expr) (es' : List Ex) : Prop := ∀ op env ℓ Qm σ ρ s A E, truo C tb (op == .And) es' ℓ Qm σ → Sim cx ρ σ s.heap → FOK cx sc env ℓ ρ s.heap → Room A k →
  wpAny (model prog w) A (allTrue op es env) (Pst cx BEq ρ s Qm) E s
noncomputable def SX (sc : List (Str × NameKind)) (e : Option Expr) (e' : Ex) : Prop := ∀ env ℓ Qm σ ρ s A E, ev C tb e' ℓ Qm σ → Sim cx ρ σ s.heap → FOK cx sc env ℓ ρ s.heap → Room A k →
  wpAny (model prog w) A (valueOrNone (evalOpt e env)) (Pst cx VR ρ s Qm) E s
end

section
variable {prog : Program} {w : World} {cx : Cx} {tb : Tb} {C : Or} {k : Nat} {sc : List (Str × NameKind)}

theorem SE_const {c : Const} {n : Nat} {pos : Pos} {v : V} (h : match c with | .none => v = .none | .bool b => v = .bool b | .int i => v = .int i | .str x => v = .str x | _ => False) :
    SE prog w cx tb C k sc (.Constant c n pos) (.lit v) := by
  intro env ℓ Qm σ ρ s A E hq X F R
  rw [eval_Constant]
  dsimp only [ev] at hq
  cases c <;> simp only at h <;> first | (exact h.elim) | skip
  · subst h; exact wpAny_pure (.here0 X hq (by first | exact rfl | exact ⟨_, rfl⟩))
  · subst h; exact wpAny_pure (.here0 X hq (by first | exact rfl | exact ⟨_, rfl⟩))
  · subst h; exact wpAny_mkInt (.here X hq (by first | exact rfl | exact ⟨_, rfl⟩))
  · subst h; exact wpAny_mkText (.here X hq (by first | exact rfl | exact ⟨_, rfl⟩))

theorem SE_var {x : Str} {pos : Pos} (hk : isVar (sc.lookup x) = true) (hd : (x == ("__debug__" : Str)) = false) (hc : (x == ("__classdict__" : Str)) = false) (h0 : (x == (".0" : Str)) = false) :
    SE prog w cx tb C k sc (.Name x pos) (.var x) := by
  intro env ℓ Qm σ ρ s A E hq X F R
  dsimp only [ev] at hq
  split at hq
  · rename_i v hv; exact ev_name F X hk hv hq hd hc h0
  · exact hq.elim

theorem SE_glob {x : Str} {pos : Pos} (H : TbOK cx.K tb) (hs : sc.lookup x = some .globalImplicit) (hd : (x == ("__debug__" : Str)) = false) : SE prog w cx tb C k sc (.Name x pos) (.glob x) := by
  intro env ℓ Qm σ ρ s A E hq X F R
  dsimp only [ev] at hq
  split at hq
  · rename_i v hv
    obtain ⟨y, h1, h2⟩ := H.glob x v hv
    exact ev_glob F X hs h1 (.here0 X hq (h2 _ _ X.KIn)) hd
  · exact hq.elim

theorem SE_andor {op : BoolOp} {vs : List Expr} {vs' : List Ex} {pos : Pos} (h : SA prog w cx tb C k sc vs vs') : SE prog w cx tb C k sc (.BoolOp op vs pos) (.andor (op == .And) vs') := by
  intro env ℓ Qm σ ρ s A E hq X F R
  rw [arm_eval_BoolOp]
  dsimp only [ev] at hq
  exact h op env ℓ Qm σ ρ s A E pos hq X F R

theorem SE_neg {x : Expr} {x' : Ex} {pos : Pos} (h : SE prog w cx tb C k sc x x') : SE prog w cx tb C k sc (.UnaryOp .USub x pos) (.neg x') := by
  intro env ℓ Qm σ ρ s A E hq X F R
  rw [arm_eval_UnaryOp]
  dsimp only [ev] at hq
  refine wpAny_bind (wpAny_mono (h env ℓ _ σ ρ s A E hq X F R) (fun v s1 hp => ?_) fun _ _ e => e)
  refine hp.elim fun x σ1 ρ1 h1 tk1 hq X1 t1 r1 => ?_
  refine wpAny_bind (wpAny_standAt (wpAny_holding ?_))
  cases x <;> simp only at hq
  dsimp only [VR] at r1
  obtain ⟨t, rfl⟩ := r1
  exact PyProof.Rows.neg_int (.trans t1 X1 (.here X1 hq (by first | exact rfl | exact ⟨_, rfl⟩)))

theorem SE_bin {l r : Expr} {a b : Ex} {op : Operator} {pos : Pos} (hl : SE prog w cx tb C k sc l a) (hr : SE prog w cx tb C k sc r b) : SE prog w cx tb C k sc (.BinOp l op r pos) (.bin op a b) := by
  intro env ℓ Qm σ ρ s A E hq X F R
  dsimp only [ev] at hq
  refine wpAny_BinOp (wpAny_mono (hl env ℓ _ σ ρ s A E hq X F R) (fun va s1 hp => ?_) fun _ _ e => e)
  refine hp.elim fun x σ1 ρ1 h1 tk1 hq X1 t1 r1 => ?_
  refine wpAny_mono (hr env ℓ _ σ1 ρ1 _ A E hq X1 (F.step X t1) R) (fun vb s2 hp => ?_) fun _ _ e => e
  refine hp.elim fun y σ2 ρ2 h2 tk2 hq X2 t2 r2 => ?_
  exact wpAny_mono (binW_ok (R.le (Nat.zero_le _)) hq X2 (t2.vr X1 r1) r2) (fun v s3 hp => .trans t1 X1 (.trans t2 X2 hp)) fun _ _ e => e

theorem SE_ite {c a b : Expr} {c' a' b' : Ex} {pos : Pos} (hc : ST prog w cx tb C k sc c c') (ha : SE prog w cx tb C k sc a a') (hb : SE prog w cx tb C k sc b b') : SE prog w cx tb C k sc (.IfExp c a b pos) (.ite c' a' b') := by
  intro env ℓ Qm σ ρ s A E hq X F R
  rw [arm_eval_IfExp]
  dsimp only [ev] at hq
  refine wpAny_bind (wpAny_mono (hc env ℓ _ σ ρ s A E hq X F R) (fun t s1 hp => ?_) fun _ _ e => e)
  refine hp.elim fun x σ1 ρ1 h1 tk1 hq X1 t1 r1 => ?_
  dsimp only [BEq] at r1
  subst r1
  cases t
  · exact wpAny_mono (hb env ℓ _ σ1 ρ1 _ A E hq X1 (F.step X t1) R) (fun v s3 hp => .trans t1 X1 hp) fun _ _ e => e
  · exact wpAny_mono (ha env ℓ _ σ1 ρ1 _ A E hq X1 (F.step X t1) R) (fun v s3 hp => .trans t1 X1 hp) fun _ _ e => e

theorem Pst.bool {ρ : Rho} {s : Shared} {Qm : V → S → Prop} {v : Value} {s' : Shared} (h : Pst cx BoolIs ρ s (fun t σ => Qm (.bool t) σ) v s') : Pst cx VR ρ s Qm v s' := by
  refine h.elim fun b σ' ρ' h' tk' hq X t r => ?_
  exact .mk' hq X t (by dsimp only [VR]; exact r)

theorem SE_cmp {l r : Expr} {a b : Ex} {op : CmpOp} {pos : Pos} (hn : notSet r = true) (hl : SE prog w cx tb C k sc l a) (hr : SE prog w cx tb C k sc r b) : SE prog w cx tb C k sc (.Compare l [op] [r] pos) (.cmp op a b) := by
  intro env ℓ Qm σ ρ s A E hq X F R
  dsimp only [ev] at hq
  refine wpAny_Compare1 (wpAny_mono (hl env ℓ _ σ ρ s A E hq X F R) (fun va s1 hp => ?_) fun _ _ e => e) (notSet_marks hn)
  refine hp.elim fun x σ1 ρ1 h1 tk1 hq X1 t1 r1 => ?_
  refine wpAny_mono (hr env ℓ _ σ1 ρ1 _ A E hq X1 (F.step X t1) R) (fun vb s2 hp => ?_) fun _ _ e => e
  refine hp.elim fun y σ2 ρ2 h2 tk2 hq X2 t2 r2 => ?_
  exact wpAny_mono (cmpW_ok (Q := fun t σ => Qm (.bool t) σ) (R.le (Nat.zero_le _)) hq X2 (t2.vr X1 r1) r2) (fun v s3 hp => .trans t1 X1 (.trans t2 X2 (Pst.bool hp))) fun _ _ e => e

theorem ST_cmp {l r : Expr} {a b : Ex} {op : CmpOp} {pos : Pos} (hn : notSet r = true) (hl : SE prog w cx tb C k sc l a) (hr : SE prog w cx tb C k sc r b) : ST prog w cx tb C k sc (.Compare l [op] [r] pos) (.cmp op a b) := by
  intro env ℓ Qm σ ρ s A E hq X F R
  dsimp only [tru] at hq
  refine wpAny_isTrue_Compare1 (wpAny_mono (hl env ℓ _ σ ρ s A E hq X F R) (fun va s1 hp => ?_) fun _ _ e => e) (notSet_marks hn)
  refine hp.elim fun x σ1 ρ1 h1 tk1 hq X1 t1 r1 => ?_
  refine wpAny_mono (hr env ℓ _ σ1 ρ1 _ A E hq X1 (F.step X t1) R) (fun vb s2 hp => ?_) fun _ _ e => e
  refine hp.elim fun y σ2 ρ2 h2 tk2 hq X2 t2 r2 => ?_
  refine wpAny_mono (cmpW_ok (Q := fun t σ => Qm t σ) (R.le (Nat.zero_le _)) hq X2 (t2.vr X1 r1) r2) (fun v s3 hp => ?_) fun _ _ e => e
  refine hp.elim fun t σ3 ρ3 h3 tk3 hq X3 t3 r3 => ?_
  dsimp only [BoolIs] at r3
  subst r3
  exact wpAny_truthy_bool (.trans t1 X1 (.trans t2 X2 (.mk' hq X3 t3 rfl)))

theorem SE_cmp2 {l r r' : Expr} {a b c : Ex} {op op' : CmpOp} {pos : Pos} (hn : notSet r' = true) (hl : SE prog w cx tb C k sc l a) (hr : SE prog w cx tb C k sc r b) (hr' : SE prog w cx tb C k sc r' c) :
    SE prog w cx tb C k sc (.Compare l [op, op'] [r, r'] pos) (.cmp2 op op' a b c) := by
  intro env ℓ Qm σ ρ s A E hq X F R
  dsimp only [ev] at hq
  rw [arm_eval_Compare]
  refine wpAny_bind (wpAny_mono (hl env ℓ _ σ ρ s A E hq X F R) (fun va s1 hp => ?_) fun _ _ e => e)
  refine hp.elim fun x σ1 ρ1 h1 tk1 hq X1 t1 r1 => ?_
  show wpAny _ A (compareChain pos va [op, op'] [eval r env, markedBehindIn op' r' (eval r' env)]) _ _ _
  rw [markedBehindIn_of_false (notSet_marks hn)]
  show wpAny _ A (holding [va] (eval r env) >>= _) _ _ _
  refine wpAny_bind (wpAny_holding (wpAny_mono (hr env ℓ _ σ1 ρ1 _ A E hq X1 (F.step X t1) R) (fun vb s2 hp => ?_) fun _ _ e => e))
  refine hp.elim fun y σ2 ρ2 h2 tk2 hq X2 t2 r2 => ?_
  refine wpAny_bind (wpAny_standAt (wpAny_bind (wpAny_holding ?_)))
  refine wpAny_mono (cmpW_ok (Q := fun t σ => match t with | true => ev C tb c ℓ (fun z σ3 => cmpW op' y z (fun u => Qm (.bool u) σ3) σ3) σ | false => Qm (.bool false) σ) (R.le (Nat.zero_le _)) hq X2 (t2.vr X1 r1) r2) (fun v s3 hp => ?_) fun _ _ e => e
  refine hp.elim fun t σ3 ρ3 h3 tk3 hq X3 t3 r3 => ?_
  dsimp only [BoolIs] at r3
  subst r3
  have t12 := t1.trans X1 t2
  have t13 := t12.trans X2 t3
  have rel : ∀ {α : Type} {vs ks : List Value} {f : Sem α} {QQ : α → Shared → Prop} {s : Shared}, wpAny (model prog w) A f QQ E s → wpAny (model prog w) A (release vs ks >>= fun _ => f) QQ E s := fun h => wpAny_bind (fun Γ p hΓ => by rw [Sem.wp_release]; exact h Γ p hΓ |> fun q => (fun Γ' p' hΓ' => h Γ' p' hΓ'))
  refine rel ?_
  cases t
  · exact wpAny_bind (wpAny_holding (wpAny_truthy_bool (wpAny_pure (.trans t13 X3 (.here0 X3 hq (by first | exact rfl | exact ⟨_, rfl⟩))))))
  · refine wpAny_bind (wpAny_holding (wpAny_truthy_bool ?_))
    show wpAny _ A (holding [vb] (eval r' env) >>= _) _ _ _
    refine wpAny_bind (wpAny_holding (wpAny_mono (hr' env ℓ _ σ3 ρ3 _ A E hq X3 (F.step X t13) R) (fun vc s4 hp => ?_) fun _ _ e => e))
    refine hp.elim fun z σ4 ρ4 h4 tk4 hq X4 t4 r4 => ?_
    refine wpAny_bind (wpAny_standAt ?_)
    refine wpAny_operating ?_
    exact wpAny_mono (cmpW_ok (Q := fun u σ => Qm (.bool u) σ) (R.le (Nat.zero_le _)) hq X4 (t4.vr X3 (t3.vr X2 r2)) r4) (fun v s5 hp => .trans t13 X3 (.trans t4 X4 (Pst.bool hp))) fun _ _ e => e

theorem SE_attr {o : Expr} {o' : Ex} {m : Str} {pos : Pos} (H : TbOK cx.K tb) (hb : okBase o = true) (ho : SE prog w cx tb C k sc o o') : SE prog w cx tb C k sc (.Attribute o m pos) (.attr o' m) := by
  intro env ℓ Qm σ ρ s A E hq X F R
  dsimp only [ev] at hq
  rw [arm_eval_Attribute, attributeBase_ok hb]
  refine wpAny_bind (wpAny_mono (ho env ℓ _ σ ρ s A E hq X F R) (fun vo s1 hp => ?_) fun _ _ e => e)
  refine hp.elim fun x σ1 ρ1 h1 tk1 hq X1 t1 r1 => ?_
  refine wpAny_bind (wpAny_standAt (wpAny_bind (wpAny_holding (wpAny_mono (attrW_ok H hq X1 r1) (fun r s2 hp => ?_) fun _ _ e => e))))
  exact wpAny_bind (wpAny_letTemporaryGo (wpAny_pure (.trans t1 X1 hp)))

theorem sub_getitem_list {M : Model} {l : Addr} {items : Array Value} {QQ : Bool → Shared → Prop} {s : Shared} {A : Around} {E : Value → Shared → Prop} (hl : s.heap.IsList l items) (h : QQ false s) : wpAny M A (getitemInPython (.ref l)) QQ E s := by
  unfold getitemInPython
  exact wpAny_bind (wpAny_specialOf hl.typeIs list_getitem_lookup (wpAny_pure h))
theorem sub_getitem_tup {M : Model} {l : Addr} {items : Array Value} {QQ : Bool → Shared → Prop} {s : Shared} {A : Around} {E : Value → Shared → Prop} (hl : IsTup s.heap l items) (h : QQ false s) : wpAny M A (getitemInPython (.ref l)) QQ E s := by
  unfold getitemInPython
  exact wpAny_bind (wpAny_specialOf hl.typeIs slot_tuple_getitem.lookup (wpAny_pure h))

/-- what can be asked by [] has its own way -/
theorem inPython_ok {M : Model} {o : V} {vo : Value} {QQ : Bool → Shared → Prop} {ρ : Rho} {σ : S} {s : Shared} {A : Around} {E : Value → Shared → Prop} (X : Sim cx ρ σ s.heap) (ro : VR s.heap ρ o vo)
    (hk : (∃ l, o = .tup l) ∨ ∃ j l, o = .ref j ∧ (σ[j]? = some (.lst l) ∨ σ[j]? = some (.frz l))) (h : QQ false s) : wpAny M A (getitemInPython vo) QQ E s := by
  rcases hk with ⟨l, rfl⟩ | ⟨j, l, rfl, e⟩
  · dsimp only [VR] at ro
    obtain ⟨a, vs, n, rfl, hg, hv⟩ := ro
    exact sub_getitem_tup (items := vs.toArray) ⟨_, hg, rfl, n, rfl⟩ h
  · rcases e with e | e
    · obtain ⟨p, vs, hp, _, hl, hv⟩ := X.list e
      rw [ro.ref_inv hp]
      exact sub_getitem_list hl.isList h
    · obtain ⟨p, vs, hp, _, hl, hv⟩ := X.frz e
      rw [ro.ref_inv hp]
      exact sub_getitem_list hl h

theorem subW_inv {o i : V} {Q : V → S → Prop} {σ : S} (h : subW o i Q σ) : (∃ l, o = .tup l) ∨ ∃ j l, o = .ref j ∧ (σ[j]? = some (.lst l) ∨ σ[j]? = some (.frz l)) := by
  delta subW at h
  obtain ⟨_, _, _, _, g⟩ := withI_inv h
  cases o with
  | tup l => exact .inl ⟨_, rfl⟩
  | ref j =>
    obtain ⟨i, l, e, q, _⟩ := withS_inv g
    exact .inr ⟨i, l, e, q⟩
  | _ => exact g.elim
theorem sliceW_inv {o lo hi : V} {Q : V → S → Prop} {σ : S} (h : sliceW o lo hi Q σ) : ∃ j l, o = .ref j ∧ σ[j]? = some (.lst l) := by
  delta sliceW at h
  obtain ⟨i, l, e, q, _⟩ := withL_inv h
  exact ⟨i, l, e, q⟩

theorem SE_sub {o i : Expr} {o' i' : Ex} {pos : Pos} (hs : notSlice i = true) (ho : SE prog w cx tb C k sc o o') (hi : SE prog w cx tb C k sc i i') : SE prog w cx tb C k sc (.Subscript o i pos) (.sub o' i') := by
  intro env ℓ Qm σ ρ s A E hq X F R
  dsimp only [ev] at hq
  rw [arm_eval_Subscript]
  refine wpAny_bind (wpAny_mono (ho env ℓ _ σ ρ s A E hq X F R) (fun vo s1 hp => ?_) fun _ _ e => e)
  refine hp.elim fun x σ1 ρ1 h1 tk1 hq X1 t1 r1 => ?_
  refine wpAny_bind (wpAny_holding (wpAny_mono (hi env ℓ _ σ1 ρ1 _ A E hq X1 (F.step X t1) R) (fun vi s2 hp => ?_) fun _ _ e => e))
  refine hp.elim fun y σ2 ρ2 h2 tk2 hq X2 t2 r2 => ?_
  refine wpAny_bind (wpAny_standAt (wpAny_bind (inPython_ok X2 (t2.vr X1 r1) ?_ ?_)))
  · exact subW_inv hq
  · have e : subscripted i false vo vi = operate [vo, vi] (getItem vo vi) := by
      unfold subscripted
      split
      · exact Bool.noConfusion hs
      · contradiction
      · rfl
    rw [e]
    refine wpAny_bind (wpAny_operating (wpAny_mono (subW_ok hq X2 (t2.vr X1 r1) r2) (fun r s3 hp => ?_) fun _ _ e => e))
    exact wpAny_bind (wpAny_letTemporaryGo (wpAny_pure (.trans t1 X1 (.trans t2 X2 hp))))

theorem SE_slice {o : Expr} {lo hi : Option Expr} {o' lo' hi' : Ex} {p pos : Pos} (ho : SE prog w cx tb C k sc o o') (hl : SX prog w cx tb C k sc lo lo') (hh : SX prog w cx tb C k sc hi hi') :
    SE prog w cx tb C k sc (.Subscript o (.Slice lo hi none p) pos) (.slice o' lo' hi') := by
  intro env ℓ Qm σ ρ s A E hq X F R
  dsimp only [ev] at hq
  rw [arm_eval_Subscript]
  refine wpAny_bind (wpAny_mono (ho env ℓ _ σ ρ s A E hq X F R) (fun vo s1 hp => ?_) fun _ _ e => e)
  refine hp.elim fun x σ1 ρ1 h1 tk1 hq X1 t1 r1 => ?_
  refine wpAny_bind (wpAny_holding ?_)
  rw [arm_eval_Slice]
  refine wpAny_bind (wpAny_mono (hl env ℓ _ σ1 ρ1 _ A E hq X1 (F.step X t1) R) (fun vl s2 hp => ?_) fun _ _ e => e)
  refine hp.elim fun y σ2 ρ2 h2 tk2 hq X2 t2 r2 => ?_
  refine wpAny_bind (wpAny_holding (wpAny_mono (hh env ℓ _ σ2 ρ2 _ A E hq X2 (F.step X (t1.trans X1 t2)) R) (fun vu s3 hp => ?_) fun _ _ e => e))
  refine hp.elim fun z σ3 ρ3 h3 tk3 hq X3 t3 r3 => ?_
  refine wpAny_bind (wpAny_holding (wpAny_pure ?_))
  refine wpAny_newObj_type ?_
  dsimp only
  have t13 := (t1.trans X1 t2).trans X2 t3
  have kp := push_keeps h3 { cls := .type "slice", data := .fields [vl, vu, .none].toArray }
  have X4 := X3.keeps kp
  have t4 : Stp ρ3 h3 ρ3 _ := .of_keeps kp
  have r1' := t4.vr X3 (t3.vr X2 (t2.vr X1 r1))
  refine wpAny_bind (wpAny_standAt (wpAny_bind (inPython_ok (s := { s with heap := _, toks := tk3 }) X4 r1' ?_ ?_)))
  · exact (.inr (let ⟨j, l, a, b⟩ := sliceW_inv hq; ⟨j, l, a, .inl b⟩))
  · show wpAny _ A (operate [Value.ref h3.objs.size, vo] (getItem vo (.ref h3.objs.size)) >>= _) _ _ _
    refine wpAny_bind (wpAny_operating (wpAny_mono (sliceW_ok (s := { s with heap := _, toks := tk3 }) (sl := h3.objs.size) hq X4 r1' (t4.vr X3 (t3.vr X2 r2)) (t4.vr X3 r3) ?_) (fun r s3 hp => ?_) fun _ _ e => e))
    · exact Heap.IsSliceOf.new ..
    · exact wpAny_bind (wpAny_letTemporaryGo (wpAny_pure (.trans t13 X3 (.trans (s := { s with heap := h3, toks := tk3 }) t4 X4 hp))))

theorem SL_nil : SL prog w cx tb C k sc [] [] := by
  intro env ℓ Qm σ ρ s A E pos hq X F R
  dsimp only [evs] at hq
  exact wpAny_pure (.here0 X hq rfl)
theorem SL_cons {e : Expr} {r : List Expr} {e' : Ex} {r' : List Ex} (hs : notStar e = true) (he : SE prog w cx tb C k sc e e') (hr : SL prog w cx tb C k sc r r') : SL prog w cx tb C k sc (e :: r) (e' :: r') := by
  intro env ℓ Qm σ ρ s A E pos hq X F R
  dsimp only [evs] at hq
  rw [starEach_cons hs]
  refine Calls.spliced_cons (wpAny_mono (he env ℓ _ σ ρ s A E hq X F R) (fun v s1 hp => ?_) fun _ _ e => e)
  refine hp.elim fun x σ1 ρ1 h1 tk1 hq X1 t1 r1 => ?_
  refine wpAny_mono (hr env ℓ _ σ1 ρ1 _ A E pos hq X1 (F.step X t1) R) (fun vs s2 hp => ?_) fun _ _ e => e
  refine hp.elim fun y σ2 ρ2 h2 tk2 hq X2 t2 r2 => ?_
  refine .trans t1 X1 (.mk' hq X2 t2 ?_)
  dsimp only [VRs]
  exact ⟨v, vs, rfl, t2.vr X1 r1, r2⟩

theorem SA_cons1 {e : Expr} {e' : Ex} (he : SE prog w cx tb C k sc e e') : SA prog w cx tb C k sc [e] [e'] := by
  intro op env ℓ Qm σ ρ s A E pos hq X F R
  dsimp only [evand] at hq
  exact he env ℓ _ σ ρ s A E hq X F R
theorem SA_nil : SA prog w cx tb C k sc [] [] := by
  intro op env ℓ Qm σ ρ s A E pos hq X F R
  exact False.elim hq
theorem SA_cons {e f : Expr} {r : List Expr} {e' f' : Ex} {r' : List Ex} (he : SE prog w cx tb C k sc e e') (hr : SA prog w cx tb C k sc (f :: r) (f' :: r')) : SA prog w cx tb C k sc (e :: f :: r) (e' :: f' :: r') := by
  intro op env ℓ Qm σ ρ s A E pos hq X F R
  dsimp only [evand] at hq
  show wpAny _ A (boolOp pos op (eval e env :: eval f env :: evalEach r env)) _ _ _
  unfold boolOp
  refine wpAny_bind (wpAny_mono (he env ℓ _ σ ρ s A E hq X F R) (fun v s1 hp => ?_) fun _ _ e => e)
  refine hp.elim fun x σ1 ρ1 h1 tk1 hq X1 t1 r1 => ?_
  cases x <;> simp only at hq
  rename_i b
  dsimp only [VR] at r1
  subst r1
  refine wpAny_bind (wpAny_standAt (wpAny_bind (wpAny_holding (wpAny_truthy_bool ?_))))
  have more : ∀ (_ : b = (op == .And)), wpAny (model prog w) A (boolOp pos op (evalEach (f :: r) env)) (Pst cx VR ρ s Qm) E { s with heap := h1, toks := tk1 } := fun hb => by
    rw [if_pos hb] at hq
    exact wpAny_mono (hr op env ℓ _ σ1 ρ1 _ A E pos hq X1 (F.step X t1) R) (fun v s2 hp => .trans t1 X1 hp) fun _ _ e => e
  cases op <;> cases b
  · rw [if_neg (by decide)] at hq; exact wpAny_pure (.trans t1 X1 (.here0 X1 hq (by first | exact rfl | exact ⟨_, rfl⟩)))
  · exact more rfl
  · exact more rfl
  · rw [if_neg (by decide)] at hq; exact wpAny_pure (.trans t1 X1 (.here0 X1 hq (by first | exact rfl | exact ⟨_, rfl⟩)))

theorem SO_nil : SO prog w cx tb C k sc [] [] := by
  intro op env ℓ Qm σ ρ s A E hq X F R
  dsimp only [truo] at hq
  exact wpAny_pure (.here0 X hq rfl)
theorem SO_cons {e : Expr} {r : List Expr} {e' : Ex} {r' : List Ex} (he : ST prog w cx tb C k sc e e') (hr : SO prog w cx tb C k sc r r') : SO prog w cx tb C k sc (e :: r) (e' :: r') := by
  intro op env ℓ Qm σ ρ s A E hq X F R
  dsimp only [truo] at hq
  show wpAny _ A (isTrue e env (eval e env) >>= _) _ _ _
  refine wpAny_bind (wpAny_mono (he env ℓ _ σ ρ s A E hq X F R) (fun t s1 hp => ?_) fun _ _ e => e)
  refine hp.elim fun x σ1 ρ1 h1 tk1 hq X1 t1 r1 => ?_
  dsimp only [BEq] at r1
  subst r1
  have more : ∀ (_ : t = (op == .And)), wpAny (model prog w) A (allTrue op r env) (Pst cx BEq ρ s Qm) E { s with heap := h1, toks := tk1 } := fun hb => by
    rw [if_pos hb] at hq
    exact wpAny_mono (hr op env ℓ _ σ1 ρ1 _ A E hq X1 (F.step X t1) R) (fun v s2 hp => .trans t1 X1 hp) fun _ _ e => e
  cases op <;> cases t
  · rw [if_neg (by decide)] at hq; exact wpAny_pure (.trans t1 X1 (.here0 X1 hq rfl))
  · exact more rfl
  · exact more rfl
  · rw [if_neg (by decide)] at hq; exact wpAny_pure (.trans t1 X1 (.here0 X1 hq rfl))

theorem ST_andor {op : BoolOp} {vs : List Expr} {vs' : List Ex} {pos : Pos} (h : SO prog w cx tb C k sc vs vs') : ST prog w cx tb C k sc (.BoolOp op vs pos) (.andor (op == .And) vs') := by
  intro env ℓ Qm σ ρ s A E hq X F R
  dsimp only [tru] at hq
  exact h op env ℓ Qm σ ρ s A E hq X F R
theorem ST_not {x : Expr} {x' : Ex} {pos : Pos} (h : ST prog w cx tb C k sc x x') : ST prog w cx tb C k sc (.UnaryOp .Not x pos) (.not x') := by
  intro env ℓ Qm σ ρ s A E hq X F R
  dsimp only [tru] at hq
  show wpAny _ A (isTrue x env (eval x env) >>= _) _ _ _
  refine wpAny_bind (wpAny_mono (h env ℓ _ σ ρ s A E hq X F R) (fun t s1 hp => ?_) fun _ _ e => e)
  refine hp.elim fun x σ1 ρ1 h1 tk1 hq X1 t1 r1 => ?_
  dsimp only [BEq] at r1
  subst r1
  exact wpAny_pure (.trans t1 X1 (.here0 X1 hq rfl))
/-- where the test is the value itself -/
theorem ST_plain {e : Expr} {e' : Ex} (hi : ∀ env t, isTrue e env t = (do let v ← t; standAt e.pos; holding [v] (truthy v)))
    (ht : ∀ ℓ Qm σ, tru C tb e' ℓ Qm σ → ev C tb e' ℓ (fun v σ' => match v with | .bool b => Qm b σ' | _ => False) σ) (h : SE prog w cx tb C k sc e e') : ST prog w cx tb C k sc e e' := by
  intro env ℓ Qm σ ρ s A E hq X F R
  rw [hi]
  refine wpAny_bind (wpAny_mono (h env ℓ _ σ ρ s A E (ht _ _ _ hq) X F R) (fun v s1 hp => ?_) fun _ _ e => e)
  refine hp.elim fun x σ1 ρ1 h1 tk1 hq X1 t1 r1 => ?_
  cases x <;> simp only at hq
  dsimp only [VR] at r1
  subst r1
  exact wpAny_bind (wpAny_standAt (wpAny_holding (wpAny_truthy_bool (.trans t1 X1 (.here0 X1 hq rfl)))))

theorem SE_tup {es : List Expr} {es' : List Ex} {n : Nat} {pos : Pos} (h : SL prog w cx tb C k sc es es') : SE prog w cx tb C k sc (.Tuple es n pos) (.tup es') := by
  intro env ℓ Qm σ ρ s A E hq X F R
  dsimp only [ev] at hq
  rw [arm_eval_Tuple]
  refine wpAny_bind (wpAny_standAt (wpAny_bind (wpAny_mono (h env ℓ _ σ ρ s A E pos hq X F R) (fun vs s1 hp => ?_) fun _ _ e => e)))
  refine hp.elim fun x σ1 ρ1 h1 tk1 hq X1 t1 r1 => ?_
  refine wpAny_newObj_type ?_ (by show vs.toArray.size ≤ sizeLine; have := sizeLine_eq; have := r1.length; simp; omega)
  exact .trans t1 X1 (.tuple (s := { s with heap := h1, toks := tk1 }) (n := 0) X1 (push_keeps _ _) (Heap.get?_push_size _ rfl) r1 hq.2)
theorem SE_lst {es : List Expr} {es' : List Ex} {pos : Pos} (h : SL prog w cx tb C k sc es es') : SE prog w cx tb C k sc (.List es pos) (.lst es') := by
  intro env ℓ Qm σ ρ s A E hq X F R
  dsimp only [ev] at hq
  rw [arm_eval_List]
  refine wpAny_bind (wpAny_standAt (wpAny_bind (wpAny_mono (h env ℓ _ σ ρ s A E pos hq X F R) (fun vs s1 hp => ?_) fun _ _ e => e)))
  refine hp.elim fun x σ1 ρ1 h1 tk1 hq X1 t1 r1 => ?_
  refine wpAny_newObj_type ?_ (by show vs.toArray.size ≤ sizeLine; have := sizeLine_eq; have := r1.length; simp; omega)
  exact .trans t1 X1 (.list (s := { s with heap := h1, toks := tk1 }) X1 (push_keeps _ _) (get_size_none _) ⟨0, Heap.get?_push_size _ rfl⟩ r1 hq.2)
theorem SE_dct {pos : Pos} : SE prog w cx tb C k sc (.Dict [] [] pos) .dct := by
  intro env ℓ Qm σ ρ s A E hq X F R
  dsimp only [ev] at hq
  refine wpAny_Dict_empty ?_
  have hn := get_size_none s.heap
  have kp := push_keeps s.heap { cls := .type "dict", data := .dict #[] }
  have st : Stp ρ s.heap (ρ ++ [(s.heap.objs.size, s.heap.objs.size)]) _ := Stp.add kp hn hn
  refine .mk' (tk' := s.toks) hq (X.add kp hn hn ⟨rfl, _, Heap.get?_push_size _ rfl, rfl⟩) st ?_
  dsimp only [VR]
  refine ⟨(s.heap.objs.size, s.heap.objs.size), ?_, rfl⟩
  rw [← X.len]; simp

theorem SE_call {f : Str} {p : Pos} {as : List Expr} {as' : List Ex} {pos : Pos} (H : TbOK cx.K tb) (O : OrOK prog w cx C k) (hs : sc.lookup f = some .globalImplicit) (hstar : as.all notStar = true) (hd : (f == ("__debug__" : Str)) = false)
    (h : SL prog w cx tb C k sc as as') : SE prog w cx tb C k sc (.Call (.Name f p) as [] pos) (.call f as') := by
  intro env ℓ Qm σ ρ s A E hq X F R
  dsimp only [ev] at hq
  obtain ⟨hf, hq⟩ := hq
  have ok := H.fn f hf
  unfold fnOK at ok
  split at ok
  · rename_i fv hfv
    have hfv' := hfv
    unfold fval at hfv'
    rw [if_pos rfl] at hfv'
    have hn : nsIn cx.K mainGlobals f = some (some fv) := by
      cases q : nsIn cx.K mainGlobals f with
      | none => rw [q] at hfv'; cases hfv'
      | some o => rw [q] at hfv'; show some o = _; rw [show o = some fv from hfv']
    rw [arm_eval_Call_Name']
    refine wpAny_bind (ev_glob F X hs hn ?_ hd)
    refine callWith_of (P := fun h => cx.K.In h) ?_ (keeps_K ok) ?_
    · simp [starEach_any hstar, backToKw, kwEach_nil]
    · refine evalArgs_any (starEach_any hstar _) (wpAny_mono (h env ℓ _ σ ρ s A E pos hq X F R) (fun vs s1 hp => ?_) fun _ _ e => e)
      refine hp.elim fun x σ1 ρ1 h1 tk1 hq X1 t1 r1 => ?_
      refine ⟨Sim.KIn (s := { s with heap := h1, toks := tk1 }) X1, ?_⟩
      exact wpAny_mono (O _ _ _ _ _ hq _ hfv A _ _ _ E R X1 r1) (fun v s2 hp => .trans t1 X1 hp) fun _ _ e => e
  · cases ok

theorem SE_blt {f : Str} {b : Bi} {p : Pos} {as : List Expr} {as' : List Ex} {pos : Pos} (H : TbOK cx.K tb) (hb : bltOf f = some b) (hs : sc.lookup f = some .globalImplicit) (hstar : as.all notStar = true) (hd : (f == ("__debug__" : Str)) = false)
    (h : SL prog w cx tb C k sc as as') : SE prog w cx tb C k sc (.Call (.Name f p) as [] pos) (.blt b as') := by
  intro env ℓ Qm σ ρ s A E hq X F R
  dsimp only [ev] at hq
  have hf := bltOf_name hb
  subst hf
  rw [arm_eval_Call_Name']
  refine wpAny_bind (ev_blt F X hs (H.blt _ (by cases b <;> simp [bltName])) (boot_blt b) (by cases b <;> decide) ?_ hd)
  have kp : ∀ h : Heap, True → ∃ k', (k' = Keeper.frame ∨ k' = Keeper.machine ∨ k' = Keeper.boundFrame) ∧ Looks (model prog w) h (keeperOf (bltV b)) k' := fun h _ => ⟨.machine, .inr (.inl rfl), by cases b <;> exact Looks.of_pure rfl⟩
  refine callWith_of (P := fun _ => True) ?_ kp ?_
  · simp [starEach_any hstar, backToKw, kwEach_nil]
  · refine evalArgs_any (starEach_any hstar _) (wpAny_mono (h env ℓ _ σ ρ s A E pos hq X F R) (fun vs s1 hp => ?_) fun _ _ e => e)
    refine hp.elim fun x σ1 ρ1 h1 tk1 hq X1 t1 r1 => ?_
    refine ⟨trivial, ?_⟩
    exact wpAny_mono (bltW_ok (R.le (Nat.zero_le _)) hq X1 r1) (fun v s2 hp => .trans t1 X1 hp) fun _ _ e => e

theorem SE_isTup {x : Expr} {x' : Ex} {p pt pos : Pos} (H : TbOK cx.K tb) (hs : sc.lookup ("isinstance" : Str) = some .globalImplicit) (hst : sc.lookup ("tuple" : Str) = some .globalImplicit) (hstar : notStar x = true)
    (h : SE prog w cx tb C k sc x x') : SE prog w cx tb C k sc (.Call (.Name "isinstance" p) [x, .Name "tuple" pt] [] pos) (.isTup x') := by
  intro env ℓ Qm σ ρ s A E hq X F R
  dsimp only [ev] at hq
  rw [arm_eval_Call_Name']
  refine wpAny_bind (ev_blt F X hs (H.blt _ (by simp)) boot_isi (by decide) ?_ (by decide))
  have kp : ∀ h : Heap, True → ∃ k', (k' = Keeper.frame ∨ k' = Keeper.machine ∨ k' = Keeper.boundFrame) ∧ Looks (model prog w) h (keeperOf (.builtin "isinstance")) k' := fun h _ => ⟨.machine, .inr (.inl rfl), Looks.of_pure rfl⟩
  refine callWith_of (P := fun _ => True) ?_ kp ?_
  · rw [starEach_cons hstar]; rfl
  · rw [starEach_cons hstar]
    refine evalArgs_any rfl ?_
    refine Calls.spliced_cons (wpAny_mono (h env ℓ _ σ ρ s A E hq X F R) (fun v s1 hp => ?_) fun _ _ e => e)
    refine hp.elim fun y σ1 ρ1 h1 tk1 hq X1 t1 r1 => ?_
    refine Calls.spliced_cons (ev_blt (F.step X t1) X1 hst (H.blt _ (by simp)) boot_tup (by decide) (Calls.spliced_nil ?_) (by decide))
    refine ⟨trivial, ?_⟩
    exact wpAny_mono (isTup_ok X1 hq r1) (fun v s2 hp => .trans t1 X1 hp) fun _ _ e => e

theorem callPos_ok {M : Model} {o : Expr} {env : Env} {apos pos : Pos} {few : Bool} (h : (apos.endLine == pos.line) = true) {Q : Pos → Shared → Prop} {s : Shared} {A : Around} {E : Value → Shared → Prop} (q : Q pos s) :
    wpAny M A (methodCallPos few o env apos pos) Q E s := by
  unfold methodCallPos
  rw [h, Bool.or_true, if_pos rfl]
  exact wpAny_pure q
theorem form_ok {as : List Expr} {env : Env} {pos : Pos} (hstar : as.all notStar = true) (hz : as.length < 20) : methodCallForm (as.length + ([] : List Keyword).length) (backTo pos (starEach as env)) (backToKw pos (keywordEach [] env)) = true := by
  unfold methodCallForm
  have h1 := starEach_any (env := env) hstar pos
  have h2 : (backTo pos (starEach as env)).all (fun x => !x.1) = true := by
    rw [List.all_eq_true]; intro x hx
    have := (List.any_eq_false.mp h1) x hx
    simpa using this
  rw [h2]
  simp [backToKw, kwEach_nil]
  omega

theorem SE_meth {o : Expr} {m : Str} {apos pos : Pos} {as : List Expr} {o' : Ex} {as' : List Ex} (H : TbOK cx.K tb) (O : OrOK prog w cx C k) (hline : (apos.endLine == pos.line) = true) (hb : okBase o = true) (hstar : as.all notStar = true) (hz : as.length < 20)
    (ho : SE prog w cx tb C k sc o o') (h : SL prog w cx tb C k sc as as') : SE prog w cx tb C k sc (.Call (.Attribute o m apos) as [] pos) (.meth o' m as') := by
  intro env ℓ Qm σ ρ s A E hq X F R
  dsimp only [ev] at hq
  rw [arm_eval_Call, attributeBase_ok hb]
  refine wpAny_bind (wpAny_mono (ho env ℓ _ σ ρ s A E hq X F R) (fun vo s1 hp => ?_) fun _ _ e => e)
  refine hp.elim fun x σ1 ρ1 h1 tk1 hq X1 t1 r1 => ?_
  refine wpAny_bind (wpAny_standAt ?_)
  unfold methodCall
  rw [form_ok hstar hz]
  refine wpAny_bind (wpAny_holding ?_)
  show wpAny _ A (getMethod vo m _) _ _ _
  refine clsW_ok H hq X1 r1 (fun c f hq hf c0 hk => ?_)
  refine wpAny_bind (callPos_ok hline ?_)
  refine callWith_of (P := fun h => cx.K.In h) ?_ (keeps_K hk) ?_
  · simp [starEach_any hstar, backToKw, kwEach_nil]
  · refine evalArgs_any (starEach_any hstar _) (wpAny_mono (h env ℓ _ σ1 ρ1 _ A E pos hq X1 (F.step X t1) R) (fun vs s2 hp => ?_) fun _ _ e => e)
    refine hp.elim fun y σ2 ρ2 h2 tk2 hq X2 t2 r2 => ?_
    refine ⟨Sim.KIn (s := { s with heap := h2, toks := tk2 }) X2, ?_⟩
    refine wpAny_mono (O _ _ _ _ _ hq _ hf A { s with heap := h2, toks := tk2 } ρ2 (vo :: vs) E R X2 ?_) (fun v s3 hp => .trans t1 X1 (.trans t2 X2 hp)) fun _ _ e => e
    dsimp only [VRs]
    exact ⟨vo, vs, rfl, t2.vr X1 r1, r2⟩

theorem lm_slot : ∀ m : LM, Slot "list" (lmName m) (lmId m) | .append => F.slot_list_append | .pop => F.slot_list_pop | .extend => F.slot_list_extend
theorem lm_type : ∀ m : LM, typeOf (.builtin (lmId m)) = pure (.type "method_descriptor") | .append => F.type_list_append | .pop => F.type_list_pop | .extend => F.type_list_extend
theorem lmOf_name {f : Str} {m : LM} (h : lmOf f = some m) : f = lmName m := by
  unfold lmOf at h
  repeat' (split at h)
  all_goals (first | (cases h; assumption) | cases h)

theorem SE_lmeth {o : Expr} {m : Str} {apos pos : Pos} {as : List Expr} {o' : Ex} {as' : List Ex} {lm : LM} (hm : lmOf m = some lm) (hline : (apos.endLine == pos.line) = true) (hb : okBase o = true) (hstar : as.all notStar = true) (hz : as.length < 20)
    (ho : SE prog w cx tb C k sc o o') (h : SL prog w cx tb C k sc as as') : SE prog w cx tb C k sc (.Call (.Attribute o m apos) as [] pos) (.lmeth lm o' as') := by
  intro env ℓ Qm σ ρ s A E hq X F R
  dsimp only [ev] at hq
  have e := lmOf_name hm
  subst e
  rw [arm_eval_Call, attributeBase_ok hb]
  refine wpAny_bind (wpAny_mono (ho env ℓ _ σ ρ s A E hq X F R) (fun vo s1 hp => ?_) fun _ _ e => e)
  refine hp.elim fun x σ1 ρ1 h1 tk1 hq X1 t1 r1 => ?_
  refine wpAny_bind (wpAny_standAt ?_)
  unfold methodCall
  rw [form_ok hstar hz]
  refine wpAny_bind (wpAny_holding ?_)
  show wpAny _ A (getMethod vo _ _) _ _ _
  cases x <;> simp only at hq
  rename_i i
  split at hq
  · rename_i l el
    obtain ⟨p, ws, hp, _, ⟨n, hl⟩, hv⟩ := Sim.list (s := { s with heap := h1, toks := tk1 }) X1 el
    rw [r1.ref_inv hp]
    refine getMethod_builtin (T := "list") ⟨_, hl, rfl⟩ PySem.F.plainAttrs_list (lm_slot lm) (lm_type lm) (fun a ea => by cases ea; exact ⟨_, hl, rfl⟩) ?_
    refine wpAny_bind (callPos_ok hline ?_)
    have kp : ∀ h : Heap, True → ∃ k', (k' = Keeper.frame ∨ k' = Keeper.machine ∨ k' = Keeper.boundFrame) ∧ Looks (model prog w) h (keeperOf (.builtin (lmId lm))) k' := fun h _ => ⟨.machine, .inr (.inl rfl), Looks.of_pure rfl⟩
    refine callWith_of (P := fun _ => True) ?_ kp ?_
    · simp [starEach_any hstar, backToKw, kwEach_nil]
    · refine evalArgs_any (starEach_any hstar _) (wpAny_mono (h env ℓ _ σ1 ρ1 _ A E pos hq X1 (F.step X t1) R) (fun vs s2 hp2 => ?_) fun _ _ e => e)
      refine hp2.elim fun y σ2 ρ2 h2 tk2 hq X2 t2 r2 => ?_
      refine ⟨trivial, ?_⟩
      refine wpAny_mono (lmethW_ok (s := { s with heap := h2, toks := tk2 }) hq X2 ?_ r2) (fun v s3 hp => .trans t1 X1 (.trans t2 X2 hp)) fun _ _ e => e
      dsimp only [VR]
      exact ⟨p, t2.get _ _ hp, rfl⟩
  · exact hq.elim
end
end Mine

end
section
open PySem PySem.W PySem.Calls PyProof.Rows
set_option Elab.async false
set_option maxRecDepth 100000
namespace Mine

section
variable {prog : Program} {w : World} {cx : Cx} {tb : Tb} {C : Or} {k : Nat} {A : Around} {E : Value → Shared → Prop} {s : Shared} {ρ ρ' : Rho} {σ : S} {h h' : Heap} {sc : List (Str × NameKind)} {env : Env} {ℓ : L}

/-! what stands beside the store: iterators, accumulators, frames -/
structure Side (cx : Cx) (ρ : Rho) (h : Heap) (b : Addr) : Prop where
  off : ¬ InR ρ b
  new : cx.h₀.get? b = none
  soft : ∀ o, h.get? b = some o → ¬ Firm o

theorem Sim.chg (X : Sim cx ρ σ h) {I : Addr} (d : Side cx ρ h I) (hk : ∀ b o, b ≠ I → h.get? b = some o → h'.get? b = some o) : Sim cx ρ σ h' :=
  X.off (· = I) (fun b hb => by subst hb; exact ⟨d.off, d.new, d.soft⟩) hk
theorem Stp.chg (t : Stp ρ h ρ' h') {h'' : Heap} {I : Addr} (hn : h.get? I = none) (hk : ∀ b o, b ≠ I → h'.get? b = some o → h''.get? b = some o) : Stp ρ h ρ' h'' :=
  ⟨t.ext, fun b o hb hg => hk b o (fun e => by rw [e, hn] at hg; cases hg) (t.keep b o hb hg)⟩
theorem VR.chg {v : V} {x : Value} (r : VR h ρ v x) {I : Addr} (d : Side cx ρ h I) (hk : ∀ b o, b ≠ I → h.get? b = some o → h'.get? b = some o) : VR h' ρ v x :=
  r.mono (fun b o hf hg => hk b o (fun e => by subst e; exact d.soft o hg hf) hg) fun _ _ e => e
theorem VRs.chg {v : List V} {x : List Value} (r : VRs h ρ v x) {I : Addr} (d : Side cx ρ h I) (hk : ∀ b o, b ≠ I → h.get? b = some o → h'.get? b = some o) : VRs h' ρ v x :=
  r.mono (fun b o hf hg => hk b o (fun e => by subst e; exact d.soft o hg hf) hg) fun _ _ e => e
theorem Side.step {b : Addr} {o : Obj} (d : Side cx ρ h b) (hg : h.get? b = some o) (t : Stp ρ h ρ' h') : Side cx ρ' h' b :=
  ⟨t.off d.off hg, d.new, fun o' ho => by rw [t.keep b o d.off hg] at ho; cases ho; exact d.soft o hg⟩
theorem Side.keepAt {b : Addr} {o : Obj} (d : Side cx ρ h b) (hg : h.get? b = some o) (hk : h'.get? b = some o) : Side cx ρ h' b :=
  ⟨d.off, d.new, fun o' ho => by rw [hk] at ho; cases ho; exact d.soft o hg⟩
theorem Side.fresh {b : Addr} {o : Obj} (X : Sim cx ρ σ h) (hn : h.get? b = none) (hg : h'.get? b = some o) (hs : ¬ Firm o) : Side cx ρ h' b := by
  refine ⟨fun hb => ?_, ?_, fun o' ho => by rw [hg] at ho; cases ho; exact hs⟩
  · obtain ⟨o', ho', _⟩ := X.live hb
    rw [hn] at ho'; cases ho'
  · cases q : cx.h₀.get? b with
    | none => rfl
    | some o' => rw [X.base b o' q] at hn; cases hn

/-- an iterator at its place -/
noncomputable def IterAt (h : Heap) (ρ : Rho) (src : V) (I : Addr) (k : Nat) : Prop := match src with
  | .ref i => ∃ p, ρ[i]? = some p ∧ h.IsListIter I p.1 k
  | .tup l => ∃ a vs n, h.get? a = some (tupObj vs n) ∧ VRs h ρ l vs ∧ h.IsTupleIter I a k
  | .rng a c n => IsRangeIter h I (a + (k : Int) * c) ((n : Int) - (k : Int)) c
  | _ => False

theorem IterAt.obj {src : V} {I : Addr} {j : Nat} (x : IterAt h ρ src I j) : ∃ o, h.get? I = some o ∧ ¬ Firm o := by
  cases src <;> dsimp only [IterAt] at x
  · obtain ⟨a, vs, n, _, _, o, ho, hc, _⟩ := x
    exact ⟨o, ho, by simp [Firm, hc]⟩
  · obtain ⟨p, _, o, ho, hc, _⟩ := x
    exact ⟨o, ho, by simp [Firm, hc]⟩
  · exact ⟨_, x, by simp [Firm]⟩
/-- it stays where its own object and what is firm stay -/
theorem IterAt.mono {src : V} {I : Addr} {j : Nat} (x : IterAt h ρ src I j) (hf : ∀ b o, Firm o → h.get? b = some o → h'.get? b = some o) (hr : ∀ (i : Nat) p, ρ[i]? = some p → ρ'[i]? = some p)
    (hI : ∀ o, h.get? I = some o → h'.get? I = some o) : IterAt h' ρ' src I j := by
  cases src <;> dsimp only [IterAt] at x ⊢
  · obtain ⟨a, vs, n, h1, h2, o, ho, hc⟩ := x
    exact ⟨a, vs, n, hf _ _ (firm_tup _ _) h1, h2.mono hf hr, o, hI o ho, hc⟩
  · obtain ⟨p, hp, o, ho, hc⟩ := x
    exact ⟨p, hr _ _ hp, o, hI o ho, hc⟩
  · exact hI _ x
theorem IterAt.step {src : V} {I : Addr} {j : Nat} (x : IterAt h ρ src I j) (X : Sim cx ρ σ h) (d : Side cx ρ h I) (t : Stp ρ h ρ' h') : IterAt h' ρ' src I j :=
  x.mono (t.firm X) t.get fun o ho => t.keep I o d.off ho
theorem IterAt.chg {src : V} {I b : Addr} {j : Nat} (x : IterAt h ρ src I j) (d : Side cx ρ h b) (hne : I ≠ b) (hk : ∀ c o, c ≠ b → h.get? c = some o → h'.get? c = some o) : IterAt h' ρ src I j :=
  x.mono (fun c o hf hg => hk c o (fun e => by subst e; exact d.soft o hg hf) hg) (fun _ _ e => e) fun o ho => hk I o hne ho

theorem iter_ok {src : V} {x : Value} {oo : Option V} {Q : Value → Shared → Prop} (X : Sim cx ρ σ s.heap) (r : VR s.heap ρ src x) (hi : itemAt σ src 0 = some oo)
    (hq : ∀ I h' tk', (∀ b o, s.heap.get? b = some o → h'.get? b = some o) → s.heap.get? I = none → IterAt h' ρ src I 0 → Q (.ref I) { s with heap := h', toks := tk' }) :
    wpAny (model prog w) A (pyIter x) Q E s := by
  cases src <;> simp only [itemAt, reduceCtorEq] at hi
  · dsimp only [VR] at r
    obtain ⟨a, vs, n, rfl, hg, hv⟩ := r
    refine wpAny_pyIter_tuple (items := vs.toArray) ⟨_, hg, rfl, n, rfl⟩ (hq _ _ s.toks (push_keeps _ _) (get_size_none _) ?_)
    dsimp only [IterAt]
    exact ⟨a, vs, n, push_keeps _ _ _ _ hg, hv.mono (fun b o _ => push_keeps _ _ b o) fun _ _ e => e, _, Heap.get?_push_size _ rfl, rfl, rfl⟩
  · rename_i i
    split at hi
    · rename_i l el
      obtain ⟨p, vs, hp, _, hl, hv⟩ := X.list el
      rw [r.ref_inv hp]
      refine wpAny_pyIter_list hl.isList (hq _ _ s.toks (push_keeps _ _) (get_size_none _) ?_)
      dsimp only [IterAt]
      exact ⟨p, hp, _, Heap.get?_push_size _ rfl, rfl, rfl⟩
    · cases hi
  · dsimp only [VR] at r
    obtain ⟨a, b, t, u, y, rfl, hg, h1, h2⟩ := r
    refine wpAny_pyIter_range hg h2 (hq _ _ s.toks (push_keeps _ _) (get_size_none _) ?_)
    simp only [IterAt, IsRangeIter]
    rw [Heap.get?_push_size _ rfl, h1]
    simp

theorem next_some {src : V} {I : Addr} {j : Nat} {v : V} {Q : Option Value → Shared → Prop} (X : Sim cx ρ σ s.heap) (d : Side cx ρ s.heap I) (it : IterAt s.heap ρ src I j) (hi : itemAt σ src j = some (some v))
    (hq : ∀ x h' tk', (∀ b o, b ≠ I → s.heap.get? b = some o → h'.get? b = some o) → VR h' ρ v x → IterAt h' ρ src I (j + 1) → Q (some x) { s with heap := h', toks := tk' }) :
    wpAny (model prog w) A (pyNext (.ref I)) Q E s := by
  cases src <;> simp only [itemAt, reduceCtorEq, Option.some.injEq] at hi
  · dsimp only [IterAt] at it
    obtain ⟨a, vs, n, hg, hv, hI⟩ := it
    obtain ⟨x, hx, rx⟩ := hv.get hi
    refine wpAny_pyNext_tuple_item (items := vs.toArray) hI ⟨_, hg, rfl, n, rfl⟩ (x := x) (by simpa using hx) fun h' h1 h2 => ?_
    have hk : ∀ b o, b ≠ I → s.heap.get? b = some o → h'.get? b = some o := fun b o hb hg => (h2.2 b hb).trans hg
    refine hq x h' s.toks hk (rx.chg d hk) ?_
    dsimp only [IterAt]
    exact ⟨a, vs, n, hk _ _ (fun e => by subst e; exact d.soft _ hg (firm_tup _ _)) hg, hv.chg d hk, h1⟩
  · rename_i i
    split at hi
    · rename_i l el
      dsimp only [IterAt] at it
      obtain ⟨p, hp, hI⟩ := it
      obtain ⟨p', vs, hp', _, hl, hv⟩ := X.list el
      rw [hp] at hp'; cases hp'
      simp only [Option.some.injEq] at hi
      obtain ⟨x, hx, rx⟩ := hv.get hi
      refine wpAny_pyNext_list_item hI hl.isList (x := x) (by simpa using hx) fun h' h1 h2 => ?_
      have hk : ∀ b o, b ≠ I → s.heap.get? b = some o → h'.get? b = some o := fun b o hb hg => (h2.2 b hb).trans hg
      refine hq x h' s.toks hk (rx.chg d hk) ?_
      dsimp only [IterAt]
      exact ⟨p, hp, h1⟩
    · cases hi
  · rename_i a c n
    dsimp only [IterAt] at it
    by_cases hlt : j < n
    · rw [if_pos hlt] at hi
      cases hi
      refine wpAny_pyNext_range_item it (by omega) fun h' h1 h2 => ?_
      have hk : ∀ b o, b ≠ I → s.heap.get? b = some o → h'.get? b = some o := fun b o hb hg => (h2.2 b hb).trans hg
      refine hq _ h' _ hk (by first | exact rfl | exact ⟨_, rfl⟩) ?_
      dsimp only [IterAt]
      have e1 : a + ((j + 1 : Nat) : Int) * c = a + (j : Int) * c + c := by push_cast; rw [Int.add_mul, Int.one_mul, Int.add_assoc]
      have e2 : (n : Int) - ((j + 1 : Nat) : Int) = (n : Int) - (j : Int) - 1 := by push_cast; omega
      rw [e1, e2]; exact h1
    · rw [if_neg hlt] at hi; cases hi

theorem next_none {src : V} {I : Addr} {j : Nat} {Q : Option Value → Shared → Prop} (R : Room A 0) (X : Sim cx ρ σ s.heap) (it : IterAt s.heap ρ src I j) (hi : itemAt σ src j = some none)
    (hq : ∀ h' tk', (∀ b o, b ≠ I → s.heap.get? b = some o → h'.get? b = some o) → Q none { s with heap := h', toks := tk' }) :
    wpAny (model prog w) A (pyNext (.ref I)) Q E s := by
  cases src <;> simp only [itemAt, reduceCtorEq, Option.some.injEq] at hi
  · dsimp only [IterAt] at it
    obtain ⟨a, vs, n, hg, hv, hI⟩ := it
    refine wpAny_pyNext_tuple_end R.hh (items := vs.toArray) hI ⟨_, hg, rfl, n, rfl⟩ ?_ fun h' h1 => hq h' s.toks h1
    rw [List.getElem?_eq_none_iff] at hi
    simp [hv.length]; omega
  · rename_i i
    split at hi
    · rename_i l el
      dsimp only [IterAt] at it
      obtain ⟨p, hp, hI⟩ := it
      obtain ⟨p', vs, hp', _, hl, hv⟩ := X.list el
      rw [hp] at hp'; cases hp'
      simp only [Option.some.injEq] at hi
      refine wpAny_pyNext_list_end R.hh hI hl.isList ?_ fun h' h1 => hq h' s.toks h1
      rw [List.getElem?_eq_none_iff] at hi
      simp [hv.length]; omega
    · cases hi
  · rename_i a c n
    dsimp only [IterAt] at it
    by_cases hlt : j < n
    · rw [if_pos hlt] at hi; cases hi
    · exact wpAny_pyNext_range_end R.hh it (by omega) fun h' h1 => hq h' s.toks h1

/-! cells that a comprehension's frame is given -/
noncomputable def clOf (env : Env) : List (Str × NameKind) → List (Str × Addr) → List (Str × Addr)
  | [], cs => cs
  | (n, kd) :: r, cs => if kd == .free then clOf env r ((n, (env.cells.lookup n).getD 0) :: cs) else clOf env r cs

theorem closure_ok : ∀ (names : List (Str × NameKind)) (cs : List (Str × Addr)) (f : Str × NameKind → List (Str × Addr) → Sem (ForInStep (List (Str × Addr)))),
    (∀ n kd cs, f (n, kd) cs = if kd == .free then (do let c ← cellOf env n; pure (.yield ((n, c) :: cs))) else pure (.yield cs)) →
    (∀ n, (n, NameKind.free) ∈ names → ∃ c, env.cells.lookup n = some c) → (forIn names cs f : Sem _) = pure (clOf env names cs)
  | [], cs, f, _, _ => rfl
  | (n, kd) :: r, cs, f, hf, hc => by
    have ih := fun cs => closure_ok r cs f hf fun n hn => hc n (List.mem_cons_of_mem _ hn)
    rw [List.forIn_cons, hf]
    unfold clOf
    by_cases hk : (kd == .free) = true
    · rw [if_pos hk, if_pos hk]
      have hk' : kd = .free := by simpa using hk
      subst hk'
      obtain ⟨c, h1⟩ := hc n List.mem_cons_self
      unfold cellOf
      rw [h1]
      show (forIn r ((n, c) :: cs) f : Sem _) = _
      rw [ih]; rfl
    · rw [if_neg hk, if_neg hk]
      show (forIn r cs f : Sem _) = _
      rw [ih]
theorem closureFor_ok {scope : Scope} (hc : ∀ n, (n, NameKind.free) ∈ scope.names → ∃ c, env.cells.lookup n = some c) : closureFor scope env = pure (clOf env scope.names []) := by
  simp only [closureFor]
  rw [closure_ok scope.names [] _ (fun n kd cs => by cases hk : kd == NameKind.free <;> simp [hk]) hc]
  rfl
theorem clOf_lookup (hc : ∀ n, (n, NameKind.free) ∈ ns → ∃ c, env.cells.lookup n = some c) (hcs : ∀ y c, cs.lookup y = some c → env.cells.lookup y = some c) :
    (∀ y c, (clOf env ns cs).lookup y = some c → env.cells.lookup y = some c) ∧ (∀ y, (y, NameKind.free) ∈ ns ∨ (∃ c, cs.lookup y = some c) → ∃ c, (clOf env ns cs).lookup y = some c) := by
  induction ns generalizing cs with
  | nil => exact ⟨hcs, fun y h => by rcases h with h | h; cases h; exact h⟩
  | cons p r ih =>
    obtain ⟨n, kd⟩ := p
    unfold clOf
    by_cases hk : (kd == .free) = true
    · rw [if_pos hk]
      have hk' : kd = .free := by simpa using hk
      subst hk'
      obtain ⟨c0, h0⟩ := hc n List.mem_cons_self
      have hcs' : ∀ y c, List.lookup y ((n, (env.cells.lookup n).getD 0) :: cs) = some c → env.cells.lookup y = some c := fun y c e => by
        rw [List.lookup_cons] at e
        cases hy : y == n with
        | true => rw [hy] at e; cases e; rw [beq_iff_eq.mp hy, h0]; rfl
        | false => rw [hy] at e; exact hcs y c e
      obtain ⟨a, b⟩ := ih (fun n hn => hc n (List.mem_cons_of_mem _ hn)) hcs'
      refine ⟨a, fun y h => b y ?_⟩
      rcases h with h | ⟨c, h⟩
      · rcases List.mem_cons.mp h with e | h
        · cases e; exact .inr ⟨_, by rw [List.lookup_cons, beq_self_eq_true]⟩
        · exact .inl h
      · refine .inr ?_
        rw [List.lookup_cons]
        cases y == n with
        | true => exact ⟨_, rfl⟩
        | false => exact ⟨c, h⟩
    · rw [if_neg hk]
      obtain ⟨a, b⟩ := ih (fun n hn => hc n (List.mem_cons_of_mem _ hn)) hcs
      refine ⟨a, fun y h => b y ?_⟩
      rcases h with h | h
      · rcases List.mem_cons.mp h with e | h
        · cases e; exact absurd rfl hk
        · exact .inl h
      · exact .inr h
end
end Mine

end
section
open PySem PySem.W PySem.Calls PyProof.Rows
set_option Elab.async false
set_option maxRecDepth 100000
namespace Mine

theorem upd_lookup (x : Str) (v : V) : ∀ (ℓ : L) (y : Str), (upd x v ℓ).lookup y = if y = x then some v else ℓ.lookup y
  | [], y => by
    simp only [upd, List.lookup_cons, List.lookup_nil]
    by_cases h : y = x
    · simp [h]
    · have : (y == x) = false := by simpa using h
      simp [h, this]
  | (z, u) :: r, y => by
    dsimp only [upd]
    by_cases hz : z = x
    · subst hz
      simp only [if_true, List.lookup_cons]
      by_cases h : y = z
      · simp [h]
      · have : (y == z) = false := by simpa using h
        simp [h, this]
    · simp only [hz, if_false, List.lookup_cons]
      by_cases h : y = z
      · subst h; simp [hz]
      · have : (y == z) = false := by simpa using h
        simp only [this]
        exact upd_lookup x v r y

theorem relabel_lookup (env : Env) (z : Str) : ∀ names : List (Str × NameKind), (names.map fun (n, k) => if (k == NameKind.free && env.scope.kind == .function && env.kindOf n == some .cell) then (n, NameKind.cell) else (n, k)).lookup z =
    (names.lookup z).map fun k => if (k == NameKind.free && env.scope.kind == .function && env.kindOf z == some .cell) then NameKind.cell else k
  | [] => rfl
  | (n, k) :: r => by
    rw [List.map_cons]
    by_cases hz : z = n
    · subst hz
      by_cases hc : (k == NameKind.free && env.scope.kind == .function && env.kindOf z == some .cell) = true
      · simp only [if_pos hc, List.lookup_cons, beq_self_eq_true, Option.map_some]
      · simp only [if_neg hc, List.lookup_cons, beq_self_eq_true, Option.map_some]
    · have h' : (z == n) = false := by simpa using hz
      by_cases hc : (k == NameKind.free && env.scope.kind == .function && env.kindOf n == some .cell) = true
      · simp only [if_pos hc, List.lookup_cons, h']; exact relabel_lookup env z r
      · simp only [if_neg hc, List.lookup_cons, h']; exact relabel_lookup env z r

section
variable {prog : Program} {w : World} {cx : Cx} {tb : Tb} {C : Or} {k : Nat} {A : Around} {E : Value → Shared → Prop} {s : Shared} {ρ ρ' : Rho} {σ : S} {h h' : Heap} {sc : List (Str × NameKind)} {env : Env} {ℓ : L}

theorem compOk_parts {scope : Scope} (ok : compOk sc scope = true) : scope.kind = .function ∧ scope.names.lookup (".0" : Str) = some .local ∧
    ∀ y ∈ scope.names, (y.2 = .local ∧ scope.names.lookup y.1 = some .local) ∨ (y.2 = .free ∧ scope.names.lookup y.1 = some .free ∧ (sc.lookup y.1 = some .cell ∨ sc.lookup y.1 = some .free)) ∨ (y.2 = .globalImplicit ∧ scope.names.lookup y.1 = some .globalImplicit) := by
  unfold compOk at ok
  simp only [Bool.and_eq_true, beq_iff_eq, List.all_eq_true, Bool.or_eq_true] at ok
  refine ⟨ok.1.1, ok.1.2, fun y hy => ?_⟩
  rcases ok.2 y hy with (h | h) | h
  · exact .inl h
  · exact .inr (.inl ⟨h.1.1, h.1.2, h.2⟩)
  · exact .inr (.inr h)

theorem FOK.chg (F : FOK cx sc env ℓ ρ h) {b : Addr} (d : Side cx ρ h b) (h1 : env.locals ≠ b) (h2 : ∀ z c, env.cells.lookup z = some c → c ≠ b) (hk : ∀ a o, a ≠ b → h.get? a = some o → h'.get? a = some o) : FOK cx sc env ℓ ρ h' := by
  obtain ⟨m, ⟨oL, es, ep, hL, r⟩, hv⟩ := F.ns
  refine ⟨F.kind, F.glb, F.blt, F.kLocal, F.kCell, F.kGlob, ⟨m, ⟨oL, es, ep, hk _ _ h1 hL, r⟩, fun x v e0 e1 e2 => ?_⟩, fun x c e => ?_, F.offL, F.offC, F.one, F.newL⟩
  · obtain ⟨y, q1, q2⟩ := hv x v e0 e1 e2
    exact ⟨y, q1, q2.chg d hk⟩
  · obtain ⟨u, ⟨o, ho, hd⟩, hu⟩ := F.cell x c e
    refine ⟨u, ⟨o, hk _ _ (h2 x c e) ho, hd⟩, fun v e1 e2 => ?_⟩
    obtain ⟨y, q1, q2⟩ := hu v e1 e2
    exact ⟨y, q1, q2.chg d hk⟩
theorem FOK.keeps (F : FOK cx sc env ℓ ρ h) (hk : ∀ a o, h.get? a = some o → h'.get? a = some o) : FOK cx sc env ℓ ρ h' := by
  obtain ⟨m, ⟨oL, es, ep, hL, r⟩, hv⟩ := F.ns
  refine ⟨F.kind, F.glb, F.blt, F.kLocal, F.kCell, F.kGlob, ⟨m, ⟨oL, es, ep, hk _ _ hL, r⟩, fun x v e0 e1 e2 => ?_⟩, fun x c e => ?_, F.offL, F.offC, F.one, F.newL⟩
  · obtain ⟨y, q1, q2⟩ := hv x v e0 e1 e2
    exact ⟨y, q1, q2.mono (fun b o _ => hk b o) fun _ _ e => e⟩
  · obtain ⟨u, ⟨o, ho, hd⟩, hu⟩ := F.cell x c e
    refine ⟨u, ⟨o, hk _ _ ho, hd⟩, fun v e1 e2 => ?_⟩
    obtain ⟨y, q1, q2⟩ := hu v e1 e2
    exact ⟨y, q1, q2.mono (fun b o _ => hk b o) fun _ _ e => e⟩
theorem FOK.live (F : FOK cx sc env ℓ ρ h) {b : Addr} (hn : h.get? b = none) : env.locals ≠ b ∧ ∀ z c, env.cells.lookup z = some c → c ≠ b := by
  constructor
  · obtain ⟨m, ⟨oL, es, ep, hL, r⟩, hv⟩ := F.ns
    intro e; rw [e, hn] at hL; cases hL
  · intro z c hz e
    obtain ⟨u, ⟨o, ho, hd⟩, hu⟩ := F.cell z c hz
    rw [e, hn] at ho; cases ho

/-- the frame of a comprehension: its own names in its own place, the others by their cells -/
theorem FOK.comp {scope : Scope} {Cc : Addr} {ℓ' : L} {m : Str → Option Value} (F : FOK cx sc env ℓ ρ h) (ok : compOk sc scope = true) (hC : h.Ns Cc m) (d : Side cx ρ h Cc)
    (hm : ∀ (x : Str) v, x ≠ ".0" → ℓ'.lookup x = some v → scope.names.lookup x = some .local → ∃ y, m x = some y ∧ VR h ρ v y)
    (hℓ : ∀ x, scope.names.lookup x = some .free → ℓ'.lookup x = ℓ.lookup x)
    (hne : ∀ z c, env.cells.lookup z = some c → c ≠ Cc) : FOK cx scope.names (compEnvC scope (clOf env scope.names []) Cc env) ℓ' ρ h := by
  obtain ⟨ok1, ok0, ok2⟩ := compOk_parts ok
  have hfree : ∀ n, (n, NameKind.free) ∈ scope.names → ∃ c, env.cells.lookup n = some c := fun n hn => by
    rcases ok2 _ hn with ⟨a, _⟩ | ⟨_, _, c⟩ | ⟨a, _⟩
    · cases a
    · exact (F.kCell n c).2
    · cases a
  obtain ⟨cl1, cl2⟩ := clOf_lookup (env := env) (ns := scope.names) (cs := []) hfree (by simp)
  have kd : ∀ z, (compEnvC scope (clOf env scope.names []) Cc env).kindOf z = (scope.names.lookup z).map fun k => if (k == NameKind.free && env.scope.kind == .function && env.kindOf z == some .cell) then NameKind.cell else k := fun z => relabel_lookup env z scope.names
  have mem : ∀ z kd, scope.names.lookup z = some kd → (z, kd) ∈ scope.names := fun z kd e => mem_of_lookup e
  refine ⟨ok1, F.glb, F.blt, fun x e => ?_, fun x e => ?_, fun x e => ?_, ⟨m, hC, fun x v e0 e1 e2 => ?_⟩, fun x c e => ?_, d.off, fun x c e => ?_, fun x y c e1 e2 => F.one x y c (cl1 _ _ e1) (cl1 _ _ e2), d.new⟩
  · rw [kd, e]; rfl
  · rcases e with e | e
    · exfalso
      rcases ok2 _ (mem _ _ e) with ⟨a, _⟩ | ⟨a, _⟩ | ⟨a, _⟩ <;> cases a
    · refine ⟨?_, cl2 x (.inl (mem _ _ e))⟩
      rw [kd, e]
      simp only [Option.map_some]
      split
      · exact .inl rfl
      · exact .inr rfl
  · rw [kd, e]; rfl
  · refine hm x v e0 e1 ?_
    rw [kd] at e2
    cases hx : scope.names.lookup x with
    | none => rw [hx] at e2; cases e2
    | some q =>
      rw [hx] at e2
      simp only [Option.map_some] at e2
      split at e2
      · cases e2
      · exact e2
  · have e' := cl1 x c e
    obtain ⟨u, hcell, hu⟩ := F.cell x c e'
    refine ⟨u, hcell, fun v e1 e2 => ?_⟩
    have hx : scope.names.lookup x = some .free := by
      rw [kd] at e2
      cases hx : scope.names.lookup x with
      | none => rw [hx] at e2; rcases e2 with e2 | e2 <;> cases e2
      | some q =>
        rcases ok2 _ (mem _ _ hx) with ⟨a, _⟩ | ⟨a, _⟩ | ⟨a, _⟩
        · simp only at a; subst a
          rw [hx] at e2
          rcases e2 with e2 | e2 <;> cases e2
        · simp only at a; rw [a]
        · simp only at a; subst a
          rw [hx] at e2
          rcases e2 with e2 | e2 <;> cases e2
    have hsc : sc.lookup x = some .cell ∨ sc.lookup x = some .free := by
      rcases ok2 _ (mem _ _ hx) with ⟨a, _⟩ | ⟨_, _, a⟩ | ⟨a, _⟩
      · cases a
      · exact a
      · cases a
    exact hu v (by rw [← hℓ x hx]; exact e1) (F.kCell x hsc).1
  · obtain ⟨a, b, c'⟩ := F.offC x c (cl1 x c e)
    exact ⟨a, hne x c (cl1 x c e), c'⟩

noncomputable def SF (prog : Program) (w : World) (cx : Cx) (tb : Tb) (C : Or) (k : Nat) (sc : List (Str × NameKind)) (es : List Expr) (es' : List Ex) : Prop := ∀ env ℓ Qm σ ρ s A E, truAll C tb es' ℓ Qm σ → Sim cx ρ σ s.heap → FOK cx sc env ℓ ρ s.heap → Room A k →
  wpAny (model prog w) A (forIn es true fun c r => if r = true then do let ok ← isTrue c env (eval c env); pure (ForInStep.yield ok) else pure (ForInStep.yield r)) (Pst cx BEq ρ s Qm) E s
theorem SF_nil : SF prog w cx tb C k sc [] [] := by
  intro env ℓ Qm σ ρ s A E hq X F R
  dsimp only [truAll] at hq
  rw [List.forIn_nil]
  exact wpAny_pure (.here0 X hq rfl)
theorem forIn_false (env : Env) : ∀ es : List Expr, (forIn es false (fun c r => if r = true then do let ok ← isTrue c env (eval c env); pure (ForInStep.yield ok) else pure (ForInStep.yield r)) : Sem Bool) = pure false
  | [] => rfl
  | e :: r => by rw [List.forIn_cons]; show (forIn r false _ : Sem Bool) = _; exact forIn_false env r
theorem SF_cons {e : Expr} {r : List Expr} {e' : Ex} {r' : List Ex} (he : ST prog w cx tb C k sc e e') (hr : SF prog w cx tb C k sc r r') : SF prog w cx tb C k sc (e :: r) (e' :: r') := by
  intro env ℓ Qm σ ρ s A E hq X F R
  dsimp only [truAll] at hq
  rw [List.forIn_cons, if_pos rfl]
  refine wpAny_bind (wpAny_bind (wpAny_mono (he env ℓ _ σ ρ s A E hq X F R) (fun t s1 hp => ?_) fun _ _ e => e))
  refine hp.elim fun x σ1 ρ1 h1 tk1 hq X1 t1 r1 => ?_
  dsimp only [BEq] at r1
  subst r1
  refine wpAny_pure ?_
  cases t
  · show wpAny _ A (forIn r false _ : Sem Bool) _ _ _
    rw [forIn_false]
    exact wpAny_pure (.trans t1 X1 (.here0 X1 hq rfl))
  · exact wpAny_mono (hr env ℓ _ σ1 ρ1 _ A E hq X1 (F.step X t1) R) (fun v s2 hp => .trans t1 X1 hp) fun _ _ e => e

end
end Mine

end
section
open PySem PySem.W PySem.Calls PyProof.Rows
set_option Elab.async false
set_option maxRecDepth 100000
namespace Mine

/-- the state between two turns: what is gathered, the comprehension's own names -/
structure LE (cx : Cx) (sc : List (Str × NameKind)) (env : Env) (ℓ : L) (ρ : Rho) (h : Heap) (D Cc : Addr) (ρ' : Rho) (σ' : S) (h' : Heap) (acc : List V) (vs : List Value) (m : Str → Option Value) : Prop where
  sim : Sim cx ρ' σ' h'
  stp : Stp ρ h ρ' h'
  lst : h'.PlainList D vs.toArray
  rel : VRs h' ρ' acc vs
  ns : h'.Ns Cc m
  sD : Side cx ρ' h' D
  sC : Side cx ρ' h' Cc
  fok : FOK cx sc env ℓ ρ' h'
  nD : h.get? D = none
  nC : h.get? Cc = none
  DC : D ≠ Cc
  eL : env.locals ≠ D ∧ env.locals ≠ Cc
  eC : ∀ z c, env.cells.lookup z = some c → c ≠ D ∧ c ≠ Cc
/-- an iterator beside it -/
structure IT (cx : Cx) (env : Env) (h : Heap) (src : V) (I D Cc : Addr) (ρ' : Rho) (h' : Heap) (j : Nat) : Prop where
  it : IterAt h' ρ' src I j
  sI : Side cx ρ' h' I
  nI : h.get? I = none
  ID : I ≠ D
  IC : I ≠ Cc
  eL : env.locals ≠ I
  eC : ∀ z c, env.cells.lookup z = some c → c ≠ I

section
variable {prog : Program} {w : World} {cx : Cx} {tb : Tb} {C : Or} {k : Nat} {A : Around} {E : Value → Shared → Prop} {s : Shared} {ρ ρ' : Rho} {σ : S} {h h' : Heap} {sc : List (Str × NameKind)} {env : Env} {ℓ : L}
variable {src src2 : V} {I I2 D Cc : Addr} {σ' : S} {j j2 : Nat} {acc : List V} {vs : List Value} {m : Str → Option Value}

theorem LE.objD (x : LE cx sc env ℓ ρ h D Cc ρ' σ' h' acc vs m) : ∃ o, h'.get? D = some o := by obtain ⟨n, e⟩ := x.lst; exact ⟨_, e⟩
theorem LE.objC (x : LE cx sc env ℓ ρ h D Cc ρ' σ' h' acc vs m) : ∃ o, h'.get? Cc = some o := by obtain ⟨o, _, _, e, _⟩ := x.ns; exact ⟨_, e⟩
theorem LE.step {ρ'' : Rho} {σ'' : S} {h'' : Heap} (x : LE cx sc env ℓ ρ h D Cc ρ' σ' h' acc vs m) (t : Stp ρ' h' ρ'' h'') (X : Sim cx ρ'' σ'' h'') : LE cx sc env ℓ ρ h D Cc ρ'' σ'' h'' acc vs m := by
  obtain ⟨oD, gD⟩ := x.objD
  obtain ⟨oC, gC⟩ := x.objC
  exact ⟨X, x.stp.trans x.sim t, x.lst.at fun o e => t.keep _ o x.sD.off e, t.vrs x.sim x.rel, x.ns.at' fun o e => t.keep _ o x.sC.off e,
    x.sD.step gD t, x.sC.step gC t, x.fok.step x.sim t, x.nD, x.nC, x.DC, x.eL, x.eC⟩
theorem IT.step {ρ'' : Rho} {h'' : Heap} (x : IT cx env h src I D Cc ρ' h' j) (X : Sim cx ρ' σ' h') (t : Stp ρ' h' ρ'' h'') : IT cx env h src I D Cc ρ'' h'' j := by
  obtain ⟨oI, gI, _⟩ := x.it.obj
  exact ⟨x.it.step X x.sI t, x.sI.step gI t, x.nI, x.ID, x.IC, x.eL, x.eC⟩
/-- an iterator changed -/
theorem LE.chg {h'' : Heap} {j : Nat} (x : LE cx sc env ℓ ρ h D Cc ρ' σ' h' acc vs m) (i : IT cx env h src I D Cc ρ' h' j) (hk : ∀ b o, b ≠ I → h'.get? b = some o → h''.get? b = some o) : LE cx sc env ℓ ρ h D Cc ρ' σ' h'' acc vs m := by
  obtain ⟨oD, gD⟩ := x.objD
  obtain ⟨oC, gC⟩ := x.objC
  exact ⟨x.sim.chg i.sI hk, x.stp.chg i.nI hk, x.lst.at fun o e => hk _ o i.ID.symm e, x.rel.chg i.sI hk, x.ns.at' fun o e => hk _ o i.IC.symm e,
    x.sD.keepAt gD (hk _ _ i.ID.symm gD), x.sC.keepAt gC (hk _ _ i.IC.symm gC), x.fok.chg i.sI i.eL i.eC hk, x.nD, x.nC, x.DC, x.eL, x.eC⟩
theorem IT.chg {h'' : Heap} {b : Addr} (x : IT cx env h src I D Cc ρ' h' j) (d : Side cx ρ' h' b) (hne : I ≠ b) (hk : ∀ c o, c ≠ b → h'.get? c = some o → h''.get? c = some o) : IT cx env h src I D Cc ρ' h'' j := by
  obtain ⟨oI, gI, _⟩ := x.it.obj
  exact ⟨x.it.chg d hne hk, x.sI.keepAt gI (hk _ _ hne gI), x.nI, x.ID, x.IC, x.eL, x.eC⟩
theorem IT.next {h'' : Heap} (x : IT cx env h src I D Cc ρ' h' j) (it : IterAt h'' ρ' src I (j + 1)) : IT cx env h src I D Cc ρ' h'' (j + 1) := by
  obtain ⟨oI, gI, sI⟩ := it.obj
  exact ⟨it, ⟨x.sI.off, x.sI.new, fun o e => by rw [gI] at e; cases e; exact sI⟩, x.nI, x.ID, x.IC, x.eL, x.eC⟩
theorem LE.store {h'' : Heap} {m' : Str → Option Value} (x : LE cx sc env ℓ ρ h D Cc ρ' σ' h' acc vs m) (hn : h''.Ns Cc m') (hs : Heap.SameBut Cc h' h'') : LE cx sc env ℓ ρ h D Cc ρ' σ' h'' acc vs m' := by
  have hk : ∀ b o, b ≠ Cc → h'.get? b = some o → h''.get? b = some o := fun b o hb e => (hs.2 b hb).trans e
  obtain ⟨oD, gD⟩ := x.objD
  exact ⟨x.sim.chg x.sC hk, x.stp.chg x.nC hk, x.lst.at fun o e => hk _ o x.DC e, x.rel.chg x.sC hk, hn,
    x.sD.keepAt gD (hk _ _ x.DC gD), ⟨x.sC.off, x.sC.new, firm_ns hn⟩,
    x.fok.chg x.sC x.eL.2 (fun z c e => (x.eC z c e).2) hk, x.nD, x.nC, x.DC, x.eL, x.eC⟩
theorem LE.push {h'' : Heap} {v : V} {y : Value} (x : LE cx sc env ℓ ρ h D Cc ρ' σ' h' acc vs m) (r : VR h' ρ' v y) (hl : h''.PlainList D (vs ++ [y]).toArray) (hs : Heap.SameBut D h' h'') :
    LE cx sc env ℓ ρ h D Cc ρ' σ' h'' (acc ++ [v]) (vs ++ [y]) m := by
  have hk : ∀ b o, b ≠ D → h'.get? b = some o → h''.get? b = some o := fun b o hb e => (hs.2 b hb).trans e
  obtain ⟨oC, gC⟩ := x.objC
  have sD : Side cx ρ' h'' D := ⟨x.sD.off, x.sD.new, fun o e => by
    obtain ⟨n, g⟩ := hl
    rw [g] at e; cases e; simp [Firm]⟩
  refine ⟨x.sim.chg x.sD hk, x.stp.chg x.nD hk, hl, (x.rel.chg x.sD hk).append ?_, x.ns.at' fun o e => hk _ o x.DC.symm e,
    sD, x.sC.keepAt gC (hk _ _ x.DC.symm gC), x.fok.chg x.sD x.eL.1 (fun z c e => (x.eC z c e).1) hk, x.nD, x.nC, x.DC, x.eL, x.eC⟩
  dsimp only [VRs]
  exact ⟨y, [], rfl, r.chg x.sD hk, rfl⟩

theorem LE.appended {tk : Nat} {v : V} {y : Value} {Q : Value → Shared → Prop} (x : LE cx sc env ℓ ρ h D Cc ρ' σ' h' acc vs m) (r : VR h' ρ' v y) (hz : acc.length ≤ 1000000)
    (hq : ∀ h'', LE cx sc env ℓ ρ h D Cc ρ' σ' h'' (acc ++ [v]) (vs ++ [y]) m → Heap.SameBut D h' h'' → Q .none { s with heap := h'', toks := tk }) :
    wpAny (model prog w) A (call (.builtin "list.append") [.ref D, y]) Q E { s with heap := h', toks := tk } := by
  refine wpAny_list_append_plain (s := { s with heap := h', toks := tk }) x.lst (fun h'' hl hs => hq h'' (x.push r (by simpa using hl) hs) hs) ?_
  rw [List.size_toArray, x.rel.length, sizeLine_eq]; omega

theorem LE.assigned {tk : Nat} {v : V} {y : Value} {Q : Unit → Shared → Prop} {scope : Scope} {cl : List (Str × Addr)} {z : Str} {px : Pos} (x : LE cx sc env ℓ ρ h D Cc ρ' σ' h' acc vs m) (hk : scope.kind = .function) (hz : scope.names.lookup z = some .local) (r : VR h' ρ' v y)
    (hq : ∀ h'' tk'', LE cx sc env ℓ ρ h D Cc ρ' σ' h'' acc vs (fun u => if u = z then some y else m u) → VR h'' ρ' v y → (∀ b o, b ≠ Cc → h'.get? b = some o → h''.get? b = some o) → Q () { s with heap := h'', toks := tk'' }) :
    wpAny (model prog w) A (assign (.Name z px) (compEnvC scope cl Cc env) y) Q E { s with heap := h', toks := tk } := by
  refine wpAny_assign_Name (wpAny_storeName_local (env := compEnvC scope cl Cc env) (lookup_relabel_local hz) x.ns (fun h'' hn hs => ?_) (by simp [compEnvC, relabel, hk]))
  exact hq h'' _ (x.store hn hs) (r.chg x.sC fun b o hb e => (hs.2 b hb).trans e) fun b o hb e => (hs.2 b hb).trans e

theorem LE.frame {scope : Scope} {ℓ' : L} (x : LE cx sc env ℓ ρ h D Cc ρ' σ' h' acc vs m) (ok : compOk sc scope = true)
    (hm : ∀ (x : Str) v, x ≠ ".0" → ℓ'.lookup x = some v → scope.names.lookup x = some .local → ∃ y, m x = some y ∧ VR h' ρ' v y)
    (hℓ : ∀ x, scope.names.lookup x = some .free → ℓ'.lookup x = ℓ.lookup x) : FOK cx scope.names (compEnvC scope (clOf env scope.names []) Cc env) ℓ' ρ' h' :=
  x.fok.comp ok x.ns x.sC hm hℓ (fun z c e => (x.eC z c e).2)

theorem iter_self {Q : Value → Shared → Prop} (it : IterAt s.heap ρ src I j) (h : Q (.ref I) s) : wpAny (model prog w) A (pyIter (.ref I)) Q E s := by
  cases src <;> dsimp only [IterAt] at it
  · obtain ⟨a, vs, n, _, _, x⟩ := it
    exact wpAny_pyIter_tupleiter x h
  · obtain ⟨p, _, x⟩ := it
    exact wpAny_pyIter_listiter x h
  · exact wpAny_pyIter_rangeiter it h

theorem localsIn_of {xs : List Str} {scope : Scope} (ok : localsIn xs scope = true) {z : Str} (hz : scope.names.lookup z = some .local) : z ∈ xs := by
  unfold localsIn at ok
  rw [List.all_eq_true] at ok
  have := ok _ (mem_of_lookup hz)
  simpa using this

theorem wpEq {α : Type} {M : Model} {t t' : Sem α} {Q : α → Shared → Prop} (e : t = t') (h : wpAny M A t' Q E s) : wpAny M A t Q E s := e ▸ h
theorem loopC_elim {elt : V → (List V → S → Prop) → S → Prop} {n : Nat} {Q : List V → S → Prop} {G : Prop} (hq : loopC elt src n j acc Q σ')
    (h0 : itemAt σ' src j = some none → Q acc σ' → G)
    (h1 : ∀ n' v, n = n' + 1 → itemAt σ' src j = some (some v) → elt v (fun r σ'' => loopC elt src n' (j + 1) (acc ++ r) Q σ'') σ' → G) : G := by
  cases n with
  | zero => exact hq.elim
  | succ n =>
    dsimp only [loopC] at hq
    cases e : itemAt σ' src j with
    | none => rw [e] at hq; exact hq.elim
    | some o =>
      rw [e] at hq
      cases o with
      | none => exact h0 e hq
      | some v => exact h1 n v rfl e hq
/-- the state at a turn's begin -/
inductive CI (cx : Cx) (sc : List (Str × NameKind)) (env : Env) (ℓ : L) (ρ : Rho) (s : Shared) (h : Heap) (D Cc I : Addr) (src : V) (P : Nat → List V → S → Prop) (s' : Shared) : Prop
  | mk (ρ' : Rho) (σ' : S) (h' : Heap) (tk j : Nat) (acc : List V) (vs : List Value) (m : Str → Option Value) (e : s' = { s with heap := h', toks := tk }) (x : LE cx sc env ℓ ρ h D Cc ρ' σ' h' acc vs m) (i : IT cx env h src I D Cc ρ' h' j) (p : P j acc σ')
@[elab_as_elim] theorem CI.elim {P : Nat → List V → S → Prop} {s' : Shared} {G : Shared → Prop} (x : CI cx sc env ℓ ρ s h D Cc I src P s')
    (k : ∀ (ρ' : Rho) (σ' : S) (h' : Heap) (tk j : Nat) (acc : List V) (vs : List Value) (m : Str → Option Value), LE cx sc env ℓ ρ h D Cc ρ' σ' h' acc vs m → IT cx env h src I D Cc ρ' h' j → P j acc σ' → G { s with heap := h', toks := tk }) : G s' := by
  obtain ⟨ρ', σ', h', tk, j, acc, vs, m, rfl, x, i, p⟩ := x
  exact k ρ' σ' h' tk j acc vs m x i p

variable (C tb) in
noncomputable def turn1 (ifs' : List Ex) (elt' : Ex) (x : Str) (ℓ : L) : V → (List V → S → Prop) → S → Prop := fun v K σ1 => truAll C tb ifs' (upd x v ℓ) (fun t σ2 => match t with
        | true => ev C tb elt' (upd x v ℓ) (fun y σ3 => K [y] σ3) σ2
        | false => K [] σ2) σ1
theorem LE.frame1 {scope : Scope} {x : Str} {v : V} {y : Value} (L3 : LE cx sc env ℓ ρ h D Cc ρ' σ' h' acc vs (fun u => if u = x then some y else m u)) (ok : compOk sc scope = true) (hx : scope.names.lookup x = some .local) (hloc : localsIn [".0", x] scope = true) (ry : VR h' ρ' v y) :
    FOK cx scope.names (compEnvC scope (clOf env scope.names []) Cc env) (upd x v ℓ) ρ' h' := by
  refine L3.frame ok (fun z u z0 e1 e2 => ?_) fun z e => ?_
  · have := localsIn_of hloc e2
    simp only [List.mem_cons, List.not_mem_nil, or_false] at this
    rcases this with rfl | rfl
    · exact absurd rfl z0
    · rw [upd_lookup, if_pos rfl] at e1; cases e1
      exact ⟨y, if_pos rfl, ry⟩
  · rw [upd_lookup, if_neg (fun e' => by rw [e', hx] at e; cases e)]

theorem comp_loop1 {elt iter : Expr} {x : Str} {px pos : Pos} {ifs : List Expr} {scope : Scope} {elt' : Ex} {ifs' : List Ex} {Qm : List V → S → Prop} {R : Result → Shared → Prop}
    (hs : SF prog w cx tb C k scope.names ifs ifs') (he : SE prog w cx tb C k scope.names elt elt') (ok : compOk sc scope = true) (hx : scope.names.lookup x = some .local) (hloc : localsIn [".0", x] scope = true)
    (RR : Room A k)
    (fin : ∀ ρ' σ' h' tk' acc vs m, LE cx sc env ℓ ρ h D Cc ρ' σ' h' acc vs m → Qm acc σ' → R (.ok .next) { s with heap := h', toks := tk' })
    (n : Nat) {ρ' : Rho} {σ' : S} {h' : Heap} {tk j : Nat} {acc : List V} {vs : List Value} {m : Str → Option Value} (L0 : LE cx sc env ℓ ρ h D Cc ρ' σ' h' acc vs m) (I0 : IT cx env h src I D Cc ρ' h' j)
    (hq : loopC (turn1 tb C ifs' elt' x ℓ) src n j acc Qm σ') (hn : acc.length + n ≤ 1000000) :
    codeAny (model prog w) A (.compLoop (.ListComp elt [⟨.Name x px, iter, ifs, 0⟩] scope pos) 0 (.ref I) (.ref D) (compEnvC scope (clOf env scope.names []) Cc env)) R { s with heap := h', toks := tk } := by
  have ok1 := (compOk_parts ok).1
  refine codeAny_compLoop_tests (fun n s' => CI cx sc env ℓ ρ s h D Cc I src (fun j acc σ' => loopC (turn1 tb C ifs' elt' x ℓ) src n j acc Qm σ' ∧ acc.length + n ≤ 1000000) s') ?_ n ⟨ρ', σ', h', tk, j, acc, vs, m, rfl, L0, I0, hq, hn⟩
  clear hq hn L0 I0
  intro n s' ci
  refine ci.elim fun ρ1 σ1 h1 tk1 j acc vs m x1 i1 p => ?_
  refine loopC_elim p.1 (fun hi hq => ?_) fun n' v en hi hq => ?_
  · exact next_none (s := { s with heap := h1, toks := tk1 }) (RR.le (Nat.zero_le _)) x1.sim i1.it hi fun h2 tk2 hk => fin _ _ _ _ _ _ _ (x1.chg i1 hk) hq
  · have hn := p.2
    have hlt : n' < n := by omega
    refine next_some (s := { s with heap := h1, toks := tk1 }) x1.sim i1.sI i1.it hi fun y h2 tk2 hk ry it2 => ?_
    have x2 := x1.chg i1 hk
    have i2 := i1.next it2
    refine x2.assigned ok1 hx ry fun h3 tk3 x3 ry3 hk3 => ?_
    have i3 := i2.chg x2.sC i2.IC hk3
    have F3 := x3.frame1 ok hx hloc ry3
    refine wpAny_mono (hs _ _ _ _ _ { s with heap := h3, toks := tk3 } A _ hq x3.sim F3 RR) (fun t s4 hp => ?_) fun _ _ e => e
    refine hp.elim fun b σ4 ρ4 h4 tk4 hq X4 t4 r4 => ?_
    cases (show t = b from r4)
    have x4 := x3.step t4 X4
    have i4 := i3.step x3.sim t4
    cases t
    · rw [if_neg (by simp)]
      simp only [List.append_nil] at hq
      exact ⟨n', hlt, ρ4, σ4, h4, tk4, _, _, _, _, rfl, x4, i4, hq, by omega⟩
    · rw [if_pos rfl]
      refine wpAny_mono (he _ _ _ _ _ { s with heap := h4, toks := tk4 } A _ hq X4 (F3.step x3.sim t4) RR) (fun u s5 hp => ?_) fun _ _ e => e
      refine hp.elim fun b σ5 ρ5 h5 tk5 hq X5 t5 r5 => ?_
      have x5 := x4.step t5 X5
      have i5 := i4.step X4 t5
      refine x5.appended r5 (by omega) fun h6 x6 hs6 => ?_
      exact ⟨n', hlt, ρ5, σ5, h6, tk5, _, _, _, _, rfl, x6, i5.chg x5.sD i5.ID (fun b o hb e => (hs6.2 b hb).trans e), hq, by rw [List.length_append]; simp; omega⟩

theorem Stp.old (x : Stp ρ h ρ' h') (X : Sim cx ρ' σ' h') {b : Addr} (hb : h'.get? b = none) : h.get? b = none := by
  cases hq : h.get? b with
  | none => rfl
  | some o =>
    exfalso
    obtain ⟨e, he, hn⟩ := id x.ext
    by_cases hr : InR ρ b
    · have : InR ρ' b := by
        obtain ⟨p, hp, hq⟩ := hr
        exact ⟨p, by rw [he]; exact List.mem_append_left _ hp, hq⟩
      obtain ⟨o', ho', _⟩ := X.live this
      rw [hb] at ho'; cases ho'
    · rw [x.keep b o hr hq] at hb; cases hb

theorem compTurn_two0 (elt tx it1 ty it2 : Expr) (scope : Scope) (pos : Pos) (it acc : Value) (env : Env) :
    compTurn (.ListComp elt [⟨tx, it1, [], 0⟩, ⟨ty, it2, [], 0⟩] scope pos) 0 it acc env = (standAt it1.pos >>= fun _ => pyNext it >>= fun r => match r with
      | none => pure (.done .next)
      | some v => letOwnedTupleGo tx it v >>= fun _ => assign tx env v >>= fun _ =>
        eval it2 env >>= fun x => standAt it2.pos >>= fun _ => foldedSetIterable it2 env x >>= fun x => holding [x] (pyIter x) >>= fun it' =>
          runOwn (.compStart (.ListComp elt [⟨tx, it1, [], 0⟩, ⟨ty, it2, [], 0⟩] scope pos) 1 it' acc env) env >>= fun _ =>
          again (.compLoop (.ListComp elt [⟨tx, it1, [], 0⟩, ⟨ty, it2, [], 0⟩] scope pos) 0 it acc env)) := by rfl
theorem compTurn_two1 (elt tx it1 ty it2 : Expr) (scope : Scope) (pos : Pos) (it acc : Value) (env : Env) :
    compTurn (.ListComp elt [⟨tx, it1, [], 0⟩, ⟨ty, it2, [], 0⟩] scope pos) 1 it acc env = (standAt it2.pos >>= fun _ => pyNext it >>= fun r => match r with
      | none => pure (.done .next)
      | some v => letOwnedTupleGo ty it v >>= fun _ => assign ty env v >>= fun _ =>
        (eval elt env >>= fun x => call (.builtin "list.append") [acc, x] >>= fun _ => pure ()) >>= fun _ =>
          again (.compLoop (.ListComp elt [⟨tx, it1, [], 0⟩, ⟨ty, it2, [], 0⟩] scope pos) 1 it acc env)) := by rfl

theorem codeAny_compStart_two1 {elt tx it1 ty it2 : Expr} {scope : Scope} {pos : Pos} {it acc : Value} {env : Env} {R : Result → Shared → Prop}
    (h0 : codeAny (model prog w) A (.compLoop (.ListComp elt [⟨tx, it1, [], 0⟩, ⟨ty, it2, [], 0⟩] scope pos) 1 it acc env) R s)
    (h : wpAny (model prog w) A (pyIter it) (fun it' s' => codeAny (model prog w) A (.compLoop (.ListComp elt [⟨tx, it1, [], 0⟩, ⟨ty, it2, [], 0⟩] scope pos) 1 it' acc env) R s')
      (notedBy (model prog w) A env fun x s' => R (.error x) s') s) :
    codeAny (model prog w) A (.compStart (.ListComp elt [⟨tx, it1, [], 0⟩, ⟨ty, it2, [], 0⟩] scope pos) 1 it acc env) R s := by
  refine codeAny_of_tree ?_
  show wpAny _ _ ((compStart (.ListComp elt [⟨tx, it1, [], 0⟩, ⟨ty, it2, [], 0⟩] scope pos) 1 it acc env).onRaise (fun x => do noteFrame x env; standAt theWindowsPlace)) _ _ s
  refine wpAny_notedAt ?_
  unfold compStart
  show wpAny _ _ (ask >>= _) _ _ s
  refine wpAny_bind (wpAny_askSetting (wpAny_ite ?_))
  split
  · first
      | exact wpAny_bind (wpAny_pure (wpAny_pure (And.intro rfl h0)))
      | exact wpAny_pure (And.intro rfl h0)
  · first
      | exact wpAny_bind (wpAny_rule (wpAny_bind (wpAny_standAt (wpAny_bind (wpAny_mono h (fun it' s' h' => wpAny_pure (And.intro rfl h')) fun _ _ x => x)))))
      | (refine wpAny_bind (wpAny_rule ?_); show wpAny _ _ (standAt it2.pos >>= _) _ _ s; exact wpAny_bind (wpAny_standAt (wpAny_bind (wpAny_mono h (fun it' s' h' => wpAny_pure (And.intro rfl h')) fun _ _ x => x))))

variable (C tb) in
noncomputable def turnI (elt' : Ex) (y : Str) (ℓ : L) : V → (List V → S → Prop) → S → Prop := fun u K2 σ3 => ev C tb elt' (upd y u ℓ) (fun z σ4 => K2 [z] σ4) σ3
/-- the inner loop's state at a turn's begin -/
inductive CJ (cx : Cx) (sc : List (Str × NameKind)) (env : Env) (ℓ : L) (ρ : Rho) (s : Shared) (h : Heap) (D Cc I I2 : Addr) (src src2 : V) (j : Nat) (acc0 : List V) (x : Str) (v0 : V) (P : Nat → List V → S → Prop) (s' : Shared) : Prop
  | mk (ρ' : Rho) (σ' : S) (h' : Heap) (tk j2 : Nat) (acc : List V) (vs : List Value) (m : Str → Option Value) (u : Value) (e : s' = { s with heap := h', toks := tk }) (x1 : LE cx sc env ℓ ρ h D Cc ρ' σ' h' (acc0 ++ acc) vs m) (i : IT cx env h src I D Cc ρ' h' j)
    (i2 : IT cx env h src2 I2 D Cc ρ' h' j2) (hu : m x = some u) (ru : VR h' ρ' v0 u) (p : P j2 acc σ')
@[elab_as_elim] theorem CJ.elim {acc0 : List V} {x : Str} {v0 : V} {P : Nat → List V → S → Prop} {s' : Shared} {G : Shared → Prop} (x1 : CJ cx sc env ℓ ρ s h D Cc I I2 src src2 j acc0 x v0 P s')
    (k : ∀ (ρ' : Rho) (σ' : S) (h' : Heap) (tk j2 : Nat) (acc : List V) (vs : List Value) (m : Str → Option Value) (u : Value), LE cx sc env ℓ ρ h D Cc ρ' σ' h' (acc0 ++ acc) vs m → IT cx env h src I D Cc ρ' h' j → IT cx env h src2 I2 D Cc ρ' h' j2 →
      m x = some u → VR h' ρ' v0 u → P j2 acc σ' → G { s with heap := h', toks := tk }) : G s' := by
  obtain ⟨ρ', σ', h', tk, j2, acc, vs, m, u, rfl, x, i, i2, hu, ru, p⟩ := x1
  exact k ρ' σ' h' tk j2 acc vs m u x i i2 hu ru p
theorem LE.frame2 {scope : Scope} {x y : Str} {v0 v : V} {u yv : Value} (L3 : LE cx sc env ℓ ρ h D Cc ρ' σ' h' acc vs (fun z => if z = y then some yv else m z)) (ok : compOk sc scope = true) (hx : scope.names.lookup x = some .local) (hy : scope.names.lookup y = some .local) (hloc : localsIn [".0", x, y] scope = true)
    (hxy : y ≠ x) (hu : m x = some u) (ru : VR h' ρ' v0 u) (ry : VR h' ρ' v yv) : FOK cx scope.names (compEnvC scope (clOf env scope.names []) Cc env) (upd y v (upd x v0 ℓ)) ρ' h' := by
  refine L3.frame ok (fun z q z0 e1 e2 => ?_) fun z e => ?_
  · have := localsIn_of hloc e2
    simp only [List.mem_cons, List.not_mem_nil, or_false] at this
    rcases this with rfl | rfl | rfl
    · exact absurd rfl z0
    · rw [upd_lookup, if_neg (Ne.symm hxy), upd_lookup, if_pos rfl] at e1; cases e1
      exact ⟨u, by rw [if_neg (Ne.symm hxy)]; exact hu, ru⟩
    · rw [upd_lookup, if_pos rfl] at e1; cases e1
      exact ⟨yv, if_pos rfl, ry⟩
  · rw [upd_lookup, if_neg (fun e' => by rw [e', hy] at e; cases e), upd_lookup, if_neg (fun e' => by rw [e', hx] at e; cases e)]

theorem comp_inner {elt it1 it2 : Expr} {x y : Str} {px py pos : Pos} {scope : Scope} {elt' : Ex} {acc0 : List V} {B : Nat} (hB : B ≤ 1000000) {v0 : V} {Qm : List V → S → Prop} {R : Result → Shared → Prop}
    (he : SE prog w cx tb C k scope.names elt elt') (ok : compOk sc scope = true) (hx : scope.names.lookup x = some .local) (hy : scope.names.lookup y = some .local) (hloc : localsIn [".0", x, y] scope = true) (hxy : y ≠ x)
    (RR : Room A k)
    (fin : ∀ ρ' σ' h' tk' acc vs m, LE cx sc env ℓ ρ h D Cc ρ' σ' h' (acc0 ++ acc) vs m → IT cx env h src I D Cc ρ' h' j → Qm acc σ' → acc0.length + acc.length ≤ B → R (.ok .next) { s with heap := h', toks := tk' })
    (hII : I ≠ I2)
    (n : Nat) {ρ' : Rho} {σ' : S} {h' : Heap} {tk j2 : Nat} {acc : List V} {vs : List Value} {m : Str → Option Value} {u : Value} (L0 : LE cx sc env ℓ ρ h D Cc ρ' σ' h' (acc0 ++ acc) vs m) (I0 : IT cx env h src I D Cc ρ' h' j) (I20 : IT cx env h src2 I2 D Cc ρ' h' j2)
    (hm : m x = some u) (hr : VR h' ρ' v0 u)
    (hq : loopC (turnI tb C elt' y (upd x v0 ℓ)) src2 n j2 acc Qm σ') (hn : acc0.length + acc.length + n ≤ B) :
    codeAny (model prog w) A (.compLoop (.ListComp elt [⟨.Name x px, it1, [], 0⟩, ⟨.Name y py, it2, [], 0⟩] scope pos) 1 (.ref I2) (.ref D) (compEnvC scope (clOf env scope.names []) Cc env)) R { s with heap := h', toks := tk } := by
  have ok1 := (compOk_parts ok).1
  refine codeAny_loop rfl (fun n s' => CJ cx sc env ℓ ρ s h D Cc I I2 src src2 j acc0 x v0 (fun j2 acc σ' => loopC (turnI tb C elt' y (upd x v0 ℓ)) src2 n j2 acc Qm σ' ∧ acc0.length + acc.length + n ≤ B) s') ?_ n ⟨ρ', σ', h', tk, j2, acc, vs, m, u, rfl, L0, I0, I20, hm, hr, hq, hn⟩
  clear hq hn L0 I0 I20 hm hr
  intro n s' ci
  refine ci.elim fun ρ1 σ1 h1 tk1 j2 acc vs m u x1 i1 w1 hu1 hu2 p => ?_
  refine wpAny_noted (wpEq (compTurn_two1 ..) (wpAny_bind (wpAny_standAt (wpAny_bind ?_))))
  refine loopC_elim p.1 (fun hi hq => ?_) fun n' v en hi hq => ?_
  · have hn := p.2
    exact next_none (s := { s with heap := h1, toks := tk1 }) (RR.le (Nat.zero_le _)) x1.sim w1.it hi fun h2 tk2 hk => wpAny_pure (fin _ _ _ _ _ _ _ (x1.chg w1 hk) (i1.chg w1.sI hII hk) hq (by omega))
  · have hn := p.2
    have hlt : n' < n := by omega
    refine next_some (s := { s with heap := h1, toks := tk1 }) x1.sim w1.sI w1.it hi fun yv h2 tk2 hk ry it2 => ?_
    have x2 := x1.chg w1 hk
    have i2 := i1.chg w1.sI hII hk
    have w2 := w1.next it2
    have hu2 := hu2.chg w1.sI hk
    refine wpAny_bind (wpAny_of_eq rfl (wpAny_bind ?_))
    refine x2.assigned ok1 hy ry fun h3 tk3 x3 ry3 hk3 => ?_
    have i3 := i2.chg x2.sC i2.IC hk3
    have w3 := w2.chg x2.sC w2.IC hk3
    have hu3 := hu2.chg x2.sC hk3
    have F3 := x3.frame2 ok hx hy hloc hxy hu1 hu3 ry3
    refine wpAny_bind (wpAny_bind (wpAny_mono (he _ _ _ _ _ { s with heap := h3, toks := tk3 } A _ hq x3.sim F3 RR) (fun t s5 hp => ?_) fun _ _ e => e))
    refine hp.elim fun b σ5 ρ5 h5 tk5 hq X5 t5 r5 => ?_
    have x5 := x3.step t5 X5
    have i5 := i3.step x3.sim t5
    have w5 := w3.step x3.sim t5
    have hu5 := t5.vr x3.sim hu3
    refine wpAny_bind (x5.appended r5 (by rw [List.length_append]; omega) fun h6 x6 hs6 => wpAny_pure (wpAny_pure ?_))
    have hk6 : ∀ b o, b ≠ D → h5.get? b = some o → h6.get? b = some o := fun b o hb e => (hs6.2 b hb).trans e
    rw [List.append_assoc] at x6
    exact ⟨rfl, n', hlt, ρ5, σ5, h6, tk5, _, acc ++ [b], _, _, u, rfl, x6, i5.chg x5.sD i5.ID hk6, w5.chg x5.sD w5.ID hk6, by rw [if_neg (Ne.symm hxy)]; exact hu1, hu5.chg x5.sD hk6, hq, by rw [List.length_append]; simp; omega⟩

variable (C tb) in
noncomputable def turn2 (it2' elt' : Ex) (x y : Str) (ℓ : L) : V → (List V → S → Prop) → S → Prop := fun v K σ1 => ev C tb it2' (upd x v ℓ) (fun src2 σ2 => ∃ m2, m2 ≤ 1000 ∧
        loopC (turnI tb C elt' y (upd x v ℓ)) src2 m2 0 [] K σ2) σ1
theorem LE.frame3 {scope : Scope} {x y : Str} {v : V} {yv : Value} (L3 : LE cx sc env ℓ ρ h D Cc ρ' σ' h' acc vs (fun z => if z = x then some yv else m z)) (ok : compOk sc scope = true) (hx : scope.names.lookup x = some .local) (hloc : localsIn [".0", x, y] scope = true)
    (hxy : y ≠ x) (hny : ℓ.lookup y = none) (ry : VR h' ρ' v yv) : FOK cx scope.names (compEnvC scope (clOf env scope.names []) Cc env) (upd x v ℓ) ρ' h' := by
  refine L3.frame ok (fun z u z0 e1 e2 => ?_) fun z e => ?_
  · have := localsIn_of hloc e2
    simp only [List.mem_cons, List.not_mem_nil, or_false] at this
    rcases this with rfl | rfl | rfl
    · exact absurd rfl z0
    · rw [upd_lookup, if_pos rfl] at e1; cases e1
      exact ⟨yv, if_pos rfl, ry⟩
    · rw [upd_lookup, if_neg hxy, hny] at e1; cases e1
  · rw [upd_lookup, if_neg (fun e' => by rw [e', hx] at e; cases e)]
theorem loopC_some {elt : V → (List V → S → Prop) → S → Prop} {n : Nat} {Q : List V → S → Prop} (hq : loopC elt src n j acc Q σ') : ∃ oo, itemAt σ' src j = some oo :=
  loopC_elim hq (fun h _ => ⟨_, h⟩) fun _ _ _ h _ => ⟨_, h⟩
theorem IT.fresh {ρ4 : Rho} {σ4 : S} {h4 h5 : Heap} {b : V} (x4 : LE cx sc env ℓ ρ h D Cc ρ4 σ4 h4 acc vs m) (X4 : Sim cx ρ4 σ4 h4) (n5 : h4.get? I2 = none) (it5 : IterAt h5 ρ4 b I2 0) : IT cx env h b I2 D Cc ρ4 h5 0 := by
  obtain ⟨oI, gI, sI⟩ := it5.obj
  obtain ⟨oD, gD⟩ := x4.objD
  obtain ⟨oC, gC⟩ := x4.objC
  have lv := x4.fok.live (b := I2) n5
  exact ⟨it5, Side.fresh X4 n5 gI sI, x4.stp.old X4 n5, (fun e => by rw [e, gD] at n5; cases n5), (fun e => by rw [e, gC] at n5; cases n5), lv.1, fun z c e => lv.2 z c e⟩

theorem comp_loop2 {elt it1 it2 : Expr} {x y : Str} {px py pos : Pos} {scope : Scope} {elt' it2' : Ex} {Qm : List V → S → Prop} {R : Result → Shared → Prop}
    (hi2 : SE prog w cx tb C k scope.names it2 it2') (he : SE prog w cx tb C k scope.names elt elt') (ok : compOk sc scope = true) (hx : scope.names.lookup x = some .local) (hy : scope.names.lookup y = some .local) (hloc : localsIn [".0", x, y] scope = true) (hxy : y ≠ x)
    (hny : ℓ.lookup y = none) (hset : notSet it2 = true)
    (RR : Room A k)
    (fin : ∀ ρ' σ' h' tk' acc vs m, LE cx sc env ℓ ρ h D Cc ρ' σ' h' acc vs m → Qm acc σ' → R (.ok .next) { s with heap := h', toks := tk' })
    (n : Nat) {ρ' : Rho} {σ' : S} {h' : Heap} {tk j : Nat} {acc : List V} {vs : List Value} {m : Str → Option Value} (L0 : LE cx sc env ℓ ρ h D Cc ρ' σ' h' acc vs m) (I0 : IT cx env h src I D Cc ρ' h' j)
    (hq : loopC (turn2 tb C it2' elt' x y ℓ) src n j acc Qm σ') (hn : acc.length + 1000 * n ≤ 1000000) :
    codeAny (model prog w) A (.compLoop (.ListComp elt [⟨.Name x px, it1, [], 0⟩, ⟨.Name y py, it2, [], 0⟩] scope pos) 0 (.ref I) (.ref D) (compEnvC scope (clOf env scope.names []) Cc env)) R { s with heap := h', toks := tk } := by
  have ok1 := (compOk_parts ok).1
  refine codeAny_loop rfl (fun n s' => CI cx sc env ℓ ρ s h D Cc I src (fun j acc σ' => loopC (turn2 tb C it2' elt' x y ℓ) src n j acc Qm σ' ∧ acc.length + 1000 * n ≤ 1000000) s') ?_ n ⟨ρ', σ', h', tk, j, acc, vs, m, rfl, L0, I0, hq, hn⟩
  clear hq hn L0 I0
  intro n s' ci
  refine ci.elim fun ρ1 σ1 h1 tk1 j acc vs m x1 i1 p => ?_
  refine wpAny_noted (wpEq (compTurn_two0 ..) (wpAny_bind (wpAny_standAt (wpAny_bind ?_))))
  refine loopC_elim p.1 (fun hi hq => ?_) fun n' v en hi hq => ?_
  · exact next_none (s := { s with heap := h1, toks := tk1 }) (RR.le (Nat.zero_le _)) x1.sim i1.it hi fun h2 tk2 hk => wpAny_pure (fin _ _ _ _ _ _ _ (x1.chg i1 hk) hq)
  · have hn := p.2
    have hlt : n' < n := by omega
    refine next_some (s := { s with heap := h1, toks := tk1 }) x1.sim i1.sI i1.it hi fun yv h2 tk2 hk ry it2 => ?_
    have x2 := x1.chg i1 hk
    have i2 := i1.next it2
    refine wpAny_bind (wpAny_of_eq rfl (wpAny_bind ?_))
    refine x2.assigned ok1 hx ry fun h3 tk3 x3 ry3 hk3 => ?_
    have i3 := i2.chg x2.sC i2.IC hk3
    have F3 := x3.frame3 ok hx hloc hxy hny ry3
    refine wpAny_bind (wpAny_mono (hi2 _ _ _ _ _ { s with heap := h3, toks := tk3 } A _ hq x3.sim F3 RR) (fun xv s4 hp => ?_) fun _ _ e => e)
    refine hp.elim fun b σ4 ρ4 h4 tk4 hq X4 t4 r4 => ?_
    have x4 := x3.step t4 X4
    have i4 := i3.step x3.sim t4
    have ry4 := t4.vr x3.sim ry3
    refine wpAny_bind (wpAny_standAt (wpAny_bind (wpAny_of_eq (notSet_folded hset _) (wpAny_bind (wpAny_holding ?_)))))
    refine hq.elim fun m2 hq => ?_
    refine (loopC_some hq.2).elim fun oo hit => ?_
    refine iter_ok (s := { s with heap := h4, toks := tk4 }) X4 r4 hit fun I2 h5 tk5 hk5 n5 it5 => ?_
    have X5 : Sim cx ρ4 σ4 h5 := X4.keeps hk5
    have t5 : Stp ρ4 h4 ρ4 h5 := .of_keeps hk5
    have x5 := x4.step t5 X5
    have i5 := i4.step X4 t5
    have ry5 := t5.vr X4 ry4
    have w5 : IT cx env h b I2 D Cc ρ4 h5 0 := .fresh x4 X4 n5 it5
    have hII : I ≠ I2 := fun e => by
      obtain ⟨oJ, gJ, _⟩ := i4.it.obj
      rw [← e, gJ] at n5; cases n5
    refine wpAny_bind (wpAny_runOwn ?_)
    refine (fun g => codeAny_compStart_two1 g (iter_self (s := { s with heap := h5, toks := tk5 }) w5.it g)) ?_
    refine comp_inner (s := s) (acc0 := acc) (v0 := v) (Qm := fun r σ' => loopC (turn2 tb C it2' elt' x y ℓ) src n' (j + 1) (acc ++ r) Qm σ') (B := acc.length + 1000) (by omega) he ok hx hy hloc hxy RR ?_ hII m2 (acc := []) (by rw [List.append_nil]; exact x5) i5 w5 (if_pos rfl) ry5 hq.2 (by have := hq.1; simp; omega)
    intro ρ6 σ6 h6 tk6 acc6 vs6 m6 x6 i6 hq hb
    exact wpAny_pure ⟨rfl, n', hlt, ρ6, σ6, h6, tk6, _, _, _, _, rfl, x6, i6, hq, by rw [List.length_append]; omega⟩
end
end Mine

end
section
open PySem PySem.W PySem.Calls PyProof.Rows
set_option Elab.async false
set_option maxRecDepth 100000
namespace Mine

section
variable {prog : Program} {w : World} {cx : Cx} {tb : Tb} {C : Or} {k : Nat} {A : Around} {E : Value → Shared → Prop} {s : Shared} {ρ ρ' : Rho} {σ : S} {h h' : Heap} {sc : List (Str × NameKind)} {env : Env} {ℓ : L}
variable {src src2 : V} {I I2 D Cc : Addr} {σ' : S} {j j2 : Nat} {acc : List V} {vs : List Value} {m : Str → Option Value}

/-- what stood beside the store is taken in -/
theorem Sim.adopt {l : List V} (X : Sim cx ρ σ h) (d : Side cx ρ h D) (hl : h.PlainList D vs.toArray) (r : VRs h ρ l vs) : Sim cx (ρ ++ [(D, D)]) (σ ++ [.lst l]) h := by
  have hr : ∀ (i : Nat) q, ρ[i]? = some q → (ρ ++ [(D, D)])[i]? = some q := fun i q e => by
    obtain ⟨hlt, _⟩ := List.getElem?_eq_some_iff.mp e
    rw [List.getElem?_append_left hlt]; exact e
  have split : ∀ (i : Nat) q, (ρ ++ [(D, D)])[i]? = some q → ρ[i]? = some q ∨ (i = ρ.length ∧ q = (D, D)) := fun i q e => by
    rcases Nat.lt_trichotomy i ρ.length with h | h | h
    · left; rwa [List.getElem?_append_left h] at e
    · right; subst h; simp at e; exact ⟨rfl, e.symm⟩
    · rw [List.getElem?_eq_none (by simp; omega)] at e; cases e
  refine ⟨X.base, by simp [X.len], fun i o' q e1 e2 => ?_, fun i o' q e1 e2 hz => ?_, fun i j q q' e1 e2 hne => ?_⟩
  · rcases split i q e2 with hq | ⟨rfl, rfl⟩
    · have hlt : i < σ.length := by rw [← X.len]; exact (List.getElem?_eq_some_iff.mp hq).1
      rw [List.getElem?_append_left hlt] at e1
      exact (X.obj i o' q e1 hq).keeps (fun _ _ e => e) hr
    · rw [X.len] at e1; simp at e1; subst e1
      exact ⟨rfl, vs, hl, r.mono (fun _ _ _ e => e) hr⟩
  · rcases split i q e2 with hq | ⟨rfl, rfl⟩
    · have hlt : i < σ.length := by rw [← X.len]; exact (List.getElem?_eq_some_iff.mp hq).1
      rw [List.getElem?_append_left hlt] at e1
      exact X.fresh i o' q e1 hq hz
    · exact ⟨d.new, d.new⟩
  · have off : ∀ (i : Nat) q, ρ[i]? = some q → q.1 ≠ D ∧ q.2 ≠ D := fun i q e =>
      ⟨fun h => d.off ⟨q, List.mem_of_getElem? e, .inl h.symm⟩, fun h => d.off ⟨q, List.mem_of_getElem? e, .inr h.symm⟩⟩
    rcases split i q e1 with h | ⟨rfl, rfl⟩ <;> rcases split j q' e2 with h' | ⟨rfl, rfl⟩
    · exact X.apart i j q q' h h' hne
    · obtain ⟨a, b⟩ := off _ _ h; exact ⟨a, a, b, b⟩
    · obtain ⟨a, b⟩ := off _ _ h'; exact ⟨Ne.symm a, Ne.symm b, Ne.symm a, Ne.symm b⟩
    · exact absurd rfl hne
theorem Stp.adopt (t : Stp ρ h ρ' h') (hD : h.get? D = none) : Stp ρ h (ρ' ++ [(D, D)]) h' := by
  obtain ⟨e, rfl, hn⟩ := t.ext
  refine ⟨⟨e ++ [(D, D)], by rw [List.append_assoc], fun p hp => ?_⟩, t.keep⟩
  rcases List.mem_append.mp hp with hp | hp
  · exact hn p hp
  · rw [List.mem_singleton.mp hp]; exact ⟨hD, hD⟩

/-- a comprehension's run, up to what is done with its list -/
noncomputable def SC (prog : Program) (w : World) (cx : Cx) (tb : Tb) (C : Or) (k : Nat) (sc : List (Str × NameKind)) (e iter : Expr) (scope : Scope) (e' : Ex) : Prop :=
  ∀ env ℓ Qm σ ρ s A E (R : Value → Addr → Result → Shared → Prop), ev C tb e' ℓ Qm σ → Sim cx ρ σ s.heap → FOK cx sc env ℓ ρ s.heap → Room A k →
  (∀ ρ1 h1 D Cc ρ' σ' h' tk' acc vs m, Stp ρ s.heap ρ1 h1 → (∃ σ1, Sim cx ρ1 σ1 h1) → LE cx sc env ℓ ρ1 h1 D Cc ρ' σ' h' acc vs m → Qm (.ref σ'.length) (σ' ++ [.lst acc]) → R (.ref D) Cc (.ok .next) { s with heap := h', toks := tk' }) →
  wpAny (model prog w) A (eval iter env) (fun x s₁ => wpAny (model prog w) A (pyIter x) (fun it s₂ => wpAny (model prog w) A (newList []) (fun acc s₃ =>
    wpAny (model prog w) A (newFunctionEnv scope env.globals (clOf env scope.names []) [] env.qual none .none (some env)) (fun cenv s₄ =>
      codeAny (model prog w) A (.compStart e 0 it acc { cenv with scope := relabel scope env }) (R acc cenv.locals) s₄) E s₃) E s₂) E s₁) E s

theorem comp_setup {elt target iter : Expr} {ifs : List Expr} {rest : List Comprehension} {scope : Scope} {pos : Pos} {it' : Ex} {Qi : V → S → Prop} {R : Value → Addr → Result → Shared → Prop}
    (hit : SE prog w cx tb C k sc iter it') (ok : compOk sc scope = true) (hq : ev C tb it' ℓ Qi σ) (X : Sim cx ρ σ s.heap) (F : FOK cx sc env ℓ ρ s.heap) (RR : Room A k)
    (hi : ∀ src σ', Qi src σ' → ∃ oo, itemAt σ' src 0 = some oo)
    (go : ∀ ρ1 σ1 h1 src I D Cc h4 tk4 m, Stp ρ s.heap ρ1 h1 → Sim cx ρ1 σ1 h1 → Qi src σ1 → LE cx sc env ℓ ρ1 h1 D Cc ρ1 σ1 h4 [] [] m → IT cx env h1 src I D Cc ρ1 h4 0 →
      codeAny (model prog w) A (.compLoop (.ListComp elt (⟨target, iter, ifs, 0⟩ :: rest) scope pos) 0 (.ref I) (.ref D) (compEnvC scope (clOf env scope.names []) Cc env)) (R (.ref D) Cc) { s with heap := h4, toks := tk4 }) :
    wpAny (model prog w) A (eval iter env) (fun x s₁ => wpAny (model prog w) A (pyIter x) (fun it s₂ => wpAny (model prog w) A (newList []) (fun acc s₃ =>
      wpAny (model prog w) A (newFunctionEnv scope env.globals (clOf env scope.names []) [] env.qual none .none (some env)) (fun cenv s₄ =>
        codeAny (model prog w) A (.compStart (.ListComp elt (⟨target, iter, ifs, 0⟩ :: rest) scope pos) 0 it acc { cenv with scope := relabel scope env }) (R acc cenv.locals) s₄) E s₃) E s₂) E s₁) E s := by
  obtain ⟨ok1, _, ok2⟩ := compOk_parts ok
  refine wpAny_mono (hit env ℓ _ σ ρ s A E hq X F RR) (fun x s1 hp => ?_) fun _ _ e => e
  refine hp.elim fun src σ1 ρ1 h1 tk1 hq X1 t1 r1 => ?_
  obtain ⟨oo, ho⟩ := hi _ _ hq
  refine iter_ok (s := { s with heap := h1, toks := tk1 }) X1 r1 ho fun I h2 tk2 hk2 n2 it2 => ?_
  have F1 := F.step X t1
  have hk2 : ∀ b o, h1.get? b = some o → h2.get? b = some o := hk2
  refine wpAny_newObj_type (wpAny_newFunctionEnv (fun y hy => ?_) (by intro y hy; simp at hy) (fun h₁ hns₁ hsb₁ => ?_) ok1)
  · rcases ok2 y hy with ⟨a, _⟩ | ⟨a, _⟩ | ⟨a, _⟩ <;> rw [a] <;> simp
  dsimp only at hns₁ hsb₁ ⊢
  generalize hH2 : h2.push { cls := .type "list", dict := none, data := .seq ([] : List Value).toArray } = H2 at hns₁ hsb₁ ⊢
  have hC : H2.objs.size = h2.objs.size + 1 := by rw [← hH2, Heap.size_push]
  have hDC : h2.objs.size ≠ H2.objs.size := by rw [hC]; exact Nat.ne_of_lt (Nat.lt_succ_self _)
  have old : ∀ b o, h2.get? b = some o → h₁.get? b = some o := fun b o e => hsb₁.extBut b o (by rw [hC]; exact Nat.ne_of_lt (Nat.lt_succ_of_lt (Heap.lt_size e))) (Heap.get?_push_of_some _ (hH2 ▸ Heap.get?_push_of_some _ e))
  have old1 : ∀ b o, h1.get? b = some o → h₁.get? b = some o := fun b o e => old b o (hk2 b o e)
  have nD : h2.get? h2.objs.size = none := get_size_none _
  have nC : h2.get? H2.objs.size = none := by
    cases q : h2.get? H2.objs.size with
    | none => rfl
    | some o => exact absurd (Heap.lt_size q) (by rw [hC]; exact Nat.not_lt.mpr (Nat.le_succ _))
  have down : ∀ b, h2.get? b = none → h1.get? b = none := fun b e => by
    cases q : h1.get? b with
    | none => rfl
    | some o => rw [hk2 b o q] at e; cases e
  have gD : h₁.get? h2.objs.size = some { cls := .type "list", dict := none, data := .seq ([] : List Value).toArray } :=
    hsb₁.extBut _ _ hDC (Heap.get?_push_of_some _ (hH2 ▸ Heap.get?_push_size _ rfl))
  obtain ⟨oC, gC⟩ : ∃ o, h₁.get? H2.objs.size = some o := by obtain ⟨o, _, _, e, _⟩ := hns₁; exact ⟨o, e⟩
  have X2 : Sim cx ρ1 σ1 h2 := X1.keeps hk2
  have X4 : Sim cx ρ1 σ1 h₁ := X1.keeps old1
  have lD := (F1.keeps hk2).live nD
  have lC := (F1.keeps hk2).live nC
  have lI := F1.live n2
  have t2 : Stp ρ1 h1 ρ1 h2 := .of_keeps hk2
  obtain ⟨oI, gI, sI⟩ := it2.obj
  have x4 : LE cx sc env ℓ ρ1 h1 h2.objs.size H2.objs.size ρ1 σ1 h₁ [] [] (fun x => ([] : List (Str × Value)).reverse.lookup x) :=
    ⟨X4, .of_keeps old1, ⟨_, gD⟩, rfl, hns₁, Side.fresh X2 nD gD (by simp [Firm]), Side.fresh X2 nC gC (firm_ns hns₁ _ gC), F1.keeps old1,
      down _ nD, down _ nC, hDC, ⟨lD.1, lC.1⟩, fun z c e => ⟨lD.2 z c e, lC.2 z c e⟩⟩
  have i4 : IT cx env h1 src I h2.objs.size H2.objs.size ρ1 h₁ 0 :=
    ⟨it2.mono (fun b o _ => old b o) (fun _ _ e => e) (fun o => old I o), (Side.fresh X1 n2 gI sI).keepAt gI (old _ _ gI), n2, (fun e => by rw [e, nD] at gI; cases gI), (fun e => by rw [e, nC] at gI; cases gI), lI.1, fun z c e => lI.2 z c e⟩
  have loop := go ρ1 σ1 h1 src I h2.objs.size H2.objs.size h₁ tk2 _ t1 X1 hq x4 i4
  exact codeAny_compStart_list loop (iter_self (s := { s with heap := h₁, toks := tk2 }) i4.it loop)

theorem SC_comp {elt iter : Expr} {x : Str} {px pos : Pos} {ifs : List Expr} {scope : Scope} {elt' it' : Ex} {ifs' : List Ex}
    (hit : SE prog w cx tb C k sc iter it') (hs : SF prog w cx tb C k scope.names ifs ifs') (he : SE prog w cx tb C k scope.names elt elt') (ok : compOk sc scope = true) (hx : scope.names.lookup x = some .local) (hloc : localsIn [".0", x] scope = true) :
    SC prog w cx tb C k sc (.ListComp elt [⟨.Name x px, iter, ifs, 0⟩] scope pos) iter scope (.comp elt' x it' ifs') := by
  intro env ℓ Qm σ ρ s A E R hq X F RR fin
  dsimp only [ev] at hq
  refine comp_setup hit ok hq X F RR (fun src σ' ⟨m, _, hq⟩ => loopC_some hq) fun ρ1 σ1 h1 src I D Cc h4 tk4 m t1 X1 ⟨n, hn, hq⟩ x4 i4 => ?_
  exact comp_loop1 hs he ok hx hloc RR (fun ρ' σ' h' tk' acc vs m L hQ => fin ρ1 h1 D Cc ρ' σ' h' tk' acc vs m t1 ⟨σ1, X1⟩ L hQ) n x4 i4 hq (by simp; omega)

theorem SC_comp2 {elt it1 it2 : Expr} {x y : Str} {px py pos : Pos} {scope : Scope} {elt' it1' it2' : Ex}
    (hit : SE prog w cx tb C k sc it1 it1') (hi2 : SE prog w cx tb C k scope.names it2 it2') (he : SE prog w cx tb C k scope.names elt elt') (ok : compOk sc scope = true) (hx : scope.names.lookup x = some .local) (hy : scope.names.lookup y = some .local) (hloc : localsIn [".0", x, y] scope = true)
    (hset : notSet it2 = true) :
    SC prog w cx tb C k sc (.ListComp elt [⟨.Name x px, it1, [], 0⟩, ⟨.Name y py, it2, [], 0⟩] scope pos) it1 scope (.comp2 elt' x it1' y it2') := by
  intro env ℓ Qm σ ρ s A E R hq X F RR fin
  dsimp only [ev] at hq
  obtain ⟨hny, hxy, hq⟩ := hq
  refine comp_setup hit ok hq X F RR (fun src σ' ⟨m, _, hq⟩ => loopC_some hq) fun ρ1 σ1 h1 src I D Cc h4 tk4 m t1 X1 ⟨n, hn, hq⟩ x4 i4 => ?_
  exact comp_loop2 hi2 he ok hx hy hloc hxy hny hset RR (fun ρ' σ' h' tk' acc vs m L hQ => fin ρ1 h1 D Cc ρ' σ' h' tk' acc vs m t1 ⟨σ1, X1⟩ L hQ) n x4 i4 hq (by simp; omega)

/-- the end: its own names let go, its list taken in -/
theorem LE.finish {ρ0 : Rho} {h0 : Heap} {h'' : Heap} {X0 : ∃ σ1, Sim cx ρ σ1 h} (t0 : Stp ρ0 h0 ρ h) (x : LE cx sc env ℓ ρ h D Cc ρ' σ' h' acc vs m) (hs : Heap.SameBut Cc h' h'') :
    Sim cx (ρ' ++ [(D, D)]) (σ' ++ [.lst acc]) h'' ∧ Stp ρ0 h0 (ρ' ++ [(D, D)]) h'' ∧ VR h'' (ρ' ++ [(D, D)]) (.ref σ'.length) (.ref D) := by
  have hk : ∀ b o, b ≠ Cc → h'.get? b = some o → h''.get? b = some o := fun b o hb e => (hs.2 b hb).trans e
  obtain ⟨oD, gD⟩ := x.objD
  obtain ⟨σ1, X0⟩ := X0
  refine ⟨(x.sim.chg x.sC hk).adopt (x.sD.keepAt gD (hk _ _ x.DC gD)) (x.lst.at fun o e => hk _ o x.DC e) (x.rel.chg x.sC hk), t0.trans X0 ((x.stp.chg x.nC hk).adopt x.nD), ?_⟩
  dsimp only [VR]
  refine ⟨(D, D), ?_, rfl⟩
  rw [← x.sim.len]; simp

theorem SE_SC {elt iter target : Expr} {ifs : List Expr} {rest : List Comprehension} {scope : Scope} {pos : Pos} {e' : Ex} (ok : compOk sc scope = true) (hset : notSet iter = true)
    (hc : SC prog w cx tb C k sc (.ListComp elt (⟨target, iter, ifs, 0⟩ :: rest) scope pos) iter scope e') : SE prog w cx tb C k sc (.ListComp elt (⟨target, iter, ifs, 0⟩ :: rest) scope pos) e' := by
  intro env ℓ Qm σ ρ s A E hq X F RR
  obtain ⟨ok1, _, ok2⟩ := compOk_parts ok
  rw [eval_ListComp]
  have hfree : ∀ n, (n, NameKind.free) ∈ scope.names → ∃ c, env.cells.lookup n = some c := fun n hn => by
    rcases ok2 _ hn with ⟨a, _⟩ | ⟨_, _, c⟩ | ⟨a, _⟩
    · cases a
    · exact (F.kCell n c).2
    · cases a
  refine wpAny_comprehension_free (use := none) rfl (notSet_folded hset) (closureFor_ok hfree) ok1 (fun y hy hl => ?_) (hc env ℓ Qm σ ρ s A E (fun acc Cc => compPost (model prog w) A E none _ acc Cc) hq X F RR ?_)
  · rcases ok2 y hy with ⟨_, a⟩ | ⟨a, _⟩ | ⟨a, _⟩
    · exact a
    · rw [hl] at a; cases a
    · rw [hl] at a; cases a
  · intro ρ1 h1 D Cc ρ' σ' h' tk' acc vs m t1 X1 L hQ
    refine ⟨m, L.ns, fun h'' hs => ?_⟩
    obtain ⟨a, b, c⟩ := L.finish (X0 := X1) t1 hs
    exact .mk' hQ a b c
end
end Mine

end
section
open PySem PySem.W PySem.Calls PyProof.Rows
set_option Elab.async false
set_option maxRecDepth 100000
namespace Mine

/-- the frame's own places -/
noncomputable def own (env : Env) (b : Addr) : Prop := b = env.locals ∨ ∃ x, env.cells.lookup x = some b

structure StF (env : Env) (ρ : Rho) (h : Heap) (ρ' : Rho) (h' : Heap) : Prop where
  ext : ∃ e, ρ' = ρ ++ e ∧ ∀ p ∈ e, h.get? p.1 = none ∧ h.get? p.2 = none
  keep : ∀ b o, ¬ InR ρ b → ¬ own env b → h.get? b = some o → h'.get? b = some o

noncomputable def FlR (h : Heap) (ρ : Rho) : Fl → Flow → Prop
  | .next, f => f = .next
  | .ret v, f => ∃ x, f = .ret x ∧ VR h ρ v x

noncomputable def PF (cx : Cx) (sc : List (Str × NameKind)) (env : Env) (ρ : Rho) (s : Shared) (Qm : Fl → L → S → Prop) (f : Flow) (s' : Shared) : Prop :=
  ∃ fl ℓ' σ' ρ' h' tk', s' = { s with heap := h', toks := tk' } ∧ Qm fl ℓ' σ' ∧ Sim cx ρ' σ' h' ∧ StF env ρ s.heap ρ' h' ∧ FOK cx sc env ℓ' ρ' h' ∧ FlR h' ρ' fl f

noncomputable def FnEnv (sc : List (Str × NameKind)) (env : Env) : Prop := ∀ x, sc.lookup x = some .cell → env.kindOf x = some .cell

section
variable {prog : Program} {w : World} {cx : Cx} {tb : Tb} {C : Or} {k : Nat} {A : Around} {E : Value → Shared → Prop} {s : Shared} {ρ ρ' ρ₁ ρ₂ : Rho} {σ σ₁ : S} {h h' h₁ h₂ : Heap} {sc : List (Str × NameKind)} {env : Env} {ℓ : L}

theorem Stp.toF (t : Stp ρ h ρ' h') : StF env ρ h ρ' h' := ⟨t.ext, fun b o a _ => t.keep b o a⟩
theorem StF.get (x : StF env ρ h ρ' h') : ∀ (i : Nat) p, ρ[i]? = some p → ρ'[i]? = some p := by
  obtain ⟨e, rfl, _⟩ := x.ext
  intro i p hi
  obtain ⟨hlt, _⟩ := List.getElem?_eq_some_iff.mp hi
  rw [List.getElem?_append_left hlt]; exact hi
theorem StF.off (x : StF env ρ h ρ' h') {b : Addr} {o : Obj} (hb : ¬ InR ρ b) (hg : h.get? b = some o) : ¬ InR ρ' b := by
  obtain ⟨e, rfl, hn⟩ := x.ext
  rintro ⟨p, hp, hq⟩
  rcases List.mem_append.mp hp with hp | hp
  · exact hb ⟨p, hp, hq⟩
  · rcases hq with rfl | rfl
    · rw [(hn p hp).1] at hg; cases hg
    · rw [(hn p hp).2] at hg; cases hg
theorem FOK.ownAt (F : FOK cx sc env ℓ ρ h) {b : Addr} (hb : own env b) : ¬ InR ρ b ∧ cx.h₀.get? b = none ∧ ∃ o, h.get? b = some o ∧ ¬ Firm o := by
  rcases hb with rfl | ⟨x, hx⟩
  · obtain ⟨m, hn, _⟩ := F.ns
    obtain ⟨o, es, ep, g, hd, _⟩ := id hn
    exact ⟨F.offL, F.newL, o, g, firm_dict hd⟩
  · obtain ⟨u, ⟨o, g, hd⟩, _⟩ := F.cell x b hx
    obtain ⟨a, _, c⟩ := F.offC x b hx
    exact ⟨a, c, o, g, firm_cell hd⟩
theorem StF.firm (x : StF env ρ h ρ' h') (X : Sim cx ρ σ h) (F : FOK cx sc env ℓ ρ h) : ∀ b o, Firm o → h.get? b = some o → h'.get? b = some o := by
  intro b o hf hg
  refine x.keep b o (fun hb => ?_) (fun hb => ?_) hg
  · obtain ⟨o', ho', hn⟩ := X.live hb
    rw [hg] at ho'; cases ho'; exact hn hf
  · obtain ⟨_, _, o', ho', hn⟩ := F.ownAt hb
    rw [hg] at ho'; cases ho'; exact hn hf
theorem StF.vr (x : StF env ρ h ρ' h') (X : Sim cx ρ σ h) (F : FOK cx sc env ℓ ρ h) {v : V} {y : Value} (r : VR h ρ v y) : VR h' ρ' v y := r.mono (x.firm X F) x.get
theorem StF.old (x : StF env ρ h ρ' h') (X : Sim cx ρ' σ h') (F : FOK cx sc env ℓ ρ' h') {b : Addr} (hb : h'.get? b = none) : h.get? b = none := by
  cases hq : h.get? b with
  | none => rfl
  | some o =>
    exfalso
    obtain ⟨e, he, hn⟩ := id x.ext
    by_cases hr : InR ρ b
    · have : InR ρ' b := by
        obtain ⟨p, hp, hq⟩ := hr
        exact ⟨p, by rw [he]; exact List.mem_append_left _ hp, hq⟩
      obtain ⟨o', ho', _⟩ := X.live this
      rw [hb] at ho'; cases ho'
    · by_cases ho : own env b
      · obtain ⟨_, _, o', ho', _⟩ := F.ownAt ho
        rw [hb] at ho'; cases ho'
      · rw [x.keep b o hr ho hq] at hb; cases hb
theorem StF.trans (x : StF env ρ h ρ₁ h₁) (X : Sim cx ρ₁ σ₁ h₁) (F : FOK cx sc env ℓ ρ₁ h₁) (y : StF env ρ₁ h₁ ρ₂ h₂) : StF env ρ h ρ₂ h₂ := by
  obtain ⟨e, he, hn⟩ := id x.ext
  obtain ⟨f, hf, hm⟩ := y.ext
  refine ⟨⟨e ++ f, by rw [hf, he, List.append_assoc], fun p hp => ?_⟩, fun b o hb ho hg => y.keep b o (x.off hb hg) ho (x.keep b o hb ho hg)⟩
  rcases List.mem_append.mp hp with hp | hp
  · exact hn p hp
  · exact ⟨x.old X F (hm p hp).1, x.old X F (hm p hp).2⟩

theorem PF.mk' {Qm : Fl → L → S → Prop} {fl : Fl} {ℓ' : L} {σ' : S} {tk' : Nat} {f : Flow} (hq : Qm fl ℓ' σ') (X : Sim cx ρ' σ' h') (t : StF env ρ s.heap ρ' h') (F : FOK cx sc env ℓ' ρ' h') (r : FlR h' ρ' fl f) :
    PF cx sc env ρ s Qm f { s with heap := h', toks := tk' } := ⟨fl, ℓ', σ', ρ', h', tk', rfl, hq, X, t, F, r⟩
@[elab_as_elim] theorem PF.elim {Qm : Fl → L → S → Prop} {f : Flow} {s' : Shared} {G : Shared → Prop} (x : PF cx sc env ρ s Qm f s')
    (k : ∀ (fl : Fl) (ℓ' : L) (σ' : S) (ρ' : Rho) (h' : Heap) (tk' : Nat), Qm fl ℓ' σ' → Sim cx ρ' σ' h' → StF env ρ s.heap ρ' h' → FOK cx sc env ℓ' ρ' h' → FlR h' ρ' fl f → G { s with heap := h', toks := tk' }) : G s' := by
  obtain ⟨fl, ℓ', σ', ρ', h', tk', rfl, hq, X', t', F', r⟩ := x
  exact k fl ℓ' σ' ρ' h' tk' hq X' t' F' r
theorem PF.trans {Qm : Fl → L → S → Prop} {f : Flow} {s' : Shared} {tk₁ : Nat} (t : StF env ρ s.heap ρ₁ h₁) (X : Sim cx ρ₁ σ₁ h₁) (F : FOK cx sc env ℓ ρ₁ h₁) (x : PF cx sc env ρ₁ { s with heap := h₁, toks := tk₁ } Qm f s') : PF cx sc env ρ s Qm f s' := by
  obtain ⟨fl, ℓ', σ', ρ', h', tk', rfl, hq, X', t', F', r⟩ := x
  exact ⟨fl, ℓ', σ', ρ', h', tk', rfl, hq, X', t.trans X F t', F', r⟩

/-- only what the names hold counts -/
theorem FOK.congr {ℓ' : L} (F : FOK cx sc env ℓ ρ h) (he : ∀ x v, ℓ'.lookup x = some v → ℓ.lookup x = some v) : FOK cx sc env ℓ' ρ h := by
  obtain ⟨m, hn, hv⟩ := F.ns
  refine ⟨F.kind, F.glb, F.blt, F.kLocal, F.kCell, F.kGlob, ⟨m, hn, fun x v e0 e1 e2 => hv x v e0 (he x v e1) e2⟩, fun x c e => ?_, F.offL, F.offC, F.one, F.newL⟩
  obtain ⟨u, hc, hu⟩ := F.cell x c e
  exact ⟨u, hc, fun v e1 e2 => hu v (he x v e1) e2⟩

noncomputable def stOK (sc : List (Str × NameKind)) (x : Str) : Bool := isVar (sc.lookup x) && sc.lookup x != some .free

theorem store_ok {M : Model} {x : Str} {v : V} {y : Value} {Q : Unit → Shared → Prop} (F : FOK cx sc env ℓ ρ s.heap) (N : FnEnv sc env) (X : Sim cx ρ σ s.heap) (hx : stOK sc x = true) (r : VR s.heap ρ v y)
    (hq : ∀ h' tk', Sim cx ρ σ h' → StF env ρ s.heap ρ h' → FOK cx sc env (upd x v ℓ) ρ h' → (∀ b o, ¬ own env b → s.heap.get? b = some o → h'.get? b = some o) → (∀ u z, VR s.heap ρ u z → VR h' ρ u z) → Q () { s with heap := h', toks := tk' }) :
    wpAny M A (storeName env x y) Q E s := by
  unfold stOK at hx
  simp only [Bool.and_eq_true, bne_iff_ne, ne_eq] at hx
  obtain ⟨m, hn, hv⟩ := F.ns
  have all : ∀ h' (b0 : Addr), own env b0 → (∀ b o, b ≠ b0 → s.heap.get? b = some o → h'.get? b = some o) →
      Sim cx ρ σ h' ∧ StF env ρ s.heap ρ h' ∧ (∀ b o, ¬ own env b → s.heap.get? b = some o → h'.get? b = some o) ∧ ∀ u z, VR s.heap ρ u z → VR h' ρ u z := fun h' b0 ho hk => by
    obtain ⟨a, b, o0, g0, hf⟩ := F.ownAt ho
    have d : Side cx ρ s.heap b0 := ⟨a, b, fun o e => by rw [g0] at e; cases e; exact hf⟩
    have hk' : ∀ b o, ¬ own env b → s.heap.get? b = some o → h'.get? b = some o := fun b o hb => hk b o (fun e => hb (e ▸ ho))
    exact ⟨X.chg d hk, ⟨⟨[], by simp, by simp⟩, fun b o _ hb => hk' b o hb⟩, hk', fun u z q => q.chg d hk⟩
  cases hs : sc.lookup x with
  | none => rw [hs] at hx; exact absurd hx.1 Bool.false_ne_true
  | some kd =>
    rw [hs] at hx
    cases kd with
    | «local» =>
      have hl := F.kLocal x hs
      refine wpAny_storeName_local hl hn (fun h' hn' hs' => ?_) (by rw [F.kind]; rfl)
      obtain ⟨a, b, c, d⟩ := all h' env.locals (.inl rfl) fun b o hb e => (hs'.2 b hb).trans e
      refine hq h' _ a b ⟨F.kind, F.glb, F.blt, F.kLocal, F.kCell, F.kGlob, ⟨_, hn', fun z u e0 e1 e2 => ?_⟩, fun z cc e => ?_, F.offL, F.offC, F.one, F.newL⟩ c d
      · rw [upd_lookup] at e1
        by_cases hz : z = x
        · rw [if_pos hz] at e1; cases e1
          exact ⟨y, if_pos hz, d _ _ r⟩
        · rw [if_neg hz] at e1
          obtain ⟨q, q1, q2⟩ := hv z u e0 e1 e2
          exact ⟨q, by rw [if_neg hz]; exact q1, d _ _ q2⟩
      · obtain ⟨u, hc, hu⟩ := F.cell z cc e
        refine ⟨u, hc.sameBut hs' (F.offC z cc e).2.1, fun u' e1 e2 => ?_⟩
        rw [upd_lookup, if_neg (fun ez => by rw [ez, hl] at e2; rcases e2 with e2 | e2 <;> cases e2)] at e1
        obtain ⟨q, q1, q2⟩ := hu u' e1 e2
        exact ⟨q, q1, d _ _ q2⟩
    | cell =>
      have hl := N x hs
      obtain ⟨_, cc, hc⟩ := F.kCell x (.inl hs)
      obtain ⟨u0, hcell, hu0⟩ := F.cell x cc hc
      refine wpAny_storeName_cell F.kind hl hc hcell fun h' hc' hs' => ?_
      obtain ⟨a, b, c, d⟩ := all h' cc (.inr ⟨x, hc⟩) fun b o hb e => (hs'.2 b hb).trans e
      refine hq h' s.toks a b ⟨F.kind, F.glb, F.blt, F.kLocal, F.kCell, F.kGlob, ⟨_, hn.sameBut hs' (Ne.symm (F.offC x cc hc).2.1), fun z u e0 e1 e2 => ?_⟩, fun z c2 e => ?_, F.offL, F.offC, F.one, F.newL⟩ c d
      · rw [upd_lookup, if_neg (fun ez => by rw [ez, hl] at e2; cases e2)] at e1
        obtain ⟨q, q1, q2⟩ := hv z u e0 e1 e2
        exact ⟨q, q1, d _ _ q2⟩
      · by_cases hz : c2 = cc
        · subst hz
          have := F.one z x c2 e hc
          subst this
          refine ⟨_, hc', fun u' e1 e2 => ?_⟩
          rw [upd_lookup, if_pos rfl] at e1; cases e1
          exact ⟨y, rfl, d _ _ r⟩
        · obtain ⟨u, hcu, hu⟩ := F.cell z c2 e
          refine ⟨u, hcu.sameBut hs' hz, fun u' e1 e2 => ?_⟩
          rw [upd_lookup, if_neg (fun ez => by rw [ez, hc] at e; exact hz (Option.some.inj e).symm)] at e1
          obtain ⟨q, q1, q2⟩ := hu u' e1 e2
          exact ⟨q, q1, d _ _ q2⟩
    | free => exact absurd rfl hx.2
    | _ => exact absurd hx.1 Bool.false_ne_true
end

section
variable (prog : Program) (w : World) (cx : Cx) (tb : Tb) (C : Or) (k : Nat)
noncomputable def SS (sc : List (Str × NameKind)) (st : Stmt) (st' : St) : Prop := ∀ env ℓ Qm σ ρ s A E, ex C tb st' ℓ Qm σ → Sim cx ρ σ s.heap → FOK cx sc env ℓ ρ s.heap → FnEnv sc env → Room A k →
  wpAny (model prog w) A (exec st env) (PF cx sc env ρ s Qm) E s
noncomputable def SB (sc : List (Str × NameKind)) (st : List Stmt) (st' : List St) : Prop := ∀ env ℓ Qm σ ρ s A E, exs C tb st' ℓ Qm σ → Sim cx ρ σ s.heap → FOK cx sc env ℓ ρ s.heap → FnEnv sc env → Room A k →
  wpAny (model prog w) A (execs st env) (PF cx sc env ρ s Qm) E s
end

section
variable {prog : Program} {w : World} {cx : Cx} {tb : Tb} {C : Or} {k : Nat} {sc : List (Str × NameKind)}

theorem SB_nil : SB prog w cx tb C k sc [] [] := by
  intro env ℓ Qm σ ρ s A E hq X F N R
  dsimp only [exs] at hq
  exact wpAny_execs_nil (PF.mk' (s := s) (h' := s.heap) (tk' := s.toks) hq X Stp.refl.toF F rfl)
theorem SB_cons {st : Stmt} {r : List Stmt} {st' : St} {r' : List St} (h1 : SS prog w cx tb C k sc st st') (h2 : SB prog w cx tb C k sc r r') : SB prog w cx tb C k sc (st :: r) (st' :: r') := by
  intro env ℓ Qm σ ρ s A E hq X F N R
  dsimp only [exs] at hq
  refine wpAny_execs_cons (wpAny_mono (h1 env ℓ _ σ ρ s A E hq X F N R) (fun f s1 hp => ?_) fun _ _ e => e)
  refine hp.elim fun fl ℓ1 σ1 ρ1 h1 tk1 hq X1 t1 F1 r1 => ?_
  cases fl with
  | next =>
    dsimp only [FlR] at r1
    subst r1
    exact wpAny_mono (h2 env ℓ1 _ σ1 ρ1 _ A E hq X1 F1 N R) (fun f s2 hp => .trans t1 X1 F1 hp) fun _ _ e => e
  | ret v =>
    obtain ⟨x, rfl, rv⟩ := r1
    exact PF.mk' hq X1 t1 F1 ⟨x, rfl, rv⟩
theorem SS_stuck {st : Stmt} : SS prog w cx tb C k sc st .stuck := by
  intro env ℓ Qm σ ρ s A E hq
  dsimp only [ex] at hq
theorem SS_pass {pos : Pos} : SS prog w cx tb C k sc (.Pass pos) .pass := by
  intro env ℓ Qm σ ρ s A E hq X F N R
  dsimp only [ex] at hq
  exact wpAny_Pass (PF.mk' (s := s) (h' := s.heap) (tk' := s.toks) hq X Stp.refl.toF F rfl)
theorem SS_ret {e : Expr} {e' : Ex} {pos : Pos} (he : SE prog w cx tb C k sc e e') : SS prog w cx tb C k sc (.Return (some e) pos) (.ret e') := by
  intro env ℓ Qm σ ρ s A E hq X F N R
  dsimp only [ex] at hq
  refine wpAny_Return_some (wpAny_mono (he env ℓ _ σ ρ s A E hq X F R) (fun v s1 hp => ?_) fun _ _ e => e)
  refine hp.elim fun x σ1 ρ1 h1 tk1 hq X1 t1 r1 => ?_
  exact PF.mk' hq X1 t1.toF (F.step X t1) ⟨v, rfl, r1⟩
theorem SS_retNone {pos : Pos} : SS prog w cx tb C k sc (.Return none pos) (.ret (.lit .none)) := by
  intro env ℓ Qm σ ρ s A E hq X F N R
  dsimp only [ex, ev] at hq
  exact wpAny_Return_none (PF.mk' (s := s) (h' := s.heap) (tk' := s.toks) hq X Stp.refl.toF F ⟨_, rfl, by simp [VR]⟩)
theorem SS_expr {e : Expr} {e' : Ex} {pos : Pos} (hc : isCall e = true) (he : SE prog w cx tb C k sc e e') : SS prog w cx tb C k sc (.Expr e pos) (.expr e') := by
  intro env ℓ Qm σ ρ s A E hq X F N R
  dsimp only [ex] at hq
  refine wpAny_Expr_any (wpAny_mono (he env ℓ _ σ ρ s A E hq X F R) (fun v s1 hp => ?_) fun _ _ e => e) ?_ ?_
  · refine hp.elim fun x σ1 ρ1 h1 tk1 hq X1 t1 r1 => ?_
    exact PF.mk' hq X1 t1.toF (F.step X t1) rfl
  · unfold interactive; rw [F.kind]; rfl
  · cases e <;> first | rfl | cases hc
theorem SS_ite {c : Expr} {c' : Ex} {a b : List Stmt} {a' b' : List St} {pos : Pos} (hc : ST prog w cx tb C k sc c c') (ha : SB prog w cx tb C k sc a a') (hb : SB prog w cx tb C k sc b b') : SS prog w cx tb C k sc (.If c a b pos) (.ite c' a' b') := by
  intro env ℓ Qm σ ρ s A E hq X F N R
  dsimp only [ex] at hq
  refine wpAny_If (wpAny_mono (hc env ℓ _ σ ρ s A E hq X F R) (fun t s1 hp => ?_) fun _ _ e => e)
  refine hp.elim fun x σ1 ρ1 h1 tk1 hq X1 t1 r1 => ?_
  dsimp only [BEq] at r1
  subst r1
  have F1 := F.step X t1
  cases t
  · rw [if_neg (by simp)]
    exact wpAny_mono (hb env ℓ _ σ1 ρ1 _ A E hq X1 F1 N R) (fun f s2 hp => .trans t1.toF X1 F1 hp) fun _ _ e => e
  · rw [if_pos rfl]
    exact wpAny_mono (ha env ℓ _ σ1 ρ1 _ A E hq X1 F1 N R) (fun f s2 hp => .trans t1.toF X1 F1 hp) fun _ _ e => e
theorem swaps_attr {e o : Expr} {m : Str} {p : Pos} {n : Nat} {env : Env} : swapsWith e (some (.Attribute o m p)) n env = pure false := by cases e <;> rfl
theorem swaps_sub {e o i : Expr} {p : Pos} {n : Nat} {env : Env} : swapsWith e (some (.Subscript o i p)) n env = pure false := by cases e <;> rfl
theorem swaps_tup {e : Expr} {es : List Expr} {kk : _} {p : Pos} {n : Nat} {env : Env} : swapsWithSole [.Tuple es kk p] e n env = pure false := by cases e <;> rfl
theorem SS_setattr {o e : Expr} {o' e' : Ex} {m : Str} {p pos : Pos} (H : TbOK cx.K tb) (he : SE prog w cx tb C k sc e e') (ho : SE prog w cx tb C k sc o o') : SS prog w cx tb C k sc (.Assign [.Attribute o m p] e pos) (.setattr o' m e') := by
  intro env ℓ Qm σ ρ s A E hq X F N R
  dsimp only [ex] at hq
  refine plainObj_wpAny_Assign_Attribute (wpAny_mono (he env ℓ _ σ ρ s A E hq X F R) (fun v s1 hp => ?_) fun _ _ e => e) swaps_attr
  refine hp.elim fun x σ1 ρ1 h1 tk1 hq X1 t1 r1 => ?_
  refine wpAny_mono (ho env ℓ _ σ1 ρ1 _ A E hq X1 (F.step X t1) R) (fun vo s2 hp => ?_) fun _ _ e => e
  refine hp.elim fun y σ2 ρ2 h2 tk2 hq X2 t2 r2 => ?_
  have t12 := t1.trans X1 t2
  refine wpAny_mono (setattrW_ok (s := { s with heap := h2, toks := tk2 }) H hq X2 r2 (t2.vr X1 r1)) (fun _ s3 hp => ?_) fun _ _ e => e
  refine hp.elim fun z σ3 ρ3 h3 tk3 hq X3 t3 r3 => ?_
  have t13 := t12.trans X2 t3
  exact PF.mk' hq X3 t13.toF (F.step X t13) rfl
theorem SS_setitem {o i e : Expr} {o' i' e' : Ex} {p pos : Pos} (he : SE prog w cx tb C k sc e e') (ho : SE prog w cx tb C k sc o o') (hi : SE prog w cx tb C k sc i i') : SS prog w cx tb C k sc (.Assign [.Subscript o i p] e pos) (.setitem o' i' e') := by
  intro env ℓ Qm σ ρ s A E hq X F N R
  dsimp only [ex] at hq
  refine wpAny_Assign_Subscript (wpAny_mono (he env ℓ _ σ ρ s A E hq X F R) (fun v s1 hp => ?_) fun _ _ e => e) swaps_sub
  refine hp.elim fun x σ1 ρ1 h1 tk1 hq X1 t1 r1 => ?_
  refine wpAny_mono (ho env ℓ _ σ1 ρ1 _ A E hq X1 (F.step X t1) R) (fun vo s2 hp => ?_) fun _ _ e => e
  refine hp.elim fun y σ2 ρ2 h2 tk2 hq X2 t2 r2 => ?_
  have t12 := t1.trans X1 t2
  refine wpAny_mono (hi env ℓ _ σ2 ρ2 _ A E hq X2 (F.step X t12) R) (fun vi s3 hp => ?_) fun _ _ e => e
  refine hp.elim fun z σ3 ρ3 h3 tk3 hq X3 t3 r3 => ?_
  have t13 := t12.trans X2 t3
  refine wpAny_mono (setitemW_ok (s := { s with heap := h3, toks := tk3 }) hq X3 (t3.vr X2 r2) r3 (t3.vr X2 (t2.vr X1 r1))) (fun _ s4 hp => ?_) fun _ _ e => e
  refine hp.elim fun z σ4 ρ4 h4 tk4 hq X4 t4 r4 => ?_
  have t14 := t13.trans X3 t4
  exact PF.mk' hq X4 t14.toF (F.step X t14) rfl
/-- the state at a turn's begin -/
inductive WI (cx : Cx) (sc : List (Str × NameKind)) (env : Env) (ρ : Rho) (s : Shared) (h : Heap) (P : L → S → Prop) (J : Rho → Heap → Prop) (s' : Shared) : Prop
  | mk (ℓ1 : L) (σ1 : S) (ρ1 : Rho) (h1 : Heap) (tk1 : Nat) (e : s' = { s with heap := h1, toks := tk1 }) (X1 : Sim cx ρ1 σ1 h1) (t1 : StF env ρ h ρ1 h1) (F1 : FOK cx sc env ℓ1 ρ1 h1) (j : J ρ1 h1) (p : P ℓ1 σ1)
@[elab_as_elim] theorem WI.elim {P : L → S → Prop} {J : Rho → Heap → Prop} {s' : Shared} {G : Shared → Prop} (x : WI cx sc env ρ s h P J s')
    (k : ∀ (ℓ1 : L) (σ1 : S) (ρ1 : Rho) (h1 : Heap) (tk1 : Nat), Sim cx ρ1 σ1 h1 → StF env ρ h ρ1 h1 → FOK cx sc env ℓ1 ρ1 h1 → J ρ1 h1 → P ℓ1 σ1 → G { s with heap := h1, toks := tk1 }) : G s' := by
  obtain ⟨ℓ1, σ1, ρ1, h1, tk1, rfl, X1, t1, F1, j, p⟩ := x
  exact k ℓ1 σ1 ρ1 h1 tk1 X1 t1 F1 j p
theorem FlR.next_eq {fl : Flow} (r : FlR h ρ .next fl) : fl = .next := r
theorem SS_while {c : Expr} {c' : Ex} {b : List Stmt} {b' : List St} {pos : Pos} (hc : ST prog w cx tb C k sc c c') (hb : SB prog w cx tb C k sc b b') : SS prog w cx tb C k sc (.While c b [] pos) (.while c' b') := by
  intro env ℓ Qm σ ρ s A E hq X F N R
  have hq : ∃ n, loopW (fun ℓ' K σ' => tru C tb c' ℓ' K σ') (fun ℓ' K σ' => exs C tb b' ℓ' K σ') n ℓ Qm σ := hq
  refine hq.elim fun n hq => ?_
  refine wpAny_While (codeAny_whileLoop (fun n s' => WI cx sc env ρ s s.heap (fun ℓ1 σ1 => loopW (fun ℓ' K σ' => tru C tb c' ℓ' K σ') (fun ℓ' K σ' => exs C tb b' ℓ' K σ') n ℓ1 Qm σ1) (fun _ _ => True) s') ?_ n ⟨ℓ, σ, ρ, s.heap, s.toks, rfl, X, Stp.refl.toF, F, trivial, hq⟩)
  intro n s' wi
  refine wi.elim fun ℓ1 σ1 ρ1 h1 tk1 X1 t1 F1 _ hq => ?_
  cases n with
  | zero => exact hq.elim
  | succ n =>
    dsimp only [loopW] at hq
    refine wpAny_mono (hc env ℓ1 _ σ1 ρ1 { s with heap := h1, toks := tk1 } A _ hq X1 F1 R) (fun t s2 hp => ?_) fun _ _ e => e
    refine hp.elim fun x σ2 ρ2 h2 tk2 hq X2 t2 r2 => ?_
    cases (show t = x from r2)
    have F2 := F1.step X1 t2
    have t12 := t1.trans X1 F1 (t2.toF (env := env))
    cases t
    · rw [if_neg (by simp)]
      exact wpAny_execs_nil (PF.mk' hq X2 t12 F2 rfl)
    · rw [if_pos rfl]
      refine wpAny_mono (hb env ℓ1 _ σ2 ρ2 { s with heap := h2, toks := tk2 } A _ hq X2 F2 N R) (fun f s3 hp => ?_) fun _ _ e => e
      refine hp.elim fun fl ℓ3 σ3 ρ3 h3 tk3 hq X3 t3 F3 r3 => ?_
      have t13 := t12.trans X2 F2 t3
      cases fl with
      | next =>
        cases r3.next_eq
        exact ⟨n, Nat.lt_succ_self n, ℓ3, σ3, ρ3, h3, tk3, rfl, X3, t13, F3, trivial, hq⟩
      | ret v =>
        obtain ⟨x, rfl, rv⟩ := r3
        exact PF.mk' hq X3 t13 F3 ⟨x, rfl, rv⟩
end
end Mine

end
section
open PySem PySem.W PySem.Calls PyProof.Rows
set_option Elab.async false
set_option maxRecDepth 100000
namespace Mine

section
variable {prog : Program} {w : World} {cx : Cx} {tb : Tb} {C : Or} {k : Nat} {A : Around} {E : Value → Shared → Prop} {s : Shared} {ρ ρ' ρ₁ ρ₂ : Rho} {σ σ₁ : S} {h h' h₁ h₂ : Heap} {sc : List (Str × NameKind)} {env : Env} {ℓ : L}
variable {src : V} {I : Addr} {j : Nat}

theorem Side.stepF {b : Addr} {o : Obj} (d : Side cx ρ h b) (hg : h.get? b = some o) (ho : ¬ own env b) (t : StF env ρ h ρ' h') : Side cx ρ' h' b :=
  ⟨t.off d.off hg, d.new, fun o' ho' => by rw [t.keep b o d.off ho hg] at ho'; cases ho'; exact d.soft o hg⟩

theorem loopF_elim {body : V → L → (Fl → L → S → Prop) → S → Prop} {n : Nat} {Q : Fl → L → S → Prop} {G : Prop} (hq : loopF body src n j ℓ Q σ)
    (h0 : itemAt σ src j = some none → Q .next ℓ σ → G)
    (h1 : ∀ n' v, n = n' + 1 → itemAt σ src j = some (some v) → body v ℓ (fun f ℓ' σ' => match f with
      | .next => loopF body src n' (j + 1) ℓ' Q σ'
      | .ret u => Q (.ret u) ℓ' σ') σ → G) : G := by
  cases n with
  | zero => exact hq.elim
  | succ n =>
    dsimp only [loopF] at hq
    cases e : itemAt σ src j with
    | none => rw [e] at hq; exact hq.elim
    | some o =>
      rw [e] at hq
      cases o with
      | none => exact h0 e hq
      | some v => exact h1 n v rfl e hq
theorem loopF_some {body : V → L → (Fl → L → S → Prop) → S → Prop} {n : Nat} {Q : Fl → L → S → Prop} (hq : loopF body src n j ℓ Q σ) : ∃ oo, itemAt σ src j = some oo :=
  loopF_elim hq (fun h _ => ⟨_, h⟩) fun _ _ _ h _ => ⟨_, h⟩
/-- a turn's iterator stepped -/
structure FC (cx : Cx) (sc : List (Str × NameKind)) (env : Env) (ℓ : L) (ρ : Rho) (h : Heap) (ρ' : Rho) (σ' : S) (h' : Heap) : Prop where
  X : Sim cx ρ' σ' h'
  t : StF env ρ h ρ' h'
  F : FOK cx sc env ℓ ρ' h'
theorem FC.of (X : Sim cx ρ' σ h') (t : StF env ρ h ρ' h') (F : FOK cx sc env ℓ ρ' h') (d : Side cx ρ' h' I) (n : h.get? I = none) (nown : ¬ own env I) {h'' : Heap} (hk : ∀ b o, b ≠ I → h'.get? b = some o → h''.get? b = some o) : FC cx sc env ℓ ρ h ρ' σ h'' :=
  ⟨X.chg d hk, ⟨t.ext, fun b o hb ho hg => hk b o (fun e => by subst e; rw [n] at hg; cases hg) (t.keep b o hb ho hg)⟩,
      F.chg d (fun e => nown (.inl e.symm)) (fun z c e hc => nown (.inr ⟨z, hc ▸ e⟩)) hk⟩

theorem SS_for {x : Str} {px pos : Pos} {it : Expr} {b : List Stmt} {it' : Ex} {b' : List St} (hx : stOK sc x = true) (hset : notSet it = true) (hit : SE prog w cx tb C k sc it it') (hb : SB prog w cx tb C k sc b b') :
    SS prog w cx tb C k sc (.For (.Name x px) it b [] pos) (.for x it' b') := by
  intro env ℓ Qm σ ρ s A E hq X F N R
  have hq : ev C tb it' ℓ (fun src σ' => ∃ m, loopF (fun v ℓ' K σ1 => exs C tb b' (upd x v ℓ') K σ1) src m 0 ℓ Qm σ') σ := hq
  refine wpAny_For (wpAny_mono (hit env ℓ _ σ ρ s A E hq X F R) (fun xv s1 hp => ?_) fun _ _ e => e) (notSet_folded hset)
  refine hp.elim fun src σ1 ρ1 h1 tk1 hq X1 t1 r1 => hq.elim fun n hq => ?_
  have F1 := F.step X t1
  refine (loopF_some hq).elim fun oo hi => ?_
  refine iter_ok (s := { s with heap := h1, toks := tk1 }) X1 r1 hi fun I h2 tk2 hk2 n2 it2 => ?_
  have hk2 : ∀ b o, h1.get? b = some o → h2.get? b = some o := hk2
  have nown : ¬ own env I := by
    have lI := F1.live n2
    rintro (e | ⟨z, e⟩)
    · exact lI.1 e.symm
    · exact lI.2 z I e rfl
  have d2 : Side cx ρ1 h2 I := by
    obtain ⟨oI, gI, sI⟩ := it2.obj
    exact Side.fresh X1 n2 gI sI
  refine codeAny_forLoop_any (fun n s' => ∃ j, WI cx sc env ρ1 s h1 (fun ℓ' σ' => loopF (fun v ℓ' K σ1 => exs C tb b' (upd x v ℓ') K σ1) src n j ℓ' Qm σ') (fun ρ' h' => IterAt h' ρ' src I j ∧ Side cx ρ' h' I) s') ?_ n ⟨0, ℓ, σ1, ρ1, h2, tk2, rfl, X1.keeps hk2, (Stp.of_keeps hk2).toF, F1.keeps hk2, ⟨it2, d2⟩, hq⟩
  clear hq hi d2 it2 hk2 r1
  intro n s' wi
  refine wi.elim fun j wi => wi.elim fun ℓ3 σ3 ρ3 h3 tk3 X3 t3 F3 p hq => ?_
  have it3 := p.1
  have d3 := p.2
  refine loopF_elim hq (fun hi hq => ?_) fun n' v en hi hq => ?_
  · refine next_none (s := { s with heap := h3, toks := tk3 }) (R.le (Nat.zero_le _)) X3 it3 hi fun h4 tk4 hk => ?_
    have c4 : FC cx sc env ℓ3 ρ1 h1 ρ3 σ3 h4 := .of X3 t3 F3 d3 n2 nown hk
    exact wpAny_execs_nil (PF.mk' hq c4.X (t1.toF.trans X1 F1 c4.t) c4.F rfl)
  · have hlt : n' < n := by omega
    refine next_some (s := { s with heap := h3, toks := tk3 }) X3 d3 it3 hi fun y h4 tk4 hk ry it4 => ?_
    have c4 : FC cx sc env ℓ3 ρ1 h1 ρ3 σ3 h4 := .of X3 t3 F3 d3 n2 nown hk
    have d4 : Side cx ρ3 h4 I := by
      obtain ⟨oJ, gJ, sJ⟩ := it4.obj
      exact ⟨d3.off, d3.new, fun o e => by rw [gJ] at e; cases e; exact sJ⟩
    refine wpAny_of_eq rfl (wpAny_assign_Name (store_ok (s := { s with heap := h4, toks := tk4 }) c4.F N c4.X hx ry fun h5 tk5 X5 t5 F5 hk5 hv5 => ?_))
    have hk5 : ∀ b o, ¬ own env b → h4.get? b = some o → h5.get? b = some o := hk5
    have t15 := c4.t.trans c4.X c4.F t5
    have it5 : IterAt h5 ρ3 src I (j + 1) := it4.mono (t5.firm c4.X c4.F) t5.get fun o e => hk5 I o nown e
    have d5 : Side cx ρ3 h5 I := by
      obtain ⟨oJ, gJ, sJ⟩ := it4.obj
      exact d4.keepAt gJ (hk5 _ _ nown gJ)
    refine wpAny_mono (hb env _ _ σ3 ρ3 { s with heap := h5, toks := tk5 } A _ hq X5 F5 N R) (fun f s6 hp => ?_) fun _ _ e => e
    refine hp.elim fun fl ℓ6 σ6 ρ6 h6 tk6 hq X6 t6 F6 r6 => ?_
    have t16 := t15.trans X5 F5 t6
    cases fl with
    | next =>
      cases r6.next_eq
      have d6 : Side cx ρ6 h6 I := by
        obtain ⟨oK, gK, _⟩ := it5.obj
        exact d5.stepF gK nown t6
      exact ⟨n', hlt, j + 1, ℓ6, σ6, ρ6, h6, tk6, rfl, X6, t16, F6, ⟨it5.mono (t6.firm X5 F5) t6.get (fun o e => t6.keep I o d5.off nown e), d6⟩, hq⟩
    | ret v =>
      obtain ⟨x, rfl, rv⟩ := r6
      exact PF.mk' hq X6 (t1.toF.trans X1 F1 t16) F6 ⟨x, rfl, rv⟩

theorem SS_assign0 {x : Str} {px pos : Pos} {e : Expr} {e' : Ex} (hx : stOK sc x = true) (he : SE prog w cx tb C k sc e e') {env : Env} (hsw : swapsWith e (some (.Name x px)) pos.line env = pure false) :
    ∀ ℓ Qm σ ρ s A E, ex C tb (.assign x e') ℓ Qm σ → Sim cx ρ σ s.heap → FOK cx sc env ℓ ρ s.heap → FnEnv sc env → Room A k → wpAny (model prog w) A (exec (.Assign [.Name x px] e pos) env) (PF cx sc env ρ s Qm) E s := by
  intro ℓ Qm σ ρ s A E hq X F N R
  dsimp only [ex] at hq
  refine wpAny_Assign_Name (wpAny_mono (he env ℓ _ σ ρ s A E hq X F R) (fun v s1 hp => ?_) fun _ _ e => e) hsw
  refine hp.elim fun v σ1 ρ1 h1 tk1 hq X1 t1 r1 => ?_
  have F1 := F.step X t1
  refine store_ok (s := { s with heap := h1, toks := tk1 }) F1 N X1 hx r1 fun h2 tk2 X2 t2 F2 _ _ => ?_
  exact PF.mk' hq X2 (t1.toF.trans X1 F1 t2) F2 rfl

noncomputable def isComp : Expr → Bool
  | .ListComp .. => true
  | .SetComp .. => true
  | .DictComp .. => true
  | _ => false
theorem SS_assign {x : Str} {px pos : Pos} {e : Expr} {e' : Ex} (hx : stOK sc x = true) (hc : isComp e = false) (he : SE prog w cx tb C k sc e e') : SS prog w cx tb C k sc (.Assign [.Name x px] e pos) (.assign x e') := by
  intro env
  exact SS_assign0 hx he (by cases e <;> first | rfl | cases hc)

theorem FOK.adopt {D : Addr} (F : FOK cx sc env ℓ ρ h) (d1 : env.locals ≠ D) (d2 : ∀ z c, env.cells.lookup z = some c → c ≠ D) : FOK cx sc env ℓ (ρ ++ [(D, D)]) h := by
  have hr : ∀ (i : Nat) q, ρ[i]? = some q → (ρ ++ [(D, D)])[i]? = some q := fun i q e => by
    obtain ⟨hlt, _⟩ := List.getElem?_eq_some_iff.mp e
    rw [List.getElem?_append_left hlt]; exact e
  have off : ∀ b, ¬ InR ρ b → b ≠ D → ¬ InR (ρ ++ [(D, D)]) b := by
    rintro b hb hd ⟨p, hp, hq⟩
    rcases List.mem_append.mp hp with hp | hp
    · exact hb ⟨p, hp, hq⟩
    · rw [List.mem_singleton.mp hp] at hq
      rcases hq with e | e <;> exact hd e
  obtain ⟨m, hn, hv⟩ := F.ns
  refine ⟨F.kind, F.glb, F.blt, F.kLocal, F.kCell, F.kGlob, ⟨m, hn, fun x v e0 e1 e2 => ?_⟩, fun x c e => ?_, off _ F.offL d1, fun x c e => ?_, F.one, F.newL⟩
  · obtain ⟨y, q1, q2⟩ := hv x v e0 e1 e2
    exact ⟨y, q1, q2.mono (fun _ _ _ e => e) hr⟩
  · obtain ⟨u, hc, hu⟩ := F.cell x c e
    refine ⟨u, hc, fun v e1 e2 => ?_⟩
    obtain ⟨y, q1, q2⟩ := hu v e1 e2
    exact ⟨y, q1, q2.mono (fun _ _ _ e => e) hr⟩
  · obtain ⟨a, b, c'⟩ := F.offC x c e
    exact ⟨off _ a (d2 x c e), b, c'⟩

theorem SS_assignC {x : Str} {px pos cpos : Pos} {elt iter target : Expr} {ifs : List Expr} {rest : List Comprehension} {scope : Scope} {e' : Ex} (hx : stOK sc x = true) (ok : compOk sc scope = true) (hset : notSet iter = true)
    (hc : SC prog w cx tb C k sc (.ListComp elt (⟨target, iter, ifs, 0⟩ :: rest) scope cpos) iter scope e') :
    SS prog w cx tb C k sc (.Assign [.Name x px] (.ListComp elt (⟨target, iter, ifs, 0⟩ :: rest) scope cpos) pos) (.assign x e') := by
  intro env
  cases hsw : (env.blockKind == .function && env.kindOf x == some .local && px.line == (Expr.ListComp elt (⟨target, iter, ifs, 0⟩ :: rest) scope cpos).pos.line && !(scope.names.any fun (n, k) => n == x && (k == .local || k == .cell))) with
  | false => exact SS_assign0 hx (SE_SC ok hset hc) (by show (pure (_ && _) : Sem Bool) = _; rw [hsw])
  | true =>
    intro ℓ Qm σ ρ s A E hq X F N R
    dsimp only [ex] at hq
    have hsw' : swapsWith (.ListComp elt (⟨target, iter, ifs, 0⟩ :: rest) scope cpos) (some (.Name x px)) pos.line env = pure true := by show (pure (_ && _) : Sem Bool) = _; rw [hsw]
    obtain ⟨ok1, _, ok2⟩ := compOk_parts ok
    have hfree : ∀ n, (n, NameKind.free) ∈ scope.names → ∃ c, env.cells.lookup n = some c := fun n hn => by
      rcases ok2 _ hn with ⟨a, _⟩ | ⟨_, _, c⟩ | ⟨a, _⟩
      · cases a
      · exact (F.kCell n c).2
      · cases a
    rw [exec_Assign_Name_used _ _ _ _ hsw']
    refine wpAny_bind (wpAny_standAt (wpAny_bind ?_))
    show wpAny _ A (do let _ ← comprehension (.ListComp elt (⟨target, iter, ifs, 0⟩ :: rest) scope cpos) scope env _ (newList []) false (eval iter env) (some (assign (.Name x px) env))) _ _ s
    refine wpAny_bind (wpAny_mono (wpAny_comprehension_free (use := some (assign (.Name x px) env)) (Q := fun _ s' => PF cx sc env ρ s Qm .next s') rfl (notSet_folded hset) (closureFor_ok hfree) ok1 (fun y hy hl => ?_)
      (hc env ℓ _ σ ρ s A E (fun acc Cc => compPost (model prog w) A E (some (assign (.Name x px) env)) (fun _ s' => PF cx sc env ρ s Qm .next s') acc Cc) hq X F R ?_)) (fun _ s' hq => wpAny_pure (wpAny_pure hq)) fun _ _ e => e)
    · rcases ok2 y hy with ⟨_, a⟩ | ⟨a, _⟩ | ⟨a, _⟩
      · exact a
      · rw [hl] at a; cases a
      · rw [hl] at a; cases a
    · intro ρ1 h1 D Cc ρ' σ' h' tk' acc vs m t1 ⟨σ1, X1⟩ L hQ
      show wpAny _ A (assign (.Name x px) env (.ref D)) _ _ _
      have T : Stp ρ s.heap (ρ' ++ [(D, D)]) h' := t1.trans X1 (L.stp.adopt L.nD)
      have XA : Sim cx (ρ' ++ [(D, D)]) (σ' ++ [.lst acc]) h' := L.sim.adopt L.sD L.lst L.rel
      have FA : FOK cx sc env ℓ (ρ' ++ [(D, D)]) h' := L.fok.adopt L.eL.1 fun z c e => (L.eC z c e).1
      have rA : VR h' (ρ' ++ [(D, D)]) (.ref σ'.length) (.ref D) := by
        dsimp only [VR]
        refine ⟨(D, D), ?_, rfl⟩
        rw [← L.sim.len]; simp
      have nown : ¬ own env Cc := by
        rintro (e | ⟨z, e⟩)
        · exact L.eL.2 e.symm
        · exact (L.eC z Cc e).2 rfl
      have offC : ¬ InR (ρ' ++ [(D, D)]) Cc := by
        rintro ⟨p, hp, hq⟩
        rcases List.mem_append.mp hp with hp | hp
        · exact L.sC.off ⟨p, hp, hq⟩
        · rw [List.mem_singleton.mp hp] at hq
          rcases hq with e | e <;> exact L.DC e.symm
      refine wpAny_assign_Name (store_ok (s := { s with heap := h', toks := tk' }) FA N XA hx rA fun h2 tk2 X2 t2 F2 hk2 hv2 => ?_)
      have hk2 : ∀ b o, ¬ own env b → h'.get? b = some o → h2.get? b = some o := hk2
      have nsC : h2.Ns Cc m := L.ns.at' fun o e => hk2 Cc o nown e
      refine ⟨m, nsC, fun h3 hs3 => ?_⟩
      have hk3 : ∀ b o, b ≠ Cc → h2.get? b = some o → h3.get? b = some o := fun b o hb e => (hs3.2 b hb).trans e
      have dC : Side cx (ρ' ++ [(D, D)]) h2 Cc := ⟨offC, L.sC.new, firm_ns nsC⟩
      have t02 := T.toF.trans XA FA t2
      have nC : s.heap.get? Cc = none := t1.old X1 L.nC
      refine PF.mk' hQ (X2.chg dC hk3) ⟨t02.ext, fun b o hb ho hg => hk3 b o (fun e => by subst e; rw [nC] at hg; cases hg) (t02.keep b o hb ho hg)⟩
        (F2.chg dC (fun e => nown (.inl e.symm)) (fun z c e hc => nown (.inr ⟨z, hc ▸ e⟩)) hk3) rfl

theorem load_ok {x : Str} {v : V} {Qm : V → S → Prop} (F : FOK cx sc env ℓ ρ s.heap) (X : Sim cx ρ σ s.heap) (hx : stOK sc x = true) (hv : ℓ.lookup x = some v) (hq : Qm v σ)
    (hc : (x == ("__classdict__" : Str)) = false) (h0 : (x == (".0" : Str)) = false) : wpAny (model prog w) A (loadName env x) (Pst cx VR ρ s Qm) E s := by
  have cellCase : sc.lookup x = some .cell ∨ sc.lookup x = some .free → wpAny (model prog w) A (loadName env x) (Pst cx VR ρ s Qm) E s := fun hs => by
    obtain ⟨hkd, c, hcl⟩ := F.kCell x hs
    obtain ⟨u, hcell, hu⟩ := F.cell x c hcl
    obtain ⟨y, rfl, hr⟩ := hu v hv hkd
    rcases hkd with hkd | hkd
    · exact wpAny_loadName_cell F.kind hkd hcl hcell (.here0 X hq hr)
    · exact wpAny_loadName_free F.kind hkd hcl hcell (.here0 X hq hr) hc
  unfold stOK at hx
  simp only [Bool.and_eq_true] at hx
  have hk := hx.1
  cases hs : sc.lookup x with
  | none => rw [hs] at hk; cases hk
  | some k =>
    rw [hs] at hk
    cases k with
    | «local» =>
      have hl := F.kLocal x hs
      obtain ⟨m, hn, hm⟩ := F.ns
      obtain ⟨y, h1, h2⟩ := hm x v (by simpa using h0) hv hl
      exact wpAny_loadName_local F.kind hl hn h1 (.here0 X hq h2)
    | cell => exact cellCase (.inl hs)
    | free => exact cellCase (.inr hs)
    | _ => cases hk

theorem SS_aug {x : Str} {px pos : Pos} {e : Expr} {e' : Ex} {op : Operator} (hx : stOK sc x = true) (hcd : (x == ("__classdict__" : Str)) = false) (h0 : (x == (".0" : Str)) = false) (he : SE prog w cx tb C k sc e e') :
    SS prog w cx tb C k sc (.AugAssign (.Name x px) op e pos) (.aug op x e') := by
  intro env ℓ Qm σ ρ s A E hq X F N R
  dsimp only [ex] at hq
  split at hq
  · rename_i a ha
    obtain ⟨rfl, hq⟩ := hq
    refine wpAny_AugAssign_Name (wpAny_mono (load_ok (Qm := fun v σ' => v = .int a ∧ σ' = σ) F X hx ha ⟨rfl, rfl⟩ hcd h0) (fun old s1 hp => ?_) fun _ _ e => e)
    obtain ⟨v, σ1, ρ1, h1, tk1, rfl, ⟨rfl, rfl⟩, X1, t1, r1⟩ := hp
    have F1 := F.step X t1
    dsimp only [VR] at r1
    obtain ⟨ta, rfl⟩ := r1
    refine wpAny_mono (he env ℓ _ σ1 ρ1 _ A E hq X1 F1 R) (fun vb s2 hp => ?_) fun _ _ e => e
    refine hp.elim fun b σ2 ρ2 h2 tk2 hq X2 t2 r2 => ?_
    have F2 := F1.step X1 t2
    cases b <;> simp only at hq
    rename_i b
    dsimp only [VR] at r2
    obtain ⟨tb', rfl⟩ := r2
    refine PyProof.Rows.iadd_int ?_
    refine store_ok (s := { s with heap := h2, toks := _ }) F2 N X2 hx (v := .int (a + b)) (by first | exact rfl | exact ⟨_, rfl⟩) fun h3 tk3 X3 t3 F3 _ _ => ?_
    exact PF.mk' hq X3 (((t1.trans X1 t2).toF (env := env)).trans X2 F2 t3) F3 rfl
  · exact hq.elim
end
end Mine

end
section
open PySem PySem.W PySem.Calls PyProof.Rows
set_option Elab.async false
set_option maxRecDepth 100000
namespace Mine

theorem foldl_lookup (z : Str) : ∀ (ps : List (Str × V)) (ℓ : L), (ps.foldl (fun ℓ p => upd p.1 p.2 ℓ) ℓ).lookup z = (ps.reverse.lookup z).or (ℓ.lookup z)
  | [], ℓ => by simp
  | p :: r, ℓ => by
    rw [List.foldl_cons, foldl_lookup z r, List.reverse_cons, List.lookup_append, upd_lookup, Option.or_assoc]
    have e : (if z = p.1 then some p.2 else ℓ.lookup z) = (([p] : List (Str × V)).lookup z).or (ℓ.lookup z) := by
      by_cases h : z = p.1
      · have : (z == p.1) = true := by simpa using h
        rw [if_pos h]; simp [List.lookup, this]
      · have : (z == p.1) = false := by simpa using h
        rw [if_neg h]; simp [List.lookup, this]
    rw [e]
theorem lookup_mem {z : Str} {v : V} : ∀ {ps : List (Str × V)}, (ps.map (·.1)).Nodup → (z, v) ∈ ps → ps.lookup z = some v
  | [], _, h => by simp at h
  | p :: r, hn, h => by
    rw [List.map_cons, List.nodup_cons] at hn
    rcases List.mem_cons.mp h with rfl | h
    · simp [List.lookup_cons]
    · have hz : (z == p.1) = false := by
        rw [beq_eq_false_iff_ne]
        intro e; exact hn.1 (by rw [← e]; exact List.mem_map.mpr ⟨_, h, rfl⟩)
      rw [List.lookup_cons, hz]; exact lookup_mem hn.2 h
theorem lookup_reverse {ps : List (Str × V)} (hn : (ps.map (·.1)).Nodup) (z : Str) : ps.reverse.lookup z = ps.lookup z := by
  have hn' : (ps.reverse.map (·.1)).Nodup := by rw [List.map_reverse]; exact List.pairwise_reverse.mpr (List.Pairwise.imp (fun h => Ne.symm h) hn)
  cases h : ps.lookup z with
  | some v => exact lookup_mem hn' (List.mem_reverse.mpr (mem_of_lookup h))
  | none =>
    cases h' : ps.reverse.lookup z with
    | none => rfl
    | some v =>
      have := lookup_mem hn (List.mem_reverse.mp (mem_of_lookup h'))
      rw [h] at this; cases this

section
variable {prog : Program} {w : World} {cx : Cx} {tb : Tb} {C : Or} {k : Nat} {A : Around} {E : Value → Shared → Prop} {s : Shared} {ρ ρ' ρ₁ ρ₂ : Rho} {σ σ₁ : S} {h h' h₁ h₂ : Heap} {sc : List (Str × NameKind)} {env : Env} {ℓ : L}

noncomputable def Storer (env : Env) (f : Value → Sem Unit) (x : Str) : Prop := ∀ (M : Model) A E v Q s, wpAny M A (storeName env x v) Q E s → wpAny M A (f v) Q E s

theorem stores_ok {M : Model} : ∀ {ps : List (Str × V)} {fs : List (Value → Sem Unit)} {ys : List Value} {ℓ : L} {s : Shared} {Q : Unit → Shared → Prop}, Paired (Storer env) fs (ps.map (·.1)) → VRs s.heap ρ (ps.map (·.2)) ys → (∀ p ∈ ps, stOK sc p.1 = true) →
    Sim cx ρ σ s.heap → FOK cx sc env ℓ ρ s.heap → FnEnv sc env →
    (∀ h' tk', Sim cx ρ σ h' → StF env ρ s.heap ρ h' → FOK cx sc env (ps.foldl (fun ℓ p => upd p.1 p.2 ℓ) ℓ) ρ h' → Q () { s with heap := h', toks := tk' }) → wpAny M A (assignInOrder fs ys) Q E s
  | [], fs, ys, ℓ, s, Q, hf, hr, hx, X, F, N, hq => by
    simp only [List.map_nil] at hf hr
    cases hf
    exact wpAny_pure (hq s.heap s.toks X Stp.refl.toF F)
  | p :: ps, fs, ys, ℓ, s, Q, hf, hr, hx, X, F, N, hq => by
    simp only [List.map_cons] at hf hr
    dsimp only [VRs] at hr
    obtain ⟨y, ys', rfl, r1, r2⟩ := hr
    cases hf with
    | cons h1 h2 =>
      show wpAny _ A (holding _ _ >>= _) _ _ _
      refine wpAny_bind (wpAny_holding (h1 _ _ _ _ _ _ (store_ok F N X (hx p List.mem_cons_self) r1 fun h' tk' X' t' F' hk hv => ?_)))
      have hr' : VRs h' ρ (ps.map (·.2)) ys' := r2.mono (t'.firm X F) t'.get
      refine stores_ok (s := { s with heap := h', toks := tk' }) h2 hr' (fun q hq => hx q (List.mem_cons_of_mem _ hq)) X' F' N fun h2 tk2 X2 t2 F2 => ?_
      exact hq h2 tk2 X2 (t'.trans X' F' t2) F2

theorem namesIn_storers : ∀ {ts : List Expr} {xs : List Str}, namesIn ts = some xs → (assignEach ts env).length = xs.length ∧ (assignEach ts env).findIdx? (·.1) = none ∧ Paired (Storer env) ((assignEach ts env).map (·.2)) xs
  | [], xs, h => by cases Option.some.inj h; exact ⟨rfl, rfl, .nil⟩
  | t :: r, xs, h => by
    cases t <;> first | exact no_some' h | skip
    rename_i x px
    obtain ⟨ys, hr, rfl⟩ := Option.map_eq_some_iff.mp h
    obtain ⟨a, b, c⟩ := namesIn_storers hr
    refine ⟨?_, ?_, ?_⟩
    · show (assignEach r env).length + 1 = _; rw [a]; rfl
    · show List.findIdx? _ ((false, assign (.Name x px) env) :: assignEach r env) = none
      rw [List.findIdx?_cons]; simp [b]
    · exact .cons (fun M A E v Q s hw => wpAny_assign_Name hw) c

theorem bind_storers : ∀ xs : List Str, Paired (Storer env) (xs.map fun n => bindName env n) xs
  | [] => .nil
  | x :: r => .cons (fun M A E v Q s hw => wpAny_bindName hw) (bind_storers r)

theorem VRs.snoc {l : List V} {vs : List Value} {v : V} {x : Value} (r : VRs h ρ l vs) (rv : VR h ρ v x) : VRs h ρ (l ++ [v]) (vs ++ [x]) := by
  refine r.append ?_
  dsimp only [VRs]; exact ⟨x, [], rfl, rv, rfl⟩
theorem VRs.reverse : ∀ {l : List V} {vs : List Value}, VRs h ρ l vs → VRs h ρ l.reverse vs.reverse
  | [], _, r => by dsimp only [VRs] at r; subst r; simp [VRs]
  | v :: l, _, r => by
    dsimp only [VRs] at r
    obtain ⟨x, xs, rfl, r1, r2⟩ := r
    rw [List.reverse_cons, List.reverse_cons]
    exact (VRs.reverse r2).snoc r1

theorem filterMap_names (env : Env) (line : Nat) : ∀ {ts : List Expr} {xs : List Str}, namesIn ts = some xs →
    (ts.filterMap fun | .Name id pos => if env.kindOf id == some .local && pos.line == line then some id else none | _ => none).length ≤ ts.length ∧
    ((ts.filterMap fun | .Name id pos => if env.kindOf id == some .local && pos.line == line then some id else none | _ => none).length = ts.length →
      (ts.filterMap fun | .Name id pos => if env.kindOf id == some .local && pos.line == line then some id else none | _ => none) = xs)
  | [], xs, h => by cases Option.some.inj h; exact ⟨Nat.le_refl _, fun _ => rfl⟩
  | t :: r, xs, h => by
    cases t <;> first | exact no_some' h | skip
    rename_i x px
    obtain ⟨ys, hr, rfl⟩ := Option.map_eq_some_iff.mp h
    obtain ⟨a, b⟩ := filterMap_names env line hr
    rw [List.filterMap_cons]
    by_cases hc : (env.kindOf x == some .local && px.line == line) = true
    · simp only [hc, if_true, List.length_cons]
      exact ⟨Nat.succ_le_succ a, fun e => by rw [b (Nat.succ.inj e)]⟩
    · simp only [hc, if_false, List.length_cons, Bool.false_eq_true]
      exact ⟨Nat.le_succ_of_le a, fun e => absurd (e ▸ a) (by omega)⟩

theorem swapped_ok {ts : List Expr} {xs : List Str} {kk : Nat} {p : Pos} {e : Expr} (hn : namesIn ts = some xs) (ht : tupFine e = true) :
    swappedStores [.Tuple ts kk p] e env = pure none ∨ swappedStores [.Tuple ts kk p] e env = pure (some xs) := by
  cases e <;> try (left; rfl)
  rename_i vs k2 p2
  obtain ⟨hle, hex⟩ := filterMap_names env ((ts.head?.map (·.pos.line)).getD 0) hn
  dsimp only [tupFine] at ht
  rw [Bool.or_eq_true] at ht
  unfold swappedStores
  dsimp only
  repeat' (split)
  all_goals first | exact .inl rfl | skip
  · rename_i hf hc
    rw [hc] at ht
    exact absurd (ht.resolve_right (by simp)) hf
  · rename_i hl hf hc
    simp only [Bool.or_eq_true, bne_iff_ne, ne_eq, not_or, Decidable.not_not] at hl
    right
    have := hex hl.1
    exact congrArg (fun q => (pure (some q) : Sem (Option (List Str)))) this

theorem VRs.map_snd : ∀ {xs : List Str} {l : List V}, l.length = xs.length → ((xs.zip l).map (·.2)) = l ∧ ((xs.zip l).map (·.1)) = xs
  | [], [], _ => ⟨rfl, rfl⟩
  | x :: xs, v :: l, h => by
    obtain ⟨a, b⟩ := VRs.map_snd (xs := xs) (l := l) (by simpa using h)
    simp only [List.zip_cons_cons, List.map_cons, a, b, and_self]
  | [], v :: l, h => by simp at h
  | x :: xs, [], h => by simp at h

theorem Paired.rev {α β : Type} {G : α → β → Prop} : ∀ {l₁ : List α} {l₂ : List β}, Paired G l₁ l₂ → Paired G l₁.reverse l₂.reverse
  | _, _, .nil => .nil
  | _, _, .cons h t => by rw [List.reverse_cons, List.reverse_cons]; exact (Paired.rev t).snoc h

theorem SS_assignT {ts : List Expr} {xs : List Str} {kk : Nat} {p pos : Pos} {e : Expr} {e' : Ex} (hn : namesIn ts = some xs) (hx : ∀ x ∈ xs, stOK sc x = true) (hd : xs.Nodup) (ht : tupFine e = true) (he : SE prog w cx tb C k sc e e') :
    SS prog w cx tb C k sc (.Assign [.Tuple ts kk p] e pos) (.assignT xs e') := by
  intro env ℓ Qm σ ρ s A E hq X F N R
  dsimp only [ex] at hq
  have vals : ∀ v s1, Pst cx VR ρ s (fun v σ' => match v with
      | .tup vs => vs.length = xs.length ∧ Qm .next ((xs.zip vs).foldl (fun ℓ p => upd p.1 p.2 ℓ) ℓ) σ'
      | _ => False) v s1 → ∃ vs ys n a σ1 ρ1 h1 tk1, v = .ref a ∧ h1.get? a = some (tupObj ys n) ∧ s1 = { s with heap := h1, toks := tk1 } ∧ vs.length = xs.length ∧ Qm .next ((xs.zip vs).foldl (fun ℓ p => upd p.1 p.2 ℓ) ℓ) σ1 ∧ Sim cx ρ1 σ1 h1 ∧ Stp ρ s.heap ρ1 h1 ∧ VRs h1 ρ1 vs ys := by
    rintro v s1 ⟨x, σ1, ρ1, h1, tk1, rfl, hq, X1, t1, r1⟩
    cases x <;> simp only at hq
    dsimp only [VR] at r1
    obtain ⟨a, ys, n, rfl, hg, hv⟩ := r1
    exact ⟨_, ys, n, a, σ1, ρ1, h1, tk1, rfl, hg, rfl, hq.1, hq.2, X1, t1, hv⟩
  have fin : ∀ {fs : List (Value → Sem Unit)} {vs : List V} {ys : List Value} {ps : List (Str × V)} {σ1 : S} {ρ1 : Rho} {h1 h2 : Heap} {tk1 : Nat}, Paired (Storer env) fs (ps.map (·.1)) → VRs h1 ρ1 (ps.map (·.2)) ys → (∀ p ∈ ps, p.1 ∈ xs) →
      (∀ z v, ((xs.zip vs).foldl (fun ℓ p => upd p.1 p.2 ℓ) ℓ).lookup z = some v → (ps.foldl (fun ℓ p => upd p.1 p.2 ℓ) ℓ).lookup z = some v) →
      Qm .next ((xs.zip vs).foldl (fun ℓ p => upd p.1 p.2 ℓ) ℓ) σ1 → Sim cx ρ1 σ1 h1 → Stp ρ s.heap ρ1 h1 → Heap.ExtBut h1.objs.size h1 h2 → wpAny (model prog w) A (assignInOrder fs ys) (fun _ => PF cx sc env ρ s Qm .next) E { s with heap := h2, toks := tk1 } := by
    intro fs vs ys ps σ1 ρ1 h1 h2 tk1 hf hr hin hz hq X1 t1 hext
    have hk : ∀ b o, h1.get? b = some o → h2.get? b = some o := fun b o e => hext b o (Nat.ne_of_lt (Heap.lt_size e)) e
    have F1 := F.step X t1
    refine stores_ok (s := { s with heap := h2, toks := tk1 }) hf (hr.mono (fun b o _ => hk b o) fun _ _ e => e) (fun p hp => hx _ (hin p hp)) (X1.keeps hk) (F1.keeps hk) N fun h3 tk3 X3 t3 F3 => ?_
    have t2 : Stp ρ1 h1 ρ1 h2 := .of_keeps hk
    exact PF.mk' hq X3 (((t1.trans X1 t2).toF (env := env)).trans (X1.keeps hk) (F1.keeps hk) t3) (F3.congr hz) rfl
  have zin : ∀ {vs : List V} (p : Str × V), p ∈ xs.zip vs → p.1 ∈ xs := fun p hp => (List.of_mem_zip (a := p.1) (b := p.2) hp).1
  rcases swapped_ok (env := env) (kk := kk) (p := p) hn ht with hw | hw
  · refine Assign_Tuple (wpAny_mono (he env ℓ _ σ ρ s A E hq X F R) (fun v s1 hp => ?_) fun _ _ e => e) swaps_tup hw
    obtain ⟨vs, ys, n, a, σ1, ρ1, h1, tk1, rfl, hg, rfl, hl, hq, X1, t1, hv⟩ := vals v s1 hp
    show wpAny _ A (standAt p >>= fun _ => unpack (.ref a) (assignEach ts env)) _ _ _
    refine wpAny_bind (wpAny_standAt ?_)
    obtain ⟨n1, n2, n3⟩ := namesIn_storers (env := env) hn
    obtain ⟨z1, z2⟩ := VRs.map_snd hl
    refine unpack_tuple (s := { s with heap := h1, toks := tk1 }) R.hh (items := ys.toArray) ⟨_, hg, rfl, n, rfl⟩ (by rw [n1, List.size_toArray, hv.length, hl]) n2 fun h2 hext => ?_
    exact fin (ps := xs.zip vs) (by rw [z2]; exact n3) (by rw [z1]; exact hv) zin (fun _ _ e => e) hq X1 t1 hext
  · refine Assign_Tuple_swapped (wpAny_mono (he env ℓ _ σ ρ s A E hq X F R) (fun v s1 hp => ?_) fun _ _ e => e) swaps_tup hw
    obtain ⟨vs, ys, n, a, σ1, ρ1, h1, tk1, rfl, hg, rfl, hl, hq, X1, t1, hv⟩ := vals v s1 hp
    obtain ⟨z1, z2⟩ := VRs.map_snd hl
    have hz : xs.length = ys.toArray.size := by rw [List.size_toArray, hv.length, hl]
    rw [hz]
    refine unpackItems_tuple (s := { s with heap := h1, toks := tk1 }) R.hh (items := ys.toArray) ⟨_, hg, rfl, n, rfl⟩ fun h2 hext => ?_
    refine fin (vs := vs) (ps := (xs.zip vs).reverse) (by rw [List.map_reverse (l := xs.zip vs), z2]; exact bind_storers xs.reverse) (by rw [List.map_reverse (l := xs.zip vs), z1]; exact hv.reverse) (fun q hq => zin q (List.mem_reverse.mp hq)) (fun z v e => ?_) hq X1 t1 hext
    rw [foldl_lookup] at e ⊢
    rw [List.reverse_reverse]
    rw [lookup_reverse (by rw [z2]; exact hd)] at e
    exact e
end
end Mine

end
section
open PySem PySem.W PySem.Calls PyProof.Rows
set_option Elab.async false
set_option maxRecDepth 100000
namespace Mine

section
variable {prog : Program} {w : World} {cx : Cx} {tb : Tb} {C : Or} {k : Nat} {sc : List (Str × NameKind)}

theorem ST_no {e : Expr} {e' : Ex} (h : ∀ ℓ Qm σ, tru C tb e' ℓ Qm σ → False) : ST prog w cx tb C k sc e e' := by
  intro env ℓ Qm σ ρ s A E hq
  exact (h _ _ _ hq).elim
theorem SX_none : SX prog w cx tb C k sc none (.lit .none) := by
  intro env ℓ Qm σ ρ s A E hq X F R
  dsimp only [ev] at hq
  exact wpAny_pure (.here0 X hq (by first | exact rfl | exact ⟨_, rfl⟩))
theorem SX_some {e : Expr} {e' : Ex} (h : SE prog w cx tb C k sc e e') : SX prog w cx tb C k sc (some e) e' := by
  intro env ℓ Qm σ ρ s A E hq X F R
  exact h env ℓ Qm σ ρ s A E hq X F R

variable (prog w cx tb C k) in
noncomputable def EOK (sc : NK) (e : Expr) (e' : Ex) : Prop := SE prog w cx tb C k sc e e' ∧ ST prog w cx tb C k sc e e'
variable (prog w cx tb C k) in
noncomputable def PE (n : Nat) : Prop := ∀ sc e e', trE n sc e = some e' → EOK prog w cx tb C k sc e e'
variable (prog w cx tb C k) in
noncomputable def PL (n : Nat) : Prop := ∀ sc es es', trEs n sc es = some es' → (es.all notStar = true → SL prog w cx tb C k sc es es') ∧ SA prog w cx tb C k sc es es' ∧ SO prog w cx tb C k sc es es' ∧ SF prog w cx tb C k sc es es'
variable (prog w cx tb C k) in
noncomputable def PO (n : Nat) : Prop := ∀ sc e e', trO n sc e = some e' → SX prog w cx tb C k sc e e'

theorem bind_inv {α β : Type} {o : Option α} {f : α → Option β} {b : β} (h : o.bind f = some b) : ∃ a, o = some a ∧ f a = some b := by
  cases o with
  | none => cases h
  | some a => exact ⟨a, rfl, h⟩
theorem map_inv {α β : Type} {o : Option α} {f : α → β} {b : β} (h : o.map f = some b) : ∃ a, o = some a ∧ f a = b := by
  cases o with
  | none => cases h
  | some a => exact ⟨a, rfl, Option.some.inj h⟩
theorem ite_inv {α : Type} {b : Bool} {x : Option α} {a : α} (h : (if b = true then x else none) = some a) : b = true ∧ x = some a := by
  cases b with
  | false => cases h
  | true => exact ⟨rfl, h⟩
theorem no_some {α : Type} {P : Prop} {a : α} (h : (none : Option α) = some a) : P := nomatch h
theorem nameOf_inv {e : Expr} {x : Str} (h : nameOf e = some x) : ∃ p, e = .Name x p := by
  cases e <;> first | exact no_some h | (cases h; exact ⟨_, rfl⟩)
theorem attrOf_inv {e : Expr} {p : Expr × Str × Pos} (h : attrOf e = some p) : e = .Attribute p.1 p.2.1 p.2.2 := by
  cases e <;> first | exact no_some h | (cases h; rfl)
theorem sliceOf_inv {e : Expr} {p : Option Expr × Option Expr × Option Expr} (h : sliceOf e = some p) : ∃ q, e = .Slice p.1 p.2.1 p.2.2 q := by
  cases e <;> first | exact no_some h | (cases h; exact ⟨_, rfl⟩)
theorem sliceOf_no {e : Expr} (h : sliceOf e = none) : notSlice e = true := by
  cases e <;> first | rfl | exact no_some h.symm

theorem PL_nil {sc : NK} {es' : List Ex} (h : some [] = some es') : (([] : List Expr).all notStar = true → SL prog w cx tb C k sc [] es') ∧ SA prog w cx tb C k sc [] es' ∧ SO prog w cx tb C k sc [] es' ∧ SF prog w cx tb C k sc [] es' := by
  cases h
  exact ⟨fun _ => SL_nil, SA_nil, SO_nil, SF_nil⟩
theorem trEs_nil {n : Nat} {sc : NK} {es' : List Ex} (h : trEs n sc [] = some es') : es' = [] := by
  cases n with
  | zero => exact no_some h
  | succ n => exact (Option.some.inj h).symm
theorem trEs_cons {n : Nat} {sc : NK} {e : Expr} {r : List Expr} {es' : List Ex} (h : trEs n sc (e :: r) = some es') : ∃ m e' r', n = m + 1 ∧ trE m sc e = some e' ∧ trEs m sc r = some r' ∧ es' = e' :: r' := by
  cases n with
  | zero => exact no_some h
  | succ n =>
    obtain ⟨e', h1, h⟩ := bind_inv h
    obtain ⟨r', h2, h3⟩ := map_inv h
    exact ⟨n, e', r', rfl, h1, h2, h3.symm⟩
theorem PL_step {n : Nat} (hE : PE prog w cx tb C k n) (hL : PL prog w cx tb C k n) : PL prog w cx tb C k (n + 1) := by
  intro sc es es' h
  cases es with
  | nil => exact PL_nil h
  | cons e r =>
    obtain ⟨m, e', r', hm, he, hr, rfl⟩ := trEs_cons h
    cases hm
    obtain ⟨a, b⟩ := hE sc e e' he
    obtain ⟨c1, c2, c3, c4⟩ := hL sc r r' hr
    refine ⟨fun hs => ?_, ?_, SO_cons b c3, SF_cons b c4⟩
    · obtain ⟨h1, h2⟩ := Bool.and_eq_true_iff.mp hs
      exact SL_cons h1 a (c1 h2)
    · cases r with
      | nil =>
        cases trEs_nil hr
        exact SA_cons1 a
      | cons f r =>
        obtain ⟨_, f', t', _, _, _, rfl⟩ := trEs_cons hr
        exact SA_cons a c2
theorem PO_step {n : Nat} (hE : PE prog w cx tb C k n) : PO prog w cx tb C k (n + 1) := by
  intro sc e e' h
  cases e with
  | none => cases Option.some.inj h; exact SX_none
  | some e => exact SX_some (hE sc e e' h).1

theorem SC_step1 {n : Nat} (hE : PE prog w cx tb C k n) (hL : PL prog w cx tb C k n) {elt iter : Expr} {x : Str} {px pos : Pos} {ifs : List Expr} {scope : Scope} {e' : Ex}
    (h : tComp1 (trE n) (trEs n) sc elt x iter ifs scope = some e') :
    compOk sc scope = true ∧ notSet iter = true ∧ SC prog w cx tb C k sc (.ListComp elt [⟨.Name x px, iter, ifs, 0⟩] scope pos) iter scope e' ∧ ∃ a b c, e' = .comp a x b c := by
  obtain ⟨hc, h⟩ := ite_inv h
  simp only [Bool.and_eq_true, beq_iff_eq] at hc
  obtain ⟨⟨⟨h1, h2⟩, h3⟩, h4⟩ := hc
  obtain ⟨i', q1, h⟩ := bind_inv h
  obtain ⟨f', q2, h⟩ := bind_inv h
  obtain ⟨t', q3, rfl⟩ := map_inv h
  exact ⟨h1, h2, SC_comp (hE _ _ _ q1).1 (hL _ _ _ q2).2.2.2 (hE _ _ _ q3).1 h1 h3 h4, _, _, _, rfl⟩
theorem SC_step2 {n : Nat} (hE : PE prog w cx tb C k n) {elt it1 it2 : Expr} {x y : Str} {px py pos : Pos} {scope : Scope} {e' : Ex}
    (h : tComp2 (trE n) sc elt x it1 y it2 scope = some e') :
    compOk sc scope = true ∧ notSet it1 = true ∧ SC prog w cx tb C k sc (.ListComp elt [⟨.Name x px, it1, [], 0⟩, ⟨.Name y py, it2, [], 0⟩] scope pos) it1 scope e' ∧ ∃ a b c, e' = .comp2 a x b y c := by
  obtain ⟨hc, h⟩ := ite_inv h
  simp only [Bool.and_eq_true, beq_iff_eq] at hc
  obtain ⟨⟨⟨⟨⟨h1, h2⟩, h3⟩, h4⟩, h5⟩, h6⟩ := hc
  obtain ⟨i', q1, h⟩ := bind_inv h
  obtain ⟨f', q2, h⟩ := bind_inv h
  obtain ⟨t', q3, rfl⟩ := map_inv h
  exact ⟨h1, h2, SC_comp2 (hE _ _ _ q1).1 (hE _ _ _ q2).1 (hE _ _ _ q3).1 h1 h4 h5 h6 h3, _, _, _, rfl⟩
theorem tComp_inv {f : NK → Expr → Option Ex} {g : NK → List Expr → Option (List Ex)} {elt : Expr} {scope : Scope} {gs : List Comprehension} {e' : Ex} (h : tComp f g sc elt scope gs = some e') :
    (∃ x p it ifs, gs = [⟨.Name x p, it, ifs, 0⟩] ∧ tComp1 f g sc elt x it ifs scope = some e') ∨ ∃ x p it y p' it2, gs = [⟨.Name x p, it, [], 0⟩, ⟨.Name y p', it2, [], 0⟩] ∧ tComp2 f sc elt x it y it2 scope = some e' := by
  rcases gs with _ | ⟨⟨t, it, ifs, z⟩, _ | ⟨⟨u, it2, ifs2, z2⟩, _ | ⟨_, _⟩⟩⟩
  · exact no_some h
  · obtain ⟨hz, h1⟩ := ite_inv h
    obtain ⟨x, hx, h2⟩ := bind_inv h1
    obtain ⟨p, rfl⟩ := nameOf_inv hx
    cases eq_of_beq hz
    exact .inl ⟨x, p, it, ifs, rfl, h2⟩
  · obtain ⟨hz, h1⟩ := ite_inv h
    obtain ⟨x, hx, h2⟩ := bind_inv h1
    obtain ⟨y, hy, h3⟩ := bind_inv h2
    obtain ⟨p, rfl⟩ := nameOf_inv hx
    obtain ⟨q, rfl⟩ := nameOf_inv hy
    simp only [Bool.and_eq_true, beq_iff_eq, List.isEmpty_iff] at hz
    obtain ⟨⟨⟨rfl, rfl⟩, rfl⟩, rfl⟩ := hz
    exact .inr ⟨x, p, it, y, q, it2, rfl, h3⟩
  · exact no_some h

theorem ok_plain {e : Expr} {e' : Ex} (hi : ∀ env t, isTrue e env t = (do let v ← t; standAt e.pos; holding [v] (truthy v))) (hq : ∀ ℓ Qm σ, tru C tb e' ℓ Qm σ → ev C tb e' ℓ (fun v σ' => match v with | .bool b => Qm b σ' | _ => False) σ)
    (a : SE prog w cx tb C k sc e e') : EOK prog w cx tb C k sc e e' := ⟨a, ST_plain hi hq a⟩
theorem ok_no {e : Expr} {e' : Ex} (h : ∀ ℓ Qm σ, tru C tb e' ℓ Qm σ → False) (a : SE prog w cx tb C k sc e e') : EOK prog w cx tb C k sc e e' := ⟨a, ST_no h⟩

theorem pe_const {c : Const} {m : Nat} {p : Pos} {e' : Ex} (h : tConst c = some e') : EOK prog w cx tb C k sc (.Constant c m p) e' := by
  cases c <;> first | exact no_some h | (cases Option.some.inj h; exact ok_no (fun _ _ _ q => q) (SE_const rfl))
theorem pe_name (H : TbOK cx.K tb) {x : Str} {p : Pos} {e' : Ex} (h : tName sc x = some e') : EOK prog w cx tb C k sc (.Name x p) e' := by
  unfold tName at h
  split at h
  · cases h
  · rename_i hn
    simp only [not_or, Bool.not_eq_true] at hn
    split at h
    · rename_i hv
      cases h
      exact ok_plain (fun _ _ => rfl) (fun ℓ Qm σ hq => by
        dsimp only [tru] at hq
        dsimp only [ev]
        split at hq
        · rename_i b hb; rw [hb]; exact hq
        · exact hq.elim) (SE_var hv hn.1 hn.2.1 hn.2.2)
    · split at h
      · rename_i hg
        cases h
        exact ok_no (fun _ _ _ q => q) (SE_glob H hg hn.1)
      · cases h
theorem pe_un {op : UnaryOp} {x : Expr} {p : Pos} {x' : Option Ex} {e' : Ex} (hE : ∀ y, x' = some y → EOK prog w cx tb C k sc x y) (h : tUn op x' = some e') : EOK prog w cx tb C k sc (.UnaryOp op x p) e' := by
  cases op with
  | Not =>
    obtain ⟨y, q, rfl⟩ := map_inv h
    exact ⟨fun _ _ _ _ _ _ _ _ hq => hq.elim, ST_not (hE _ q).2⟩
  | USub =>
    obtain ⟨y, q, rfl⟩ := map_inv h
    exact ok_no (fun _ _ _ q => q) (SE_neg (hE _ q).1)
  | _ => exact no_some h
theorem pe_cmp {n : Nat} (hE : PE prog w cx tb C k n) {l : Expr} {ops : List CmpOp} {rs : List Expr} {p : Pos} {e' : Ex} (h : tCmp (trE n) sc l ops rs = some e') : EOK prog w cx tb C k sc (.Compare l ops rs p) e' := by
  rcases ops with _ | ⟨op, _ | ⟨op', _ | ⟨_, _⟩⟩⟩
  · exact no_some h
  · rcases rs with _ | ⟨r, _ | ⟨_, _⟩⟩
    · exact no_some h
    · obtain ⟨hn, h⟩ := ite_inv h
      obtain ⟨a, q1, h⟩ := bind_inv h
      obtain ⟨b, q2, rfl⟩ := map_inv h
      exact ⟨SE_cmp hn (hE _ _ _ q1).1 (hE _ _ _ q2).1, ST_cmp hn (hE _ _ _ q1).1 (hE _ _ _ q2).1⟩
    · exact no_some h
  · rcases rs with _ | ⟨r, _ | ⟨r', _ | ⟨_, _⟩⟩⟩
    · exact no_some h
    · exact no_some h
    · obtain ⟨hn, h⟩ := ite_inv h
      obtain ⟨a, q1, h⟩ := bind_inv h
      obtain ⟨b, q2, h⟩ := bind_inv h
      obtain ⟨c, q3, rfl⟩ := map_inv h
      exact ok_no (fun _ _ _ q => q) (SE_cmp2 (Bool.and_eq_true_iff.mp hn).2 (hE _ _ _ q1).1 (hE _ _ _ q2).1 (hE _ _ _ q3).1)
    · exact no_some h
  · exact no_some h
theorem pe_is (H : TbOK cx.K tb) {n : Nat} (hE : PE prog w cx tb C k n) {as : List Expr} {p0 p : Pos} {e' : Ex} (h1 : sc.lookup ("isinstance" : Str) = some .globalImplicit) (h2 : as.all notStar = true) (h : tIs (trE n) sc as = some e') :
    EOK prog w cx tb C k sc (.Call (.Name "isinstance" p0) as [] p) e' := by
  rcases as with _ | ⟨x, _ | ⟨y, _ | ⟨_, _⟩⟩⟩
  · exact no_some h
  · exact no_some h
  · obtain ⟨t, ht, g1⟩ := bind_inv h
    obtain ⟨pt, rfl⟩ := nameOf_inv ht
    obtain ⟨hc, g2⟩ := ite_inv g1
    simp only [Bool.and_eq_true, decide_eq_true_eq] at hc
    obtain ⟨rfl, hs⟩ := hc
    obtain ⟨x', q, rfl⟩ := map_inv g2
    exact ok_no (fun _ _ _ q => q) (SE_isTup H h1 hs (Bool.and_eq_true_iff.mp h2).1 (hE _ _ _ q).1)
  · exact no_some h
theorem pe_callN (H : TbOK cx.K tb) (O : OrOK prog w cx C k) {n : Nat} (hE : PE prog w cx tb C k n) (hL : PL prog w cx tb C k n) {f : Str} {as : List Expr} {p0 p : Pos} {e' : Ex} (h : tCallN (trE n) (trEs n) sc f as = some e') :
    EOK prog w cx tb C k sc (.Call (.Name f p0) as [] p) e' := by
  obtain ⟨hc, g⟩ := ite_inv h
  simp only [Bool.and_eq_true, beq_iff_eq, decide_eq_true_eq] at hc
  obtain ⟨⟨h1, h2⟩, h3⟩ := hc
  split at g
  · rename_i hf
    subst hf
    exact pe_is H hE h1 h2 g
  · obtain ⟨es, q, rfl⟩ := map_inv g
    have l := (hL _ _ _ q).1 h2
    have h3 : (f == ("__debug__" : Str)) = false := by simpa using h3
    cases hb : bltOf f with
    | some b => exact ok_no (fun _ _ _ q => q) (SE_blt H hb h1 h2 h3 l)
    | none => exact ok_plain (fun _ _ => rfl) (fun _ _ _ hq => hq) (SE_call H O h1 h2 h3 l)
theorem pe_callA (H : TbOK cx.K tb) (O : OrOK prog w cx C k) {n : Nat} (hE : PE prog w cx tb C k n) (hL : PL prog w cx tb C k n) {x : Expr} {m : Str} {ap p : Pos} {as : List Expr} {e' : Ex} (h : tCallA (trE n) (trEs n) sc x m ap as p = some e') :
    EOK prog w cx tb C k sc (.Call (.Attribute x m ap) as [] p) e' := by
  obtain ⟨hc, h⟩ := ite_inv h
  simp only [Bool.and_eq_true, decide_eq_true_eq] at hc
  obtain ⟨⟨⟨h1, h2⟩, h3⟩, h4⟩ := hc
  obtain ⟨o', q1, h⟩ := bind_inv h
  obtain ⟨es, q2, rfl⟩ := map_inv h
  have l := (hL _ _ _ q2).1 h3
  cases hm : lmOf m with
  | some lm => exact ok_no (fun _ _ _ q => q) (SE_lmeth hm h1 h2 h3 h4 (hE _ _ _ q1).1 l)
  | none => exact ok_plain (fun _ _ => rfl) (fun _ _ _ hq => hq) (SE_meth H O h1 h2 h3 h4 (hE _ _ _ q1).1 l)
theorem pe_call (H : TbOK cx.K tb) (O : OrOK prog w cx C k) {n : Nat} (hE : PE prog w cx tb C k n) (hL : PL prog w cx tb C k n) {h : Expr} {as : List Expr} {kw : List Keyword} {p : Pos} {e' : Ex} (hh : tCall (trE n) (trEs n) sc h as kw p = some e') :
    EOK prog w cx tb C k sc (.Call h as kw p) e' := by
  cases kw with
  | cons _ _ => exact no_some hh
  | nil =>
    unfold tCall at hh
    dsimp only at hh
    cases hn : nameOf h with
    | some x =>
      rw [hn] at hh
      obtain ⟨q, rfl⟩ := nameOf_inv hn
      exact pe_callN H O hE hL hh
    | none =>
      rw [hn] at hh
      obtain ⟨a, ha, hh⟩ := bind_inv hh
      rw [attrOf_inv ha]
      exact pe_callA H O hE hL hh
theorem pe_sub {n : Nat} (hE : PE prog w cx tb C k n) (hO : PO prog w cx tb C k n) {x i : Expr} {p : Pos} {e' : Ex} (h : tSub (trE n) (trO n) sc x i = some e') : EOK prog w cx tb C k sc (.Subscript x i p) e' := by
  unfold tSub at h
  cases hs : sliceOf i with
  | none =>
    rw [hs] at h
    obtain ⟨o', q1, h⟩ := bind_inv h
    obtain ⟨a, q2, rfl⟩ := map_inv h
    exact ok_no (fun _ _ _ q => q) (SE_sub (sliceOf_no hs) (hE _ _ _ q1).1 (hE _ _ _ q2).1)
  | some t =>
    rw [hs] at h
    obtain ⟨q, rfl⟩ := sliceOf_inv hs
    obtain ⟨lo, hi, st⟩ := t
    cases st with
    | some _ => exact no_some h
    | none =>
      obtain ⟨o', q1, h⟩ := bind_inv h
      obtain ⟨a, q2, h⟩ := bind_inv h
      obtain ⟨b, q3, rfl⟩ := map_inv h
      exact ok_no (fun _ _ _ q => q) (SE_slice (hE _ _ _ q1).1 (hO _ _ _ q2) (hO _ _ _ q3))
theorem pe_dict {ks : List (Option Expr)} {vs : List Expr} {p : Pos} {e' : Ex} (h : tDict ks vs = some e') : EOK prog w cx tb C k sc (.Dict ks vs p) e' := by
  cases ks <;> cases vs <;> first | exact no_some h | (cases Option.some.inj h; exact ok_no (fun _ _ _ q => q) SE_dct)
theorem pe_comp {n : Nat} (hE : PE prog w cx tb C k n) (hL : PL prog w cx tb C k n) {elt : Expr} {gs : List Comprehension} {scope : Scope} {p : Pos} {e' : Ex} (h : tComp (trE n) (trEs n) sc elt scope gs = some e') :
    EOK prog w cx tb C k sc (.ListComp elt gs scope p) e' := by
  rcases tComp_inv h with ⟨x, q, it, ifs, rfl, g⟩ | ⟨x, q, it, y, q', it2, rfl, g⟩
  · obtain ⟨a, b, c, _, _, _, rfl⟩ := SC_step1 hE hL g
    exact ok_no (fun _ _ _ q => q) (SE_SC a b c)
  · obtain ⟨a, b, c, _, _, _, rfl⟩ := SC_step2 hE g
    exact ok_no (fun _ _ _ q => q) (SE_SC a b c)
theorem pe_bin {n : Nat} (hE : PE prog w cx tb C k n) {l r : Expr} {op : Operator} {p : Pos} {e' : Ex} (h : ((trE n sc l).bind fun a => (trE n sc r).map fun b => .bin op a b) = some e') : EOK prog w cx tb C k sc (.BinOp l op r p) e' := by
  obtain ⟨a, q1, h⟩ := bind_inv h
  obtain ⟨b, q2, rfl⟩ := map_inv h
  exact ok_no (fun _ _ _ q => q) (SE_bin (hE _ _ _ q1).1 (hE _ _ _ q2).1)
theorem pe_if {n : Nat} (hE : PE prog w cx tb C k n) {c a b : Expr} {p : Pos} {e' : Ex} (h : ((trE n sc c).bind fun c' => (trE n sc a).bind fun a' => (trE n sc b).map fun b' => .ite c' a' b') = some e') : EOK prog w cx tb C k sc (.IfExp c a b p) e' := by
  obtain ⟨c', q1, h⟩ := bind_inv h
  obtain ⟨a', q2, h⟩ := bind_inv h
  obtain ⟨b', q3, rfl⟩ := map_inv h
  exact ok_no (fun _ _ _ q => q) (SE_ite (hE _ _ _ q1).2 (hE _ _ _ q2).1 (hE _ _ _ q3).1)
theorem pe_bool {n : Nat} (hL : PL prog w cx tb C k n) {op : BoolOp} {vs : List Expr} {p : Pos} {e' : Ex} (h : (trEs n sc vs).map (.andor (op == .And)) = some e') : EOK prog w cx tb C k sc (.BoolOp op vs p) e' := by
  obtain ⟨vs', q, rfl⟩ := map_inv h
  obtain ⟨_, c2, c3, _⟩ := hL _ _ _ q
  exact ⟨SE_andor c2, ST_andor c3⟩
theorem pe_attr (H : TbOK cx.K tb) {n : Nat} (hE : PE prog w cx tb C k n) {x : Expr} {m : Str} {p : Pos} {e' : Ex} (h : (if okBase x = true then (trE n sc x).map fun o' => .attr o' m else none) = some e') : EOK prog w cx tb C k sc (.Attribute x m p) e' := by
  obtain ⟨hb, h⟩ := ite_inv h
  obtain ⟨o', q1, rfl⟩ := map_inv h
  exact ok_plain (fun _ _ => rfl) (fun _ _ _ hq => hq) (SE_attr H hb (hE _ _ _ q1).1)
theorem pe_tup {n : Nat} (hL : PL prog w cx tb C k n) {es : List Expr} {m : Nat} {p : Pos} {e' : Ex} (h : (if es.all notStar = true then (trEs n sc es).map .tup else none) = some e') : EOK prog w cx tb C k sc (.Tuple es m p) e' := by
  obtain ⟨hs, h⟩ := ite_inv h
  obtain ⟨es', q, rfl⟩ := map_inv h
  exact ok_no (fun _ _ _ q => q) (SE_tup ((hL _ _ _ q).1 hs))
theorem pe_lst {n : Nat} (hL : PL prog w cx tb C k n) {es : List Expr} {p : Pos} {e' : Ex} (h : (if es.all notStar = true then (trEs n sc es).map .lst else none) = some e') : EOK prog w cx tb C k sc (.List es p) e' := by
  obtain ⟨hs, h⟩ := ite_inv h
  obtain ⟨es', q, rfl⟩ := map_inv h
  exact ok_no (fun _ _ _ q => q) (SE_lst ((hL _ _ _ q).1 hs))

theorem PE_step (H : TbOK cx.K tb) (O : OrOK prog w cx C k) {n : Nat} (hE : PE prog w cx tb C k n) (hL : PL prog w cx tb C k n) (hO : PO prog w cx tb C k n) : PE prog w cx tb C k (n + 1) := by
  intro sc e e' h
  cases e with
  | Constant c m p => exact pe_const h
  | Name x p => exact pe_name H h
  | BoolOp op vs p => exact pe_bool hL h
  | UnaryOp op x p => exact pe_un (fun y q => hE _ _ _ q) h
  | BinOp l op r p => exact pe_bin hE h
  | IfExp c a b p => exact pe_if hE h
  | Compare l ops rs p => exact pe_cmp hE h
  | Call f as kw p => exact pe_call H O hE hL h
  | Attribute x m p => exact pe_attr H hE h
  | Subscript x i p => exact pe_sub hE hO h
  | Tuple es m p => exact pe_tup hL h
  | List es p => exact pe_lst hL h
  | Dict ks vs p => exact pe_dict h
  | ListComp elt gs scope p => exact pe_comp hE hL h
  | _ => exact no_some h

theorem trE_ok (H : TbOK cx.K tb) (O : OrOK prog w cx C k) : ∀ n, PE prog w cx tb C k n ∧ PL prog w cx tb C k n ∧ PO prog w cx tb C k n
  | 0 => ⟨fun sc e e' h => no_some h, fun sc e e' h => no_some h, fun sc e e' h => no_some h⟩
  | n + 1 => by
    obtain ⟨a, b, c⟩ := trE_ok H O n
    exact ⟨PE_step H O a b c, PL_step a b, PO_step a⟩

variable (prog w cx tb C k) in
noncomputable def PS (n : Nat) : Prop := ∀ sc s s', trS n sc s = some s' → SS prog w cx tb C k sc s s'
variable (prog w cx tb C k) in
noncomputable def PB (n : Nat) : Prop := ∀ sc ss, SB prog w cx tb C k sc ss (trSs n sc ss)

theorem SB_stuck {ss : List Stmt} {r : List St} : SB prog w cx tb C k sc ss (.stuck :: r) := by
  intro env ℓ Qm σ ρ s A E hq
  exact hq.elim
theorem SB_step {n : Nat} (hS : PS prog w cx tb C k n) (hB : PB prog w cx tb C k n) {s : Stmt} {r : List Stmt} {o : Option St} (h : trS n sc s = o) :
    SB prog w cx tb C k sc (s :: r) (orStuck o :: trSs n sc r) := by
  cases o with
  | none => exact SB_stuck
  | some s' => exact SB_cons (hS _ _ _ h) (hB _ _)
theorem PB_step {n : Nat} (hS : PS prog w cx tb C k n) (hB : PB prog w cx tb C k n) : PB prog w cx tb C k (n + 1) := by
  intro sc ss
  cases ss with
  | nil => exact SB_nil
  | cons s r => exact SB_step hS hB rfl

theorem isComp_inv {n : Nat} {e : Expr} {e' : Ex} (h : isComp e = true) (q : trE (n + 1) sc e = some e') : ∃ elt gs scope p, e = .ListComp elt gs scope p ∧ tComp (trE n) (trEs n) sc elt scope gs = some e' := by
  cases e <;> first | exact Bool.noConfusion h | exact no_some q | exact ⟨_, _, _, _, rfl, q⟩
theorem ps_name (H : TbOK cx.K tb) (O : OrOK prog w cx C k) {n : Nat} {x : Str} {px pos : Pos} {e : Expr} {s' : St} (h : (if okT sc x = true then (trE n sc e).map (.assign x) else none) = some s') : SS prog w cx tb C k sc (.Assign [.Name x px] e pos) s' := by
  obtain ⟨hx, h⟩ := ite_inv h
  obtain ⟨e', q, rfl⟩ := map_inv h
  cases hc : isComp e with
  | false => exact SS_assign hx hc ((trE_ok (tb := tb) H O n).1 _ _ _ q).1
  | true =>
    cases n with
    | zero => exact no_some q
    | succ n =>
      obtain ⟨elt, gs, scope, p, rfl, g⟩ := isComp_inv hc q
      obtain ⟨hE, hL, _⟩ := trE_ok (tb := tb) H O n
      rcases tComp_inv g with ⟨x, q', it, ifs, rfl, g⟩ | ⟨x, q', it, y, q'', it2, rfl, g⟩
      · obtain ⟨a, b, c, _⟩ := SC_step1 hE hL g
        exact SS_assignC hx a b c
      · obtain ⟨a, b, c, _⟩ := SC_step2 hE g
        exact SS_assignC hx a b c
theorem ps_assign (H : TbOK cx.K tb) (O : OrOK prog w cx C k) {n : Nat} {t e : Expr} {pos : Pos} {s' : St} (h : tAssign (trE n) sc t e = some s') : SS prog w cx tb C k sc (.Assign [t] e pos) s' := by
  have hE := (trE_ok (tb := tb) H O n).1
  cases t with
  | Name x px => exact ps_name H O h
  | Tuple ts m p =>
    obtain ⟨xs, q1, h⟩ := bind_inv h
    obtain ⟨hc, h⟩ := ite_inv h
    simp only [Bool.and_eq_true, decide_eq_true_eq, List.all_eq_true] at hc
    obtain ⟨⟨⟨h1, h2⟩, h3⟩, _⟩ := hc
    obtain ⟨e', q, rfl⟩ := map_inv h
    exact SS_assignT q1 h1 h2 h3 (hE _ _ _ q).1
  | Attribute o m p =>
    obtain ⟨e', q1, h⟩ := bind_inv h
    obtain ⟨o', q2, rfl⟩ := map_inv h
    exact SS_setattr H (hE _ _ _ q1).1 (hE _ _ _ q2).1
  | Subscript o i p =>
    obtain ⟨_, h⟩ := ite_inv h
    obtain ⟨e', q1, h⟩ := bind_inv h
    obtain ⟨o', q2, h⟩ := bind_inv h
    obtain ⟨i', q3, rfl⟩ := map_inv h
    exact SS_setitem (hE _ _ _ q1).1 (hE _ _ _ q2).1 (hE _ _ _ q3).1
  | _ => exact no_some h
theorem ps_assigns (H : TbOK cx.K tb) (O : OrOK prog w cx C k) {n : Nat} {ts : List Expr} {e : Expr} {pos : Pos} {s' : St} (h : tS (trE n) (fun _ _ => []) sc (.Assign ts e pos) = some s') : SS prog w cx tb C k sc (.Assign ts e pos) s' := by
  rcases ts with _ | ⟨t, _ | ⟨_, _⟩⟩
  · exact no_some h
  · exact ps_assign H O h
  · exact no_some h
theorem ps_aug {n : Nat} (hE : PE prog w cx tb C k n) {t e : Expr} {op : Operator} {pos : Pos} {s' : St} (h : tS (trE n) (fun _ _ => []) sc (.AugAssign t op e pos) = some s') : SS prog w cx tb C k sc (.AugAssign t op e pos) s' := by
  obtain ⟨x, hx, h⟩ := bind_inv h
  obtain ⟨p, rfl⟩ := nameOf_inv hx
  obtain ⟨hx, h⟩ := ite_inv h
  obtain ⟨e', q1, rfl⟩ := map_inv h
  obtain ⟨h1, h2⟩ := Bool.and_eq_true_iff.mp hx
  simp only [Bool.not_eq_true', Bool.or_eq_false_iff] at h2
  exact SS_aug h1 h2.1 h2.2 (hE _ _ _ q1).1
theorem ps_for {n : Nat} {b : NK → List Stmt → List St} (hE : PE prog w cx tb C k n) (hB : ∀ sc ss, SB prog w cx tb C k sc ss (b sc ss)) {t it : Expr} {d : List Stmt} {pos : Pos} {s' : St} (h : tS (trE n) b sc (.For t it d [] pos) = some s') : SS prog w cx tb C k sc (.For t it d [] pos) s' := by
  obtain ⟨x, hx, h⟩ := bind_inv h
  obtain ⟨p, rfl⟩ := nameOf_inv hx
  obtain ⟨hx, h⟩ := ite_inv h
  obtain ⟨e', q1, rfl⟩ := map_inv h
  obtain ⟨h1, h2⟩ := Bool.and_eq_true_iff.mp hx
  exact SS_for h1 h2 (hE _ _ _ q1).1 (hB _ _)
theorem PS_step (H : TbOK cx.K tb) (O : OrOK prog w cx C k) {n : Nat} (hB : PB prog w cx tb C k n) : PS prog w cx tb C k (n + 1) := by
  obtain ⟨hE, hL, hO⟩ := trE_ok (tb := tb) H O n
  intro sc s s' h
  cases s with
  | Pass p => cases Option.some.inj h; exact SS_pass
  | Expr e p =>
    obtain ⟨hc, h⟩ := ite_inv h
    obtain ⟨e', q, rfl⟩ := map_inv h
    exact SS_expr hc (hE _ _ _ q).1
  | Return v p =>
    cases v with
    | none => cases Option.some.inj h; exact SS_retNone
    | some e =>
      obtain ⟨e', q, rfl⟩ := map_inv h
      exact SS_ret (hE _ _ _ q).1
  | Assign ts e p => exact ps_assigns H O h
  | AugAssign t op e p => exact ps_aug hE h
  | If c a d p =>
    obtain ⟨c', q1, rfl⟩ := map_inv h
    exact SS_ite (hE _ _ _ q1).2 (hB _ _) (hB _ _)
  | While c d els p =>
    cases els with
    | cons _ _ => exact no_some h
    | nil =>
      obtain ⟨c', q1, rfl⟩ := map_inv h
      exact SS_while (hE _ _ _ q1).2 (hB _ _)
  | For t it d els p =>
    cases els with
    | cons _ _ => exact no_some h
    | nil => exact ps_for hE hB h
  | _ => exact no_some h

theorem trS_ok (H : TbOK cx.K tb) (O : OrOK prog w cx C k) : ∀ n, PS prog w cx tb C k n ∧ PB prog w cx tb C k n
  | 0 => ⟨fun sc s s' h => no_some h, fun sc ss => SB_stuck⟩
  | n + 1 => by
    obtain ⟨a, b⟩ := trS_ok H O n
    exact ⟨PS_step H O b, PB_step a b⟩
end
end Mine

end
section
open PySem PySem.W PySem.Calls PyProof.Rows
set_option Elab.async false
set_option maxRecDepth 100000
namespace Mine

theorem zip_lookup_some {α : Type} : ∀ {names : List Str} {vals : List α}, vals.length = names.length → ∀ n ∈ names, ((names.zip vals).lookup n).isSome = true
  | [], _, _, n, h => by simp at h
  | x :: names, [], hl, n, h => by simp at hl
  | x :: names, v :: vals, hl, n, h => by
    rw [List.zip_cons_cons, List.lookup_cons]
    cases hx : n == x with
    | true => rfl
    | false =>
      rcases List.mem_cons.mp h with rfl | h
      · simp at hx
      · exact zip_lookup_some (by simpa using hl) n h
theorem zip_filterMap {α : Type} : ∀ {names : List Str} {vals : List α} (pre : List (Str × α)), (∀ n ∈ names, pre.lookup n = none) → vals.length = names.length → names.Nodup →
    names.filterMap (fun n => ((pre ++ names.zip vals).lookup n).map (n, ·)) = names.zip vals
  | [], _, _, _, _, _ => rfl
  | x :: names, [], _, _, hl, _ => by simp at hl
  | x :: names, v :: vals, pre, hp, hl, hn => by
    rw [List.nodup_cons] at hn
    have hx : (pre ++ (x, v) :: names.zip vals).lookup x = some v := by
      rw [List.lookup_append, hp x List.mem_cons_self]; simp
    rw [List.zip_cons_cons, List.filterMap_cons, hx]
    simp only [Option.map_some]
    have ih := zip_filterMap (names := names) (vals := vals) (pre ++ [(x, v)]) (fun n hm => by
      rw [List.lookup_append, hp n (List.mem_cons_of_mem _ hm)]
      have : (n == x) = false := by rw [beq_eq_false_iff_ne]; rintro rfl; exact hn.1 hm
      simp [List.lookup_cons, this]) (by simpa using hl) hn.2
    rw [List.append_assoc] at ih
    simpa using ih

theorem wp_no {α : Type} {M : Model} {A : Around} {E : Value → Shared → Prop} {s : Shared} {c : Bool} {t e : Sem α} {Q : α → Shared → Prop} (h : c = false) (hw : wpAny M A e Q E s) : wpAny M A (if c = true then t else e) Q E s := by
  rw [h]; exact hw
noncomputable abbrev fillD (names : List Str) (vals : List Value) (ds : List Value) : Sem (List (Str × Value)) :=
  forIn ((names.drop (names.length - ds.length)).zip ds) (names.zip vals) (fun x (sl : List (Str × Value)) => if (sl.lookup x.1).isNone then pure (ForInStep.yield (sl ++ [(x.1, x.2)])) else pure (ForInStep.yield sl))
theorem bind_shape (nm qn : Str) (ar : List Arg) (kd : List (Option PySem.Expr)) (df : List PySem.Expr) (bd : FuncBody) (sc : Scope) (gl : Addr) (cl : List (Str × Addr)) (dv kv dc pm : Value) (an : Option Addr) (co ct : Value) (bt : Addr) (vals : List Value) :
    ∃ E1 E2 : Option (Array Value) → Sem (List (Str × Value)), ∀ names, names = ar.map (·.arg) → bindArgs ⟨nm, qn, ⟨[], ar, none, [], kd, none, df⟩, bd, sc, gl, cl, dv, kv, dc, pm, an, co, ct, bt⟩ ⟨vals, []⟩ =
      (seqItems? dv >>= fun r => if (decide (vals.length > names.length) && true) = true then E1 r else
        if (!((names.take (names.length - ((r.getD #[]).toList.drop ((r.getD #[]).toList.length - names.length)).length)).filter fun n => ((names.zip vals).lookup n).isNone).isEmpty) = true then E2 r else
          fillD names vals ((r.getD #[]).toList.drop ((r.getD #[]).toList.length - names.length)) >>= fun sl => pure ((names ++ []).filterMap fun n => (sl.lookup n).map (n, ·))) := by
  refine ⟨?_, ?_, ?_⟩
  rotate_left 2
  · intro names e
    subst e
    exact rfl
structure PlainFd (fd : FuncData) (names : List Str) : Prop where
  h1 : fd.params.posonlyargs = []
  h2 : fd.params.args.map (·.arg) = names
  h3 : fd.params.kwonlyargs = []
  h4 : fd.params.vararg = none
  h5 : fd.params.kwarg = none
/-- binding by place, the defaults read -/
theorem bind_gen {fd : FuncData} {names : List Str} (p : PlainFd fd names) {s : Shared} {vals : List Value} {its : Option (Array Value)} {ds : List Value} {slots : List (Str × Value)} {M : Model} {A : Around} {E : Value → Shared → Prop} {Q : List (Str × Value) → Shared → Prop}
    (hs : ∀ Q : Option (Array Value) → Shared → Prop, Q its s → wpAny M A (seqItems? fd.defaults) Q E s) (hds : (its.getD #[]).toList.drop ((its.getD #[]).toList.length - names.length) = ds)
    (c1 : (decide (vals.length > names.length) && true) = false) (c2 : (names.take (names.length - ds.length)).filter (fun n => ((names.zip vals).lookup n).isNone) = [])
    (c3 : fillD names vals ds = pure slots) (hq : Q (names.filterMap fun n => (slots.lookup n).map (n, ·)) s) : wpAny M A (bindArgs fd ⟨vals, []⟩) Q E s := by
  obtain ⟨nm, qn, ⟨po, ar, va, ko, kd, kw, df⟩, bd, sc, gl, cl, dv, kv, dc, pm, an, co, ct, bt⟩ := fd
  obtain ⟨h1, h2, h3, h4, h5⟩ := p
  dsimp only at h1 h3 h4 h5
  subst h1 h3 h4 h5
  obtain ⟨E1, E2, e⟩ := bind_shape nm qn ar kd df bd sc gl cl dv kv dc pm an co ct bt vals
  refine wpEq (e names h2.symm) (wpAny_bind (hs _ ?_))
  rw [hds]
  refine wp_no c1 (wp_no (by rw [c2]; rfl) ?_)
  rw [c3, List.append_nil]
  exact wpAny_pure hq

theorem bind_plain {fd : FuncData} {vals : List Value} {names : List Str} (p : PlainFd fd names) {s : Shared}
    (hd : fd.defaults = .none) (hl : vals.length = names.length) (hn : names.Nodup) : BindsTo s fd ⟨vals, []⟩ (names.zip vals) := by
  intro M A E Q hq
  have e3 := zip_filterMap (vals := vals) [] (by simp) hl hn
  rw [List.nil_append] at e3
  refine bind_gen p (its := none) (ds := []) (slots := names.zip vals) (fun Q q => by rw [hd]; exact wpAny_pure q) List.drop_nil (by rw [hl]; simp) ?_ ?_ (by rw [e3]; exact hq)
  · rw [List.filter_eq_nil_iff]
    intro n hm
    have := zip_lookup_some hl n (List.mem_of_mem_take hm)
    rw [← Option.not_isSome, this]
    exact Bool.false_ne_true
  · unfold fillD
    rw [List.zip_nil_right]
    rfl
theorem bind_dflt {fd : FuncData} {s : Shared} {v d : Value} {a b : Str} {tt : Addr} {o : Obj} {n : Nat} (hab : a ≠ b) (p : PlainFd fd [a, b])
    (hd : fd.defaults = .ref tt) (ho : s.heap.get? tt = some o) (hs : o.data = .seq #[d] n) : BindsTo s fd ⟨[v], []⟩ [(a, v), (b, d)] := by
  intro M A E Q hq
  have haa : (a == a) = true := beq_self_eq_true _
  have hba : (b == a) = false := by rw [beq_eq_false_iff_ne]; exact Ne.symm hab
  have hbb : (b == b) = true := beq_self_eq_true _
  refine bind_gen p (its := some #[d]) (ds := [d]) (slots := [(a, v), (b, d)]) (fun Q q => by rw [hd]; exact wpAny_seqItems ho hs q) rfl rfl ?_ ?_ ?_
  · show [a].filter (fun n => (List.lookup n [(a, v)]).isNone) = []
    simp [List.lookup_cons]
  · show forIn [(b, d)] [(a, v)] (fun x (sl : List (Str × Value)) => if (sl.lookup x.1).isNone then pure (ForInStep.yield (sl ++ [(x.1, x.2)])) else pure (ForInStep.yield sl)) = (pure [(a, v), (b, d)] : Sem _)
    simp [List.lookup_cons, hba]
  · simpa [List.lookup_cons, hba] using hq
theorem bind_dflt2 {fd : FuncData} {s : Shared} {v u d : Value} {a b : Str} {tt : Addr} {o : Obj} {n : Nat} (hab : a ≠ b) (p : PlainFd fd [a, b])
    (hd : fd.defaults = .ref tt) (ho : s.heap.get? tt = some o) (hs : o.data = .seq #[d] n) : BindsTo s fd ⟨[v, u], []⟩ [(a, v), (b, u)] := by
  intro M A E Q hq
  have hba : (b == a) = false := by rw [beq_eq_false_iff_ne]; exact Ne.symm hab
  refine bind_gen p (its := some #[d]) (ds := [d]) (slots := [(a, v), (b, u)]) (fun Q q => by rw [hd]; exact wpAny_seqItems ho hs q) rfl rfl ?_ ?_ ?_
  · show [a].filter (fun n => (List.lookup n [(a, v), (b, u)]).isNone) = []
    simp [List.lookup_cons]
  · show forIn [(b, d)] [(a, v), (b, u)] (fun x (sl : List (Str × Value)) => if (sl.lookup x.1).isNone then pure (ForInStep.yield (sl ++ [(x.1, x.2)])) else pure (ForInStep.yield sl)) = (pure [(a, v), (b, u)] : Sem _)
    simp [List.lookup_cons, hba]
  · simpa [List.lookup_cons, hba] using hq

noncomputable def noFree (sc : List (Str × NameKind)) : Bool := sc.all fun p => p.2 != .free && sc.lookup p.1 == some p.2
noncomputable def fnFine (K : Frag) (fd : FuncData) : Bool := fd.params.posonlyargs.isEmpty && fd.params.kwonlyargs.isEmpty && fd.params.vararg.isNone && fd.params.kwarg.isNone && decide (fd.params.args.map (·.arg)).Nodup && fd.closure.isEmpty
      && fd.globals == mainGlobals && fd.builtins == builtinsNs && fd.scope.kind == .function && !fd.scope.isCoroutine && !fd.scope.isGenerator && codeIn K fd.code fd.qualname
      && (fd.params.args.map (·.arg)).all (fun x => fd.scope.names.lookup x == some .local || fd.scope.names.lookup x == some .cell) && noFree fd.scope.names && decide ((cellsFrom 0 fd.scope.names []).map (·.1)).Nodup
noncomputable def isNone1 (o : Obj) : Bool := match o.data with
  | .seq items _ => items.toList == [.none]
  | _ => false
noncomputable def pairOf : List Str → Option (Str × Str)
  | [] => none
  | a :: r => match r with
    | [] => none
    | b :: r => match r with
      | [] => some (a, b)
      | _ :: _ => none
noncomputable def dfltsOf (K : Frag) (fd : FuncData) : Option (List V) := match fd.defaults with
  | .none => some []
  | .ref t => (K.lookup t).bind fun o => if isNone1 o then (pairOf (fd.params.args.map (·.arg))).map fun _ => [.none] else none
  | _ => none
noncomputable def fnEnt (K : Frag) (fd : FuncData) : Option Fn := match fd.body with
  | .stmts body => if fnFine K fd then (dfltsOf K fd).map fun ds => ⟨fd.params.args.map (·.arg), ds, trSs 60 fd.scope.names body⟩ else none
  | _ => none
theorem isNone1_inv {o : Obj} (h : isNone1 o = true) : ∃ k, o.data = .seq #[.none] k := by
  unfold isNone1 at h
  cases e : o.data with
  | seq items k =>
    rw [e] at h
    have q : items.toList = [.none] := eq_of_beq h
    exact ⟨k, by rw [show items = #[.none] from Array.ext' q]⟩
  | _ => rw [e] at h; exact Bool.noConfusion h
theorem pair_inv {l : List Str} {p : Str × Str} (h : pairOf l = some p) : ∃ a b, l = [a, b] := by
  rcases l with _ | ⟨a, _ | ⟨b, _ | ⟨_, _⟩⟩⟩
  · exact no_some h
  · exact no_some h
  · exact ⟨a, b, rfl⟩
  · exact no_some h
noncomputable def clsEnt (K : Frag) (f : Str) (a : Addr) : Bool := f != "" && clsAddr K f == some a && makesIn K a && (match findIn K (.ref a) "__init__" with | some (some (.ref fI)) => typeIn K (.ref fI) == some (.type "function") | _ => false)
/-- the text's functions and classes, read -/
noncomputable def TT (K : Frag) (c f : Str) : Option Ent := match fval K c f with
  | some (.ref a) => (match K.lookup a with
    | some ⟨_, _, .func fd, _⟩ => (fnEnt K fd).map .fn
    | some ⟨_, _, .cls _, _⟩ => if c == "" && clsEnt K f a then some .cls else none
    | _ => none)
  | _ => none

noncomputable def OrC (prog : Program) (w : World) (cx : Cx) (C : Or) (n : Nat) : Prop := ∀ c f vs Qm σ, C c f vs Qm σ → ∀ fv, fval cx.K c f = some fv →
  ∀ A s ρ xs (R : Result → Shared → Prop), Room A n → Sim cx ρ σ s.heap → VRs s.heap ρ vs xs → (∀ v s', Pst cx VR ρ s Qm v s' → R (.ok (.ret v)) s') → codeAny (model prog w) A (.call fv ⟨xs, []⟩) R s

section
variable {prog : Program} {w : World} {cx : Cx} {tb : Tb} {C : Or} {n : Nat}
theorem OrC.ok (h : OrC prog w cx C n) : OrOK prog w cx C n := by
  intro c f vs Qm σ hq fv hf A s ρ xs E R X r
  exact wpAny_call (h c f vs Qm σ hq fv hf A s ρ xs _ R X r fun v s' hp => hp)

theorem room_deeper {A : Around} {env : Env} (R : Room A (n + 1)) : Room (A.deeper env) n := by
  refine ⟨R.hh, ?_, ?_⟩
  · have := R.dep; show A.depth + 1 + n < _; omega
  · have := R.un; show A.units + 3 + 10 * n + 200 < _; omega
theorem room_make {A : Around} {args : Args} (R : Room A (n + 1)) : Room (A.under (.builtin "type.__call__" args)) n := by
  have hw : (Code.builtin "type.__call__" args).weight ≤ 1 := by
    have h1 : (Code.builtin "type.__call__" args).frames = 0 := rfl
    have h2 : (Code.builtin "type.__call__" args).isGuard = false := by show guardIds.contains "type.__call__" = false; decide
    have h3 : (Code.builtin "type.__call__" args).isCaller = false := by simp [Code.isCaller]
    unfold Code.weight
    rw [h1, h2, h3]
    split <;> simp
  have hu : (Code.builtin "type.__call__" args).cUnits ≤ 10 := by
    have h1 : (Code.builtin "type.__call__" args).frames = 0 := rfl
    show 1 + 3 * (Code.builtin "type.__call__" args).frames ≤ 10
    rw [h1]; decide
  refine ⟨R.hh, ?_, ?_⟩
  · have := R.dep; show A.depth + _ + n < _; omega
  · have := R.un; show A.units + _ + 10 * n + 200 < _; omega

structure FnOK (K : Frag) (fd : FuncData) (fn : Fn) (body : List Stmt) : Prop where
  h0 : fd.body = .stmts body
  h1 : fn.params = fd.params.args.map (·.arg)
  h2 : fn.body = trSs 60 fd.scope.names body
  h3 : fd.params.posonlyargs = []
  h4 : fd.params.kwonlyargs = []
  h5 : fd.params.vararg = none
  h6 : fd.params.kwarg = none
  h7 : fn.params.Nodup
  h8 : fd.closure = []
  h9 : fd.globals = mainGlobals
  h10 : fd.builtins = builtinsNs
  h11 : fd.scope.kind = .function
  h12 : fd.scope.isCoroutine = false
  h13 : fd.scope.isGenerator = false
  h14 : codeIn K fd.code fd.qualname = true
  h15 : ∀ x ∈ fn.params, fd.scope.names.lookup x = some .local ∨ fd.scope.names.lookup x = some .cell
  h17 : noFree fd.scope.names = true
  h18 : ((cellsFrom 0 fd.scope.names []).map (·.1)).Nodup
  h19 : (fn.dflts = [] ∧ fd.defaults = .none) ∨ (fn.dflts = [.none] ∧ ∃ t o k a b, fd.defaults = .ref t ∧ K.lookup t = some o ∧ o.data = .seq #[.none] k ∧ fn.params = [a, b])
theorem FnOK.mk' {K : Frag} {fd : FuncData} {body : List Stmt} (hb : fd.body = .stmts body) (h : fnFine K fd = true) {ds : List V}
    (hd : (ds = [] ∧ fd.defaults = .none) ∨ (ds = [.none] ∧ ∃ t o k a b, fd.defaults = .ref t ∧ K.lookup t = some o ∧ o.data = .seq #[.none] k ∧ fd.params.args.map (·.arg) = [a, b])) :
    FnOK K fd ⟨fd.params.args.map (·.arg), ds, trSs 60 fd.scope.names body⟩ body := by
  unfold fnFine at h
  obtain ⟨h, c16⟩ := Bool.and_eq_true_iff.mp h
  obtain ⟨h, c15⟩ := Bool.and_eq_true_iff.mp h
  obtain ⟨h, c13⟩ := Bool.and_eq_true_iff.mp h
  obtain ⟨h, c12⟩ := Bool.and_eq_true_iff.mp h
  obtain ⟨h, c11⟩ := Bool.and_eq_true_iff.mp h
  obtain ⟨h, c10⟩ := Bool.and_eq_true_iff.mp h
  obtain ⟨h, c9⟩ := Bool.and_eq_true_iff.mp h
  obtain ⟨h, c8⟩ := Bool.and_eq_true_iff.mp h
  obtain ⟨h, c7⟩ := Bool.and_eq_true_iff.mp h
  obtain ⟨h, c6⟩ := Bool.and_eq_true_iff.mp h
  obtain ⟨h, c5⟩ := Bool.and_eq_true_iff.mp h
  obtain ⟨h, c4⟩ := Bool.and_eq_true_iff.mp h
  obtain ⟨h, c3⟩ := Bool.and_eq_true_iff.mp h
  obtain ⟨c1, c2⟩ := Bool.and_eq_true_iff.mp h
  exact ⟨hb, rfl, rfl, List.isEmpty_iff.mp c1, List.isEmpty_iff.mp c2, Option.isNone_iff_eq_none.mp c3, Option.isNone_iff_eq_none.mp c4, of_decide_eq_true c5, List.isEmpty_iff.mp c6, eq_of_beq c7, eq_of_beq c8, eq_of_beq c9,
    Bool.not_eq_true' _ |>.mp c10, Bool.not_eq_true' _ |>.mp c11, c12, fun x hx => (Bool.or_eq_true_iff.mp (List.all_eq_true.mp c13 x hx)).imp eq_of_beq eq_of_beq, c15, of_decide_eq_true c16, hd⟩
theorem fnEnt_parts {K : Frag} {fd : FuncData} {fn : Fn} (h : fnEnt K fd = some fn) : ∃ body, FnOK K fd fn body := by
  unfold fnEnt at h
  cases hb : fd.body with
  | expr e => rw [hb] at h; exact no_some h
  | stmts body =>
    rw [hb] at h
    obtain ⟨hc, h⟩ := ite_inv h
    obtain ⟨ds, hd, rfl⟩ := map_inv h
    refine ⟨body, .mk' hb hc ?_⟩
    unfold dfltsOf at hd
    cases he : fd.defaults with
    | none => rw [he] at hd; cases Option.some.inj hd; exact .inl ⟨rfl, rfl⟩
    | ref tt =>
      rw [he] at hd
      obtain ⟨o, ho, hd⟩ := bind_inv hd
      obtain ⟨hc, hd⟩ := ite_inv hd
      obtain ⟨k, hk⟩ := isNone1_inv hc
      obtain ⟨p, hp, hd⟩ := map_inv hd
      obtain ⟨a, b, e⟩ := pair_inv hp
      cases hd
      exact .inr ⟨rfl, tt, o, k, a, b, rfl, ho, hk, e⟩
    | _ => rw [he] at hd; exact no_some hd

theorem bindL_at {kd : Str → Option NameKind} {x : Str} (hx : kd x = some .local) : ∀ {binds : List (Str × Value)} {m : Str → Option Value}, (binds.map (·.1)).Nodup → bindL kd binds m x = (binds.lookup x).or (m x)
  | [], m, _ => by simp [bindL]
  | (n, v) :: r, m, h => by
    rw [List.map_cons, List.nodup_cons] at h
    rw [bindL, bindL_at hx h.2, List.lookup_cons]
    by_cases hn : x = n
    · subst hn
      have : r.lookup x = none := by
        cases q : r.lookup x with
        | none => rfl
        | some u => exact absurd (List.mem_map.mpr ⟨_, mem_of_lookup q, rfl⟩) h.1
      simp [this, hx]
    · have : (x == n) = false := by simpa using hn
      rw [this]
      dsimp only
      congr 1
      split
      · simp [hn]
      · rfl
theorem bindC_at {kd : Str → Option NameKind} {x : Str} (hx : kd x ≠ some .local) : ∀ {binds : List (Str × Value)} {m : Str → Option Value}, (binds.map (·.1)).Nodup → bindC kd binds m x = (binds.lookup x).or (m x)
  | [], m, _ => by simp [bindC]
  | (n, v) :: r, m, h => by
    rw [List.map_cons, List.nodup_cons] at h
    rw [bindC, bindC_at hx h.2, List.lookup_cons]
    by_cases hn : x = n
    · subst hn
      have : r.lookup x = none := by
        cases q : r.lookup x with
        | none => rfl
        | some u => exact absurd (List.mem_map.mpr ⟨_, mem_of_lookup q, rfl⟩) h.1
      simp [this, hx]
    · have : (x == n) = false := by simpa using hn
      rw [this]
      dsimp only
      congr 1
      split
      · rfl
      · simp [hn]

theorem bindp_plain : ∀ {xs : List Str} {vs : List V} {ℓ : L}, bindp xs [] vs = some ℓ → vs.length = xs.length ∧ ℓ = xs.zip vs
  | [], [], ℓ, h => by cases Option.some.inj h; exact ⟨rfl, rfl⟩
  | [], v :: vs, ℓ, h => no_some h
  | x :: xs, v :: vs, ℓ, h => by
    dsimp only [bindp] at h
    obtain ⟨r, q, rfl⟩ := map_inv h
    obtain ⟨a, rfl⟩ := bindp_plain q
    exact ⟨by simp [a], rfl⟩
  | x :: xs, [], ℓ, h => no_some h

/-- the names bound, here and there -/
structure BindsR (s : Shared) (ρ : Rho) (fd : FuncData) (fn : Fn) (ℓ : L) (xs ws : List Value) : Prop where
  to : BindsTo s fd ⟨xs, []⟩ (fn.params.zip ws)
  len : ws.length = fn.params.length
  rel : VRs s.heap ρ (ℓ.map (·.2)) ws
  fst : ℓ.map (·.1) = fn.params
theorem binds_ok {s : Shared} {ρ : Rho} {σ : S} {fd : FuncData} {fn : Fn} {vs : List V} {xs : List Value} {ℓ : L} {body : List Stmt} (z : FnOK cx.K fd fn body) (X : Sim cx ρ σ s.heap) (hb : bindp fn.params fn.dflts vs = some ℓ) (r : VRs s.heap ρ vs xs) :
    ∃ ws, BindsR s ρ fd fn ℓ xs ws := by
  rcases z.h19 with ⟨d1, d2⟩ | ⟨d1, tt, o, kk, a, b, d2, d3, d4, d6⟩
  · rw [d1] at hb
    obtain ⟨hl, rfl⟩ := bindp_plain hb
    obtain ⟨z1, z2⟩ := VRs.map_snd hl
    have hx : xs.length = fn.params.length := by rw [r.length, hl]
    exact ⟨xs, bind_plain ⟨z.h3, z.h1.symm, z.h4, z.h5, z.h6⟩ d2 hx z.h7, hx, by rw [z1]; exact r, z2⟩
  · rw [d1, d6] at hb
    have hab : a ≠ b := by
      have h7 := z.h7
      rw [d6] at h7
      intro e
      simp [e] at h7
    have hT : s.heap.get? tt = some o := X.KIn _ _ d3
    have h1 := z.h1
    rw [d6] at h1
    rcases vs with _ | ⟨v, _ | ⟨u, _ | ⟨_, _⟩⟩⟩
    · exact no_some hb
    · cases Option.some.inj hb
      obtain ⟨x, rfl, rx⟩ := vrs1 r
      exact ⟨[x, .none], by rw [d6]; exact bind_dflt hab ⟨z.h3, h1.symm, z.h4, z.h5, z.h6⟩ d2 hT d4, by rw [d6]; rfl, ⟨x, _, rfl, rx, _, [], rfl, by simp [VR], rfl⟩, by rw [d6]; rfl⟩
    · cases Option.some.inj hb
      obtain ⟨x, xs', rfl, rx, r⟩ := vrsC r
      obtain ⟨y, rfl, ry⟩ := vrs1 r
      exact ⟨[x, y], by rw [d6]; exact bind_dflt2 hab ⟨z.h3, h1.symm, z.h4, z.h5, z.h6⟩ d2 hT d4, by rw [d6]; rfl, ⟨x, _, rfl, rx, y, [], rfl, ry, rfl⟩, by rw [d6]; rfl⟩
    · exact no_some hb

theorem zip_rel {h : Heap} {ρ : Rho} : ∀ {ps : List Str} {ℓ : L} {ws : List Value} {x : Str} {v : V}, ℓ.map (·.1) = ps → VRs h ρ (ℓ.map (·.2)) ws → ℓ.lookup x = some v → ∃ y, (ps.zip ws).lookup x = some y ∧ VR h ρ v y
  | _, [], ws, x, v, _, _, e => by simp at e
  | ps, (n, u) :: ℓ, ws, x, v, hp, r, e => by
    subst hp
    rw [List.map_cons] at r
    obtain ⟨y, ys, rfl, ry, r⟩ := r
    simp only [List.map_cons, List.zip_cons_cons, List.lookup_cons] at e ⊢
    cases hx : x == n with
    | true => rw [hx] at e; cases e; exact ⟨y, rfl, ry⟩
    | false => rw [hx] at e; exact zip_rel rfl r e

theorem zip_fst : ∀ {ps : List Str} {ws : List Value}, ws.length = ps.length → (ps.zip ws).map (·.1) = ps
  | [], _, _ => by simp
  | x :: ps, [], h => by simp at h
  | x :: ps, w :: ws, h => by simp [zip_fst (ps := ps) (ws := ws) (by simpa using h)]

theorem noFree_at {sc : List (Str × NameKind)} (h : noFree sc = true) {x : Str} {kd : NameKind} (hx : sc.lookup x = some kd) : kd ≠ .free := by
  unfold noFree at h
  rw [List.all_eq_true] at h
  have := h _ (mem_of_lookup hx)
  simp only [Bool.and_eq_true, bne_iff_ne, ne_eq] at this
  exact this.1
theorem cellsFrom_some' {x : Str} {sc : List (Str × NameKind)} {k : Nat} (h : sc.lookup x = some .cell) : ∃ c, (cellsFrom k sc []).lookup x = some c := by
  have := cellsFrom_some (x := x) sc k [] (.inl h)
  exact Option.isSome_iff_exists.mp this

theorem call_fn (H : TbOK cx.K tb) (O : OrOK prog w cx C n) {A : Around} {s : Shared} {ρ : Rho} {σ : S} {fd : FuncData} {fn : Fn} {f : Addr} {o : Obj} {vs : List V} {xs : List Value} {ℓ : L} {Qm : V → S → Prop} {R : Result → Shared → Prop} (he : fnEnt cx.K fd = some fn)
    (ho : s.heap.get? f = some o) (hd : o.data = .func fd) (RR : Room A (n + 1)) (X : Sim cx ρ σ s.heap) (hb : bindp fn.params fn.dflts vs = some ℓ) (r : VRs s.heap ρ vs xs)
    (hq : exs C tb fn.body ℓ (fun fl _ σ' => match fl with | .ret v => Qm v σ' | .next => Qm .none σ') σ) (hR : ∀ v s', Pst cx VR ρ s Qm v s' → R (.ok (.ret v)) s') : codeAny (model prog w) A (.call (.ref f) ⟨xs, []⟩) R s := by
  refine (fnEnt_parts he).elim fun body z => (binds_ok z X hb r).elim fun ws bR => ?_
  have nf := z.h17
  have hbind := bR.to
  have hwl := bR.len
  have hwr := bR.rel
  have hwp := bR.fst
  have hnd : ((fn.params.zip ws).map (·.1)).Nodup := by rw [zip_fst hwl]; exact z.h7
  refine codeAny_call_function (by have := RR.dep; omega) ho hd z.h12 z.h13 z.h0 (codeRec_of X.KIn z.h14) (hbind _ _ _ _ ?_)
  rw [z.h8]
  refine wpAny_newFunctionEnv_cells z.h11 (fun x hx => ?_) fun env' he' s' x => ?_
  · have : x.1 ∈ fn.params := by rw [← zip_fst hwl]; exact List.mem_map.mpr ⟨x, hx, rfl⟩
    rcases z.h15 _ this with e | e
    · exact .inl e
    · obtain ⟨c, hc⟩ := cellsFrom_some' (k := s.heap.objs.size + 1) e
      exact .inr ⟨e, by rw [hc]; rfl⟩
  subst he'
  refine ⟨(cx.T.nolimit.keeps X.base).keeps x.toInCall.keep, codeAny_func ?_⟩
  obtain ⟨hh, tk, rfl, hk⟩ := x.done
  have hk : ∀ b o, s.heap.get? b = some o → hh.get? b = some o := hk
  have lt : ∀ b o, s.heap.get? b = some o → b ≠ s.heap.objs.size ∧ ¬ s.heap.objs.size < b := fun b o e => by
    have := Heap.lt_size e; exact ⟨Nat.ne_of_lt this, Nat.not_lt_of_lt this⟩
  have old0 : ∀ b, s.heap.objs.size ≤ b → cx.h₀.get? b = none := fun b hb => by
    cases q : cx.h₀.get? b with
    | none => rfl
    | some o => exact absurd (Heap.lt_size (X.base b o q)) (Nat.not_lt_of_le hb)
  have offR : ∀ b, s.heap.objs.size ≤ b → ¬ InR ρ b := fun b hb hin => by
    obtain ⟨o', ho', _⟩ := X.live hin
    exact absurd (Heap.lt_size ho') (Nat.not_lt_of_le hb)
  have kd : ∀ z, (newEnv fd.scope s.heap.objs.size fd.globals (cellsFrom (s.heap.objs.size + 1) fd.scope.names []) (fd.qualname ++ ".<locals>.") (some f) fd.code none fd.builtins).kindOf z = fd.scope.names.lookup z := fun z => rfl
  have X1 : Sim cx ρ σ hh := X.keeps hk
  have F1 : FOK cx fd.scope.names (newEnv fd.scope s.heap.objs.size fd.globals (cellsFrom (s.heap.objs.size + 1) fd.scope.names []) (fd.qualname ++ ".<locals>.") (some f) fd.code none fd.builtins) ℓ ρ hh := by
    have up : ∀ u y, VR s.heap ρ u y → VR hh ρ u y := fun u y q => q.mono (fun b o _ => hk b o) fun _ _ e => e
    refine ⟨z.h11, z.h9, z.h10, fun z e => e, fun z e => ?_, fun z e => e, ⟨_, x.toInCall.ns, fun z v e0 e1 e2 => ?_⟩, fun z c e => ?_, offR _ (Nat.le_refl _), fun z c e => ?_, fun z1 z2 c e1 e2 => name_of_addr x.apart (mem_of_lookup e1) (mem_of_lookup e2), old0 _ (Nat.le_refl _)⟩
    · rcases e with e | e
      · exact ⟨.inl e, cellsFrom_some' e⟩
      · exact absurd rfl (noFree_at nf e)
    · obtain ⟨y, hy, ry⟩ := zip_rel hwp hwr e1
      exact ⟨y, by rw [bindL_at e2 hnd, hy]; rfl, up _ _ ry⟩
    · refine ⟨_, x.cell z c e, fun v e1 e2 => ?_⟩
      obtain ⟨y, hy, ry⟩ := zip_rel hwp hwr e1
      exact ⟨y, by rw [bindC_at (fun q => by rw [q] at e2; rcases e2 with e2 | e2 <;> cases e2) hnd, hy]; rfl, up _ _ ry⟩
    · have hlt := x.above z c (mem_of_lookup e)
      have hlt : s.heap.objs.size < c := hlt
      exact ⟨offR _ (Nat.le_of_lt hlt), Nat.ne_of_gt hlt, old0 _ (Nat.le_of_lt hlt)⟩
  have run := (trS_ok (tb := tb) H O 60).2 fd.scope.names body
  rw [← z.h2] at run
  refine wpAny_mono (run _ ℓ _ σ ρ { s with heap := hh, toks := tk } _ _ hq X1 F1 (fun z e => e) (room_deeper RR)) (fun fl s2 hp => ?_) fun _ _ y => y
  refine hp.elim fun fl' ℓ' σ' ρ' h' tk' hq X' t' F' rf => ?_
  have nown : ∀ b o, s.heap.get? b = some o → ¬ own (newEnv fd.scope s.heap.objs.size fd.globals (cellsFrom (s.heap.objs.size + 1) fd.scope.names []) (fd.qualname ++ ".<locals>.") (some f) fd.code none fd.builtins) b := by
    rintro b o hb (e | ⟨z, e⟩)
    · exact (lt b o hb).1 e
    · exact (lt b o hb).2 (x.above z b (mem_of_lookup e))
  have T : Stp ρ s.heap ρ' h' := by
    refine ⟨?_, fun b o hb hg => t'.keep b o hb (nown b o hg) (hk b o hg)⟩
    obtain ⟨e, he, hn⟩ := t'.ext
    have down : ∀ b, hh.get? b = none → s.heap.get? b = none := fun b hb => by
      cases q : s.heap.get? b with
      | none => rfl
      | some o => rw [hk b o q] at hb; cases hb
    exact ⟨e, he, fun p hp => ⟨down _ (hn p hp).1, down _ (hn p hp).2⟩⟩
  cases fl' with
  | next =>
    dsimp only [FlR] at rf
    subst rf
    exact hR _ _ (.mk' hq X' T (by first | exact rfl | exact ⟨_, rfl⟩))
  | ret v =>
    obtain ⟨y, rfl, ry⟩ := rf
    exact hR _ _ (.mk' hq X' T ry)
end
end Mine

end
section
open PySem PySem.W PySem.Calls PyProof.Rows
set_option Elab.async false
set_option maxRecDepth 100000
namespace Mine

section
variable {prog : Program} {w : World} {cx : Cx} {tb : Tb} {C : Or} {n : Nat}

theorem call_cls {A : Around} {s : Shared} {ρ : Rho} {σ : S} {f : Str} {a : Addr} {vs : List V} {xs : List Value} {Qm : V → S → Prop} {R : Result → Shared → Prop} (O : OrC prog w cx C n) (he : clsEnt cx.K f a = true)
    (RR : Room A (n + 1)) (X : Sim cx ρ σ s.heap) (r : VRs s.heap ρ vs xs)
    (hq : C f "__init__" (.ref σ.length :: vs) (fun v σ' => v = .none ∧ Qm (.ref σ.length) σ') (σ ++ [.inst f []])) (hR : ∀ v s', Pst cx VR ρ s Qm v s' → R (.ok (.ret v)) s') : codeAny (model prog w) A (.call (.ref a) ⟨xs, []⟩) R s := by
  unfold clsEnt at he
  simp only [Bool.and_eq_true, bne_iff_ne, ne_eq, beq_iff_eq] at he
  obtain ⟨⟨⟨h1, h2⟩, h3⟩, h4⟩ := he
  split at h4
  · rename_i fI hI
    have h4 := beq_iff_eq.mp h4
    obtain ⟨hh, g, d, t, os⟩ := s
    have X : Sim cx ρ σ hh := X
    have KI : cx.K.In hh := Sim.KIn (s := ⟨hh, g, d, t, os⟩) X
    refine make_core (makes_of KI h3) (looks_findIn KI hI) (fun self => bind_fn KI self h4) (.inl rfl) ?_
    have k : ∀ b o, hh.get? b = some o → ((hh.push emptyDict).push (instObj a hh.objs.size)).get? b = some o := fun b o e => Heap.get?_push_of_some _ (Heap.get?_push_of_some _ e)
    have gx : ((hh.push emptyDict).push (instObj a hh.objs.size)).get? (hh.objs.size + 1) = some (instObj a hh.objs.size) := by heap_get
    have gd : ((hh.push emptyDict).push (instObj a hh.objs.size)).get? hh.objs.size = some emptyDict := Heap.get?_push_of_some _ (Heap.get?_push_size _ rfl)
    have n1 : hh.get? (hh.objs.size + 1) = none := by
      cases q : hh.get? (hh.objs.size + 1) with
      | none => rfl
      | some o => exact absurd (Heap.lt_size q) (Nat.not_lt_of_le (Nat.le_succ _))
    have n2 : hh.get? hh.objs.size = none := get_size_none _
    have X1 : Sim cx (ρ ++ [(hh.objs.size + 1, hh.objs.size)]) (σ ++ [.inst f []]) ((hh.push emptyDict).push (instObj a hh.objs.size)) :=
      X.add k n1 n2 ⟨Nat.succ_ne_self _, a, [], _, h2, gx, gd, rfl⟩
    have t1 : Stp ρ hh (ρ ++ [(hh.objs.size + 1, hh.objs.size)]) ((hh.push emptyDict).push (instObj a hh.objs.size)) := Stp.add k n1 n2
    have hf : fval cx.K f "__init__" = some (.ref fI) := by
      unfold fval; rw [if_neg h1, h2]; show (findIn cx.K (.ref a) "__init__").join = _; rw [hI]; rfl
    have rs : VRs ((hh.push emptyDict).push (instObj a hh.objs.size)) (ρ ++ [(hh.objs.size + 1, hh.objs.size)]) (.ref σ.length :: vs) (.ref (hh.objs.size + 1) :: xs) := by
      dsimp only [VRs]
      refine ⟨_, _, rfl, ?_, t1.vrs X r⟩
      dsimp only [VR]
      refine ⟨(hh.objs.size + 1, hh.objs.size), ?_, rfl⟩
      rw [← X.len]; simp
    refine O f "__init__" _ _ _ hq _ hf (A.under _) ⟨(hh.push emptyDict).push (instObj a hh.objs.size), g, d, t, os⟩ _ _ _ (room_make RR) X1 rs fun v s' hp => ?_
    obtain ⟨b, σ2, ρ2, h2', tk2, rfl, ⟨rfl, hq⟩, X2, t2, r2⟩ := hp
    dsimp only [VR] at r2
    subst r2
    refine ⟨rfl, hR _ _ ?_⟩
    refine ⟨.ref σ.length, σ2, ρ2, h2', tk2, rfl, hq, X2, t1.trans X1 t2, ?_⟩
    dsimp only [VR]
    refine ⟨(hh.objs.size + 1, hh.objs.size), t2.get _ _ ?_, rfl⟩
    rw [← X.len]; simp
  · cases h4

theorem OrC_all (H : TbOK cx.K tb) : ∀ n, OrC prog w cx (callW (TT cx.K) tb n) n
  | 0 => by
    intro c f vs Qm σ hq
    dsimp only [callW] at hq
  | n + 1 => by
    have ih := OrC_all H n
    intro c f vs Qm σ hq fv hf A s ρ xs R RR X r hR
    dsimp only [callW] at hq
    split at hq
    · rename_i fn ht
      unfold TT at ht
      rw [hf] at ht
      split at hq
      · rename_i ℓ hb
        split at ht
        · rename_i a hv
          split at ht
          · rename_i oc od fd sl hk
            cases hfe : fnEnt cx.K fd with
            | none => rw [hfe] at ht; cases ht
            | some fn' =>
              rw [hfe] at ht
              simp only [Option.map_some, Option.some.injEq, Ent.fn.injEq] at ht
              subst ht
              have hv' : fv = .ref a := by simpa using hv
              subst hv'
              exact call_fn H ih.ok hfe (X.KIn _ _ hk) rfl RR X hb r hq hR
          · split at ht <;> cases ht
          · cases ht
        · cases ht
      · exact hq.elim
    · rename_i ht
      unfold TT at ht
      rw [hf] at ht
      split at ht
      · rename_i a hv
        split at ht
        · rename_i oc od fd sl hk
          cases hfe : fnEnt cx.K fd with
          | none => rw [hfe] at ht; cases ht
          | some fn' => rw [hfe] at ht; cases ht
        · split at ht
          · rename_i hc
            simp only [Bool.and_eq_true, beq_iff_eq] at hc
            have hv' : fv = .ref a := by simpa using hv
            subst hv'
            exact call_cls ih hc.2 RR X r hq hR
          · cases ht
        · cases ht
      · cases ht
    · exact hq.elim
end
end Mine

end
section
open PySem PySem.W
set_option Elab.async false
namespace Mine
noncomputable def b_parts_of : Fn := ⟨["told"], [], [
  .assign "kind" (.sub (.var "told") (.lit (.int 0))),
  .ite (.cmp .Eq (.var "kind") (.lit (.str "ref"))) [
    .ret (.tup [(.sub (.var "told") (.lit (.int 3)))])] [],
  .ite (.andor false [(.cmp .Eq (.var "kind") (.lit (.str "box"))), (.cmp .Eq (.var "kind") (.lit (.str "array")))]) [
    .ret (.tup [(.sub (.var "told") (.lit (.int 1)))])] [],
  .ite (.cmp .Eq (.var "kind") (.lit (.str "tuple"))) [
    .ret (.sub (.var "told") (.lit (.int 1)))] [],
  .ret (.ite (.cmp .Eq (.var "kind") (.lit (.str "adt"))) (.sub (.var "told") (.lit (.int 3))) (.tup []))]⟩

noncomputable def b_needs_drop : Fn := ⟨["told", "world"], [], [
  .assign "seen" (.lst []),
  .assign "left" (.lst [(.var "told")]),
  .while (.cmp .NotEq (.var "left") (.lst [])) [
    .assign "here" (.lmeth .pop (.var "left") []),
    .ite (.cmp .In (.sub (.var "here") (.lit (.int 0))) (.tup [(.lit (.str "box")), (.lit (.str "param"))])) [
      .ret (.lit (.bool true))] [],
    .ite (.cmp .In (.sub (.var "here") (.lit (.int 0))) (.tup [(.lit (.str "tuple")), (.lit (.str "array"))])) [
      .expr (.lmeth .extend (.var "left") [(.call "parts_of" [(.var "here")])])] [
      .ite (.andor true [(.cmp .Eq (.sub (.var "here") (.lit (.int 0))) (.lit (.str "adt"))), (.cmp .NotIn (.var "here") (.var "seen"))]) [
        .expr (.lmeth .append (.var "seen") [(.var "here")]),
        .ite (.call "has_drop" [(.var "here"), (.var "world")]) [
          .ret (.lit (.bool true))] [],
        .for "variant" (.blt .range [(.blt .len [(.attr (.sub (.attr (.var "world") "adts") (.sub (.var "here") (.lit (.int 1)))) "variants")])]) [
          .stuck]] []]],
  .ret (.lit (.bool false))]⟩

noncomputable def b_sum_of : Fn := ⟨["types", "world", "deep"], [], [
  .assign "total" (.lit (.int 0)),
  .for "told" (.var "types") [
    .assign "total" (.bin .Add (.var "total") (.call "size_within" [(.var "told"), (.var "world"), (.var "deep")]))],
  .ret (.var "total")]⟩

noncomputable def b_size_of : Fn := ⟨["told", "world"], [], [
  .ret (.call "size_within" [(.var "told"), (.var "world"), (.lit (.int 0))])]⟩

noncomputable def b_size_within : Fn := ⟨["told", "world", "deep"], [], [
  .ite (.cmp .Gt (.var "deep") (.glob "MOST_DEEP_layout")) [
    .stuck] [],
  .assign "kind" (.sub (.var "told") (.lit (.int 0))),
  .ite (.cmp .In (.var "kind") (.tup [(.lit (.str "int")), (.lit (.str "bool")), (.lit (.str "ref")), (.lit (.str "box"))])) [
    .ret (.lit (.int 1))] [],
  .ite (.cmp .Eq (.var "kind") (.lit (.str "never"))) [
    .ret (.lit (.int 0))] [],
  .ite (.cmp .Eq (.var "kind") (.lit (.str "tuple"))) [
    .ret (.call "sum_of" [(.sub (.var "told") (.lit (.int 1))), (.var "world"), (.bin .Add (.var "deep") (.lit (.int 1)))])] [],
  .ite (.cmp .Eq (.var "kind") (.lit (.str "array"))) [
    .ret (.bin .Mult (.sub (.var "told") (.lit (.int 2))) (.call "size_within" [(.sub (.var "told") (.lit (.int 1))), (.var "world"), (.bin .Add (.var "deep") (.lit (.int 1)))]))] [],
  .ite (.cmp .NotEq (.var "kind") (.lit (.str "adt"))) [
    .stuck] [],
  .assign "found" (.sub (.attr (.var "world") "adts") (.sub (.var "told") (.lit (.int 1)))),
  .assign "sizes" (.comp (.call "sum_of" [(.call "part_types" [(.var "told"), (.var "variant"), (.var "world")]), (.var "world"), (.bin .Add (.var "deep") (.lit (.int 1)))]) "variant" (.blt .range [(.blt .len [(.attr (.var "found") "variants")])]) []),
  .ite (.not (.attr (.var "found") "is_enum")) [
    .ret (.sub (.var "sizes") (.lit (.int 0)))] [],
  .ret (.bin .Add (.lit (.int 1)) (.blt .max [(.bin .Add (.var "sizes") (.lst [(.lit (.int 0))]))]))]⟩

noncomputable def b_part_types : Fn := ⟨["told", "variant", "world"], [], [
  .ite (.cmp .Eq (.sub (.var "told") (.lit (.int 0))) (.lit (.str "tuple"))) [
    .ret (.blt .list [(.sub (.var "told") (.lit (.int 1)))])] [],
  .stuck]⟩

noncomputable def b_first_place : Fn := ⟨["told", "world"], [], [
  .ret (.ite (.andor true [(.cmp .Eq (.sub (.var "told") (.lit (.int 0))) (.lit (.str "adt"))), (.attr (.sub (.attr (.var "world") "adts") (.sub (.var "told") (.lit (.int 1)))) "is_enum")]) (.lit (.int 1)) (.lit (.int 0)))]⟩

noncomputable def b_offset_of_field : Fn := ⟨["told", "variant", "number", "world"], [], [
  .assign "types" (.call "part_types" [(.var "told"), (.var "variant"), (.var "world")]),
  .ret (.bin .Add (.call "first_place" [(.var "told"), (.var "world")]) (.call "sum_of" [(.slice (.var "types") (.lit (.none)) (.var "number")), (.var "world"), (.lit (.int 0))]))]⟩

noncomputable def b_offset_of_item : Fn := ⟨["told", "number", "world"], [], [
  .ret (.bin .Mult (.var "number") (.call "size_of" [(.sub (.var "told") (.lit (.int 1))), (.var "world")]))]⟩

noncomputable def b_offset_of_part : Fn := ⟨["t", "variant", "k", "world"], [], [
  .ite (.cmp .Eq (.sub (.var "t") (.lit (.int 0))) (.lit (.str "array"))) [
    .ret (.call "offset_of_item" [(.var "t"), (.var "k"), (.var "world")])] [],
  .ret (.call "offset_of_field" [(.var "t"), (.var "variant"), (.var "k"), (.var "world")])]⟩

noncomputable def b_Stack___init__ : Fn := ⟨["self", "tag"], [], [
  .setattr (.var "self") "items" (.lst [(.tup [(.var "tag"), (.lit (.str "unique"))])])]⟩

noncomputable def b_Stack_place : Fn := ⟨["self", "tag"], [], [
  .for "at" (.blt .range [(.bin .Sub (.blt .len [(.attr (.var "self") "items")]) (.lit (.int 1))), (.neg (.lit (.int 1))), (.neg (.lit (.int 1)))]) [
    .ite (.cmp .Eq (.sub (.sub (.attr (.var "self") "items") (.var "at")) (.lit (.int 0))) (.var "tag")) [
      .ret (.var "at")] []],
  .stuck]⟩

noncomputable def b_Stack_read : Fn := ⟨["self", "tag"], [], [
  .assign "at" (.meth (.var "self") "place" [(.var "tag")]),
  .assign "kept" (.comp (.var "row") "row" (.slice (.attr (.var "self") "items") (.bin .Add (.var "at") (.lit (.int 1))) (.lit (.none))) [(.cmp .NotEq (.sub (.var "row") (.lit (.int 1))) (.lit (.str "unique")))]),
  .setattr (.var "self") "items" (.bin .Add (.slice (.attr (.var "self") "items") (.lit (.none)) (.bin .Add (.var "at") (.lit (.int 1)))) (.var "kept"))]⟩

noncomputable def b_Stack_write : Fn := ⟨["self", "tag"], [], [
  .assign "at" (.meth (.var "self") "place" [(.var "tag")]),
  .ite (.cmp .Eq (.sub (.sub (.attr (.var "self") "items") (.var "at")) (.lit (.int 1))) (.lit (.str "shared"))) [
    .stuck] [],
  .setattr (.var "self") "items" (.bin .Add (.slice (.attr (.var "self") "items") (.lit (.none)) (.var "at")) (.lst [(.tup [(.var "tag"), (.lit (.str "unique"))])]))]⟩

noncomputable def b_pointer : Fn := ⟨["allocation", "offset", "tag"], [], [
  .ret (.tup [(.lit (.str "pointer")), (.var "allocation"), (.var "offset"), (.var "tag")])]⟩

noncomputable def b_moved : Fn := ⟨["place", "many"], [], [
  .ret (.tup [(.lit (.str "pointer")), (.sub (.var "place") (.lit (.int 1))), (.bin .Add (.sub (.var "place") (.lit (.int 2))) (.var "many")), (.sub (.var "place") (.lit (.int 3)))])]⟩

noncomputable def b_Allocation___init__ : Fn := ⟨["self", "size"], [], [
  .setattr (.var "self") "cells" (.bin .Mult (.lst [(.glob "UNINIT")]) (.var "size")),
  .setattr (.var "self") "stacks" (.comp (.call "Stack" [(.glob "OWNER")]) "at" (.blt .range [(.var "size")]) []),
  .setattr (.var "self") "is_live" (.lit (.bool true))]⟩

noncomputable def b_Memory___init__ : Fn := ⟨["self"], [], [
  .setattr (.var "self") "allocations" (.lst []),
  .setattr (.var "self") "tags" (.lit (.int 0))]⟩

noncomputable def b_Memory_allocate : Fn := ⟨["self", "size"], [], [
  .expr (.lmeth .append (.attr (.var "self") "allocations") [(.call "Allocation" [(.var "size")])]),
  .ret (.bin .Sub (.blt .len [(.attr (.var "self") "allocations")]) (.lit (.int 1)))]⟩

noncomputable def b_Memory_base : Fn := ⟨["self", "number"], [], [
  .ret (.call "pointer" [(.var "number"), (.lit (.int 0)), (.glob "OWNER")])]⟩

noncomputable def b_Memory_is_live : Fn := ⟨["self", "number"], [], [
  .ret (.andor true [(.cmp2 .LtE .Lt (.lit (.int 0)) (.var "number") (.blt .len [(.attr (.var "self") "allocations")])), (.attr (.sub (.attr (.var "self") "allocations") (.var "number")) "is_live")])]⟩

noncomputable def b_Memory_live_count : Fn := ⟨["self"], [], [
  .ret (.blt .len [(.comp (.var "one") "one" (.attr (.var "self") "allocations") [(.attr (.var "one") "is_live")])])]⟩

noncomputable def b_Memory_free : Fn := ⟨["self", "number"], [], [
  .ite (.not (.meth (.var "self") "is_live" [(.var "number")])) [
    .stuck] [],
  .setattr (.sub (.attr (.var "self") "allocations") (.var "number")) "is_live" (.lit (.bool false))]⟩

noncomputable def b_Memory_room : Fn := ⟨["self", "place", "size"], [], [
  .ite (.not (.meth (.var "self") "is_live" [(.sub (.var "place") (.lit (.int 1)))])) [
    .stuck] [],
  .assign "found" (.sub (.attr (.var "self") "allocations") (.sub (.var "place") (.lit (.int 1)))),
  .ite (.andor false [(.cmp .Lt (.sub (.var "place") (.lit (.int 2))) (.lit (.int 0))), (.cmp .Gt (.bin .Add (.sub (.var "place") (.lit (.int 2))) (.var "size")) (.blt .len [(.attr (.var "found") "cells")]))]) [
    .stuck] [],
  .ret (.var "found")]⟩

noncomputable def b_Memory_read : Fn := ⟨["self", "place"], [], [
  .assign "found" (.meth (.var "self") "room" [(.var "place"), (.lit (.int 1))]),
  .expr (.meth (.sub (.attr (.var "found") "stacks") (.sub (.var "place") (.lit (.int 2)))) "read" [(.sub (.var "place") (.lit (.int 3)))]),
  .ret (.sub (.attr (.var "found") "cells") (.sub (.var "place") (.lit (.int 2))))]⟩

noncomputable def b_Memory_write : Fn := ⟨["self", "place", "value"], [], [
  .assign "found" (.meth (.var "self") "room" [(.var "place"), (.lit (.int 1))]),
  .expr (.meth (.sub (.attr (.var "found") "stacks") (.sub (.var "place") (.lit (.int 2)))) "write" [(.sub (.var "place") (.lit (.int 3)))]),
  .setitem (.attr (.var "found") "cells") (.sub (.var "place") (.lit (.int 2))) (.var "value")]⟩

noncomputable def b_Memory_read_all : Fn := ⟨["self", "place", "size"], [], [
  .ret (.comp (.meth (.var "self") "read" [(.call "moved" [(.var "place"), (.var "at")])]) "at" (.blt .range [(.var "size")]) [])]⟩

noncomputable def b_Memory_write_all : Fn := ⟨["self", "place", "values"], [], [
  .for "at" (.blt .range [(.blt .len [(.var "values")])]) [
    .expr (.meth (.var "self") "write" [(.call "moved" [(.var "place"), (.var "at")]), (.sub (.var "values") (.var "at"))])]]⟩

noncomputable def b_is_enum : Fn := ⟨["t", "world"], [], [
  .ret (.andor true [(.cmp .Eq (.sub (.var "t") (.lit (.int 0))) (.lit (.str "adt"))), (.attr (.sub (.attr (.var "world") "adts") (.sub (.var "t") (.lit (.int 1)))) "is_enum")])]⟩

noncomputable def b_parts_told : Fn := ⟨["t", "variant", "world"], [], [
  .ite (.cmp .Eq (.sub (.var "t") (.lit (.int 0))) (.lit (.str "tuple"))) [
    .ret (.blt .list [(.sub (.var "t") (.lit (.int 1)))])] [],
  .ite (.cmp .Eq (.sub (.var "t") (.lit (.int 0))) (.lit (.str "array"))) [
    .ret (.bin .Mult (.lst [(.sub (.var "t") (.lit (.int 1)))]) (.sub (.var "t") (.lit (.int 2))))] [],
  .stuck]⟩

noncomputable def b_is_of_parts : Fn := ⟨["t"], [], [
  .ret (.cmp .In (.sub (.var "t") (.lit (.int 0))) (.tup [(.lit (.str "tuple")), (.lit (.str "array")), (.lit (.str "adt"))]))]⟩

noncomputable def b_parts_of_cells : Fn := ⟨["t", "cells", "world"], [], [
  .assignT ["variant", "at"] (.tup [(.lit (.none)), (.lit (.int 0))]),
  .ite (.call "is_enum" [(.var "t"), (.var "world")]) [
    .assignT ["variant", "at"] (.tup [(.sub (.var "cells") (.lit (.int 0))), (.lit (.int 1))])] [],
  .assign "found" (.lst []),
  .for "each" (.call "parts_told" [(.var "t"), (.var "variant"), (.var "world")]) [
    .assign "many" (.call "size_of" [(.var "each"), (.var "world")]),
    .expr (.lmeth .append (.var "found") [(.slice (.var "cells") (.var "at") (.bin .Add (.var "at") (.var "many")))]),
    .aug .Add "at" (.var "many")],
  .ret (.tup [(.var "variant"), (.var "found")])]⟩

noncomputable def b_told_value : Fn := ⟨["t", "cells", "world", "memory"], [], [
  .ite (.cmp .In (.sub (.var "t") (.lit (.int 0))) (.tup [(.lit (.str "box")), (.lit (.str "ref"))])) [
    .assign "inner" (.ite (.cmp .Eq (.sub (.var "t") (.lit (.int 0))) (.lit (.str "box"))) (.sub (.var "t") (.lit (.int 1))) (.sub (.var "t") (.lit (.int 3)))),
    .ret (.tup [(.sub (.var "t") (.lit (.int 0))), (.call "told_value" [(.var "inner"), (.meth (.var "memory") "read_all" [(.sub (.var "cells") (.lit (.int 0))), (.call "size_of" [(.var "inner"), (.var "world")])]), (.var "world"), (.var "memory")])])] [],
  .ite (.not (.call "is_of_parts" [(.var "t")])) [
    .ret (.sub (.var "cells") (.lit (.int 0)))] [],
  .assignT ["variant", "rows"] (.call "parts_of_cells" [(.var "t"), (.var "cells"), (.var "world")]),
  .assign "types_now" (.call "parts_told" [(.var "t"), (.var "variant"), (.var "world")]),
  .assign "values" (.blt .tuple [(.comp (.call "told_value" [(.sub (.var "types_now") (.var "k")), (.sub (.var "rows") (.var "k")), (.var "world"), (.var "memory")]) "k" (.blt .range [(.blt .len [(.var "rows")])]) [])]),
  .ite (.cmp .NotEq (.sub (.var "t") (.lit (.int 0))) (.lit (.str "adt"))) [
    .ret (.var "values")] [],
  .ret (.tup [(.ite (.cmp .Is (.var "variant") (.lit (.none))) (.lit (.int 0)) (.var "variant")), (.var "values")])]⟩

noncomputable def b_jobs_of : Fn := ⟨["pointer", "t"], [], [
  .ret (.lst [(.tup [(.lit (.str "gone")), (.var "pointer"), (.var "t")]), (.tup [(.lit (.str "drop")), (.var "pointer"), (.var "t")])])]⟩

noncomputable def b_DropGlue___init__ : Fn := ⟨["self", "places"], [], [
  .setattr (.var "self") "places" (.var "places"),
  .setattr (.var "self") "world" (.attr (.var "places") "world")]⟩

noncomputable def b_DropGlue_step : Fn := ⟨["self", "jobs"], [], [
  .assignT ["kind", "pointer", "t"] (.lmeth .pop (.var "jobs") []),
  .ite (.cmp .Eq (.var "kind") (.lit (.str "gone"))) [
    .expr (.meth (.attr (.var "self") "places") "leave" [(.var "pointer"), (.var "t")])] [
    .ite (.cmp .Eq (.var "kind") (.lit (.str "free"))) [
      .expr (.meth (.attr (.attr (.var "self") "places") "memory") "free" [(.sub (.meth (.attr (.var "self") "places") "led" [(.var "pointer")]) (.lit (.int 1)))])] [
      .ite (.cmp .Eq (.var "kind") (.lit (.str "parts"))) [
        .expr (.meth (.var "self") "put_parts" [(.var "jobs"), (.var "pointer"), (.var "t")])] [
        .ite (.call "needs_drop" [(.var "t"), (.attr (.var "self") "world")]) [
          .ret (.meth (.var "self") "dropped" [(.var "jobs"), (.var "pointer"), (.var "t")])] []]]],
  .ret (.lit (.none))]⟩

noncomputable def b_DropGlue_dropped : Fn := ⟨["self", "jobs", "pointer", "t"], [], [
  .ite (.cmp .Eq (.sub (.var "t") (.lit (.int 0))) (.lit (.str "box"))) [
    .expr (.lmeth .append (.var "jobs") [(.tup [(.lit (.str "free")), (.var "pointer"), (.var "t")])]),
    .expr (.lmeth .append (.var "jobs") [(.tup [(.lit (.str "drop")), (.meth (.attr (.var "self") "places") "led" [(.var "pointer")]), (.sub (.var "t") (.lit (.int 1)))])]),
    .ret (.lit (.none))] [],
  .expr (.lmeth .append (.var "jobs") [(.tup [(.lit (.str "parts")), (.var "pointer"), (.var "t")])]),
  .assign "own" (.ite (.cmp .Eq (.sub (.var "t") (.lit (.int 0))) (.lit (.str "adt"))) (.call "drop_impl" [(.attr (.var "self") "world"), (.var "t")]) (.lit (.none))),
  .ite (.cmp .Is (.var "own") (.lit (.none))) [
    .ret (.lit (.none))] [],
  .assign "reference" (.meth (.attr (.attr (.var "self") "places") "memory") "retagged" [(.var "pointer"), (.call "size_of" [(.var "t"), (.attr (.var "self") "world")]), (.lit (.str "unique"))]),
  .ret (.tup [(.call "key_of" [(.sub (.var "own") (.lit (.int 1))), (.sub (.var "own") (.lit (.int 2)))]), (.var "reference")])]⟩

noncomputable def b_DropGlue_put_parts : Fn := ⟨["self", "jobs", "pointer", "t"], [], [
  .assign "variant" (.lit (.none)),
  .ite (.call "is_enum" [(.var "t"), (.attr (.var "self") "world")]) [
    .assign "variant" (.meth (.attr (.attr (.var "self") "places") "memory") "known" [(.var "pointer")])] [],
  .assign "types_now" (.call "parts_told" [(.var "t"), (.var "variant"), (.attr (.var "self") "world")]),
  .for "k" (.blt .range [(.bin .Sub (.blt .len [(.var "types_now")]) (.lit (.int 1))), (.neg (.lit (.int 1))), (.neg (.lit (.int 1)))]) [
    .assign "at" (.call "offset_of_part" [(.var "t"), (.var "variant"), (.var "k"), (.attr (.var "self") "world")]),
    .expr (.lmeth .append (.var "jobs") [(.tup [(.lit (.str "drop")), (.call "moved" [(.var "pointer"), (.var "at")]), (.sub (.var "types_now") (.var "k"))])])]]⟩

noncomputable def b_is_pointer : Fn := ⟨["cell"], [], [
  .ret (.andor true [(.isTup (.var "cell")), (.cmp .Eq (.sub (.var "cell") (.lit (.int 0))) (.lit (.str "pointer")))])]⟩

noncomputable def b_Places___init__ : Fn := ⟨["self", "memory", "world"], [], [
  .setattr (.var "self") "memory" (.var "memory"),
  .setattr (.var "self") "world" (.var "world")]⟩

noncomputable def b_Places_led : Fn := ⟨["self", "pointer"], [], [
  .assign "cell" (.meth (.attr (.var "self") "memory") "read" [(.var "pointer")]),
  .ite (.not (.call "is_pointer" [(.var "cell")])) [
    .stuck] [],
  .ret (.var "cell")]⟩

noncomputable def b_Places_leave : Fn := ⟨["self", "pointer", "t"], [], [
  .expr (.meth (.attr (.var "self") "memory") "write_all" [(.var "pointer"), (.bin .Mult (.lst [(.glob "UNINIT")]) (.call "size_of" [(.var "t"), (.attr (.var "self") "world")]))])]⟩

noncomputable def b_World___init__ : Fn := ⟨["self", "modules"], [.none], [
  .setattr (.var "self") "modules" (.var "modules"),
  .setattr (.var "self") "adts" .dct,
  .setattr (.var "self") "variants" .dct,
  .setattr (.var "self") "sigs" .dct,
  .setattr (.var "self") "traits" .dct,
  .setattr (.var "self") "impls" (.lst []),
  .setattr (.var "self") "consts" .dct,
  .setattr (.var "self") "bodies" .dct]⟩

noncomputable def b__law_pool : Fn := ⟨["script", "k"], [], [
  .assign "cell" (.lit (.int 0)),
  .ite (.cmp .Lt (.var "k") (.blt .len [(.var "script")])) [
    .assign "cell" (.sub (.var "script") (.var "k"))] [],
  .assign "big" (.blt .max [(.blt .int [(.var "cell")]), (.blt .int [(.bin .Sub (.neg (.lit (.int 1))) (.var "cell"))])]),
  .assign "mixed" (.bin .Mod (.blt .int [(.bin .Mult (.bin .Add (.bin .Add (.bin .Add (.bin .Mod (.blt .int [(.var "big")]) (.lit (.int 2147483629))) (.bin .Mult (.bin .Mult (.lit (.int 7919)) (.var "k")) (.var "k"))) (.bin .Mult (.lit (.int 31)) (.var "k"))) (.lit (.int 17))) (.lit (.int 48271)))]) (.lit (.int 2147483647))),
  .ret (.lst [(.bin .Mult (.var "big") (.blt .int [(.cmp .GtE (.var "big") (.bin .Pow (.lit (.int 10)) (.lit (.int 18))))])), (.var "mixed")])]⟩

noncomputable def b__law_take : Fn := ⟨["source", "top"], [], [
  .ite (.cmp .Gt (.sub (.var "source") (.lit (.int 0))) (.lit (.int 0))) [
    .assign "drawn" (.bin .Mod (.blt .int [(.sub (.var "source") (.lit (.int 0)))]) (.var "top")),
    .setitem (.var "source") (.lit (.int 0)) (.bin .FloorDiv (.sub (.var "source") (.lit (.int 0))) (.var "top")),
    .ret (.var "drawn")] [],
  .setitem (.var "source") (.lit (.int 1)) (.bin .Mod (.blt .int [(.bin .Add (.bin .Mult (.sub (.var "source") (.lit (.int 1))) (.lit (.int 39373))) (.lit (.int 7)))]) (.lit (.int 2147483647))),
  .ret (.bin .Mod (.blt .int [(.bin .FloorDiv (.bin .Mod (.blt .int [(.bin .Mult (.sub (.var "source") (.lit (.int 1))) (.sub (.var "source") (.lit (.int 1))))]) (.lit (.int 2147483629))) (.lit (.int 32)))]) (.var "top"))]⟩

noncomputable def b__law_one : Fn := ⟨["source", "things"], [], [
  .ret (.sub (.var "things") (.call "_law_take" [(.var "source"), (.blt .len [(.var "things")])]))]⟩

noncomputable def b__law_type : Fn := ⟨["source", "deep"], [], [
  .assign "way" (.call "_law_take" [(.var "source"), (.lit (.int 7))]),
  .ite (.andor false [(.cmp .Eq (.var "deep") (.lit (.int 0))), (.cmp .Lt (.var "way") (.lit (.int 1)))]) [
    .ret (.call "_law_one" [(.var "source"), (.lst [(.tup [(.lit (.str "int")), (.lit (.str "u8"))]), (.tup [(.lit (.str "bool"))])])])] [],
  .ite (.cmp .Lt (.var "way") (.lit (.int 4))) [
    .ret (.tup [(.lit (.str "box")), (.call "_law_type" [(.var "source"), (.bin .Sub (.var "deep") (.lit (.int 1)))])])] [],
  .ite (.cmp .Lt (.var "way") (.lit (.int 6))) [
    .ret (.tup [(.lit (.str "tuple")), (.blt .tuple [(.comp (.call "_law_type" [(.var "source"), (.bin .Sub (.var "deep") (.lit (.int 1)))]) "turn" (.blt .range [(.bin .Add (.lit (.int 1)) (.call "_law_take" [(.var "source"), (.lit (.int 3))]))]) [])])])] [],
  .ret (.tup [(.lit (.str "array")), (.call "_law_type" [(.var "source"), (.bin .Sub (.var "deep") (.lit (.int 1)))]), (.call "_law_take" [(.var "source"), (.lit (.int 4))])])]⟩

noncomputable def b__law_parts : Fn := ⟨["kind"], [], [
  .ite (.cmp .Eq (.sub (.var "kind") (.lit (.int 0))) (.lit (.str "tuple"))) [
    .ret (.blt .list [(.sub (.var "kind") (.lit (.int 1)))])] [],
  .ret (.ite (.cmp .Eq (.sub (.var "kind") (.lit (.int 0))) (.lit (.str "array"))) (.bin .Mult (.lst [(.sub (.var "kind") (.lit (.int 1)))]) (.sub (.var "kind") (.lit (.int 2)))) (.lit (.none)))]⟩

noncomputable def b__law_size : Fn := ⟨["kind"], [], [
  .assign "parts" (.call "_law_parts" [(.var "kind")]),
  .ret (.ite (.cmp .Is (.var "parts") (.lit (.none))) (.lit (.int 1)) (.blt .sum [(.comp (.call "_law_size" [(.var "one")]) "one" (.var "parts") [])]))]⟩

noncomputable def b__law_has_box : Fn := ⟨["kind"], [], [
  .ite (.cmp .Eq (.sub (.var "kind") (.lit (.int 0))) (.lit (.str "box"))) [
    .ret (.lit (.bool true))] [],
  .assign "inner" (.ite (.cmp .Eq (.sub (.var "kind") (.lit (.int 0))) (.lit (.str "tuple"))) (.blt .list [(.sub (.var "kind") (.lit (.int 1)))]) (.ite (.cmp .Eq (.sub (.var "kind") (.lit (.int 0))) (.lit (.str "array"))) (.lst [(.sub (.var "kind") (.lit (.int 1)))]) (.lst []))),
  .ret (.cmp .NotEq (.comp (.var "one") "one" (.var "inner") [(.call "_law_has_box" [(.var "one")])]) (.lst []))]⟩

noncomputable def b__law_jobs : Fn := ⟨["kind"], [], [
  .ite (.not (.call "_law_has_box" [(.var "kind")])) [
    .ret (.lit (.int 1))] [],
  .ite (.cmp .Eq (.sub (.var "kind") (.lit (.int 0))) (.lit (.str "box"))) [
    .ret (.bin .Add (.lit (.int 2)) (.call "_law_jobs" [(.sub (.var "kind") (.lit (.int 1)))]))] [],
  .ret (.bin .Add (.lit (.int 2)) (.blt .sum [(.comp (.call "_law_jobs" [(.var "one")]) "one" (.call "_law_parts" [(.var "kind")]) [])]))]⟩

noncomputable def b__law_value : Fn := ⟨["source", "memory", "kind"], [], [
  .ite (.cmp .Eq (.sub (.var "kind") (.lit (.int 0))) (.lit (.str "box"))) [
    .assignT ["cells", "told", "order"] (.call "_law_value" [(.var "source"), (.var "memory"), (.sub (.var "kind") (.lit (.int 1)))]),
    .assign "number" (.meth (.var "memory") "allocate" [(.blt .len [(.var "cells")])]),
    .expr (.meth (.var "memory") "write_all" [(.meth (.var "memory") "base" [(.var "number")]), (.var "cells")]),
    .ret (.tup [(.lst [(.meth (.var "memory") "base" [(.var "number")])]), (.tup [(.lit (.str "box")), (.var "told")]), (.bin .Add (.var "order") (.lst [(.var "number")]))])] [],
  .assign "parts" (.call "_law_parts" [(.var "kind")]),
  .ite (.cmp .Is (.var "parts") (.lit (.none))) [
    .assign "number" (.ite (.cmp .Eq (.sub (.var "kind") (.lit (.int 0))) (.lit (.str "int"))) (.call "_law_take" [(.var "source"), (.lit (.int 200))]) (.cmp .Eq (.call "_law_take" [(.var "source"), (.lit (.int 2))]) (.lit (.int 0)))),
    .ret (.tup [(.lst [(.var "number")]), (.var "number"), (.lst [])])] [],
  .assign "rows" (.comp (.call "_law_value" [(.var "source"), (.var "memory"), (.var "one")]) "one" (.var "parts") []),
  .assign "cells" (.comp2 (.var "cell") "row" (.var "rows") "cell" (.sub (.var "row") (.lit (.int 0)))),
  .ret (.tup [(.var "cells"), (.blt .tuple [(.comp (.sub (.var "row") (.lit (.int 1))) "row" (.var "rows") [])]), (.comp2 (.var "number") "row" (.var "rows") "number" (.sub (.var "row") (.lit (.int 2))))])]⟩

noncomputable def b__law_dropped_right : Fn := ⟨["memory", "home", "kind", "order"], [], [
  .assignT ["glue", "jobs", "many", "freed"] (.tup [(.call "DropGlue" [(.call "Places" [(.var "memory"), (.call "World" [])])]), (.call "jobs_of" [(.meth (.var "memory") "base" [(.var "home")]), (.var "kind")]), (.lit (.int 0)), (.lst [])]),
  .while (.andor true [(.cmp .NotEq (.var "jobs") (.lst [])), (.cmp .Lt (.var "many") (.lit (.int 400)))]) [
    .assign "ahead" (.comp (.var "number") "number" (.var "order") [(.meth (.var "memory") "is_live" [(.var "number")])]),
    .ite (.cmp .IsNot (.meth (.var "glue") "step" [(.var "jobs")]) (.lit (.none))) [
      .ret (.lit (.bool false))] [],
    .assign "freed" (.bin .Add (.var "freed") (.comp (.var "number") "number" (.var "ahead") [(.not (.meth (.var "memory") "is_live" [(.var "number")]))])),
    .assign "many" (.bin .Add (.var "many") (.lit (.int 1)))],
  .assign "cells" (.comp (.meth (.var "memory") "read" [(.call "moved" [(.meth (.var "memory") "base" [(.var "home")]), (.var "at")])]) "at" (.blt .range [(.call "_law_size" [(.var "kind")])]) []),
  .ite (.andor false [(.cmp .NotEq (.var "freed") (.var "order")), (.cmp .NotEq (.var "many") (.bin .Add (.lit (.int 1)) (.call "_law_jobs" [(.var "kind")])))]) [
    .ret (.lit (.bool false))] [],
  .ret (.andor true [(.cmp .Eq (.meth (.var "memory") "live_count" []) (.lit (.int 1))), (.cmp .Eq (.var "cells") (.bin .Mult (.lst [(.glob "UNINIT")]) (.blt .len [(.var "cells")])))])]⟩

noncomputable def b__law_array_right : Fn := ⟨["source", "kind"], [], [
  .assignT ["memory", "world"] (.tup [(.call "Memory" []), (.call "World" [])]),
  .assignT ["cells", "told", "order"] (.call "_law_value" [(.var "source"), (.var "memory"), (.var "kind")]),
  .assign "home" (.meth (.var "memory") "allocate" [(.call "size_of" [(.var "kind"), (.var "world")])]),
  .ite (.andor false [(.cmp .NotEq (.blt .len [(.var "cells")]) (.call "size_of" [(.var "kind"), (.var "world")])), (.cmp .NotEq (.call "_law_size" [(.var "kind")]) (.blt .len [(.var "cells")]))]) [
    .ret (.lit (.bool false))] [],
  .expr (.meth (.var "memory") "write_all" [(.meth (.var "memory") "base" [(.var "home")]), (.var "cells")]),
  .assign "size" (.call "_law_size" [(.sub (.var "kind") (.lit (.int 1)))]),
  .for "number" (.blt .range [(.sub (.var "kind") (.lit (.int 2)))]) [
    .assign "place" (.call "moved" [(.meth (.var "memory") "base" [(.var "home")]), (.call "offset_of_item" [(.var "kind"), (.var "number"), (.var "world")])]),
    .ite (.cmp .NotEq (.meth (.var "memory") "read_all" [(.var "place"), (.var "size")]) (.slice (.var "cells") (.bin .Mult (.var "number") (.var "size")) (.bin .Add (.bin .Mult (.var "number") (.var "size")) (.var "size")))) [
      .ret (.lit (.bool false))] []],
  .ite (.cmp .NotEq (.call "told_value" [(.var "kind"), (.var "cells"), (.var "world"), (.var "memory")]) (.var "told")) [
    .ret (.lit (.bool false))] [],
  .ret (.call "_law_dropped_right" [(.var "memory"), (.var "home"), (.var "kind"), (.var "order")])]⟩

noncomputable def b_law : Fn := ⟨["script"], [], [
  .assign "source" (.call "_law_pool" [(.var "script"), (.lit (.int 0))]),
  .for "kind" (.lst [(.tup [(.lit (.str "array")), (.tup [(.lit (.str "box")), (.tup [(.lit (.str "int")), (.lit (.str "u8"))])]), (.lit (.int 2))]), (.tup [(.lit (.str "array")), (.tup [(.lit (.str "tuple")), (.tup [(.tup [(.lit (.str "box")), (.tup [(.lit (.str "bool"))])]), (.tup [(.lit (.str "int")), (.lit (.str "u8"))])])]), (.lit (.int 3))]), (.tup [(.lit (.str "array")), (.tup [(.lit (.str "bool"))]), (.lit (.int 2))])]) [
    .ite (.not (.call "_law_array_right" [(.var "source"), (.var "kind")])) [
      .ret (.lit (.bool false))] []],
  .ret (.call "_law_array_right" [(.var "source"), (.tup [(.lit (.str "array")), (.call "_law_type" [(.var "source"), (.lit (.int 3))]), (.bin .Add (.lit (.int 2)) (.call "_law_take" [(.var "source"), (.lit (.int 2))]))])])]⟩

noncomputable def vUNINIT : V := .tup [.str "uninit"]
noncomputable def vMOST : Int := 40
structure Facts (T : Str → Str → Option Ent) (tb : Tb) : Prop where
  f_parts_of : T "" "parts_of" = some (.fn b_parts_of)
  f_needs_drop : T "" "needs_drop" = some (.fn b_needs_drop)
  f_sum_of : T "" "sum_of" = some (.fn b_sum_of)
  f_size_of : T "" "size_of" = some (.fn b_size_of)
  f_size_within : T "" "size_within" = some (.fn b_size_within)
  f_part_types : T "" "part_types" = some (.fn b_part_types)
  f_first_place : T "" "first_place" = some (.fn b_first_place)
  f_offset_of_field : T "" "offset_of_field" = some (.fn b_offset_of_field)
  f_offset_of_item : T "" "offset_of_item" = some (.fn b_offset_of_item)
  f_offset_of_part : T "" "offset_of_part" = some (.fn b_offset_of_part)
  f_Stack___init__ : T "Stack" "__init__" = some (.fn b_Stack___init__)
  f_Stack_place : T "Stack" "place" = some (.fn b_Stack_place)
  f_Stack_read : T "Stack" "read" = some (.fn b_Stack_read)
  f_Stack_write : T "Stack" "write" = some (.fn b_Stack_write)
  f_pointer : T "" "pointer" = some (.fn b_pointer)
  f_moved : T "" "moved" = some (.fn b_moved)
  f_Allocation___init__ : T "Allocation" "__init__" = some (.fn b_Allocation___init__)
  f_Memory___init__ : T "Memory" "__init__" = some (.fn b_Memory___init__)
  f_Memory_allocate : T "Memory" "allocate" = some (.fn b_Memory_allocate)
  f_Memory_base : T "Memory" "base" = some (.fn b_Memory_base)
  f_Memory_is_live : T "Memory" "is_live" = some (.fn b_Memory_is_live)
  f_Memory_live_count : T "Memory" "live_count" = some (.fn b_Memory_live_count)
  f_Memory_free : T "Memory" "free" = some (.fn b_Memory_free)
  f_Memory_room : T "Memory" "room" = some (.fn b_Memory_room)
  f_Memory_read : T "Memory" "read" = some (.fn b_Memory_read)
  f_Memory_write : T "Memory" "write" = some (.fn b_Memory_write)
  f_Memory_read_all : T "Memory" "read_all" = some (.fn b_Memory_read_all)
  f_Memory_write_all : T "Memory" "write_all" = some (.fn b_Memory_write_all)
  f_is_enum : T "" "is_enum" = some (.fn b_is_enum)
  f_parts_told : T "" "parts_told" = some (.fn b_parts_told)
  f_is_of_parts : T "" "is_of_parts" = some (.fn b_is_of_parts)
  f_parts_of_cells : T "" "parts_of_cells" = some (.fn b_parts_of_cells)
  f_told_value : T "" "told_value" = some (.fn b_told_value)
  f_jobs_of : T "" "jobs_of" = some (.fn b_jobs_of)
  f_DropGlue___init__ : T "DropGlue" "__init__" = some (.fn b_DropGlue___init__)
  f_DropGlue_step : T "DropGlue" "step" = some (.fn b_DropGlue_step)
  f_DropGlue_dropped : T "DropGlue" "dropped" = some (.fn b_DropGlue_dropped)
  f_DropGlue_put_parts : T "DropGlue" "put_parts" = some (.fn b_DropGlue_put_parts)
  f_is_pointer : T "" "is_pointer" = some (.fn b_is_pointer)
  f_Places___init__ : T "Places" "__init__" = some (.fn b_Places___init__)
  f_Places_led : T "Places" "led" = some (.fn b_Places_led)
  f_Places_leave : T "Places" "leave" = some (.fn b_Places_leave)
  f_World___init__ : T "World" "__init__" = some (.fn b_World___init__)
  f__law_pool : T "" "_law_pool" = some (.fn b__law_pool)
  f__law_take : T "" "_law_take" = some (.fn b__law_take)
  f__law_one : T "" "_law_one" = some (.fn b__law_one)
  f__law_type : T "" "_law_type" = some (.fn b__law_type)
  f__law_parts : T "" "_law_parts" = some (.fn b__law_parts)
  f__law_size : T "" "_law_size" = some (.fn b__law_size)
  f__law_has_box : T "" "_law_has_box" = some (.fn b__law_has_box)
  f__law_jobs : T "" "_law_jobs" = some (.fn b__law_jobs)
  f__law_value : T "" "_law_value" = some (.fn b__law_value)
  f__law_dropped_right : T "" "_law_dropped_right" = some (.fn b__law_dropped_right)
  f__law_array_right : T "" "_law_array_right" = some (.fn b__law_array_right)
  f_law : T "" "law" = some (.fn b_law)
  c_Stack : T "" "Stack" = some .cls
  n_Stack : tb.fn "Stack" = true
  c_Allocation : T "" "Allocation" = some .cls
  n_Allocation : tb.fn "Allocation" = true
  c_Memory : T "" "Memory" = some .cls
  n_Memory : tb.fn "Memory" = true
  c_DropGlue : T "" "DropGlue" = some .cls
  n_DropGlue : tb.fn "DropGlue" = true
  c_Places : T "" "Places" = some .cls
  n_Places : tb.fn "Places" = true
  c_World : T "" "World" = some .cls
  n_World : tb.fn "World" = true
  n_parts_of : tb.fn "parts_of" = true
  n_needs_drop : tb.fn "needs_drop" = true
  n_sum_of : tb.fn "sum_of" = true
  n_size_of : tb.fn "size_of" = true
  n_size_within : tb.fn "size_within" = true
  n_part_types : tb.fn "part_types" = true
  n_first_place : tb.fn "first_place" = true
  n_offset_of_field : tb.fn "offset_of_field" = true
  n_offset_of_item : tb.fn "offset_of_item" = true
  n_offset_of_part : tb.fn "offset_of_part" = true
  m_Stack_place : tb.mt "Stack" "place" = true
  m_Stack_read : tb.mt "Stack" "read" = true
  m_Stack_write : tb.mt "Stack" "write" = true
  n_pointer : tb.fn "pointer" = true
  n_moved : tb.fn "moved" = true
  m_Memory_allocate : tb.mt "Memory" "allocate" = true
  m_Memory_base : tb.mt "Memory" "base" = true
  m_Memory_is_live : tb.mt "Memory" "is_live" = true
  m_Memory_live_count : tb.mt "Memory" "live_count" = true
  m_Memory_free : tb.mt "Memory" "free" = true
  m_Memory_room : tb.mt "Memory" "room" = true
  m_Memory_read : tb.mt "Memory" "read" = true
  m_Memory_write : tb.mt "Memory" "write" = true
  m_Memory_read_all : tb.mt "Memory" "read_all" = true
  m_Memory_write_all : tb.mt "Memory" "write_all" = true
  n_is_enum : tb.fn "is_enum" = true
  n_parts_told : tb.fn "parts_told" = true
  n_is_of_parts : tb.fn "is_of_parts" = true
  n_parts_of_cells : tb.fn "parts_of_cells" = true
  n_told_value : tb.fn "told_value" = true
  n_jobs_of : tb.fn "jobs_of" = true
  m_DropGlue_step : tb.mt "DropGlue" "step" = true
  m_DropGlue_dropped : tb.mt "DropGlue" "dropped" = true
  m_DropGlue_put_parts : tb.mt "DropGlue" "put_parts" = true
  n_is_pointer : tb.fn "is_pointer" = true
  m_Places_led : tb.mt "Places" "led" = true
  m_Places_leave : tb.mt "Places" "leave" = true
  n__law_pool : tb.fn "_law_pool" = true
  n__law_take : tb.fn "_law_take" = true
  n__law_one : tb.fn "_law_one" = true
  n__law_type : tb.fn "_law_type" = true
  n__law_parts : tb.fn "_law_parts" = true
  n__law_size : tb.fn "_law_size" = true
  n__law_has_box : tb.fn "_law_has_box" = true
  n__law_jobs : tb.fn "_law_jobs" = true
  n__law_value : tb.fn "_law_value" = true
  n__law_dropped_right : tb.fn "_law_dropped_right" = true
  n__law_array_right : tb.fn "_law_array_right" = true
  n_law : tb.fn "law" = true
  a_Stack_items : tb.at_ "Stack" "items" = true
  a_Allocation_cells : tb.at_ "Allocation" "cells" = true
  a_Allocation_stacks : tb.at_ "Allocation" "stacks" = true
  a_Allocation_is_live : tb.at_ "Allocation" "is_live" = true
  a_Memory_allocations : tb.at_ "Memory" "allocations" = true
  a_Memory_tags : tb.at_ "Memory" "tags" = true
  a_DropGlue_places : tb.at_ "DropGlue" "places" = true
  a_DropGlue_world : tb.at_ "DropGlue" "world" = true
  a_Places_memory : tb.at_ "Places" "memory" = true
  a_Places_world : tb.at_ "Places" "world" = true
  a_World_modules : tb.at_ "World" "modules" = true
  a_World_adts : tb.at_ "World" "adts" = true
  a_World_variants : tb.at_ "World" "variants" = true
  a_World_sigs : tb.at_ "World" "sigs" = true
  a_World_traits : tb.at_ "World" "traits" = true
  a_World_impls : tb.at_ "World" "impls" = true
  a_World_consts : tb.at_ "World" "consts" = true
  a_World_bodies : tb.at_ "World" "bodies" = true
  g_UNINIT : tb.G "UNINIT" = some vUNINIT
  g_OWNER : tb.G "OWNER" = some (.int 0)
  g_MOST : tb.G "MOST_DEEP_layout" = some (.int vMOST)
end Mine

end
section
open PySem PySem.W PySem.Calls PyProof.Rows
set_option Elab.async false
namespace Mine
namespace D
noncomputable abbrev OP := Params → Obj
noncomputable abbrev PW : Program := PySem.Challenge.pw_pf0173_01
noncomputable def nth : List Stmt → Nat → Stmt
  | [], _ => default
  | x :: _, 0 => x
  | _ :: r, n + 1 => nth r n
noncomputable def td (i : Nat) : Stmt := nth PW.main.body i
noncomputable def cb (s : Stmt) : List Stmt := match s with
  | .ClassDef _ _ _ b _ _ _ _ _ _ _ => b
  | _ => []
noncomputable def tm (i j : Nat) : Stmt := nth (cb (td i)) j
noncomputable def sz (s : String) : Str := Str.ofString s
noncomputable def vn : Value := .none
noncomputable def vi (i : Int) : Value := .int i 0
noncomputable def vj (i : Int) (n : Nat) : Value := .int i n
noncomputable def vs (s : String) (n : Nat) : Value := .str (.ofString s) n
noncomputable def vf (n : Nat) : Value := .str (.ofString "/claim/cut.py") n
noncomputable def vr (a : Nat) : Value := .ref a
noncomputable def vt (s : String) : Value := .type s
noncomputable def vb (s : String) : Value := .builtin s
noncomputable def vo (b : Bool) : Value := .bool b
noncomputable def en (s : String) (n : Nat) (v : Value) (P : Params) : DictEntry := ⟨PyData.keyHash P (.ofString s), .str (.ofString s) n, v⟩
noncomputable def k (o : Obj) : OP := fun _ => o
noncomputable def tp (l : List Value) : OP := fun _ => ⟨.type "tuple", none, .seq l.toArray 0, #[]⟩
noncomputable def fl (c : Value) (l : List Value) : OP := fun _ => ⟨c, none, .fields l.toArray, #[]⟩
noncomputable def fv (l : List Value) : OP := fl .none l
noncomputable def cd (l : List Value) : OP := fl (.type "code") l
noncomputable def dc (c : Value) (l : List (Params → DictEntry)) (n : Nat) : OP := fun P => ⟨c, none, .dict (l.map fun e => e P).toArray n, #[]⟩
noncomputable def fc (c : Value) (f : FuncData) : OP := fun _ => ⟨c, none, .func f, #[]⟩
noncomputable def fnd (s : Stmt) (q : String) (g : Nat) (cl : List (Str × Nat)) (d kd dc pm : Value) (an : Option Nat) (co ct : Value) (b : Nat) : FuncData := match s with
  | .FunctionDef n a bd _ _ _ sc _ _ _ => ⟨n, .ofString q, a, .stmts bd, sc, g, cl, d, kd, dc, pm, an, co, ct, b⟩
  | _ => default
noncomputable def F0 : List OP := [
PySem.W.boot_o_0,
PySem.W.boot_o_1,
dc vn [en "type.__subclasses__.Exception.0" 224 (vi 39),en "type.__subclasses__.Exception.n" 225 (vi 1)] 2,
dc (vt "dict") [en "__name__" 165 (vs "law_pf0173_01" 1220),en "__doc__" 166 vn,en "__package__" 167 vn,en "__loader__" 168 (vb "__main__.__loader__#opaque"),en "__spec__" 169 vn,en "__annotations__" 170 (vr 6),en "__builtins__" 171 (vr 4),en "__file__" 173 (vf 172),en "__cached__" 174 vn,en "_wall" 193 (vr 21),en "LendError" 227 (vr 39),en "TraitFault" 243 (vr 52),en "MachineFault" 269 (vr 71),en "DROP_types" 273 (vs "Drop" 272),en "parts_of" 281 (vr 80),en "rebuilt" 290 (vr 87),en "substituted" 296 (vr 92),en "with_regions" 302 (vr 97),en "no_region" 309 (vr 104),en "erased" 316 (vr 111),en "region_text" 323 (vr 118),en "type_text" 329 (vr 123),en "matched" 342 (vr 130),en "field_rows" 351 (vr 137),en "fields_of" 357 (vr 142),en "has_drop" 366 (vr 149),en "needs_drop" 372 (vr 154),en "MOST_DEEP_layout" 376 (vj 40 375),en "sum_of" 387 (vr 161),en "size_of" 395 (vr 168),en "size_within" 401 (vr 173),en "part_types" 407 (vr 178),en "first_place" 415 (vr 185),en "offset_of_field" 426 (vr 192),en "offset_of_item" 435 (vr 199),en "Stack" 519 (vr 256),en "UNINIT" 523 (vr 261),en "OWNER" 525 (vj 0 524),en "pointer" 534 (vr 268),en "moved" 542 (vr 275),en "Allocation" 571 (vr 290),en "Memory" 712 (vr 398),en "is_enum" 722 (vr 409),en "parts_told" 728 (vr 414),en "is_of_parts" 735 (vr 421),en "parts_of_cells" 749 (vr 428),en "want_whole" 762 (vr 435),en "told_value" 768 (vr 440),en "head_pairs" 780 (vr 447),en "could_be" 794 (vr 454),en "match_type" 810 (vr 461),en "match_all" 824 (vr 468),en "MOST_DEEP_traits" 828 (vj 12 827),en "last_name" 835 (vr 475),en "names_of" 841 (vr 480),en "matches_impl" 852 (vr 487),en "is_plainly_copy" 859 (vr 494),en "Selection" 929 (vr 535),en "select" 943 (vr 546),en "DROP_generics" 947 (vs "Drop" 946),en "key_of" 953 (vr 551),en "resolved_ref" 959 (vr 556),en "drop_impl" 968 (vr 563),en "jobs_of" 978 (vr 570),en "DropGlue" 1045 (vr 608),en "offset_of_part" 1055 (vr 619),en "is_pointer" 1064 (vr 626),en "Places" 1170 (vr 699),en "World" 1219 (vr 728),en "_law_pool" 1232 (vr 739),en "_law_take" 1241 (vr 746),en "_law_one" 1249 (vr 753),en "_law_type" 1255 (vr 758),en "_law_parts" 1262 (vr 765),en "_law_size" 1268 (vr 770),en "_law_has_box" 1274 (vr 775),en "_law_jobs" 1280 (vr 780),en "_law_value" 1286 (vr 785),en "_law_dropped_right" 1292 (vr 790),en "_law_array_right" 1309 (vr 797),en "law" 1318 (vr 804)] 81,
PySem.W.boot_o_4,
PySem.W.boot_o_5,
PySem.W.boot_o_6,
PySem.W.boot_o_7,
PySem.W.boot_o_8,
PySem.W.boot_o_9,
PySem.W.boot_o_10,
tp [],
fv [vi 1,vi 0,vr 20,vi 5,vi 0,vr 27,vi 11,vi 0,vr 48,vi 13,vi 0,vr 60,vi 20,vi 0,vr 79,vi 29,vi 0,vr 86,vi 40,vi 0,vr 91,vi 44,vi 0,vr 96,vi 50,vi 0,vr 103,vi 52,vi 0,vr 110,vi 54,vi 0,vr 117,vi 58,vi 0,vr 122,vi 80,vi 0,vr 129,vi 99,vi 0,vr 136,vi 101,vi 0,vr 141,vi 113,vi 0,vr 148,vi 118,vi 0,vr 153,vi 136,vi 0,vr 160,vi 141,vi 0,vr 167,vi 143,vi 0,vr 172,vi 162,vi 0,vr 177,vi 166,vi 0,vr 184,vi 168,vi 0,vr 191,vi 171,vi 0,vr 198,vi 174,vi 0,vr 205,vi 216,vi 0,vr 267,vi 218,vi 0,vr 274,vi 220,vi 0,vr 281,vi 226,vi 0,vr 300,vi 295,vi 0,vr 408,vi 297,vi 0,vr 413,vi 303,vi 0,vr 420,vi 305,vi 0,vr 427,vi 315,vi 0,vr 434,vi 326,vi 0,vr 439,vi 339,vi 0,vr 446,vi 357,vi 0,vr 453,vi 377,vi 0,vr 460,vi 398,vi 0,vr 467,vi 410,vi 0,vr 474,vi 412,vi 0,vr 479,vi 414,vi 0,vr 486,vi 420,vi 0,vr 493,vi 426,vi 0,vr 500,vi 473,vi 0,vr 545,vi 488,vi 0,vr 550,vi 492,vi 0,vr 555,vi 509,vi 0,vr 562,vi 517,vi 0,vr 569,vi 519,vi 0,vr 576,vi 557,vi 0,vr 618,vi 562,vi 0,vr 625,vi 564,vi 0,vr 632,vi 599,vi 0,vr 709,vi 614,vi 0,vr 738,vi 621,vi 0,vr 745,vi 628,vi 0,vr 752,vi 630,vi 0,vr 757,vi 639,vi 0,vr 764,vi 643,vi 0,vr 769,vi 646,vi 0,vr 774,vi 651,vi 0,vr 779,vi 657,vi 0,vr 784,vi 670,vi 0,vr 789,vi 682,vi 0,vr 796,vi 697,vi 0,vr 803],
cd [vs "<module>" 182,vs "<module>" 183,vf 184,vi 1,vi 0,vi 0,vi 0,vi 0,vr 11,vo false,vi 181,vr 12,vn,vn,vn,vn,vi 185,vi 1,vf 186],
k ⟨vt "frame", none, PySem.Data.plain, #[some (vr 13),some (vr 3),some (vr 3),none,some (vs "__main__" 164),none,some (vr 0)]⟩,
tp [],
fv [],
tp [vs "k" 190],
tp [],
fc vn (fnd (td 0) "_wall" 0 [] vn vn vn vn none vn vn 0),
cd [vs "_wall" 187,vs "_wall" 188,vf 189,vi 1,vi 1,vi 0,vi 0,vi 3,vr 15,vo true,vi 181,vr 16,vn,vr 17,vr 18,vr 19,vi 191,vi 1,vf 192],
fc (vt "function") (fnd (td 0) "_wall" 3 [] vn vn vn (vs "__main__" 164) none (vr 20) vn 0),
tp [vt "Exception"],
fl (vt "builtin_function_or_method") [vb "type.__prepare__",vt "type"],
dc (vt "dict") [en "__module__" 203 (vs "lendcore.errors" 194),en "__qualname__" 205 (vs "LendError" 204),en "__firstlineno__" 207 (vj 5 206),en "__init__" 217 (vr 36),en "__static_attributes__" 220 (vr 37)] 5,
tp [],
fv [vi 7,vi 4,vr 35],
cd [vs "LendError" 198,vs "LendError" 199,vf 200,vi 5,vi 0,vi 0,vi 0,vi 0,vr 25,vo false,vi 181,vr 26,vn,vn,vn,vn,vi 201,vi 5,vf 202],
k ⟨vt "frame", none, PySem.Data.plain, #[some (vr 27),some (vr 3),some (vr 24),none,some (vs "lendcore.errors" 194),none,some (vr 0)]⟩,
tp [vj 0 208],
tp [],
fv [],
tp [vs "self" 212,vs "message" 213,vs "spot" 214],
tp [],
fc vn (fnd (tm 2 0) "LendError.__init__" 0 [] vn vn vn vn none vn vn 0),
cd [vs "__init__" 209,vs "LendError.__init__" 210,vf 211,vi 7,vi 3,vi 0,vi 0,vi 3,vr 30,vo true,vi 181,vr 31,vn,vr 32,vr 33,vr 34,vi 215,vi 7,vf 216],
fc (vt "function") (fnd (tm 2 0) "LendError.__init__" 3 [] (vr 29) vn vn (vs "lendcore.errors" 194) none (vr 35) vn 0),
tp [vs "message" 218,vs "spot" 219],
dc (vt "dict") [en "__module__" 203 (vs "lendcore.errors" 194),en "__firstlineno__" 207 (vj 5 206),en "__init__" 217 (vr 36),en "__static_attributes__" 220 (vr 37),en "__weakref__" 222 (vr 40),en "__doc__" 223 vn] 3,
k ⟨vt "type", none, PySem.Data.cls (PySem.ClassData.mk (sz "LendError") [vt "Exception"] [vr 39,vt "Exception",vt "BaseException",vt "object"] 38 (sz "LendError") true [] [vr 52,vr 71] false none false), #[some (vr 22),none,some (vs "LendError" 196),some (vs "LendError" 204),some (vb "Exception.__new__"),some (vo true)]⟩]
noncomputable def F1 : List OP := [
fl (vt "getset_descriptor") [vs "__weakref__" 221,vr 39,vb "ExceptionGroup.__weakref__",vn],
fl (vt "super") [vr 39,vr 39,vr 39],
fl (vt "builtin_function_or_method") [vb "object.__init_subclass__",vr 39],
tp [vr 39],
fl (vt "builtin_function_or_method") [vb "type.__prepare__",vt "type"],
dc (vt "dict") [en "__module__" 235 (vs "lendcore.errors" 194),en "__qualname__" 237 (vs "TraitFault" 236),en "__firstlineno__" 239 (vj 11 238),en "__static_attributes__" 240 (vr 50)] 4,
tp [],
fv [],
cd [vs "TraitFault" 230,vs "TraitFault" 231,vf 232,vi 11,vi 0,vi 0,vi 0,vi 0,vr 46,vo false,vi 181,vr 47,vn,vn,vn,vn,vi 233,vi 11,vf 234],
k ⟨vt "frame", none, PySem.Data.plain, #[some (vr 48),some (vr 3),some (vr 45),none,some (vs "lendcore.errors" 194),none,some (vr 0)]⟩,
tp [],
dc (vt "dict") [en "__module__" 235 (vs "lendcore.errors" 194),en "__firstlineno__" 239 (vj 11 238),en "__static_attributes__" 240 (vr 50),en "__doc__" 241 vn] 2,
k ⟨vt "type", none, PySem.Data.cls (PySem.ClassData.mk (sz "TraitFault") [vr 39] [vr 52,vr 39,vt "Exception",vt "BaseException",vt "object"] 51 (sz "TraitFault") true [] [] false none false), #[some (vr 43),none,some (vs "TraitFault" 228),some (vs "TraitFault" 236),some (vb "Exception.__new__"),some (vo true)]⟩,
fl (vt "super") [vr 52,vr 52,vr 52],
fl (vt "builtin_function_or_method") [vb "object.__init_subclass__",vr 52],
tp [vr 39],
fl (vt "builtin_function_or_method") [vb "type.__prepare__",vt "type"],
dc (vt "dict") [en "__module__" 251 (vs "lendcore.errors" 194),en "__qualname__" 253 (vs "MachineFault" 252),en "__firstlineno__" 255 (vj 13 254),en "__init__" 264 (vr 68),en "__static_attributes__" 266 (vr 69)] 5,
tp [],
fv [vi 15,vi 4,vr 67],
cd [vs "MachineFault" 246,vs "MachineFault" 247,vf 248,vi 13,vi 0,vi 0,vi 0,vi 0,vr 58,vo false,vi 181,vr 59,vn,vn,vn,vn,vi 249,vi 13,vf 250],
k ⟨vt "frame", none, PySem.Data.plain, #[some (vr 60),some (vr 3),some (vr 57),none,some (vs "lendcore.errors" 194),none,some (vr 0)]⟩,
tp [],
fv [],
tp [vs "self" 259,vs "kind" 260,vs "message" 261],
tp [],
fc vn (fnd (tm 4 0) "MachineFault.__init__" 0 [] vn vn vn vn none vn vn 0),
cd [vs "__init__" 256,vs "MachineFault.__init__" 257,vf 258,vi 15,vi 3,vi 0,vi 0,vi 3,vr 62,vo true,vi 181,vr 63,vn,vr 64,vr 65,vr 66,vi 262,vi 15,vf 263],
fc (vt "function") (fnd (tm 4 0) "MachineFault.__init__" 3 [] vn vn vn (vs "lendcore.errors" 194) none (vr 67) vn 0),
tp [vs "kind" 265],
dc (vt "dict") [en "__module__" 251 (vs "lendcore.errors" 194),en "__firstlineno__" 255 (vj 13 254),en "__init__" 264 (vr 68),en "__static_attributes__" 266 (vr 69),en "__doc__" 267 vn] 2,
k ⟨vt "type", none, PySem.Data.cls (PySem.ClassData.mk (sz "MachineFault") [vr 39] [vr 71,vr 39,vt "Exception",vt "BaseException",vt "object"] 70 (sz "MachineFault") true [] [] false none false), #[some (vr 55),none,some (vs "MachineFault" 244),some (vs "MachineFault" 252),some (vb "Exception.__new__"),some (vo true)]⟩,
fl (vt "super") [vr 71,vr 71,vr 71],
fl (vt "builtin_function_or_method") [vb "object.__init_subclass__",vr 71],
tp [],
fv [],
tp [vs "told" 277,vs "kind" 278],
tp [],
fc vn (fnd (td 7) "parts_of" 0 [] vn vn vn vn none vn vn 0),
cd [vs "parts_of" 274,vs "parts_of" 275,vf 276,vi 20,vi 1,vi 0,vi 0,vi 3,vr 74,vo true,vi 181,vr 75,vn,vr 76,vr 77,vr 78,vi 279,vi 20,vf 280]]
noncomputable def F2 : List OP := [
fc (vt "function") (fnd (td 7) "parts_of" 3 [] vn vn vn (vs "lendcore.types" 270) none (vr 79) vn 0),
tp [],
fv [],
tp [vs "told" 285,vs "parts" 286,vs "kind" 287],
tp [],
fc vn (fnd (td 8) "rebuilt" 0 [] vn vn vn vn none vn vn 0),
cd [vs "rebuilt" 282,vs "rebuilt" 283,vf 284,vi 29,vi 2,vi 0,vi 0,vi 3,vr 81,vo true,vi 181,vr 82,vn,vr 83,vr 84,vr 85,vi 288,vi 29,vf 289],
fc (vt "function") (fnd (td 8) "rebuilt" 3 [] vn vn vn (vs "lendcore.types" 270) none (vr 86) vn 0),
tp [],
fv [],
fc vn (fnd (td 9) "substituted" 0 [] vn vn vn vn none vn vn 0),
cd [vs "substituted" 291,vs "substituted" 292,vf 293,vi 40,vi 2,vi 0,vi 0,vi 3,vr 88,vo true,vi 181,vr 89,vn,vn,vn,vr 90,vi 294,vi 40,vf 295],
fc (vt "function") (fnd (td 9) "substituted" 3 [] vn vn vn (vs "lendcore.types" 270) none (vr 91) vn 0),
tp [],
fv [],
fc vn (fnd (td 10) "with_regions" 0 [] vn vn vn vn none vn vn 0),
cd [vs "with_regions" 297,vs "with_regions" 298,vf 299,vi 44,vi 2,vi 0,vi 0,vi 3,vr 93,vo true,vi 181,vr 94,vn,vn,vn,vr 95,vi 300,vi 44,vf 301],
fc (vt "function") (fnd (td 10) "with_regions" 3 [] vn vn vn (vs "lendcore.types" 270) none (vr 96) vn 0),
tp [],
fv [],
tp [vs "region" 306],
tp [],
fc vn (fnd (td 11) "no_region" 0 [] vn vn vn vn none vn vn 0),
cd [vs "no_region" 303,vs "no_region" 304,vf 305,vi 50,vi 1,vi 0,vi 0,vi 3,vr 98,vo true,vi 181,vr 99,vn,vr 100,vr 101,vr 102,vi 307,vi 50,vf 308],
fc (vt "function") (fnd (td 11) "no_region" 3 [] vn vn vn (vs "lendcore.types" 270) none (vr 103) vn 0),
tp [],
fv [],
tp [vs "told" 313],
tp [],
fc vn (fnd (td 12) "erased" 0 [] vn vn vn vn none vn vn 0),
cd [vs "erased" 310,vs "erased" 311,vf 312,vi 52,vi 1,vi 0,vi 0,vi 3,vr 105,vo true,vi 181,vr 106,vn,vr 107,vr 108,vr 109,vi 314,vi 52,vf 315],
fc (vt "function") (fnd (td 12) "erased" 3 [] vn vn vn (vs "lendcore.types" 270) none (vr 110) vn 0),
tp [],
fv [],
tp [vs "region" 320],
tp [],
fc vn (fnd (td 13) "region_text" 0 [] vn vn vn vn none vn vn 0),
cd [vs "region_text" 317,vs "region_text" 318,vf 319,vi 54,vi 1,vi 0,vi 0,vi 3,vr 112,vo true,vi 181,vr 113,vn,vr 114,vr 115,vr 116,vi 321,vi 54,vf 322],
fc (vt "function") (fnd (td 13) "region_text" 3 [] vn vn vn (vs "lendcore.types" 270) none (vr 117) vn 0),
tp []]
noncomputable def F3 : List OP := [
fv [],
fc vn (fnd (td 14) "type_text" 0 [] vn vn vn vn none vn vn 0),
cd [vs "type_text" 324,vs "type_text" 325,vf 326,vi 58,vi 1,vi 0,vi 0,vi 3,vr 119,vo true,vi 181,vr 120,vn,vn,vn,vr 121,vi 327,vi 58,vf 328],
fc (vt "function") (fnd (td 14) "type_text" 3 [] vn vn vn (vs "lendcore.types" 270) none (vr 122) vn 0),
tp [],
fv [],
tp [vs "pattern" 333,vs "told" 334,vs "table" 335,vs "some" 336,vs "others" 337,vs "one" 338,vs "other" 339],
tp [],
fc vn (fnd (td 15) "matched" 0 [] vn vn vn vn none vn vn 0),
cd [vs "matched" 330,vs "matched" 331,vf 332,vi 80,vi 3,vi 0,vi 0,vi 3,vr 124,vo true,vi 181,vr 125,vn,vr 126,vr 127,vr 128,vi 340,vi 80,vf 341],
fc (vt "function") (fnd (td 15) "matched" 3 [] vn vn vn (vs "lendcore.types" 270) none (vr 129) vn 0),
tp [],
fv [],
tp [vs "told" 346,vs "variant" 347,vs "world" 348],
tp [],
fc vn (fnd (td 16) "field_rows" 0 [] vn vn vn vn none vn vn 0),
cd [vs "field_rows" 343,vs "field_rows" 344,vf 345,vi 99,vi 3,vi 0,vi 0,vi 3,vr 131,vo true,vi 181,vr 132,vn,vr 133,vr 134,vr 135,vi 349,vi 99,vf 350],
fc (vt "function") (fnd (td 16) "field_rows" 3 [] vn vn vn (vs "lendcore.types" 270) none (vr 136) vn 0),
tp [],
fv [],
fc vn (fnd (td 17) "fields_of" 0 [] vn vn vn vn none vn vn 0),
cd [vs "fields_of" 352,vs "fields_of" 353,vf 354,vi 101,vi 3,vi 0,vi 0,vi 3,vr 138,vo true,vi 181,vr 139,vn,vn,vn,vr 140,vi 355,vi 101,vf 356],
fc (vt "function") (fnd (td 17) "fields_of" 3 [] vn vn vn (vs "lendcore.types" 270) none (vr 141) vn 0),
tp [],
fv [],
tp [vs "told" 361,vs "world" 362,vs "row" 363],
tp [],
fc vn (fnd (td 18) "has_drop" 0 [] vn vn vn vn none vn vn 0),
cd [vs "has_drop" 358,vs "has_drop" 359,vf 360,vi 113,vi 2,vi 0,vi 0,vi 3,vr 143,vo true,vi 181,vr 144,vn,vr 145,vr 146,vr 147,vi 364,vi 113,vf 365],
fc (vt "function") (fnd (td 18) "has_drop" 3 [] vn vn vn (vs "lendcore.types" 270) none (vr 148) vn 0),
tp [],
fv [],
fc vn (fnd (td 19) "needs_drop" 0 [] vn vn vn vn none vn vn 0),
cd [vs "needs_drop" 367,vs "needs_drop" 368,vf 369,vi 118,vi 2,vi 0,vi 0,vi 3,vr 150,vo true,vi 181,vr 151,vn,vn,vn,vr 152,vi 370,vi 118,vf 371],
fc (vt "function") (fnd (td 19) "needs_drop" 3 [] vn vn vn (vs "lendcore.types" 270) none (vr 153) vn 0),
tp [],
fv [],
tp [vs "types" 380,vs "world" 381,vs "deep" 382,vs "total" 383,vs "told" 384],
tp [],
fc vn (fnd (td 22) "sum_of" 0 [] vn vn vn vn none vn vn 0)]
noncomputable def F4 : List OP := [
cd [vs "sum_of" 377,vs "sum_of" 378,vf 379,vi 136,vi 3,vi 0,vi 0,vi 3,vr 155,vo true,vi 181,vr 156,vn,vr 157,vr 158,vr 159,vi 385,vi 136,vf 386],
fc (vt "function") (fnd (td 22) "sum_of" 3 [] vn vn vn (vs "lendcore.layout" 373) none (vr 160) vn 0),
tp [],
fv [],
tp [vs "told" 391,vs "world" 392],
tp [],
fc vn (fnd (td 23) "size_of" 0 [] vn vn vn vn none vn vn 0),
cd [vs "size_of" 388,vs "size_of" 389,vf 390,vi 141,vi 2,vi 0,vi 0,vi 3,vr 162,vo true,vi 181,vr 163,vn,vr 164,vr 165,vr 166,vi 393,vi 141,vf 394],
fc (vt "function") (fnd (td 23) "size_of" 3 [] vn vn vn (vs "lendcore.layout" 373) none (vr 167) vn 0),
tp [],
fv [],
fc vn (fnd (td 24) "size_within" 0 [] vn vn vn vn none vn vn 0),
cd [vs "size_within" 396,vs "size_within" 397,vf 398,vi 143,vi 3,vi 0,vi 0,vi 3,vr 169,vo true,vi 181,vr 170,vn,vn,vn,vr 171,vi 399,vi 143,vf 400],
fc (vt "function") (fnd (td 24) "size_within" 3 [] vn vn vn (vs "lendcore.layout" 373) none (vr 172) vn 0),
tp [],
fv [],
fc vn (fnd (td 25) "part_types" 0 [] vn vn vn vn none vn vn 0),
cd [vs "part_types" 402,vs "part_types" 403,vf 404,vi 162,vi 3,vi 0,vi 0,vi 3,vr 174,vo true,vi 181,vr 175,vn,vn,vn,vr 176,vi 405,vi 162,vf 406],
fc (vt "function") (fnd (td 25) "part_types" 3 [] vn vn vn (vs "lendcore.layout" 373) none (vr 177) vn 0),
tp [],
fv [],
tp [vs "told" 411,vs "world" 412],
tp [],
fc vn (fnd (td 26) "first_place" 0 [] vn vn vn vn none vn vn 0),
cd [vs "first_place" 408,vs "first_place" 409,vf 410,vi 166,vi 2,vi 0,vi 0,vi 3,vr 179,vo true,vi 181,vr 180,vn,vr 181,vr 182,vr 183,vi 413,vi 166,vf 414],
fc (vt "function") (fnd (td 26) "first_place" 3 [] vn vn vn (vs "lendcore.layout" 373) none (vr 184) vn 0),
tp [],
fv [],
tp [vs "told" 419,vs "variant" 420,vs "number" 421,vs "world" 422,vs "types" 423],
tp [],
fc vn (fnd (td 27) "offset_of_field" 0 [] vn vn vn vn none vn vn 0),
cd [vs "offset_of_field" 416,vs "offset_of_field" 417,vf 418,vi 168,vi 4,vi 0,vi 0,vi 3,vr 186,vo true,vi 181,vr 187,vn,vr 188,vr 189,vr 190,vi 424,vi 168,vf 425],
fc (vt "function") (fnd (td 27) "offset_of_field" 3 [] vn vn vn (vs "lendcore.layout" 373) none (vr 191) vn 0),
tp [],
fv [],
tp [vs "told" 430,vs "number" 431,vs "world" 432],
tp [],
fc vn (fnd (td 28) "offset_of_item" 0 [] vn vn vn vn none vn vn 0),
cd [vs "offset_of_item" 427,vs "offset_of_item" 428,vf 429,vi 171,vi 3,vi 0,vi 0,vi 3,vr 193,vo true,vi 181,vr 194,vn,vr 195,vr 196,vr 197,vi 433,vi 171,vf 434],
fc (vt "function") (fnd (td 28) "offset_of_item" 3 [] vn vn vn (vs "lendcore.layout" 373) none (vr 198) vn 0)]
noncomputable def F5 : List OP := [
tp [],
fl (vt "builtin_function_or_method") [vb "type.__prepare__",vt "type"],
dc (vt "dict") [en "__module__" 445 (vs "lendcore.stacks" 436),en "__qualname__" 447 (vs "Stack" 446),en "__firstlineno__" 449 (vj 174 448),en "__init__" 457 (vr 213),en "place" 466 (vr 220),en "may" 477 (vr 227),en "kind" 485 (vr 234),en "read" 491 (vr 239),en "write" 500 (vr 246),en "push" 510 (vr 253),en "__static_attributes__" 512 (vr 254)] 11,
tp [],
fv [vi 176,vi 4,vr 212,vi 179,vi 4,vr 219,vi 185,vi 4,vr 226,vi 191,vi 4,vr 233,vi 194,vi 4,vr 238,vi 199,vi 4,vr 245,vi 205,vi 4,vr 252],
cd [vs "Stack" 440,vs "Stack" 441,vf 442,vi 174,vi 0,vi 0,vi 0,vi 0,vr 203,vo false,vi 181,vr 204,vn,vn,vn,vn,vi 443,vi 174,vf 444],
k ⟨vt "frame", none, PySem.Data.plain, #[some (vr 205),some (vr 3),some (vr 202),none,some (vs "lendcore.stacks" 436),none,some (vr 0)]⟩,
tp [],
fv [],
tp [vs "self" 453,vs "tag" 454],
tp [],
fc vn (fnd (tm 30 0) "Stack.__init__" 0 [] vn vn vn vn none vn vn 0),
cd [vs "__init__" 450,vs "Stack.__init__" 451,vf 452,vi 176,vi 2,vi 0,vi 0,vi 3,vr 207,vo true,vi 181,vr 208,vn,vr 209,vr 210,vr 211,vi 455,vi 176,vf 456],
fc (vt "function") (fnd (tm 30 0) "Stack.__init__" 3 [] vn vn vn (vs "lendcore.stacks" 436) none (vr 212) vn 0),
tp [],
fv [],
tp [vs "self" 461,vs "tag" 462,vs "at" 463],
tp [],
fc vn (fnd (tm 30 1) "Stack.place" 0 [] vn vn vn vn none vn vn 0),
cd [vs "place" 458,vs "Stack.place" 459,vf 460,vi 179,vi 2,vi 0,vi 0,vi 3,vr 214,vo true,vi 181,vr 215,vn,vr 216,vr 217,vr 218,vi 464,vi 179,vf 465],
fc (vt "function") (fnd (tm 30 1) "Stack.place" 3 [] vn vn vn (vs "lendcore.stacks" 436) none (vr 219) vn 0),
tp [],
fv [],
tp [vs "self" 470,vs "tag" 471,vs "is_write" 472,vs "other" 473,vs "kind" 474],
tp [],
fc vn (fnd (tm 30 2) "Stack.may" 0 [] vn vn vn vn none vn vn 0),
cd [vs "may" 467,vs "Stack.may" 468,vf 469,vi 185,vi 3,vi 0,vi 0,vi 3,vr 221,vo true,vi 181,vr 222,vn,vr 223,vr 224,vr 225,vi 475,vi 185,vf 476],
fc (vt "function") (fnd (tm 30 2) "Stack.may" 3 [] vn vn vn (vs "lendcore.stacks" 436) none (vr 226) vn 0),
tp [],
fv [],
tp [vs "self" 481,vs "tag" 482],
tp [],
fc vn (fnd (tm 30 3) "Stack.kind" 0 [] vn vn vn vn none vn vn 0),
cd [vs "kind" 478,vs "Stack.kind" 479,vf 480,vi 191,vi 2,vi 0,vi 0,vi 3,vr 228,vo true,vi 181,vr 229,vn,vr 230,vr 231,vr 232,vi 483,vi 191,vf 484],
fc (vt "function") (fnd (tm 30 3) "Stack.kind" 3 [] vn vn vn (vs "lendcore.stacks" 436) none (vr 233) vn 0),
tp [],
fv [],
fc vn (fnd (tm 30 4) "Stack.read" 0 [] vn vn vn vn none vn vn 0),
cd [vs "read" 486,vs "Stack.read" 487,vf 488,vi 194,vi 2,vi 0,vi 0,vi 3,vr 235,vo true,vi 181,vr 236,vn,vn,vn,vr 237,vi 489,vi 194,vf 490],
fc (vt "function") (fnd (tm 30 4) "Stack.read" 3 [] vn vn vn (vs "lendcore.stacks" 436) none (vr 238) vn 0)]
noncomputable def F6 : List OP := [
tp [],
fv [],
tp [vs "self" 495,vs "tag" 496,vs "at" 497],
tp [],
fc vn (fnd (tm 30 5) "Stack.write" 0 [] vn vn vn vn none vn vn 0),
cd [vs "write" 492,vs "Stack.write" 493,vf 494,vi 199,vi 2,vi 0,vi 0,vi 3,vr 240,vo true,vi 181,vr 241,vn,vr 242,vr 243,vr 244,vi 498,vi 199,vf 499],
fc (vt "function") (fnd (tm 30 5) "Stack.write" 3 [] vn vn vn (vs "lendcore.stacks" 436) none (vr 245) vn 0),
tp [],
fv [],
tp [vs "self" 504,vs "parent" 505,vs "tag" 506,vs "kind" 507],
tp [],
fc vn (fnd (tm 30 6) "Stack.push" 0 [] vn vn vn vn none vn vn 0),
cd [vs "push" 501,vs "Stack.push" 502,vf 503,vi 205,vi 4,vi 0,vi 0,vi 3,vr 247,vo true,vi 181,vr 248,vn,vr 249,vr 250,vr 251,vi 508,vi 205,vf 509],
fc (vt "function") (fnd (tm 30 6) "Stack.push" 3 [] vn vn vn (vs "lendcore.stacks" 436) none (vr 252) vn 0),
tp [vs "items" 511],
dc (vt "dict") [en "__module__" 445 (vs "lendcore.stacks" 436),en "__firstlineno__" 449 (vj 174 448),en "__init__" 457 (vr 213),en "place" 466 (vr 220),en "may" 477 (vr 227),en "kind" 485 (vr 234),en "read" 491 (vr 239),en "write" 500 (vr 246),en "push" 510 (vr 253),en "__static_attributes__" 512 (vr 254),en "__dict__" 514 (vr 257),en "__weakref__" 516 (vr 258),en "__doc__" 517 vn] 4,
k ⟨vt "type", none, PySem.Data.cls (PySem.ClassData.mk (sz "Stack") [vt "object"] [vr 256,vt "object"] 255 (sz "Stack") true [] [] false none false), #[none,none,some (vs "Stack" 438),some (vs "Stack" 446),some (vb "object.__new__"),some (vo true)]⟩,
fl (vt "getset_descriptor") [vs "__dict__" 513,vr 256,vb "function.__dict__",vb "function.__dict__#set"],
fl (vt "getset_descriptor") [vs "__weakref__" 515,vr 256,vb "ExceptionGroup.__weakref__",vn],
fl (vt "super") [vr 256,vr 256,vr 256],
fl (vt "builtin_function_or_method") [vb "object.__init_subclass__",vr 256],
tp [vs "uninit" 522],
tp [],
fv [],
tp [vs "allocation" 529,vs "offset" 530,vs "tag" 531],
tp [],
fc vn (fnd (td 34) "pointer" 0 [] vn vn vn vn none vn vn 0),
cd [vs "pointer" 526,vs "pointer" 527,vf 528,vi 216,vi 3,vi 0,vi 0,vi 3,vr 262,vo true,vi 181,vr 263,vn,vr 264,vr 265,vr 266,vi 532,vi 216,vf 533],
fc (vt "function") (fnd (td 34) "pointer" 3 [] vn vn vn (vs "lendcore.memory" 520) none (vr 267) vn 0),
tp [],
fv [],
tp [vs "place" 538,vs "many" 539],
tp [],
fc vn (fnd (td 35) "moved" 0 [] vn vn vn vn none vn vn 0),
cd [vs "moved" 535,vs "moved" 536,vf 537,vi 218,vi 2,vi 0,vi 0,vi 3,vr 269,vo true,vi 181,vr 270,vn,vr 271,vr 272,vr 273,vi 540,vi 218,vf 541],
fc (vt "function") (fnd (td 35) "moved" 3 [] vn vn vn (vs "lendcore.memory" 520) none (vr 274) vn 0),
tp [],
fl (vt "builtin_function_or_method") [vb "type.__prepare__",vt "type"],
dc (vt "dict") [en "__module__" 550 (vs "lendcore.memory" 520),en "__qualname__" 552 (vs "Allocation" 551),en "__firstlineno__" 554 (vj 220 553),en "__init__" 560 (vr 287),en "__static_attributes__" 564 (vr 288)] 5,
tp []]
noncomputable def F7 : List OP := [
fv [vi 222,vi 4,vr 286],
cd [vs "Allocation" 545,vs "Allocation" 546,vf 547,vi 220,vi 0,vi 0,vi 0,vi 0,vr 279,vo false,vi 181,vr 280,vn,vn,vn,vn,vi 548,vi 220,vf 549],
k ⟨vt "frame", none, PySem.Data.plain, #[some (vr 281),some (vr 3),some (vr 278),none,some (vs "lendcore.memory" 520),none,some (vr 0)]⟩,
tp [],
fv [],
fc vn (fnd (tm 36 0) "Allocation.__init__" 0 [] vn vn vn vn none vn vn 0),
cd [vs "__init__" 555,vs "Allocation.__init__" 556,vf 557,vi 222,vi 2,vi 0,vi 0,vi 3,vr 283,vo true,vi 181,vr 284,vn,vn,vn,vr 285,vi 558,vi 222,vf 559],
fc (vt "function") (fnd (tm 36 0) "Allocation.__init__" 3 [] vn vn vn (vs "lendcore.memory" 520) none (vr 286) vn 0),
tp [vs "cells" 561,vs "is_live" 562,vs "stacks" 563],
dc (vt "dict") [en "__module__" 550 (vs "lendcore.memory" 520),en "__firstlineno__" 554 (vj 220 553),en "__init__" 560 (vr 287),en "__static_attributes__" 564 (vr 288),en "__dict__" 566 (vr 291),en "__weakref__" 568 (vr 292),en "__doc__" 569 vn] 4,
k ⟨vt "type", none, PySem.Data.cls (PySem.ClassData.mk (sz "Allocation") [vt "object"] [vr 290,vt "object"] 289 (sz "Allocation") true [] [] false none false), #[none,none,some (vs "Allocation" 543),some (vs "Allocation" 551),some (vb "object.__new__"),some (vo true)]⟩,
fl (vt "getset_descriptor") [vs "__dict__" 565,vr 290,vb "function.__dict__",vb "function.__dict__#set"],
fl (vt "getset_descriptor") [vs "__weakref__" 567,vr 290,vb "ExceptionGroup.__weakref__",vn],
fl (vt "super") [vr 290,vr 290,vr 290],
fl (vt "builtin_function_or_method") [vb "object.__init_subclass__",vr 290],
tp [],
fl (vt "builtin_function_or_method") [vb "type.__prepare__",vt "type"],
dc (vt "dict") [en "__module__" 579 (vs "lendcore.memory" 520),en "__qualname__" 581 (vs "Memory" 580),en "__firstlineno__" 583 (vj 226 582),en "__init__" 590 (vr 308),en "fresh_tag" 597 (vr 315),en "allocate" 605 (vr 322),en "base" 613 (vr 329),en "is_live" 621 (vr 336),en "live_count" 627 (vr 341),en "free" 635 (vr 348),en "room" 645 (vr 355),en "read" 654 (vr 362),en "known" 663 (vr 369),en "write" 673 (vr 376),en "read_all" 679 (vr 381),en "write_all" 689 (vr 388),en "retagged" 702 (vr 395),en "__static_attributes__" 705 (vr 396)] 18,
tp [],
fv [vi 228,vi 4,vr 307,vi 232,vi 4,vr 314,vi 236,vi 4,vr 321,vi 240,vi 4,vr 328,vi 243,vi 4,vr 335,vi 246,vi 4,vr 340,vi 249,vi 4,vr 347,vi 254,vi 4,vr 354,vi 262,vi 4,vr 361,vi 267,vi 4,vr 368,vi 273,vi 4,vr 375,vi 278,vi 4,vr 380,vi 281,vi 4,vr 387,vi 285,vi 4,vr 394],
cd [vs "Memory" 574,vs "Memory" 575,vf 576,vi 226,vi 0,vi 0,vi 0,vi 0,vr 298,vo false,vi 181,vr 299,vn,vn,vn,vn,vi 577,vi 226,vf 578],
k ⟨vt "frame", none, PySem.Data.plain, #[some (vr 300),some (vr 3),some (vr 297),none,some (vs "lendcore.memory" 520),none,some (vr 0)]⟩,
tp [],
fv [],
tp [vs "self" 587],
tp [],
fc vn (fnd (tm 37 0) "Memory.__init__" 0 [] vn vn vn vn none vn vn 0),
cd [vs "__init__" 584,vs "Memory.__init__" 585,vf 586,vi 228,vi 1,vi 0,vi 0,vi 3,vr 302,vo true,vi 181,vr 303,vn,vr 304,vr 305,vr 306,vi 588,vi 228,vf 589],
fc (vt "function") (fnd (tm 37 0) "Memory.__init__" 3 [] vn vn vn (vs "lendcore.memory" 520) none (vr 307) vn 0),
tp [],
fv [],
tp [vs "self" 594],
tp [],
fc vn (fnd (tm 37 1) "Memory.fresh_tag" 0 [] vn vn vn vn none vn vn 0),
cd [vs "fresh_tag" 591,vs "Memory.fresh_tag" 592,vf 593,vi 232,vi 1,vi 0,vi 0,vi 3,vr 309,vo true,vi 181,vr 310,vn,vr 311,vr 312,vr 313,vi 595,vi 232,vf 596],
fc (vt "function") (fnd (tm 37 1) "Memory.fresh_tag" 3 [] vn vn vn (vs "lendcore.memory" 520) none (vr 314) vn 0),
tp [],
fv [],
tp [vs "self" 601,vs "size" 602],
tp []]
noncomputable def F8 : List OP := [
fc vn (fnd (tm 37 2) "Memory.allocate" 0 [] vn vn vn vn none vn vn 0),
cd [vs "allocate" 598,vs "Memory.allocate" 599,vf 600,vi 236,vi 2,vi 0,vi 0,vi 3,vr 316,vo true,vi 181,vr 317,vn,vr 318,vr 319,vr 320,vi 603,vi 236,vf 604],
fc (vt "function") (fnd (tm 37 2) "Memory.allocate" 3 [] vn vn vn (vs "lendcore.memory" 520) none (vr 321) vn 0),
tp [],
fv [],
tp [vs "self" 609,vs "number" 610],
tp [],
fc vn (fnd (tm 37 3) "Memory.base" 0 [] vn vn vn vn none vn vn 0),
cd [vs "base" 606,vs "Memory.base" 607,vf 608,vi 240,vi 2,vi 0,vi 0,vi 3,vr 323,vo true,vi 181,vr 324,vn,vr 325,vr 326,vr 327,vi 611,vi 240,vf 612],
fc (vt "function") (fnd (tm 37 3) "Memory.base" 3 [] vn vn vn (vs "lendcore.memory" 520) none (vr 328) vn 0),
tp [],
fv [],
tp [vs "self" 617,vs "number" 618],
tp [],
fc vn (fnd (tm 37 4) "Memory.is_live" 0 [] vn vn vn vn none vn vn 0),
cd [vs "is_live" 614,vs "Memory.is_live" 615,vf 616,vi 243,vi 2,vi 0,vi 0,vi 3,vr 330,vo true,vi 181,vr 331,vn,vr 332,vr 333,vr 334,vi 619,vi 243,vf 620],
fc (vt "function") (fnd (tm 37 4) "Memory.is_live" 3 [] vn vn vn (vs "lendcore.memory" 520) none (vr 335) vn 0),
tp [],
fv [],
fc vn (fnd (tm 37 5) "Memory.live_count" 0 [] vn vn vn vn none vn vn 0),
cd [vs "live_count" 622,vs "Memory.live_count" 623,vf 624,vi 246,vi 1,vi 0,vi 0,vi 3,vr 337,vo true,vi 181,vr 338,vn,vn,vn,vr 339,vi 625,vi 246,vf 626],
fc (vt "function") (fnd (tm 37 5) "Memory.live_count" 3 [] vn vn vn (vs "lendcore.memory" 520) none (vr 340) vn 0),
tp [],
fv [],
tp [vs "self" 631,vs "number" 632],
tp [],
fc vn (fnd (tm 37 6) "Memory.free" 0 [] vn vn vn vn none vn vn 0),
cd [vs "free" 628,vs "Memory.free" 629,vf 630,vi 249,vi 2,vi 0,vi 0,vi 3,vr 342,vo true,vi 181,vr 343,vn,vr 344,vr 345,vr 346,vi 633,vi 249,vf 634],
fc (vt "function") (fnd (tm 37 6) "Memory.free" 3 [] vn vn vn (vs "lendcore.memory" 520) none (vr 347) vn 0),
tp [],
fv [],
tp [vs "self" 639,vs "place" 640,vs "size" 641,vs "found" 642],
tp [],
fc vn (fnd (tm 37 7) "Memory.room" 0 [] vn vn vn vn none vn vn 0),
cd [vs "room" 636,vs "Memory.room" 637,vf 638,vi 254,vi 3,vi 0,vi 0,vi 3,vr 349,vo true,vi 181,vr 350,vn,vr 351,vr 352,vr 353,vi 643,vi 254,vf 644],
fc (vt "function") (fnd (tm 37 7) "Memory.room" 3 [] vn vn vn (vs "lendcore.memory" 520) none (vr 354) vn 0),
tp [],
fv [],
tp [vs "self" 649,vs "place" 650,vs "found" 651],
tp []]
noncomputable def F9 : List OP := [
fc vn (fnd (tm 37 8) "Memory.read" 0 [] vn vn vn vn none vn vn 0),
cd [vs "read" 646,vs "Memory.read" 647,vf 648,vi 262,vi 2,vi 0,vi 0,vi 3,vr 356,vo true,vi 181,vr 357,vn,vr 358,vr 359,vr 360,vi 652,vi 262,vf 653],
fc (vt "function") (fnd (tm 37 8) "Memory.read" 3 [] vn vn vn (vs "lendcore.memory" 520) none (vr 361) vn 0),
tp [],
fv [],
tp [vs "self" 658,vs "place" 659,vs "found" 660],
tp [],
fc vn (fnd (tm 37 9) "Memory.known" 0 [] vn vn vn vn none vn vn 0),
cd [vs "known" 655,vs "Memory.known" 656,vf 657,vi 267,vi 2,vi 0,vi 0,vi 3,vr 363,vo true,vi 181,vr 364,vn,vr 365,vr 366,vr 367,vi 661,vi 267,vf 662],
fc (vt "function") (fnd (tm 37 9) "Memory.known" 3 [] vn vn vn (vs "lendcore.memory" 520) none (vr 368) vn 0),
tp [],
fv [],
tp [vs "self" 667,vs "place" 668,vs "value" 669,vs "found" 670],
tp [],
fc vn (fnd (tm 37 10) "Memory.write" 0 [] vn vn vn vn none vn vn 0),
cd [vs "write" 664,vs "Memory.write" 665,vf 666,vi 273,vi 3,vi 0,vi 0,vi 3,vr 370,vo true,vi 181,vr 371,vn,vr 372,vr 373,vr 374,vi 671,vi 273,vf 672],
fc (vt "function") (fnd (tm 37 10) "Memory.write" 3 [] vn vn vn (vs "lendcore.memory" 520) none (vr 375) vn 0),
tp [],
fv [],
fc vn (fnd (tm 37 11) "Memory.read_all" 0 [] vn vn vn vn none vn vn 0),
cd [vs "read_all" 674,vs "Memory.read_all" 675,vf 676,vi 278,vi 3,vi 0,vi 0,vi 3,vr 377,vo true,vi 181,vr 378,vn,vn,vn,vr 379,vi 677,vi 278,vf 678],
fc (vt "function") (fnd (tm 37 11) "Memory.read_all" 3 [] vn vn vn (vs "lendcore.memory" 520) none (vr 380) vn 0),
tp [],
fv [],
tp [vs "self" 683,vs "place" 684,vs "values" 685,vs "at" 686],
tp [],
fc vn (fnd (tm 37 12) "Memory.write_all" 0 [] vn vn vn vn none vn vn 0),
cd [vs "write_all" 680,vs "Memory.write_all" 681,vf 682,vi 281,vi 3,vi 0,vi 0,vi 3,vr 382,vo true,vi 181,vr 383,vn,vr 384,vr 385,vr 386,vi 687,vi 281,vf 688],
fc (vt "function") (fnd (tm 37 12) "Memory.write_all" 3 [] vn vn vn (vs "lendcore.memory" 520) none (vr 387) vn 0),
tp [],
fv [],
tp [vs "self" 693,vs "place" 694,vs "size" 695,vs "kind" 696,vs "found" 697,vs "at" 698,vs "tag" 699],
tp [],
fc vn (fnd (tm 37 13) "Memory.retagged" 0 [] vn vn vn vn none vn vn 0),
cd [vs "retagged" 690,vs "Memory.retagged" 691,vf 692,vi 285,vi 4,vi 0,vi 0,vi 3,vr 389,vo true,vi 181,vr 390,vn,vr 391,vr 392,vr 393,vi 700,vi 285,vf 701],
fc (vt "function") (fnd (tm 37 13) "Memory.retagged" 3 [] vn vn vn (vs "lendcore.memory" 520) none (vr 394) vn 0),
tp [vs "allocations" 703,vs "tags" 704],
dc (vt "dict") [en "__module__" 579 (vs "lendcore.memory" 520),en "__firstlineno__" 583 (vj 226 582),en "__init__" 590 (vr 308),en "fresh_tag" 597 (vr 315),en "allocate" 605 (vr 322),en "base" 613 (vr 329),en "is_live" 621 (vr 336),en "live_count" 627 (vr 341),en "free" 635 (vr 348),en "room" 645 (vr 355),en "read" 654 (vr 362),en "known" 663 (vr 369),en "write" 673 (vr 376),en "read_all" 679 (vr 381),en "write_all" 689 (vr 388),en "retagged" 702 (vr 395),en "__static_attributes__" 705 (vr 396),en "__dict__" 707 (vr 399),en "__weakref__" 709 (vr 400),en "__doc__" 710 vn] 4,
k ⟨vt "type", none, PySem.Data.cls (PySem.ClassData.mk (sz "Memory") [vt "object"] [vr 398,vt "object"] 397 (sz "Memory") true [] [] false none false), #[none,none,some (vs "Memory" 572),some (vs "Memory" 580),some (vb "object.__new__"),some (vo true)]⟩,
fl (vt "getset_descriptor") [vs "__dict__" 706,vr 398,vb "function.__dict__",vb "function.__dict__#set"]]
noncomputable def F10 : List OP := [
fl (vt "getset_descriptor") [vs "__weakref__" 708,vr 398,vb "ExceptionGroup.__weakref__",vn],
fl (vt "super") [vr 398,vr 398,vr 398],
fl (vt "builtin_function_or_method") [vb "object.__init_subclass__",vr 398],
tp [],
fv [],
tp [vs "t" 718,vs "world" 719],
tp [],
fc vn (fnd (td 39) "is_enum" 0 [] vn vn vn vn none vn vn 0),
cd [vs "is_enum" 715,vs "is_enum" 716,vf 717,vi 295,vi 2,vi 0,vi 0,vi 3,vr 403,vo true,vi 181,vr 404,vn,vr 405,vr 406,vr 407,vi 720,vi 295,vf 721],
fc (vt "function") (fnd (td 39) "is_enum" 3 [] vn vn vn (vs "lendcore.cells" 713) none (vr 408) vn 0),
tp [],
fv [],
fc vn (fnd (td 40) "parts_told" 0 [] vn vn vn vn none vn vn 0),
cd [vs "parts_told" 723,vs "parts_told" 724,vf 725,vi 297,vi 3,vi 0,vi 0,vi 3,vr 410,vo true,vi 181,vr 411,vn,vn,vn,vr 412,vi 726,vi 297,vf 727],
fc (vt "function") (fnd (td 40) "parts_told" 3 [] vn vn vn (vs "lendcore.cells" 713) none (vr 413) vn 0),
tp [],
fv [],
tp [vs "t" 732],
tp [],
fc vn (fnd (td 41) "is_of_parts" 0 [] vn vn vn vn none vn vn 0),
cd [vs "is_of_parts" 729,vs "is_of_parts" 730,vf 731,vi 303,vi 1,vi 0,vi 0,vi 3,vr 415,vo true,vi 181,vr 416,vn,vr 417,vr 418,vr 419,vi 733,vi 303,vf 734],
fc (vt "function") (fnd (td 41) "is_of_parts" 3 [] vn vn vn (vs "lendcore.cells" 713) none (vr 420) vn 0),
tp [],
fv [],
tp [vs "t" 739,vs "cells" 740,vs "world" 741,vs "variant" 742,vs "at" 743,vs "found" 744,vs "each" 745,vs "many" 746],
tp [],
fc vn (fnd (td 42) "parts_of_cells" 0 [] vn vn vn vn none vn vn 0),
cd [vs "parts_of_cells" 736,vs "parts_of_cells" 737,vf 738,vi 305,vi 3,vi 0,vi 0,vi 3,vr 422,vo true,vi 181,vr 423,vn,vr 424,vr 425,vr 426,vi 747,vi 305,vf 748],
fc (vt "function") (fnd (td 42) "parts_of_cells" 3 [] vn vn vn (vs "lendcore.cells" 713) none (vr 427) vn 0),
tp [],
fv [],
tp [vs "t" 753,vs "cells" 754,vs "world" 755,vs "variant" 756,vs "rows" 757,vs "types_now" 758,vs "k" 759],
tp [],
fc vn (fnd (td 43) "want_whole" 0 [] vn vn vn vn none vn vn 0),
cd [vs "want_whole" 750,vs "want_whole" 751,vf 752,vi 315,vi 3,vi 0,vi 0,vi 3,vr 429,vo true,vi 181,vr 430,vn,vr 431,vr 432,vr 433,vi 760,vi 315,vf 761],
fc (vt "function") (fnd (td 43) "want_whole" 3 [] vn vn vn (vs "lendcore.cells" 713) none (vr 434) vn 0),
tp [],
fv [],
fc vn (fnd (td 44) "told_value" 0 [] vn vn vn vn none vn vn 0),
cd [vs "told_value" 763,vs "told_value" 764,vf 765,vi 326,vi 4,vi 0,vi 0,vi 3,vr 436,vo true,vi 181,vr 437,vn,vn,vn,vr 438,vi 766,vi 326,vf 767]]
noncomputable def F11 : List OP := [
fc (vt "function") (fnd (td 44) "told_value" 3 [] vn vn vn (vs "lendcore.cells" 713) none (vr 439) vn 0),
tp [],
fv [],
tp [vs "one" 774,vs "other" 775,vs "kind" 776,vs "alike" 777],
tp [],
fc vn (fnd (td 46) "head_pairs" 0 [] vn vn vn vn none vn vn 0),
cd [vs "head_pairs" 771,vs "head_pairs" 772,vf 773,vi 339,vi 2,vi 0,vi 0,vi 3,vr 441,vo true,vi 181,vr 442,vn,vr 443,vr 444,vr 445,vi 778,vi 339,vf 779],
fc (vt "function") (fnd (td 46) "head_pairs" 3 [] vn vn vn (vs "lendcore.type_heads" 769) none (vr 446) vn 0),
tp [],
fv [],
tp [vs "one" 784,vs "other" 785,vs "answer" 786,vs "left" 787,vs "here" 788,vs "there" 789,vs "kinds" 790,vs "pairs" 791],
tp [],
fc vn (fnd (td 47) "could_be" 0 [] vn vn vn vn none vn vn 0),
cd [vs "could_be" 781,vs "could_be" 782,vf 783,vi 357,vi 2,vi 0,vi 0,vi 3,vr 448,vo true,vi 181,vr 449,vn,vr 450,vr 451,vr 452,vi 792,vi 357,vf 793],
fc (vt "function") (fnd (td 47) "could_be" 3 [] vn vn vn (vs "lendcore.type_heads" 769) none (vr 453) vn 0),
tp [],
fv [],
tp [vs "pattern" 798,vs "subject" 799,vs "names" 800,vs "found" 801,vs "answer" 802,vs "left" 803,vs "here" 804,vs "there" 805,vs "told" 806,vs "pairs" 807],
tp [],
fc vn (fnd (td 48) "match_type" 0 [] vn vn vn vn none vn vn 0),
cd [vs "match_type" 795,vs "match_type" 796,vf 797,vi 377,vi 4,vi 0,vi 0,vi 3,vr 455,vo true,vi 181,vr 456,vn,vr 457,vr 458,vr 459,vi 808,vi 377,vf 809],
fc (vt "function") (fnd (td 48) "match_type" 3 [] vn vn vn (vs "lendcore.type_heads" 769) none (vr 460) vn 0),
tp [],
fv [],
tp [vs "patterns" 814,vs "subjects" 815,vs "names" 816,vs "found" 817,vs "answer" 818,vs "pattern" 819,vs "subject" 820,vs "told" 821],
tp [],
fc vn (fnd (td 49) "match_all" 0 [] vn vn vn vn none vn vn 0),
cd [vs "match_all" 811,vs "match_all" 812,vf 813,vi 398,vi 4,vi 0,vi 0,vi 3,vr 462,vo true,vi 181,vr 463,vn,vr 464,vr 465,vr 466,vi 822,vi 398,vf 823],
fc (vt "function") (fnd (td 49) "match_all" 3 [] vn vn vn (vs "lendcore.type_heads" 769) none (vr 467) vn 0),
tp [],
fv [],
tp [vs "path" 832],
tp [],
fc vn (fnd (td 52) "last_name" 0 [] vn vn vn vn none vn vn 0),
cd [vs "last_name" 829,vs "last_name" 830,vf 831,vi 410,vi 1,vi 0,vi 0,vi 3,vr 469,vo true,vi 181,vr 470,vn,vr 471,vr 472,vr 473,vi 833,vi 410,vf 834],
fc (vt "function") (fnd (td 52) "last_name" 3 [] vn vn vn (vs "lendcore.traits" 825) none (vr 474) vn 0),
tp [],
fv [],
fc vn (fnd (td 53) "names_of" 0 [] vn vn vn vn none vn vn 0),
cd [vs "names_of" 836,vs "names_of" 837,vf 838,vi 412,vi 1,vi 0,vi 0,vi 3,vr 476,vo true,vi 181,vr 477,vn,vn,vn,vr 478,vi 839,vi 412,vf 840]]
noncomputable def F12 : List OP := [
fc (vt "function") (fnd (td 53) "names_of" 3 [] vn vn vn (vs "lendcore.traits" 825) none (vr 479) vn 0),
tp [],
fv [],
tp [vs "impl" 845,vs "trait_args" 846,vs "T" 847,vs "found" 848,vs "patterns" 849],
tp [],
fc vn (fnd (td 54) "matches_impl" 0 [] vn vn vn vn none vn vn 0),
cd [vs "matches_impl" 842,vs "matches_impl" 843,vf 844,vi 414,vi 3,vi 0,vi 0,vi 3,vr 481,vo true,vi 181,vr 482,vn,vr 483,vr 484,vr 485,vi 850,vi 414,vf 851],
fc (vt "function") (fnd (td 54) "matches_impl" 3 [] vn vn vn (vs "lendcore.traits" 825) none (vr 486) vn 0),
tp [],
fv [],
tp [vs "T" 856],
tp [],
fc vn (fnd (td 55) "is_plainly_copy" 0 [] vn vn vn vn none vn vn 0),
cd [vs "is_plainly_copy" 853,vs "is_plainly_copy" 854,vf 855,vi 420,vi 1,vi 0,vi 0,vi 3,vr 488,vo true,vi 181,vr 489,vn,vr 490,vr 491,vr 492,vi 857,vi 420,vf 858],
fc (vt "function") (fnd (td 55) "is_plainly_copy" 3 [] vn vn vn (vs "lendcore.traits" 825) none (vr 493) vn 0),
tp [],
fl (vt "builtin_function_or_method") [vb "type.__prepare__",vt "type"],
dc (vt "dict") [en "__module__" 867 (vs "lendcore.traits" 825),en "__qualname__" 869 (vs "Selection" 868),en "__firstlineno__" 871 (vj 426 870),en "__init__" 880 (vr 508),en "bound_of" 889 (vr 515),en "needs_of" 895 (vr 520),en "candidates" 913 (vr 527),en "asked" 919 (vr 532),en "__static_attributes__" 922 (vr 533)] 9,
tp [],
fv [vi 428,vi 4,vr 507,vi 432,vi 4,vr 514,vi 437,vi 4,vr 519,vi 444,vi 4,vr 526,vi 458,vi 4,vr 531],
cd [vs "Selection" 862,vs "Selection" 863,vf 864,vi 426,vi 0,vi 0,vi 0,vi 0,vr 498,vo false,vi 181,vr 499,vn,vn,vn,vn,vi 865,vi 426,vf 866],
k ⟨vt "frame", none, PySem.Data.plain, #[some (vr 500),some (vr 3),some (vr 497),none,some (vs "lendcore.traits" 825),none,some (vr 0)]⟩,
tp [],
fv [],
tp [vs "self" 875,vs "world" 876,vs "bounds" 877],
tp [],
fc vn (fnd (tm 56 0) "Selection.__init__" 0 [] vn vn vn vn none vn vn 0),
cd [vs "__init__" 872,vs "Selection.__init__" 873,vf 874,vi 428,vi 3,vi 0,vi 0,vi 3,vr 502,vo true,vi 181,vr 503,vn,vr 504,vr 505,vr 506,vi 878,vi 428,vf 879],
fc (vt "function") (fnd (tm 56 0) "Selection.__init__" 3 [] vn vn vn (vs "lendcore.traits" 825) none (vr 507) vn 0),
tp [],
fv [],
tp [vs "self" 884,vs "trait" 885,vs "T" 886],
tp [],
fc vn (fnd (tm 56 1) "Selection.bound_of" 0 [] vn vn vn vn none vn vn 0),
cd [vs "bound_of" 881,vs "Selection.bound_of" 882,vf 883,vi 432,vi 3,vi 0,vi 0,vi 3,vr 509,vo true,vi 181,vr 510,vn,vr 511,vr 512,vr 513,vi 887,vi 432,vf 888],
fc (vt "function") (fnd (tm 56 1) "Selection.bound_of" 3 [] vn vn vn (vs "lendcore.traits" 825) none (vr 514) vn 0),
tp [],
fv [],
fc vn (fnd (tm 56 2) "Selection.needs_of" 0 [] vn vn vn vn none vn vn 0),
cd [vs "needs_of" 890,vs "Selection.needs_of" 891,vf 892,vi 437,vi 3,vi 0,vi 0,vi 3,vr 516,vo true,vi 181,vr 517,vn,vn,vn,vr 518,vi 893,vi 437,vf 894]]
noncomputable def F13 : List OP := [
fc (vt "function") (fnd (tm 56 2) "Selection.needs_of" 3 [] vn vn vn (vs "lendcore.traits" 825) none (vr 519) vn 0),
tp [],
fv [],
tp [vs "self" 899,vs "trait" 900,vs "args" 901,vs "T" 902,vs "deep" 903,vs "rows" 904,vs "impl" 905,vs "answer" 906,vs "found" 907,vs "other" 908,vs "part" 909,vs "told" 910],
tp [],
fc vn (fnd (tm 56 3) "Selection.candidates" 0 [] vn vn vn vn none vn vn 0),
cd [vs "candidates" 896,vs "Selection.candidates" 897,vf 898,vi 444,vi 5,vi 0,vi 0,vi 3,vr 521,vo true,vi 181,vr 522,vn,vr 523,vr 524,vr 525,vi 911,vi 444,vf 912],
fc (vt "function") (fnd (tm 56 3) "Selection.candidates" 3 [] vn vn vn (vs "lendcore.traits" 825) none (vr 526) vn 0),
tp [],
fv [],
fc vn (fnd (tm 56 4) "Selection.asked" 0 [] vn vn vn vn none vn vn 0),
cd [vs "asked" 914,vs "Selection.asked" 915,vf 916,vi 458,vi 5,vi 0,vi 0,vi 3,vr 528,vo true,vi 181,vr 529,vn,vn,vn,vr 530,vi 917,vi 458,vf 918],
fc (vt "function") (fnd (tm 56 4) "Selection.asked" 3 [] vn vn vn (vs "lendcore.traits" 825) none (vr 531) vn 0),
tp [vs "bounds" 920,vs "world" 921],
dc (vt "dict") [en "__module__" 867 (vs "lendcore.traits" 825),en "__firstlineno__" 871 (vj 426 870),en "__init__" 880 (vr 508),en "bound_of" 889 (vr 515),en "needs_of" 895 (vr 520),en "candidates" 913 (vr 527),en "asked" 919 (vr 532),en "__static_attributes__" 922 (vr 533),en "__dict__" 924 (vr 536),en "__weakref__" 926 (vr 537),en "__doc__" 927 vn] 4,
k ⟨vt "type", none, PySem.Data.cls (PySem.ClassData.mk (sz "Selection") [vt "object"] [vr 535,vt "object"] 534 (sz "Selection") true [] [] false none false), #[none,none,some (vs "Selection" 860),some (vs "Selection" 868),some (vb "object.__new__"),some (vo true)]⟩,
fl (vt "getset_descriptor") [vs "__dict__" 923,vr 535,vb "function.__dict__",vb "function.__dict__#set"],
fl (vt "getset_descriptor") [vs "__weakref__" 925,vr 535,vb "ExceptionGroup.__weakref__",vn],
fl (vt "super") [vr 535,vr 535,vr 535],
fl (vt "builtin_function_or_method") [vb "object.__init_subclass__",vr 535],
tp [],
fv [],
tp [vs "world" 933,vs "trait" 934,vs "args" 935,vs "T" 936,vs "bounds" 937,vs "selection" 938,vs "found" 939,vs "rows" 940],
tp [],
fc vn (fnd (td 57) "select" 0 [] vn vn vn vn none vn vn 0),
cd [vs "select" 930,vs "select" 931,vf 932,vi 473,vi 5,vi 0,vi 0,vi 3,vr 540,vo true,vi 181,vr 541,vn,vr 542,vr 543,vr 544,vi 941,vi 473,vf 942],
fc (vt "function") (fnd (td 57) "select" 3 [] vn vn vn (vs "lendcore.traits" 825) none (vr 545) vn 0),
tp [],
fv [],
fc vn (fnd (td 60) "key_of" 0 [] vn vn vn vn none vn vn 0),
cd [vs "key_of" 948,vs "key_of" 949,vf 950,vi 488,vi 2,vi 0,vi 0,vi 3,vr 547,vo true,vi 181,vr 548,vn,vn,vn,vr 549,vi 951,vi 488,vf 952],
fc (vt "function") (fnd (td 60) "key_of" 3 [] vn vn vn (vs "lendcore.generics" 944) none (vr 550) vn 0),
tp [],
fv [],
fc vn (fnd (td 61) "resolved_ref" 0 [] vn vn vn vn none vn vn 0),
cd [vs "resolved_ref" 954,vs "resolved_ref" 955,vf 956,vi 492,vi 2,vi 0,vi 0,vi 3,vr 552,vo true,vi 181,vr 553,vn,vn,vn,vr 554,vi 957,vi 492,vf 958],
fc (vt "function") (fnd (td 61) "resolved_ref" 3 [] vn vn vn (vs "lendcore.generics" 944) none (vr 555) vn 0),
tp [],
fv [],
tp [vs "world" 963,vs "T" 964,vs "found" 965]]
noncomputable def F14 : List OP := [
tp [],
fc vn (fnd (td 62) "drop_impl" 0 [] vn vn vn vn none vn vn 0),
cd [vs "drop_impl" 960,vs "drop_impl" 961,vf 962,vi 509,vi 2,vi 0,vi 0,vi 3,vr 557,vo true,vi 181,vr 558,vn,vr 559,vr 560,vr 561,vi 966,vi 509,vf 967],
fc (vt "function") (fnd (td 62) "drop_impl" 3 [] vn vn vn (vs "lendcore.generics" 944) none (vr 562) vn 0),
tp [],
fv [],
tp [vs "pointer" 974,vs "t" 975],
tp [],
fc vn (fnd (td 64) "jobs_of" 0 [] vn vn vn vn none vn vn 0),
cd [vs "jobs_of" 971,vs "jobs_of" 972,vf 973,vi 517,vi 2,vi 0,vi 0,vi 3,vr 564,vo true,vi 181,vr 565,vn,vr 566,vr 567,vr 568,vi 976,vi 517,vf 977],
fc (vt "function") (fnd (td 64) "jobs_of" 3 [] vn vn vn (vs "lendcore.drop_glue" 969) none (vr 569) vn 0),
tp [],
fl (vt "builtin_function_or_method") [vb "type.__prepare__",vt "type"],
dc (vt "dict") [en "__module__" 986 (vs "lendcore.drop_glue" 969),en "__qualname__" 988 (vs "DropGlue" 987),en "__firstlineno__" 990 (vj 519 989),en "__init__" 998 (vr 584),en "step" 1009 (vr 591),en "dropped" 1021 (vr 598),en "put_parts" 1035 (vr 605),en "__static_attributes__" 1038 (vr 606)] 8,
tp [],
fv [vi 521,vi 4,vr 583,vi 525,vi 4,vr 590,vi 537,vi 4,vr 597,vi 549,vi 4,vr 604],
cd [vs "DropGlue" 981,vs "DropGlue" 982,vf 983,vi 519,vi 0,vi 0,vi 0,vi 0,vr 574,vo false,vi 181,vr 575,vn,vn,vn,vn,vi 984,vi 519,vf 985],
k ⟨vt "frame", none, PySem.Data.plain, #[some (vr 576),some (vr 3),some (vr 573),none,some (vs "lendcore.drop_glue" 969),none,some (vr 0)]⟩,
tp [],
fv [],
tp [vs "self" 994,vs "places" 995],
tp [],
fc vn (fnd (tm 65 0) "DropGlue.__init__" 0 [] vn vn vn vn none vn vn 0),
cd [vs "__init__" 991,vs "DropGlue.__init__" 992,vf 993,vi 521,vi 2,vi 0,vi 0,vi 3,vr 578,vo true,vi 181,vr 579,vn,vr 580,vr 581,vr 582,vi 996,vi 521,vf 997],
fc (vt "function") (fnd (tm 65 0) "DropGlue.__init__" 3 [] vn vn vn (vs "lendcore.drop_glue" 969) none (vr 583) vn 0),
tp [],
fv [],
tp [vs "self" 1002,vs "jobs" 1003,vs "kind" 1004,vs "pointer" 1005,vs "t" 1006],
tp [],
fc vn (fnd (tm 65 1) "DropGlue.step" 0 [] vn vn vn vn none vn vn 0),
cd [vs "step" 999,vs "DropGlue.step" 1000,vf 1001,vi 525,vi 2,vi 0,vi 0,vi 3,vr 585,vo true,vi 181,vr 586,vn,vr 587,vr 588,vr 589,vi 1007,vi 525,vf 1008],
fc (vt "function") (fnd (tm 65 1) "DropGlue.step" 3 [] vn vn vn (vs "lendcore.drop_glue" 969) none (vr 590) vn 0),
tp [],
fv [],
tp [vs "self" 1013,vs "jobs" 1014,vs "pointer" 1015,vs "t" 1016,vs "own" 1017,vs "reference" 1018],
tp [],
fc vn (fnd (tm 65 2) "DropGlue.dropped" 0 [] vn vn vn vn none vn vn 0),
cd [vs "dropped" 1010,vs "DropGlue.dropped" 1011,vf 1012,vi 537,vi 4,vi 0,vi 0,vi 3,vr 592,vo true,vi 181,vr 593,vn,vr 594,vr 595,vr 596,vi 1019,vi 537,vf 1020],
fc (vt "function") (fnd (tm 65 2) "DropGlue.dropped" 3 [] vn vn vn (vs "lendcore.drop_glue" 969) none (vr 597) vn 0),
tp []]
noncomputable def F15 : List OP := [
fv [],
tp [vs "self" 1025,vs "jobs" 1026,vs "pointer" 1027,vs "t" 1028,vs "variant" 1029,vs "types_now" 1030,vs "k" 1031,vs "at" 1032],
tp [],
fc vn (fnd (tm 65 3) "DropGlue.put_parts" 0 [] vn vn vn vn none vn vn 0),
cd [vs "put_parts" 1022,vs "DropGlue.put_parts" 1023,vf 1024,vi 549,vi 4,vi 0,vi 0,vi 3,vr 599,vo true,vi 181,vr 600,vn,vr 601,vr 602,vr 603,vi 1033,vi 549,vf 1034],
fc (vt "function") (fnd (tm 65 3) "DropGlue.put_parts" 3 [] vn vn vn (vs "lendcore.drop_glue" 969) none (vr 604) vn 0),
tp [vs "places" 1036,vs "world" 1037],
dc (vt "dict") [en "__module__" 986 (vs "lendcore.drop_glue" 969),en "__firstlineno__" 990 (vj 519 989),en "__init__" 998 (vr 584),en "step" 1009 (vr 591),en "dropped" 1021 (vr 598),en "put_parts" 1035 (vr 605),en "__static_attributes__" 1038 (vr 606),en "__dict__" 1040 (vr 609),en "__weakref__" 1042 (vr 610),en "__doc__" 1043 vn] 4,
k ⟨vt "type", none, PySem.Data.cls (PySem.ClassData.mk (sz "DropGlue") [vt "object"] [vr 608,vt "object"] 607 (sz "DropGlue") true [] [] false none false), #[none,none,some (vs "DropGlue" 979),some (vs "DropGlue" 987),some (vb "object.__new__"),some (vo true)]⟩,
fl (vt "getset_descriptor") [vs "__dict__" 1039,vr 608,vb "function.__dict__",vb "function.__dict__#set"],
fl (vt "getset_descriptor") [vs "__weakref__" 1041,vr 608,vb "ExceptionGroup.__weakref__",vn],
fl (vt "super") [vr 608,vr 608,vr 608],
fl (vt "builtin_function_or_method") [vb "object.__init_subclass__",vr 608],
tp [],
fv [],
tp [vs "t" 1049,vs "variant" 1050,vs "k" 1051,vs "world" 1052],
tp [],
fc vn (fnd (td 66) "offset_of_part" 0 [] vn vn vn vn none vn vn 0),
cd [vs "offset_of_part" 1046,vs "offset_of_part" 1047,vf 1048,vi 557,vi 4,vi 0,vi 0,vi 3,vr 613,vo true,vi 181,vr 614,vn,vr 615,vr 616,vr 617,vi 1053,vi 557,vf 1054],
fc (vt "function") (fnd (td 66) "offset_of_part" 3 [] vn vn vn (vs "lendcore.drop_glue" 969) none (vr 618) vn 0),
tp [],
fv [],
tp [vs "cell" 1061],
tp [],
fc vn (fnd (td 68) "is_pointer" 0 [] vn vn vn vn none vn vn 0),
cd [vs "is_pointer" 1058,vs "is_pointer" 1059,vf 1060,vi 562,vi 1,vi 0,vi 0,vi 3,vr 620,vo true,vi 181,vr 621,vn,vr 622,vr 623,vr 624,vi 1062,vi 562,vf 1063],
fc (vt "function") (fnd (td 68) "is_pointer" 3 [] vn vn vn (vs "lendcore.places" 1056) none (vr 625) vn 0),
tp [],
fl (vt "builtin_function_or_method") [vb "type.__prepare__",vt "type"],
dc (vt "dict") [en "__module__" 1072 (vs "lendcore.places" 1056),en "__qualname__" 1074 (vs "Places" 1073),en "__firstlineno__" 1076 (vj 564 1075),en "__init__" 1085 (vr 640),en "home_of" 1094 (vr 647),en "spot_of" 1103 (vr 654),en "want_variant" 1112 (vr 661),en "led" 1121 (vr 668),en "element_of" 1132 (vr 675),en "read" 1142 (vr 682),en "leave" 1151 (vr 689),en "taken" 1160 (vr 696),en "__static_attributes__" 1163 (vr 697)] 13,
tp [],
fv [vi 566,vi 4,vr 639,vi 570,vi 4,vr 646,vi 573,vi 4,vr 653,vi 576,vi 4,vr 660,vi 579,vi 4,vr 667,vi 585,vi 4,vr 674,vi 588,vi 4,vr 681,vi 593,vi 4,vr 688,vi 596,vi 4,vr 695],
cd [vs "Places" 1067,vs "Places" 1068,vf 1069,vi 564,vi 0,vi 0,vi 0,vi 0,vr 630,vo false,vi 181,vr 631,vn,vn,vn,vn,vi 1070,vi 564,vf 1071],
k ⟨vt "frame", none, PySem.Data.plain, #[some (vr 632),some (vr 3),some (vr 629),none,some (vs "lendcore.places" 1056),none,some (vr 0)]⟩,
tp [],
fv [],
tp [vs "self" 1080,vs "memory" 1081,vs "world" 1082],
tp [],
fc vn (fnd (tm 69 0) "Places.__init__" 0 [] vn vn vn vn none vn vn 0),
cd [vs "__init__" 1077,vs "Places.__init__" 1078,vf 1079,vi 566,vi 3,vi 0,vi 0,vi 3,vr 634,vo true,vi 181,vr 635,vn,vr 636,vr 637,vr 638,vi 1083,vi 566,vf 1084]]
noncomputable def F16 : List OP := [
fc (vt "function") (fnd (tm 69 0) "Places.__init__" 3 [] vn vn vn (vs "lendcore.places" 1056) none (vr 639) vn 0),
tp [],
fv [],
tp [vs "self" 1089,vs "frame" 1090,vs "local" 1091],
tp [],
fc vn (fnd (tm 69 1) "Places.home_of" 0 [] vn vn vn vn none vn vn 0),
cd [vs "home_of" 1086,vs "Places.home_of" 1087,vf 1088,vi 570,vi 3,vi 0,vi 0,vi 3,vr 641,vo true,vi 181,vr 642,vn,vr 643,vr 644,vr 645,vi 1092,vi 570,vf 1093],
fc (vt "function") (fnd (tm 69 1) "Places.home_of" 3 [] vn vn vn (vs "lendcore.places" 1056) none (vr 646) vn 0),
tp [],
fv [],
tp [vs "self" 1098,vs "frame" 1099,vs "place" 1100],
tp [],
fc vn (fnd (tm 69 2) "Places.spot_of" 0 [] vn vn vn vn none vn vn 0),
cd [vs "spot_of" 1095,vs "Places.spot_of" 1096,vf 1097,vi 573,vi 3,vi 0,vi 0,vi 3,vr 648,vo true,vi 181,vr 649,vn,vr 650,vr 651,vr 652,vi 1101,vi 573,vf 1102],
fc (vt "function") (fnd (tm 69 2) "Places.spot_of" 3 [] vn vn vn (vs "lendcore.places" 1056) none (vr 653) vn 0),
tp [],
fv [],
tp [vs "self" 1107,vs "pointer" 1108,vs "variant" 1109],
tp [],
fc vn (fnd (tm 69 3) "Places.want_variant" 0 [] vn vn vn vn none vn vn 0),
cd [vs "want_variant" 1104,vs "Places.want_variant" 1105,vf 1106,vi 576,vi 3,vi 0,vi 0,vi 3,vr 655,vo true,vi 181,vr 656,vn,vr 657,vr 658,vr 659,vi 1110,vi 576,vf 1111],
fc (vt "function") (fnd (tm 69 3) "Places.want_variant" 3 [] vn vn vn (vs "lendcore.places" 1056) none (vr 660) vn 0),
tp [],
fv [],
tp [vs "self" 1116,vs "pointer" 1117,vs "cell" 1118],
tp [],
fc vn (fnd (tm 69 4) "Places.led" 0 [] vn vn vn vn none vn vn 0),
cd [vs "led" 1113,vs "Places.led" 1114,vf 1115,vi 579,vi 2,vi 0,vi 0,vi 3,vr 662,vo true,vi 181,vr 663,vn,vr 664,vr 665,vr 666,vi 1119,vi 579,vf 1120],
fc (vt "function") (fnd (tm 69 4) "Places.led" 3 [] vn vn vn (vs "lendcore.places" 1056) none (vr 667) vn 0),
tp [],
fv [],
tp [vs "self" 1125,vs "frame" 1126,vs "pointer" 1127,vs "t" 1128,vs "local" 1129],
tp [],
fc vn (fnd (tm 69 5) "Places.element_of" 0 [] vn vn vn vn none vn vn 0),
cd [vs "element_of" 1122,vs "Places.element_of" 1123,vf 1124,vi 585,vi 5,vi 0,vi 0,vi 3,vr 669,vo true,vi 181,vr 670,vn,vr 671,vr 672,vr 673,vi 1130,vi 585,vf 1131],
fc (vt "function") (fnd (tm 69 5) "Places.element_of" 3 [] vn vn vn (vs "lendcore.places" 1056) none (vr 674) vn 0),
tp [],
fv [],
tp [vs "self" 1136,vs "pointer" 1137,vs "t" 1138,vs "cells" 1139],
tp []]
noncomputable def F17 : List OP := [
fc vn (fnd (tm 69 6) "Places.read" 0 [] vn vn vn vn none vn vn 0),
cd [vs "read" 1133,vs "Places.read" 1134,vf 1135,vi 588,vi 3,vi 0,vi 0,vi 3,vr 676,vo true,vi 181,vr 677,vn,vr 678,vr 679,vr 680,vi 1140,vi 588,vf 1141],
fc (vt "function") (fnd (tm 69 6) "Places.read" 3 [] vn vn vn (vs "lendcore.places" 1056) none (vr 681) vn 0),
tp [],
fv [],
tp [vs "self" 1146,vs "pointer" 1147,vs "t" 1148],
tp [],
fc vn (fnd (tm 69 7) "Places.leave" 0 [] vn vn vn vn none vn vn 0),
cd [vs "leave" 1143,vs "Places.leave" 1144,vf 1145,vi 593,vi 3,vi 0,vi 0,vi 3,vr 683,vo true,vi 181,vr 684,vn,vr 685,vr 686,vr 687,vi 1149,vi 593,vf 1150],
fc (vt "function") (fnd (tm 69 7) "Places.leave" 3 [] vn vn vn (vs "lendcore.places" 1056) none (vr 688) vn 0),
tp [],
fv [],
tp [vs "self" 1155,vs "frame" 1156,vs "operand" 1157],
tp [],
fc vn (fnd (tm 69 8) "Places.taken" 0 [] vn vn vn vn none vn vn 0),
cd [vs "taken" 1152,vs "Places.taken" 1153,vf 1154,vi 596,vi 3,vi 0,vi 0,vi 3,vr 690,vo true,vi 181,vr 691,vn,vr 692,vr 693,vr 694,vi 1158,vi 596,vf 1159],
fc (vt "function") (fnd (tm 69 8) "Places.taken" 3 [] vn vn vn (vs "lendcore.places" 1056) none (vr 695) vn 0),
tp [vs "memory" 1161,vs "world" 1162],
dc (vt "dict") [en "__module__" 1072 (vs "lendcore.places" 1056),en "__firstlineno__" 1076 (vj 564 1075),en "__init__" 1085 (vr 640),en "home_of" 1094 (vr 647),en "spot_of" 1103 (vr 654),en "want_variant" 1112 (vr 661),en "led" 1121 (vr 668),en "element_of" 1132 (vr 675),en "read" 1142 (vr 682),en "leave" 1151 (vr 689),en "taken" 1160 (vr 696),en "__static_attributes__" 1163 (vr 697),en "__dict__" 1165 (vr 700),en "__weakref__" 1167 (vr 701),en "__doc__" 1168 vn] 4,
k ⟨vt "type", none, PySem.Data.cls (PySem.ClassData.mk (sz "Places") [vt "object"] [vr 699,vt "object"] 698 (sz "Places") true [] [] false none false), #[none,none,some (vs "Places" 1065),some (vs "Places" 1073),some (vb "object.__new__"),some (vo true)]⟩,
fl (vt "getset_descriptor") [vs "__dict__" 1164,vr 699,vb "function.__dict__",vb "function.__dict__#set"],
fl (vt "getset_descriptor") [vs "__weakref__" 1166,vr 699,vb "ExceptionGroup.__weakref__",vn],
fl (vt "super") [vr 699,vr 699,vr 699],
fl (vt "builtin_function_or_method") [vb "object.__init_subclass__",vr 699],
tp [],
fl (vt "builtin_function_or_method") [vb "type.__prepare__",vt "type"],
dc (vt "dict") [en "__module__" 1180 (vs "lendcore.world" 1171),en "__qualname__" 1182 (vs "World" 1181),en "__firstlineno__" 1184 (vj 599 1183),en "__init__" 1192 (vr 718),en "is_field_seen" 1203 (vr 725),en "__static_attributes__" 1212 (vr 726)] 6,
tp [],
fv [vi 601,vi 4,vr 717,vi 611,vi 4,vr 724],
cd [vs "World" 1175,vs "World" 1176,vf 1177,vi 599,vi 0,vi 0,vi 0,vi 0,vr 707,vo false,vi 181,vr 708,vn,vn,vn,vn,vi 1178,vi 599,vf 1179],
k ⟨vt "frame", none, PySem.Data.plain, #[some (vr 709),some (vr 3),some (vr 706),none,some (vs "lendcore.world" 1171),none,some (vr 0)]⟩,
tp [vn],
tp [],
fv [],
tp [vs "self" 1188,vs "modules" 1189],
tp [],
fc vn (fnd (tm 71 0) "World.__init__" 0 [] vn vn vn vn none vn vn 0),
cd [vs "__init__" 1185,vs "World.__init__" 1186,vf 1187,vi 601,vi 2,vi 0,vi 0,vi 3,vr 712,vo true,vi 181,vr 713,vn,vr 714,vr 715,vr 716,vi 1190,vi 601,vf 1191],
fc (vt "function") (fnd (tm 71 0) "World.__init__" 3 [] (vr 711) vn vn (vs "lendcore.world" 1171) none (vr 717) vn 0),
tp []]
noncomputable def F18 : List OP := [
fv [],
tp [vs "self" 1196,vs "path" 1197,vs "number" 1198,vs "k" 1199,vs "module" 1200],
tp [],
fc vn (fnd (tm 71 1) "World.is_field_seen" 0 [] vn vn vn vn none vn vn 0),
cd [vs "is_field_seen" 1193,vs "World.is_field_seen" 1194,vf 1195,vi 611,vi 5,vi 0,vi 0,vi 3,vr 719,vo true,vi 181,vr 720,vn,vr 721,vr 722,vr 723,vi 1201,vi 611,vf 1202],
fc (vt "function") (fnd (tm 71 1) "World.is_field_seen" 3 [] vn vn vn (vs "lendcore.world" 1171) none (vr 724) vn 0),
tp [vs "adts" 1204,vs "bodies" 1205,vs "consts" 1206,vs "impls" 1207,vs "modules" 1208,vs "sigs" 1209,vs "traits" 1210,vs "variants" 1211],
dc (vt "dict") [en "__module__" 1180 (vs "lendcore.world" 1171),en "__firstlineno__" 1184 (vj 599 1183),en "__init__" 1192 (vr 718),en "is_field_seen" 1203 (vr 725),en "__static_attributes__" 1212 (vr 726),en "__dict__" 1214 (vr 729),en "__weakref__" 1216 (vr 730),en "__doc__" 1217 vn] 4,
k ⟨vt "type", none, PySem.Data.cls (PySem.ClassData.mk (sz "World") [vt "object"] [vr 728,vt "object"] 727 (sz "World") true [] [] false none false), #[none,none,some (vs "World" 1173),some (vs "World" 1181),some (vb "object.__new__"),some (vo true)]⟩,
fl (vt "getset_descriptor") [vs "__dict__" 1213,vr 728,vb "function.__dict__",vb "function.__dict__#set"],
fl (vt "getset_descriptor") [vs "__weakref__" 1215,vr 728,vb "ExceptionGroup.__weakref__",vn],
fl (vt "super") [vr 728,vr 728,vr 728],
fl (vt "builtin_function_or_method") [vb "object.__init_subclass__",vr 728],
tp [],
fv [],
tp [vs "script" 1225,vs "k" 1226,vs "cell" 1227,vs "big" 1228,vs "mixed" 1229],
tp [],
fc vn (fnd (td 73) "_law_pool" 0 [] vn vn vn vn none vn vn 0),
cd [vs "_law_pool" 1222,vs "_law_pool" 1223,vf 1224,vi 614,vi 2,vi 0,vi 0,vi 3,vr 733,vo true,vi 181,vr 734,vn,vr 735,vr 736,vr 737,vi 1230,vi 614,vf 1231],
fc (vt "function") (fnd (td 73) "_law_pool" 3 [] vn vn vn (vs "law_pf0173_01" 1220) none (vr 738) vn 0),
tp [],
fv [],
tp [vs "source" 1236,vs "top" 1237,vs "drawn" 1238],
tp [],
fc vn (fnd (td 74) "_law_take" 0 [] vn vn vn vn none vn vn 0),
cd [vs "_law_take" 1233,vs "_law_take" 1234,vf 1235,vi 621,vi 2,vi 0,vi 0,vi 3,vr 740,vo true,vi 181,vr 741,vn,vr 742,vr 743,vr 744,vi 1239,vi 621,vf 1240],
fc (vt "function") (fnd (td 74) "_law_take" 3 [] vn vn vn (vs "law_pf0173_01" 1220) none (vr 745) vn 0),
tp [],
fv [],
tp [vs "source" 1245,vs "things" 1246],
tp [],
fc vn (fnd (td 75) "_law_one" 0 [] vn vn vn vn none vn vn 0),
cd [vs "_law_one" 1242,vs "_law_one" 1243,vf 1244,vi 628,vi 2,vi 0,vi 0,vi 3,vr 747,vo true,vi 181,vr 748,vn,vr 749,vr 750,vr 751,vi 1247,vi 628,vf 1248],
fc (vt "function") (fnd (td 75) "_law_one" 3 [] vn vn vn (vs "law_pf0173_01" 1220) none (vr 752) vn 0),
tp [],
fv [],
fc vn (fnd (td 76) "_law_type" 0 [] vn vn vn vn none vn vn 0),
cd [vs "_law_type" 1250,vs "_law_type" 1251,vf 1252,vi 630,vi 2,vi 0,vi 0,vi 3,vr 754,vo true,vi 181,vr 755,vn,vn,vn,vr 756,vi 1253,vi 630,vf 1254],
fc (vt "function") (fnd (td 76) "_law_type" 3 [] vn vn vn (vs "law_pf0173_01" 1220) none (vr 757) vn 0),
tp []]
noncomputable def F19 : List OP := [
fv [],
tp [vs "kind" 1259],
tp [],
fc vn (fnd (td 77) "_law_parts" 0 [] vn vn vn vn none vn vn 0),
cd [vs "_law_parts" 1256,vs "_law_parts" 1257,vf 1258,vi 639,vi 1,vi 0,vi 0,vi 3,vr 759,vo true,vi 181,vr 760,vn,vr 761,vr 762,vr 763,vi 1260,vi 639,vf 1261],
fc (vt "function") (fnd (td 77) "_law_parts" 3 [] vn vn vn (vs "law_pf0173_01" 1220) none (vr 764) vn 0),
tp [],
fv [],
fc vn (fnd (td 78) "_law_size" 0 [] vn vn vn vn none vn vn 0),
cd [vs "_law_size" 1263,vs "_law_size" 1264,vf 1265,vi 643,vi 1,vi 0,vi 0,vi 3,vr 766,vo true,vi 181,vr 767,vn,vn,vn,vr 768,vi 1266,vi 643,vf 1267],
fc (vt "function") (fnd (td 78) "_law_size" 3 [] vn vn vn (vs "law_pf0173_01" 1220) none (vr 769) vn 0),
tp [],
fv [],
fc vn (fnd (td 79) "_law_has_box" 0 [] vn vn vn vn none vn vn 0),
cd [vs "_law_has_box" 1269,vs "_law_has_box" 1270,vf 1271,vi 646,vi 1,vi 0,vi 0,vi 3,vr 771,vo true,vi 181,vr 772,vn,vn,vn,vr 773,vi 1272,vi 646,vf 1273],
fc (vt "function") (fnd (td 79) "_law_has_box" 3 [] vn vn vn (vs "law_pf0173_01" 1220) none (vr 774) vn 0),
tp [],
fv [],
fc vn (fnd (td 80) "_law_jobs" 0 [] vn vn vn vn none vn vn 0),
cd [vs "_law_jobs" 1275,vs "_law_jobs" 1276,vf 1277,vi 651,vi 1,vi 0,vi 0,vi 3,vr 776,vo true,vi 181,vr 777,vn,vn,vn,vr 778,vi 1278,vi 651,vf 1279],
fc (vt "function") (fnd (td 80) "_law_jobs" 3 [] vn vn vn (vs "law_pf0173_01" 1220) none (vr 779) vn 0),
tp [],
fv [],
fc vn (fnd (td 81) "_law_value" 0 [] vn vn vn vn none vn vn 0),
cd [vs "_law_value" 1281,vs "_law_value" 1282,vf 1283,vi 657,vi 3,vi 0,vi 0,vi 3,vr 781,vo true,vi 181,vr 782,vn,vn,vn,vr 783,vi 1284,vi 657,vf 1285],
fc (vt "function") (fnd (td 81) "_law_value" 3 [] vn vn vn (vs "law_pf0173_01" 1220) none (vr 784) vn 0),
tp [],
fv [],
fc vn (fnd (td 82) "_law_dropped_right" 0 [] vn vn vn vn none vn vn 0),
cd [vs "_law_dropped_right" 1287,vs "_law_dropped_right" 1288,vf 1289,vi 670,vi 4,vi 0,vi 0,vi 3,vr 786,vo true,vi 181,vr 787,vn,vn,vn,vr 788,vi 1290,vi 670,vf 1291],
fc (vt "function") (fnd (td 82) "_law_dropped_right" 3 [] vn vn vn (vs "law_pf0173_01" 1220) none (vr 789) vn 0),
tp [],
fv [],
tp [vs "source" 1296,vs "kind" 1297,vs "memory" 1298,vs "world" 1299,vs "cells" 1300,vs "told" 1301,vs "order" 1302,vs "home" 1303,vs "size" 1304,vs "number" 1305,vs "place" 1306],
tp [],
fc vn (fnd (td 83) "_law_array_right" 0 [] vn vn vn vn none vn vn 0),
cd [vs "_law_array_right" 1293,vs "_law_array_right" 1294,vf 1295,vi 682,vi 2,vi 0,vi 0,vi 3,vr 791,vo true,vi 181,vr 792,vn,vr 793,vr 794,vr 795,vi 1307,vi 682,vf 1308],
fc (vt "function") (fnd (td 83) "_law_array_right" 3 [] vn vn vn (vs "law_pf0173_01" 1220) none (vr 796) vn 0),
tp [],
fv []]
noncomputable def F20 : List OP := [
tp [vs "script" 1313,vs "source" 1314,vs "kind" 1315],
tp [],
fc vn (fnd (td 84) "law" 0 [] vn vn vn vn none vn vn 0),
cd [vs "law" 1310,vs "law" 1311,vf 1312,vi 697,vi 1,vi 0,vi 0,vi 3,vr 798,vo true,vi 181,vr 799,vn,vr 800,vr 801,vr 802,vi 1316,vi 697,vf 1317],
fc (vt "function") (fnd (td 84) "law" 3 [] vn vn vn (vs "law_pf0173_01" 1220) none (vr 803) vn 0)]
noncomputable def FA : List OP := F0 ++ (F1 ++ (F2 ++ (F3 ++ (F4 ++ (F5 ++ (F6 ++ (F7 ++ (F8 ++ (F9 ++ (F10 ++ (F11 ++ (F12 ++ (F13 ++ (F14 ++ (F15 ++ (F16 ++ (F17 ++ (F18 ++ (F19 ++ (F20))))))))))))))))))))
noncomputable def C0 : List (Nat × OP) := [
(2, PySem.W.boot_o_2),
(3, PySem.W.boot_o_3),
(12, fv [])]
noncomputable def C1 : List (Nat × OP) := [
(3, dc (vt "dict") [en "__name__" 165 (vs "lendcore.errors" 194),en "__doc__" 166 vn,en "__package__" 167 vn,en "__loader__" 168 (vb "__main__.__loader__#opaque"),en "__spec__" 169 vn,en "__annotations__" 170 (vr 6),en "__builtins__" 171 (vr 4),en "__file__" 173 (vf 172),en "__cached__" 174 vn,en "_wall" 193 (vr 21),en "LendError" 227 (vr 39)] 11),
(12, fv [vi 1,vi 0,vr 20,vi 5,vi 0,vr 27]),
(39, k ⟨vt "type", none, PySem.Data.cls (PySem.ClassData.mk (sz "LendError") [vt "Exception"] [vr 39,vt "Exception",vt "BaseException",vt "object"] 38 (sz "LendError") true [] [] false none false), #[some (vr 22),none,some (vs "LendError" 196),some (vs "LendError" 204),some (vb "Exception.__new__"),some (vo true)]⟩)]
noncomputable def C2 : List (Nat × OP) := [
(3, dc (vt "dict") [en "__name__" 165 (vs "lendcore.errors" 194),en "__doc__" 166 vn,en "__package__" 167 vn,en "__loader__" 168 (vb "__main__.__loader__#opaque"),en "__spec__" 169 vn,en "__annotations__" 170 (vr 6),en "__builtins__" 171 (vr 4),en "__file__" 173 (vf 172),en "__cached__" 174 vn,en "_wall" 193 (vr 21),en "LendError" 227 (vr 39),en "TraitFault" 243 (vr 52)] 12),
(12, fv [vi 1,vi 0,vr 20,vi 5,vi 0,vr 27,vi 11,vi 0,vr 48]),
(39, k ⟨vt "type", none, PySem.Data.cls (PySem.ClassData.mk (sz "LendError") [vt "Exception"] [vr 39,vt "Exception",vt "BaseException",vt "object"] 38 (sz "LendError") true [] [vr 52] false none false), #[some (vr 22),none,some (vs "LendError" 196),some (vs "LendError" 204),some (vb "Exception.__new__"),some (vo true)]⟩)]
noncomputable def C3 : List (Nat × OP) := [
(3, dc (vt "dict") [en "__name__" 165 (vs "lendcore.types" 270),en "__doc__" 166 vn,en "__package__" 167 vn,en "__loader__" 168 (vb "__main__.__loader__#opaque"),en "__spec__" 169 vn,en "__annotations__" 170 (vr 6),en "__builtins__" 171 (vr 4),en "__file__" 173 (vf 172),en "__cached__" 174 vn,en "_wall" 193 (vr 21),en "LendError" 227 (vr 39),en "TraitFault" 243 (vr 52),en "MachineFault" 269 (vr 71),en "DROP_types" 273 (vs "Drop" 272),en "parts_of" 281 (vr 80),en "rebuilt" 290 (vr 87),en "substituted" 296 (vr 92),en "with_regions" 302 (vr 97)] 18),
(12, fv [vi 1,vi 0,vr 20,vi 5,vi 0,vr 27,vi 11,vi 0,vr 48,vi 13,vi 0,vr 60,vi 20,vi 0,vr 79,vi 29,vi 0,vr 86,vi 40,vi 0,vr 91,vi 44,vi 0,vr 96])]
noncomputable def C4 : List (Nat × OP) := [
(3, dc (vt "dict") [en "__name__" 165 (vs "lendcore.layout" 373),en "__doc__" 166 vn,en "__package__" 167 vn,en "__loader__" 168 (vb "__main__.__loader__#opaque"),en "__spec__" 169 vn,en "__annotations__" 170 (vr 6),en "__builtins__" 171 (vr 4),en "__file__" 173 (vf 172),en "__cached__" 174 vn,en "_wall" 193 (vr 21),en "LendError" 227 (vr 39),en "TraitFault" 243 (vr 52),en "MachineFault" 269 (vr 71),en "DROP_types" 273 (vs "Drop" 272),en "parts_of" 281 (vr 80),en "rebuilt" 290 (vr 87),en "substituted" 296 (vr 92),en "with_regions" 302 (vr 97),en "no_region" 309 (vr 104),en "erased" 316 (vr 111),en "region_text" 323 (vr 118),en "type_text" 329 (vr 123),en "matched" 342 (vr 130),en "field_rows" 351 (vr 137),en "fields_of" 357 (vr 142),en "has_drop" 366 (vr 149),en "needs_drop" 372 (vr 154),en "MOST_DEEP_layout" 376 (vj 40 375),en "sum_of" 387 (vr 161),en "size_of" 395 (vr 168),en "size_within" 401 (vr 173),en "part_types" 407 (vr 178)] 32),
(12, fv [vi 1,vi 0,vr 20,vi 5,vi 0,vr 27,vi 11,vi 0,vr 48,vi 13,vi 0,vr 60,vi 20,vi 0,vr 79,vi 29,vi 0,vr 86,vi 40,vi 0,vr 91,vi 44,vi 0,vr 96,vi 50,vi 0,vr 103,vi 52,vi 0,vr 110,vi 54,vi 0,vr 117,vi 58,vi 0,vr 122,vi 80,vi 0,vr 129,vi 99,vi 0,vr 136,vi 101,vi 0,vr 141,vi 113,vi 0,vr 148,vi 118,vi 0,vr 153,vi 136,vi 0,vr 160,vi 141,vi 0,vr 167,vi 143,vi 0,vr 172,vi 162,vi 0,vr 177])]
noncomputable def C5 : List (Nat × OP) := [
(3, dc (vt "dict") [en "__name__" 165 (vs "lendcore.stacks" 436),en "__doc__" 166 vn,en "__package__" 167 vn,en "__loader__" 168 (vb "__main__.__loader__#opaque"),en "__spec__" 169 vn,en "__annotations__" 170 (vr 6),en "__builtins__" 171 (vr 4),en "__file__" 173 (vf 172),en "__cached__" 174 vn,en "_wall" 193 (vr 21),en "LendError" 227 (vr 39),en "TraitFault" 243 (vr 52),en "MachineFault" 269 (vr 71),en "DROP_types" 273 (vs "Drop" 272),en "parts_of" 281 (vr 80),en "rebuilt" 290 (vr 87),en "substituted" 296 (vr 92),en "with_regions" 302 (vr 97),en "no_region" 309 (vr 104),en "erased" 316 (vr 111),en "region_text" 323 (vr 118),en "type_text" 329 (vr 123),en "matched" 342 (vr 130),en "field_rows" 351 (vr 137),en "fields_of" 357 (vr 142),en "has_drop" 366 (vr 149),en "needs_drop" 372 (vr 154),en "MOST_DEEP_layout" 376 (vj 40 375),en "sum_of" 387 (vr 161),en "size_of" 395 (vr 168),en "size_within" 401 (vr 173),en "part_types" 407 (vr 178),en "first_place" 415 (vr 185),en "offset_of_field" 426 (vr 192),en "offset_of_item" 435 (vr 199)] 35),
(12, fv [vi 1,vi 0,vr 20,vi 5,vi 0,vr 27,vi 11,vi 0,vr 48,vi 13,vi 0,vr 60,vi 20,vi 0,vr 79,vi 29,vi 0,vr 86,vi 40,vi 0,vr 91,vi 44,vi 0,vr 96,vi 50,vi 0,vr 103,vi 52,vi 0,vr 110,vi 54,vi 0,vr 117,vi 58,vi 0,vr 122,vi 80,vi 0,vr 129,vi 99,vi 0,vr 136,vi 101,vi 0,vr 141,vi 113,vi 0,vr 148,vi 118,vi 0,vr 153,vi 136,vi 0,vr 160,vi 141,vi 0,vr 167,vi 143,vi 0,vr 172,vi 162,vi 0,vr 177,vi 166,vi 0,vr 184,vi 168,vi 0,vr 191,vi 171,vi 0,vr 198])]
noncomputable def C6 : List (Nat × OP) := [
(3, dc (vt "dict") [en "__name__" 165 (vs "lendcore.stacks" 436),en "__doc__" 166 vn,en "__package__" 167 vn,en "__loader__" 168 (vb "__main__.__loader__#opaque"),en "__spec__" 169 vn,en "__annotations__" 170 (vr 6),en "__builtins__" 171 (vr 4),en "__file__" 173 (vf 172),en "__cached__" 174 vn,en "_wall" 193 (vr 21),en "LendError" 227 (vr 39),en "TraitFault" 243 (vr 52),en "MachineFault" 269 (vr 71),en "DROP_types" 273 (vs "Drop" 272),en "parts_of" 281 (vr 80),en "rebuilt" 290 (vr 87),en "substituted" 296 (vr 92),en "with_regions" 302 (vr 97),en "no_region" 309 (vr 104),en "erased" 316 (vr 111),en "region_text" 323 (vr 118),en "type_text" 329 (vr 123),en "matched" 342 (vr 130),en "field_rows" 351 (vr 137),en "fields_of" 357 (vr 142),en "has_drop" 366 (vr 149),en "needs_drop" 372 (vr 154),en "MOST_DEEP_layout" 376 (vj 40 375),en "sum_of" 387 (vr 161),en "size_of" 395 (vr 168),en "size_within" 401 (vr 173),en "part_types" 407 (vr 178),en "first_place" 415 (vr 185),en "offset_of_field" 426 (vr 192),en "offset_of_item" 435 (vr 199),en "Stack" 519 (vr 256)] 36),
(12, fv [vi 1,vi 0,vr 20,vi 5,vi 0,vr 27,vi 11,vi 0,vr 48,vi 13,vi 0,vr 60,vi 20,vi 0,vr 79,vi 29,vi 0,vr 86,vi 40,vi 0,vr 91,vi 44,vi 0,vr 96,vi 50,vi 0,vr 103,vi 52,vi 0,vr 110,vi 54,vi 0,vr 117,vi 58,vi 0,vr 122,vi 80,vi 0,vr 129,vi 99,vi 0,vr 136,vi 101,vi 0,vr 141,vi 113,vi 0,vr 148,vi 118,vi 0,vr 153,vi 136,vi 0,vr 160,vi 141,vi 0,vr 167,vi 143,vi 0,vr 172,vi 162,vi 0,vr 177,vi 166,vi 0,vr 184,vi 168,vi 0,vr 191,vi 171,vi 0,vr 198,vi 174,vi 0,vr 205])]
noncomputable def C7 : List (Nat × OP) := [
(3, dc (vt "dict") [en "__name__" 165 (vs "lendcore.memory" 520),en "__doc__" 166 vn,en "__package__" 167 vn,en "__loader__" 168 (vb "__main__.__loader__#opaque"),en "__spec__" 169 vn,en "__annotations__" 170 (vr 6),en "__builtins__" 171 (vr 4),en "__file__" 173 (vf 172),en "__cached__" 174 vn,en "_wall" 193 (vr 21),en "LendError" 227 (vr 39),en "TraitFault" 243 (vr 52),en "MachineFault" 269 (vr 71),en "DROP_types" 273 (vs "Drop" 272),en "parts_of" 281 (vr 80),en "rebuilt" 290 (vr 87),en "substituted" 296 (vr 92),en "with_regions" 302 (vr 97),en "no_region" 309 (vr 104),en "erased" 316 (vr 111),en "region_text" 323 (vr 118),en "type_text" 329 (vr 123),en "matched" 342 (vr 130),en "field_rows" 351 (vr 137),en "fields_of" 357 (vr 142),en "has_drop" 366 (vr 149),en "needs_drop" 372 (vr 154),en "MOST_DEEP_layout" 376 (vj 40 375),en "sum_of" 387 (vr 161),en "size_of" 395 (vr 168),en "size_within" 401 (vr 173),en "part_types" 407 (vr 178),en "first_place" 415 (vr 185),en "offset_of_field" 426 (vr 192),en "offset_of_item" 435 (vr 199),en "Stack" 519 (vr 256),en "UNINIT" 523 (vr 261),en "OWNER" 525 (vj 0 524),en "pointer" 534 (vr 268),en "moved" 542 (vr 275),en "Allocation" 571 (vr 290)] 41),
(12, fv [vi 1,vi 0,vr 20,vi 5,vi 0,vr 27,vi 11,vi 0,vr 48,vi 13,vi 0,vr 60,vi 20,vi 0,vr 79,vi 29,vi 0,vr 86,vi 40,vi 0,vr 91,vi 44,vi 0,vr 96,vi 50,vi 0,vr 103,vi 52,vi 0,vr 110,vi 54,vi 0,vr 117,vi 58,vi 0,vr 122,vi 80,vi 0,vr 129,vi 99,vi 0,vr 136,vi 101,vi 0,vr 141,vi 113,vi 0,vr 148,vi 118,vi 0,vr 153,vi 136,vi 0,vr 160,vi 141,vi 0,vr 167,vi 143,vi 0,vr 172,vi 162,vi 0,vr 177,vi 166,vi 0,vr 184,vi 168,vi 0,vr 191,vi 171,vi 0,vr 198,vi 174,vi 0,vr 205,vi 216,vi 0,vr 267,vi 218,vi 0,vr 274,vi 220,vi 0,vr 281])]
noncomputable def C8 : List (Nat × OP) := [
(3, dc (vt "dict") [en "__name__" 165 (vs "lendcore.memory" 520),en "__doc__" 166 vn,en "__package__" 167 vn,en "__loader__" 168 (vb "__main__.__loader__#opaque"),en "__spec__" 169 vn,en "__annotations__" 170 (vr 6),en "__builtins__" 171 (vr 4),en "__file__" 173 (vf 172),en "__cached__" 174 vn,en "_wall" 193 (vr 21),en "LendError" 227 (vr 39),en "TraitFault" 243 (vr 52),en "MachineFault" 269 (vr 71),en "DROP_types" 273 (vs "Drop" 272),en "parts_of" 281 (vr 80),en "rebuilt" 290 (vr 87),en "substituted" 296 (vr 92),en "with_regions" 302 (vr 97),en "no_region" 309 (vr 104),en "erased" 316 (vr 111),en "region_text" 323 (vr 118),en "type_text" 329 (vr 123),en "matched" 342 (vr 130),en "field_rows" 351 (vr 137),en "fields_of" 357 (vr 142),en "has_drop" 366 (vr 149),en "needs_drop" 372 (vr 154),en "MOST_DEEP_layout" 376 (vj 40 375),en "sum_of" 387 (vr 161),en "size_of" 395 (vr 168),en "size_within" 401 (vr 173),en "part_types" 407 (vr 178),en "first_place" 415 (vr 185),en "offset_of_field" 426 (vr 192),en "offset_of_item" 435 (vr 199),en "Stack" 519 (vr 256),en "UNINIT" 523 (vr 261),en "OWNER" 525 (vj 0 524),en "pointer" 534 (vr 268),en "moved" 542 (vr 275),en "Allocation" 571 (vr 290),en "Memory" 712 (vr 398)] 42),
(12, fv [vi 1,vi 0,vr 20,vi 5,vi 0,vr 27,vi 11,vi 0,vr 48,vi 13,vi 0,vr 60,vi 20,vi 0,vr 79,vi 29,vi 0,vr 86,vi 40,vi 0,vr 91,vi 44,vi 0,vr 96,vi 50,vi 0,vr 103,vi 52,vi 0,vr 110,vi 54,vi 0,vr 117,vi 58,vi 0,vr 122,vi 80,vi 0,vr 129,vi 99,vi 0,vr 136,vi 101,vi 0,vr 141,vi 113,vi 0,vr 148,vi 118,vi 0,vr 153,vi 136,vi 0,vr 160,vi 141,vi 0,vr 167,vi 143,vi 0,vr 172,vi 162,vi 0,vr 177,vi 166,vi 0,vr 184,vi 168,vi 0,vr 191,vi 171,vi 0,vr 198,vi 174,vi 0,vr 205,vi 216,vi 0,vr 267,vi 218,vi 0,vr 274,vi 220,vi 0,vr 281,vi 226,vi 0,vr 300])]
noncomputable def C9 : List (Nat × OP) := [
(3, dc (vt "dict") [en "__name__" 165 (vs "lendcore.traits" 825),en "__doc__" 166 vn,en "__package__" 167 vn,en "__loader__" 168 (vb "__main__.__loader__#opaque"),en "__spec__" 169 vn,en "__annotations__" 170 (vr 6),en "__builtins__" 171 (vr 4),en "__file__" 173 (vf 172),en "__cached__" 174 vn,en "_wall" 193 (vr 21),en "LendError" 227 (vr 39),en "TraitFault" 243 (vr 52),en "MachineFault" 269 (vr 71),en "DROP_types" 273 (vs "Drop" 272),en "parts_of" 281 (vr 80),en "rebuilt" 290 (vr 87),en "substituted" 296 (vr 92),en "with_regions" 302 (vr 97),en "no_region" 309 (vr 104),en "erased" 316 (vr 111),en "region_text" 323 (vr 118),en "type_text" 329 (vr 123),en "matched" 342 (vr 130),en "field_rows" 351 (vr 137),en "fields_of" 357 (vr 142),en "has_drop" 366 (vr 149),en "needs_drop" 372 (vr 154),en "MOST_DEEP_layout" 376 (vj 40 375),en "sum_of" 387 (vr 161),en "size_of" 395 (vr 168),en "size_within" 401 (vr 173),en "part_types" 407 (vr 178),en "first_place" 415 (vr 185),en "offset_of_field" 426 (vr 192),en "offset_of_item" 435 (vr 199),en "Stack" 519 (vr 256),en "UNINIT" 523 (vr 261),en "OWNER" 525 (vj 0 524),en "pointer" 534 (vr 268),en "moved" 542 (vr 275),en "Allocation" 571 (vr 290),en "Memory" 712 (vr 398),en "is_enum" 722 (vr 409),en "parts_told" 728 (vr 414),en "is_of_parts" 735 (vr 421),en "parts_of_cells" 749 (vr 428),en "want_whole" 762 (vr 435),en "told_value" 768 (vr 440),en "head_pairs" 780 (vr 447),en "could_be" 794 (vr 454),en "match_type" 810 (vr 461),en "match_all" 824 (vr 468),en "MOST_DEEP_traits" 828 (vj 12 827),en "last_name" 835 (vr 475)] 54),
(12, fv [vi 1,vi 0,vr 20,vi 5,vi 0,vr 27,vi 11,vi 0,vr 48,vi 13,vi 0,vr 60,vi 20,vi 0,vr 79,vi 29,vi 0,vr 86,vi 40,vi 0,vr 91,vi 44,vi 0,vr 96,vi 50,vi 0,vr 103,vi 52,vi 0,vr 110,vi 54,vi 0,vr 117,vi 58,vi 0,vr 122,vi 80,vi 0,vr 129,vi 99,vi 0,vr 136,vi 101,vi 0,vr 141,vi 113,vi 0,vr 148,vi 118,vi 0,vr 153,vi 136,vi 0,vr 160,vi 141,vi 0,vr 167,vi 143,vi 0,vr 172,vi 162,vi 0,vr 177,vi 166,vi 0,vr 184,vi 168,vi 0,vr 191,vi 171,vi 0,vr 198,vi 174,vi 0,vr 205,vi 216,vi 0,vr 267,vi 218,vi 0,vr 274,vi 220,vi 0,vr 281,vi 226,vi 0,vr 300,vi 295,vi 0,vr 408,vi 297,vi 0,vr 413,vi 303,vi 0,vr 420,vi 305,vi 0,vr 427,vi 315,vi 0,vr 434,vi 326,vi 0,vr 439,vi 339,vi 0,vr 446,vi 357,vi 0,vr 453,vi 377,vi 0,vr 460,vi 398,vi 0,vr 467,vi 410,vi 0,vr 474])]
noncomputable def C10 : List (Nat × OP) := [
(3, dc (vt "dict") [en "__name__" 165 (vs "lendcore.traits" 825),en "__doc__" 166 vn,en "__package__" 167 vn,en "__loader__" 168 (vb "__main__.__loader__#opaque"),en "__spec__" 169 vn,en "__annotations__" 170 (vr 6),en "__builtins__" 171 (vr 4),en "__file__" 173 (vf 172),en "__cached__" 174 vn,en "_wall" 193 (vr 21),en "LendError" 227 (vr 39),en "TraitFault" 243 (vr 52),en "MachineFault" 269 (vr 71),en "DROP_types" 273 (vs "Drop" 272),en "parts_of" 281 (vr 80),en "rebuilt" 290 (vr 87),en "substituted" 296 (vr 92),en "with_regions" 302 (vr 97),en "no_region" 309 (vr 104),en "erased" 316 (vr 111),en "region_text" 323 (vr 118),en "type_text" 329 (vr 123),en "matched" 342 (vr 130),en "field_rows" 351 (vr 137),en "fields_of" 357 (vr 142),en "has_drop" 366 (vr 149),en "needs_drop" 372 (vr 154),en "MOST_DEEP_layout" 376 (vj 40 375),en "sum_of" 387 (vr 161),en "size_of" 395 (vr 168),en "size_within" 401 (vr 173),en "part_types" 407 (vr 178),en "first_place" 415 (vr 185),en "offset_of_field" 426 (vr 192),en "offset_of_item" 435 (vr 199),en "Stack" 519 (vr 256),en "UNINIT" 523 (vr 261),en "OWNER" 525 (vj 0 524),en "pointer" 534 (vr 268),en "moved" 542 (vr 275),en "Allocation" 571 (vr 290),en "Memory" 712 (vr 398),en "is_enum" 722 (vr 409),en "parts_told" 728 (vr 414),en "is_of_parts" 735 (vr 421),en "parts_of_cells" 749 (vr 428),en "want_whole" 762 (vr 435),en "told_value" 768 (vr 440),en "head_pairs" 780 (vr 447),en "could_be" 794 (vr 454),en "match_type" 810 (vr 461),en "match_all" 824 (vr 468),en "MOST_DEEP_traits" 828 (vj 12 827),en "last_name" 835 (vr 475),en "names_of" 841 (vr 480),en "matches_impl" 852 (vr 487),en "is_plainly_copy" 859 (vr 494)] 57),
(12, fv [vi 1,vi 0,vr 20,vi 5,vi 0,vr 27,vi 11,vi 0,vr 48,vi 13,vi 0,vr 60,vi 20,vi 0,vr 79,vi 29,vi 0,vr 86,vi 40,vi 0,vr 91,vi 44,vi 0,vr 96,vi 50,vi 0,vr 103,vi 52,vi 0,vr 110,vi 54,vi 0,vr 117,vi 58,vi 0,vr 122,vi 80,vi 0,vr 129,vi 99,vi 0,vr 136,vi 101,vi 0,vr 141,vi 113,vi 0,vr 148,vi 118,vi 0,vr 153,vi 136,vi 0,vr 160,vi 141,vi 0,vr 167,vi 143,vi 0,vr 172,vi 162,vi 0,vr 177,vi 166,vi 0,vr 184,vi 168,vi 0,vr 191,vi 171,vi 0,vr 198,vi 174,vi 0,vr 205,vi 216,vi 0,vr 267,vi 218,vi 0,vr 274,vi 220,vi 0,vr 281,vi 226,vi 0,vr 300,vi 295,vi 0,vr 408,vi 297,vi 0,vr 413,vi 303,vi 0,vr 420,vi 305,vi 0,vr 427,vi 315,vi 0,vr 434,vi 326,vi 0,vr 439,vi 339,vi 0,vr 446,vi 357,vi 0,vr 453,vi 377,vi 0,vr 460,vi 398,vi 0,vr 467,vi 410,vi 0,vr 474,vi 412,vi 0,vr 479,vi 414,vi 0,vr 486,vi 420,vi 0,vr 493])]
noncomputable def C11 : List (Nat × OP) := [
(3, dc (vt "dict") [en "__name__" 165 (vs "lendcore.generics" 944),en "__doc__" 166 vn,en "__package__" 167 vn,en "__loader__" 168 (vb "__main__.__loader__#opaque"),en "__spec__" 169 vn,en "__annotations__" 170 (vr 6),en "__builtins__" 171 (vr 4),en "__file__" 173 (vf 172),en "__cached__" 174 vn,en "_wall" 193 (vr 21),en "LendError" 227 (vr 39),en "TraitFault" 243 (vr 52),en "MachineFault" 269 (vr 71),en "DROP_types" 273 (vs "Drop" 272),en "parts_of" 281 (vr 80),en "rebuilt" 290 (vr 87),en "substituted" 296 (vr 92),en "with_regions" 302 (vr 97),en "no_region" 309 (vr 104),en "erased" 316 (vr 111),en "region_text" 323 (vr 118),en "type_text" 329 (vr 123),en "matched" 342 (vr 130),en "field_rows" 351 (vr 137),en "fields_of" 357 (vr 142),en "has_drop" 366 (vr 149),en "needs_drop" 372 (vr 154),en "MOST_DEEP_layout" 376 (vj 40 375),en "sum_of" 387 (vr 161),en "size_of" 395 (vr 168),en "size_within" 401 (vr 173),en "part_types" 407 (vr 178),en "first_place" 415 (vr 185),en "offset_of_field" 426 (vr 192),en "offset_of_item" 435 (vr 199),en "Stack" 519 (vr 256),en "UNINIT" 523 (vr 261),en "OWNER" 525 (vj 0 524),en "pointer" 534 (vr 268),en "moved" 542 (vr 275),en "Allocation" 571 (vr 290),en "Memory" 712 (vr 398),en "is_enum" 722 (vr 409),en "parts_told" 728 (vr 414),en "is_of_parts" 735 (vr 421),en "parts_of_cells" 749 (vr 428),en "want_whole" 762 (vr 435),en "told_value" 768 (vr 440),en "head_pairs" 780 (vr 447),en "could_be" 794 (vr 454),en "match_type" 810 (vr 461),en "match_all" 824 (vr 468),en "MOST_DEEP_traits" 828 (vj 12 827),en "last_name" 835 (vr 475),en "names_of" 841 (vr 480),en "matches_impl" 852 (vr 487),en "is_plainly_copy" 859 (vr 494),en "Selection" 929 (vr 535),en "select" 943 (vr 546)] 59),
(12, fv [vi 1,vi 0,vr 20,vi 5,vi 0,vr 27,vi 11,vi 0,vr 48,vi 13,vi 0,vr 60,vi 20,vi 0,vr 79,vi 29,vi 0,vr 86,vi 40,vi 0,vr 91,vi 44,vi 0,vr 96,vi 50,vi 0,vr 103,vi 52,vi 0,vr 110,vi 54,vi 0,vr 117,vi 58,vi 0,vr 122,vi 80,vi 0,vr 129,vi 99,vi 0,vr 136,vi 101,vi 0,vr 141,vi 113,vi 0,vr 148,vi 118,vi 0,vr 153,vi 136,vi 0,vr 160,vi 141,vi 0,vr 167,vi 143,vi 0,vr 172,vi 162,vi 0,vr 177,vi 166,vi 0,vr 184,vi 168,vi 0,vr 191,vi 171,vi 0,vr 198,vi 174,vi 0,vr 205,vi 216,vi 0,vr 267,vi 218,vi 0,vr 274,vi 220,vi 0,vr 281,vi 226,vi 0,vr 300,vi 295,vi 0,vr 408,vi 297,vi 0,vr 413,vi 303,vi 0,vr 420,vi 305,vi 0,vr 427,vi 315,vi 0,vr 434,vi 326,vi 0,vr 439,vi 339,vi 0,vr 446,vi 357,vi 0,vr 453,vi 377,vi 0,vr 460,vi 398,vi 0,vr 467,vi 410,vi 0,vr 474,vi 412,vi 0,vr 479,vi 414,vi 0,vr 486,vi 420,vi 0,vr 493,vi 426,vi 0,vr 500,vi 473,vi 0,vr 545])]
noncomputable def C12 : List (Nat × OP) := [
(3, dc (vt "dict") [en "__name__" 165 (vs "lendcore.drop_glue" 969),en "__doc__" 166 vn,en "__package__" 167 vn,en "__loader__" 168 (vb "__main__.__loader__#opaque"),en "__spec__" 169 vn,en "__annotations__" 170 (vr 6),en "__builtins__" 171 (vr 4),en "__file__" 173 (vf 172),en "__cached__" 174 vn,en "_wall" 193 (vr 21),en "LendError" 227 (vr 39),en "TraitFault" 243 (vr 52),en "MachineFault" 269 (vr 71),en "DROP_types" 273 (vs "Drop" 272),en "parts_of" 281 (vr 80),en "rebuilt" 290 (vr 87),en "substituted" 296 (vr 92),en "with_regions" 302 (vr 97),en "no_region" 309 (vr 104),en "erased" 316 (vr 111),en "region_text" 323 (vr 118),en "type_text" 329 (vr 123),en "matched" 342 (vr 130),en "field_rows" 351 (vr 137),en "fields_of" 357 (vr 142),en "has_drop" 366 (vr 149),en "needs_drop" 372 (vr 154),en "MOST_DEEP_layout" 376 (vj 40 375),en "sum_of" 387 (vr 161),en "size_of" 395 (vr 168),en "size_within" 401 (vr 173),en "part_types" 407 (vr 178),en "first_place" 415 (vr 185),en "offset_of_field" 426 (vr 192),en "offset_of_item" 435 (vr 199),en "Stack" 519 (vr 256),en "UNINIT" 523 (vr 261),en "OWNER" 525 (vj 0 524),en "pointer" 534 (vr 268),en "moved" 542 (vr 275),en "Allocation" 571 (vr 290),en "Memory" 712 (vr 398),en "is_enum" 722 (vr 409),en "parts_told" 728 (vr 414),en "is_of_parts" 735 (vr 421),en "parts_of_cells" 749 (vr 428),en "want_whole" 762 (vr 435),en "told_value" 768 (vr 440),en "head_pairs" 780 (vr 447),en "could_be" 794 (vr 454),en "match_type" 810 (vr 461),en "match_all" 824 (vr 468),en "MOST_DEEP_traits" 828 (vj 12 827),en "last_name" 835 (vr 475),en "names_of" 841 (vr 480),en "matches_impl" 852 (vr 487),en "is_plainly_copy" 859 (vr 494),en "Selection" 929 (vr 535),en "select" 943 (vr 546),en "DROP_generics" 947 (vs "Drop" 946),en "key_of" 953 (vr 551),en "resolved_ref" 959 (vr 556),en "drop_impl" 968 (vr 563),en "jobs_of" 978 (vr 570)] 64),
(12, fv [vi 1,vi 0,vr 20,vi 5,vi 0,vr 27,vi 11,vi 0,vr 48,vi 13,vi 0,vr 60,vi 20,vi 0,vr 79,vi 29,vi 0,vr 86,vi 40,vi 0,vr 91,vi 44,vi 0,vr 96,vi 50,vi 0,vr 103,vi 52,vi 0,vr 110,vi 54,vi 0,vr 117,vi 58,vi 0,vr 122,vi 80,vi 0,vr 129,vi 99,vi 0,vr 136,vi 101,vi 0,vr 141,vi 113,vi 0,vr 148,vi 118,vi 0,vr 153,vi 136,vi 0,vr 160,vi 141,vi 0,vr 167,vi 143,vi 0,vr 172,vi 162,vi 0,vr 177,vi 166,vi 0,vr 184,vi 168,vi 0,vr 191,vi 171,vi 0,vr 198,vi 174,vi 0,vr 205,vi 216,vi 0,vr 267,vi 218,vi 0,vr 274,vi 220,vi 0,vr 281,vi 226,vi 0,vr 300,vi 295,vi 0,vr 408,vi 297,vi 0,vr 413,vi 303,vi 0,vr 420,vi 305,vi 0,vr 427,vi 315,vi 0,vr 434,vi 326,vi 0,vr 439,vi 339,vi 0,vr 446,vi 357,vi 0,vr 453,vi 377,vi 0,vr 460,vi 398,vi 0,vr 467,vi 410,vi 0,vr 474,vi 412,vi 0,vr 479,vi 414,vi 0,vr 486,vi 420,vi 0,vr 493,vi 426,vi 0,vr 500,vi 473,vi 0,vr 545,vi 488,vi 0,vr 550,vi 492,vi 0,vr 555,vi 509,vi 0,vr 562,vi 517,vi 0,vr 569])]
noncomputable def C13 : List (Nat × OP) := [
(3, dc (vt "dict") [en "__name__" 165 (vs "lendcore.places" 1056),en "__doc__" 166 vn,en "__package__" 167 vn,en "__loader__" 168 (vb "__main__.__loader__#opaque"),en "__spec__" 169 vn,en "__annotations__" 170 (vr 6),en "__builtins__" 171 (vr 4),en "__file__" 173 (vf 172),en "__cached__" 174 vn,en "_wall" 193 (vr 21),en "LendError" 227 (vr 39),en "TraitFault" 243 (vr 52),en "MachineFault" 269 (vr 71),en "DROP_types" 273 (vs "Drop" 272),en "parts_of" 281 (vr 80),en "rebuilt" 290 (vr 87),en "substituted" 296 (vr 92),en "with_regions" 302 (vr 97),en "no_region" 309 (vr 104),en "erased" 316 (vr 111),en "region_text" 323 (vr 118),en "type_text" 329 (vr 123),en "matched" 342 (vr 130),en "field_rows" 351 (vr 137),en "fields_of" 357 (vr 142),en "has_drop" 366 (vr 149),en "needs_drop" 372 (vr 154),en "MOST_DEEP_layout" 376 (vj 40 375),en "sum_of" 387 (vr 161),en "size_of" 395 (vr 168),en "size_within" 401 (vr 173),en "part_types" 407 (vr 178),en "first_place" 415 (vr 185),en "offset_of_field" 426 (vr 192),en "offset_of_item" 435 (vr 199),en "Stack" 519 (vr 256),en "UNINIT" 523 (vr 261),en "OWNER" 525 (vj 0 524),en "pointer" 534 (vr 268),en "moved" 542 (vr 275),en "Allocation" 571 (vr 290),en "Memory" 712 (vr 398),en "is_enum" 722 (vr 409),en "parts_told" 728 (vr 414),en "is_of_parts" 735 (vr 421),en "parts_of_cells" 749 (vr 428),en "want_whole" 762 (vr 435),en "told_value" 768 (vr 440),en "head_pairs" 780 (vr 447),en "could_be" 794 (vr 454),en "match_type" 810 (vr 461),en "match_all" 824 (vr 468),en "MOST_DEEP_traits" 828 (vj 12 827),en "last_name" 835 (vr 475),en "names_of" 841 (vr 480),en "matches_impl" 852 (vr 487),en "is_plainly_copy" 859 (vr 494),en "Selection" 929 (vr 535),en "select" 943 (vr 546),en "DROP_generics" 947 (vs "Drop" 946),en "key_of" 953 (vr 551),en "resolved_ref" 959 (vr 556),en "drop_impl" 968 (vr 563),en "jobs_of" 978 (vr 570),en "DropGlue" 1045 (vr 608),en "offset_of_part" 1055 (vr 619)] 66),
(12, fv [vi 1,vi 0,vr 20,vi 5,vi 0,vr 27,vi 11,vi 0,vr 48,vi 13,vi 0,vr 60,vi 20,vi 0,vr 79,vi 29,vi 0,vr 86,vi 40,vi 0,vr 91,vi 44,vi 0,vr 96,vi 50,vi 0,vr 103,vi 52,vi 0,vr 110,vi 54,vi 0,vr 117,vi 58,vi 0,vr 122,vi 80,vi 0,vr 129,vi 99,vi 0,vr 136,vi 101,vi 0,vr 141,vi 113,vi 0,vr 148,vi 118,vi 0,vr 153,vi 136,vi 0,vr 160,vi 141,vi 0,vr 167,vi 143,vi 0,vr 172,vi 162,vi 0,vr 177,vi 166,vi 0,vr 184,vi 168,vi 0,vr 191,vi 171,vi 0,vr 198,vi 174,vi 0,vr 205,vi 216,vi 0,vr 267,vi 218,vi 0,vr 274,vi 220,vi 0,vr 281,vi 226,vi 0,vr 300,vi 295,vi 0,vr 408,vi 297,vi 0,vr 413,vi 303,vi 0,vr 420,vi 305,vi 0,vr 427,vi 315,vi 0,vr 434,vi 326,vi 0,vr 439,vi 339,vi 0,vr 446,vi 357,vi 0,vr 453,vi 377,vi 0,vr 460,vi 398,vi 0,vr 467,vi 410,vi 0,vr 474,vi 412,vi 0,vr 479,vi 414,vi 0,vr 486,vi 420,vi 0,vr 493,vi 426,vi 0,vr 500,vi 473,vi 0,vr 545,vi 488,vi 0,vr 550,vi 492,vi 0,vr 555,vi 509,vi 0,vr 562,vi 517,vi 0,vr 569,vi 519,vi 0,vr 576,vi 557,vi 0,vr 618])]
noncomputable def C14 : List (Nat × OP) := [
(3, dc (vt "dict") [en "__name__" 165 (vs "lendcore.places" 1056),en "__doc__" 166 vn,en "__package__" 167 vn,en "__loader__" 168 (vb "__main__.__loader__#opaque"),en "__spec__" 169 vn,en "__annotations__" 170 (vr 6),en "__builtins__" 171 (vr 4),en "__file__" 173 (vf 172),en "__cached__" 174 vn,en "_wall" 193 (vr 21),en "LendError" 227 (vr 39),en "TraitFault" 243 (vr 52),en "MachineFault" 269 (vr 71),en "DROP_types" 273 (vs "Drop" 272),en "parts_of" 281 (vr 80),en "rebuilt" 290 (vr 87),en "substituted" 296 (vr 92),en "with_regions" 302 (vr 97),en "no_region" 309 (vr 104),en "erased" 316 (vr 111),en "region_text" 323 (vr 118),en "type_text" 329 (vr 123),en "matched" 342 (vr 130),en "field_rows" 351 (vr 137),en "fields_of" 357 (vr 142),en "has_drop" 366 (vr 149),en "needs_drop" 372 (vr 154),en "MOST_DEEP_layout" 376 (vj 40 375),en "sum_of" 387 (vr 161),en "size_of" 395 (vr 168),en "size_within" 401 (vr 173),en "part_types" 407 (vr 178),en "first_place" 415 (vr 185),en "offset_of_field" 426 (vr 192),en "offset_of_item" 435 (vr 199),en "Stack" 519 (vr 256),en "UNINIT" 523 (vr 261),en "OWNER" 525 (vj 0 524),en "pointer" 534 (vr 268),en "moved" 542 (vr 275),en "Allocation" 571 (vr 290),en "Memory" 712 (vr 398),en "is_enum" 722 (vr 409),en "parts_told" 728 (vr 414),en "is_of_parts" 735 (vr 421),en "parts_of_cells" 749 (vr 428),en "want_whole" 762 (vr 435),en "told_value" 768 (vr 440),en "head_pairs" 780 (vr 447),en "could_be" 794 (vr 454),en "match_type" 810 (vr 461),en "match_all" 824 (vr 468),en "MOST_DEEP_traits" 828 (vj 12 827),en "last_name" 835 (vr 475),en "names_of" 841 (vr 480),en "matches_impl" 852 (vr 487),en "is_plainly_copy" 859 (vr 494),en "Selection" 929 (vr 535),en "select" 943 (vr 546),en "DROP_generics" 947 (vs "Drop" 946),en "key_of" 953 (vr 551),en "resolved_ref" 959 (vr 556),en "drop_impl" 968 (vr 563),en "jobs_of" 978 (vr 570),en "DropGlue" 1045 (vr 608),en "offset_of_part" 1055 (vr 619),en "is_pointer" 1064 (vr 626)] 67),
(12, fv [vi 1,vi 0,vr 20,vi 5,vi 0,vr 27,vi 11,vi 0,vr 48,vi 13,vi 0,vr 60,vi 20,vi 0,vr 79,vi 29,vi 0,vr 86,vi 40,vi 0,vr 91,vi 44,vi 0,vr 96,vi 50,vi 0,vr 103,vi 52,vi 0,vr 110,vi 54,vi 0,vr 117,vi 58,vi 0,vr 122,vi 80,vi 0,vr 129,vi 99,vi 0,vr 136,vi 101,vi 0,vr 141,vi 113,vi 0,vr 148,vi 118,vi 0,vr 153,vi 136,vi 0,vr 160,vi 141,vi 0,vr 167,vi 143,vi 0,vr 172,vi 162,vi 0,vr 177,vi 166,vi 0,vr 184,vi 168,vi 0,vr 191,vi 171,vi 0,vr 198,vi 174,vi 0,vr 205,vi 216,vi 0,vr 267,vi 218,vi 0,vr 274,vi 220,vi 0,vr 281,vi 226,vi 0,vr 300,vi 295,vi 0,vr 408,vi 297,vi 0,vr 413,vi 303,vi 0,vr 420,vi 305,vi 0,vr 427,vi 315,vi 0,vr 434,vi 326,vi 0,vr 439,vi 339,vi 0,vr 446,vi 357,vi 0,vr 453,vi 377,vi 0,vr 460,vi 398,vi 0,vr 467,vi 410,vi 0,vr 474,vi 412,vi 0,vr 479,vi 414,vi 0,vr 486,vi 420,vi 0,vr 493,vi 426,vi 0,vr 500,vi 473,vi 0,vr 545,vi 488,vi 0,vr 550,vi 492,vi 0,vr 555,vi 509,vi 0,vr 562,vi 517,vi 0,vr 569,vi 519,vi 0,vr 576,vi 557,vi 0,vr 618,vi 562,vi 0,vr 625])]
noncomputable def C15 : List (Nat × OP) := [
(3, dc (vt "dict") [en "__name__" 165 (vs "lendcore.places" 1056),en "__doc__" 166 vn,en "__package__" 167 vn,en "__loader__" 168 (vb "__main__.__loader__#opaque"),en "__spec__" 169 vn,en "__annotations__" 170 (vr 6),en "__builtins__" 171 (vr 4),en "__file__" 173 (vf 172),en "__cached__" 174 vn,en "_wall" 193 (vr 21),en "LendError" 227 (vr 39),en "TraitFault" 243 (vr 52),en "MachineFault" 269 (vr 71),en "DROP_types" 273 (vs "Drop" 272),en "parts_of" 281 (vr 80),en "rebuilt" 290 (vr 87),en "substituted" 296 (vr 92),en "with_regions" 302 (vr 97),en "no_region" 309 (vr 104),en "erased" 316 (vr 111),en "region_text" 323 (vr 118),en "type_text" 329 (vr 123),en "matched" 342 (vr 130),en "field_rows" 351 (vr 137),en "fields_of" 357 (vr 142),en "has_drop" 366 (vr 149),en "needs_drop" 372 (vr 154),en "MOST_DEEP_layout" 376 (vj 40 375),en "sum_of" 387 (vr 161),en "size_of" 395 (vr 168),en "size_within" 401 (vr 173),en "part_types" 407 (vr 178),en "first_place" 415 (vr 185),en "offset_of_field" 426 (vr 192),en "offset_of_item" 435 (vr 199),en "Stack" 519 (vr 256),en "UNINIT" 523 (vr 261),en "OWNER" 525 (vj 0 524),en "pointer" 534 (vr 268),en "moved" 542 (vr 275),en "Allocation" 571 (vr 290),en "Memory" 712 (vr 398),en "is_enum" 722 (vr 409),en "parts_told" 728 (vr 414),en "is_of_parts" 735 (vr 421),en "parts_of_cells" 749 (vr 428),en "want_whole" 762 (vr 435),en "told_value" 768 (vr 440),en "head_pairs" 780 (vr 447),en "could_be" 794 (vr 454),en "match_type" 810 (vr 461),en "match_all" 824 (vr 468),en "MOST_DEEP_traits" 828 (vj 12 827),en "last_name" 835 (vr 475),en "names_of" 841 (vr 480),en "matches_impl" 852 (vr 487),en "is_plainly_copy" 859 (vr 494),en "Selection" 929 (vr 535),en "select" 943 (vr 546),en "DROP_generics" 947 (vs "Drop" 946),en "key_of" 953 (vr 551),en "resolved_ref" 959 (vr 556),en "drop_impl" 968 (vr 563),en "jobs_of" 978 (vr 570),en "DropGlue" 1045 (vr 608),en "offset_of_part" 1055 (vr 619),en "is_pointer" 1064 (vr 626),en "Places" 1170 (vr 699)] 68),
(12, fv [vi 1,vi 0,vr 20,vi 5,vi 0,vr 27,vi 11,vi 0,vr 48,vi 13,vi 0,vr 60,vi 20,vi 0,vr 79,vi 29,vi 0,vr 86,vi 40,vi 0,vr 91,vi 44,vi 0,vr 96,vi 50,vi 0,vr 103,vi 52,vi 0,vr 110,vi 54,vi 0,vr 117,vi 58,vi 0,vr 122,vi 80,vi 0,vr 129,vi 99,vi 0,vr 136,vi 101,vi 0,vr 141,vi 113,vi 0,vr 148,vi 118,vi 0,vr 153,vi 136,vi 0,vr 160,vi 141,vi 0,vr 167,vi 143,vi 0,vr 172,vi 162,vi 0,vr 177,vi 166,vi 0,vr 184,vi 168,vi 0,vr 191,vi 171,vi 0,vr 198,vi 174,vi 0,vr 205,vi 216,vi 0,vr 267,vi 218,vi 0,vr 274,vi 220,vi 0,vr 281,vi 226,vi 0,vr 300,vi 295,vi 0,vr 408,vi 297,vi 0,vr 413,vi 303,vi 0,vr 420,vi 305,vi 0,vr 427,vi 315,vi 0,vr 434,vi 326,vi 0,vr 439,vi 339,vi 0,vr 446,vi 357,vi 0,vr 453,vi 377,vi 0,vr 460,vi 398,vi 0,vr 467,vi 410,vi 0,vr 474,vi 412,vi 0,vr 479,vi 414,vi 0,vr 486,vi 420,vi 0,vr 493,vi 426,vi 0,vr 500,vi 473,vi 0,vr 545,vi 488,vi 0,vr 550,vi 492,vi 0,vr 555,vi 509,vi 0,vr 562,vi 517,vi 0,vr 569,vi 519,vi 0,vr 576,vi 557,vi 0,vr 618,vi 562,vi 0,vr 625,vi 564,vi 0,vr 632])]
noncomputable def C16 : List (Nat × OP) := [
(3, dc (vt "dict") [en "__name__" 165 (vs "law_pf0173_01" 1220),en "__doc__" 166 vn,en "__package__" 167 vn,en "__loader__" 168 (vb "__main__.__loader__#opaque"),en "__spec__" 169 vn,en "__annotations__" 170 (vr 6),en "__builtins__" 171 (vr 4),en "__file__" 173 (vf 172),en "__cached__" 174 vn,en "_wall" 193 (vr 21),en "LendError" 227 (vr 39),en "TraitFault" 243 (vr 52),en "MachineFault" 269 (vr 71),en "DROP_types" 273 (vs "Drop" 272),en "parts_of" 281 (vr 80),en "rebuilt" 290 (vr 87),en "substituted" 296 (vr 92),en "with_regions" 302 (vr 97),en "no_region" 309 (vr 104),en "erased" 316 (vr 111),en "region_text" 323 (vr 118),en "type_text" 329 (vr 123),en "matched" 342 (vr 130),en "field_rows" 351 (vr 137),en "fields_of" 357 (vr 142),en "has_drop" 366 (vr 149),en "needs_drop" 372 (vr 154),en "MOST_DEEP_layout" 376 (vj 40 375),en "sum_of" 387 (vr 161),en "size_of" 395 (vr 168),en "size_within" 401 (vr 173),en "part_types" 407 (vr 178),en "first_place" 415 (vr 185),en "offset_of_field" 426 (vr 192),en "offset_of_item" 435 (vr 199),en "Stack" 519 (vr 256),en "UNINIT" 523 (vr 261),en "OWNER" 525 (vj 0 524),en "pointer" 534 (vr 268),en "moved" 542 (vr 275),en "Allocation" 571 (vr 290),en "Memory" 712 (vr 398),en "is_enum" 722 (vr 409),en "parts_told" 728 (vr 414),en "is_of_parts" 735 (vr 421),en "parts_of_cells" 749 (vr 428),en "want_whole" 762 (vr 435),en "told_value" 768 (vr 440),en "head_pairs" 780 (vr 447),en "could_be" 794 (vr 454),en "match_type" 810 (vr 461),en "match_all" 824 (vr 468),en "MOST_DEEP_traits" 828 (vj 12 827),en "last_name" 835 (vr 475),en "names_of" 841 (vr 480),en "matches_impl" 852 (vr 487),en "is_plainly_copy" 859 (vr 494),en "Selection" 929 (vr 535),en "select" 943 (vr 546),en "DROP_generics" 947 (vs "Drop" 946),en "key_of" 953 (vr 551),en "resolved_ref" 959 (vr 556),en "drop_impl" 968 (vr 563),en "jobs_of" 978 (vr 570),en "DropGlue" 1045 (vr 608),en "offset_of_part" 1055 (vr 619),en "is_pointer" 1064 (vr 626),en "Places" 1170 (vr 699),en "World" 1219 (vr 728),en "_law_pool" 1232 (vr 739),en "_law_take" 1241 (vr 746),en "_law_one" 1249 (vr 753)] 72),
(12, fv [vi 1,vi 0,vr 20,vi 5,vi 0,vr 27,vi 11,vi 0,vr 48,vi 13,vi 0,vr 60,vi 20,vi 0,vr 79,vi 29,vi 0,vr 86,vi 40,vi 0,vr 91,vi 44,vi 0,vr 96,vi 50,vi 0,vr 103,vi 52,vi 0,vr 110,vi 54,vi 0,vr 117,vi 58,vi 0,vr 122,vi 80,vi 0,vr 129,vi 99,vi 0,vr 136,vi 101,vi 0,vr 141,vi 113,vi 0,vr 148,vi 118,vi 0,vr 153,vi 136,vi 0,vr 160,vi 141,vi 0,vr 167,vi 143,vi 0,vr 172,vi 162,vi 0,vr 177,vi 166,vi 0,vr 184,vi 168,vi 0,vr 191,vi 171,vi 0,vr 198,vi 174,vi 0,vr 205,vi 216,vi 0,vr 267,vi 218,vi 0,vr 274,vi 220,vi 0,vr 281,vi 226,vi 0,vr 300,vi 295,vi 0,vr 408,vi 297,vi 0,vr 413,vi 303,vi 0,vr 420,vi 305,vi 0,vr 427,vi 315,vi 0,vr 434,vi 326,vi 0,vr 439,vi 339,vi 0,vr 446,vi 357,vi 0,vr 453,vi 377,vi 0,vr 460,vi 398,vi 0,vr 467,vi 410,vi 0,vr 474,vi 412,vi 0,vr 479,vi 414,vi 0,vr 486,vi 420,vi 0,vr 493,vi 426,vi 0,vr 500,vi 473,vi 0,vr 545,vi 488,vi 0,vr 550,vi 492,vi 0,vr 555,vi 509,vi 0,vr 562,vi 517,vi 0,vr 569,vi 519,vi 0,vr 576,vi 557,vi 0,vr 618,vi 562,vi 0,vr 625,vi 564,vi 0,vr 632,vi 599,vi 0,vr 709,vi 614,vi 0,vr 738,vi 621,vi 0,vr 745,vi 628,vi 0,vr 752])]
noncomputable def C17 : List (Nat × OP) := [
]
noncomputable def CA : List (Nat × OP) := [
(2, PySem.W.boot_o_2),
(3, PySem.W.boot_o_3),
(12, fv [])]
noncomputable def KA : List Nat := [2, 3, 15, 17, 18, 20, 21, 22, 29, 30, 32, 33, 35, 36, 37, 38, 39, 40, 43, 50, 51, 52, 55, 62, 64, 65, 67, 68, 69, 70, 71, 74, 76, 77, 79, 80, 81, 83, 84, 86, 87, 88, 91, 92, 93, 96, 97, 98, 100, 101, 103, 104, 105, 107, 108, 110, 111, 112, 114, 115, 117, 118, 119, 122, 123, 124, 126, 127, 129, 130, 131, 133, 134, 136, 137, 138, 141, 142, 143, 145, 146, 148, 149, 150, 153, 154, 155, 157, 158, 160, 161, 162, 164, 165, 167, 168, 169, 172, 173, 174, 177, 178, 179, 181, 182, 184, 185, 186, 188, 189, 191, 192, 193, 195, 196, 198, 199, 207, 209, 210, 212, 213, 214, 216, 217, 219, 220, 221, 223, 224, 226, 227, 228, 230, 231, 233, 234, 235, 238, 239, 240, 242, 243, 245, 246, 247, 249, 250, 252, 253, 254, 255, 256, 257, 258, 261, 262, 264, 265, 267, 268, 269, 271, 272, 274, 275, 283, 286, 287, 288, 289, 290, 291, 292, 302, 304, 305, 307, 308, 309, 311, 312, 314, 315, 316, 318, 319, 321, 322, 323, 325, 326, 328, 329, 330, 332, 333, 335, 336, 337, 340, 341, 342, 344, 345, 347, 348, 349, 351, 352, 354, 355, 356, 358, 359, 361, 362, 363, 365, 366, 368, 369, 370, 372, 373, 375, 376, 377, 380, 381, 382, 384, 385, 387, 388, 389, 391, 392, 394, 395, 396, 397, 398, 399, 400, 403, 405, 406, 408, 409, 410, 413, 414, 415, 417, 418, 420, 421, 422, 424, 425, 427, 428, 429, 431, 432, 434, 435, 436, 439, 440, 441, 443, 444, 446, 447, 448, 450, 451, 453, 454, 455, 457, 458, 460, 461, 462, 464, 465, 467, 468, 469, 471, 472, 474, 475, 476, 479, 480, 481, 483, 484, 486, 487, 488, 490, 491, 493, 494, 502, 504, 505, 507, 508, 509, 511, 512, 514, 515, 516, 519, 520, 521, 523, 524, 526, 527, 528, 531, 532, 533, 534, 535, 536, 537, 540, 542, 543, 545, 546, 547, 550, 551, 552, 555, 556, 557, 559, 560, 562, 563, 564, 566, 567, 569, 570, 578, 580, 581, 583, 584, 585, 587, 588, 590, 591, 592, 594, 595, 597, 598, 599, 601, 602, 604, 605, 606, 607, 608, 609, 610, 613, 615, 616, 618, 619, 620, 622, 623, 625, 626, 634, 636, 637, 639, 640, 641, 643, 644, 646, 647, 648, 650, 651, 653, 654, 655, 657, 658, 660, 661, 662, 664, 665, 667, 668, 669, 671, 672, 674, 675, 676, 678, 679, 681, 682, 683, 685, 686, 688, 689, 690, 692, 693, 695, 696, 697, 698, 699, 700, 701, 711, 712, 714, 715, 717, 718, 719, 721, 722, 724, 725, 726, 727, 728, 729, 730, 733, 735, 736, 738, 739, 740, 742, 743, 745, 746, 747, 749, 750, 752, 753, 754, 757, 758, 759, 761, 762, 764, 765, 766, 769, 770, 771, 774, 775, 776, 779, 780, 781, 784, 785, 786, 789, 790, 791, 793, 794, 796, 797, 798, 800, 801, 803, 804]

noncomputable def sp {α : Type} : List α → List α × List α
  | [] => ([], [])
  | x :: r => (x :: (sp r).2, (sp r).1)
noncomputable def bt : Nat → List Obj → BT
  | 0, _ => .nil
  | _ + 1, [] => .nil
  | n + 1, x :: r => .node x (bt n (sp r).1) (bt n (sp r).2)
noncomputable def pt : List OP → List (Nat × OP) → List OP
  | l, [] => l
  | l, (i, o) :: r => pt (l.set i o) r
noncomputable def os (n : Nat) (c : List (Nat × OP)) (P : Params) : List Obj := (pt (FA.take n) c).map fun o => o P
noncomputable def ST (c : List (Nat × OP)) (n tk : Nat) (w : World) (o : OsState) : SharedT := ⟨bt 12 (os n c w.params), n, {}, #[], {}, tk, o⟩
noncomputable def HA (P : Params) : Heap := ⟨⟨os 15 CA P⟩, {}⟩
noncomputable def HZ (P : Params) : Heap := ⟨⟨FA.map fun o => o P⟩, {}⟩
noncomputable def gt : List OP → Nat → OP
  | [], _ => default
  | x :: _, 0 => x
  | _ :: r, n + 1 => gt r n
noncomputable def K (P : Params) : Frag := KA.map fun a => (a, gt FA a P)
noncomputable def env : Env := { scope := PW.main.scope, locals := mainNs, globals := mainNs, cells := [], code := .ref 13, frame := some 14 }
noncomputable def bE : List Stmt := behindTheImports PW
noncomputable abbrev C : Code := .body bE env
noncomputable abbrev p0 : Pos := ⟨0, 0, 0, 0⟩
noncomputable abbrev B : List Frame := [topFrame p0]
noncomputable def sl (i n : Nat) : List Stmt := (bE.drop i).take n
noncomputable abbrev ann : Option Value := some (.ref 6)
end D
end Mine

end
section
open PySem PySem.W PySem.Calls PyProof.Rows
set_option Elab.async false
set_option maxRecDepth 100000
namespace Mine.D
theorem g0 : ∀ w : World, (fun o => PySem.W.Fast.tw10110043849684766642 PySem.W.Fast.tw14364793385576792824 PW w 11 ann 1 271 (ST C0 15 187 w o) (piecesOf (sl 0 3) env C ⟨0, 0, 0, 0⟩ B)) = fun o => some (.next, ST C1 43 228 w o, C, ⟨5, 0, 10, 24⟩) := fun w => by kernel_rfl
theorem g1 : ∀ w : World, (fun o => PySem.W.Fast.tw10110043849684766642 PySem.W.Fast.tw14364793385576792824 PW w 11 ann 1 214 (ST C1 43 228 w o) (piecesOf (sl 3 1) env C ⟨5, 0, 10, 24⟩ B)) = fun o => some (.next, ST C2 55 244 w o, C, ⟨11, 0, 12, 8⟩) := fun w => by kernel_rfl
theorem g2 : ∀ w : World, (fun o => PySem.W.Fast.tw10110043849684766642 PySem.W.Fast.tw14364793385576792824 PW w 11 ann 1 378 (ST C2 55 244 w o) (piecesOf (sl 4 7) env C ⟨11, 0, 12, 8⟩ B)) = fun o => some (.next, ST C3 98 303 w o, C, ⟨44, 0, 49, 81⟩) := fun w => by kernel_rfl
theorem g3 : ∀ w : World, (fun o => PySem.W.Fast.tw10110043849684766642 PySem.W.Fast.tw14364793385576792824 PW w 11 ann 1 396 (ST C3 98 303 w o) (piecesOf (sl 11 15) env C ⟨44, 0, 49, 81⟩ B)) = fun o => some (.next, ST C4 179 408 w o, C, ⟨162, 0, 165, 95⟩) := fun w => by kernel_rfl
theorem g4 : ∀ w : World, (fun o => PySem.W.Fast.tw10110043849684766642 PySem.W.Fast.tw14364793385576792824 PW w 11 ann 1 104 (ST C4 179 408 w o) (piecesOf (sl 26 4) env C ⟨162, 0, 165, 95⟩ B)) = fun o => some (.next, ST C5 200 438 w o, C, ⟨173, 0, 173, 8⟩) := fun w => by kernel_rfl
theorem g5 : ∀ w : World, (fun o => PySem.W.Fast.tw10110043849684766642 PySem.W.Fast.tw14364793385576792824 PW w 11 ann 1 418 (ST C5 200 438 w o) (piecesOf (sl 30 1) env C ⟨173, 0, 173, 8⟩ B)) = fun o => some (.next, ST C6 261 520 w o, C, ⟨174, 0, 212, 38⟩) := fun w => by kernel_rfl
theorem g6 : ∀ w : World, (fun o => PySem.W.Fast.tw10110043849684766642 PySem.W.Fast.tw14364793385576792824 PW w 11 ann 1 311 (ST C6 261 520 w o) (piecesOf (sl 31 6) env C ⟨174, 0, 212, 38⟩ B)) = fun o => some (.next, ST C7 295 572 w o, C, ⟨220, 0, 225, 27⟩) := fun w => by kernel_rfl
theorem g7 : ∀ w : World, (fun o => PySem.W.Fast.tw10110043849684766642 PySem.W.Fast.tw14364793385576792824 PW w 11 ann 1 643 (ST C7 295 572 w o) (piecesOf (sl 37 1) env C ⟨220, 0, 225, 27⟩ B)) = fun o => some (.next, ST C8 403 713 w o, C, ⟨226, 0, 293, 47⟩) := fun w => by kernel_rfl
theorem g8 : ∀ w : World, (fun o => PySem.W.Fast.tw10110043849684766642 PySem.W.Fast.tw14364793385576792824 PW w 11 ann 1 390 (ST C8 403 713 w o) (piecesOf (sl 38 15) env C ⟨226, 0, 293, 47⟩ B)) = fun o => some (.next, ST C9 476 836 w o, C, ⟨410, 0, 411, 31⟩) := fun w => by kernel_rfl
theorem g9 : ∀ w : World, (fun o => PySem.W.Fast.tw10110043849684766642 PySem.W.Fast.tw14364793385576792824 PW w 11 ann 1 89 (ST C9 476 836 w o) (piecesOf (sl 53 3) env C ⟨410, 0, 411, 31⟩ B)) = fun o => some (.next, ST C10 495 860 w o, C, ⟨420, 0, 425, 46⟩) := fun w => by kernel_rfl
theorem g10 : ∀ w : World, (fun o => PySem.W.Fast.tw10110043849684766642 PySem.W.Fast.tw14364793385576792824 PW w 11 ann 1 401 (ST C10 495 860 w o) (piecesOf (sl 56 3) env C ⟨420, 0, 425, 46⟩ B)) = fun o => some (.next, ST C11 547 946 w o, C, ⟨486, 0, 486, 8⟩) := fun w => by kernel_rfl
theorem g11 : ∀ w : World, (fun o => PySem.W.Fast.tw10110043849684766642 PySem.W.Fast.tw14364793385576792824 PW w 11 ann 1 132 (ST C11 547 946 w o) (piecesOf (sl 59 6) env C ⟨486, 0, 486, 8⟩ B)) = fun o => some (.next, ST C12 571 979 w o, C, ⟨517, 0, 518, 55⟩) := fun w => by kernel_rfl
theorem g12 : ∀ w : World, (fun o => PySem.W.Fast.tw10110043849684766642 PySem.W.Fast.tw14364793385576792824 PW w 11 ann 1 374 (ST C12 571 979 w o) (piecesOf (sl 65 3) env C ⟨517, 0, 518, 55⟩ B)) = fun o => some (.next, ST C13 620 1058 w o, C, ⟨561, 0, 561, 8⟩) := fun w => by kernel_rfl
theorem g13 : ∀ w : World, (fun o => PySem.W.Fast.tw10110043849684766642 PySem.W.Fast.tw14364793385576792824 PW w 11 ann 1 30 (ST C13 620 1058 w o) (piecesOf (sl 68 1) env C ⟨561, 0, 561, 8⟩ B)) = fun o => some (.next, ST C14 627 1065 w o, C, ⟨562, 0, 563, 59⟩) := fun w => by kernel_rfl
theorem g14 : ∀ w : World, (fun o => PySem.W.Fast.tw10110043849684766642 PySem.W.Fast.tw14364793385576792824 PW w 11 ann 1 492 (ST C14 627 1065 w o) (piecesOf (sl 69 1) env C ⟨562, 0, 563, 59⟩ B)) = fun o => some (.next, ST C15 704 1171 w o, C, ⟨564, 0, 597, 16⟩) := fun w => by kernel_rfl
theorem g15 : ∀ w : World, (fun o => PySem.W.Fast.tw10110043849684766642 PySem.W.Fast.tw14364793385576792824 PW w 11 ann 1 378 (ST C15 704 1171 w o) (piecesOf (sl 70 6) env C ⟨564, 0, 597, 16⟩ B)) = fun o => some (.next, ST C16 754 1250 w o, C, ⟨628, 0, 629, 49⟩) := fun w => by kernel_rfl
theorem g16 : ∀ w : World, (fun o => PySem.W.Fast.tw10110043849684766642 PySem.W.Fast.tw14364793385576792824 PW w 11 ann 1 256 (ST C16 754 1250 w o) (piecesOf (sl 76 9) env C ⟨628, 0, 629, 49⟩ B)) = fun o => some (.next, ST C17 805 1319 w o, C, ⟨697, 0, 702, 94⟩) := fun w => by kernel_rfl
end Mine.D

end
section
open PySem PySem.W PySem.Calls PyProof.Rows
set_option Elab.async false
set_option maxRecDepth 100000
set_option maxHeartbeats 4000000
namespace Mine.D
theorem seg_tw : @segRunT = @PySem.W.Fast.tw10110043849684766642 := PySem.W.Fast.te10110043849684766642
theorem tab_tw : treeTable = PySem.W.Fast.tw14364793385576792824 := PySem.W.Fast.te14364793385576792824
theorem go_tw : @topGo = @PySem.W.Fast.tw15667345088766844465 := PySem.W.Fast.te15667345088766844465
theorem den_tw : @denote = @PySem.W.Fast.tw11892475500146522536 := PySem.W.Fast.te11892475500146522536
theorem run_tw : @segRun = @PySem.W.Fast.tw14374325043358763698 := PySem.W.Fast.te14374325043358763698
theorem top_tw : @topRun = @PySem.W.Fast.tw14082659384304107361 := PySem.W.Fast.te14082659384304107361
theorem seen_tw : @openSeen = @PySem.W.Fast.tw4187177175401517315 := PySem.W.Fast.te4187177175401517315
theorem imp_tw : @importedModules = @PySem.W.Fast.tw5923862056798008813 := PySem.W.Fast.te5923862056798008813

theorem pre : ∀ w : World, (fun o => PySem.W.Fast.tw15667345088766844465 PySem.W.Fast.tw14364793385576792824 PW w 11 ann 12 ⟨boot_heap w.params, #[], boot_drawn, boot_toks, o⟩ (topStub PW)) =
    fun o => some (⟨HA w.params, #[], {}, 187, o⟩, ⟨PySem.W.Fast.tw11892475500146522536 PySem.W.Fast.tw14364793385576792824 C, C, p0, B⟩) := fun w => by kernel_rfl
theorem blk : ∀ w : World, (fun o => PySem.W.Fast.tw14374325043358763698 PySem.W.Fast.tw14364793385576792824 PW w 11 ann 1 1 ⟨HA w.params, #[], {}, 187, o⟩ (blockOf bE env C p0 B)) =
    fun o => some (.next, (ST C0 15 187 w o).abs, C, p0) := fun w => by kernel_rfl
theorem fin : ∀ w : World, (fun o => PySem.W.Fast.tw14082659384304107361 PySem.W.Fast.tw14364793385576792824 PW w 11 ann 2 (ST C17 805 1319 w o).abs ⟨doneF .next, C, ⟨697, 0, 702, 94⟩, B⟩) =
    fun o => some ⟨HZ w.params, #[], {}, 1319, o⟩ := fun w => by kernel_rfl
theorem spl : bE = sl 0 3 ++ (sl 3 1 ++ (sl 4 7 ++ (sl 11 15 ++ (sl 26 4 ++ (sl 30 1 ++ (sl 31 6 ++ (sl 37 1 ++ (sl 38 15 ++ (sl 53 3 ++ (sl 56 3 ++ (sl 59 6 ++ (sl 65 3 ++ (sl 68 1 ++ (sl 69 1 ++ (sl 70 6 ++ (sl 76 9 ++ [])))))))))))))))) := by kernel_rfl
theorem stp {c c' : List (Nat × OP)} {n n' t t' k : Nat} {l rest : List Stmt} {p p' : Pos}
    (h : ∀ w : World, (fun o => PySem.W.Fast.tw10110043849684766642 PySem.W.Fast.tw14364793385576792824 PW w 11 ann 1 k (ST c n t w o) (piecesOf l env C p B)) = fun o => some (.next, ST c' n' t' w o, C, p'))
    {N : Nat} {r : Shared} {w : World} {o : OsState} (kk : topRun treeTable PW w 11 ann N (ST c' n' t' w o).abs (restOf rest env C p' B) = some r) :
    topRun treeTable PW w 11 ann (k + N) (ST c n t w o).abs (restOf (l ++ rest) env C p B) = some r := by
  refine piece_app (segRun_of ?_) kk
  rw [seg_tw, tab_tw]
  exact congrFun (h w) o
theorem run (w : World) (o : OsState) : topRun treeTable PW w 11 ann (12 + (1 + (271 + (214 + (378 + (396 + (104 + (418 + (311 + (643 + (390 + (89 + (401 + (132 + (374 + (30 + (492 + (378 + (256 + 2))))))))))))))))))) ⟨boot_heap w.params, #[], boot_drawn, boot_toks, o⟩ (topStub PW) = some ⟨HZ w.params, #[], {}, 1319, o⟩ := by
  refine go_top (s' := ⟨HA w.params, #[], {}, 187, o⟩) (t' := ⟨denote treeTable C, C, p0, B⟩) ?_ ?_
  · rw [go_tw, tab_tw, den_tw]; exact congrFun (pre w) o
  refine piece_block (s' := (ST C0 15 187 w o).abs) (p' := p0) ?_ ?_
  · rw [run_tw, tab_tw]; exact congrFun (blk w) o
  rw [show restOf bE env (Code.body bE env) p0 [topFrame p0] = restOf _ env C p0 B from congrArg (fun l => restOf l env C p0 B) spl]
  refine stp g0 (stp g1 (stp g2 (stp g3 (stp g4 (stp g5 (stp g6 (stp g7 (stp g8 (stp g9 (stp g10 (stp g11 (stp g12 (stp g13 (stp g14 (stp g15 (stp g16 (piece_nil ?_)))))))))))))))))
  rw [top_tw, tab_tw]; exact congrFun (fin w) o
theorem opn : ∀ w : World, (fencedOpening treeTable PW w 12000).map (fun s => (s.heap, s.gens, s.drawn, s.toks)) = some (boot_heap w.params, Array.mk [], boot_drawn, boot_toks) :=
  boot_open (by kernel_rfl) (by decide) (fun s => by kernel_rfl)
theorem siz : ∀ w : World, ((boot_heap w.params).isNs mainGlobals && (#[] : Array GenState).size == 0, (boot_heap w.params).objs.size, (boot_heap w.params).nsMap mainGlobals "__annotations__") = (true, 11, ann) := fun w => by kernel_rfl
end Mine.D

end
section
open PySem PySem.W PySem.Calls PyProof.Rows
set_option Elab.async false
set_option maxRecDepth 100000
set_option maxHeartbeats 4000000
namespace Mine.D
noncomputable def q : Program := view PW [0, 2, 3, 4, 6, 7, 8, 9, 10, 11, 12, 13, 14, 15, 16, 17, 18, 19, 21, 22, 23, 24, 25, 26, 27, 28, 30, 32, 33, 34, 35, 36, 37, 39, 40, 41, 42, 43, 44, 46, 47, 48, 49, 51, 52, 53, 54, 55, 56, 57, 59, 60, 61, 62, 64, 65, 66, 68, 69, 71, 73, 74, 75, 76, 77, 78, 79, 80, 81, 82, 83, 84]
noncomputable abbrev loose : List Str := [Str.ofString "LendError"]
noncomputable abbrev H : Hook := kmHook K KA (fun _ => by kernel_rfl) [139]
noncomputable abbrev sZ (w : World) (o : OsState) : Shared := ⟨HZ w.params, #[], {}, 1319, o⟩
noncomputable abbrev Xt (s : Shared) : Bool := xlAt q [] s && recOk (RowW.records PySem.Challenge.rw_pf0173_01.row.toRowW) s
noncomputable abbrev mods : List Str := importedModules PW.main.body
theorem lookA : ∀ w : World, (fun o => staticsOk (importedModules PW.main.body) (boot_heap w.params) (HZ w.params) && namesBound PW (HZ w.params) && gensDone (sZ w o) && laidKept (boot_heap w.params) (HZ w.params)) = fun _ => true := by
  intro w
  rw [imp_tw]
  kernel_rfl
theorem seen_tw1 : @seen = @PySem.W.Fast.tw5160383126252970620 := PySem.W.Fast.te5160383126252970620
theorem recs_tw : @recsOf = @PySem.W.Fast.tw3399658132070893891 := PySem.W.Fast.te3399658132070893891
theorem owns_tw : @ownsOf = @PySem.W.Fast.tw5991557255702980513 := PySem.W.Fast.te5991557255702980513
theorem tabs_tw : @tabsOk = @PySem.W.Fast.tw479339242167458305 := PySem.W.Fast.te479339242167458305
theorem pin_tw : @pinSeenD = @PySem.W.Fast.tw16090120013241838585 := PySem.W.Fast.te16090120013241838585
theorem drecs_tw : @drecsOf = @PySem.W.Fast.tw3247288618530077131 := PySem.W.Fast.te3247288618530077131
theorem plE_tw : @plainSeenE = @PySem.W.Fast.tw2386780881361962483 := PySem.W.Fast.te2386780881361962483
theorem plD_tw : @plainSeenD = @PySem.W.Fast.tw11698064438423848299 := PySem.W.Fast.te11698064438423848299
theorem wide_tw : @wideSeen = @PySem.W.Fast.tw7317090234206586261 := PySem.W.Fast.te7317090234206586261
theorem cls_tw : @clsSeenW = @PySem.W.Fast.tw7369524293546568484 := PySem.W.Fast.te7369524293546568484
theorem loose_tw : @looseW = @PySem.W.Fast.tw821141287760084731 := PySem.W.Fast.te821141287760084731
theorem keys_tw : @Heap.keysOk = @PySem.W.Fast.tw10880121769531294198 := PySem.W.Fast.te10880121769531294198
theorem acc_tw : @Heap.accountedOkI = @PySem.W.Fast.tw14722251495701143533 := PySem.W.Fast.te14722251495701143533
theorem tbl_tw : @tablesOk = @PySem.W.Fast.tw10994771534591457954 := PySem.W.Fast.te10994771534591457954
theorem lits_tw : @litsOf = @PySem.W.Fast.tw7409074990110511671 := PySem.W.Fast.te7409074990110511671
theorem clss_tw : @clssOf = @PySem.W.Fast.tw13664370479719496447 := PySem.W.Fast.te13664370479719496447
theorem b1 : ∀ w : World, (fun o => seen ((recsOf q).map (·.name)) (ownsOf q) [] { sZ w o with gens := #[] }) = fun _ => expectedOf q := by
  intro w
  rw [seen_tw1, owns_tw, recs_tw]
  kernel_rfl
theorem b2 : ∀ w : World, (fun o => (sZ w o).heap.bltView) = fun _ => bltViewBooted := by
  intro w
  kernel_rfl
theorem b3 : ∀ w : World, (fun o => (sZ w o).heap.keysOk (looseW q loose) ((recsOf q).map (·.name)) ((litsOf q).map (·.1)) ((clssOf q (looseW q loose)).map (·.name)) && (sZ w o).heap.accountedOkI mods && (sZ w o).heap.isNs mainGlobals && (sZ w o).heap.isNs builtinsNs && tablesOk q (sZ w o).heap && Xt (sZ w o) &&
    (if (true : Bool) then (sZ w o).gens.size == 0 else !leftWithCleanup (sZ w o).gens)) = fun _ => true := by
  intro w
  rw [keys_tw, acc_tw, tbl_tw, loose_tw, recs_tw, lits_tw, clss_tw]
  kernel_rfl
theorem b4 : ∀ w : World, (fun o => tabsOk q (sZ w o)) = fun _ => true := by
  intro w
  rw [tabs_tw]
  kernel_rfl
theorem b5 : ∀ w : World, (fun o => pinSeenD q (drecsOf q) (sZ w o)) = fun _ => pinGoodD (drecsOf q) := by
  intro w
  rw [pin_tw, drecs_tw]
  kernel_rfl
theorem b6 : ∀ w : World, (fun o => plainSeenE q (looseW q loose) (sZ w o)) = fun _ => plainGoodE q (looseW q loose) := by
  intro w
  rw [plE_tw, loose_tw]
  kernel_rfl
theorem b7 : ∀ w : World, (fun o => plainSeenD q loose (sZ w o)) = fun _ => plainGoodD q loose := by
  intro w
  rw [plD_tw]
  kernel_rfl
theorem b8 : ∀ w : World, (fun o => wideSeen q (sZ w o)) = fun _ => wideGood q := by
  intro w
  rw [wide_tw]
  kernel_rfl
theorem b9 : ∀ w : World, (fun o => clsSeenW q loose (sZ w o)) = fun _ => clsGoodW q loose := by
  intro w
  rw [cls_tw]
  kernel_rfl
theorem lookB (w : World) (o : OsState) : openSeen q loose mods Xt true (sZ w o) = openGood q loose :=
  looks_pair (congrFun (b1 w) o) (looks_pair (congrFun (b2 w) o) (looks_pair (congrFun (b3 w) o) (looks_pair (congrFun (b4 w) o) (looks_pair (congrFun (b5 w) o) (looks_pair (congrFun (b6 w) o)
    (looks_pair (congrFun (b7 w) o) (looks_pair (congrFun (b8 w) o) (congrFun (b9 w) o))))))))
theorem lookC : ∀ w : World, (fun o => H.obs (sZ w o)) = fun _ => H.val w := by
  intro w
  kernel_rfl
end Mine.D

end
section
open PySem PySem.W PySem.Calls PyProof.Rows
set_option Elab.async false
set_option maxRecDepth 100000
set_option maxHeartbeats 4000000
namespace Mine.D
theorem left : LeftO PW q loose Xt (Hook.obs H) (Hook.val H) 12000 :=
  LeftO.of_pieces (H₁ := HZ) opn siz run (by decide) fun w => funext fun o => congr (congrArg Prod.mk (congrFun (lookA w) o)) (congr (congrArg Prod.mk (lookB w o)) (congrFun (lookC w) o))
theorem said_tw : @OpenLaw.wellSaid = @PySem.W.Fast.tw9446332074065402090 := PySem.W.Fast.te9446332074065402090
theorem said : PySem.Challenge.rw_pf0173_01.wellSaid = true := by
  rw [said_tw]
  iterate 17 refine look_both ?_ (by decide +kernel)
  refine look_both (look_both ?_ (by decide +kernel)) (by decide +kernel)
  iterate 12 refine look_both ?_ (by decide +kernel)
  iterate 5 refine look_both ?_ (by decide +kernel)
  decide +kernel
end Mine.D

end
section
open PySem PySem.W PySem.Calls PyProof.Rows
set_option Elab.async false
set_option maxRecDepth 100000
set_option maxHeartbeats 4000000
namespace Mine.D
noncomputable abbrev R : OpenRow := PySem.Challenge.rw_pf0173_01.row
noncomputable def dk : DefRec × List (Str × PySem.Expr) := match defOf q (Str.ofString "law") with
  | some x => x
  | none => (⟨default, default, default, default, default⟩, [])
theorem hdef : defOf q R.name = some (dk.1, dk.2) := by kernel_rfl
theorem hp : R.prog.theDef R.name = some (dk.1.params, dk.1.body, dk.1.scope) := by kernel_rfl
theorem hk : kwWritten? dk.1.params.kwonlyargs dk.1.params.kw_defaults = some dk.2 := by kernel_rfl
theorem ok : (chainsOk q && opensWell R.prog && (frees R.toRowW && R.within.isEmpty)) = true := by kernel_rfl
theorem hb : R.prog.bare := ⟨rfl, rfl, rfl, rfl, rfl, by decide +kernel⟩
theorem hd (call : WalkO q loose (XL q []) H.says R.toRowW dk.1 dk.2 fun f vs => PySem.call f vs) : PySem.Challenge.rw_pf0173_01.Holds :=
  holds_law said fun k1 => holds_open left (Hook.of H) (Hook.keeps H) (fun s e => xl_of s (Bool.and_eq_true_iff.mp e).1) XL.keeps hdef hp hk
    (fun _ e => recFacts_of (Bool.and_eq_true_iff.mp e).2) rfl k1 ok hb ⟨[WData.list []], by decide +kernel, by decide +kernel⟩ call
end Mine.D

end
section
open PySem PySem.W PyProof.Rows
set_option Elab.async false
set_option maxRecDepth 100000
set_option maxHeartbeats 4000000
namespace Mine
noncomputable def tb0 (K : Frag) : Tb := ⟨fun x => if x = "UNINIT" then some vUNINIT else if x = "OWNER" then some (.int 0) else if x = "MOST_DEEP_layout" then some (.int vMOST) else none, attrOK K, fun c m => c != "" && methOK K c m, fnOK K⟩
section
variable (P : Params)
theorem f_parts_of : TT (Mine.D.K P) "" "parts_of" = some (.fn b_parts_of) := by kernel_rfl
theorem f_needs_drop : TT (Mine.D.K P) "" "needs_drop" = some (.fn b_needs_drop) := by kernel_rfl
theorem f_sum_of : TT (Mine.D.K P) "" "sum_of" = some (.fn b_sum_of) := by kernel_rfl
theorem f_size_of : TT (Mine.D.K P) "" "size_of" = some (.fn b_size_of) := by kernel_rfl
theorem f_size_within : TT (Mine.D.K P) "" "size_within" = some (.fn b_size_within) := by kernel_rfl
theorem f_part_types : TT (Mine.D.K P) "" "part_types" = some (.fn b_part_types) := by kernel_rfl
theorem f_first_place : TT (Mine.D.K P) "" "first_place" = some (.fn b_first_place) := by kernel_rfl
theorem f_offset_of_field : TT (Mine.D.K P) "" "offset_of_field" = some (.fn b_offset_of_field) := by kernel_rfl
theorem f_offset_of_item : TT (Mine.D.K P) "" "offset_of_item" = some (.fn b_offset_of_item) := by kernel_rfl
theorem f_offset_of_part : TT (Mine.D.K P) "" "offset_of_part" = some (.fn b_offset_of_part) := by kernel_rfl
theorem f_Stack___init__ : TT (Mine.D.K P) "Stack" "__init__" = some (.fn b_Stack___init__) := by kernel_rfl
theorem f_Stack_place : TT (Mine.D.K P) "Stack" "place" = some (.fn b_Stack_place) := by kernel_rfl
theorem f_Stack_read : TT (Mine.D.K P) "Stack" "read" = some (.fn b_Stack_read) := by kernel_rfl
theorem f_Stack_write : TT (Mine.D.K P) "Stack" "write" = some (.fn b_Stack_write) := by kernel_rfl
theorem f_pointer : TT (Mine.D.K P) "" "pointer" = some (.fn b_pointer) := by kernel_rfl
theorem f_moved : TT (Mine.D.K P) "" "moved" = some (.fn b_moved) := by kernel_rfl
theorem f_Allocation___init__ : TT (Mine.D.K P) "Allocation" "__init__" = some (.fn b_Allocation___init__) := by kernel_rfl
theorem f_Memory___init__ : TT (Mine.D.K P) "Memory" "__init__" = some (.fn b_Memory___init__) := by kernel_rfl
theorem f_Memory_allocate : TT (Mine.D.K P) "Memory" "allocate" = some (.fn b_Memory_allocate) := by kernel_rfl
theorem f_Memory_base : TT (Mine.D.K P) "Memory" "base" = some (.fn b_Memory_base) := by kernel_rfl
theorem f_Memory_is_live : TT (Mine.D.K P) "Memory" "is_live" = some (.fn b_Memory_is_live) := by kernel_rfl
theorem f_Memory_live_count : TT (Mine.D.K P) "Memory" "live_count" = some (.fn b_Memory_live_count) := by kernel_rfl
theorem f_Memory_free : TT (Mine.D.K P) "Memory" "free" = some (.fn b_Memory_free) := by kernel_rfl
theorem f_Memory_room : TT (Mine.D.K P) "Memory" "room" = some (.fn b_Memory_room) := by kernel_rfl
theorem f_Memory_read : TT (Mine.D.K P) "Memory" "read" = some (.fn b_Memory_read) := by kernel_rfl
theorem f_Memory_write : TT (Mine.D.K P) "Memory" "write" = some (.fn b_Memory_write) := by kernel_rfl
theorem f_Memory_read_all : TT (Mine.D.K P) "Memory" "read_all" = some (.fn b_Memory_read_all) := by kernel_rfl
theorem f_Memory_write_all : TT (Mine.D.K P) "Memory" "write_all" = some (.fn b_Memory_write_all) := by kernel_rfl
theorem f_is_enum : TT (Mine.D.K P) "" "is_enum" = some (.fn b_is_enum) := by kernel_rfl
theorem f_parts_told : TT (Mine.D.K P) "" "parts_told" = some (.fn b_parts_told) := by kernel_rfl
theorem f_is_of_parts : TT (Mine.D.K P) "" "is_of_parts" = some (.fn b_is_of_parts) := by kernel_rfl
theorem f_parts_of_cells : TT (Mine.D.K P) "" "parts_of_cells" = some (.fn b_parts_of_cells) := by kernel_rfl
theorem f_told_value : TT (Mine.D.K P) "" "told_value" = some (.fn b_told_value) := by kernel_rfl
theorem f_jobs_of : TT (Mine.D.K P) "" "jobs_of" = some (.fn b_jobs_of) := by kernel_rfl
theorem f_DropGlue___init__ : TT (Mine.D.K P) "DropGlue" "__init__" = some (.fn b_DropGlue___init__) := by kernel_rfl
theorem f_DropGlue_step : TT (Mine.D.K P) "DropGlue" "step" = some (.fn b_DropGlue_step) := by kernel_rfl
theorem f_DropGlue_dropped : TT (Mine.D.K P) "DropGlue" "dropped" = some (.fn b_DropGlue_dropped) := by kernel_rfl
theorem f_DropGlue_put_parts : TT (Mine.D.K P) "DropGlue" "put_parts" = some (.fn b_DropGlue_put_parts) := by kernel_rfl
theorem f_is_pointer : TT (Mine.D.K P) "" "is_pointer" = some (.fn b_is_pointer) := by kernel_rfl
theorem f_Places___init__ : TT (Mine.D.K P) "Places" "__init__" = some (.fn b_Places___init__) := by kernel_rfl
theorem f_Places_led : TT (Mine.D.K P) "Places" "led" = some (.fn b_Places_led) := by kernel_rfl
theorem f_Places_leave : TT (Mine.D.K P) "Places" "leave" = some (.fn b_Places_leave) := by kernel_rfl
theorem f_World___init__ : TT (Mine.D.K P) "World" "__init__" = some (.fn b_World___init__) := by kernel_rfl
theorem f__law_pool : TT (Mine.D.K P) "" "_law_pool" = some (.fn b__law_pool) := by kernel_rfl
theorem f__law_take : TT (Mine.D.K P) "" "_law_take" = some (.fn b__law_take) := by kernel_rfl
theorem f__law_one : TT (Mine.D.K P) "" "_law_one" = some (.fn b__law_one) := by kernel_rfl
theorem f__law_type : TT (Mine.D.K P) "" "_law_type" = some (.fn b__law_type) := by kernel_rfl
theorem f__law_parts : TT (Mine.D.K P) "" "_law_parts" = some (.fn b__law_parts) := by kernel_rfl
theorem f__law_size : TT (Mine.D.K P) "" "_law_size" = some (.fn b__law_size) := by kernel_rfl
theorem f__law_has_box : TT (Mine.D.K P) "" "_law_has_box" = some (.fn b__law_has_box) := by kernel_rfl
theorem f__law_jobs : TT (Mine.D.K P) "" "_law_jobs" = some (.fn b__law_jobs) := by kernel_rfl
theorem f__law_value : TT (Mine.D.K P) "" "_law_value" = some (.fn b__law_value) := by kernel_rfl
theorem f__law_dropped_right : TT (Mine.D.K P) "" "_law_dropped_right" = some (.fn b__law_dropped_right) := by kernel_rfl
theorem f__law_array_right : TT (Mine.D.K P) "" "_law_array_right" = some (.fn b__law_array_right) := by kernel_rfl
theorem f_law : TT (Mine.D.K P) "" "law" = some (.fn b_law) := by kernel_rfl
theorem c_Stack : TT (Mine.D.K P) "" "Stack" = some .cls := by kernel_rfl
theorem n_Stack : (tb0 (Mine.D.K P)).fn "Stack" = true := by kernel_rfl
theorem c_Allocation : TT (Mine.D.K P) "" "Allocation" = some .cls := by kernel_rfl
theorem n_Allocation : (tb0 (Mine.D.K P)).fn "Allocation" = true := by kernel_rfl
theorem c_Memory : TT (Mine.D.K P) "" "Memory" = some .cls := by kernel_rfl
theorem n_Memory : (tb0 (Mine.D.K P)).fn "Memory" = true := by kernel_rfl
theorem c_DropGlue : TT (Mine.D.K P) "" "DropGlue" = some .cls := by kernel_rfl
theorem n_DropGlue : (tb0 (Mine.D.K P)).fn "DropGlue" = true := by kernel_rfl
theorem c_Places : TT (Mine.D.K P) "" "Places" = some .cls := by kernel_rfl
theorem n_Places : (tb0 (Mine.D.K P)).fn "Places" = true := by kernel_rfl
theorem c_World : TT (Mine.D.K P) "" "World" = some .cls := by kernel_rfl
theorem n_World : (tb0 (Mine.D.K P)).fn "World" = true := by kernel_rfl
theorem n_parts_of : (tb0 (Mine.D.K P)).fn "parts_of" = true := by kernel_rfl
theorem n_needs_drop : (tb0 (Mine.D.K P)).fn "needs_drop" = true := by kernel_rfl
theorem n_sum_of : (tb0 (Mine.D.K P)).fn "sum_of" = true := by kernel_rfl
theorem n_size_of : (tb0 (Mine.D.K P)).fn "size_of" = true := by kernel_rfl
theorem n_size_within : (tb0 (Mine.D.K P)).fn "size_within" = true := by kernel_rfl
theorem n_part_types : (tb0 (Mine.D.K P)).fn "part_types" = true := by kernel_rfl
theorem n_first_place : (tb0 (Mine.D.K P)).fn "first_place" = true := by kernel_rfl
theorem n_offset_of_field : (tb0 (Mine.D.K P)).fn "offset_of_field" = true := by kernel_rfl
theorem n_offset_of_item : (tb0 (Mine.D.K P)).fn "offset_of_item" = true := by kernel_rfl
theorem n_offset_of_part : (tb0 (Mine.D.K P)).fn "offset_of_part" = true := by kernel_rfl
theorem m_Stack_place : (tb0 (Mine.D.K P)).mt "Stack" "place" = true := by kernel_rfl
theorem m_Stack_read : (tb0 (Mine.D.K P)).mt "Stack" "read" = true := by kernel_rfl
theorem m_Stack_write : (tb0 (Mine.D.K P)).mt "Stack" "write" = true := by kernel_rfl
theorem n_pointer : (tb0 (Mine.D.K P)).fn "pointer" = true := by kernel_rfl
theorem n_moved : (tb0 (Mine.D.K P)).fn "moved" = true := by kernel_rfl
theorem m_Memory_allocate : (tb0 (Mine.D.K P)).mt "Memory" "allocate" = true := by kernel_rfl
theorem m_Memory_base : (tb0 (Mine.D.K P)).mt "Memory" "base" = true := by kernel_rfl
theorem m_Memory_is_live : (tb0 (Mine.D.K P)).mt "Memory" "is_live" = true := by kernel_rfl
theorem m_Memory_live_count : (tb0 (Mine.D.K P)).mt "Memory" "live_count" = true := by kernel_rfl
theorem m_Memory_free : (tb0 (Mine.D.K P)).mt "Memory" "free" = true := by kernel_rfl
theorem m_Memory_room : (tb0 (Mine.D.K P)).mt "Memory" "room" = true := by kernel_rfl
theorem m_Memory_read : (tb0 (Mine.D.K P)).mt "Memory" "read" = true := by kernel_rfl
theorem m_Memory_write : (tb0 (Mine.D.K P)).mt "Memory" "write" = true := by kernel_rfl
theorem m_Memory_read_all : (tb0 (Mine.D.K P)).mt "Memory" "read_all" = true := by kernel_rfl
theorem m_Memory_write_all : (tb0 (Mine.D.K P)).mt "Memory" "write_all" = true := by kernel_rfl
theorem n_is_enum : (tb0 (Mine.D.K P)).fn "is_enum" = true := by kernel_rfl
theorem n_parts_told : (tb0 (Mine.D.K P)).fn "parts_told" = true := by kernel_rfl
theorem n_is_of_parts : (tb0 (Mine.D.K P)).fn "is_of_parts" = true := by kernel_rfl
theorem n_parts_of_cells : (tb0 (Mine.D.K P)).fn "parts_of_cells" = true := by kernel_rfl
theorem n_told_value : (tb0 (Mine.D.K P)).fn "told_value" = true := by kernel_rfl
theorem n_jobs_of : (tb0 (Mine.D.K P)).fn "jobs_of" = true := by kernel_rfl
theorem m_DropGlue_step : (tb0 (Mine.D.K P)).mt "DropGlue" "step" = true := by kernel_rfl
theorem m_DropGlue_dropped : (tb0 (Mine.D.K P)).mt "DropGlue" "dropped" = true := by kernel_rfl
theorem m_DropGlue_put_parts : (tb0 (Mine.D.K P)).mt "DropGlue" "put_parts" = true := by kernel_rfl
theorem n_is_pointer : (tb0 (Mine.D.K P)).fn "is_pointer" = true := by kernel_rfl
theorem m_Places_led : (tb0 (Mine.D.K P)).mt "Places" "led" = true := by kernel_rfl
theorem m_Places_leave : (tb0 (Mine.D.K P)).mt "Places" "leave" = true := by kernel_rfl
theorem n__law_pool : (tb0 (Mine.D.K P)).fn "_law_pool" = true := by kernel_rfl
theorem n__law_take : (tb0 (Mine.D.K P)).fn "_law_take" = true := by kernel_rfl
theorem n__law_one : (tb0 (Mine.D.K P)).fn "_law_one" = true := by kernel_rfl
theorem n__law_type : (tb0 (Mine.D.K P)).fn "_law_type" = true := by kernel_rfl
theorem n__law_parts : (tb0 (Mine.D.K P)).fn "_law_parts" = true := by kernel_rfl
theorem n__law_size : (tb0 (Mine.D.K P)).fn "_law_size" = true := by kernel_rfl
theorem n__law_has_box : (tb0 (Mine.D.K P)).fn "_law_has_box" = true := by kernel_rfl
theorem n__law_jobs : (tb0 (Mine.D.K P)).fn "_law_jobs" = true := by kernel_rfl
theorem n__law_value : (tb0 (Mine.D.K P)).fn "_law_value" = true := by kernel_rfl
theorem n__law_dropped_right : (tb0 (Mine.D.K P)).fn "_law_dropped_right" = true := by kernel_rfl
theorem n__law_array_right : (tb0 (Mine.D.K P)).fn "_law_array_right" = true := by kernel_rfl
theorem n_law : (tb0 (Mine.D.K P)).fn "law" = true := by kernel_rfl
theorem a_Stack_items : (tb0 (Mine.D.K P)).at_ "Stack" "items" = true := by kernel_rfl
theorem a_Allocation_cells : (tb0 (Mine.D.K P)).at_ "Allocation" "cells" = true := by kernel_rfl
theorem a_Allocation_stacks : (tb0 (Mine.D.K P)).at_ "Allocation" "stacks" = true := by kernel_rfl
theorem a_Allocation_is_live : (tb0 (Mine.D.K P)).at_ "Allocation" "is_live" = true := by kernel_rfl
theorem a_Memory_allocations : (tb0 (Mine.D.K P)).at_ "Memory" "allocations" = true := by kernel_rfl
theorem a_Memory_tags : (tb0 (Mine.D.K P)).at_ "Memory" "tags" = true := by kernel_rfl
theorem a_DropGlue_places : (tb0 (Mine.D.K P)).at_ "DropGlue" "places" = true := by kernel_rfl
theorem a_DropGlue_world : (tb0 (Mine.D.K P)).at_ "DropGlue" "world" = true := by kernel_rfl
theorem a_Places_memory : (tb0 (Mine.D.K P)).at_ "Places" "memory" = true := by kernel_rfl
theorem a_Places_world : (tb0 (Mine.D.K P)).at_ "Places" "world" = true := by kernel_rfl
theorem a_World_modules : (tb0 (Mine.D.K P)).at_ "World" "modules" = true := by kernel_rfl
theorem a_World_adts : (tb0 (Mine.D.K P)).at_ "World" "adts" = true := by kernel_rfl
theorem a_World_variants : (tb0 (Mine.D.K P)).at_ "World" "variants" = true := by kernel_rfl
theorem a_World_sigs : (tb0 (Mine.D.K P)).at_ "World" "sigs" = true := by kernel_rfl
theorem a_World_traits : (tb0 (Mine.D.K P)).at_ "World" "traits" = true := by kernel_rfl
theorem a_World_impls : (tb0 (Mine.D.K P)).at_ "World" "impls" = true := by kernel_rfl
theorem a_World_consts : (tb0 (Mine.D.K P)).at_ "World" "consts" = true := by kernel_rfl
theorem a_World_bodies : (tb0 (Mine.D.K P)).at_ "World" "bodies" = true := by kernel_rfl
end
end Mine

end
section
open PySem PySem.W PySem.Calls PyProof.Rows
set_option Elab.async false
set_option maxRecDepth 100000
set_option maxHeartbeats 4000000
namespace Mine

theorem TT_fval {K : Frag} {c f : Str} {e : Ent} (h : TT K c f = some e) : ∃ a, fval K c f = some (.ref a) := by
  unfold TT at h
  split at h
  · exact ⟨_, by assumption⟩
  · cases h
theorem fval_ns {K : Frag} {f : Str} {v : Value} (h : fval K "" f = some v) : nsIn K mainGlobals f = some (some v) := by
  unfold fval at h
  rw [if_pos rfl] at h
  cases q : nsIn K mainGlobals f with
  | none => rw [q] at h; cases h
  | some o => rw [q] at h; cases o with
    | none => cases h
    | some u => cases h; rfl

section
variable (P : Params)
noncomputable def unAt (K : Frag) (x : Str) : Bool := match nsIn K mainGlobals x with
  | some (some (.ref a)) => (match K.lookup a with
    | some ⟨.type T, none, .seq items _, sl⟩ => T == "tuple" && sl.isEmpty && (match items.toList with | [.str s _] => s == ("uninit" : Str) | _ => false)
    | _ => false)
  | _ => false
theorem unAt_uninit : unAt (Mine.D.K P) "UNINIT" = true := by kernel_rfl
noncomputable def intAt (K : Frag) (x : Str) (i : Int) : Bool := match nsIn K mainGlobals x with
  | some (some (.int j _)) => i == j
  | _ => false
theorem intAt_owner : intAt (Mine.D.K P) "OWNER" 0 = true := by kernel_rfl
theorem intAt_most : intAt (Mine.D.K P) "MOST_DEEP_layout" vMOST = true := by kernel_rfl
theorem blt_len : nsIn (Mine.D.K P) mainGlobals "len" = some none := by kernel_rfl
theorem blt_range : nsIn (Mine.D.K P) mainGlobals "range" = some none := by kernel_rfl
theorem blt_max : nsIn (Mine.D.K P) mainGlobals "max" = some none := by kernel_rfl
theorem blt_int : nsIn (Mine.D.K P) mainGlobals "int" = some none := by kernel_rfl
theorem blt_sum : nsIn (Mine.D.K P) mainGlobals "sum" = some none := by kernel_rfl
theorem blt_tuple : nsIn (Mine.D.K P) mainGlobals "tuple" = some none := by kernel_rfl
theorem blt_list : nsIn (Mine.D.K P) mainGlobals "list" = some none := by kernel_rfl
theorem blt_isi : nsIn (Mine.D.K P) mainGlobals "isinstance" = some none := by kernel_rfl

theorem un_inv {K : Frag} {x : Str} (h : unAt K x = true) : ∃ y, nsIn K mainGlobals x = some (some y) ∧ ∀ h ρ, K.In h → VR h ρ vUNINIT y := by
  unfold unAt at h
  split at h
  · rename_i a ha
    split at h
    · rename_i T items n sl hk
      simp only [Bool.and_eq_true, beq_iff_eq] at h
      obtain ⟨⟨h1, h2⟩, h3⟩ := h
      split at h3
      · rename_i s t hi
        refine ⟨_, ha, fun h ρ X => ?_⟩
        have h3 := beq_iff_eq.mp h3
        subst h3
        subst h1
        unfold vUNINIT
        simp only [VR, VRs]
        refine ⟨a, items.toList, n, rfl, ?_, ?_⟩
        · rw [X _ _ hk]
          have : sl = #[] := by simpa using h2
          subst this
          simp [tupObj]
        · exact ⟨_, [], hi, ⟨t, rfl⟩, rfl⟩
      · cases h3
    · cases h
  · cases h
theorem int_inv {K : Frag} {x : Str} {i : Int} (h : intAt K x i = true) : ∃ y, nsIn K mainGlobals x = some (some y) ∧ ∀ h ρ, K.In h → VR h ρ (.int i) y := by
  unfold intAt at h
  split at h
  · rename_i j t ha
    have := beq_iff_eq.mp h
    subst this
    exact ⟨_, ha, fun h ρ X => by simp [VR]⟩
  · cases h

theorem tb_ok : TbOK (Mine.D.K P) (tb0 (Mine.D.K P)) := by
  refine ⟨fun x v h => ?_, fun c m h => h, fun c m h => ?_, fun f h => h, fun x hx => ?_⟩
  · simp only [tb0] at h
    split at h
    · rename_i e; subst e; cases h; exact un_inv (unAt_uninit P)
    · split at h
      · rename_i e; subst e; cases h; exact int_inv (intAt_owner P)
      · split at h
        · rename_i e; subst e; cases h; exact int_inv (intAt_most P)
        · cases h
  · have h' : (c != "" && methOK (Mine.D.K P) c m) = true := h
    rw [Bool.and_eq_true] at h'
    exact ⟨by simpa using h'.1, h'.2⟩
  · simp only [List.mem_cons, List.not_mem_nil, or_false] at hx
    rcases hx with rfl | rfl | rfl | rfl | rfl | rfl | rfl | rfl
    · exact blt_len P
    · exact blt_range P
    · exact blt_max P
    · exact blt_int P
    · exact blt_sum P
    · exact blt_tuple P
    · exact blt_list P
    · exact blt_isi P
end

noncomputable def LawW (T : Str → Str → Option Ent) (tb : Tb) (N : Nat) : Prop := ∀ xs : List Int, xs.length ≤ 63 → callW T tb N "" "law" [.ref 0] (fun v _ => v = .bool true) [.frz (xs.map .int)]

theorem ints_VRs {h : Heap} {ρ : Rho} : ∀ {vs : List Value} {xs : List Int}, IntsAre vs xs → VRs h ρ (xs.map .int) vs
  | _, _, .nil => by simp [VRs]
  | _, _, .cons _ _ r => by
    simp only [List.map_cons, VRs]
    exact ⟨_, _, rfl, by simp [VR], ints_VRs r⟩

theorem top_of (N : Nat) (hN : N ≤ 600) (law : ∀ P, LawW (TT (Mine.D.K P)) (tb0 (Mine.D.K P)) N) : PySem.Challenge.rw_pf0173_01.Holds := by
  refine D.hd ?_
  intro w s₀ s₁ mg mb G Y fa o pm cd doc dV kV ho hd hcd hD hmg hg args vals as hpre hlay hrd hwl hlo
  have KX := km_in_of Y
  refine Ground.open G ?_
  intro T B D TE TW
  wrow_args hpre hlay hrd hwl hlo
  rename_i xs _ _ _ _ _ _ _ la its _ hL _ _ _ hI _ hlen _
  clear B D TE TW
  let cx : Cx := ⟨Mine.D.K w.params, s₁.heap, _, _, _, mg, mb, KX, T⟩
  have hlen : xs.length ≤ 63 := by omega
  have X : Sim cx [(la, la)] [.frz (xs.map .int)] s₁.heap := by
    refine ⟨fun b o e => e, rfl, fun i o p e1 e2 => ?_, fun i o p e1 e2 hz => ?_, fun i j p q e1 e2 hne => ?_⟩
    · cases i with
      | zero =>
        simp at e1 e2; subst e1 e2
        exact ⟨rfl, its, hL, ints_VRs hI⟩
      | succ i => simp at e1
    · cases i with
      | zero => simp at e1; subst e1; cases hz
      | succ i => simp at e1
    · cases i with
      | zero => cases j with
        | zero => exact absurd rfl hne
        | succ j => simp at e2
      | succ i => simp at e1
  obtain ⟨a, ha⟩ := TT_fval (f_law w.params)
  have hma := mg_of cx.X cx.T.g (fval_ns ha)
  have hfa : fa = a := by
    have e : mg (Str.ofString "law") = some (.ref fa) := hmg
    have e2 : mg (Str.ofString "law") = some (.ref a) := hma
    rw [e] at e2; cases e2; rfl
  subst hfa
  have R : Room callerA N := ⟨rfl, by show 1 + claimMargin + N < recursionLimit; unfold claimMargin recursionLimit; omega, by show 4 + 10 * N + 200 < cLine; unfold cLine; omega⟩
  have run := (OrC_all (prog := PySem.Challenge.rw_pf0173_01.row.prog) (w := w) (cx := cx) (tb_ok w.params) N).ok "" "law" _ _ _ (law w.params xs hlen) _ ha callerA s₁ [(la, la)] [.ref la] (fun e s' => GoodWG PySem.Challenge.rw_pf0173_01.row.claim (classAt s₀.heap) (ExcName.means s₀.heap)
        [ofPy (PyData.list (List.map PyData.int xs))] s₁ (Except.error e) s') R X (by simp [VRs, VR])
  refine wpAny_mono run (fun v s' hp => ?_) fun _ _ e => e
  obtain ⟨b, σ', ρ', h', tk', rfl, rfl, X', _, r⟩ := hp
  simp only [VR] at r
  subst r
  refine GoodW.toG ⟨.inl ⟨_, .bool true, [], rfl, ?_, .bool _, ?_, fun _ => ⟨List.nodup_nil, by simp⟩⟩, fun b o e => X'.base b o e, rfl, hg⟩
  · intro cls; rfl
  · kernel_rfl
end Mine

end
section
open PySem PySem.W
set_option Elab.async false
set_option maxRecDepth 100000
namespace Mine
theorem callW_fn {T : Str → Str → Option Ent} {tb : Tb} {n : Nat} {c f : Str} {vs : List V} {Q : V → S → Prop} {σ : S} {fn : Fn} {ℓ : L} (h : T c f = some (.fn fn)) (hb : bindp fn.params fn.dflts vs = some ℓ)
   (hx : exs (callW T tb n) tb fn.body ℓ (fun fl _ σ' => match fl with | .ret v => Q v σ' | .next => Q .none σ') σ) : callW T tb (n + 1) c f vs Q σ := by
  dsimp only [callW]
  rw [h]
  dsimp only
  rw [hb]
  exact hx
theorem at_i {tb : Tb} {i : Nat} {m c : Str} {fs : List (Str × V)} {v : V} {Q : V → S → Prop} {σ : S} (h : σ[i]? = some (.inst c fs)) (hl : fs.lookup m = some v) (ha : tb.at_ c m = true) (hq : Q v σ) : attrW tb (.ref i) m Q σ := by
  simp only [attrW, h, hl]; exact ⟨ha, hq⟩
theorem sub_l {j : Nat} {k : Int} {l : List V} {v : V} {Q : V → S → Prop} {σ : S} (h : σ[j]? = some (.lst l)) (h0 : 0 ≤ k) (h1 : k < 1000000) (hv : l[k.toNat]? = some v) (hq : Q v σ) : subW (.ref j) (.int k) Q σ := by
  delta subW; exact ⟨h0, h1, withS_of h ⟨v, hv, hq⟩⟩
theorem len_l {j : Nat} {l : List V} {Q : V → S → Prop} {σ : S} (h : σ[j]? = some (.lst l)) (h1 : l.length ≤ 1000000) (hq : Q (.int l.length) σ) : bltW .len [.ref j] Q σ := by
  delta bltW; exact withS_of (f := fun l => l.length ≤ 1000000 ∧ Q (.int l.length) σ) h ⟨h1, hq⟩
theorem sub_t {k : Int} {l : List V} {v : V} {Q : V → S → Prop} {σ : S} (hv : l[k.toNat]? = some v) (hq : Q v σ) (h0 : 0 ≤ k := by decide) (h1 : k < 1000000 := by decide) : subW (.tup l) (.int k) Q σ := by
  delta subW; exact ⟨h0, h1, v, hv, hq⟩
theorem add_i {x y : Int} {Q : V → S → Prop} {σ : S} (hq : Q (.int (x + y)) σ) : binW .Add (.int x) (.int y) Q σ := by delta binW; exact hq
theorem sub_i {x y : Int} {Q : V → S → Prop} {σ : S} (hq : Q (.int (x - y)) σ) : binW .Sub (.int x) (.int y) Q σ := by delta binW; exact hq
theorem range3 {a b : Int} {Q : V → S → Prop} {σ : S} (hq : Q (.rng a (-1) (a - b).toNat) σ) (h1 : -1000000 ≤ a := by decide) (h2 : a ≤ 1000000 := by decide) (h3 : -1000000 ≤ b := by decide) (h4 : b ≤ 1000000 := by decide) : bltW .range [.int a, .int b, .int (-1)] Q σ := by
  delta bltW; exact ⟨⟨h1, h2⟩, ⟨h3, h4⟩, rfl, hq⟩
theorem eq_i {x y : Int} {Q : Bool → Prop} {σ : S} (hq : Q (x == y)) : cmpW .Eq (.int x) (.int y) Q σ := by delta cmpW; exact ⟨_, _, rfl, rfl, rfl, rfl, hq⟩
theorem eq_s {x y : Str} {Q : Bool → Prop} {σ : S} (r : Bool) (hq : Q r) (hr : PyData.eqv (.str x) (.str y) = r := by rfl) (h1 : SeqAt.shaped (.str x) = true := by decide +kernel) (h2 : SeqAt.shaped (.str y) = true := by decide +kernel) : cmpW .Eq (.str x) (.str y) Q σ := by delta cmpW; exact ⟨_, _, rfl, rfl, h1, h2, hr ▸ hq⟩
theorem ne_s {x y : Str} {Q : Bool → Prop} {σ : S} (r : Bool) (hq : Q (!r)) (hr : PyData.eqv (.str x) (.str y) = r := by rfl) (h1 : SeqAt.shaped (.str x) = true := by decide +kernel) (h2 : SeqAt.shaped (.str y) = true := by decide +kernel) : cmpW .NotEq (.str x) (.str y) Q σ := by delta cmpW; exact ⟨_, _, rfl, rfl, h1, h2, hr ▸ hq⟩
variable {T : Str → Str → Option Ent} {tb : Tb}
theorem w_pointer (h : Facts T tb) {n : Nat} {a o t : V} {Q : V → S → Prop} {σ : S} (hq : Q (.tup [.str "pointer", a, o, t]) σ) : callW T tb (n + 1) "" "pointer" [a, o, t] Q σ := by
  refine callW_fn h.f_pointer rfl ?_
  exact ⟨by simp, hq⟩
theorem w_moved (h : Facts T tb) {n : Nat} {a t : V} {o d : Int} {p : V} {Q : V → S → Prop} {σ : S} (hq : Q (.tup [.str "pointer", a, .int (o + d), t]) σ) : callW T tb (n + 1) "" "moved" [.tup [p, a, .int o, t], .int d] Q σ := by
  refine callW_fn h.f_moved rfl ?_
  refine sub_t rfl (sub_t rfl (add_i (sub_t rfl ?_)))
  exact ⟨by simp, hq⟩

noncomputable abbrev un0 : V := .tup [.int 0, .str "unique"]
theorem w_place (h : Facts T tb) {n s li : Nat} {Q : V → S → Prop} {σ : S} (h1 : σ[s]? = some (.inst "Stack" [("items", .ref li)])) (h2 : σ[li]? = some (.lst [un0])) (hq : Q (.int 0) σ) : callW T tb (n + 1) "Stack" "place" [.ref s, .int 0] Q σ := by
  refine callW_fn h.f_Stack_place rfl ?_
  refine at_i h1 rfl h.a_Stack_items ?_
  refine len_l h2 (by simp) ?_
  refine sub_i ?_
  refine range3 ?_
  refine ⟨1, ?_⟩
  refine at_i h1 rfl h.a_Stack_items ?_
  refine sub_l h2 (by decide) (by decide) rfl ?_
  refine sub_t rfl ?_
  refine eq_i ?_
  exact hq
end Mine

end
section
open PySem PySem.W
set_option Elab.async false
set_option maxRecDepth 100000
namespace Mine

inductive Role where
  | free | mem | allocs | alloc (k : Nat) | cells (k : Nat) | stacks (k : Nat) | stack | items | src
noncomputable abbrev AS := List (List V × Bool)

noncomputable def okAt (c : Nat) (R : List Role) (as : AS) (o : O) : Role → Prop
  | .free => True
  | .mem => ∃ la, o = .inst "Memory" [("allocations", .ref la), ("tags", .int 0)] ∧ R[la]? = some .allocs
  | .allocs => ∃ ids : List Nat, o = .lst (ids.map .ref) ∧ ids.length = c ∧ ∀ (k id : Nat), ids[k]? = some id → R[id]? = some (.alloc k)
  | .alloc k => ∃ lc ls a, as[k]? = some a ∧ o = .inst "Allocation" [("cells", .ref lc), ("stacks", .ref ls), ("is_live", .bool a.2)] ∧ R[lc]? = some (.cells k) ∧ R[ls]? = some (.stacks k)
  | .cells k => ∃ a, as[k]? = some a ∧ o = .lst a.1
  | .stacks k => ∃ (js : List Nat) (a : List V × Bool), as[k]? = some a ∧ o = .lst (js.map .ref) ∧ js.length = a.1.length ∧ ∀ j ∈ js, R[j]? = some .stack
  | .stack => ∃ li, o = .inst "Stack" [("items", .ref li)] ∧ R[li]? = some .items
  | .items => o = .lst [un0]
  | .src => ∃ a b : Int, o = .lst [.int a, .int b]

noncomputable def Role.uniq : Role → Bool
  | .allocs | .alloc _ | .cells _ => true
  | _ => false

structure Inv (c : Nat) (R : List Role) (as : AS) (σ : S) : Prop where
  len : R.length = σ.length
  ok : ∀ (i : Nat) r o, R[i]? = some r → σ[i]? = some o → okAt c R as o r
  inj : ∀ (i j : Nat) r, R[i]? = some r → R[j]? = some r → r.uniq = true → i = j
  many : as.length ≤ 1000
  small : ∀ a ∈ as, a.1.length ≤ 1000

structure Nx (R : List Role) (σ : S) (R' : List Role) (σ' : S) : Prop where
  ext : ∃ e, R' = R ++ e
  keep : ∀ (i : Nat) o, R[i]? = some .free → σ[i]? = some o → σ'[i]? = some o

section
variable {c : Nat} {R R' R₁ R₂ : List Role} {as as' : AS} {σ σ' σ₁ σ₂ : S}

theorem get_app {α : Type} {l e : List α} {i : Nat} {o : α} (h : l[i]? = some o) : (l ++ e)[i]? = some o := by
  obtain ⟨hlt, _⟩ := List.getElem?_eq_some_iff.mp h
  rw [List.getElem?_append_left hlt]; exact h
theorem get_new {α : Type} {l : List α} {o : α} : (l ++ [o])[l.length]? = some o := by simp
theorem Nx.refl : Nx R σ R σ := ⟨⟨[], by simp⟩, fun _ _ _ e => e⟩
theorem Nx.get (x : Nx R σ R' σ') {i : Nat} {r : Role} (h : R[i]? = some r) : R'[i]? = some r := by
  obtain ⟨e, rfl⟩ := x.ext; exact get_app h
theorem Nx.trans (x : Nx R σ R₁ σ₁) (y : Nx R₁ σ₁ R₂ σ₂) : Nx R σ R₂ σ₂ := by
  obtain ⟨e, he⟩ := x.ext
  obtain ⟨f, hf⟩ := y.ext
  exact ⟨⟨e ++ f, by rw [hf, he, List.append_assoc]⟩, fun i o h1 h2 => y.keep i o (x.get h1) (x.keep i o h1 h2)⟩
theorem okAt_mono {o : O} {r : Role} (x : okAt c R as o r) (hR : ∀ (i : Nat) r, r ≠ Role.free → R[i]? = some r → R'[i]? = some r) (ha : ∀ (k : Nat) a, as[k]? = some a → as'[k]? = some a) : okAt c R' as' o r := by
  cases r with
  | free => trivial
  | mem => obtain ⟨la, h1, h2⟩ := x; exact ⟨la, h1, hR _ _ (by simp) h2⟩
  | allocs => obtain ⟨ids, h1, h2, h3⟩ := x; exact ⟨ids, h1, h2, fun k id e => hR _ _ (by simp) (h3 k id e)⟩
  | alloc k => obtain ⟨lc, ls, a, h1, h2, h3, h4⟩ := x; exact ⟨lc, ls, a, ha _ _ h1, h2, hR _ _ (by simp) h3, hR _ _ (by simp) h4⟩
  | cells k => obtain ⟨a, h1, h2⟩ := x; exact ⟨a, ha _ _ h1, h2⟩
  | stacks k => obtain ⟨js, a, h1, h2, h3, h4⟩ := x; exact ⟨js, a, ha _ _ h1, h2, h3, fun j hj => hR _ _ (by simp) (h4 j hj)⟩
  | stack => obtain ⟨li, h1, h2⟩ := x; exact ⟨li, h1, hR _ _ (by simp) h2⟩
  | items => exact x
  | src => exact x

theorem app_split {α : Type} {l : List α} {o q : α} {i : Nat} (h : (l ++ [o])[i]? = some q) : l[i]? = some q ∨ (i = l.length ∧ q = o) := by
  rcases Nat.lt_trichotomy i l.length with h' | h' | h'
  · left; rwa [List.getElem?_append_left h'] at h
  · right; subst h'; simp at h; exact ⟨rfl, h.symm⟩
  · rw [List.getElem?_eq_none (by simp; omega)] at h; cases h

/-- one more object -/
theorem Inv.push (x : Inv c R as σ) (o : O) (r : Role) (ho : okAt c (R ++ [r]) as o r) (hu : r.uniq = true → ∀ i : Nat, R[i]? ≠ some r) : Inv c (R ++ [r]) as (σ ++ [o]) ∧ Nx R σ (R ++ [r]) (σ ++ [o]) := by
  refine ⟨⟨by simp [x.len], fun i r' o' h1 h2 => ?_, fun i j r' h1 h2 h3 => ?_, x.many, x.small⟩, ⟨⟨[r], rfl⟩, fun i o' _ h2 => get_app h2⟩⟩
  · rcases app_split h1 with h1 | ⟨rfl, rfl⟩
    · have hlt : i < σ.length := by rw [← x.len]; exact (List.getElem?_eq_some_iff.mp h1).1
      rw [List.getElem?_append_left hlt] at h2
      exact okAt_mono (x.ok i r' o' h1 h2) (fun _ _ _ e => get_app e) fun _ _ e => e
    · rw [x.len] at h2; simp at h2; subst h2; exact ho
  · have a1 := app_split h1
    have a2 := app_split h2
    rcases a1 with b1 | ⟨b1, c1⟩ <;> rcases a2 with b2 | ⟨b2, c2⟩
    · exact x.inj i j r' b1 b2 h3
    · subst c2; exact absurd b1 (hu h3 i)
    · subst c1; exact absurd b2 (hu h3 j)
    · rw [b1, b2]
theorem Inv.free (x : Inv c R as σ) (o : O) : Inv c (R ++ [.free]) as (σ ++ [o]) ∧ Nx R σ (R ++ [.free]) (σ ++ [o]) := x.push o .free trivial (by simp [Role.uniq])
theorem Inv.getRole (x : Inv c R as σ) {i : Nat} {r : Role} (h : R[i]? = some r) : ∃ o, σ[i]? = some o ∧ okAt c R as o r := by
  have hlt : i < σ.length := by rw [← x.len]; exact (List.getElem?_eq_some_iff.mp h).1
  exact ⟨_, List.getElem?_eq_getElem hlt, x.ok i r _ h (List.getElem?_eq_getElem hlt)⟩
/-- an object with a role turned -/
theorem Inv.set (x : Inv c R as σ) {i : Nat} {r : Role} {o : O} (h : R[i]? = some r) (ho : okAt c R as o r) : Inv c R as (σ.set i o) := by
  refine ⟨by simp [x.len], fun j r' o' h1 h2 => ?_, x.inj, x.many, x.small⟩
  by_cases hij : i = j
  · subst hij
    have hlt : i < σ.length := by rw [← x.len]; exact (List.getElem?_eq_some_iff.mp h).1
    rw [List.getElem?_set_self hlt] at h2; cases h2
    rw [h] at h1; cases h1; exact ho
  · rw [List.getElem?_set_ne hij] at h2; exact x.ok j r' o' h1 h2
theorem Nx.set (x : Nx R σ R' σ') {i : Nat} {o : O} (h : ∀ o', R[i]? = some .free → σ[i]? = some o' → False) : Nx R σ R' (σ'.set i o) := by
  refine ⟨x.ext, fun j o' h1 h2 => ?_⟩
  by_cases hij : i = j
  · subst hij; exact (h _ h1 h2).elim
  · rw [List.getElem?_set_ne hij]; exact x.keep j o' h1 h2
theorem Nx.setRole (x : Nx R σ R' σ') {i : Nat} {r : Role} {o : O} (h : R'[i]? = some r) (hr : r ≠ .free) : Nx R σ R' (σ'.set i o) :=
  x.set fun o' h1 _ => by rw [x.get h1] at h; cases h; exact hr rfl

theorem set_i {tb : Tb} {i : Nat} {m cl : Str} {fs : List (Str × V)} {v : V} {Q : S → Prop} (h : σ[i]? = some (.inst cl fs)) (ha : tb.at_ cl m = true) (hq : Q (σ.set i (.inst cl (upd m v fs)))) (hz : fs.length ≤ 100 := by simp) : setattrW tb (.ref i) m v Q σ := by
  simp only [setattrW, h]; exact ⟨hz, ha, hq⟩
theorem cls_i {tb : Tb} {i : Nat} {m cl : Str} {fs : List (Str × V)} {Q : Str → Prop} (h : σ[i]? = some (.inst cl fs)) (ha : tb.mt cl m = true) (hq : Q cl) (hz : fs.lookup m = none := by rfl) : clsW tb (.ref i) m Q σ := by
  simp only [clsW, h]; exact ⟨hz, ha, hq⟩
theorem slice_an {j : Nat} {a : Int} {l : List V} {Q : V → S → Prop} (h : σ[j]? = some (.lst l)) (h0 : 0 ≤ a) (h1 : a ≤ l.length) (hz : l.length ≤ 1000000) (hq : Q (.ref σ.length) (σ ++ [.lst (l.drop a.toNat)])) : sliceW (.ref j) (.int a) .none Q σ := by
  delta sliceW; exact withL_of h ⟨hz, h0, h1, hq⟩
theorem slice_nb {j : Nat} {b : Int} {l : List V} {Q : V → S → Prop} (h : σ[j]? = some (.lst l)) (h0 : 0 ≤ b) (h1 : b ≤ l.length) (hz : l.length ≤ 1000000) (hq : Q (.ref σ.length) (σ ++ [.lst (l.take b.toNat)])) : sliceW (.ref j) .none (.int b) Q σ := by
  delta sliceW; exact withL_of h ⟨hz, h0, h1, hq⟩
theorem slice_ab {j : Nat} {a b : Int} {l : List V} {Q : V → S → Prop} (h : σ[j]? = some (.lst l)) (h0 : 0 ≤ a) (h1 : a ≤ b) (h2 : b ≤ l.length) (hz : l.length ≤ 1000000) (hq : Q (.ref σ.length) (σ ++ [.lst ((l.take b.toNat).drop a.toNat)])) : sliceW (.ref j) (.int a) (.int b) Q σ := by
  delta sliceW; exact withL_of h ⟨hz, h0, h1, h2, hq⟩
theorem cat {i j : Nat} {l r : List V} {Q : V → S → Prop} (h1 : σ[i]? = some (.lst l)) (h2 : σ[j]? = some (.lst r)) (hz : l.length + r.length ≤ 1000000) (hq : Q (.ref σ.length) (σ ++ [.lst (l ++ r)])) : binW .Add (.ref i) (.ref j) Q σ := by
  delta binW; exact withL_of (f := fun l => withL σ (.ref j) fun r => l.length + r.length ≤ 1000000 ∧ Q (.ref σ.length) (σ ++ [.lst (l ++ r)])) h1 (withL_of h2 ⟨hz, hq⟩)
theorem rep {i : Nat} {v : V} {n : Int} {Q : V → S → Prop} (h1 : σ[i]? = some (.lst [v])) (h0 : 0 ≤ n) (hz : n ≤ 1000000) (hq : Q (.ref σ.length) (σ ++ [.lst (List.replicate n.toNat v)])) : binW .Mult (.ref i) (.int n) Q σ := by
  delta binW; exact withL_of (f := fun l => withI (.int n) fun n => mulL l n Q σ) h1 ⟨h0, hz, hq⟩
theorem loopC_end {elt : V → (List V → S → Prop) → S → Prop} {src : V} {m k : Nat} {acc : List V} {Q : List V → S → Prop} (h : itemAt σ src k = some none) (hq : Q acc σ) : loopC elt src (m + 1) k acc Q σ := by
  dsimp only [loopC]; rw [h]; exact hq
theorem loopC_one {elt : V → (List V → S → Prop) → S → Prop} {src v : V} {m k : Nat} {acc : List V} {Q : List V → S → Prop} (h : itemAt σ src k = some (some v)) (hq : elt v (fun r σ' => loopC elt src m (k + 1) (acc ++ r) Q σ') σ) : loopC elt src (m + 1) k acc Q σ := by
  dsimp only [loopC]; rw [h]; exact hq
theorem item_l {i k : Nat} {l : List V} (h : σ[i]? = some (.lst l)) : itemAt σ (.ref i) k = some l[k]? := by simp only [itemAt, h]


variable {T : Str → Str → Option Ent} {tb : Tb} {n : Nat}

theorem w_stack_read (h : Facts T tb) {s : Nat} {Q : V → S → Prop} (x : Inv c R as σ) (hs : R[s]? = some .stack) (hq : ∀ R' σ', Nx R σ R' σ' → Inv c R' as σ' → Q .none σ') : callW T tb (n + 2) "Stack" "read" [.ref s, .int 0] Q σ := by
  obtain ⟨o, e1, li, rfl, hr⟩ := x.getRole hs
  obtain ⟨_, e2, rfl⟩ := x.getRole hr
  refine callW_fn h.f_Stack_read rfl ?_
  refine cls_i e1 h.m_Stack_place ?_
  refine w_place h e1 e2 ?_
  refine at_i e1 rfl h.a_Stack_items ?_
  refine add_i ?_
  refine slice_an e2 (by decide) (by simp) (by simp) ?_
  have fq := x.free (.lst ([un0].drop (0 + 1 : Int).toNat))
  have x1 := fq.1
  have t1 := fq.2
  refine ⟨1, by decide, ?_⟩
  refine loopC_end (item_l get_new) ?_
  have fq := x1.free (.lst [])
  have x2 := fq.1
  have t2 := fq.2
  refine at_i (get_app (get_app e1)) rfl h.a_Stack_items ?_
  refine add_i ?_
  refine slice_nb (get_app (get_app e2)) (by decide) (by simp) (by simp) ?_
  have fq := x2.free (.lst ([un0].take (0 + 1 : Int).toNat))
  have x3 := fq.1
  have t3 := fq.2
  refine cat get_new (get_app get_new) (by simp) ?_
  obtain ⟨x4, t4⟩ := x3.push (.lst ([un0].take (0 + 1 : Int).toNat ++ [])) .items (by simp [okAt]) (by simp [Role.uniq])
  refine set_i (get_app (get_app (get_app (get_app e1)))) h.a_Stack_items ?_
  have T := ((t1.trans t2).trans t3).trans t4
  have hs' := T.get hs
  refine hq _ _ (T.setRole hs' (by simp)) (x4.set hs' ⟨_, rfl, ?_⟩)
  rw [← x3.len]; exact get_new
end
end Mine

end
section
open PySem PySem.W
set_option Elab.async false
set_option maxRecDepth 100000
namespace Mine

section
variable {c : Nat} {R R' R₁ R₂ : List Role} {as as' : AS} {σ σ' σ₁ σ₂ : S} {T : Str → Str → Option Ent} {tb : Tb} {n : Nat}

theorem callW_cls {cl : Str} {vs : List V} {Q : V → S → Prop} (h : T "" cl = some .cls) (hx : callW T tb n cl "__init__" (.ref σ.length :: vs) (fun v σ' => v = .none ∧ Q (.ref σ.length) σ') (σ ++ [.inst cl []])) : callW T tb (n + 1) "" cl vs Q σ := by
  dsimp only [callW]; rw [h]; exact hx
theorem Inv.reRole (x : Inv c R as σ) {i : Nat} {r : Role} {o : O} (h : R[i]? = some .free) (ho : σ[i]? = some o) (hk : okAt c (R.set i r) as o r) (hu : r.uniq = true → ∀ j : Nat, R[j]? ≠ some r) : Inv c (R.set i r) as σ := by
  have hlt : i < R.length := (List.getElem?_eq_some_iff.mp h).1
  refine ⟨by simp [x.len], fun j r' o' h1 h2 => ?_, fun j k r' h1 h2 h3 => ?_, x.many, x.small⟩
  · by_cases hij : i = j
    · subst hij
      rw [List.getElem?_set_self hlt] at h1; cases h1
      rw [ho] at h2; cases h2; exact hk
    · rw [List.getElem?_set_ne hij] at h1
      refine okAt_mono (x.ok j r' o' h1 h2) (fun k r'' hr e => ?_) fun _ _ e => e
      rw [List.getElem?_set_ne (fun e' => by subst e'; rw [h] at e; cases e; exact hr rfl)]; exact e
  · by_cases hj : i = j <;> by_cases hk' : i = k
    · rw [← hj, ← hk']
    · subst hj
      rw [List.getElem?_set_self hlt] at h1; cases h1
      rw [List.getElem?_set_ne hk'] at h2
      exact absurd h2 (hu h3 k)
    · subst hk'
      rw [List.getElem?_set_self hlt] at h2; cases h2
      rw [List.getElem?_set_ne hj] at h1
      exact absurd h1 (hu h3 j)
    · rw [List.getElem?_set_ne hj] at h1
      rw [List.getElem?_set_ne hk'] at h2
      exact x.inj j k r' h1 h2 h3
theorem Nx.reRole (x : Nx R σ R' σ') {i : Nat} {r : Role} (hi : R.length ≤ i) : Nx R σ (R'.set i r) σ' := by
  obtain ⟨e, rfl⟩ := x.ext
  refine ⟨⟨e.set (i - R.length) r, ?_⟩, x.keep⟩
  rw [List.set_append_right _ _ hi]
theorem Nx.setNew (x : Nx R σ R' σ') (hl : R.length = σ.length) {i : Nat} {o : O} (hi : σ.length ≤ i) : Nx R σ R' (σ'.set i o) :=
  x.set fun o' h1 h2 => by
    have := (List.getElem?_eq_some_iff.mp h2).1; omega

theorem loopC_all {elt : V → (List V → S → Prop) → S → Prop} {src : V} {item : Nat → V} {Q : List V → S → Prop} (N : Nat) (P : Nat → List V → S → Prop) (hi : ∀ k acc σ, P k acc σ → k < N → itemAt σ src k = some (some (item k))) (he : ∀ acc σ, P N acc σ → itemAt σ src N = some none)
    (step : ∀ k acc σ K, k < N → P k acc σ → (∀ r σ', P (k + 1) (acc ++ r) σ' → K r σ') → elt (item k) K σ) (fin : ∀ acc σ, P N acc σ → Q acc σ) (h0 : P 0 [] σ) : loopC elt src (N + 1) 0 [] Q σ := by
  have go : ∀ d k acc σ, k + d = N → P k acc σ → loopC elt src (d + 1) k acc Q σ := by
    intro d
    induction d with
    | zero =>
      intro k acc σ hk hp
      have : k = N := by omega
      subst this
      exact loopC_end (he _ _ hp) (fin _ _ hp)
    | succ d ih =>
      intro k acc σ hk hp
      exact loopC_one (hi _ _ _ hp (by omega)) (step k acc σ _ (by omega) hp fun r σ' hp' => ih (k + 1) _ _ (by omega) hp')
  exact go N 0 [] σ (by omega) h0
theorem loopF_all {body : V → L → (Fl → L → S → Prop) → S → Prop} {src : V} {item : Nat → V} {Q : Fl → L → S → Prop} {ℓ : L} (N : Nat) (P : Nat → L → S → Prop) (hi : ∀ k ℓ σ, P k ℓ σ → k < N → itemAt σ src k = some (some (item k))) (he : ∀ ℓ σ, P N ℓ σ → itemAt σ src N = some none)
    (step : ∀ k ℓ σ K, k < N → P k ℓ σ → (∀ ℓ' σ', P (k + 1) ℓ' σ' → K .next ℓ' σ') → body (item k) ℓ K σ) (fin : ∀ ℓ σ, P N ℓ σ → Q .next ℓ σ) (h0 : P 0 ℓ σ) : loopF body src (N + 1) 0 ℓ Q σ := by
  have go : ∀ d k ℓ σ, k + d = N → P k ℓ σ → loopF body src (d + 1) k ℓ Q σ := by
    intro d
    induction d with
    | zero =>
      intro k ℓ σ hk hp
      have : k = N := by omega
      subst this
      dsimp only [loopF]; rw [he _ _ hp]; exact fin _ _ hp
    | succ d ih =>
      intro k ℓ σ hk hp
      dsimp only [loopF]
      rw [hi _ _ _ hp (by omega)]
      exact step k ℓ σ _ (by omega) hp fun ℓ' σ' hp' => ih (k + 1) _ _ (by omega) hp'
  exact go N 0 ℓ σ (by omega) h0
theorem item_rng {N k : Nat} (h : k < N) : itemAt σ (.rng 0 1 N) k = some (some (.int k)) := by simp [itemAt, h]
theorem item_rng_end {N : Nat} : itemAt σ (.rng 0 1 N) N = some none := by simp [itemAt]
theorem range1 {a : Int} {Q : V → S → Prop} (h1 : 0 ≤ a) (h2 : a ≤ 1000000) (hq : Q (.rng 0 1 a.toNat) σ) : bltW .range [.int a] Q σ := by delta bltW; exact ⟨⟨by omega, h2⟩, hq⟩
theorem len_t {l : List V} {Q : V → S → Prop} (h1 : l.length ≤ 1000000) (hq : Q (.int l.length) σ) : bltW .len [.tup l] Q σ := by delta bltW; exact ⟨h1, hq⟩
theorem list_t {l : List V} {Q : V → S → Prop} (h1 : l.length ≤ 1000000) (hq : Q (.ref σ.length) (σ ++ [.lst l])) : bltW .list [.tup l] Q σ := by delta bltW; exact ⟨h1, hq⟩
theorem tuple_l {i : Nat} {l : List V} {Q : V → S → Prop} (h : σ[i]? = some (.lst l)) (h1 : l.length ≤ 1000000) (hq : Q (.tup l) σ) : bltW .tuple [.ref i] Q σ := by delta bltW; exact withL_of (f := fun l => l.length ≤ 1000000 ∧ Q (.tup l) σ) h ⟨h1, hq⟩
theorem append_l {i : Nat} {l : List V} {v : V} {Q : V → S → Prop} (h : σ[i]? = some (.lst l)) (h1 : l.length ≤ 1000000) (hq : Q .none (σ.set i (.lst (l ++ [v])))) : lmethW .append (.ref i) [v] Q σ := by delta lmethW; exact withL_of h ⟨h1, hq⟩
theorem lt_i {x y : Int} {Q : Bool → Prop} (hq : Q (decide (x < y))) : cmpW .Lt (.int x) (.int y) Q σ := by delta cmpW; exact hq
theorem le_i {x y : Int} {Q : Bool → Prop} (hq : Q (decide (x ≤ y))) : cmpW .LtE (.int x) (.int y) Q σ := by delta cmpW; exact hq
theorem gt_i {x y : Int} {Q : Bool → Prop} (hq : Q (decide (y < x))) : cmpW .Gt (.int x) (.int y) Q σ := by delta cmpW; exact hq
theorem setitem_l {i : Nat} {j : Int} {l : List V} {v : V} {Q : S → Prop} (h : σ[i]? = some (.lst l)) (h0 : 0 ≤ j) (h1 : j < l.length) (hz : l.length ≤ 1000000) (hq : Q (σ.set i (.lst (l.set j.toNat v)))) : setitemW (.ref i) (.int j) v Q σ := by delta setitemW; exact withL_of (f := fun l => 0 ≤ j ∧ j < l.length ∧ l.length ≤ 1000000 ∧ Q (σ.set i (.lst (l.set j.toNat v)))) h ⟨h0, h1, hz, hq⟩


theorem w_stack_write (h : Facts T tb) {s : Nat} {Q : V → S → Prop} (x : Inv c R as σ) (hs : R[s]? = some .stack) (hq : ∀ R' σ', Nx R σ R' σ' → Inv c R' as σ' → Q .none σ') : callW T tb (n + 2) "Stack" "write" [.ref s, .int 0] Q σ := by
  obtain ⟨o, e1, li, rfl, hr⟩ := x.getRole hs
  obtain ⟨_, e2, rfl⟩ := x.getRole hr
  refine callW_fn h.f_Stack_write rfl ?_
  refine cls_i e1 h.m_Stack_place ?_
  refine w_place h e1 e2 ?_
  refine at_i e1 rfl h.a_Stack_items ?_
  refine sub_l e2 (by decide) (by decide) rfl ?_
  refine sub_t rfl ?_
  refine eq_s false ?_
  refine at_i e1 rfl h.a_Stack_items ?_
  refine slice_nb e2 (by decide) (by simp) (by simp) ?_
  have fq := x.free (.lst ([un0].take (0 : Int).toNat))
  have x1 := fq.1
  have t1 := fq.2
  refine ⟨by simp, by simp, ?_⟩
  have fq := x1.free (.lst [un0])
  have x2 := fq.1
  have t2 := fq.2
  refine cat (get_app get_new) get_new (by simp) ?_
  obtain ⟨x3, t3⟩ := x2.push (.lst ([un0].take (0 : Int).toNat ++ [un0])) .items (by simp [okAt]) (by simp [Role.uniq])
  refine set_i (get_app (get_app (get_app e1))) h.a_Stack_items ?_
  have T := (t1.trans t2).trans t3
  have hs' := T.get hs
  refine hq _ _ (T.setRole hs' (by simp)) (x3.set hs' ⟨_, rfl, ?_⟩)
  rw [← x2.len]; exact get_new

theorem w_new_stack (h : Facts T tb) {Q : V → S → Prop} (x : Inv c R as σ) (hq : ∀ R' σ' s, Nx R σ R' σ' → Inv c R' as σ' → R'[s]? = some .stack → Q (.ref s) σ') : callW T tb (n + 2) "" "Stack" [.int 0] Q σ := by
  refine callW_cls h.c_Stack ?_
  refine callW_fn h.f_Stack___init__ rfl ?_
  have fq := x.free (.inst "Stack" [])
  have x1 := fq.1
  have t1 := fq.2
  refine ⟨by simp, by simp, ?_⟩
  obtain ⟨x2, t2⟩ := x1.push (.lst [un0]) .items (by simp [okAt]) (by simp [Role.uniq])
  refine set_i (get_app get_new) h.a_Stack_items ?_
  have hr : (R ++ [Role.free] ++ [Role.items])[σ.length]? = some .free := by rw [← x.len]; exact get_app get_new
  have x3 := x2.set (o := .inst "Stack" [("items", .ref (σ ++ [O.inst "Stack" []]).length)]) hr trivial
  have hi : (R ++ [Role.free] ++ [Role.items])[(σ ++ [O.inst "Stack" []]).length]? = some .items := by rw [← x1.len]; exact get_new
  have hg : ((σ ++ [O.inst "Stack" []] ++ [O.lst [un0]]).set σ.length (.inst "Stack" [("items", .ref (σ ++ [O.inst "Stack" []]).length)]))[σ.length]? = some (.inst "Stack" [("items", .ref (σ ++ [O.inst "Stack" []]).length)]) := List.getElem?_set_self (by simp)
  have x4 := x3.reRole (r := .stack) hr hg ⟨_, rfl, by rw [List.getElem?_set_ne (by simp)]; exact hi⟩ (by simp [Role.uniq])
  refine ⟨rfl, hq _ _ _ (((t1.trans t2).setNew x.len (Nat.le_refl _)).reRole (Nat.le_of_eq x.len)) x4 ?_⟩
  exact List.getElem?_set_self (by simp [x.len])

theorem Inv.mkAlloc0 {R2 : List Role} (x : Inv c R as σ) {i lc ls N : Nat} {js : List Nat} (hi : R[i]? = some .free) (hc : R[lc]? = some .free) (hs : R[ls]? = some .free) (len2 : R2.length = R.length)
    (at1 : R2[i]? = some (.alloc as.length)) (at2 : R2[lc]? = some (.cells as.length)) (at3 : R2[ls]? = some (.stacks as.length)) (atn : ∀ j : Nat, j ≠ i → j ≠ lc → j ≠ ls → R2[j]? = R[j]?)
    (gi : σ[i]? = some (.inst "Allocation" [("cells", .ref lc), ("stacks", .ref ls), ("is_live", .bool true)])) (gc : σ[lc]? = some (.lst (List.replicate N vUNINIT))) (gs : σ[ls]? = some (.lst (js.map .ref))) (hj : ∀ j ∈ js, R[j]? = some .stack) (hl : js.length = N)
    (hN : N ≤ 1000) (hm : as.length < 1000) : Inv c R2 (as ++ [(List.replicate N vUNINIT, true)]) σ := by
  have up : ∀ (j : Nat) r, r ≠ Role.free → R[j]? = some r → R2[j]? = some r := fun j r hr e => by
    rw [atn j (fun h => by subst h; rw [hi] at e; cases e; exact hr rfl) (fun h => by subst h; rw [hc] at e; cases e; exact hr rfl) (fun h => by subst h; rw [hs] at e; cases e; exact hr rfl)]; exact e
  have new : (as ++ [(List.replicate N vUNINIT, true)])[as.length]? = some (List.replicate N vUNINIT, true) := get_new
  have none1 : ∀ j : Nat, R[j]? ≠ some (.alloc as.length) := fun j e => by
    obtain ⟨o, _, lc, ls, a, h1, _⟩ := x.getRole e
    simp at h1
  have none2 : ∀ j : Nat, R[j]? ≠ some (.cells as.length) := fun j e => by
    obtain ⟨o, _, a, h1, _⟩ := x.getRole e
    simp at h1
  refine ⟨by rw [len2]; exact x.len, fun j r o h1 h2 => ?_, fun j k r h1 h2 h3 => ?_, by simp; omega, fun a ha => ?_⟩
  · by_cases e1 : j = i
    · subst e1
      rw [at1] at h1; cases h1
      rw [gi] at h2; cases h2
      exact ⟨lc, ls, _, new, rfl, at2, at3⟩
    · by_cases e2 : j = lc
      · subst e2
        rw [at2] at h1; cases h1
        rw [gc] at h2; cases h2
        exact ⟨_, new, rfl⟩
      · by_cases e3 : j = ls
        · subst e3
          rw [at3] at h1; cases h1
          rw [gs] at h2; cases h2
          exact ⟨js, _, new, rfl, by simp [hl], fun q hq => up _ _ (by simp) (hj q hq)⟩
        · rw [atn j e1 e2 e3] at h1
          exact okAt_mono (x.ok j r o h1 h2) up fun k a e => get_app e
  · have cls : ∀ j : Nat, R2[j]? = some r → (j = i ∧ r = .alloc as.length) ∨ (j = lc ∧ r = .cells as.length) ∨ (j = ls ∧ r = .stacks as.length) ∨ R[j]? = some r := fun j e => by
      by_cases e1 : j = i
      · subst e1; rw [at1] at e; cases e; exact .inl ⟨rfl, rfl⟩
      · by_cases e2 : j = lc
        · subst e2; rw [at2] at e; cases e; exact .inr (.inl ⟨rfl, rfl⟩)
        · by_cases e3 : j = ls
          · subst e3; rw [at3] at e; cases e; exact .inr (.inr (.inl ⟨rfl, rfl⟩))
          · rw [atn j e1 e2 e3] at e; exact .inr (.inr (.inr e))
    rcases cls j h1 with ⟨a, b⟩ | ⟨a, b⟩ | ⟨a, b⟩ | b <;> rcases cls k h2 with ⟨a', b'⟩ | ⟨a', b'⟩ | ⟨a', b'⟩ | b'
    all_goals first
      | (rw [a, a']; done)
      | (subst b; cases b'; done)
      | (subst b; cases h3; done)
      | (subst b'; cases h3; done)
      | (subst b; exact absurd b' (none1 k))
      | (subst b; exact absurd b' (none2 k))
      | (subst b'; exact absurd b (none1 j))
      | (subst b'; exact absurd b (none2 j))
      | exact x.inj j k r b b' h3
  · rcases List.mem_append.mp ha with ha | ha
    · exact x.small a ha
    · rw [List.mem_singleton.mp ha]; simpa using hN
theorem Inv.mkAlloc (x : Inv c R as σ) {i lc ls N : Nat} {js : List Nat} (hi : R[i]? = some .free) (hc : R[lc]? = some .free) (hs : R[ls]? = some .free) (n1 : i ≠ lc) (n2 : i ≠ ls) (n3 : lc ≠ ls)
    (gi : σ[i]? = some (.inst "Allocation" [("cells", .ref lc), ("stacks", .ref ls), ("is_live", .bool true)])) (gc : σ[lc]? = some (.lst (List.replicate N vUNINIT))) (gs : σ[ls]? = some (.lst (js.map .ref))) (hj : ∀ j ∈ js, R[j]? = some .stack) (hl : js.length = N)
    (hN : N ≤ 1000) (hm : as.length < 1000) : Inv c (((R.set i (.alloc as.length)).set lc (.cells as.length)).set ls (.stacks as.length)) (as ++ [(List.replicate N vUNINIT, true)]) σ := by
  have li := (List.getElem?_eq_some_iff.mp hi).1
  have llc := (List.getElem?_eq_some_iff.mp hc).1
  have lls := (List.getElem?_eq_some_iff.mp hs).1
  have at1 : (((R.set i (.alloc as.length)).set lc (.cells as.length)).set ls (.stacks as.length))[i]? = some (.alloc as.length) := by
    rw [List.getElem?_set_ne (Ne.symm n2), List.getElem?_set_ne (Ne.symm n1), List.getElem?_set_self li]
  have at2 : (((R.set i (.alloc as.length)).set lc (.cells as.length)).set ls (.stacks as.length))[lc]? = some (.cells as.length) := by
    rw [List.getElem?_set_ne (Ne.symm n3), List.getElem?_set_self (by simpa using llc)]
  have at3 : (((R.set i (.alloc as.length)).set lc (.cells as.length)).set ls (.stacks as.length))[ls]? = some (.stacks as.length) := by
    rw [List.getElem?_set_self (by simpa using lls)]
  have atn : ∀ j, j ≠ i → j ≠ lc → j ≠ ls → (((R.set i (.alloc as.length)).set lc (.cells as.length)).set ls (.stacks as.length))[j]? = R[j]? := fun j a b d => by
    rw [List.getElem?_set_ne (Ne.symm d), List.getElem?_set_ne (Ne.symm b), List.getElem?_set_ne (Ne.symm a)]
  exact x.mkAlloc0 hi hc hs (by simp) at1 at2 at3 atn gi gc gs hj hl hN hm
end
end Mine

end
section
open PySem PySem.W
set_option Elab.async false
set_option maxRecDepth 100000
namespace Mine

section
variable {c m : Nat} {R R' R₁ R₂ : List Role} {as as' : AS} {σ σ' σ₁ σ₂ : S} {T : Str → Str → Option Ent} {tb : Tb} {n : Nat}

theorem glob_ {x : Str} {v : V} {Q : V → S → Prop} (h : tb.G x = some v) (hq : Q v σ) : ev (fun _ _ _ _ _ => False) tb (.glob x) [] Q σ := by dsimp only [ev]; rw [h]; exact hq
theorem le_t {x y : Int} {Q : Bool → Prop} (h : x ≤ y) (hq : Q true) : cmpW .LtE (.int x) (.int y) Q σ := by refine le_i ?_; rw [decide_eq_true h]; exact hq
theorem lt_t {x y : Int} {Q : Bool → Prop} (h : x < y) (hq : Q true) : cmpW .Lt (.int x) (.int y) Q σ := by refine lt_i ?_; rw [decide_eq_true h]; exact hq
theorem lt_f {x y : Int} {Q : Bool → Prop} (h : ¬ x < y) (hq : Q false) : cmpW .Lt (.int x) (.int y) Q σ := by refine lt_i ?_; rw [decide_eq_false h]; exact hq
theorem gt_f {x y : Int} {Q : Bool → Prop} (h : ¬ y < x) (hq : Q false) : cmpW .Gt (.int x) (.int y) Q σ := by refine gt_i ?_; rw [decide_eq_false h]; exact hq
theorem gt_t {x y : Int} {Q : Bool → Prop} (h : y < x) (hq : Q true) : cmpW .Gt (.int x) (.int y) Q σ := by refine gt_i ?_; rw [decide_eq_true h]; exact hq


theorem w_alloc (h : Facts T tb) {N : Nat} {Q : V → S → Prop} (x : Inv c R as σ) (hN : N ≤ 1000) (hm : as.length < 1000)
    (hq : ∀ R' σ' id, Nx R σ R' σ' → Inv c R' (as ++ [(List.replicate N vUNINIT, true)]) σ' → R'[id]? = some (.alloc as.length) → Q (.ref id) σ') : callW T tb (n + 4) "" "Allocation" [.int N] Q σ := by
  refine callW_cls h.c_Allocation ?_
  refine callW_fn h.f_Allocation___init__ rfl ?_
  have fq := x.free (.inst "Allocation" [])
  have x1 := fq.1
  have t1 := fq.2
  refine glob_ h.g_UNINIT ?_
  refine ⟨by simp, ?_⟩
  have fq := x1.free (.lst [vUNINIT])
  have x2 := fq.1
  have t2 := fq.2
  refine rep get_new (by omega) (by omega) ?_
  have fq := x2.free (.lst (List.replicate (N : Int).toNat vUNINIT))
  have x3 := fq.1
  have t3 := fq.2
  generalize hlc : (σ ++ [O.inst "Allocation" []] ++ [O.lst [vUNINIT]]).length = lc
  have g3 : (σ ++ [O.inst "Allocation" []] ++ [O.lst [vUNINIT]] ++ [O.lst (List.replicate (N : Int).toNat vUNINIT)])[lc]? = some (.lst (List.replicate N vUNINIT)) := by
    rw [← hlc]; exact get_new
  have ri : (R ++ [Role.free] ++ [Role.free] ++ [Role.free])[σ.length]? = some .free := by rw [← x.len]; exact get_app (get_app get_new)
  have rc : (R ++ [Role.free] ++ [Role.free] ++ [Role.free])[lc]? = some .free := by rw [← hlc, ← x2.len]; exact get_new
  have gi : (σ ++ [O.inst "Allocation" []] ++ [O.lst [vUNINIT]] ++ [O.lst (List.replicate (N : Int).toNat vUNINIT)])[σ.length]? = some (.inst "Allocation" []) := get_app (get_app get_new)
  have hlt : σ.length < lc := by rw [← hlc]; simp
  have hne : σ.length ≠ lc := Nat.ne_of_lt hlt
  refine set_i gi h.a_Allocation_cells ?_ (by decide)
  have t03 := (t1.trans t2).trans t3
  have x4 := x3.set (o := .inst "Allocation" [("cells", .ref lc)]) ri trivial
  have t04 := t03.setNew x.len (Nat.le_refl σ.length) (o := .inst "Allocation" [("cells", .ref lc)])
  have g4 : ((σ ++ [O.inst "Allocation" []] ++ [O.lst [vUNINIT]] ++ [O.lst (List.replicate (N : Int).toNat vUNINIT)]).set σ.length (.inst "Allocation" [("cells", .ref lc)]))[lc]? = some (.lst (List.replicate N vUNINIT)) := by
    rw [List.getElem?_set_ne hne]; exact g3
  have gi4 : ((σ ++ [O.inst "Allocation" []] ++ [O.lst [vUNINIT]] ++ [O.lst (List.replicate (N : Int).toNat vUNINIT)]).set σ.length (.inst "Allocation" [("cells", .ref lc)]))[σ.length]? = some (.inst "Allocation" [("cells", .ref lc)]) := List.getElem?_set_self (by simp)
  generalize (R ++ [Role.free] ++ [Role.free] ++ [Role.free]) = R4 at *
  show ev _ tb _ _ _ ((σ ++ [O.inst "Allocation" []] ++ [O.lst [vUNINIT]] ++ [O.lst (List.replicate (N : Int).toNat vUNINIT)]).set σ.length (.inst "Allocation" [("cells", .ref lc)]))
  generalize ((σ ++ [O.inst "Allocation" []] ++ [O.lst [vUNINIT]] ++ [O.lst (List.replicate (N : Int).toNat vUNINIT)]).set σ.length (.inst "Allocation" [("cells", .ref lc)])) = σ4 at *
  clear gi g3 t03 x3 t3 x2 t2 x1 t1
  refine range1 (by omega) (by omega) ?_
  refine ⟨N + 1, by omega, ?_⟩
  refine loopC_all (item := fun k => .int k) N (fun k acc σ' => ∃ R' js, acc = List.map V.ref js ∧ js.length = k ∧ Nx R4 σ4 R' σ' ∧ Inv c R' as σ' ∧ ∀ j ∈ js, R'[j]? = some .stack) (fun k acc σ _ hk => item_rng hk) (fun acc σ _ => item_rng_end) ?_ ?_ ⟨R4, [], rfl, rfl, .refl, x4, by simp⟩
  · rintro k acc σ' K hk ⟨R', js, rfl, rfl, t', x', hj⟩ hK
    refine ⟨h.n_Stack, glob_ h.g_OWNER ?_⟩
    refine w_new_stack h x' fun R2 σ2 s t2 x2 hs => hK _ _ ⟨R2, js ++ [s], by simp, by simp, t'.trans t2, x2, fun j hj' => ?_⟩
    rcases List.mem_append.mp hj' with hj' | hj'
    · exact t2.get (hj j hj')
    · rw [List.mem_singleton.mp hj']; exact hs
  · rintro acc σ5 ⟨R5, js, rfl, hl, t5, x5, hj⟩
    have fq := x5.free (.lst (js.map .ref))
    have x6 := fq.1
    have t6 := fq.2
    have t46 := t5.trans t6
    have ri6 := t46.get ri
    have rc6 := t46.get rc
    have rs6 : (R5 ++ [Role.free])[σ5.length]? = some .free := by rw [← x5.len]; exact get_new
    have gi6 := t46.keep _ _ ri gi4
    have gc6 := t46.keep _ _ rc g4
    have l1 : σ.length < σ5.length := by
      have := (List.getElem?_eq_some_iff.mp (t5.get ri)).1
      rw [x5.len] at this; exact this
    have l2 : lc < σ5.length := by
      have := (List.getElem?_eq_some_iff.mp (t5.get rc)).1
      rw [x5.len] at this; exact this
    refine set_i gi6 h.a_Allocation_stacks ?_
    have x7 := x6.set (o := .inst "Allocation" [("cells", .ref lc), ("stacks", .ref σ5.length)]) ri6 trivial
    refine set_i (fs := [("cells", .ref lc), ("stacks", .ref σ5.length)]) (List.getElem?_set_self (by simp; omega)) h.a_Allocation_is_live ?_
    have x8 := x7.set (o := .inst "Allocation" [("cells", .ref lc), ("stacks", .ref σ5.length), ("is_live", .bool true)]) ri6 trivial
    have x9 := x8.mkAlloc (N := N) (js := js) ri6 rc6 rs6 hne (by omega) (by omega) (List.getElem?_set_self (by simp; omega))
      (by rw [List.getElem?_set_ne hne, List.getElem?_set_ne hne]; exact gc6) (by rw [List.getElem?_set_ne (by omega), List.getElem?_set_ne (by omega)]; exact get_new) (fun j hj' => get_app (hj j hj')) hl hN hm
    have hle : R.length ≤ σ.length := Nat.le_of_eq x.len
    refine ⟨rfl, hq _ _ _ ((((((t04.trans t46).setNew x.len (Nat.le_refl _)).setNew x.len (Nat.le_refl _)).reRole hle).reRole (by rw [x.len]; omega)).reRole (by rw [x.len]; omega)) x9 ?_⟩
    rw [List.getElem?_set_ne (by omega), List.getElem?_set_ne (Ne.symm hne), List.getElem?_set_self]
    exact (List.getElem?_eq_some_iff.mp ri6).1

theorem Inv.grow (x : Inv c R as σ) {la id : Nat} {ids : List Nat} (hl : R[la]? = some .allocs) (hg : σ[la]? = some (.lst (ids.map .ref))) (hc : ids.length = c) (hids : ∀ (k id : Nat), ids[k]? = some id → R[id]? = some (.alloc k)) (hid : R[id]? = some (.alloc c)) : Inv (c + 1) R as (σ.set la (.lst (ids.map .ref ++ [.ref id]))) := by
  refine ⟨by simp [x.len], fun j r o h1 h2 => ?_, x.inj, x.many, x.small⟩
  by_cases hj : la = j
  · subst hj
    have hlt : la < σ.length := by rw [← x.len]; exact (List.getElem?_eq_some_iff.mp hl).1
    rw [List.getElem?_set_self hlt] at h2; cases h2
    rw [hl] at h1; cases h1
    refine ⟨ids ++ [id], by simp, by simp [hc], fun k id' e => ?_⟩
    rcases app_split e with e | ⟨rfl, rfl⟩
    · exact hids k id' e
    · rw [hc]; exact hid
  · rw [List.getElem?_set_ne hj] at h2
    have ok := x.ok j r o h1 h2
    cases r with
    | allocs => exact absurd (x.inj la j _ hl h1 rfl) hj
    | free => exact ok
    | mem => exact ok
    | alloc k => exact ok
    | cells k => exact ok
    | stacks k => exact ok
    | stack => exact ok
    | items => exact ok
    | src => exact ok

/-- the memory at its place -/
structure Mem (R : List Role) (as : AS) (σ : S) (m : Nat) : Prop where
  inv : Inv as.length R as σ
  at_ : R[m]? = some .mem
theorem Mem.parts (x : Mem R as σ m) : ∃ (la : Nat) (ids : List Nat), σ[m]? = some (.inst "Memory" [("allocations", .ref la), ("tags", .int 0)]) ∧ R[la]? = some .allocs ∧ σ[la]? = some (.lst (ids.map .ref)) ∧ ids.length = as.length ∧ ∀ (k id : Nat), ids[k]? = some id → R[id]? = some (.alloc k) := by
  obtain ⟨o, e1, la, rfl, hl⟩ := x.inv.getRole x.at_
  obtain ⟨o, e2, ids, rfl, h1, h2⟩ := x.inv.getRole hl
  exact ⟨la, ids, e1, hl, e2, h1, h2⟩
theorem Mem.allocAt (x : Mem R as σ m) {k : Nat} {a : List V × Bool} (ha : as[k]? = some a) : ∃ (la id lc ls : Nat) (ids : List Nat), σ[m]? = some (.inst "Memory" [("allocations", .ref la), ("tags", .int 0)]) ∧ R[la]? = some .allocs ∧ σ[la]? = some (.lst (ids.map .ref)) ∧ ids.length = as.length ∧ ids[k]? = some id ∧
    R[id]? = some (.alloc k) ∧ σ[id]? = some (.inst "Allocation" [("cells", .ref lc), ("stacks", .ref ls), ("is_live", .bool a.2)]) ∧ R[lc]? = some (.cells k) ∧ σ[lc]? = some (.lst a.1) ∧ R[ls]? = some (.stacks k) := by
  obtain ⟨la, ids, e1, hl, e2, h1, h2⟩ := x.parts
  have hk : k < ids.length := by rw [h1]; exact (List.getElem?_eq_some_iff.mp ha).1
  have hid : ids[k]? = some ids[k] := List.getElem?_eq_getElem hk
  have hr := h2 _ _ hid
  obtain ⟨o, e3, lc, ls, a', ha', rfl, r1, r2⟩ := x.inv.getRole hr
  rw [ha] at ha'; cases ha'
  obtain ⟨o, e4, a', ha', rfl⟩ := x.inv.getRole r1
  rw [ha] at ha'; cases ha'
  exact ⟨la, _, lc, ls, ids, e1, hl, e2, h1, hid, hr, e3, r1, e4, r2⟩
theorem Mem.many (x : Mem R as σ m) : as.length ≤ 1000 := x.inv.many

theorem w_allocate (h : Facts T tb) {N : Nat} {Q : V → S → Prop} (x : Mem R as σ m) (hN : N ≤ 1000) (hm : as.length < 1000)
    (hq : ∀ R' σ', Nx R σ R' σ' → Mem R' (as ++ [(List.replicate N vUNINIT, true)]) σ' m → Q (.int as.length) σ') : callW T tb (n + 5) "Memory" "allocate" [.ref m, .int N] Q σ := by
  obtain ⟨la, ids, e1, hl, e2, h1, h2⟩ := x.parts
  refine callW_fn h.f_Memory_allocate rfl ?_
  refine at_i e1 rfl h.a_Memory_allocations ?_
  simp only [e2]
  refine ⟨h.n_Allocation, ?_⟩
  refine w_alloc h x.inv hN hm fun R1 σ1 id t1 x1 hid => ?_
  obtain ⟨o, e3, ids1, rfl, h3, h4⟩ := x1.getRole (t1.get hl)
  refine append_l e3 (by simp; omega) ?_
  have x2 := x1.grow (t1.get hl) e3 h3 h4 hid
  have t2 := t1.setRole (i := la) (o := .lst (List.map V.ref ids1 ++ [.ref id])) (t1.get hl) (by simp)
  have x2' : Mem R1 (as ++ [(List.replicate N vUNINIT, true)]) (σ1.set la (.lst (List.map V.ref ids1 ++ [.ref id]))) m := ⟨by simpa using x2, t1.get x.at_⟩
  obtain ⟨la', ids2, e5, hl', e6, h5, _⟩ := x2'.parts
  refine at_i e5 rfl h.a_Memory_allocations ?_
  refine len_l e6 (by simp at h5; simp [h5]; omega) ?_
  refine sub_i ?_
  have : ((List.map V.ref ids2).length : Int) - 1 = as.length := by simp [h5]
  rw [this]
  exact hq _ _ t2 x2'

theorem w_base (h : Facts T tb) {v k : V} {Q : V → S → Prop} (hq : Q (.tup [.str "pointer", k, .int 0, .int 0]) σ) : callW T tb (n + 2) "Memory" "base" [v, k] Q σ := by
  refine callW_fn h.f_Memory_base rfl ?_
  refine ⟨h.n_pointer, glob_ h.g_OWNER ?_⟩
  exact w_pointer h hq

noncomputable abbrev ptr (k off : Int) : V := .tup [.str "pointer", .int k, .int off, .int 0]

theorem w_is_live (h : Facts T tb) {k : Nat} {a : List V × Bool} {Q : V → S → Prop} (x : Mem R as σ m) (ha : as[k]? = some a) (hq : Q (.bool a.2) σ) : callW T tb (n + 1) "Memory" "is_live" [.ref m, .int k] Q σ := by
  obtain ⟨la, id, lc, ls, ids, e1, hl, e2, h1, hid, hr, e3, r1, e4, r2⟩ := x.allocAt ha
  have hk := (List.getElem?_eq_some_iff.mp hid).1
  have := x.many
  refine callW_fn h.f_Memory_is_live rfl ?_
  refine le_t (by omega) ?_
  refine at_i e1 rfl h.a_Memory_allocations ?_
  refine len_l e2 (by simp; omega) ?_
  refine lt_t (by simp; omega) ?_
  refine at_i e1 rfl h.a_Memory_allocations ?_
  refine sub_l (v := .ref id) e2 (by omega) (by omega) (by simp [hid]) ?_
  exact at_i e3 rfl h.a_Allocation_is_live hq

theorem w_room (h : Facts T tb) {k off N : Nat} {cs : List V} {Q : V → S → Prop} (x : Mem R as σ m) (ha : as[k]? = some (cs, true)) (hb : off + N ≤ cs.length)
    (hq : ∀ id lc ls, R[id]? = some (.alloc k) → σ[id]? = some (.inst "Allocation" [("cells", .ref lc), ("stacks", .ref ls), ("is_live", .bool true)]) → R[lc]? = some (.cells k) → R[ls]? = some (.stacks k) → Q (.ref id) σ) :
    callW T tb (n + 2) "Memory" "room" [.ref m, ptr k off, .int N] Q σ := by
  obtain ⟨la, id, lc, ls, ids, e1, hl, e2, h1, hid, hr, e3, r1, e4, r2⟩ := x.allocAt ha
  have hk := (List.getElem?_eq_some_iff.mp hid).1
  have := x.many
  have hz := x.inv.small _ (List.mem_of_getElem? ha)
  refine callW_fn h.f_Memory_room rfl ?_
  refine cls_i e1 h.m_Memory_is_live ?_
  refine sub_t rfl ?_
  refine w_is_live h x ha ?_
  refine at_i e1 rfl h.a_Memory_allocations ?_
  refine sub_t rfl ?_
  refine sub_l (v := .ref id) e2 (by omega) (by omega) (by simp [hid]) ?_
  refine sub_t rfl ?_
  refine lt_f (by omega) ?_
  refine sub_t rfl ?_
  refine add_i ?_
  refine at_i e3 rfl h.a_Allocation_cells ?_
  refine len_l e4 (by have : cs.length ≤ 1000 := hz; show cs.length ≤ 1000000; omega) ?_
  refine gt_f (by dsimp only; omega) ?_
  exact hq _ _ _ hr e3 r1 r2
end
end Mine

end
section
open PySem PySem.W
set_option Elab.async false
set_option maxRecDepth 100000
namespace Mine

section
variable {c m : Nat} {R R' R₁ R₂ : List Role} {as as' : AS} {σ σ' σ₁ σ₂ : S} {T : Str → Str → Option Ent} {tb : Tb} {n : Nat}

theorem set_get {α : Type} {l : List α} {k j : Nat} {a b : α} (h : (l.set k a)[j]? = some b) : (j = k ∧ b = a) ∨ (j ≠ k ∧ l[j]? = some b) := by
  by_cases e : k = j
  · subst e
    have : k < l.length := by have := (List.getElem?_eq_some_iff.mp h).1; simpa using this
    rw [List.getElem?_set_self this] at h; cases h; exact .inl ⟨rfl, rfl⟩
  · rw [List.getElem?_set_ne e] at h; exact .inr ⟨fun q => e q.symm, h⟩

theorem Inv.turn (x : Inv c R as σ) {k i : Nat} {a a' : List V × Bool} {r : Role} {o : O} (ha : as[k]? = some a) (hl : a'.1.length = a.1.length) (hr : R[i]? = some r) (ho : okAt c R (as.set k a') o r)
    (hcase : (r = .alloc k ∧ a'.1 = a.1) ∨ (r = .cells k ∧ a'.2 = a.2)) : Inv c R (as.set k a') (σ.set i o) := by
  have hk := (List.getElem?_eq_some_iff.mp ha).1
  have self : (as.set k a')[k]? = some a' := List.getElem?_set_self hk
  have up : ∀ (k' : Nat) b, k' ≠ k → as[k']? = some b → (as.set k a')[k']? = some b := fun k' b h e => by rw [List.getElem?_set_ne (Ne.symm h)]; exact e
  refine ⟨by simp [x.len], fun j r' o' h1 h2 => ?_, x.inj, by simpa using x.many, fun b hb => ?_⟩
  · by_cases hij : i = j
    · subst hij
      have hlt : i < σ.length := by rw [← x.len]; exact (List.getElem?_eq_some_iff.mp hr).1
      rw [List.getElem?_set_self hlt] at h2; cases h2
      rw [hr] at h1; cases h1; exact ho
    · rw [List.getElem?_set_ne hij] at h2
      have ok := x.ok j r' o' h1 h2
      cases r' with
      | free => trivial
      | mem => exact ok
      | allocs => exact ok
      | stack => exact ok
      | items => exact ok
      | src => exact ok
      | alloc k' =>
        obtain ⟨lc, ls, b, q1, q2, q3, q4⟩ := ok
        by_cases hkk : k' = k
        · subst hkk
          rw [ha] at q1; cases q1
          rcases hcase with ⟨e, _⟩ | ⟨_, e⟩
          · subst e; exact absurd (x.inj i j _ hr h1 rfl) hij
          · exact ⟨lc, ls, a', self, by rw [e]; exact q2, q3, q4⟩
        · exact ⟨lc, ls, b, up _ _ hkk q1, q2, q3, q4⟩
      | cells k' =>
        obtain ⟨b, q1, q2⟩ := ok
        by_cases hkk : k' = k
        · subst hkk
          rw [ha] at q1; cases q1
          rcases hcase with ⟨_, e⟩ | ⟨e, _⟩
          · exact ⟨a', self, by rw [e]; exact q2⟩
          · subst e; exact absurd (x.inj i j _ hr h1 rfl) hij
        · exact ⟨b, up _ _ hkk q1, q2⟩
      | stacks k' =>
        obtain ⟨js, b, q1, q2, q3, q4⟩ := ok
        by_cases hkk : k' = k
        · subst hkk
          rw [ha] at q1; cases q1
          exact ⟨js, a', self, q2, by rw [hl]; exact q3, q4⟩
        · exact ⟨js, b, up _ _ hkk q1, q2, q3, q4⟩
  · obtain ⟨j, hj⟩ := List.mem_iff_getElem?.mp hb
    rcases set_get hj with ⟨_, rfl⟩ | ⟨_, hj⟩
    · rw [hl]; exact x.small _ (List.mem_of_getElem? ha)
    · exact x.small _ (List.mem_of_getElem? hj)


theorem w_free (h : Facts T tb) {k : Nat} {cs : List V} {Q : V → S → Prop} (x : Mem R as σ m) (ha : as[k]? = some (cs, true)) (hq : ∀ σ', Nx R σ R σ' → Mem R (as.set k (cs, false)) σ' m → Q .none σ') : callW T tb (n + 2) "Memory" "free" [.ref m, .int k] Q σ := by
  obtain ⟨la, id, lc, ls, ids, e1, hl, e2, h1, hid, hr, e3, r1, e4, r2⟩ := x.allocAt ha
  have hk := (List.getElem?_eq_some_iff.mp hid).1
  have := x.many
  refine callW_fn h.f_Memory_free rfl ?_
  refine cls_i e1 h.m_Memory_is_live ?_
  refine w_is_live h x ha ?_
  refine at_i e1 rfl h.a_Memory_allocations ?_
  refine sub_l (v := .ref id) e2 (by omega) (by omega) (by simp [hid]) ?_
  refine set_i e3 h.a_Allocation_is_live ?_
  have hk' := (List.getElem?_eq_some_iff.mp ha).1
  have x1 := x.inv.turn (a' := (cs, false)) (o := .inst "Allocation" [("cells", .ref lc), ("stacks", .ref ls), ("is_live", .bool false)]) ha rfl hr ⟨lc, ls, _, List.getElem?_set_self hk', rfl, r1, r2⟩ (.inl ⟨rfl, rfl⟩)
  exact hq _ (Nx.refl.setRole hr (by simp)) ⟨by rw [List.length_set]; exact x1, x.at_⟩

theorem w_read (h : Facts T tb) {k off : Nat} {o : Int} {cs : List V} {v : V} {Q : V → S → Prop} (x : Mem R as σ m) (ha : as[k]? = some (cs, true)) (ho : o = off) (hv : cs[off]? = some v)
    (hq : ∀ R' σ', Nx R σ R' σ' → Mem R' as σ' m → Q v σ') : callW T tb (n + 3) "Memory" "read" [.ref m, ptr k o] Q σ := by
  subst ho
  have hoff := (List.getElem?_eq_some_iff.mp hv).1
  have hz : cs.length ≤ 1000 := x.inv.small _ (List.mem_of_getElem? ha)
  obtain ⟨o', e1, la, rfl, hl⟩ := x.inv.getRole x.at_
  refine callW_fn h.f_Memory_read rfl ?_
  refine cls_i e1 h.m_Memory_room ?_
  refine w_room (N := 1) h x ha (by omega) fun id lc ls hid e3 r1 r2 => ?_
  obtain ⟨_, e5, js, a, ha', rfl, hj1, hj2⟩ := x.inv.getRole r2
  rw [ha] at ha'; cases ha'
  have hjl : off < js.length := by rw [hj1]; exact hoff
  have hj : js[off]? = some js[off] := List.getElem?_eq_getElem hjl
  have hrole := hj2 _ (List.mem_of_getElem? hj)
  refine at_i e3 rfl h.a_Allocation_stacks ?_
  refine sub_t rfl ?_
  refine sub_l (v := .ref js[off]) e5 (by omega) (by omega) (by simp [hj]) ?_
  obtain ⟨_, e6, li, rfl, r6⟩ := x.inv.getRole hrole
  refine cls_i e6 h.m_Stack_read ?_
  refine sub_t rfl ?_
  refine w_stack_read h x.inv hrole fun R1 σ1 t1 x1 => ?_
  have x1' : Mem R1 as σ1 m := ⟨x1, t1.get x.at_⟩
  obtain ⟨_, e7, lc', ls', a, ha', rfl, r7, r8⟩ := x1.getRole (t1.get hid)
  rw [ha] at ha'; cases ha'
  obtain ⟨_, e8, a, ha', rfl⟩ := x1.getRole r7
  rw [ha] at ha'; cases ha'
  refine at_i e7 rfl h.a_Allocation_cells ?_
  refine sub_t rfl ?_
  exact sub_l e8 (by omega) (by omega) (by simpa using hv) (hq _ _ t1 x1')

theorem w_write (h : Facts T tb) {k off : Nat} {o : Int} {cs : List V} {v : V} {Q : V → S → Prop} (x : Mem R as σ m) (ha : as[k]? = some (cs, true)) (ho : o = off) (hoff : off < cs.length)
    (hq : ∀ R' σ', Nx R σ R' σ' → Mem R' (as.set k (cs.set off v, true)) σ' m → Q .none σ') : callW T tb (n + 3) "Memory" "write" [.ref m, ptr k o, v] Q σ := by
  subst ho
  have hz : cs.length ≤ 1000 := x.inv.small _ (List.mem_of_getElem? ha)
  obtain ⟨o', e1, la, rfl, hl⟩ := x.inv.getRole x.at_
  refine callW_fn h.f_Memory_write rfl ?_
  refine cls_i e1 h.m_Memory_room ?_
  refine w_room (N := 1) h x ha (by omega) fun id lc ls hid e3 r1 r2 => ?_
  obtain ⟨_, e5, js, a, ha', rfl, hj1, hj2⟩ := x.inv.getRole r2
  rw [ha] at ha'; cases ha'
  have hjl : off < js.length := by rw [hj1]; exact hoff
  have hj : js[off]? = some js[off] := List.getElem?_eq_getElem hjl
  have hrole := hj2 _ (List.mem_of_getElem? hj)
  refine at_i e3 rfl h.a_Allocation_stacks ?_
  refine sub_t rfl ?_
  refine sub_l (v := .ref js[off]) e5 (by omega) (by omega) (by simp [hj]) ?_
  obtain ⟨_, e6, li, rfl, r6⟩ := x.inv.getRole hrole
  refine cls_i e6 h.m_Stack_write ?_
  refine sub_t rfl ?_
  refine w_stack_write h x.inv hrole fun R1 σ1 t1 x1 => ?_
  obtain ⟨_, e7, lc', ls', a, ha', rfl, r7, r8⟩ := x1.getRole (t1.get hid)
  rw [ha] at ha'; cases ha'
  obtain ⟨_, e8, a, ha', rfl⟩ := x1.getRole r7
  rw [ha] at ha'; cases ha'
  refine at_i e7 rfl h.a_Allocation_cells ?_
  refine sub_t rfl ?_
  refine setitem_l e8 (by omega) (by show (off : Int) < (cs.length : Int); omega) (by show cs.length ≤ 1000000; omega) ?_
  have hk' := (List.getElem?_eq_some_iff.mp ha).1
  have x2 := x1.turn (a' := (cs.set off v, true)) (o := .lst (cs.set off v)) ha (by simp) r7 ⟨_, List.getElem?_set_self hk', rfl⟩ (.inr ⟨rfl, rfl⟩)
  exact hq _ _ (t1.setRole r7 (by simp)) ⟨by simpa using x2, t1.get x.at_⟩

theorem take_set {cs vs : List V} {k : Nat} {v : V} (hl : vs.length = cs.length) (hv : vs[k]? = some v) : (vs.take k ++ cs.drop k).set k v = vs.take (k + 1) ++ cs.drop (k + 1) := by
  have hk := (List.getElem?_eq_some_iff.mp hv).1
  apply List.ext_getElem?
  intro i
  rw [List.take_add_one, hv, List.getElem?_set]
  simp only [List.length_append, List.length_take, List.length_drop, Option.toList_some]
  rw [if_pos (by omega : k < min k vs.length + (cs.length - k))]
  by_cases h : k = i
  · subst h
    rw [if_pos rfl, List.append_assoc, List.getElem?_append_right (by simp; omega)]
    simp [Nat.min_eq_left (Nat.le_of_lt hk)]
  · rw [if_neg h]
    rcases Nat.lt_or_gt_of_ne h with h' | h'
    · rw [List.getElem?_append_right (by simp; omega), List.append_assoc, List.getElem?_append_right (by simp; omega), List.getElem?_append_right (by simp; omega)]
      simp [Nat.min_eq_left (Nat.le_of_lt hk)]
      congr 1; omega
    · rw [List.getElem?_append_left (by simp; omega), List.append_assoc, List.getElem?_append_left (by simp; omega)]

theorem w_write_all (h : Facts T tb) {k jv : Nat} {cs vs : List V} {Q : V → S → Prop} (x : Mem R as σ m) (ha : as[k]? = some (cs, true)) (hl : vs.length = cs.length) (hj : R[jv]? = some .free) (hg : σ[jv]? = some (.lst vs))
    (hq : ∀ R' σ', Nx R σ R' σ' → Mem R' (as.set k (vs, true)) σ' m → Q .none σ') : callW T tb (n + 4) "Memory" "write_all" [.ref m, ptr k 0, .ref jv] Q σ := by
  have hz : cs.length ≤ 1000 := x.inv.small _ (List.mem_of_getElem? ha)
  have hk' := (List.getElem?_eq_some_iff.mp ha).1
  refine callW_fn h.f_Memory_write_all rfl ?_
  refine len_l hg (by omega) ?_
  refine range1 (by omega) (by omega) ?_
  refine ⟨vs.length + 1, ?_⟩
  refine loopF_all (item := fun j => .int j) vs.length (fun j ℓ σ' => (ℓ = ([("self", .ref m), ("place", ptr k 0), ("values", .ref jv)] : L) ∨ ∃ v, ℓ = ([("self", .ref m), ("place", ptr k 0), ("values", .ref jv), ("at", v)] : L)) ∧
    ∃ R', Nx R σ R' σ' ∧ Mem R' (as.set k (vs.take j ++ cs.drop j, true)) σ' m) (fun j ℓ σ' _ hj => item_rng hj) (fun ℓ σ' _ => item_rng_end) ?_ ?_ ⟨.inl rfl, R, .refl, by
      have : as.set k (vs.take 0 ++ cs.drop 0, true) = as := by
        apply List.ext_getElem?
        intro i
        rw [List.getElem?_set]
        split
        · rename_i e; subst e; rw [ha]; simp
        · rfl
      rw [this]; exact x⟩
  · rintro j ℓ σ' K hjlt ⟨hℓ, R', t', x'⟩ hK
    have hv : vs[j]? = some vs[j] := List.getElem?_eq_getElem hjlt
    have body : exs (callW T tb (n + 3)) tb [.expr (.meth (.var "self") "write" [(.call "moved" [(.var "place"), (.var "at")]), (.sub (.var "values") (.var "at"))])] [("self", .ref m), ("place", ptr k 0), ("values", .ref jv), ("at", .int j)] K σ' := by
      obtain ⟨o', e1, la, rfl, _⟩ := x'.inv.getRole x'.at_
      refine cls_i e1 h.m_Memory_write ?_
      refine ⟨h.n_moved, ?_⟩
      refine w_moved h ?_
      refine sub_l (t'.keep _ _ hj hg) (by omega) (by omega) (by rw [Int.toNat_natCast]; exact hv) ?_
      refine w_write (k := k) (off := j) h x' (List.getElem?_set_self hk') (by simp) (by simp; omega) fun R2 σ2 t2 x2 => ?_
      rw [List.set_set, take_set hl hv] at x2
      exact hK _ _ ⟨.inr ⟨_, rfl⟩, R2, t'.trans t2, x2⟩
    rcases hℓ with rfl | ⟨v, rfl⟩
    · exact body
    · exact body
  · rintro ℓ σ' ⟨_, R', t', x'⟩
    rw [List.take_length, hl, List.drop_length, List.append_nil] at x'
    exact hq R' σ' t' x'

theorem w_read_all (h : Facts T tb) {k off N : Nat} {o : Int} {cs : List V} {Q : V → S → Prop} (x : Mem R as σ m) (ha : as[k]? = some (cs, true)) (ho : o = off) (hb : off + N ≤ cs.length)
    (hq : ∀ R' σ' i, Nx R σ R' σ' → Mem R' as σ' m → R'[i]? = some .free → σ'[i]? = some (.lst ((cs.drop off).take N)) → σ.length ≤ i → Q (.ref i) σ') : callW T tb (n + 4) "Memory" "read_all" [.ref m, ptr k o, .int N] Q σ := by
  subst ho
  have hz : cs.length ≤ 1000 := x.inv.small _ (List.mem_of_getElem? ha)
  refine callW_fn h.f_Memory_read_all rfl ?_
  refine range1 (by omega) (by omega) ?_
  refine ⟨N + 1, by omega, ?_⟩
  refine loopC_all (item := fun j => .int j) N (fun j acc σ' => acc = (cs.drop off).take j ∧ ∃ R', Nx R σ R' σ' ∧ Mem R' as σ' m) (fun j ℓ σ' _ hj => item_rng hj) (fun ℓ σ' _ => item_rng_end) ?_ ?_ ⟨by simp, R, .refl, x⟩
  · rintro j acc σ' K hj ⟨rfl, R', t', x'⟩ hK
    obtain ⟨o', e1, la, rfl, _⟩ := x'.inv.getRole x'.at_
    have hlt : off + j < cs.length := by omega
    have hv : cs[off + j]? = some cs[off + j] := List.getElem?_eq_getElem hlt
    refine cls_i e1 h.m_Memory_read ?_
    refine ⟨h.n_moved, ?_⟩
    refine w_moved h ?_
    refine w_read (off := off + j) h x' ha (by push_cast; rfl) hv fun R2 σ2 t2 x2 => ?_
    refine hK _ _ ⟨?_, R2, t'.trans t2, x2⟩
    rw [List.take_add_one, List.getElem?_drop, hv]; rfl
  · rintro acc σ' ⟨rfl, R', t', x'⟩
    have fq := x'.inv.free (.lst ((cs.drop off).take N))
    have x2 := fq.1
    have t2 := fq.2
    refine hq _ _ _ (t'.trans t2) ⟨x2, t2.get x'.at_⟩ (by rw [← x'.inv.len]; exact get_new) get_new ?_
    obtain ⟨e, he⟩ := t'.ext
    rw [← x.inv.len, ← x'.inv.len, he]; simp
end
end Mine

end
section
open PySem PySem.W
set_option Elab.async false
set_option maxRecDepth 100000
namespace Mine

inductive Ty where
  | int | bool
  | box (t : Ty)
  | tup (ts : List Ty)
  | arr (t : Ty) (n : Nat)
mutual
noncomputable def enc : Ty → V
  | .int => .tup [.str "int", .str "u8"]
  | .bool => .tup [.str "bool"]
  | .box t => .tup [.str "box", enc t]
  | .tup ts => .tup [.str "tuple", .tup (encs ts)]
  | .arr t n => .tup [.str "array", enc t, .int n]
noncomputable def encs : List Ty → List V
  | [] => []
  | t :: r => enc t :: encs r
end
mutual
noncomputable def size : Ty → Nat
  | .int => 1
  | .bool => 1
  | .box _ => 1
  | .tup ts => sizes ts
  | .arr t n => n * size t
noncomputable def sizes : List Ty → Nat
  | [] => 0
  | t :: r => size t + sizes r
end
mutual
noncomputable def hasBox : Ty → Bool
  | .int => false
  | .bool => false
  | .box _ => true
  | .tup ts => hasBoxes ts
  | .arr t _ => hasBox t
noncomputable def hasBoxes : List Ty → Bool
  | [] => false
  | t :: r => hasBox t || hasBoxes r
end
mutual
noncomputable def wt : Ty → Nat
  | .int => 1
  | .bool => 1
  | .box _ => 1
  | .tup ts => 1 + wts ts
  | .arr t _ => 1 + wt t
noncomputable def wts : List Ty → Nat
  | [] => 0
  | t :: r => wt t + wts r
end
noncomputable def Ok : Nat → Ty → Prop
  | 0, t => t = .int ∨ t = .bool
  | d + 1, t => t = .int ∨ t = .bool ∨ (∃ u, t = .box u ∧ Ok d u) ∨ (∃ us, t = .tup us ∧ us.length ≤ 3 ∧ ∀ u ∈ us, Ok d u) ∨ (∃ u n, t = .arr u n ∧ n ≤ 3 ∧ Ok d u)

theorem encs_map : ∀ ts, encs ts = ts.map enc
  | [] => rfl
  | t :: r => by rw [encs, encs_map r]; rfl
theorem sizes_sum : ∀ ts, sizes ts = (ts.map size).sum
  | [] => rfl
  | t :: r => by rw [sizes, sizes_sum r]; simp
theorem sizes_take : ∀ (ts : List Ty) (k : Nat) t, ts[k]? = some t → sizes (ts.take (k + 1)) = sizes (ts.take k) + size t
  | [], k, t, h => by simp at h
  | u :: r, 0, t, h => by simp at h; subst h; simp [sizes]
  | u :: r, k + 1, t, h => by
    have := sizes_take r k t (by simpa using h)
    simp only [List.take_succ_cons, sizes, this]; omega
theorem sizes_le {b : Nat} : ∀ {ts : List Ty}, (∀ t ∈ ts, size t ≤ b) → sizes ts ≤ ts.length * b
  | [], _ => by simp [sizes]
  | t :: r, h => by
    have h1 := h t List.mem_cons_self
    have h2 := sizes_le (fun u hu => h u (List.mem_cons_of_mem _ hu))
    simp only [sizes, List.length_cons, Nat.add_mul, Nat.one_mul]; omega
theorem size_le : ∀ {d : Nat} {t : Ty}, Ok d t → size t ≤ 3 ^ d
  | 0, t, h => by rcases h with rfl | rfl <;> simp [size]
  | d + 1, t, h => by
    have p : 1 ≤ 3 ^ (d + 1) := Nat.one_le_pow _ _ (by decide)
    rcases h with rfl | rfl | ⟨u, rfl, _⟩ | ⟨us, rfl, h1, h2⟩ | ⟨u, n, rfl, h1, h2⟩
    · exact p
    · exact p
    · exact p
    · have := sizes_le (fun u hu => size_le (h2 u hu))
      simp only [size, Nat.pow_succ]
      have : us.length * 3 ^ d ≤ 3 * 3 ^ d := Nat.mul_le_mul_right _ h1
      omega
    · have := size_le h2
      simp only [size, Nat.pow_succ]
      have := Nat.mul_le_mul h1 this
      omega

section
variable {c m : Nat} {R R' R₁ R₂ : List Role} {as as' : AS} {σ σ' σ₁ σ₂ : S} {T : Str → Str → Option Ent} {tb : Tb} {n : Nat}

theorem in_s {x : Str} {l : List V} {xs : List Str} {Q : Bool → Prop} (r : Bool) (hq : Q r) (hl : strsOf l = some xs := by rfl) (h1 : PyData.strOk x = true := by decide +kernel) (h2 : xs.all PyData.strOk = true := by decide +kernel) (hr : (xs.any fun y => y == x) = r := by decide +kernel) : cmpW .In (.str x) (.tup l) Q σ := by
  delta cmpW; exact ⟨xs, hl, h1, h2, hr ▸ hq⟩
theorem mul_i {x y : Int} {Q : V → S → Prop} (h : x.natAbs < big ∨ y.natAbs < big) (hq : Q (.int (x * y)) σ) : binW .Mult (.int x) (.int y) Q σ := by delta binW; exact ⟨h, hq⟩
theorem head_enc (t : Ty) : ∃ s r, enc t = .tup (.str s :: r) := by cases t <;> exact ⟨_, _, rfl⟩


theorem w_sum_of (h : Facts T tb) {w src : V} {deep : Int} {ts : List Ty} {N : Nat} {Q : V → S → Prop} (hi : ∀ k : Nat, itemAt σ src k = some ((ts.map enc)[k]?))
    (one : ∀ t ∈ ts, ∀ Q, Q (.int (size t)) σ → callW T tb N "" "size_within" [enc t, w, .int deep] Q σ) (hq : Q (.int (sizes ts)) σ) : callW T tb (N + 1) "" "sum_of" [src, w, .int deep] Q σ := by
  refine callW_fn h.f_sum_of rfl ?_
  refine ⟨ts.length + 1, ?_⟩
  refine loopF_all (item := fun k => (ts.map enc).getD k .none) ts.length (fun k ℓ σ' => σ' = σ ∧ (ℓ = ([("types", src), ("world", w), ("deep", .int deep), ("total", .int (sizes (ts.take k)))] : L) ∨ ∃ v, ℓ = ([("types", src), ("world", w), ("deep", .int deep), ("total", .int (sizes (ts.take k))), ("told", v)] : L)))
    (fun k ℓ σ' hp hk => ?_) (fun ℓ σ' hp => ?_) ?_ ?_ ⟨rfl, .inl rfl⟩
  · rw [hp.1, hi]; simp [List.getD, hk]
  · rw [hp.1, hi]; simp
  · rintro k ℓ σ' K hk ⟨rfl, hℓ⟩ hK
    have ht : ts[k]? = some ts[k] := List.getElem?_eq_getElem hk
    have hv : (ts.map enc).getD k .none = enc ts[k] := by simp [List.getD, hk]
    have body : exs (callW T tb N) tb [.assign "total" (.bin .Add (.var "total") (.call "size_within" [(.var "told"), (.var "world"), (.var "deep")]))] [("types", src), ("world", w), ("deep", .int deep), ("total", .int (sizes (ts.take k))), ("told", enc ts[k])] K σ' := by
      refine ⟨h.n_size_within, ?_⟩
      refine one _ (List.getElem_mem hk) _ ?_
      refine add_i ?_
      have e : ((sizes (ts.take k) : Nat) : Int) + ((size ts[k] : Nat) : Int) = ((sizes (ts.take (k + 1)) : Nat) : Int) := by rw [sizes_take _ _ _ ht]; push_cast; rfl
      rw [e]
      exact hK _ _ ⟨rfl, .inr ⟨_, rfl⟩⟩
    rw [hv]
    rcases hℓ with rfl | ⟨v, rfl⟩
    · exact body
    · exact body
  · rintro ℓ σ' ⟨rfl, hℓ⟩
    rw [List.take_length] at hℓ
    rcases hℓ with rfl | ⟨v, rfl⟩
    · exact hq
    · exact hq

theorem item_t {l : List V} {k : Nat} : itemAt σ (.tup l) k = some l[k]? := rfl

theorem w_size_within (h : Facts T tb) {w : V} : ∀ (d : Nat) (t : Ty) (deep : Int) (N : Nat) (Q : V → S → Prop), Ok d t → 2 * d + 1 ≤ N → deep + d ≤ 40 → Q (.int (size t)) σ → callW T tb N "" "size_within" [enc t, w, .int deep] Q σ := by
  intro d
  induction d with
  | zero =>
    intro t deep N Q ok hN hd hq
    obtain ⟨n, rfl⟩ : ∃ n, N = n + 1 := ⟨N - 1, by omega⟩
    rcases ok with rfl | rfl
    · refine callW_fn h.f_size_within rfl ?_
      refine glob_ h.g_MOST ?_
      refine gt_f (by unfold vMOST; omega) ?_
      refine sub_t rfl ?_
      refine ⟨by simp, ?_⟩
      refine in_s true ?_
      exact hq
    · refine callW_fn h.f_size_within rfl ?_
      refine glob_ h.g_MOST ?_
      refine gt_f (by unfold vMOST; omega) ?_
      refine sub_t rfl ?_
      refine ⟨by simp, ?_⟩
      refine in_s true ?_
      exact hq
  | succ d ih =>
    intro t deep N Q ok hN hd hq
    obtain ⟨n, rfl⟩ : ∃ n, N = n + 1 := ⟨N - 1, by omega⟩
    refine callW_fn h.f_size_within rfl ?_
    refine glob_ h.g_MOST ?_
    refine gt_f (by unfold vMOST; omega) ?_
    rcases ok with rfl | rfl | ⟨u, rfl, _⟩ | ⟨us, rfl, h1, h2⟩ | ⟨u, k, rfl, h1, h2⟩
    · refine sub_t rfl ?_
      refine ⟨by simp, ?_⟩
      refine in_s true ?_
      exact hq
    · refine sub_t rfl ?_
      refine ⟨by simp, ?_⟩
      refine in_s true ?_
      exact hq
    · refine sub_t rfl ?_
      refine ⟨by simp, ?_⟩
      refine in_s true ?_
      exact hq
    · refine sub_t rfl ?_
      refine ⟨by simp, ?_⟩
      refine in_s false ?_
      refine eq_s false ?_
      refine eq_s true ?_
      refine ⟨h.n_sum_of, ?_⟩
      refine sub_t rfl ?_
      refine add_i ?_
      obtain ⟨n', rfl⟩ : ∃ n', n = n' + 1 := ⟨n - 1, by omega⟩
      refine w_sum_of h (fun k => by rw [item_t, encs_map]) (fun t ht Q hq => ih t _ _ Q (h2 t ht) (by omega) (by push_cast at hd; omega) hq) ?_
      exact hq
    · refine sub_t rfl ?_
      refine ⟨by simp, ?_⟩
      refine in_s false ?_
      refine eq_s false ?_
      refine eq_s false ?_
      refine eq_s true ?_
      refine sub_t rfl ?_
      refine ⟨h.n_size_within, ?_⟩
      refine sub_t rfl ?_
      refine add_i ?_
      refine ih u _ _ _ h2 (by omega) (by push_cast at hd; omega) ?_
      refine mul_i (.inl (by unfold big; simp; omega)) ?_
      have e : ((k : Nat) : Int) * ((size u : Nat) : Int) = ((size (.arr u k) : Nat) : Int) := by simp [size]
      rw [e]; exact hq

theorem w_size_of (h : Facts T tb) {w : V} {d N : Nat} {t : Ty} {Q : V → S → Prop} (ok : Ok d t) (hd : d ≤ 40) (hN : 2 * d + 2 ≤ N) (hq : Q (.int (size t)) σ) : callW T tb N "" "size_of" [enc t, w] Q σ := by
  obtain ⟨n, rfl⟩ : ∃ n, N = n + 1 := ⟨N - 1, by omega⟩
  refine callW_fn h.f_size_of rfl ?_
  refine ⟨h.n_size_within, ?_⟩
  exact w_size_within h d t 0 n Q ok (by omega) (by omega) hq
end
end Mine

end
section
open PySem PySem.W
set_option Elab.async false
set_option maxRecDepth 100000
namespace Mine

noncomputable def Pl (k : Nat) (v : V) : Prop := ∃ d, v.py = some d ∧ d.canLay0 = true ∧ d.depth ≤ k
noncomputable def PlA (k : Nat) (l : List V) : Prop := ∃ ds, V.pys l = some ds ∧ PyData.canLayAll0 ds = true ∧ PyData.depthAll ds ≤ k ∧ ds.length = l.length
theorem PlA.nil {k : Nat} : PlA k [] := ⟨[], rfl, rfl, Nat.zero_le _, rfl⟩
theorem PlA.cons {k : Nat} {v : V} {l : List V} (h : Pl k v) (r : PlA k l) : PlA k (v :: l) := by
  obtain ⟨d, h1, h2, h3⟩ := h
  obtain ⟨ds, r1, r2, r3, r4⟩ := r
  refine ⟨d :: ds, by simp [V.pys, h1, r1], by simp [PyData.canLayAll0, h2, r2], ?_, by simp [r4]⟩
  simp only [PyData.depthAll]; omega
theorem PlA.of {k : Nat} : ∀ {l : List V}, (∀ v ∈ l, Pl k v) → PlA k l
  | [], _ => .nil
  | v :: l, h => .cons (h v List.mem_cons_self) (PlA.of fun u hu => h u (List.mem_cons_of_mem _ hu))
theorem Pl.le {j k : Nat} {v : V} (h : Pl j v) (hj : j ≤ k) : Pl k v := by obtain ⟨d, a, b, c⟩ := h; exact ⟨d, a, b, Nat.le_trans c hj⟩
theorem Pl.tup {k : Nat} {l : List V} (h : PlA k l) : Pl (k + 1) (.tup l) := by
  obtain ⟨ds, r1, r2, r3, r4⟩ := h
  refine ⟨.tuple ds, by simp [V.py, r1], by simpa [PyData.canLay0] using r2, ?_⟩
  simp only [PyData.depth]; omega
theorem Pl.int {k : Nat} {i : Int} : Pl k (.int i) := ⟨.int i, rfl, rfl, Nat.zero_le _⟩
theorem Pl.bool {k : Nat} {b : Bool} : Pl k (.bool b) := ⟨.bool b, rfl, rfl, Nat.zero_le _⟩
theorem Pl.str {k : Nat} {s : Str} (h : PyData.strOk s = true) : Pl k (.str s) := ⟨.str s, rfl, h, Nat.zero_le _⟩
theorem ok_box : PyData.strOk "box" = true := by decide +kernel
theorem Pl.enc : ∀ {d : Nat} {t : Ty}, Ok d t → Pl (2 * d + 1) (enc t)
  | 0, t, h => by
    rcases h with rfl | rfl
    · exact .tup (.cons (.str (by decide +kernel)) (.cons (.str (by decide +kernel)) .nil))
    · exact .tup (.cons (.str (by decide +kernel)) .nil)
  | d + 1, t, h => by
    rcases h with rfl | rfl | ⟨u, rfl, h⟩ | ⟨us, rfl, h1, h2⟩ | ⟨u, n, rfl, h1, h2⟩
    · exact .tup (.cons (.str (by decide +kernel)) (.cons (.str (by decide +kernel)) .nil))
    · exact .tup (.cons (.str (by decide +kernel)) .nil)
    · exact .tup (.cons (.str (by decide +kernel)) (.cons ((Pl.enc h).le (by omega)) .nil))
    · refine .tup (k := 2 * d + 2) (.cons (.str (by decide +kernel)) (.cons (.tup (.of fun v hv => ?_)) .nil))
      rw [encs_map] at hv
      obtain ⟨u, hu, rfl⟩ := List.mem_map.mp hv
      exact Pl.enc (h2 u hu)
    · exact .tup (.cons (.str (by decide +kernel)) (.cons ((Pl.enc h2).le (by omega)) (.cons .int .nil)))

section
variable {c m : Nat} {R R' R₁ R₂ : List Role} {as as' : AS} {σ σ' σ₁ σ₂ : S} {T : Str → Str → Option Ent} {tb : Tb} {n : Nat}

theorem shaped_list {k : Nat} {l : List V} {ds : List PyData} (h1 : PyData.canLayAll0 ds = true) (h2 : PyData.depthAll ds ≤ k) (hk : k ≤ 63) : SeqAt.shaped (.list ds) = true := by
  unfold SeqAt.shaped
  rw [Bool.and_eq_true, decide_eq_true_eq]
  exact ⟨by simpa [PyData.canLay0] using h1, by simp only [PyData.depth]; omega⟩
theorem ne_nil {i j k : Nat} {l : List V} {Q : Bool → Prop} (h1 : σ[i]? = some (.lst l)) (h2 : σ[j]? = some (.lst [])) (hp : PlA k l) (hk : k ≤ 63) (hq : Q (!l.isEmpty)) : cmpW .NotEq (.ref i) (.ref j) Q σ := by
  obtain ⟨ds, r1, r2, r3, r4⟩ := hp
  delta cmpW
  refine ⟨.list ds, .list [], by simp only [pyOf, h1, r1, Option.map_some], by simp only [pyOf, h2, V.pys, Option.map_some], shaped_list (l := l) r2 r3 hk, by decide +kernel, ?_⟩
  have : PyData.eqv (.list ds) (.list []) = l.isEmpty := by
    rw [PyData.eqv]
    cases ds with
    | nil => cases l with
      | nil => rfl
      | cons => simp at r4
    | cons => cases l with
      | nil => simp at r4
      | cons => rfl
  rw [this]; exact hq
theorem ne_same {i j k : Nat} {l : List V} {Q : Bool → Prop} (h1 : σ[i]? = some (.lst l)) (h2 : σ[j]? = some (.lst l)) (hp : PlA k l) (hk : k ≤ 63) (hq : Q false) : cmpW .NotEq (.ref i) (.ref j) Q σ := by
  obtain ⟨ds, r1, r2, r3, r4⟩ := hp
  have s := shaped_list (l := l) r2 r3 hk
  delta cmpW
  refine ⟨.list ds, .list ds, by simp only [pyOf, h1, r1, Option.map_some], by simp only [pyOf, h2, r1, Option.map_some], s, s, ?_⟩
  rw [SeqAt.eqv_refl _ (SeqAt.canLay_of_shaped s)]; exact hq
theorem eq_same {i j k : Nat} {l : List V} {Q : Bool → Prop} (h1 : σ[i]? = some (.lst l)) (h2 : σ[j]? = some (.lst l)) (hp : PlA k l) (hk : k ≤ 63) (hq : Q true) : cmpW .Eq (.ref i) (.ref j) Q σ := by
  obtain ⟨ds, r1, r2, r3, r4⟩ := hp
  have s := shaped_list (l := l) r2 r3 hk
  delta cmpW
  refine ⟨.list ds, .list ds, by simp only [pyOf, h1, r1, Option.map_some], by simp only [pyOf, h2, r1, Option.map_some], s, s, ?_⟩
  rw [SeqAt.eqv_refl _ (SeqAt.canLay_of_shaped s)]; exact hq
theorem neV_same {k : Nat} {v : V} {Q : Bool → Prop} (hp : Pl k v) (hk : k ≤ 64) (hv : ∀ i, v ≠ .ref i) (hq : Q false) : cmpW .NotEq v v Q σ := by
  obtain ⟨d, h1, h2, h3⟩ := hp
  have e : pyOf σ v = some d := by
    cases v <;> first | exact h1 | exact absurd rfl (hv _)
  have s : SeqAt.shaped d = true := by unfold SeqAt.shaped; rw [Bool.and_eq_true, decide_eq_true_eq]; exact ⟨h2, by omega⟩
  delta cmpW
  refine ⟨d, d, e, e, s, s, ?_⟩
  rw [SeqAt.eqv_refl _ h2]; exact hq
theorem pop_l {i : Nat} {l : List V} {v : V} {Q : V → S → Prop} (h : σ[i]? = some (.lst (l ++ [v]))) (hz : (l ++ [v]).length ≤ 1000000) (hq : Q v (σ.set i (.lst l))) : lmethW .pop (.ref i) [] Q σ := by
  delta lmethW
  exact withL_of h ⟨hz, v, by simp, by rw [List.dropLast_concat]; exact hq⟩
theorem extend_l {i : Nat} {l r : List V} {Q : V → S → Prop} (h : σ[i]? = some (.lst l)) (hz : l.length ≤ 1000000) (hr : r.length ≤ 1000000) (hq : Q .none (σ.set i (.lst (l ++ r)))) : lmethW .extend (.ref i) [.tup r] Q σ := by
  delta lmethW; exact withL_of h ⟨hz, hr, hq⟩

theorem lmeth_var {C : Or} {ℓ : L} {x : Str} {i : Nat} {l : List V} {mm : LM} {es : List Ex} {Q : V → S → Prop} (hx : ℓ.lookup x = some (.ref i)) (hg : σ[i]? = some (.lst l)) (hq : evs C tb es ℓ (fun vs σ'' => lmethW mm (.ref i) vs Q σ'') σ) : ev C tb (.lmeth mm (.var x) es) ℓ Q σ := by
  dsimp only [ev]; rw [hx]; dsimp only; rw [hg]; exact hq


theorem w_parts_tup (h : Facts T tb) {us : List Ty} {Q : V → S → Prop} (hq : Q (.tup (encs us)) σ) : callW T tb (n + 1) "" "parts_of" [enc (.tup us)] Q σ := by
  refine callW_fn h.f_parts_of rfl ?_
  refine sub_t rfl ?_
  refine eq_s false ?_
  refine eq_s false ?_
  refine eq_s false ?_
  refine eq_s true ?_
  exact sub_t rfl hq
theorem w_parts_arr (h : Facts T tb) {u : Ty} {k : Nat} {Q : V → S → Prop} (hq : Q (.tup [enc u]) σ) : callW T tb (n + 1) "" "parts_of" [enc (.arr u k)] Q σ := by
  refine callW_fn h.f_parts_of rfl ?_
  refine sub_t rfl ?_
  refine eq_s false ?_
  refine eq_s false ?_
  refine eq_s true ?_
  exact sub_t rfl ⟨by simp, hq⟩

theorem hasBoxes_app (t : Ty) : ∀ ts : List Ty, hasBoxes (ts ++ [t]) = (hasBoxes ts || hasBox t)
  | [] => by simp [hasBoxes]
  | u :: r => by simp only [List.cons_append, hasBoxes, hasBoxes_app t r, Bool.or_assoc]
theorem hasBoxes_app2 : ∀ ts us : List Ty, hasBoxes (ts ++ us) = (hasBoxes ts || hasBoxes us)
  | [], us => by simp [hasBoxes]
  | u :: r, us => by simp only [List.cons_append, hasBoxes, hasBoxes_app2 r us, Bool.or_assoc]
theorem wts_app : ∀ ts us : List Ty, wts (ts ++ us) = wts ts + wts us
  | [], us => by simp [wts]
  | u :: r, us => by simp only [List.cons_append, wts, wts_app r us]; omega
theorem encs_app (ts us : List Ty) : encs (ts ++ us) = encs ts ++ encs us := by simp [encs_map]
theorem wt_pos (t : Ty) : 1 ≤ wt t := by cases t <;> simp [wt]
theorem wts_len : ∀ ts : List Ty, ts.length ≤ wts ts
  | [] => by simp [wts]
  | t :: r => by have := wts_len r; have := wt_pos t; simp only [List.length_cons, wts]; omega
theorem wts_le {b : Nat} : ∀ {ts : List Ty}, (∀ t ∈ ts, wt t ≤ b) → wts ts ≤ ts.length * b
  | [], _ => by simp [wts]
  | t :: r, h => by
    have h1 := h t List.mem_cons_self
    have h2 := wts_le (fun u hu => h u (List.mem_cons_of_mem _ hu))
    simp only [wts, List.length_cons, Nat.add_mul, Nat.one_mul]; omega
theorem wt_le : ∀ {d : Nat} {t : Ty}, Ok d t → wt t ≤ 4 ^ d
  | 0, t, h => by rcases h with rfl | rfl <;> simp [wt]
  | d + 1, t, h => by
    have p : 1 ≤ 4 ^ d := Nat.one_le_pow _ _ (by decide)
    rcases h with rfl | rfl | ⟨u, rfl, _⟩ | ⟨us, rfl, h1, h2⟩ | ⟨u, n, rfl, h1, h2⟩
    · simp only [wt, Nat.pow_succ]; omega
    · simp only [wt, Nat.pow_succ]; omega
    · simp only [wt, Nat.pow_succ]; omega
    · have := wts_le (fun u hu => wt_le (h2 u hu))
      simp only [wt, Nat.pow_succ]
      have : us.length * 4 ^ d ≤ 3 * 4 ^ d := Nat.mul_le_mul_right _ h1
      omega
    · have := wt_le h2
      simp only [wt, Nat.pow_succ]; omega
theorem Ok.up : ∀ {d : Nat} {t : Ty}, Ok d t → Ok (d + 1) t
  | 0, t, h => by rcases h with rfl | rfl; exact .inl rfl; exact .inr (.inl rfl)
  | d + 1, t, h => by
    rcases h with rfl | rfl | ⟨u, rfl, h⟩ | ⟨us, rfl, h1, h2⟩ | ⟨u, n, rfl, h1, h2⟩
    · exact .inl rfl
    · exact .inr (.inl rfl)
    · exact .inr (.inr (.inl ⟨u, rfl, h.up⟩))
    · exact .inr (.inr (.inr (.inl ⟨us, rfl, h1, fun u hu => (h2 u hu).up⟩)))
    · exact .inr (.inr (.inr (.inr ⟨u, n, rfl, h1, h2.up⟩)))

noncomputable abbrev ndBody : List St := match b_needs_drop.body with | [_, _, .while _ bd, _] => bd | _ => []
theorem nd_loop (h : Facts T tb) {d : Nat} (hd : d ≤ 8) {w a0 a1 : V} {jl : Nat} {b : Bool} {Q : Fl → L → S → Prop} (hj : σ.length ≤ jl) (hR : R.length = σ.length)
    (hq : ∀ f v R' σ', Nx R σ R' σ' → Inv c R' as σ' → (b = true ∧ f = .ret (.bool true)) ∨ (b = false ∧ f = .next) → Q f (([("told", a0), ("world", w), ("seen", a1), ("left", .ref jl)] : L) ++ v) σ') :
    ∀ (W : Nat) (ts : List Ty) (R1 : List Role) (σ1 : S) (v : L), (v = [] ∨ ∃ u : V, v = ([("here", u)] : L)) → wts ts ≤ W → W ≤ 100000 → (∀ t ∈ ts, Ok d t) → Nx R σ R1 σ1 → Inv c R1 as σ1 → R1[jl]? = some .free → σ1[jl]? = some (.lst (encs ts)) → hasBoxes ts = b →
    loopW (fun ℓ' K σ' => tru (callW T tb (n + 1)) tb (.cmp .NotEq (.var "left") (.lst [])) ℓ' K σ') (fun ℓ' K σ' => exs (callW T tb (n + 1)) tb ndBody ℓ' K σ') (W + 1) (([("told", a0), ("world", w), ("seen", a1), ("left", .ref jl)] : L) ++ v) Q σ1 := by
  intro W
  induction W with
  | zero =>
    intro ts R1 σ1 v hv hW hWm hok t1 x1 r1 g1 hb
    have : ts = [] := by
      cases ts with
      | nil => rfl
      | cons t r => have := wt_pos t; dsimp only [wts] at hW; omega
    subst this
    dsimp only [loopW]
    have fq := x1.free (.lst [])
    have x2 := fq.1
    have t2 := fq.2
    refine ⟨by simp, ?_⟩
    refine ne_nil (k := 0) (get_app g1) get_new .nil (by omega) ?_
    exact hq _ _ _ _ (t1.trans t2) x2 (.inr ⟨by rw [← hb]; rfl, rfl⟩)
  | succ W ih =>
    intro ts R1 σ1 v hv hW hWm hok t1 x1 r1 g1 hb
    dsimp only [loopW]
    have fq := x1.free (.lst [])
    have x2 := fq.1
    have t2 := fq.2
    have pl : PlA (2 * d + 1) (encs ts) := by
      rw [encs_map]
      refine .of fun v hv => ?_
      obtain ⟨u, hu, rfl⟩ := List.mem_map.mp hv
      exact Pl.enc (hok u hu)
    refine ⟨by simp, ?_⟩
    refine ne_nil (get_app g1) get_new pl (by omega) ?_
    rcases List.eq_nil_or_concat ts with rfl | ⟨init, t, rfl⟩
    · exact hq _ _ _ _ (t1.trans t2) x2 (.inr ⟨by rw [← hb]; rfl, rfl⟩)
    · have hne : (!(encs (init ++ [t])).isEmpty) = true := by simp [encs_app, encs]
      simp only [List.concat_eq_append] at *
      rw [hne]
      have t12 := t1.trans t2
      have r2 := t2.get r1
      have g2 : (σ1 ++ [O.lst []])[jl]? = some (.lst (encs init ++ [enc t])) := by
        rw [get_app g1, encs_app]; rfl
      generalize (σ1 ++ [O.lst []]) = σ2 at *
      have hokt : Ok d t := hok t (by simp)
      have x3 := x2.set (o := .lst (encs init)) r2 trivial
      have t3 := t12.setNew hR hj (o := .lst (encs init))
      have g3 : (σ2.set jl (.lst (encs init)))[jl]? = some (.lst (encs init)) := List.getElem?_set_self (List.getElem?_eq_some_iff.mp g2).1
      have hsz : (encs init ++ [enc t]).length ≤ 1000000 := by
        have := wts_len (init ++ [t])
        simp [encs_map] at this ⊢; omega
      rw [wts_app] at hW
      dsimp only [wts] at hW
      have hwp := wt_pos t
      have go : exs (callW T tb (n + 1)) tb ndBody.tail (([("told", a0), ("world", w), ("seen", a1), ("left", .ref jl), ("here", enc t)] : L)) (fun f ℓ' σ'' => match f with
          | .next => loopW (fun ℓ' K σ' => tru (callW T tb (n + 1)) tb (.cmp .NotEq (.var "left") (.lst [])) ℓ' K σ') (fun ℓ' K σ' => exs (callW T tb (n + 1)) tb ndBody ℓ' K σ') (W + 1) ℓ' Q σ''
          | .ret u => Q (.ret u) ℓ' σ'') (σ2.set jl (.lst (encs init))) := by
        rw [hasBoxes_app] at hb
        cases t with
        | box u =>
          refine sub_t rfl ?_
          refine ⟨by simp, ?_⟩
          refine in_s true ?_
          exact hq (.ret (.bool true)) [("here", enc (.box u))] _ _ t3 x3 (.inl ⟨by rw [← hb]; simp [hasBox], rfl⟩)
        | int =>
          refine sub_t rfl ?_
          refine ⟨by simp, ?_⟩
          refine in_s false ?_
          refine sub_t rfl ?_
          refine ⟨by simp, ?_⟩
          refine in_s false ?_
          refine sub_t rfl ?_
          refine eq_s false ?_
          exact ih init _ _ [("here", enc .int)] (.inr ⟨_, rfl⟩) (by omega) (by omega) (fun t ht => hok t (by simp [ht])) t3 x3 r2 g3 (by simpa [hasBox] using hb)
        | bool =>
          refine sub_t rfl ?_
          refine ⟨by simp, ?_⟩
          refine in_s false ?_
          refine sub_t rfl ?_
          refine ⟨by simp, ?_⟩
          refine in_s false ?_
          refine sub_t rfl ?_
          refine eq_s false ?_
          exact ih init _ _ [("here", enc .bool)] (.inr ⟨_, rfl⟩) (by omega) (by omega) (fun t ht => hok t (by simp [ht])) t3 x3 r2 g3 (by simpa [hasBox] using hb)
        | tup us =>
          obtain ⟨us', e, h1, h2⟩ : ∃ d', d = d' + 1 ∧ us.length ≤ 3 ∧ ∀ u ∈ us, Ok d' u := by
            cases d with
            | zero => rcases hokt with e | e <;> cases e
            | succ d => rcases hokt with e | e | ⟨u, e, _⟩ | ⟨us', e, h1, h2⟩ | ⟨u, n, e, h1, h2⟩ <;> cases e; exact ⟨d, rfl, h1, h2⟩
          refine sub_t rfl ?_
          refine ⟨by simp, ?_⟩
          refine in_s false ?_
          refine sub_t rfl ?_
          refine ⟨by simp, ?_⟩
          refine in_s true ?_
          show ev (callW T tb (n + 1)) tb (.lmeth .extend (.var "left") [.call "parts_of" [.var "here"]]) ([("told", a0), ("world", w), ("seen", a1), ("left", .ref jl), ("here", enc (.tup us))] : L) _ _
          refine lmeth_var rfl g3 ?_
          refine ⟨h.n_parts_of, ?_⟩
          refine w_parts_tup h ?_
          dsimp only [wt] at hW
          refine extend_l g3 (by simp [encs_map] at hsz ⊢; omega) (by rw [encs_map]; simp; omega) ?_
          have g4 : ((σ2.set jl (.lst (encs init))).set jl (.lst (encs init ++ encs us)))[jl]? = some (.lst (encs (init ++ us))) := by
            rw [encs_app]; exact List.getElem?_set_self (List.getElem?_eq_some_iff.mp g3).1
          exact ih (init ++ us) _ _ [("here", enc (.tup us))] (.inr ⟨_, rfl⟩) (by rw [wts_app]; omega) (by omega) (fun t ht => by
            rcases List.mem_append.mp ht with ht | ht
            · exact hok t (by simp [ht])
            · subst e; exact (h2 t ht).up) (t3.setNew hR hj) (x3.set r2 trivial) r2 g4 (by rw [hasBoxes_app2]; exact hb)
        | arr u k =>
          obtain ⟨us', e, h2⟩ : ∃ d', d = d' + 1 ∧ Ok d' u := by
            cases d with
            | zero => rcases hokt with e | e <;> cases e
            | succ d => rcases hokt with e | e | ⟨u, e, _⟩ | ⟨us', e, h1, h2⟩ | ⟨u, n, e, h1, h2⟩ <;> cases e; exact ⟨d, rfl, h2⟩
          refine sub_t rfl ?_
          refine ⟨by simp, ?_⟩
          refine in_s false ?_
          refine sub_t rfl ?_
          refine ⟨by simp, ?_⟩
          refine in_s true ?_
          show ev (callW T tb (n + 1)) tb (.lmeth .extend (.var "left") [.call "parts_of" [.var "here"]]) ([("told", a0), ("world", w), ("seen", a1), ("left", .ref jl), ("here", enc (.arr u k))] : L) _ _
          refine lmeth_var rfl g3 ?_
          refine ⟨h.n_parts_of, ?_⟩
          refine w_parts_arr h ?_
          dsimp only [wt] at hW
          refine extend_l g3 (by simp [encs_map] at hsz ⊢; omega) (by simp) ?_
          have g4 : ((σ2.set jl (.lst (encs init))).set jl (.lst (encs init ++ [enc u])))[jl]? = some (.lst (encs (init ++ [u]))) := by
            rw [encs_app]; exact List.getElem?_set_self (List.getElem?_eq_some_iff.mp g3).1
          exact ih (init ++ [u]) _ _ [("here", enc (.arr u k))] (.inr ⟨_, rfl⟩) (by rw [wts_app]; dsimp only [wts]; omega) (by omega) (fun t ht => by
            rcases List.mem_append.mp ht with ht | ht
            · exact hok t (by simp [ht])
            · rw [List.mem_singleton.mp ht]; subst e; exact h2.up) (t3.setNew hR hj) (x3.set r2 trivial) r2 g4 (by rw [hasBoxes_app]; exact hb)
      rcases hv with rfl | ⟨u, rfl⟩
      · show ev (callW T tb (n + 1)) tb (.lmeth .pop (.var "left") []) ([("told", a0), ("world", w), ("seen", a1), ("left", .ref jl)] : L) _ _
        refine lmeth_var rfl g2 ?_
        exact pop_l g2 hsz go
      · show ev (callW T tb (n + 1)) tb (.lmeth .pop (.var "left") []) ([("told", a0), ("world", w), ("seen", a1), ("left", .ref jl), ("here", u)] : L) _ _
        refine lmeth_var rfl g2 ?_
        exact pop_l g2 hsz go

theorem w_needs_drop (h : Facts T tb) {d : Nat} (hd : d ≤ 8) {w : V} {t : Ty} {Q : V → S → Prop} (x : Inv c R as σ) (ok : Ok d t) (hq : ∀ R' σ', Nx R σ R' σ' → Inv c R' as σ' → Q (.bool (hasBox t)) σ') : callW T tb (n + 2) "" "needs_drop" [enc t, w] Q σ := by
  refine callW_fn h.f_needs_drop rfl ?_
  refine ⟨by simp, ?_⟩
  have fq := x.free (.lst [])
  have x1 := fq.1
  have t1 := fq.2
  refine ⟨by simp, ?_⟩
  have fq := x1.free (.lst [enc t])
  have x2 := fq.1
  have t2 := fq.2
  have hw := wt_le ok
  have hw2 : 4 ^ d ≤ 4 ^ 8 := Nat.pow_le_pow_right (by decide) hd
  refine ⟨4 ^ d + 1, ?_⟩
  refine nd_loop (v := []) (a0 := enc t) (a1 := .ref σ.length) (w := w) (jl := (σ ++ [O.lst []]).length) (b := hasBox t) (R := R) (σ := σ) (c := c) (as := as) (Q := fun f ℓ' σ' => match f with
    | .next => exs (callW T tb (n + 1)) tb [.ret (.lit (.bool false))] ℓ' (fun fl _ σ' => match fl with | .ret v => Q v σ' | .next => Q .none σ') σ'
    | .ret u => Q u σ') h hd (by simp) x.len (fun f v R' σ' t' x' hf => ?_) (4 ^ d) [t] _ _ (.inl rfl) (by dsimp only [wts]; omega) (by omega) (by simpa using ok) (t1.trans t2) x2 (by rw [← x1.len]; exact get_new) get_new (by simp [hasBoxes])
  rcases hf with ⟨hb, rfl⟩ | ⟨hb, rfl⟩
  · have := hq R' σ' t' x'
    rw [hb] at this; exact this
  · have := hq R' σ' t' x'
    rw [hb] at this; exact this
end
end Mine

end
section
open PySem PySem.W
set_option Elab.async false
set_option maxRecDepth 100000
namespace Mine

noncomputable def isParts : Ty → Bool
  | .tup _ => true
  | .arr _ _ => true
  | _ => false
noncomputable def parts : Ty → List Ty
  | .tup us => us
  | .arr u k => List.replicate k u
  | _ => []
mutual
noncomputable def jobs : Ty → Nat
  | .int => 1
  | .bool => 1
  | .box u => 2 + jobs u
  | .tup us => if hasBoxes us then 2 + jobss us else 1
  | .arr u k => if hasBox u then 2 + k * jobs u else 1
noncomputable def jobss : List Ty → Nat
  | [] => 0
  | t :: r => jobs t + jobss r
end
theorem jobss_rep (u : Ty) : ∀ k, jobss (List.replicate k u) = k * jobs u
  | 0 => by simp [jobss]
  | k + 1 => by rw [List.replicate_succ, jobss, jobss_rep u k, Nat.add_mul, Nat.one_mul, Nat.add_comm]
theorem sizes_rep (u : Ty) : ∀ k, sizes (List.replicate k u) = k * size u
  | 0 => by simp [sizes]
  | k + 1 => by rw [List.replicate_succ, sizes, sizes_rep u k, Nat.add_mul, Nat.one_mul, Nat.add_comm]
theorem jobs_no : ∀ t, hasBox t = false → jobs t = 1
  | .int, _ => rfl
  | .bool, _ => rfl
  | .box _, h => by simp [hasBox] at h
  | .tup us, h => by dsimp only [hasBox] at h; simp [jobs, h]
  | .arr u k, h => by dsimp only [hasBox] at h; simp [jobs, h]
theorem size_parts {t : Ty} (h : isParts t = true) : size t = sizes (parts t) := by
  cases t <;> simp [isParts] at h
  · rfl
  · simp [size, parts, sizes_rep]
theorem encs_rep (u : Ty) (k : Nat) : encs (List.replicate k u) = List.replicate k (enc u) := by simp [encs_map]
theorem Ok.parts {d : Nat} {t : Ty} (h : Ok (d + 1) t) : (Mine.parts t).length ≤ 3 ∧ ∀ u ∈ Mine.parts t, Ok d u := by
  rcases h with rfl | rfl | ⟨u, rfl, h⟩ | ⟨us, rfl, h1, h2⟩ | ⟨u, n, rfl, h1, h2⟩
  · exact ⟨by simp [Mine.parts], by simp [Mine.parts]⟩
  · exact ⟨by simp [Mine.parts], by simp [Mine.parts]⟩
  · exact ⟨by simp [Mine.parts], by simp [Mine.parts]⟩
  · exact ⟨h1, h2⟩
  · exact ⟨by simp [Mine.parts, h1], fun v hv => by simp only [Mine.parts, List.mem_replicate] at hv; rw [hv.2]; exact h2⟩
theorem Ok.zero {t : Ty} (h : Ok 0 t) : isParts t = false ∧ hasBox t = false ∧ size t = 1 := by rcases h with rfl | rfl <;> exact ⟨rfl, rfl, rfl⟩

section
variable {c m : Nat} {R R' R₁ R₂ : List Role} {as as' : AS} {σ σ' σ₁ σ₂ : S} {T : Str → Str → Option Ent} {tb : Tb} {n : Nat}

theorem is_ref {i : Nat} {Q : Bool → Prop} (hq : Q false) : cmpW .Is (.ref i) .none Q σ := by delta cmpW; exact hq
theorem is_none {Q : Bool → Prop} (hq : Q true) : cmpW .Is .none .none Q σ := by delta cmpW; exact hq
theorem sum_l {i : Nat} {l : List V} {s : Int} {Q : V → S → Prop} (h : σ[i]? = some (.lst l)) (hz : l.length ≤ 1000000) (hs : sumInts l = some s) (hq : Q (.int s) σ) : bltW .sum [.ref i] Q σ := by
  delta bltW; exact withL_of (f := fun l => l.length ≤ 1000000 ∧ ∃ n, sumInts l = some n ∧ Q (.int n) σ) h ⟨hz, s, hs, hq⟩
theorem sumInts_map (f : Ty → Nat) : ∀ ts : List Ty, sumInts (ts.map fun u => .int (f u)) = some (((ts.map f).sum : Nat) : Int)
  | [] => rfl
  | t :: r => by simp [sumInts, sumInts_map f r]

theorem comp_map (x : Inv c R as σ) {i : Nat} {ts : List Ty} (hr : R[i]? = some .free) (hg : σ[i]? = some (.lst (encs ts))) {elt : V → (List V → S → Prop) → S → Prop} {Q : List V → S → Prop} (f : Ty → V)
    (step : ∀ u ∈ ts, ∀ R' σ' K, Nx R σ R' σ' → Inv c R' as σ' → (∀ R'' σ'', Nx R' σ' R'' σ'' → Inv c R'' as σ'' → K [f u] σ'') → elt (enc u) K σ') (fin : ∀ R' σ', Nx R σ R' σ' → Inv c R' as σ' → Q (ts.map f) σ') : loopC elt (.ref i) (ts.length + 1) 0 [] Q σ := by
  refine loopC_all (item := fun k => (ts.map enc).getD k .none) ts.length (fun k acc σ' => acc = (ts.take k).map f ∧ ∃ R', Nx R σ R' σ' ∧ Inv c R' as σ') (fun k acc σ' ⟨_, R', t', x'⟩ hk => ?_) (fun acc σ' ⟨_, R', t', x'⟩ => ?_) ?_ ?_ ⟨by simp, R, .refl, x⟩
  · rw [item_l (t'.keep _ _ hr hg), encs_map]; simp [List.getD, hk]
  · rw [item_l (t'.keep _ _ hr hg), encs_map]; simp
  · rintro k acc σ' K hk ⟨rfl, R', t', x'⟩ hK
    have hv : (ts.map enc).getD k .none = enc ts[k] := by simp [List.getD, hk]
    rw [hv]
    refine step _ (List.getElem_mem hk) R' σ' K t' x' fun R'' σ'' t'' x'' => hK _ _ ⟨?_, R'', t'.trans t'', x''⟩
    rw [List.take_add_one, List.getElem?_eq_getElem hk, List.map_append]; rfl
  · rintro acc σ' ⟨rfl, R', t', x'⟩
    rw [List.take_length]
    exact fin R' σ' t' x'


theorem w_law_parts (h : Facts T tb) {d : Nat} {t : Ty} (x : Inv c R as σ) (ok : Ok (d + 1) t) (hp : isParts t = true) {Q : V → S → Prop}
    (hq : ∀ R' σ' i, Nx R σ R' σ' → Inv c R' as σ' → R'[i]? = some .free → σ'[i]? = some (.lst (encs (parts t))) → σ.length ≤ i → Q (.ref i) σ') : callW T tb (n + 1) "" "_law_parts" [enc t] Q σ := by
  have hl := ok.parts.1
  refine callW_fn h.f__law_parts rfl ?_
  cases t <;> simp [isParts] at hp
  · rename_i us
    refine sub_t rfl ?_
    refine eq_s true ?_
    refine sub_t rfl ?_
    have fq := x.free (.lst (encs us))
    have x1 := fq.1
    have t1 := fq.2
    refine list_t (by dsimp only [parts] at hl; rw [encs_map]; simp; omega) ?_
    exact hq _ _ _ t1 x1 (by rw [← x.len]; exact get_new) get_new (Nat.le_refl _)
  · rename_i u k
    refine sub_t rfl ?_
    refine eq_s false ?_
    refine sub_t rfl ?_
    refine eq_s true ?_
    refine sub_t rfl ?_
    refine ⟨by simp, ?_⟩
    have fq := x.free (.lst [enc u])
    have x1 := fq.1
    have t1 := fq.2
    refine sub_t rfl ?_
    simp only [parts, List.length_replicate] at hl
    refine rep get_new (by omega) (by omega) ?_
    have fq := x1.free (.lst (List.replicate (k : Int).toNat (enc u)))
    have x2 := fq.1
    have t2 := fq.2
    refine hq _ _ _ (t1.trans t2) x2 (by rw [← x1.len]; exact get_new) ?_ (by simp)
    rw [parts, encs_rep]; exact get_new
theorem w_law_parts_none (h : Facts T tb) {t : Ty} (hp : isParts t = false) {Q : V → S → Prop} (hq : Q .none σ) : callW T tb (n + 1) "" "_law_parts" [enc t] Q σ := by
  refine callW_fn h.f__law_parts rfl ?_
  cases t <;> simp [isParts] at hp <;> exact sub_t rfl (eq_s false (sub_t rfl (eq_s false hq)))

theorem w_law_size (h : Facts T tb) : ∀ (d : Nat) (t : Ty) (N : Nat) (Q : V → S → Prop) (R : List Role) (σ : S), Ok d t → d + 2 ≤ N → d ≤ 6 → Inv c R as σ → (∀ R' σ', Nx R σ R' σ' → Inv c R' as σ' → Q (.int (size t)) σ') → callW T tb N "" "_law_size" [enc t] Q σ := by
  intro d
  induction d with
  | zero =>
    intro t N Q R σ ok hN hd x hq
    obtain ⟨n, rfl⟩ : ∃ n, N = n + 2 := ⟨N - 2, by omega⟩
    obtain ⟨z1, _, z3⟩ := ok.zero
    refine callW_fn h.f__law_size rfl ?_
    refine ⟨h.n__law_parts, ?_⟩
    refine w_law_parts_none h z1 ?_
    refine is_none ?_
    have := hq _ _ .refl x
    rw [z3] at this; exact this
  | succ d ih =>
    intro t N Q R σ ok hN hd x hq
    obtain ⟨n, rfl⟩ : ∃ n, N = n + 2 := ⟨N - 2, by omega⟩
    refine callW_fn h.f__law_size rfl ?_
    refine ⟨h.n__law_parts, ?_⟩
    cases hp : isParts t with
    | false =>
      have z3 : size t = 1 := by
        rcases ok with rfl | rfl | ⟨u, rfl, h⟩ | ⟨us, rfl, h1, h2⟩ | ⟨u, n, rfl, h1, h2⟩ <;> first | rfl | cases hp
      refine w_law_parts_none h hp ?_
      refine is_none ?_
      have := hq _ _ .refl x
      rw [z3] at this; exact this
    | true =>
      obtain ⟨hl, hok⟩ := ok.parts
      refine w_law_parts h x ok hp fun R1 σ1 i t1 x1 hr hg hi => ?_
      refine is_ref ?_
      refine ⟨(parts t).length + 1, by omega, ?_⟩
      refine comp_map x1 hr hg (fun u => .int (size u)) (fun u hu R' σ' K t' x' hK => ?_) fun R2 σ2 t2 x2 => ?_
      · refine ⟨h.n__law_size, ?_⟩
        exact ih u (n + 1) _ R' σ' (hok u hu) (by omega) (by omega) x' fun R'' σ'' t'' x'' => hK _ _ t'' x''
      · have fq := x2.free (.lst ((parts t).map fun u => .int (size u)))
        have x3 := fq.1
        have t3 := fq.2
        refine sum_l get_new (by simp; omega) (sumInts_map size _) ?_
        rw [← sizes_sum, ← size_parts hp]
        exact hq _ _ ((t1.trans t2).trans t3) x3

theorem filter_any (p : Ty → Bool) : ∀ ts : List Ty, (!((ts.filter p).map enc).isEmpty) = ts.any p
  | [] => rfl
  | t :: r => by
    simp only [List.filter_cons, List.any_cons]
    cases p t with
    | true => simp
    | false => simpa using filter_any p r
theorem hasBoxes_any : ∀ ts : List Ty, hasBoxes ts = ts.any hasBox
  | [] => rfl
  | t :: r => by simp [hasBoxes, hasBoxes_any r]

theorem w_law_has_box (h : Facts T tb) : ∀ (d : Nat) (t : Ty) (N : Nat) (Q : V → S → Prop) (R : List Role) (σ : S), Ok d t → d + 1 ≤ N → d ≤ 6 → Inv c R as σ → (∀ R' σ', Nx R σ R' σ' → Inv c R' as σ' → Q (.bool (hasBox t)) σ') → callW T tb N "" "_law_has_box" [enc t] Q σ := by
  have core : ∀ (d : Nat) (t : Ty) (n : Nat) (Q : V → S → Prop) (R : List Role) (σ : S) (inner : List Ty) (i : Nat), (∀ u ∈ inner, Ok d u) → inner.length ≤ 3 → d ≤ 6 → Inv c R as σ → R[i]? = some .free → σ[i]? = some (.lst (encs inner)) →
      (∀ u ∈ inner, ∀ (Q : V → S → Prop) (R : List Role) (σ : S), Inv c R as σ → (∀ R' σ', Nx R σ R' σ' → Inv c R' as σ' → Q (.bool (hasBox u)) σ') → callW T tb n "" "_law_has_box" [enc u] Q σ) →
      (∀ R' σ', Nx R σ R' σ' → Inv c R' as σ' → Q (.bool (hasBoxes inner)) σ') →
      ev (callW T tb n) tb (.cmp .NotEq (.comp (.var "one") "one" (.var "inner") [(.call "_law_has_box" [(.var "one")])]) (.lst [])) ([("kind", enc t), ("inner", .ref i)] : L) Q σ := by
    intro d t n Q R σ inner i hok hl hd x hr hg one hq
    refine ⟨inner.length + 1, by omega, ?_⟩
    refine loopC_all (item := fun k => (inner.map enc).getD k .none) inner.length (fun k acc σ' => acc = ((inner.take k).filter hasBox).map enc ∧ ∃ R', Nx R σ R' σ' ∧ Inv c R' as σ') (fun k acc σ' ⟨_, R', t', x'⟩ hk => ?_) (fun acc σ' ⟨_, R', t', x'⟩ => ?_) ?_ ?_ ⟨by simp, R, .refl, x⟩
    · rw [item_l (t'.keep _ _ hr hg), encs_map]; simp [List.getD, hk]
    · rw [item_l (t'.keep _ _ hr hg), encs_map]; simp
    · rintro k acc σ' K hk ⟨rfl, R', t', x'⟩ hK
      have hv : (inner.map enc).getD k .none = enc inner[k] := by simp [List.getD, hk]
      rw [hv]
      refine ⟨h.n__law_has_box, ?_⟩
      refine one _ (List.getElem_mem hk) _ R' σ' x' fun R'' σ'' t'' x'' => ?_
      have tk : inner.take (k + 1) = inner.take k ++ [inner[k]] := by rw [List.take_add_one, List.getElem?_eq_getElem hk]; rfl
      cases hb : hasBox inner[k] with
      | true =>
        refine hK _ _ ⟨?_, R'', t'.trans t'', x''⟩
        rw [tk, List.filter_append, List.map_append]; simp [hb]
      | false =>
        refine hK _ _ ⟨?_, R'', t'.trans t'', x''⟩
        rw [tk, List.filter_append, List.map_append]; simp [hb]
    · rintro acc σ' ⟨rfl, R', t', x'⟩
      rw [List.take_length]
      have fq := x'.free (.lst ((inner.filter hasBox).map enc))
      have x2 := fq.1
      have t2 := fq.2
      refine ⟨by simp, ?_⟩
      have fq := x2.free (.lst [])
      have x3 := fq.1
      have t3 := fq.2
      have pl : PlA (2 * d + 1) ((inner.filter hasBox).map enc) := .of fun v hv => by
        obtain ⟨u, hu, rfl⟩ := List.mem_map.mp hv
        exact Pl.enc (hok u (List.mem_filter.mp hu).1)
      refine ne_nil (get_app get_new) get_new pl (by omega) ?_
      rw [filter_any, ← hasBoxes_any]
      exact hq _ _ ((t'.trans t2).trans t3) x3
  intro d
  induction d with
  | zero =>
    intro t N Q R σ ok hN hd x hq
    obtain ⟨n, rfl⟩ : ∃ n, N = n + 1 := ⟨N - 1, by omega⟩
    refine callW_fn h.f__law_has_box rfl ?_
    rcases ok with rfl | rfl
    · refine sub_t rfl (eq_s false (sub_t rfl (eq_s false (sub_t rfl (eq_s false ⟨by simp, ?_⟩)))))
      have fq := x.free (.lst [])
      have x1 := fq.1
      have t1 := fq.2
      exact core 0 .int n _ _ _ [] σ.length (by simp) (by simp) (by omega) x1 (by rw [← x.len]; exact get_new) get_new (by simp) fun R' σ' t' x' => hq _ _ (t1.trans t') x'
    · refine sub_t rfl (eq_s false (sub_t rfl (eq_s false (sub_t rfl (eq_s false ⟨by simp, ?_⟩)))))
      have fq := x.free (.lst [])
      have x1 := fq.1
      have t1 := fq.2
      exact core 0 .bool n _ _ _ [] σ.length (by simp) (by simp) (by omega) x1 (by rw [← x.len]; exact get_new) get_new (by simp) fun R' σ' t' x' => hq _ _ (t1.trans t') x'
  | succ d ih =>
    intro t N Q R σ ok hN hd x hq
    obtain ⟨n, rfl⟩ : ∃ n, N = n + 1 := ⟨N - 1, by omega⟩
    refine callW_fn h.f__law_has_box rfl ?_
    rcases ok with rfl | rfl | ⟨u, rfl, h0⟩ | ⟨us, rfl, h1, h2⟩ | ⟨u, k, rfl, h1, h2⟩
    · refine sub_t rfl (eq_s false (sub_t rfl (eq_s false (sub_t rfl (eq_s false ⟨by simp, ?_⟩)))))
      have fq := x.free (.lst [])
      have x1 := fq.1
      have t1 := fq.2
      exact core 0 .int n _ _ _ [] σ.length (by simp) (by simp) (by omega) x1 (by rw [← x.len]; exact get_new) get_new (by simp) fun R' σ' t' x' => hq _ _ (t1.trans t') x'
    · refine sub_t rfl (eq_s false (sub_t rfl (eq_s false (sub_t rfl (eq_s false ⟨by simp, ?_⟩)))))
      have fq := x.free (.lst [])
      have x1 := fq.1
      have t1 := fq.2
      exact core 0 .bool n _ _ _ [] σ.length (by simp) (by simp) (by omega) x1 (by rw [← x.len]; exact get_new) get_new (by simp) fun R' σ' t' x' => hq _ _ (t1.trans t') x'
    · refine sub_t rfl (eq_s true ?_)
      exact hq _ _ .refl x
    · refine sub_t rfl (eq_s false (sub_t rfl (eq_s true (sub_t rfl ?_))))
      have fq := x.free (.lst (encs us))
      have x1 := fq.1
      have t1 := fq.2
      refine list_t (by rw [encs_map]; simp; omega) ?_
      exact core d (.tup us) n _ _ _ us σ.length h2 h1 (by omega) x1 (by rw [← x.len]; exact get_new) get_new (fun u hu Q R σ x hq => ih u n Q R σ (h2 u hu) (by omega) (by omega) x hq) fun R' σ' t' x' => hq _ _ (t1.trans t') x'
    · refine sub_t rfl (eq_s false (sub_t rfl (eq_s false (sub_t rfl (eq_s true (sub_t rfl ⟨by simp, ?_⟩))))))
      have fq := x.free (.lst [enc u])
      have x1 := fq.1
      have t1 := fq.2
      refine core d (.arr u k) n _ _ _ [u] σ.length (by simpa using h2) (by simp) (by omega) x1 (by rw [← x.len]; exact get_new) get_new (fun v hv Q R σ x hq => ?_) fun R' σ' t' x' => ?_
      · rw [List.mem_singleton.mp hv] at hq ⊢
        exact ih u n Q R σ h2 (by omega) (by omega) x hq
      · have := hq _ _ (t1.trans t') x'
        dsimp only [hasBox] at this
        simpa [hasBoxes] using this

theorem w_law_jobs (h : Facts T tb) : ∀ (d : Nat) (t : Ty) (N : Nat) (Q : V → S → Prop) (R : List Role) (σ : S), Ok d t → d + 3 ≤ N → d ≤ 6 → Inv c R as σ → (∀ R' σ', Nx R σ R' σ' → Inv c R' as σ' → Q (.int (jobs t)) σ') → callW T tb N "" "_law_jobs" [enc t] Q σ := by
  intro d
  induction d with
  | zero =>
    intro t N Q R σ ok hN hd x hq
    obtain ⟨n, rfl⟩ : ∃ n, N = n + 1 := ⟨N - 1, by omega⟩
    refine callW_fn h.f__law_jobs rfl ?_
    refine ⟨h.n__law_has_box, ?_⟩
    refine w_law_has_box h 0 t n _ R σ ok (by omega) (by omega) x fun R1 σ1 t1 x1 => ?_
    have := hq _ _ t1 x1
    rw [ok.zero.2.1]
    rw [jobs_no t ok.zero.2.1] at this
    exact this
  | succ d ih =>
    intro t N Q R σ ok hN hd x hq
    obtain ⟨n, rfl⟩ : ∃ n, N = n + 1 := ⟨N - 1, by omega⟩
    refine callW_fn h.f__law_jobs rfl ?_
    refine ⟨h.n__law_has_box, ?_⟩
    refine w_law_has_box h (d + 1) t n _ R σ ok (by omega) (by omega) x fun R1 σ1 t1 x1 => ?_
    cases hb : hasBox t with
    | false =>
      have := hq _ _ t1 x1
      rw [jobs_no t hb] at this
      exact this
    | true =>
      have fin : isParts t = true → jobs t = 2 + jobss (parts t) := fun hp => by
        cases t <;> simp [isParts] at hp
        · dsimp only [hasBox] at hb; simp [jobs, hb, parts]
        · dsimp only [hasBox] at hb; simp [jobs, hb, parts, jobss_rep]
      have go : ∀ (hp : isParts t = true), exs (callW T tb n) tb [.ret (.bin .Add (.lit (.int 2)) (.blt .sum [(.comp (.call "_law_jobs" [(.var "one")]) "one" (.call "_law_parts" [(.var "kind")]) [])]))] ([("kind", enc t)] : L) (fun fl _ σ' => match fl with | .ret v => Q v σ' | .next => Q .none σ') σ1 := by
        intro hp
        obtain ⟨hl, hok⟩ := ok.parts
        refine ⟨h.n__law_parts, ?_⟩
        obtain ⟨n', rfl⟩ : ∃ n', n = n' + 1 := ⟨n - 1, by omega⟩
        refine w_law_parts h x1 ok hp fun R2 σ2 i t2 x2 hr hg hi => ?_
        refine ⟨(parts t).length + 1, by omega, ?_⟩
        refine comp_map x2 hr hg (fun u => .int (jobs u)) (fun u hu R' σ' K t' x' hK => ?_) fun R3 σ3 t3 x3 => ?_
        · refine ⟨h.n__law_jobs, ?_⟩
          exact ih u _ _ R' σ' (hok u hu) (by omega) (by omega) x' fun R'' σ'' t'' x'' => hK _ _ t'' x''
        · have fq := x3.free (.lst ((parts t).map fun u => .int (jobs u)))
          have x4 := fq.1
          have t4 := fq.2
          refine sum_l get_new (by simp; omega) (sumInts_map jobs _) ?_
          refine add_i ?_
          have e : ∀ ts : List Ty, (ts.map jobs).sum = jobss ts := fun ts => by
            induction ts with
            | nil => rfl
            | cons t r ih => simp [jobss, ih]
          have := hq _ _ (((t1.trans t2).trans t3).trans t4) x4
          rw [fin hp] at this
          rw [e]
          simpa using this
      rcases ok with rfl | rfl | ⟨u, rfl, h0⟩ | ⟨us, rfl, h1, h2⟩ | ⟨u, k, rfl, h1, h2⟩
      · cases hb
      · cases hb
      · refine sub_t rfl (eq_s true ?_)
        refine ⟨h.n__law_jobs, ?_⟩
        refine sub_t rfl ?_
        refine ih u _ _ R1 σ1 h0 (by omega) (by omega) x1 fun R2 σ2 t2 x2 => ?_
        refine add_i ?_
        have := hq _ _ (t1.trans t2) x2
        simpa [jobs] using this
      · exact sub_t rfl (eq_s false (go rfl))
      · exact sub_t rfl (eq_s false (go rfl))
end
end Mine

end
section
open PySem PySem.W
set_option Elab.async false
set_option maxRecDepth 100000
namespace Mine

inductive Va where
  | int (i : Int)
  | bool (b : Bool)
  | box (k : Nat) (v : Va)
  | agg (vs : List Va)
mutual
noncomputable def cel : Va → List V
  | .int i => [.int i]
  | .bool b => [.bool b]
  | .box k _ => [ptr k 0]
  | .agg vs => cels vs
noncomputable def cels : List Va → List V
  | [] => []
  | v :: r => cel v ++ cels r
end
mutual
noncomputable def told : Va → V
  | .int i => .int i
  | .bool b => .bool b
  | .box _ v => .tup [.str "box", told v]
  | .agg vs => .tup (tolds vs)
noncomputable def tolds : List Va → List V
  | [] => []
  | v :: r => told v :: tolds r
end
mutual
noncomputable def order : Va → List Nat
  | .int _ => []
  | .bool _ => []
  | .box k v => order v ++ [k]
  | .agg vs => orders vs
noncomputable def orders : List Va → List Nat
  | [] => []
  | v :: r => order v ++ orders r
end
mutual
noncomputable def InMem (as : AS) : Va → Prop
  | .int _ => True
  | .bool _ => True
  | .box k v => as[k]? = some (cel v, true) ∧ InMem as v
  | .agg vs => InMems as vs
noncomputable def InMems (as : AS) : List Va → Prop
  | [] => True
  | v :: r => InMem as v ∧ InMems as r
end
inductive Typs (P : Ty → Va → Prop) : List Ty → List Va → Prop
  | nil : Typs P [] []
  | cons {t v ts vs} : P t v → Typs P ts vs → Typs P (t :: ts) (v :: vs)
noncomputable def Typ : Nat → Ty → Va → Prop
  | 0, t, v => (t = .int ∧ ∃ i, v = .int i) ∨ (t = .bool ∧ ∃ b, v = .bool b)
  | d + 1, t, v => (t = .int ∧ ∃ i, v = .int i) ∨ (t = .bool ∧ ∃ b, v = .bool b) ∨ (∃ u k v', t = .box u ∧ v = .box k v' ∧ Typ d u v') ∨ (isParts t = true ∧ ∃ vs, v = .agg vs ∧ Typs (Typ d) (parts t) vs)

theorem Typs.length {P : Ty → Va → Prop} : ∀ {ts : List Ty} {vs : List Va}, Typs P ts vs → vs.length = ts.length
  | _, _, .nil => rfl
  | _, _, .cons _ r => by simp [r.length]
theorem Typs.get {P : Ty → Va → Prop} : ∀ {ts : List Ty} {vs : List Va} {k : Nat} {t : Ty}, Typs P ts vs → ts[k]? = some t → ∃ v, vs[k]? = some v ∧ P t v
  | _, _, _, _, .nil, e => by simp at e
  | _, _, 0, _, .cons h r, e => by simp at e; subst e; exact ⟨_, rfl, h⟩
  | _, _, k + 1, _, .cons h r, e => by simpa using r.get (by simpa using e)
theorem Typs.lens {P : Ty → Va → Prop} (hp : ∀ t v, P t v → (cel v).length = size t) : ∀ {ts : List Ty} {vs : List Va}, Typs P ts vs → (cels vs).length = sizes ts
  | _, _, .nil => rfl
  | _, _, .cons h r => by simp [cels, sizes, hp _ _ h, r.lens hp]
theorem Typ.len : ∀ {d : Nat} {t : Ty} {v : Va}, Typ d t v → (cel v).length = size t
  | 0, t, v, h => by rcases h with ⟨rfl, i, rfl⟩ | ⟨rfl, i, rfl⟩ <;> rfl
  | d + 1, t, v, h => by
    rcases h with ⟨rfl, i, rfl⟩ | ⟨rfl, i, rfl⟩ | ⟨u, k, v', rfl, rfl, h⟩ | ⟨hp, vs, rfl, h⟩
    · rfl
    · rfl
    · rfl
    · rw [size_parts hp]; exact h.lens fun t v h => h.len
theorem InMems.get {as : AS} : ∀ {vs : List Va} {k : Nat} {v : Va}, InMems as vs → vs[k]? = some v → InMem as v
  | [], k, v, _, e => by simp at e
  | u :: r, 0, v, h, e => by simp at e; subst e; exact h.1
  | u :: r, k + 1, v, h, e => InMems.get h.2 (by simpa using e)
theorem tolds_map : ∀ vs, tolds vs = vs.map told
  | [] => rfl
  | t :: r => by rw [tolds, tolds_map r]; rfl
/-- the cells of one part -/
theorem cels_part {P : Ty → Va → Prop} (hp : ∀ t v, P t v → (cel v).length = size t) : ∀ {ts : List Ty} {vs : List Va} {k : Nat} {t : Ty} {v : Va}, Typs P ts vs → ts[k]? = some t → vs[k]? = some v →
    ((cels vs).drop (sizes (ts.take k))).take (size t) = cel v ∧ sizes (ts.take k) + size t ≤ (cels vs).length
  | _, _, _, _, _, .nil, e, _ => by simp at e
  | _, _, 0, _, _, .cons (vs := vs) h r, e, e' => by
    simp at e e'; subst e e'
    have := hp _ _ h
    simp only [List.take_zero, sizes, List.drop_zero, cels]
    refine ⟨?_, by simp; omega⟩
    rw [← this, List.take_append_of_le_length (Nat.le_refl _), List.take_length]
  | _, _, k + 1, _, _, .cons (t := t0) (v := v0) (ts := ts) (vs := vs) h r, e, e' => by
    have ih := cels_part hp r (by simpa using e) (by simpa using e')
    have := hp _ _ h
    simp only [List.take_succ_cons, sizes, cels]
    rw [List.drop_append, List.drop_eq_nil_of_le (by omega), List.nil_append, this, Nat.add_sub_cancel_left]
    exact ⟨ih.1, by simp; omega⟩

section
variable {c m : Nat} {R R' R₁ R₂ : List Role} {as as' : AS} {σ σ' σ₁ σ₂ : S} {T : Str → Str → Option Ent} {tb : Tb} {n : Nat}


theorem w_is_enum (h : Facts T tb) {t : Ty} {w : V} {Q : V → S → Prop} (hq : Q (.bool false) σ) : callW T tb (n + 1) "" "is_enum" [enc t, w] Q σ := by
  refine callW_fn h.f_is_enum rfl ?_
  cases t <;> exact sub_t rfl (eq_s false hq)
theorem w_is_of_parts (h : Facts T tb) {t : Ty} {Q : V → S → Prop} (hq : Q (.bool (isParts t)) σ) : callW T tb (n + 1) "" "is_of_parts" [enc t] Q σ := by
  refine callW_fn h.f_is_of_parts rfl ?_
  cases t with
  | int => exact sub_t rfl ⟨by simp, in_s false hq⟩
  | bool => exact sub_t rfl ⟨by simp, in_s false hq⟩
  | box u => exact sub_t rfl ⟨by simp, in_s false hq⟩
  | tup us => exact sub_t rfl ⟨by simp, in_s true hq⟩
  | arr u k => exact sub_t rfl ⟨by simp, in_s true hq⟩

theorem w_parts_told (h : Facts T tb) {d : Nat} {t : Ty} {a w : V} (x : Inv c R as σ) (ok : Ok (d + 1) t) (hp : isParts t = true) {Q : V → S → Prop}
    (hq : ∀ R' σ' i, Nx R σ R' σ' → Inv c R' as σ' → R'[i]? = some .free → σ'[i]? = some (.lst (encs (parts t))) → σ.length ≤ i → Q (.ref i) σ') : callW T tb (n + 1) "" "parts_told" [enc t, a, w] Q σ := by
  have hl := ok.parts.1
  refine callW_fn h.f_parts_told rfl ?_
  cases t <;> simp [isParts] at hp
  · rename_i us
    refine sub_t rfl ?_
    refine eq_s true ?_
    refine sub_t rfl ?_
    have fq := x.free (.lst (encs us))
    have x1 := fq.1
    have t1 := fq.2
    refine list_t (by dsimp only [parts] at hl; rw [encs_map]; simp; omega) ?_
    exact hq _ _ _ t1 x1 (by rw [← x.len]; exact get_new) get_new (Nat.le_refl _)
  · rename_i u k
    refine sub_t rfl ?_
    refine eq_s false ?_
    refine sub_t rfl ?_
    refine eq_s true ?_
    refine sub_t rfl ?_
    refine ⟨by simp, ?_⟩
    have fq := x.free (.lst [enc u])
    have x1 := fq.1
    have t1 := fq.2
    refine sub_t rfl ?_
    simp only [parts, List.length_replicate] at hl
    refine rep get_new (by omega) (by omega) ?_
    have fq := x1.free (.lst (List.replicate (k : Int).toNat (enc u)))
    have x2 := fq.1
    have t2 := fq.2
    refine hq _ _ _ (t1.trans t2) x2 (by rw [← x1.len]; exact get_new) ?_ (by simp)
    rw [parts, encs_rep]; exact get_new

theorem w_offset_of_item (h : Facts T tb) {d : Nat} {u : Ty} {k : Nat} {j : Nat} {w : V} {N : Nat} (ok : Ok d u) (hd : d ≤ 8) (hN : 2 * d + 3 ≤ N) (hj : j ≤ 1000) {Q : V → S → Prop} (hq : Q (.int ((j * size u : Nat) : Int)) σ) : callW T tb N "" "offset_of_item" [enc (.arr u k), .int j, w] Q σ := by
  obtain ⟨n, rfl⟩ : ∃ n, N = n + 1 := ⟨N - 1, by omega⟩
  refine callW_fn h.f_offset_of_item rfl ?_
  refine ⟨h.n_size_of, ?_⟩
  refine sub_t rfl ?_
  refine w_size_of h ok (by omega) (by omega) ?_
  refine mul_i (.inl (by unfold big; simp; omega)) ?_
  rw [show ((j : Int) * (size u : Int)) = ((j * size u : Nat) : Int) by push_cast; rfl]
  exact hq

theorem w_offset_of_part (h : Facts T tb) {d : Nat} {t : Ty} {j : Nat} {a w : V} {N : Nat} (x : Inv c R as σ) (ok : Ok (d + 1) t) (hp : isParts t = true) (hd : d ≤ 7) (hN : 2 * d + 8 ≤ N) (hj : j < (parts t).length) {Q : V → S → Prop}
    (hq : ∀ R' σ', Nx R σ R' σ' → Inv c R' as σ' → Q (.int ((sizes ((parts t).take j) : Nat) : Int)) σ') : callW T tb N "" "offset_of_part" [enc t, a, .int j, w] Q σ := by
  obtain ⟨n, rfl⟩ : ∃ n, N = n + 3 := ⟨N - 3, by omega⟩
  obtain ⟨hl, hok⟩ := ok.parts
  refine callW_fn h.f_offset_of_part rfl ?_
  cases t <;> simp [isParts] at hp
  · rename_i us
    refine sub_t rfl ?_
    refine eq_s false ?_
    refine ⟨h.n_offset_of_field, ?_⟩
    refine callW_fn h.f_offset_of_field rfl ?_
    refine ⟨h.n_part_types, ?_⟩
    refine callW_fn h.f_part_types rfl ?_
    refine sub_t rfl ?_
    refine eq_s true ?_
    refine sub_t rfl ?_
    dsimp only [parts] at hl hj hok
    have fq := x.free (.lst (encs us))
    have x1 := fq.1
    have t1 := fq.2
    refine list_t (by rw [encs_map]; simp; omega) ?_
    refine ⟨h.n_first_place, ?_⟩
    refine callW_fn h.f_first_place rfl ?_
    refine sub_t rfl ?_
    refine eq_s false ?_
    refine ⟨h.n_sum_of, ?_⟩
    refine slice_nb get_new (by omega) (by rw [encs_map]; simp; omega) (by rw [encs_map]; simp; omega) ?_
    have fq := x1.free (.lst ((encs us).take (j : Int).toNat))
    have x2 := fq.1
    have t2 := fq.2
    refine w_sum_of (ts := us.take j) h (fun k => ?_) (fun u hu Q hq => w_size_within h d u 0 _ Q (hok u (List.mem_of_mem_take hu)) (by omega) (by omega) hq) ?_
    · rw [item_l get_new, encs_map]; simp [List.map_take]
    · refine add_i ?_
      rw [show ((0 : Int) + ((sizes (us.take j) : Nat) : Int)) = ((sizes (us.take j) : Nat) : Int) by omega]
      exact hq _ _ (t1.trans t2) x2
  · rename_i u k
    refine sub_t rfl ?_
    refine eq_s true ?_
    refine ⟨h.n_offset_of_item, ?_⟩
    simp only [parts, List.length_replicate] at hl hj hok
    refine w_offset_of_item h (hok u (by simp; omega)) (by omega) (by omega) (by omega) ?_
    have := hq _ _ .refl x
    rw [parts, List.take_replicate, Nat.min_eq_left (by omega), sizes_rep] at this
    exact this

theorem w_parts_of_cells (h : Facts T tb) {d : Nat} {t : Ty} {ic : Nat} {cs : List V} {w : V} {N : Nat} (x : Inv c R as σ) (ok : Ok (d + 1) t) (hp : isParts t = true) (hd : d ≤ 7) (hN : 2 * d + 8 ≤ N) (hr : R[ic]? = some .free) (hg : σ[ic]? = some (.lst cs)) (hc : cs.length = size t) {Q : V → S → Prop}
    (hq : ∀ R' σ' jf (js : List Nat), Nx R σ R' σ' → Inv c R' as σ' → R'[jf]? = some .free → σ'[jf]? = some (.lst (js.map .ref)) → js.length = (parts t).length →
      (∀ (k j : Nat) u, (parts t)[k]? = some u → js[k]? = some j → R'[j]? = some .free ∧ σ'[j]? = some (.lst ((cs.drop (sizes ((parts t).take k))).take (size u)))) → Q (.tup [.none, .ref jf]) σ') : callW T tb N "" "parts_of_cells" [enc t, .ref ic, w] Q σ := by
  obtain ⟨n, rfl⟩ : ∃ n, N = n + 2 := ⟨N - 2, by omega⟩
  obtain ⟨hl, hok⟩ := ok.parts
  have hz := size_le ok
  have hz2 : 3 ^ (d + 1) ≤ 3 ^ 8 := Nat.pow_le_pow_right (by decide) (by omega)
  rw [size_parts hp] at hc
  refine callW_fn h.f_parts_of_cells rfl ?_
  refine ⟨by simp, rfl, ?_⟩
  refine ⟨h.n_is_enum, ?_⟩
  refine w_is_enum h ?_
  refine ⟨by simp, ?_⟩
  have fq := x.free (.lst [])
  have x1 := fq.1
  have t1 := fq.2
  refine ⟨h.n_parts_told, ?_⟩
  refine w_parts_told h x1 ok hp fun R2 σ2 ip t2 x2 hr2 hg2 hi2 => ?_
  refine ⟨(parts t).length + 1, ?_⟩
  have rf : R2[σ.length]? = some .free := t2.get (by rw [← x.len]; exact get_new)
  have gf : σ2[σ.length]? = some (.lst []) := t2.keep _ _ (by rw [← x.len]; exact get_new) get_new
  have hne : ip ≠ σ.length := by simp at hi2; omega
  have t12 := t1.trans t2
  refine loopF_all (item := fun k => ((parts t).map enc).getD k .none) (parts t).length (fun k ℓ σ' => (ℓ = ([("t", enc t), ("cells", .ref ic), ("world", w), ("variant", .none), ("at", .int (sizes ((parts t).take k))), ("found", .ref σ.length)] : L) ∨
      ∃ u v, ℓ = ([("t", enc t), ("cells", .ref ic), ("world", w), ("variant", .none), ("at", .int (sizes ((parts t).take k))), ("found", .ref σ.length), ("each", u), ("many", v)] : L)) ∧
      ∃ R' js, Nx R σ R' σ' ∧ Inv c R' as σ' ∧ R'[σ.length]? = some .free ∧ σ'[σ.length]? = some (.lst (List.map V.ref js)) ∧ js.length = k ∧ R'[ip]? = some .free ∧ σ'[ip]? = some (.lst (encs (parts t))) ∧
      (∀ j ∈ js, j ≠ σ.length) ∧
      (∀ (k j : Nat) u, (parts t)[k]? = some u → js[k]? = some j → R'[j]? = some .free ∧ σ'[j]? = some (.lst ((cs.drop (sizes ((parts t).take k))).take (size u)))))
    (fun k ℓ σ' hP hk => ?_) (fun ℓ σ' hP => ?_) ?_ ?_ ⟨.inl rfl, R2, [], t12, x2, rf, gf, rfl, hr2, hg2, by simp, by simp⟩
  · obtain ⟨_, R', js, _, _, _, _, _, _, g, _⟩ := hP
    rw [item_l g, encs_map]; simp [List.getD, hk]
  · obtain ⟨_, R', js, _, _, _, _, _, _, g, _⟩ := hP
    rw [item_l g, encs_map]; simp
  · rintro k ℓ σ' K hk ⟨hℓ, R', js, t', x', r1, g1, l1, r2, g2, hj0, hj⟩ hK
    have hv : ((parts t).map enc).getD k .none = enc (parts t)[k] := by simp [List.getD, hk]
    have hu : (parts t)[k]? = some (parts t)[k] := List.getElem?_eq_getElem hk
    rw [hv]
    have hsz := sizes_take (parts t) k _ hu
    have hmono : sizes ((parts t).take (k + 1)) ≤ sizes (parts t) := by
      have : ∀ (ts : List Ty) (k : Nat), sizes (ts.take k) ≤ sizes ts := fun ts => by
        induction ts with
        | nil => intro k; simp [sizes]
        | cons u r ih => intro k; cases k with
          | zero => simp [sizes]
          | succ k => simp only [List.take_succ_cons, sizes]; have := ih k; omega
      exact this _ _
    have body : exs (callW T tb (n + 1)) tb [.assign "many" (.call "size_of" [(.var "each"), (.var "world")]),
        .expr (.lmeth .append (.var "found") [(.slice (.var "cells") (.var "at") (.bin .Add (.var "at") (.var "many")))]), .aug .Add "at" (.var "many")]
        ([("t", enc t), ("cells", .ref ic), ("world", w), ("variant", .none), ("at", .int (sizes ((parts t).take k))), ("found", .ref σ.length), ("each", enc (parts t)[k])] : L) K σ' ∧ ∀ v, exs (callW T tb (n + 1)) tb [.assign "many" (.call "size_of" [(.var "each"), (.var "world")]),
        .expr (.lmeth .append (.var "found") [(.slice (.var "cells") (.var "at") (.bin .Add (.var "at") (.var "many")))]), .aug .Add "at" (.var "many")]
        ([("t", enc t), ("cells", .ref ic), ("world", w), ("variant", .none), ("at", .int (sizes ((parts t).take k))), ("found", .ref σ.length), ("each", enc (parts t)[k]), ("many", v)] : L) K σ' := by
      have rest : exs (callW T tb (n + 1)) tb [.expr (.lmeth .append (.var "found") [(.slice (.var "cells") (.var "at") (.bin .Add (.var "at") (.var "many")))]), .aug .Add "at" (.var "many")]
          ([("t", enc t), ("cells", .ref ic), ("world", w), ("variant", .none), ("at", .int (sizes ((parts t).take k))), ("found", .ref σ.length), ("each", enc (parts t)[k]), ("many", .int (size (parts t)[k]))] : L) K σ' := by
        show ev (callW T tb (n + 1)) tb (.lmeth .append (.var "found") [(.slice (.var "cells") (.var "at") (.bin .Add (.var "at") (.var "many")))]) ([("t", enc t), ("cells", .ref ic), ("world", w), ("variant", .none), ("at", .int (sizes ((parts t).take k))), ("found", .ref σ.length), ("each", enc (parts t)[k]), ("many", .int (size (parts t)[k]))] : L) _ _
        refine lmeth_var rfl g1 ?_
        refine add_i ?_
        have e : ((sizes ((parts t).take k) : Nat) : Int) + ((size (parts t)[k] : Nat) : Int) = ((sizes ((parts t).take (k + 1)) : Nat) : Int) := by rw [hsz]; push_cast; rfl
        rw [e]
        refine slice_ab (t'.keep _ _ hr hg) (by omega) (by omega) (by omega) (by rw [hc, ← size_parts hp]; omega) ?_
        have fq := x'.free (.lst ((cs.take ((sizes ((parts t).take (k + 1)) : Nat) : Int).toNat).drop ((sizes ((parts t).take k) : Nat) : Int).toNat))
        have x3 := fq.1
        have t3 := fq.2
        refine append_l (get_app g1) (by simp; omega) ?_
        have r1' := t3.get r1
        have x4 := x3.set (o := .lst (js.map .ref ++ [.ref σ'.length])) r1' trivial
        have hlt : σ.length < σ'.length := (List.getElem?_eq_some_iff.mp g1).1
        have e2 : ((sizes ((parts t).take k) : Nat) : Int) + ((size (parts t)[k] : Nat) : Int) = ((sizes ((parts t).take (k + 1)) : Nat) : Int) := e
        refine ⟨rfl, ?_⟩
        show K _ _ _
        rw [e2]
        refine hK _ _ ⟨.inr ⟨_, _, rfl⟩, _, js ++ [σ'.length], (t'.trans t3).setNew x.len (Nat.le_refl _), x4, r1', ?_, by simp [l1], t3.get r2, ?_, ?_, ?_⟩
        · rw [List.getElem?_set_self (by simp; omega)]; simp
        · rw [List.getElem?_set_ne (Ne.symm hne)]; exact get_app g2
        · intro j hj'
          rcases List.mem_append.mp hj' with hj' | hj'
          · exact hj0 j hj'
          · rw [List.mem_singleton.mp hj']; omega
        · intro k' j u hu' hj'
          rcases app_split hj' with hj' | ⟨rfl, rfl⟩
          · obtain ⟨q1, q2⟩ := hj k' j u hu' hj'
            refine ⟨t3.get q1, ?_⟩
            rw [List.getElem?_set_ne (Ne.symm (hj0 j (List.mem_of_getElem? hj')))]
            exact get_app q2
          · rw [l1] at hu' ⊢
            rw [hu] at hu'; cases hu'
            refine ⟨by rw [← x'.len]; exact get_new, ?_⟩
            rw [List.getElem?_set_ne (by omega), get_new]
            rw [hsz, Int.toNat_natCast, Int.toNat_natCast, List.drop_take, Nat.add_sub_cancel_left]
      exact ⟨⟨h.n_size_of, w_size_of h (hok _ (List.getElem_mem hk)) (by omega) (by omega) rest⟩, fun v => ⟨h.n_size_of, w_size_of h (hok _ (List.getElem_mem hk)) (by omega) (by omega) rest⟩⟩
    rcases hℓ with rfl | ⟨u, v, rfl⟩
    · exact body.1
    · exact body.2 v
  · rintro ℓ σ' ⟨hℓ, R', js, t', x', r1, g1, l1, r2, g2, hj0, hj⟩
    have fin := hq R' σ' σ.length js t' x' r1 g1 l1 hj
    rcases hℓ with rfl | ⟨u, v, rfl⟩
    · exact ⟨by simp, fin⟩
    · exact ⟨by simp, fin⟩
end
end Mine

end
section
open PySem PySem.W
set_option Elab.async false
set_option maxRecDepth 100000
namespace Mine

section
variable {c m : Nat} {R R' R₁ R₂ : List Role} {as as' : AS} {σ σ' σ₁ σ₂ : S} {T : Str → Str → Option Ent} {tb : Tb} {n : Nat}

theorem fdiv_i {x y : Int} {Q : V → S → Prop} (h0 : y ≠ 0) (h1 : y.natAbs < 1073741824) (hq : Q (.int (x.fdiv y)) σ) : binW .FloorDiv (.int x) (.int y) Q σ := by delta binW; exact ⟨h0, h1, hq⟩
theorem fmod_i {x y : Int} {Q : V → S → Prop} (h0 : y ≠ 0) (hq : Q (.int (x.fmod y)) σ) : binW .Mod (.int x) (.int y) Q σ := by delta binW; exact ⟨h0, hq⟩
theorem int_i {x : Int} {Q : V → S → Prop} (hq : Q (.int x) σ) : bltW .int [.int x] Q σ := by delta bltW; exact hq
theorem int_b {x : Bool} {Q : V → S → Prop} (hq : Q (.int (if x then 1 else 0)) σ) : bltW .int [.bool x] Q σ := by delta bltW; exact hq
theorem max_i {x y : Int} {Q : V → S → Prop} (hq : Q (.int (if y > x then y else x)) σ) : bltW .max [.int x, .int y] Q σ := by delta bltW; exact hq
theorem ge_i {x y : Int} {Q : Bool → Prop} (hq : Q (decide (y ≤ x))) : cmpW .GtE (.int x) (.int y) Q σ := by delta cmpW; exact hq
theorem pow_i {Q : V → S → Prop} (hq : Q (.int 1000000000000000000) σ) : binW .Pow (.int 10) (.int 18) Q σ := by delta binW; exact ⟨rfl, rfl, hq⟩


theorem fmod_bound {x y : Int} (hy : 0 < y) : 0 ≤ x.fmod y ∧ x.fmod y < y := ⟨Int.fmod_nonneg_of_pos x hy, Int.fmod_lt_of_pos x hy⟩

theorem w_take (h : Facts T tb) {is : Nat} {top : Int} (x : Inv c R as σ) (hs : R[is]? = some .src) (h1 : 1 ≤ top) (h2 : top ≤ 1000) {Q : V → S → Prop}
    (hq : ∀ σ' (r : Nat), Nx R σ R σ' → Inv c R as σ' → (r : Int) < top → Q (.int r) σ') : callW T tb (n + 1) "" "_law_take" [.ref is, .int top] Q σ := by
  obtain ⟨o, g, a, b, rfl⟩ := x.getRole hs
  have hlt : is < σ.length := (List.getElem?_eq_some_iff.mp g).1
  refine callW_fn h.f__law_take rfl ?_
  refine sub_l g (by decide) (by decide) rfl ?_
  by_cases ha : (0 : Int) < a
  · refine gt_t ha ?_
    refine sub_l g (by decide) (by decide) rfl ?_
    refine int_i ?_
    refine fmod_i (by omega) ?_
    refine sub_l g (by decide) (by decide) rfl ?_
    refine fdiv_i (by omega) (by omega) ?_
    refine setitem_l g (by decide) (by simp) (by simp) ?_
    obtain ⟨b1, b2⟩ := fmod_bound (x := a) (y := top) (by omega)
    have := hq (σ.set is (.lst [.int (a.fdiv top), .int b])) (a.fmod top).toNat (Nx.refl.setRole hs (by simp)) (x.set hs ⟨_, _, rfl⟩) (by omega)
    rw [Int.toNat_of_nonneg b1] at this
    exact this
  · refine gt_f ha ?_
    refine sub_l g (by decide) (by decide) rfl ?_
    refine mul_i (.inr (by decide)) ?_
    refine add_i ?_
    refine int_i ?_
    refine fmod_i (by decide) ?_
    obtain ⟨b1, b2⟩ := fmod_bound (x := b * 39373 + 7) (y := 2147483647) (by decide)
    refine setitem_l g (by decide) (by simp) (by simp) ?_
    have g2 : (σ.set is (.lst ([V.int a, V.int b].set (1 : Int).toNat (.int ((b * 39373 + 7).fmod 2147483647)))))[is]? = some (.lst [.int a, .int ((b * 39373 + 7).fmod 2147483647)]) := List.getElem?_set_self hlt
    refine sub_l g2 (by decide) (by decide) rfl ?_
    refine sub_l g2 (by decide) (by decide) rfl ?_
    refine mul_i (.inl (by unfold big; omega)) ?_
    refine int_i ?_
    refine fmod_i (by decide) ?_
    refine fdiv_i (by decide) (by decide) ?_
    refine int_i ?_
    refine fmod_i (by omega) ?_
    obtain ⟨c1, c2⟩ := fmod_bound (x := (((b * 39373 + 7).fmod 2147483647 * (b * 39373 + 7).fmod 2147483647).fmod 2147483629).fdiv 32) (y := top) (by omega)
    have := hq (σ.set is (.lst ([V.int a, V.int b].set (1 : Int).toNat (.int ((b * 39373 + 7).fmod 2147483647))))) (((((b * 39373 + 7).fmod 2147483647 * (b * 39373 + 7).fmod 2147483647).fmod 2147483629).fdiv 32).fmod top).toNat
      (Nx.refl.setRole hs (by simp)) (x.set hs ⟨_, _, rfl⟩) (by omega)
    rw [Int.toNat_of_nonneg c1] at this
    exact this

theorem w_pool (h : Facts T tb) {xs : List Int} (hz : xs.length ≤ 63) {Q : V → S → Prop} (hg : σ[0]? = some (.frz (xs.map .int))) (hq : ∀ a b : Int, Q (.ref (σ.length)) (σ ++ [.lst [.int a, .int b]])) : callW T tb (n + 1) "" "_law_pool" [.ref 0, .int 0] Q σ := by
  refine callW_fn h.f__law_pool rfl ?_
  have rest : ∀ cell : Int, exs (callW T tb n) tb (b__law_pool.body.drop 2) ([("script", .ref 0), ("k", .int 0), ("cell", .int cell)] : L) (fun fl _ σ' => match fl with | .ret v => Q v σ' | .next => Q .none σ') σ := by
    intro cell
    refine int_i ?_
    refine sub_i ?_
    refine int_i ?_
    refine max_i ?_
    refine int_i ?_
    refine fmod_i (by decide) ?_
    refine mul_i (.inl (by decide)) ?_
    refine mul_i (.inr (by decide)) ?_
    refine add_i ?_
    refine mul_i (.inl (by decide)) ?_
    refine add_i ?_
    refine add_i ?_
    refine mul_i (.inr (by decide)) ?_
    refine int_i ?_
    refine fmod_i (by decide) ?_
    refine pow_i ?_
    refine ge_i ?_
    refine int_b ?_
    refine mul_i (.inr (by
      have hb : ∀ b : Bool, (if b = true then (1 : Int) else 0).natAbs < big := by decide
      exact hb _)) ?_
    refine ⟨by simp, ?_⟩
    exact hq _ _
  have hlen : bltW .len [.ref 0] (fun v σ' => cmpW .Lt (.int 0) v (fun t => (match t with
      | true => exs (callW T tb n) tb [.assign "cell" (.sub (.var "script") (.var "k"))] ([("script", .ref 0), ("k", .int 0), ("cell", .int 0)] : L) (fun f ℓ' σ' => match f with | .next => exs (callW T tb n) tb (b__law_pool.body.drop 2) ℓ' (fun fl _ σ' => match fl with | .ret v => Q v σ' | .next => Q .none σ') σ' | .ret v => Q v σ') σ'
      | false => exs (callW T tb n) tb (b__law_pool.body.drop 2) ([("script", .ref 0), ("k", .int 0), ("cell", .int 0)] : L) (fun fl _ σ' => match fl with | .ret v => Q v σ' | .next => Q .none σ') σ')) σ') σ := by
    delta bltW
    refine withS_frz (f := fun l => l.length ≤ 1000000 ∧ _) hg ⟨by simp; omega, ?_⟩
    by_cases h0 : (0 : Int) < ((xs.map V.int).length : Int)
    · refine lt_t h0 ?_
      cases xs with
      | nil => simp at h0
      | cons y ys =>
        have hs : subW (.ref 0) (.int 0) (fun v σ' => exs (callW T tb n) tb (b__law_pool.body.drop 2) ([("script", .ref 0), ("k", .int 0), ("cell", v)] : L) (fun fl _ σ' => match fl with | .ret v => Q v σ' | .next => Q .none σ') σ') σ := by
          delta subW; exact ⟨by decide, by decide, withS_frz hg ⟨_, rfl, rest y⟩⟩
        exact hs
    · exact lt_f h0 (rest 0)
  exact hlen

theorem w_told_value (h : Facts T tb) {w : V} : ∀ (d : Nat) (t : Ty) (v : Va) (N : Nat) (ic : Nat) (Q : V → S → Prop) (R : List Role) (σ : S), Ok d t → Typ d t v → d + 24 ≤ N → d ≤ 6 → Mem R as σ m → InMem as v → R[ic]? = some .free → σ[ic]? = some (.lst (cel v)) →
    (∀ R' σ', Nx R σ R' σ' → Mem R' as σ' m → Q (told v) σ') → callW T tb N "" "told_value" [enc t, .ref ic, w, .ref m] Q σ := by
  intro d
  induction d with
  | zero =>
    intro t v N ic Q R σ ok ty hN hd x im hr hg hq
    obtain ⟨n, rfl⟩ : ∃ n, N = n + 2 := ⟨N - 2, by omega⟩
    refine callW_fn h.f_told_value rfl ?_
    rcases ty with ⟨rfl, i, rfl⟩ | ⟨rfl, i, rfl⟩
    · refine sub_t rfl ⟨by simp, in_s false ⟨h.n_is_of_parts, w_is_of_parts h ?_⟩⟩
      exact sub_l hg (by decide) (by decide) rfl (hq _ _ .refl x)
    · refine sub_t rfl ⟨by simp, in_s false ⟨h.n_is_of_parts, w_is_of_parts h ?_⟩⟩
      exact sub_l hg (by decide) (by decide) rfl (hq _ _ .refl x)
  | succ d ih =>
    intro t v N ic Q R σ ok ty hN hd x im hr hg hq
    obtain ⟨n, rfl⟩ : ∃ n, N = n + 4 := ⟨N - 4, by omega⟩
    refine callW_fn h.f_told_value rfl ?_
    rcases ty with ⟨rfl, i, rfl⟩ | ⟨rfl, i, rfl⟩ | ⟨u, k, v', rfl, rfl, ty⟩ | ⟨hp, vs, rfl, ty⟩
    · refine sub_t rfl ⟨by simp, in_s false ⟨h.n_is_of_parts, w_is_of_parts h ?_⟩⟩
      exact sub_l hg (by decide) (by decide) rfl (hq _ _ .refl x)
    · refine sub_t rfl ⟨by simp, in_s false ⟨h.n_is_of_parts, w_is_of_parts h ?_⟩⟩
      exact sub_l hg (by decide) (by decide) rfl (hq _ _ .refl x)
    · have oku : Ok d u := by
        rcases ok with e | e | ⟨u', e, h0⟩ | ⟨us, e, h1, h2⟩ | ⟨u', k', e, h1, h2⟩ <;> cases e; exact h0
      refine sub_t rfl ⟨by simp, in_s true ?_⟩
      refine sub_t rfl (eq_s true (sub_t rfl ?_))
      refine sub_t rfl ?_
      refine ⟨h.n_told_value, ?_⟩
      obtain ⟨o', e1, la, rfl, _⟩ := x.inv.getRole x.at_
      refine cls_i e1 h.m_Memory_read_all ?_
      refine sub_l hg (by decide) (by decide) rfl ?_
      refine ⟨h.n_size_of, ?_⟩
      refine w_size_of h oku (by omega) (by omega) ?_
      have hlen := ty.len
      obtain ⟨n', rfl⟩ : ∃ n', n = n' + 1 := ⟨n - 1, by omega⟩
      refine w_read_all (off := 0) (N := size u) h x im.1 rfl (by rw [hlen]; omega) fun R1 σ1 i t1 x1 hr1 hg1 hi1 => ?_
      rw [List.drop_zero, ← hlen, List.take_length] at hg1
      refine ih u v' _ i _ R1 σ1 oku ty (by omega) (by omega) x1 im.2 hr1 hg1 fun R2 σ2 t2 x2 => ?_
      exact ⟨by simp, hq _ _ (t1.trans t2) x2⟩
    · obtain ⟨hl, hok⟩ := ok.parts
      have hlen : (cels vs).length = size t := by rw [size_parts hp]; exact ty.lens fun t v h => h.len
      have go : exs (callW T tb (n + 3)) tb (b_told_value.body.drop 2) ([("t", enc t), ("cells", .ref ic), ("world", w), ("memory", .ref m)] : L) (fun fl _ σ' => match fl with | .ret v => Q v σ' | .next => Q .none σ') σ := by
        refine ⟨h.n_parts_of_cells, ?_⟩
        refine w_parts_of_cells h x.inv ok hp (by omega) (by omega) hr hg hlen fun R1 σ1 jf js t1 x1 hrf hgf hjl hj => ?_
        refine ⟨rfl, ?_⟩
        refine ⟨h.n_parts_told, ?_⟩
        refine w_parts_told h x1 ok hp fun R2 σ2 ip t2 x2 hr2 hg2 hi2 => ?_
        have hrf2 := t2.get hrf
        have hgf2 := t2.keep _ _ hrf hgf
        refine len_l hgf2 (by simp; omega) ?_
        refine range1 (by omega) (by simp; omega) ?_
        have hlen2 : ((js.map V.ref).length : Int).toNat = (parts t).length := by simp [hjl]
        rw [hlen2]
        refine ⟨(parts t).length + 1, by omega, ?_⟩
        have t12 := t1.trans t2
        refine loopC_all (item := fun k => .int k) (parts t).length (fun k acc σ' => acc = (tolds vs).take k ∧ ∃ R', Nx R2 σ2 R' σ' ∧ Mem R' as σ' m) (fun k acc σ' _ hk => item_rng hk) (fun acc σ' _ => item_rng_end) ?_ ?_ ⟨by simp, R2, .refl, ⟨x2, t12.get x.at_⟩⟩
        · rintro k acc σ' K hk ⟨rfl, R', t', x'⟩ hK
          have hu : (parts t)[k]? = some (parts t)[k] := List.getElem?_eq_getElem hk
          obtain ⟨v, hv, tyv⟩ := ty.get hu
          have hjk : js[k]? = some js[k] := List.getElem?_eq_getElem (by omega)
          obtain ⟨q1, q2⟩ := hj k _ _ hu hjk
          have q2 : σ1[js[k]]? = some (.lst (((cels vs).drop (sizes ((parts t).take k))).take (size (parts t)[k]))) := q2
          rw [(cels_part (fun t v h => h.len) ty hu hv).1] at q2
          refine ⟨h.n_told_value, ?_⟩
          refine sub_l (v := enc (parts t)[k]) (t'.keep _ _ hr2 hg2) (by omega) (by omega) (by rw [encs_map]; simp [hu]) ?_
          refine sub_l (v := .ref js[k]) (t'.keep _ _ hrf2 hgf2) (by omega) (by omega) (by simp [hjk]) ?_
          have t2' := t2.trans t'
          refine ih _ v _ js[k] _ R' σ' (hok _ (List.getElem_mem hk)) tyv (by omega) (by omega) x' (InMems.get im hv) (t2'.get q1) (t2'.keep _ _ q1 q2) fun R'' σ'' t'' x'' => ?_
          refine hK _ _ ⟨?_, R'', t'.trans t'', x''⟩
          rw [List.take_add_one, tolds_map, List.getElem?_map, hv]; rfl
        · rintro acc σ' ⟨rfl, R', t', x'⟩
          have hvl : (tolds vs).length = (parts t).length := by rw [tolds_map]; simp [ty.length]
          rw [← hvl, List.take_length]
          have fq := x'.inv.free (.lst (tolds vs))
          have x3 := fq.1
          have t3 := fq.2
          refine tuple_l get_new (by rw [hvl]; omega) ?_
          have fin := hq _ _ ((t12.trans t').trans t3) ⟨x3, t3.get x'.at_⟩
          cases t <;> simp [isParts] at hp
          · exact sub_t rfl (ne_s false fin)
          · exact sub_t rfl (ne_s false fin)
      cases t <;> simp [isParts] at hp
      · exact sub_t rfl ⟨by simp, in_s false ⟨h.n_is_of_parts, w_is_of_parts h go⟩⟩
      · exact sub_t rfl ⟨by simp, in_s false ⟨h.n_is_of_parts, w_is_of_parts h go⟩⟩
end
end Mine

end
section
open PySem PySem.W
set_option Elab.async false
set_option maxRecDepth 100000
namespace Mine

inductive F2 {α β : Type} (P : α → β → Prop) : List α → List β → Prop
  | nil : F2 P [] []
  | cons {a b l r} : P a b → F2 P l r → F2 P (a :: l) (b :: r)
theorem F2.snoc {α β : Type} {P : α → β → Prop} : ∀ {l : List α} {r : List β} {a : α} {b : β}, F2 P l r → P a b → F2 P (l ++ [a]) (r ++ [b])
  | _, _, _, _, .nil, h => .cons h .nil
  | _, _, _, _, .cons h t, h' => .cons h (F2.snoc t h')
theorem F2.imp {α β : Type} {P P' : α → β → Prop} (hp : ∀ a b, P a b → P' a b) : ∀ {l : List α} {r : List β}, F2 P l r → F2 P' l r
  | _, _, .nil => .nil
  | _, _, .cons h t => .cons (hp _ _ h) (F2.imp hp t)
theorem F2.length {α β : Type} {P : α → β → Prop} : ∀ {l : List α} {r : List β}, F2 P l r → l.length = r.length
  | _, _, .nil => rfl
  | _, _, .cons _ t => by simp [t.length]
theorem F2.get {α β : Type} {P : α → β → Prop} : ∀ {l : List α} {r : List β} {k : Nat} {b : β}, F2 P l r → r[k]? = some b → ∃ a, l[k]? = some a ∧ P a b
  | _, _, _, _, .nil, e => by simp at e
  | _, _, 0, _, .cons h t, e => by simp at e; subst e; exact ⟨_, rfl, h⟩
  | _, _, k + 1, _, .cons h t, e => by simpa using t.get (by simpa using e)
theorem Typs.snoc {P : Ty → Va → Prop} : ∀ {ts : List Ty} {vs : List Va} {t : Ty} {v : Va}, Typs P ts vs → P t v → Typs P (ts ++ [t]) (vs ++ [v])
  | _, _, _, _, .nil, h => .cons h .nil
  | _, _, _, _, .cons h r, h' => .cons h (Typs.snoc r h')

mutual
theorem InMem.mono {as as' : AS} (ha : ∀ (k : Nat) a, as[k]? = some a → as'[k]? = some a) : ∀ {v : Va}, InMem as v → InMem as' v
  | .int _, _ => trivial
  | .bool _, _ => trivial
  | .box k v, h => ⟨ha _ _ h.1, InMem.mono ha h.2⟩
  | .agg vs, h => InMems.mono ha h
theorem InMems.mono {as as' : AS} (ha : ∀ (k : Nat) a, as[k]? = some a → as'[k]? = some a) : ∀ {vs : List Va}, InMems as vs → InMems as' vs
  | [], _ => trivial
  | v :: r, h => ⟨InMem.mono ha h.1, InMems.mono ha h.2⟩
end
theorem InMems.snoc {as : AS} : ∀ {vs : List Va} {v : Va}, InMems as vs → InMem as v → InMems as (vs ++ [v])
  | [], _, _, h => ⟨h, trivial⟩
  | _ :: _, _, h, h' => ⟨h.1, InMems.snoc h.2 h'⟩
theorem cels_app : ∀ (vs ws : List Va), cels (vs ++ ws) = cels vs ++ cels ws
  | [], ws => rfl
  | v :: r, ws => by simp [cels, cels_app r ws]
theorem orders_app : ∀ (vs ws : List Va), orders (vs ++ ws) = orders vs ++ orders ws
  | [], ws => rfl
  | v :: r, ws => by simp [orders, orders_app r ws]
mutual
noncomputable def nb : Ty → Nat
  | .int => 0
  | .bool => 0
  | .box u => nb u + 1
  | .tup us => nbs us
  | .arr u k => k * nb u
noncomputable def nbs : List Ty → Nat
  | [] => 0
  | t :: r => nb t + nbs r
end
theorem nbs_rep (u : Ty) : ∀ k, nbs (List.replicate k u) = k * nb u
  | 0 => by simp [nbs]
  | k + 1 => by rw [List.replicate_succ, nbs, nbs_rep u k, Nat.add_mul, Nat.one_mul, Nat.add_comm]
theorem nb_parts {t : Ty} (h : isParts t = true) : nb t = nbs (parts t) := by
  cases t <;> simp [isParts] at h
  · rfl
  · simp [nb, parts, nbs_rep]
theorem nbs_take : ∀ (ts : List Ty) (k : Nat) t, ts[k]? = some t → nbs (ts.take (k + 1)) = nbs (ts.take k) + nb t
  | [], k, t, h => by simp at h
  | u :: r, 0, t, h => by simp at h; subst h; simp [nbs]
  | u :: r, k + 1, t, h => by
    have := nbs_take r k t (by simpa using h)
    simp only [List.take_succ_cons, nbs, this]; omega
theorem nbs_take_le : ∀ (ts : List Ty) (k : Nat), nbs (ts.take k) ≤ nbs ts
  | [], k => by simp [nbs]
  | u :: r, 0 => by simp [nbs]
  | u :: r, k + 1 => by simp only [List.take_succ_cons, nbs]; have := nbs_take_le r k; omega

section
variable {c m : Nat} {R R' R₁ R₂ : List Role} {as as' : AS} {σ σ' σ₁ σ₂ : S} {T : Str → Str → Option Ent} {tb : Tb} {n : Nat}


theorem w_one (h : Facts T tb) {is i : Nat} {a b : V} (x : Inv c R as σ) (hs : R[is]? = some .src) (hr : R[i]? = some .free) (hg : σ[i]? = some (.lst [a, b])) {Q : V → S → Prop}
    (hq : ∀ σ', Nx R σ R σ' → Inv c R as σ' → Q a σ' ∧ Q b σ') : callW T tb (n + 2) "" "_law_one" [.ref is, .ref i] Q σ := by
  refine callW_fn h.f__law_one rfl ?_
  refine ⟨h.n__law_take, ?_⟩
  refine len_l hg (by simp) ?_
  refine w_take h x hs (by simp) (by simp) fun σ' r t' x' hlt => ?_
  have g' := t'.keep _ _ hr hg
  have hlt : r < 2 := by simp at hlt; omega
  rcases Nat.lt_succ_iff_lt_or_eq.mp hlt with h0 | rfl
  · have : r = 0 := by omega
    subst this
    exact sub_l g' (by omega) (by omega) rfl (hq _ t' x').1
  · exact sub_l g' (by omega) (by omega) rfl (hq _ t' x').2

theorem w_type (h : Facts T tb) {is : Nat} : ∀ (d N : Nat) (Q : V → S → Prop) (R : List Role) (σ : S), d + 4 ≤ N → d ≤ 6 → Inv c R as σ → R[is]? = some .src →
    (∀ R' σ' t, Nx R σ R' σ' → Inv c R' as σ' → Ok d t → Q (enc t) σ') → callW T tb N "" "_law_type" [.ref is, .int d] Q σ := by
  intro d
  induction d with
  | zero =>
    intro N Q R σ hN hd x hs hq
    obtain ⟨n, rfl⟩ : ∃ n, N = n + 3 := ⟨N - 3, by omega⟩
    refine callW_fn h.f__law_type rfl ?_
    refine ⟨h.n__law_take, ?_⟩
    refine w_take h x hs (by decide) (by decide) fun σ1 r t1 x1 hlt => ?_
    refine eq_i ?_
    refine ⟨h.n__law_one, by simp, by simp, by simp, ?_⟩
    have fq := x1.free (.lst [enc .int, enc .bool])
    have x2 := fq.1
    have t2 := fq.2
    refine w_one h x2 (t2.get hs) (by rw [← x1.len]; exact get_new) get_new fun σ3 t3 x3 => ?_
    exact ⟨hq _ _ .int ((t1.trans t2).trans t3) x3 (.inl rfl), hq _ _ .bool ((t1.trans t2).trans t3) x3 (.inr rfl)⟩
  | succ d ih =>
    intro N Q R σ hN hd x hs hq
    obtain ⟨n, rfl⟩ : ∃ n, N = n + 3 := ⟨N - 3, by omega⟩
    refine callW_fn h.f__law_type rfl ?_
    refine ⟨h.n__law_take, ?_⟩
    refine w_take h x hs (by decide) (by decide) fun σ1 r t1 x1 hlt => ?_
    refine eq_i ?_
    have e0 : (((d + 1 : Nat) : Int) == (0 : Int)) = false := by rw [beq_eq_false_iff_ne]; omega
    rw [e0]
    have ed : ((d + 1 : Nat) : Int) - 1 = ((d : Nat) : Int) := by omega
    by_cases h1 : (r : Int) < 1
    · refine lt_t h1 ?_
      refine ⟨h.n__law_one, by simp, by simp, by simp, ?_⟩
      have fq := x1.free (.lst [enc .int, enc .bool])
      have x2 := fq.1
      have t2 := fq.2
      refine w_one h x2 (t2.get hs) (by rw [← x1.len]; exact get_new) get_new fun σ3 t3 x3 => ?_
      exact ⟨hq _ _ .int ((t1.trans t2).trans t3) x3 (.inl rfl), hq _ _ .bool ((t1.trans t2).trans t3) x3 (.inr (.inl rfl))⟩
    · refine lt_f h1 ?_
      by_cases h4 : (r : Int) < 4
      · refine lt_t h4 ?_
        refine ⟨h.n__law_type, ?_⟩
        refine sub_i ?_
        rw [ed]
        refine ih _ _ _ _ (by omega) (by omega) x1 hs fun R2 σ2 u t2 x2 hu => ?_
        exact ⟨by simp, hq _ _ (.box u) (t1.trans t2) x2 (.inr (.inr (.inl ⟨u, rfl, hu⟩)))⟩
      · refine lt_f h4 ?_
        by_cases h6 : (r : Int) < 6
        · refine lt_t h6 ?_
          refine ⟨h.n__law_take, ?_⟩
          refine w_take h x1 hs (by decide) (by decide) fun σ2 r2 t2 x2 hlt2 => ?_
          refine add_i ?_
          refine range1 (by omega) (by omega) ?_
          rw [show ((1 : Int) + (r2 : Int)).toNat = r2 + 1 by omega]
          refine ⟨r2 + 1 + 1, by omega, ?_⟩
          refine loopC_all (item := fun k => .int k) (r2 + 1) (fun k acc σ' => ∃ R' us, acc = encs us ∧ us.length = k ∧ (∀ u ∈ us, Ok d u) ∧ Nx R σ2 R' σ' ∧ Inv c R' as σ') (fun k acc σ' _ hk => item_rng hk) (fun acc σ' _ => item_rng_end) ?_ ?_ ⟨R, [], rfl, rfl, by simp, .refl, x2⟩
          · rintro k acc σ' K hk ⟨R', us, rfl, hl, hus, t', x'⟩ hK
            refine ⟨h.n__law_type, ?_⟩
            refine sub_i ?_
            rw [ed]
            refine ih _ _ _ _ (by omega) (by omega) x' (t'.get hs) fun R3 σ3 u t3 x3 hu => ?_
            refine hK _ _ ⟨R3, us ++ [u], by simp [encs_map], by simp [hl], fun v hv => ?_, t'.trans t3, x3⟩
            rcases List.mem_append.mp hv with hv | hv
            · exact hus v hv
            · rw [List.mem_singleton.mp hv]; exact hu
          · rintro acc σ' ⟨R', us, rfl, hl, hus, t', x'⟩
            have fq := x'.free (.lst (encs us))
            have x4 := fq.1
            have t4 := fq.2
            refine tuple_l get_new (by rw [encs_map]; simp; omega) ?_
            have := hlt2
            exact ⟨by simp, hq _ _ (.tup us) (((t1.trans t2).trans t').trans t4) x4 (.inr (.inr (.inr (.inl ⟨us, rfl, by omega, hus⟩))))⟩
        · refine lt_f h6 ?_
          refine ⟨h.n__law_type, ?_⟩
          refine sub_i ?_
          rw [ed]
          refine ih _ _ _ _ (by omega) (by omega) x1 hs fun R2 σ2 u t2 x2 hu => ?_
          refine ⟨h.n__law_take, ?_⟩
          refine w_take h x2 (t2.get hs) (by decide) (by decide) fun σ3 r3 t3 x3 hlt3 => ?_
          exact ⟨by simp, hq _ _ (.arr u r3) ((t1.trans t2).trans t3) x3 (.inr (.inr (.inr (.inr ⟨u, r3, rfl, by omega, hu⟩))))⟩

noncomputable def RowOK (R : List Role) (σ : S) (row : V) (v : Va) : Prop := ∃ ic io, row = .tup [.ref ic, told v, .ref io] ∧ R[ic]? = some .free ∧ σ[ic]? = some (.lst (cel v)) ∧ R[io]? = some .free ∧ σ[io]? = some (.lst ((order v).map fun k : Nat => V.int (k : Int)))
theorem RowOK.next {row : V} {v : Va} (x : RowOK R σ row v) (t : Nx R σ R' σ') : RowOK R' σ' row v := by
  obtain ⟨ic, io, e, r1, g1, r2, g2⟩ := x
  exact ⟨ic, io, e, t.get r1, t.keep _ _ r1 g1, t.get r2, t.keep _ _ r2 g2⟩

/-- two clauses over rows -/
theorem rows_comp {rows : List V} {vs : List Va} {ir : Nat} {f : Va → List V} (x : Inv c R as σ) (hr : R[ir]? = some .free) (hg : σ[ir]? = some (.lst rows)) (hrow : F2 (RowOK R σ) rows vs) (hz : vs.length ≤ 900) (hf : ∀ v ∈ vs, (f v).length ≤ 900) {Q : List V → S → Prop}
    {inner : V → (List V → S → Prop) → S → Prop} (hin : ∀ row v K, RowOK R σ row v → v ∈ vs → K (f v) σ → inner row K σ) (fin : Q (vs.flatMap f) σ) :
    loopC inner (.ref ir) (vs.length + 1) 0 [] Q σ := by
  have hlen := hrow.length
  refine loopC_all (item := fun k => rows.getD k .none) vs.length (fun k acc σ' => σ' = σ ∧ acc = (vs.take k).flatMap f) (fun k acc σ' hp hk => ?_) (fun acc σ' hp => ?_) ?_ ?_ ⟨rfl, by simp⟩
  · rw [hp.1, item_l hg]; simp [List.getD, hlen, hk]
  · rw [hp.1, item_l hg]; simp [hlen]
  · rintro k acc σ' K hk ⟨rfl, rfl⟩ hK
    have hv : vs[k]? = some vs[k] := List.getElem?_eq_getElem hk
    obtain ⟨row, e, ok⟩ := hrow.get hv
    have hi : rows.getD k .none = row := by simp [List.getD, e]
    rw [hi]
    refine hin row vs[k] K ok (List.getElem_mem hk) (hK _ _ ⟨rfl, ?_⟩)
    rw [List.take_add_one, hv, List.flatMap_append]; simp
  · rintro acc σ' ⟨rfl, rfl⟩
    rw [List.take_length]; exact fin
theorem inner_loop {i N : Nat} {l : List V} {K : List V → S → Prop} {elt : V → (List V → S → Prop) → S → Prop} (hN : N = l.length) (hg : σ[i]? = some (.lst l)) (he : ∀ v K, elt v K σ = K [v] σ) (hK : K l σ) : loopC elt (.ref i) (N + 1) 0 [] K σ := by
  subst hN
  refine loopC_all (item := fun k => l.getD k .none) l.length (fun k acc σ' => σ' = σ ∧ acc = l.take k) (fun k acc σ' hp hk => ?_) (fun acc σ' hp => ?_) ?_ ?_ ⟨rfl, by simp⟩
  · rw [hp.1, item_l hg]; simp [List.getD, hk]
  · rw [hp.1, item_l hg]; simp
  · rintro k acc σ' K hk ⟨rfl, rfl⟩ hK
    rw [he]
    refine hK _ _ ⟨rfl, ?_⟩
    rw [List.take_add_one]; simp [List.getD, hk]
  · rintro acc σ' ⟨rfl, rfl⟩
    rw [List.take_length]; exact hK

theorem order_len : ∀ {d : Nat} {t : Ty} {v : Va}, Typ d t v → (order v).length ≤ nb t
  | 0, t, v, h => by rcases h with ⟨rfl, i, rfl⟩ | ⟨rfl, i, rfl⟩ <;> simp [order]
  | d + 1, t, v, h => by
    rcases h with ⟨rfl, i, rfl⟩ | ⟨rfl, i, rfl⟩ | ⟨u, k, v', rfl, rfl, h⟩ | ⟨hp, vs, rfl, h⟩
    · simp [order]
    · simp [order]
    · have := order_len h; simp [order, nb]; omega
    · rw [nb_parts hp]
      have go : ∀ {ts : List Ty} {vs : List Va}, Typs (Typ d) ts vs → (orders vs).length ≤ nbs ts := fun {ts} {vs} h => by
        induction h with
        | nil => simp [orders]
        | cons h r ih => have := order_len h; simp [orders, nbs]; omega
      exact go h

theorem w_law_value (h : Facts T tb) {is : Nat} : ∀ (d : Nat) (t : Ty) (N : Nat) (Q : V → S → Prop) (R : List Role) (as : AS) (σ : S), Ok d t → d + 10 ≤ N → d ≤ 4 → Mem R as σ m → R[is]? = some .src → as.length + nb t ≤ 900 →
    (∀ R' σ' v (as₂ : AS) ic io, Nx R σ R' σ' → Mem R' (as ++ as₂) σ' m → Typ d t v → InMem (as ++ as₂) v → order v = List.range' as.length as₂.length → (∀ a ∈ as₂, a.2 = true) → as₂.length ≤ nb t → RowOK R' σ' (.tup [.ref ic, told v, .ref io]) v → σ.length ≤ ic → σ.length ≤ io →
      Q (.tup [.ref ic, told v, .ref io]) σ') → callW T tb N "" "_law_value" [.ref is, .ref m, enc t] Q σ := by
  have scalar : ∀ (d : Nat) (t : Ty) (n : Nat) (Q : V → S → Prop) (R : List Role) (as : AS) (σ : S), (t = .int ∨ t = .bool) → Mem R as σ m → R[is]? = some .src →
      (∀ R' σ' v (as₂ : AS) ic io, Nx R σ R' σ' → Mem R' (as ++ as₂) σ' m → Typ d t v → InMem (as ++ as₂) v → order v = List.range' as.length as₂.length → (∀ a ∈ as₂, a.2 = true) → as₂.length ≤ nb t → RowOK R' σ' (.tup [.ref ic, told v, .ref io]) v → σ.length ≤ ic → σ.length ≤ io →
      Q (.tup [.ref ic, told v, .ref io]) σ') → callW T tb (n + 3) "" "_law_value" [.ref is, .ref m, enc t] Q σ := by
    intro d t n Q R as σ ht x hs hq
    have fin : ∀ (v : Va) (a : V) σ1, cel v = [a] → told v = a → order v = [] → Typ d t v → InMem as v → Nx R σ R σ1 → Inv as.length R as σ1 → Q (.tup [.ref σ1.length, a, .ref (σ1 ++ [O.lst [a]]).length]) (σ1 ++ [O.lst [a]] ++ [O.lst []]) := by
      intro v a σ1 e1 e2 e3 ty im t1 x1
      have fq := x1.free (.lst [a])
      have x2 := fq.1
      have t2 := fq.2
      have fq := x2.free (.lst [])
      have x3 := fq.1
      have t3 := fq.2
      have hl : σ.length = σ1.length := by rw [← x.inv.len, ← x1.len]
      have := hq _ _ v [] σ1.length (σ1 ++ [O.lst [a]]).length ((t1.trans t2).trans t3) ⟨by rw [List.append_nil]; exact x3, (t2.trans t3).get x.at_⟩ ty (by rw [List.append_nil]; exact im) (by simp [e3]) (by simp) (by simp)
        ⟨_, _, rfl, by rw [← x1.len]; exact get_app get_new, by rw [e1]; exact get_app get_new, by rw [← x2.len]; exact get_new, by rw [e3]; exact get_new⟩ (by omega) (by simp; omega)
      rw [e2] at this
      exact this
    refine callW_fn h.f__law_value rfl ?_
    rcases ht with rfl | rfl
    · refine sub_t rfl (eq_s false ⟨h.n__law_parts, w_law_parts_none h rfl (is_none (sub_t rfl (eq_s true ⟨h.n__law_take, ?_⟩)))⟩)
      refine w_take h x.inv hs (by decide) (by decide) fun σ1 r t1 x1 hlt => ?_
      refine ⟨by simp, by simp, by simp, ?_⟩
      exact fin (.int r) _ σ1 rfl rfl rfl (by cases d <;> exact .inl ⟨rfl, _, rfl⟩) trivial t1 x1
    · refine sub_t rfl (eq_s false ⟨h.n__law_parts, w_law_parts_none h rfl (is_none (sub_t rfl (eq_s false ⟨h.n__law_take, ?_⟩)))⟩)
      refine w_take h x.inv hs (by decide) (by decide) fun σ1 r t1 x1 hlt => ?_
      refine eq_i ?_
      refine ⟨by simp, by simp, by simp, ?_⟩
      exact fin (.bool _) _ σ1 rfl rfl rfl (by cases d with | zero => exact .inr ⟨rfl, _, rfl⟩ | succ d => exact .inr (.inl ⟨rfl, _, rfl⟩)) trivial t1 x1
  intro d
  induction d with
  | zero =>
    intro t N Q R as σ ok hN hd x hs hnb hq
    obtain ⟨n, rfl⟩ : ∃ n, N = n + 3 := ⟨N - 3, by omega⟩
    exact scalar 0 t n Q R as σ ok x hs hq
  | succ d ih =>
    intro t N Q R as σ ok hN hd x hs hnb hq
    obtain ⟨n, rfl⟩ : ∃ n, N = n + 7 := ⟨N - 7, by omega⟩
    have agg : isParts t = true → exs (callW T tb (n + 6)) tb (b__law_value.body.drop 1) ([("source", .ref is), ("memory", .ref m), ("kind", enc t)] : L) (fun fl _ σ' => match fl with | .ret v => Q v σ' | .next => Q .none σ') σ := by
      intro hp
      obtain ⟨hl, hok⟩ := ok.parts
      have hsz := size_le ok
      have hsz2 : 3 ^ (d + 1) ≤ 3 ^ 4 := Nat.pow_le_pow_right (by decide) (by omega)
      refine ⟨h.n__law_parts, ?_⟩
      refine w_law_parts h x.inv ok hp fun R1 σ1 ip t1 x1 hrp hgp hip => ?_
      refine is_ref ?_
      refine ⟨(parts t).length + 1, by omega, ?_⟩
      rw [nb_parts hp] at hnb
      refine loopC_all (item := fun k => ((parts t).map enc).getD k .none) (parts t).length (fun k acc σ' => ∃ (R' : List Role) (vs : List Va) (as₂ : AS), Nx R σ R' σ' ∧ Mem R' (as ++ as₂) σ' m ∧ R'[ip]? = some .free ∧ σ'[ip]? = some (.lst (encs (parts t))) ∧ Typs (Typ d) ((parts t).take k) vs ∧ InMems (as ++ as₂) vs ∧
        orders vs = List.range' as.length as₂.length ∧ (∀ a ∈ as₂, a.2 = true) ∧ as₂.length ≤ nbs ((parts t).take k) ∧ F2 (RowOK R' σ') acc vs) (fun k acc σ' hP hk => ?_) (fun acc σ' hP => ?_) ?_ ?_
        ⟨R1, [], [], t1, ⟨by rw [List.append_nil]; exact x1, t1.get x.at_⟩, hrp, hgp, .nil, trivial, by simp [orders], by simp, by simp, .nil⟩
      · obtain ⟨R', vs, as₂, _, _, _, g, _⟩ := hP
        rw [item_l g, encs_map]; simp [List.getD, hk]
      · obtain ⟨R', vs, as₂, _, _, _, g, _⟩ := hP
        rw [item_l g, encs_map]; simp
      · rintro k acc σ' K hk ⟨R', vs, as₂, t', x', r', g', ty, im, ho, hlive, hlen, hrow⟩ hK
        have hu : (parts t)[k]? = some (parts t)[k] := List.getElem?_eq_getElem hk
        have hv : ((parts t).map enc).getD k .none = enc (parts t)[k] := by simp [List.getD, hk]
        rw [hv]
        have tk := nbs_take _ _ _ hu
        have tk2 := nbs_take_le (parts t) (k + 1)
        refine ⟨h.n__law_value, ?_⟩
        refine ih _ (n + 6) _ R' (as ++ as₂) σ' (hok _ (List.getElem_mem hk)) (by omega) (by omega) x' (t'.get hs) (by simp; omega) fun R2 σ2 v as₃ ic io t2 x2 tyv imv hov hlv hlv2 hrv _ _ => ?_
        refine hK _ _ ⟨R2, vs ++ [v], as₂ ++ as₃, t'.trans t2, by rw [← List.append_assoc]; exact x2, t2.get r', t2.keep _ _ r' g', ?_, ?_, ?_, ?_, ?_, ?_⟩
        · rw [List.take_add_one, hu]; exact ty.snoc tyv
        · rw [← List.append_assoc]; exact InMems.snoc (im.mono fun k a e => get_app e) imv
        · rw [orders_app, ho]
          simp only [orders, List.append_nil, hov, List.length_append]
          rw [List.range'_append_1]
        · intro a ha
          rcases List.mem_append.mp ha with ha | ha
          · exact hlive a ha
          · exact hlv a ha
        · rw [List.length_append]; omega
        · exact (hrow.imp fun a b e => e.next t2).snoc hrv
      · rintro acc σ' ⟨R', vs, as₂, t', x', r', g', ty, im, ho, hlive, hlen, hrow⟩
        rw [List.take_length] at ty hlen
        have fq := x'.inv.free (.lst acc)
        have x3 := fq.1
        have t3 := fq.2
        have hvl := ty.length
        have hr3 : (R' ++ [Role.free])[σ'.length]? = some .free := by rw [← x'.inv.len]; exact get_new
        have row3 := hrow.imp fun a b e => e.next t3
        have hcl : (cels vs).length = size t := by rw [size_parts hp]; exact ty.lens fun t v h => h.len
        have mono : ∀ v ∈ vs, (cel v).length ≤ (cels vs).length ∧ (order v).length ≤ (orders vs).length := fun v hv => by
          have : ∀ (ws : List Va), v ∈ ws → (cel v).length ≤ (cels ws).length ∧ (order v).length ≤ (orders ws).length := fun ws => by
            induction ws with
            | nil => intro h; simp at h
            | cons u r ihw =>
              intro h
              simp only [cels, orders, List.length_append]
              rcases List.mem_cons.mp h with rfl | h
              · omega
              · have := ihw h; omega
          exact this vs hv
        have hol : (orders vs).length = as₂.length := by rw [ho]; simp
        have fm1 : ∀ ws : List Va, ws.flatMap cel = cels ws := fun ws => by
          induction ws with
          | nil => rfl
          | cons u r ihw => simp [cels, ihw]
        have fm2 : ∀ ws : List Va, ws.flatMap (fun v => (order v).map fun k : Nat => V.int (k : Int)) = (orders ws).map fun k : Nat => V.int (k : Int) := fun ws => by
          induction ws with
          | nil => rfl
          | cons u r ihw => simp [orders, ihw]
        have fm3 : ∀ ws : List Va, ws.flatMap (fun v => [told v]) = tolds ws := fun ws => by
          induction ws with
          | nil => rfl
          | cons u r ihw => simp only [List.flatMap_cons, ihw, tolds]; rfl
        refine ⟨rfl, by decide, vs.length + 1, by omega, ?_⟩
        refine rows_comp (f := cel) (vs := vs) x3 hr3 get_new row3 (by omega) (fun v hv => by have := (mono v hv).1; omega) (fun row v K ok hv hK => ?_) ?_
        · obtain ⟨ic, io, rfl, q1, q2, q3, q4⟩ := ok
          refine sub_t rfl ?_
          refine ⟨(cel v).length + 1, by have := (mono v hv).1; omega, ?_⟩
          exact inner_loop rfl q2 (fun v K => rfl) hK
        · rw [fm1]
          have fq := x3.free (.lst (cels vs))
          have x4 := fq.1
          have t4 := fq.2
          have row4 := row3.imp fun a b e => e.next t4
          refine ⟨vs.length + 1, by omega, ?_⟩
          have hr4 := t4.get hr3
          refine rows_comp (f := fun v => [told v]) (vs := vs) x4 hr4 (get_app get_new) row4 (by omega) (fun v hv => by simp) (fun row v K ok hv hK => ?_) ?_
          · obtain ⟨ic, io, rfl, q1, q2, q3, q4⟩ := ok
            exact sub_t rfl hK
          · rw [fm3]
            have fq := x4.free (.lst (tolds vs))
            have x5 := fq.1
            have t5 := fq.2
            refine tuple_l get_new (by rw [tolds_map]; simp; omega) ?_
            have row5 := row4.imp fun a b e => e.next t5
            refine ⟨rfl, by decide, vs.length + 1, by omega, ?_⟩
            refine rows_comp (f := fun v => (order v).map fun k : Nat => V.int (k : Int)) (vs := vs) x5 (t5.get hr4) (get_app (get_app get_new)) row5 (by omega) (fun v hv => by have := (mono v hv).2; simp; omega) (fun row v K ok hv hK => ?_) ?_
            · obtain ⟨ic, io, rfl, q1, q2, q3, q4⟩ := ok
              refine sub_t rfl ?_
              refine ⟨(order v).length + 1, by have := (mono v hv).2; omega, ?_⟩
              exact inner_loop (by simp) q4 (fun v K => rfl) hK
            · rw [fm2]
              have fq := x5.free (.lst ((orders vs).map fun k : Nat => V.int (k : Int)))
              have x6 := fq.1
              have t6 := fq.2
              refine ⟨by simp, ?_⟩
              have tt := (((t'.trans t3).trans t4).trans t5).trans t6
              have hlt : σ.length ≤ σ'.length := by
                obtain ⟨e, he⟩ := t'.ext
                rw [← x.inv.len, ← x'.inv.len, he]; simp
              refine hq _ _ (.agg vs) as₂ _ _ tt ⟨x6, tt.get x.at_⟩ (.inr (.inr (.inr ⟨hp, vs, rfl, ty⟩))) im ho hlive (by rw [nb_parts hp]; exact hlen) ⟨_, _, rfl, ?_, ?_, ?_, ?_⟩ (by simp; omega) (by simp; omega)
              · exact t6.get (t5.get (by rw [← x3.len]; exact get_new))
              · exact get_app (get_app get_new)
              · rw [← x5.len]; exact get_new
              · exact get_new
    rcases ok with rfl | rfl | ⟨u, rfl, h0⟩ | ⟨us, rfl, h1, h2⟩ | ⟨u, k, rfl, h1, h2⟩
    · exact scalar (d + 1) .int _ Q R as σ (.inl rfl) x hs hq
    · exact scalar (d + 1) .bool _ Q R as σ (.inr rfl) x hs hq
    · dsimp only [nb] at hnb
      refine callW_fn h.f__law_value rfl ?_
      refine sub_t rfl (eq_s true ⟨h.n__law_value, sub_t rfl ?_⟩)
      refine ih u (n + 6) _ R as σ h0 (by omega) (by omega) x hs (by omega) fun R1 σ1 v as₂ ic io t1 x1 ty im ho hlive hlen hrow hic hio => ?_
      obtain ⟨ic', io', e, q1, q2, q3, q4⟩ := hrow
      cases e
      have hsz := size_le h0
      have hsz2 : 3 ^ d ≤ 3 ^ 3 := Nat.pow_le_pow_right (by decide) (by omega)
      have hlenv := ty.len
      refine ⟨rfl, ?_⟩
      obtain ⟨o', e1, la, rfl, _⟩ := x1.inv.getRole x1.at_
      refine cls_i e1 h.m_Memory_allocate ?_
      refine len_l q2 (by omega) ?_
      refine w_allocate h x1 (by omega) (by simp; omega) fun R2 σ2 t2 x2 => ?_
      obtain ⟨o', e2, la2, rfl, _⟩ := x2.inv.getRole x2.at_
      refine cls_i e2 h.m_Memory_write_all ?_
      refine cls_i e2 h.m_Memory_base ?_
      refine w_base h ?_
      have q1' := t2.get q1
      have q2' := t2.keep _ _ q1 q2
      refine w_write_all (k := (as ++ as₂).length) h x2 get_new (by simp) q1' q2' fun R3 σ3 t3 x3 => ?_
      have hset : (as ++ as₂ ++ [(List.replicate (cel v).length vUNINIT, true)]).set (as ++ as₂).length (cel v, true) = as ++ (as₂ ++ [(cel v, true)]) := by
        rw [List.set_append_right _ _ (Nat.le_refl _)]; simp
      rw [hset] at x3
      obtain ⟨o', e3, la3, rfl, _⟩ := x3.inv.getRole x3.at_
      refine cls_i e3 h.m_Memory_base ?_
      refine w_base h ?_
      refine ⟨by simp, by simp, ?_⟩
      have fq := x3.inv.free (.lst [ptr (as ++ as₂).length 0])
      have x4 := fq.1
      have t4 := fq.2
      refine ⟨by simp, ?_⟩
      have fq := x4.free (.lst [.int (as ++ as₂).length])
      have x5 := fq.1
      have t5 := fq.2
      have t25 := (t2.trans t3).trans (t4.trans t5)
      have hol : (order v).length = as₂.length := by rw [ho]; simp
      refine cat (t25.keep _ _ q3 q4) get_new (by simp; omega) ?_
      have fq := x5.free (.lst (((order v).map fun k : Nat => V.int (k : Int)) ++ [.int (as ++ as₂).length]))
      have x6 := fq.1
      have t6 := fq.2
      refine ⟨by simp, ?_⟩
      have tt := t1.trans (t25.trans t6)
      have im' : InMem (as ++ (as₂ ++ [(cel v, true)])) v := im.mono fun k a e => by rw [← List.append_assoc]; exact get_app e
      have at_new : (as ++ (as₂ ++ [(cel v, true)]))[(as ++ as₂).length]? = some (cel v, true) := by rw [← List.append_assoc]; exact get_new
      have hl1 : σ.length ≤ σ3.length := by
        obtain ⟨e, he⟩ := (t1.trans (t2.trans t3)).ext
        rw [← x.inv.len, ← x3.inv.len, he]; simp
      refine hq _ _ (.box (as ++ as₂).length v) (as₂ ++ [(cel v, true)]) _ _ tt ⟨x6, tt.get x.at_⟩ (.inr (.inr (.inl ⟨u, _, v, rfl, rfl, ty⟩))) ⟨at_new, im'⟩ ?_ ?_ (by simp [nb]; omega) ⟨_, _, rfl, ?_, ?_, ?_, ?_⟩ hl1 (by simp; omega)
      · simp only [order, ho, List.length_append, List.length_singleton]
        rw [List.range'_1_concat]
      · intro a ha
        rcases List.mem_append.mp ha with ha | ha
        · exact hlive a ha
        · rw [List.mem_singleton.mp ha]
      · rw [← x3.inv.len]; exact get_app (get_app get_new)
      · exact get_app (get_app get_new)
      · rw [← x5.len]; exact get_new
      · rw [order, List.map_append]; exact get_new
    · exact callW_fn h.f__law_value rfl (sub_t rfl (eq_s false (agg rfl)))
    · exact callW_fn h.f__law_value rfl (sub_t rfl (eq_s false (agg rfl)))
end
end Mine

end
section
open PySem PySem.W
set_option Elab.async false
set_option maxRecDepth 100000
namespace Mine

structure NxE (e : Nat) (R : List Role) (σ : S) (R' : List Role) (σ' : S) : Prop where
  ext : ∃ f, R' = R ++ f
  keep : ∀ (i : Nat) o, i ≠ e → R[i]? = some .free → σ[i]? = some o → σ'[i]? = some o
structure Glue (R : List Role) (σ : S) (g m : Nat) : Prop where
  go : ∃ (p : Nat) (w : V), R[g]? = some .free ∧ σ[g]? = some (.inst "DropGlue" [("places", .ref p), ("world", w)]) ∧ R[p]? = some .free ∧ σ[p]? = some (.inst "Places" [("memory", .ref m), ("world", w)])
noncomputable abbrev job (s : Str) (k off : Nat) (t : Ty) : V := .tup [.str s, ptr k off, enc t]

section
variable {c m g e ij : Nat} {R R' R₁ R₂ : List Role} {as as' : AS} {σ σ' σ₁ σ₂ : S} {T : Str → Str → Option Ent} {tb : Tb} {n : Nat}

theorem Nx.toE (x : Nx R σ R' σ') : NxE e R σ R' σ' := ⟨x.ext, fun i o _ h1 h2 => x.keep i o h1 h2⟩
theorem NxE.get (x : NxE e R σ R' σ') {i : Nat} {r : Role} (h : R[i]? = some r) : R'[i]? = some r := by obtain ⟨f, rfl⟩ := x.ext; exact get_app h
theorem NxE.trans (x : NxE e R σ R₁ σ₁) (y : NxE e R₁ σ₁ R₂ σ₂) : NxE e R σ R₂ σ₂ := by
  obtain ⟨a, ha⟩ := x.ext
  obtain ⟨f, hf⟩ := y.ext
  exact ⟨⟨a ++ f, by rw [hf, ha, List.append_assoc]⟩, fun i o h0 h1 h2 => y.keep i o h0 (x.get h1) (x.keep i o h0 h1 h2)⟩
theorem NxE.set (x : NxE e R σ R' σ') {o : O} : NxE e R σ R' (σ'.set e o) :=
  ⟨x.ext, fun i o' h0 h1 h2 => by rw [List.getElem?_set_ne (Ne.symm h0)]; exact x.keep i o' h0 h1 h2⟩
theorem Glue.next (x : Glue R σ g m) (t : NxE e R σ R' σ') (hg : g ≠ e) (hp : ∀ p w, σ[g]? = some (.inst "DropGlue" [("places", .ref p), ("world", w)]) → p ≠ e) : Glue R' σ' g m := by
  obtain ⟨p, w, r1, g1, r2, g2⟩ := x.go
  exact ⟨p, w, t.get r1, t.keep _ _ hg r1 g1, t.get r2, t.keep _ _ (hp p w g1) r2 g2⟩
theorem Glue.nx (x : Glue R σ g m) (t : Nx R σ R' σ') : Glue R' σ' g m := by
  obtain ⟨p, w, r1, g1, r2, g2⟩ := x.go
  exact ⟨p, w, t.get r1, t.keep _ _ r1 g1, t.get r2, t.keep _ _ r2 g2⟩
/-- a list of the store is no part of the glue -/
theorem Glue.ne (x : Glue R σ g m) {l : List V} (h : σ[ij]? = some (.lst l)) : g ≠ ij ∧ ∀ p w, σ[g]? = some (.inst "DropGlue" [("places", .ref p), ("world", w)]) → p ≠ ij := by
  obtain ⟨p, w, r1, g1, r2, g2⟩ := x.go
  refine ⟨(fun e => by rw [e, h] at g1; cases g1), fun p' w' e e' => ?_⟩
  rw [g1] at e; cases e
  rw [e', h] at g2; cases g2
theorem Mem.setFree (x : Mem R as σ m) {i : Nat} {o : O} (h : R[i]? = some .free) : Mem R as (σ.set i o) m := ⟨x.inv.set h trivial, x.at_⟩
theorem Glue.setE (x : Glue R σ g m) {l : List V} {o : O} (h : σ[ij]? = some (.lst l)) : Glue R (σ.set ij o) g m := by
  obtain ⟨a, b⟩ := x.ne h
  exact x.next (e := ij) (R' := R) (NxE.set ⟨⟨[], by simp⟩, fun _ _ _ _ e => e⟩) a b


theorem w_is_pointer (h : Facts T tb) {k o : Int} {Q : V → S → Prop} (hq : Q (.bool true) σ) : callW T tb (n + 1) "" "is_pointer" [ptr k o] Q σ := by
  refine callW_fn h.f_is_pointer rfl ?_
  exact sub_t rfl (eq_s true hq)

theorem w_led (h : Facts T tb) {p k off : Nat} {k' o' : Int} {w : V} {cs : List V} {Q : V → S → Prop} (x : Mem R as σ m) (hr : R[p]? = some .free) (hg : σ[p]? = some (.inst "Places" [("memory", .ref m), ("world", w)])) (ha : as[k]? = some (cs, true)) (hv : cs[off]? = some (ptr k' o'))
    (hq : ∀ R' σ', Nx R σ R' σ' → Mem R' as σ' m → Q (ptr k' o') σ') : callW T tb (n + 4) "Places" "led" [.ref p, ptr k off] Q σ := by
  refine callW_fn h.f_Places_led rfl ?_
  refine at_i hg rfl h.a_Places_memory ?_
  obtain ⟨_, e1, la, rfl, _⟩ := x.inv.getRole x.at_
  refine cls_i e1 h.m_Memory_read ?_
  refine w_read h x ha rfl hv fun R1 σ1 t1 x1 => ?_
  refine ⟨h.n_is_pointer, w_is_pointer h ?_⟩
  exact hq _ _ t1 x1

theorem w_leave (h : Facts T tb) {d p k : Nat} {w : V} {t : Ty} {cs : List V} {N : Nat} {Q : V → S → Prop} (x : Mem R as σ m) (hr : R[p]? = some .free) (hg : σ[p]? = some (.inst "Places" [("memory", .ref m), ("world", w)])) (ok : Ok d t) (hd : d ≤ 6) (hN : 2 * d + 8 ≤ N) (ha : as[k]? = some (cs, true)) (hl : cs.length = size t)
    (hq : ∀ R' σ', Nx R σ R' σ' → Mem R' (as.set k (List.replicate (size t) vUNINIT, true)) σ' m → Q .none σ') : callW T tb N "Places" "leave" [.ref p, ptr k 0, enc t] Q σ := by
  obtain ⟨n, rfl⟩ : ∃ n, N = n + 5 := ⟨N - 5, by omega⟩
  have hz := size_le ok
  have hz2 : 3 ^ d ≤ 3 ^ 6 := Nat.pow_le_pow_right (by decide) hd
  refine callW_fn h.f_Places_leave rfl ?_
  refine at_i hg rfl h.a_Places_memory ?_
  obtain ⟨_, e1, la, rfl, _⟩ := x.inv.getRole x.at_
  refine cls_i e1 h.m_Memory_write_all ?_
  refine glob_ h.g_UNINIT ?_
  refine ⟨by simp, ?_⟩
  have fq := x.inv.free (.lst [vUNINIT])
  have x1 := fq.1
  have t1 := fq.2
  refine ⟨h.n_size_of, ?_⟩
  refine at_i (t1.keep _ _ hr hg) rfl h.a_Places_world ?_
  refine w_size_of h ok (by omega) (by omega) ?_
  refine rep get_new (by omega) (by omega) ?_
  have fq := x1.free (.lst (List.replicate ((size t : Nat) : Int).toNat vUNINIT))
  have x2 := fq.1
  have t2 := fq.2
  have t12 := t1.trans t2
  refine w_write_all h ⟨x2, t12.get x.at_⟩ ha (vs := List.replicate (size t) vUNINIT) (by simp [hl]) (by rw [← x1.len]; exact get_new) (by rw [get_new]; rfl) fun R3 σ3 t3 x3 => ?_
  exact hq _ _ (t12.trans t3) x3

theorem w_dropped_box (h : Facts T tb) {k off : Nat} {k' : Nat} {u : Ty} {J : List V} {cs : List V} {Q : V → S → Prop} (x : Mem R as σ m) (G : Glue R σ g m) (hr : R[ij]? = some .free) (hg : σ[ij]? = some (.lst J)) (hz : J.length ≤ 9000) (ha : as[k]? = some (cs, true)) (hv : cs[off]? = some (ptr k' 0))
    (hq : ∀ R' σ', NxE ij R σ R' σ' → Mem R' as σ' m → Glue R' σ' g m → σ'[ij]? = some (.lst (J ++ [job "free" k off (.box u), job "drop" k' 0 u])) → Q .none σ') : callW T tb (n + 5) "DropGlue" "dropped" [.ref g, .ref ij, ptr k off, enc (.box u)] Q σ := by
  have hlt : ij < σ.length := (List.getElem?_eq_some_iff.mp hg).1
  refine callW_fn h.f_DropGlue_dropped rfl ?_
  refine sub_t rfl (eq_s true ?_)
  show ev (callW T tb (n + 4)) tb (.lmeth .append (.var "jobs") [(.tup [(.lit (.str "free")), (.var "pointer"), (.var "t")])]) ([("self", .ref g), ("jobs", .ref ij), ("pointer", ptr k off), ("t", enc (.box u))] : L) _ _
  refine lmeth_var rfl hg ⟨by simp, ?_⟩
  refine append_l hg (by omega) ?_
  have x1 := x.setFree (o := .lst (J ++ [job "free" k off (.box u)])) hr
  have G1 := G.setE (o := .lst (J ++ [job "free" k off (.box u)])) hg
  have g1 : (σ.set ij (.lst (J ++ [job "free" k off (.box u)])))[ij]? = some (.lst (J ++ [job "free" k off (.box u)])) := List.getElem?_set_self hlt
  have e1 : NxE ij R σ R (σ.set ij (.lst (J ++ [job "free" k off (.box u)]))) := NxE.set ⟨⟨[], by simp⟩, fun _ _ _ _ e => e⟩
  show ev (callW T tb (n + 4)) tb (.lmeth .append (.var "jobs") [(.tup [(.lit (.str "drop")), (.meth (.attr (.var "self") "places") "led" [(.var "pointer")]), (.sub (.var "t") (.lit (.int 1)))])]) ([("self", .ref g), ("jobs", .ref ij), ("pointer", ptr k off), ("t", enc (.box u))] : L) _ (σ.set ij (.lst (J ++ [job "free" k off (.box u)])))
  refine lmeth_var rfl g1 ?_
  obtain ⟨p, w, r2, g2, r3, g3⟩ := G1.go
  refine at_i g2 rfl h.a_DropGlue_places ?_
  refine cls_i g3 h.m_Places_led ?_
  refine w_led h x1 r3 g3 ha hv fun R2 σ2 t2 x2 => ?_
  refine sub_t rfl ⟨by simp, ?_⟩
  have g4 := t2.keep _ _ hr g1
  refine append_l g4 (by simp; omega) ?_
  have hlt2 : ij < σ2.length := (List.getElem?_eq_some_iff.mp g4).1
  refine hq _ _ (e1.trans t2.toE).set (x2.setFree (t2.get hr)) ((G1.nx t2).setE g4) ?_
  rw [List.getElem?_set_self hlt2]; simp
theorem w_dropped_parts (h : Facts T tb) {k off : Nat} {t : Ty} {J : List V} {Q : V → S → Prop} (x : Mem R as σ m) (G : Glue R σ g m) (hp : isParts t = true) (hr : R[ij]? = some .free) (hg : σ[ij]? = some (.lst J)) (hz : J.length ≤ 9000)
    (hq : ∀ R' σ', NxE ij R σ R' σ' → Mem R' as σ' m → Glue R' σ' g m → σ'[ij]? = some (.lst (J ++ [job "parts" k off t])) → Q .none σ') : callW T tb (n + 5) "DropGlue" "dropped" [.ref g, .ref ij, ptr k off, enc t] Q σ := by
  have hlt : ij < σ.length := (List.getElem?_eq_some_iff.mp hg).1
  refine callW_fn h.f_DropGlue_dropped rfl ?_
  have e1 : NxE ij R σ R (σ.set ij (.lst (J ++ [job "parts" k off t]))) := NxE.set ⟨⟨[], by simp⟩, fun _ _ _ _ e => e⟩
  have fin := hq _ _ e1 (x.setFree hr) (G.setE hg) (List.getElem?_set_self hlt)
  cases t <;> simp [isParts] at hp
  · rename_i us
    refine sub_t rfl (eq_s false ?_)
    show ev (callW T tb (n + 4)) tb (.lmeth .append (.var "jobs") [(.tup [(.lit (.str "parts")), (.var "pointer"), (.var "t")])]) ([("self", .ref g), ("jobs", .ref ij), ("pointer", ptr k off), ("t", enc (.tup us))] : L) _ _
    refine lmeth_var rfl hg ⟨by simp, ?_⟩
    refine append_l hg (by omega) ?_
    exact sub_t rfl (eq_s false (is_none fin))
  · rename_i u kk
    refine sub_t rfl (eq_s false ?_)
    show ev (callW T tb (n + 4)) tb (.lmeth .append (.var "jobs") [(.tup [(.lit (.str "parts")), (.var "pointer"), (.var "t")])]) ([("self", .ref g), ("jobs", .ref ij), ("pointer", ptr k off), ("t", enc (.arr u kk))] : L) _ _
    refine lmeth_var rfl hg ⟨by simp, ?_⟩
    refine append_l hg (by omega) ?_
    exact sub_t rfl (eq_s false (is_none fin))

/-- the jobs of the parts from the j-th on, the first one last -/
noncomputable def pjobs (k off : Nat) (ts : List Ty) : Nat → List V
  | 0 => []
  | j + 1 => job "drop" k (off + sizes (ts.take j)) (ts.getD j .int) :: pjobs k off ts j

theorem item_rev {a k N : Nat} (h : k < N) (ha : a + 1 = N) : itemAt σ (.rng a (-1) N) k = some (some (.int ((a - k : Nat) : Int))) := by
  simp only [itemAt, if_pos h]
  congr 3
  omega
theorem item_rev_end {a : Int} {N : Nat} : itemAt σ (.rng a (-1) N) N = some none := by simp [itemAt]

theorem w_put_parts (h : Facts T tb) {d k off : Nat} {t : Ty} {J : List V} {N : Nat} {Q : V → S → Prop} (x : Mem R as σ m) (G : Glue R σ g m) (ok : Ok (d + 1) t) (hp : isParts t = true) (hd : d ≤ 6) (hN : 2 * d + 9 ≤ N) (hr : R[ij]? = some .free) (hg : σ[ij]? = some (.lst J)) (hz : J.length ≤ 9000)
    (hq : ∀ R' σ', NxE ij R σ R' σ' → Mem R' as σ' m → Glue R' σ' g m → σ'[ij]? = some (.lst (J ++ pjobs k off (parts t) (parts t).length)) → Q .none σ') : callW T tb N "DropGlue" "put_parts" [.ref g, .ref ij, ptr k off, enc t] Q σ := by
  obtain ⟨n, rfl⟩ : ∃ n, N = n + 2 := ⟨N - 2, by omega⟩
  obtain ⟨hl, hok⟩ := ok.parts
  obtain ⟨p, w, r2, g2, r3, g3⟩ := id G.go
  refine callW_fn h.f_DropGlue_put_parts rfl ?_
  refine ⟨h.n_is_enum, ?_⟩
  refine at_i g2 rfl h.a_DropGlue_world ?_
  refine w_is_enum h ?_
  refine ⟨h.n_parts_told, ?_⟩
  refine at_i g2 rfl h.a_DropGlue_world ?_
  refine w_parts_told h x.inv ok hp fun R1 σ1 ip t1 x1 hrp hgp hip => ?_
  have hlt : ij < σ.length := (List.getElem?_eq_some_iff.mp hg).1
  have hne : ip ≠ ij := by omega
  refine len_l hgp (by rw [encs_map]; simp; omega) ?_
  refine sub_i ?_
  have hlen : (encs (parts t)).length = (parts t).length := by rw [encs_map]; simp
  refine range3 ?_ (by omega) (by rw [hlen]; omega)
  have hN2 : (((encs (parts t)).length : Int) - 1 - (-1 : Int)).toNat = (parts t).length := by rw [hlen]; omega
  rw [hN2]
  refine ⟨(parts t).length + 1, ?_⟩
  refine loopF_all (item := fun j => .int (((parts t).length - 1 - j : Nat) : Int)) (parts t).length (fun j ℓ σ' => (ℓ = ([("self", .ref g), ("jobs", .ref ij), ("pointer", ptr k off), ("t", enc t), ("variant", .none), ("types_now", .ref ip)] : L) ∨
      ∃ a b, ℓ = ([("self", .ref g), ("jobs", .ref ij), ("pointer", ptr k off), ("t", enc t), ("variant", .none), ("types_now", .ref ip), ("k", a), ("at", b)] : L)) ∧
      ∃ R' J', NxE ij R σ R' σ' ∧ Mem R' as σ' m ∧ Glue R' σ' g m ∧ R'[ip]? = some .free ∧ σ'[ip]? = some (.lst (encs (parts t))) ∧ R'[ij]? = some .free ∧ σ'[ij]? = some (.lst J') ∧ J'.length ≤ 9000 + j ∧ J' ++ pjobs k off (parts t) ((parts t).length - j) = J ++ pjobs k off (parts t) (parts t).length)
    (fun j ℓ σ' _ hj => ?_) (fun ℓ σ' _ => item_rev_end) ?_ ?_ ⟨.inl rfl, R1, J, t1.toE, ⟨x1, t1.get x.at_⟩, G.nx t1, hrp, hgp, t1.get hr, t1.keep _ _ hr hg, by omega, rfl⟩
  · have : ((encs (parts t)).length : Int) - 1 = (((parts t).length - 1 : Nat) : Int) := by rw [hlen]; omega
    rw [this]
    rw [item_rev hj (by omega)]
  · rintro j ℓ σ' K hj ⟨hℓ, R', J', e', x', G', rp', gp', rj', gj', hJ', hJe⟩ hK
    have hu : (parts t)[(parts t).length - 1 - j]? = some (parts t)[(parts t).length - 1 - j] := List.getElem?_eq_getElem (by omega)
    obtain ⟨p', w', r4, g4, r5, g5⟩ := G'.go
    have body : ∀ ℓ0 : L, ℓ0 = ([("self", .ref g), ("jobs", .ref ij), ("pointer", ptr k off), ("t", enc t), ("variant", .none), ("types_now", .ref ip), ("k", .int (((parts t).length - 1 - j : Nat) : Int))] : L) ∨
        (∃ b, ℓ0 = ([("self", .ref g), ("jobs", .ref ij), ("pointer", ptr k off), ("t", enc t), ("variant", .none), ("types_now", .ref ip), ("k", .int (((parts t).length - 1 - j : Nat) : Int)), ("at", b)] : L)) →
        exs (callW T tb (n + 1)) tb [.assign "at" (.call "offset_of_part" [(.var "t"), (.var "variant"), (.var "k"), (.attr (.var "self") "world")]),
          .expr (.lmeth .append (.var "jobs") [(.tup [(.lit (.str "drop")), (.call "moved" [(.var "pointer"), (.var "at")]), (.sub (.var "types_now") (.var "k"))])])] ℓ0 K σ' := by
      intro ℓ0 hℓ0
      have core : ∀ R2 σ2, Nx R' σ' R2 σ2 → Inv as.length R2 as σ2 → exs (callW T tb (n + 1)) tb [.expr (.lmeth .append (.var "jobs") [(.tup [(.lit (.str "drop")), (.call "moved" [(.var "pointer"), (.var "at")]), (.sub (.var "types_now") (.var "k"))])])]
          ([("self", .ref g), ("jobs", .ref ij), ("pointer", ptr k off), ("t", enc t), ("variant", .none), ("types_now", .ref ip), ("k", .int (((parts t).length - 1 - j : Nat) : Int)), ("at", .int ((sizes ((parts t).take ((parts t).length - 1 - j)) : Nat) : Int))] : L) K σ2 := by
        intro R2 σ2 t2 x2
        have gj2 := t2.keep _ _ rj' gj'
        show ev (callW T tb (n + 1)) tb (.lmeth .append (.var "jobs") [(.tup [(.lit (.str "drop")), (.call "moved" [(.var "pointer"), (.var "at")]), (.sub (.var "types_now") (.var "k"))])])
          ([("self", .ref g), ("jobs", .ref ij), ("pointer", ptr k off), ("t", enc t), ("variant", .none), ("types_now", .ref ip), ("k", .int (((parts t).length - 1 - j : Nat) : Int)), ("at", .int ((sizes ((parts t).take ((parts t).length - 1 - j)) : Nat) : Int))] : L) _ _
        refine lmeth_var rfl gj2 ?_
        refine ⟨h.n_moved, ?_⟩
        refine w_moved h ?_
        refine sub_l (v := enc (parts t)[(parts t).length - 1 - j]) (t2.keep _ _ rp' gp') (by omega) (by omega) (by rw [encs_map, Int.toNat_natCast]; simp [hu]) ?_
        refine ⟨by simp, ?_⟩
        refine append_l gj2 (by omega) ?_
        have hlt2 : ij < σ2.length := (List.getElem?_eq_some_iff.mp gj2).1
        have ej : (parts t).length - j = ((parts t).length - 1 - j) + 1 := by omega
        have e3 : (off : Int) + ((sizes ((parts t).take ((parts t).length - 1 - j)) : Nat) : Int) = ((off + sizes ((parts t).take ((parts t).length - 1 - j)) : Nat) : Int) := by push_cast; rfl
        rw [e3]
        refine hK _ _ ⟨.inr ⟨_, _, rfl⟩, R2, J' ++ [job "drop" k (off + sizes ((parts t).take ((parts t).length - 1 - j))) (parts t)[(parts t).length - 1 - j]], (e'.trans t2.toE).set, Mem.setFree ⟨x2, t2.get x'.at_⟩ (t2.get rj'), (G'.nx t2).setE gj2, t2.get rp', ?_, t2.get rj', List.getElem?_set_self hlt2, by simp; omega, ?_⟩
        · rw [List.getElem?_set_ne (Ne.symm hne)]; exact t2.keep _ _ rp' gp'
        · rw [← hJe, ej, pjobs]
          have : (parts t).length - (j + 1) = (parts t).length - 1 - j := by omega
          rw [this, List.append_assoc]
          congr 1
          simp [List.getD, hu]
      rcases hℓ0 with rfl | ⟨b, rfl⟩
      · refine ⟨h.n_offset_of_part, ?_⟩
        refine at_i g4 rfl h.a_DropGlue_world ?_
        exact w_offset_of_part h x'.inv ok hp (by omega) (by omega) (by omega) core
      · refine ⟨h.n_offset_of_part, ?_⟩
        refine at_i g4 rfl h.a_DropGlue_world ?_
        exact w_offset_of_part h x'.inv ok hp (by omega) (by omega) (by omega) core
    rcases hℓ with rfl | ⟨a, b, rfl⟩
    · exact body _ (.inl rfl)
    · exact body _ (.inr ⟨b, rfl⟩)
  · rintro ℓ σ' ⟨_, R', J', e', x', G', rp', gp', rj', gj', hJ', hJe⟩
    rw [Nat.sub_self, pjobs, List.append_nil] at hJe
    subst hJe
    exact hq _ _ e' x' G' gj'
end
end Mine

end
section
open PySem PySem.W
set_option Elab.async false
set_option maxRecDepth 100000
namespace Mine

section
variable {c m g e ij : Nat} {R R' R₁ R₂ : List Role} {as as' : AS} {σ σ' σ₁ σ₂ : S} {T : Str → Str → Option Ent} {tb : Tb} {n : Nat}

noncomputable def Steps (T : Str → Str → Option Ent) (tb : Tb) (N g ij m : Nat) (as : AS) (J : List V) (as' : AS) (J' : List V) : Prop :=
  ∀ (R : List Role) (σ : S) (Q : V → S → Prop), Mem R as σ m → Glue R σ g m → R[ij]? = some .free → σ[ij]? = some (.lst J) →
    (∀ R' σ', NxE ij R σ R' σ' → Mem R' as' σ' m → Glue R' σ' g m → R'[ij]? = some .free → σ'[ij]? = some (.lst J') → Q .none σ') → callW T tb N "DropGlue" "step" [.ref g, .ref ij] Q σ

theorem isnot_none {Q : Bool → Prop} (hq : Q false) : cmpW .IsNot .none .none Q σ := by delta cmpW; exact hq


theorem w_step_pre (h : Facts T tb) {s : Str} {k off : Nat} {t : Ty} {J : List V} {Q : V → S → Prop} (hg : σ[ij]? = some (.lst (J ++ [job s k off t]))) (hz : J.length ≤ 9000)
    (rest : exs (callW T tb n) tb (b_DropGlue_step.body.drop 1) ([("self", .ref g), ("jobs", .ref ij), ("kind", .str s), ("pointer", ptr k off), ("t", enc t)] : L) (fun fl _ σ' => match fl with | .ret v => Q v σ' | .next => Q .none σ') (σ.set ij (.lst J))) :
    callW T tb (n + 1) "DropGlue" "step" [.ref g, .ref ij] Q σ := by
  refine callW_fn h.f_DropGlue_step rfl ?_
  show ev (callW T tb n) tb (.lmeth .pop (.var "jobs") []) ([("self", .ref g), ("jobs", .ref ij)] : L) _ _
  refine lmeth_var rfl hg ?_
  exact pop_l hg (by simp; omega) ⟨rfl, rest⟩

theorem set_facts {l l' : List V} (x : Mem R as σ m) (G : Glue R σ g m) (hr : R[ij]? = some .free) (hg : σ[ij]? = some (.lst l)) : Mem R as (σ.set ij (.lst l')) m ∧ Glue R (σ.set ij (.lst l')) g m ∧ (σ.set ij (.lst l'))[ij]? = some (.lst l') ∧ NxE ij R σ R (σ.set ij (.lst l')) :=
  ⟨x.setFree hr, G.setE hg, List.getElem?_set_self (List.getElem?_eq_some_iff.mp hg).1, NxE.set ⟨⟨[], by simp⟩, fun _ _ _ _ e => e⟩⟩

theorem step_none (h : Facts T tb) {d k off N : Nat} {t : Ty} {J : List V} (ok : Ok d t) (hd : d ≤ 8) (hN : 4 ≤ N) (hb : hasBox t = false) (hz : J.length ≤ 9000) : Steps T tb N g ij m as (J ++ [job "drop" k off t]) as J := by
  obtain ⟨n, rfl⟩ : ∃ n, N = n + 4 := ⟨N - 4, by omega⟩
  intro R σ Q x G hr hg hq
  have fq := set_facts (l' := J) x G hr hg
  have x1 := fq.1
  have G1 := fq.2.1
  have g1 := fq.2.2.1
  have e1 := fq.2.2.2
  refine w_step_pre h hg hz ?_
  obtain ⟨p, w, r2, g2, r3, g3⟩ := G1.go
  refine eq_s false (eq_s false (eq_s false ⟨h.n_needs_drop, ?_⟩))
  refine at_i g2 rfl h.a_DropGlue_world ?_
  refine w_needs_drop h hd x1.inv ok fun R2 σ2 t2 x2 => ?_
  rw [hb]
  exact hq _ _ (e1.trans t2.toE) ⟨x2, t2.get x.at_⟩ (G1.nx t2) (t2.get hr) (t2.keep _ _ hr g1)
theorem step_box (h : Facts T tb) {d k off N k' : Nat} {u : Ty} {J : List V} {cs : List V} (ok : Ok d (.box u)) (hd : d ≤ 8) (hN : 8 ≤ N) (hz : J.length ≤ 8000) (ha : as[k]? = some (cs, true)) (hv : cs[off]? = some (ptr k' 0)) :
    Steps T tb N g ij m as (J ++ [job "drop" k off (.box u)]) as (J ++ [job "free" k off (.box u), job "drop" k' 0 u]) := by
  obtain ⟨n, rfl⟩ : ∃ n, N = n + 8 := ⟨N - 8, by omega⟩
  intro R σ Q x G hr hg hq
  have fq := set_facts (l' := J) x G hr hg
  have x1 := fq.1
  have G1 := fq.2.1
  have g1 := fq.2.2.1
  have e1 := fq.2.2.2
  refine w_step_pre h hg (by omega) ?_
  obtain ⟨p, w, r2, g2, r3, g3⟩ := G1.go
  refine eq_s false (eq_s false (eq_s false ⟨h.n_needs_drop, ?_⟩))
  refine at_i g2 rfl h.a_DropGlue_world ?_
  refine w_needs_drop h hd x1.inv ok fun R2 σ2 t2 x2 => ?_
  refine cls_i (t2.keep _ _ r2 g2) h.m_DropGlue_dropped ?_
  refine w_dropped_box h ⟨x2, t2.get x.at_⟩ (G1.nx t2) (t2.get hr) (t2.keep _ _ hr g1) (by omega) ha hv fun R3 σ3 e3 x3 G3 g3 => ?_
  exact hq _ _ ((e1.trans t2.toE).trans e3) x3 G3 (e3.get (t2.get hr)) g3
theorem step_parts0 (h : Facts T tb) {d k off N : Nat} {t : Ty} {J : List V} (ok : Ok d t) (hp : isParts t = true) (hb : hasBox t = true) (hd : d ≤ 8) (hN : 8 ≤ N) (hz : J.length ≤ 8000) : Steps T tb N g ij m as (J ++ [job "drop" k off t]) as (J ++ [job "parts" k off t]) := by
  obtain ⟨n, rfl⟩ : ∃ n, N = n + 8 := ⟨N - 8, by omega⟩
  intro R σ Q x G hr hg hq
  have fq := set_facts (l' := J) x G hr hg
  have x1 := fq.1
  have G1 := fq.2.1
  have g1 := fq.2.2.1
  have e1 := fq.2.2.2
  refine w_step_pre h hg (by omega) ?_
  obtain ⟨p, w, r2, g2, r3, g3⟩ := G1.go
  refine eq_s false (eq_s false (eq_s false ⟨h.n_needs_drop, ?_⟩))
  refine at_i g2 rfl h.a_DropGlue_world ?_
  refine w_needs_drop h hd x1.inv ok fun R2 σ2 t2 x2 => ?_
  rw [hb]
  refine cls_i (t2.keep _ _ r2 g2) h.m_DropGlue_dropped ?_
  refine w_dropped_parts h ⟨x2, t2.get x.at_⟩ (G1.nx t2) hp (t2.get hr) (t2.keep _ _ hr g1) (by omega) fun R3 σ3 e3 x3 G3 g3 => ?_
  exact hq _ _ ((e1.trans t2.toE).trans e3) x3 G3 (e3.get (t2.get hr)) g3
theorem step_parts (h : Facts T tb) {d k off N : Nat} {t : Ty} {J : List V} (ok : Ok (d + 1) t) (hp : isParts t = true) (hd : d ≤ 6) (hN : 30 ≤ N) (hz : J.length ≤ 8000) : Steps T tb N g ij m as (J ++ [job "parts" k off t]) as (J ++ pjobs k off (parts t) (parts t).length) := by
  obtain ⟨n, rfl⟩ : ∃ n, N = n + 1 := ⟨N - 1, by omega⟩
  intro R σ Q x G hr hg hq
  have fq := set_facts (l' := J) x G hr hg
  have x1 := fq.1
  have G1 := fq.2.1
  have g1 := fq.2.2.1
  have e1 := fq.2.2.2
  refine w_step_pre h hg (by omega) ?_
  obtain ⟨p, w, r2, g2, r3, g3⟩ := G1.go
  refine eq_s false (eq_s false (eq_s true ?_))
  refine cls_i g2 h.m_DropGlue_put_parts ?_
  refine w_put_parts h x1 G1 ok hp hd (by omega) hr g1 (by omega) fun R3 σ3 e3 x3 G3 g3 => ?_
  exact hq _ _ (e1.trans e3) x3 G3 (e3.get hr) g3
theorem step_free (h : Facts T tb) {k off N k' : Nat} {u : Ty} {J : List V} {cs cs' : List V} (hN : 8 ≤ N) (hz : J.length ≤ 8000) (ha : as[k]? = some (cs, true)) (hv : cs[off]? = some (ptr k' 0)) (ha' : as[k']? = some (cs', true)) :
    Steps T tb N g ij m as (J ++ [job "free" k off (.box u)]) (as.set k' (cs', false)) J := by
  obtain ⟨n, rfl⟩ : ∃ n, N = n + 8 := ⟨N - 8, by omega⟩
  intro R σ Q x G hr hg hq
  have fq := set_facts (l' := J) x G hr hg
  have x1 := fq.1
  have G1 := fq.2.1
  have g1 := fq.2.2.1
  have e1 := fq.2.2.2
  refine w_step_pre h hg (by omega) ?_
  obtain ⟨p, w, r2, g2, r3, g3⟩ := G1.go
  refine eq_s false (eq_s true ?_)
  refine at_i g2 rfl h.a_DropGlue_places ?_
  refine at_i g3 rfl h.a_Places_memory ?_
  obtain ⟨_, em, la, rfl, _⟩ := x1.inv.getRole x1.at_
  refine cls_i em h.m_Memory_free ?_
  refine at_i g2 rfl h.a_DropGlue_places ?_
  refine cls_i g3 h.m_Places_led ?_
  refine w_led h x1 r3 g3 ha hv fun R2 σ2 t2 x2 => ?_
  refine sub_t rfl ?_
  refine w_free h x2 ha' fun σ3 t3 x3 => ?_
  have t23 := t2.trans t3
  exact hq _ _ (e1.trans t23.toE) x3 (G1.nx t23) (t23.get hr) (t23.keep _ _ hr g1)
theorem step_gone (h : Facts T tb) {d k N : Nat} {t : Ty} {J : List V} {cs : List V} (ok : Ok d t) (hd : d ≤ 6) (hN : 30 ≤ N) (hz : J.length ≤ 8000) (ha : as[k]? = some (cs, true)) (hl : cs.length = size t) :
    Steps T tb N g ij m as (J ++ [job "gone" k 0 t]) (as.set k (List.replicate (size t) vUNINIT, true)) J := by
  obtain ⟨n, rfl⟩ : ∃ n, N = n + 1 := ⟨N - 1, by omega⟩
  intro R σ Q x G hr hg hq
  have fq := set_facts (l' := J) x G hr hg
  have x1 := fq.1
  have G1 := fq.2.1
  have g1 := fq.2.2.1
  have e1 := fq.2.2.2
  refine w_step_pre h hg (by omega) ?_
  obtain ⟨p, w, r2, g2, r3, g3⟩ := G1.go
  refine eq_s true ?_
  refine at_i g2 rfl h.a_DropGlue_places ?_
  refine cls_i g3 h.m_Places_leave ?_
  refine w_leave h x1 r3 g3 ok hd (by omega) ha hl fun R2 σ2 t2 x2 => ?_
  exact hq _ _ (e1.trans t2.toE) x2 (G1.nx t2) (t2.get hr) (t2.keep _ _ hr g1)

/-! the loop -/
noncomputable def live (as : AS) (k : Nat) : Bool := match as[k]? with | some a => a.2 | none => false
noncomputable abbrev kInts (ks : List Nat) : List V := ks.map fun k : Nat => V.int (k : Int)
noncomputable abbrev lpBody : List St := match b__law_dropped_right.body with | [_, .while _ bd, _, _, _] => bd | _ => []
noncomputable abbrev lpTest : Ex := match b__law_dropped_right.body with | [_, .while c _, _, _, _] => c | _ => .dct
noncomputable abbrev lpL (m hm io g ij many ifr : Nat) (kd : Ty) (tail : L) : L := ([("memory", .ref m), ("home", .int hm), ("kind", enc kd), ("order", .ref io), ("glue", .ref g), ("jobs", .ref ij), ("many", .int many), ("freed", .ref ifr)] : L) ++ tail

theorem comp_filter {i : Nat} {ks : List Nat} (hg : σ[i]? = some (.lst (kInts ks))) (p : Nat → Bool) {elt : V → (List V → S → Prop) → S → Prop} {Q : List V → S → Prop} (step : ∀ k ∈ ks, ∀ K, K (if p k then [.int k] else []) σ → elt (.int k) K σ) (fin : Q (kInts (ks.filter p)) σ) : loopC elt (.ref i) (ks.length + 1) 0 [] Q σ := by
  refine loopC_all (item := fun k => (kInts ks).getD k .none) ks.length (fun k acc σ' => σ' = σ ∧ acc = kInts ((ks.take k).filter p)) (fun k acc σ' hP hk => ?_) (fun acc σ' hP => ?_) ?_ ?_ ⟨rfl, by simp⟩
  · rw [hP.1, item_l hg]; simp [List.getD, hk]
  · rw [hP.1, item_l hg]; simp
  · rintro k acc σ' K hk ⟨rfl, rfl⟩ hK
    have hv : (kInts ks).getD k .none = .int (ks[k] : Nat) := by simp [List.getD, hk]
    rw [hv]
    refine step _ (List.getElem_mem hk) K (hK _ _ ⟨rfl, ?_⟩)
    rw [List.take_add_one, List.getElem?_eq_getElem hk, List.filter_append]
    show _ = List.map _ (_ ++ _)
    rw [List.map_append]
    cases hp : p ks[k] <;> simp [hp]
  · rintro acc σ' ⟨rfl, rfl⟩
    rw [List.take_length]; exact fin

/-- the loop from a state on does what is asked -/
noncomputable def Lp (R0 : List Role) (σ0 : S) (T : Str → Str → Option Ent) (tb : Tb) (N m hm io g ij : Nat) (kd : Ty) (O : List Nat) (Qf : Fl → L → S → Prop) (fuel many : Nat) (F : List Nat) (as : AS) (J : List V) : Prop :=
  ∀ (R : List Role) (σ : S) (ifr : Nat) (tail : L), (tail = [] ∨ ∃ a, tail = ([("ahead", a)] : L)) → NxE ij R0 σ0 R σ → Mem R as σ m → Glue R σ g m → R[ij]? = some .free → σ[ij]? = some (.lst J) → R[ifr]? = some .free → σ[ifr]? = some (.lst (kInts F)) → ifr ≠ ij → R[io]? = some .free → σ[io]? = some (.lst (kInts O)) → io ≠ ij →
    loopW (fun ℓ' K σ' => tru (callW T tb N) tb lpTest ℓ' K σ') (fun ℓ' K σ' => exs (callW T tb N) tb lpBody ℓ' K σ') fuel (lpL m hm io g ij many ifr kd tail) Qf σ

theorem lp_iter {R0 : List Role} {σ0 : S} (h : Facts T tb) {N hm io fuel many : Nat} {kd : Ty} {O F : List Nat} {Qf : Fl → L → S → Prop} {J J' : List V} (hN : 8 ≤ N) (hO : ∀ k ∈ O, k < as.length) (hO' : ∀ k ∈ O, k < as'.length) (hOl : O.length ≤ 900) (hF : F.length ≤ 900) (hs : Steps T tb N g ij m as J as' J') (hJ : J ≠ []) (hp : PlA 40 J) (hm4 : many < 400)
    (next : Lp R0 σ0 T tb N m hm io g ij kd O Qf fuel (many + 1) (F ++ (O.filter (live as)).filter (fun k => !live as' k)) as' J') : Lp R0 σ0 T tb N m hm io g ij kd O Qf (fuel + 1) many F as J := by
  obtain ⟨n, rfl⟩ : ∃ n, N = n + 8 := ⟨N - 8, by omega⟩
  intro R σ ifr tail htail e0 x G hr hg hrf hgf hne hro hgo hneo
  dsimp only [loopW]
  have isl : ∀ {R : List Role} {as : AS} {σ : S} {k : Nat} {Q : V → S → Prop}, Mem R as σ m → k < as.length → Q (.bool (live as k)) σ → callW T tb (n + 8) "Memory" "is_live" [.ref m, .int k] Q σ := by
    intro R as σ k Q x hk hq
    have ha : as[k]? = some as[k] := List.getElem?_eq_getElem hk
    refine w_is_live h x ha ?_
    have : live as k = as[k].2 := by unfold live; rw [ha]
    rw [← this]; exact hq
  have go : ∀ ℓ0 : L, (ℓ0 = lpL m hm io g ij many ifr kd [] ∨ ∃ a, ℓ0 = lpL m hm io g ij many ifr kd ([("ahead", a)] : L)) → tru (callW T tb (n + 8)) tb lpTest ℓ0 (fun b σ' => match b with
    | false => Qf .next ℓ0 σ'
    | true => exs (callW T tb (n + 8)) tb lpBody ℓ0 (fun f ℓ' σ'' => match f with
      | .next => loopW (fun ℓ' K σ' => tru (callW T tb (n + 8)) tb lpTest ℓ' K σ') (fun ℓ' K σ' => exs (callW T tb (n + 8)) tb lpBody ℓ' K σ') fuel ℓ' Qf σ''
      | .ret u => Qf (.ret u) ℓ' σ'') σ') σ := by
    intro ℓ0 hℓ0
    have fq := x.inv.free (.lst [])
    have x1 := fq.1
    have t1 := fq.2
    have x1m : Mem (R ++ [.free]) as (σ ++ [.lst []]) m := ⟨x1, t1.get x.at_⟩
    have hJe : (!J.isEmpty) = true := by cases J <;> simp at hJ ⊢
    have body : ∀ (R2 : List Role) (σ2 : S), Nx R σ R2 σ2 → Mem R2 as σ2 m → ∀ a : V, True → R2[(match a with | .ref i => i | _ => 0)]? = some .free → (∃ i, a = .ref i ∧ i ≠ ij ∧ σ2[i]? = some (.lst (kInts (O.filter (live as))))) →
        exs (callW T tb (n + 8)) tb lpBody.tail (lpL m hm io g ij many ifr kd ([("ahead", a)] : L)) (fun f ℓ' σ'' => match f with
      | .next => loopW (fun ℓ' K σ' => tru (callW T tb (n + 8)) tb lpTest ℓ' K σ') (fun ℓ' K σ' => exs (callW T tb (n + 8)) tb lpBody ℓ' K σ') fuel ℓ' Qf σ''
      | .ret u => Qf (.ret u) ℓ' σ'') σ2 := by
      rintro R2 σ2 t2 x2 a _ hra ⟨ia, rfl, hia, gia⟩
      have G2 := G.nx t2
      obtain ⟨p, w, r4, g4, r5, g5⟩ := G2.go
      refine cls_i g4 h.m_DropGlue_step ?_
      refine hs R2 σ2 _ x2 G2 (t2.get hr) (t2.keep _ _ hr hg) fun R3 σ3 e3 x3 G3 hr3 hg3 => ?_
      refine isnot_none ?_
      have hra : R2[ia]? = some .free := hra
      have gia3 := e3.keep _ _ hia hra gia
      refine ⟨(O.filter (live as)).length + 1, by have := List.length_filter_le (live as) O; omega, ?_⟩
      refine comp_filter gia3 (fun k => !live as' k) (fun k hk K hK => ?_) ?_
      · obtain ⟨_, em, la, rfl, _⟩ := x3.inv.getRole x3.at_
        refine cls_i em h.m_Memory_is_live ?_
        refine isl x3 (hO' k (List.mem_filter.mp hk).1) ?_
        cases hl : live as' k
        · rw [hl] at hK; exact hK
        · rw [hl] at hK; exact hK
      · have fq := x3.inv.free (.lst (kInts ((O.filter (live as)).filter fun k => !live as' k)))
        have x4 := fq.1
        have t4 := fq.2
        have hrf3 := e3.get (t2.get hrf)
        have hgf3 := e3.keep _ _ hne (t2.get hrf) (t2.keep _ _ hrf hgf)
        have l1 := List.length_filter_le (live as) O
        have l2 := List.length_filter_le (fun k => !live as' k) (O.filter (live as))
        refine cat (get_app hgf3) get_new (by rw [List.length_map, List.length_map]; omega) ?_
        have fq := x4.free (.lst (kInts F ++ kInts ((O.filter (live as)).filter fun k => !live as' k)))
        have x5 := fq.1
        have t5 := fq.2
        refine add_i ?_
        have t45 := t4.trans t5
        have hij : ij < σ3.length := (List.getElem?_eq_some_iff.mp hg3).1
        have := next (R3 ++ [.free] ++ [.free]) _ (σ3 ++ [Mine.O.lst (kInts ((O.filter (live as)).filter fun k => !live as' k))]).length ([("ahead", .ref ia)] : L) (.inr ⟨_, rfl⟩) (e0.trans (t2.toE.trans (e3.trans t45.toE))) ⟨x5, t45.get x3.at_⟩ (G3.nx t45) (t45.get hr3) (t45.keep _ _ hr3 hg3) (by rw [← x4.len]; exact get_new)
          (by rw [show kInts (F ++ (O.filter (live as)).filter fun k => !live as' k) = kInts F ++ kInts ((O.filter (live as)).filter fun k => !live as' k) from List.map_append]; exact get_new) (by simp; omega) (t45.get (e3.get (t2.get hro))) (t45.keep _ _ (e3.get (t2.get hro)) (e3.keep _ _ hneo (t2.get hro) (t2.keep _ _ hro hgo))) hneo
        exact this
    have start : ∀ ℓ0 : L, (ℓ0 = lpL m hm io g ij many ifr kd [] ∨ ∃ a, ℓ0 = lpL m hm io g ij many ifr kd ([("ahead", a)] : L)) → exs (callW T tb (n + 8)) tb lpBody ℓ0 (fun f ℓ' σ'' => match f with
      | .next => loopW (fun ℓ' K σ' => tru (callW T tb (n + 8)) tb lpTest ℓ' K σ') (fun ℓ' K σ' => exs (callW T tb (n + 8)) tb lpBody ℓ' K σ') fuel ℓ' Qf σ''
      | .ret u => Qf (.ret u) ℓ' σ'') (σ ++ [.lst []]) := by
      intro ℓ0 hℓ0
      have hij : ij < σ.length := (List.getElem?_eq_some_iff.mp hg).1
      have fin : ∀ l : List V, l = kInts (O.filter (live as)) → exs (callW T tb (n + 8)) tb lpBody.tail (lpL m hm io g ij many ifr kd ([("ahead", .ref (σ ++ [Mine.O.lst []]).length)] : L)) (fun f ℓ' σ'' => match f with
      | .next => loopW (fun ℓ' K σ' => tru (callW T tb (n + 8)) tb lpTest ℓ' K σ') (fun ℓ' K σ' => exs (callW T tb (n + 8)) tb lpBody ℓ' K σ') fuel ℓ' Qf σ''
      | .ret u => Qf (.ret u) ℓ' σ'') (σ ++ [.lst []] ++ [.lst l]) := by
        rintro l rfl
        have fq := x1.free (.lst (kInts (O.filter (live as))))
        have x2 := fq.1
        have t2 := fq.2
        exact body _ _ (t1.trans t2) ⟨x2, (t1.trans t2).get x.at_⟩ _ trivial (by rw [← x1.len]; exact get_new) ⟨_, rfl, by simp; omega, get_new⟩
      have flt : ∀ {elt : V → (List V → S → Prop) → S → Prop} {Q : List V → S → Prop}, (∀ k ∈ O, ∀ K, K (if live as k then [.int k] else []) (σ ++ [.lst []]) → elt (.int k) K (σ ++ [.lst []])) → Q (kInts (O.filter (live as))) (σ ++ [.lst []]) → loopC elt (.ref io) (O.length + 1) 0 [] Q (σ ++ [.lst []]) :=
        fun step fin => comp_filter (get_app hgo) (live as) step fin
      rcases hℓ0 with rfl | ⟨a, rfl⟩
      · refine ⟨O.length + 1, by omega, flt (fun k hk K hK => ?_) (fin _ rfl)⟩
        obtain ⟨_, em, la, rfl, _⟩ := x1m.inv.getRole x1m.at_
        refine cls_i em h.m_Memory_is_live ?_
        refine isl x1m (hO k hk) ?_
        cases hl : live as k
        · rw [hl] at hK; exact hK
        · rw [hl] at hK; exact hK
      · refine ⟨O.length + 1, by omega, flt (fun k hk K hK => ?_) (fin _ rfl)⟩
        obtain ⟨_, em, la, rfl, _⟩ := x1m.inv.getRole x1m.at_
        refine cls_i em h.m_Memory_is_live ?_
        refine isl x1m (hO k hk) ?_
        cases hl : live as k
        · rw [hl] at hK; exact hK
        · rw [hl] at hK; exact hK
    rcases id hℓ0 with rfl | ⟨a, rfl⟩
    · refine ⟨by simp, ?_⟩
      refine ne_nil (get_app hg) get_new hp (by omega) ?_
      rw [hJe]
      refine lt_t (by omega) ?_
      exact start _ hℓ0
    · refine ⟨by simp, ?_⟩
      refine ne_nil (get_app hg) get_new hp (by omega) ?_
      rw [hJe]
      refine lt_t (by omega) ?_
      exact start _ hℓ0
  rcases htail with rfl | ⟨a, rfl⟩
  · exact go _ (.inl rfl)
  · exact go _ (.inr ⟨a, rfl⟩)
end
end Mine

end
section
open PySem PySem.W
set_option Elab.async false
set_option maxRecDepth 100000
namespace Mine

noncomputable def kill1 (as : AS) (k : Nat) : AS := match as[k]? with | some a => as.set k (a.1, false) | none => as
noncomputable def kill (as : AS) : List Nat → AS
  | [] => as
  | k :: r => kill (kill1 as k) r
theorem kill_app (as : AS) : ∀ ks ls : List Nat, kill as (ks ++ ls) = kill (kill as ks) ls
  | [], ls => rfl
  | k :: r, ls => by simp only [List.cons_append, kill]; exact kill_app _ r ls
theorem kill1_get (as : AS) (k j : Nat) : (kill1 as k)[j]? = (as[j]?).map fun a => (a.1, if j = k then false else a.2) := by
  unfold kill1
  cases h : as[k]? with
  | none =>
    dsimp only
    by_cases e : j = k
    · subst e; rw [h]; rfl
    · cases q : as[j]? <;> simp [e]
  | some a =>
    dsimp only
    have hk := (List.getElem?_eq_some_iff.mp h).1
    by_cases e : j = k
    · subst e; rw [List.getElem?_set_self hk, h]; simp
    · rw [List.getElem?_set_ne (Ne.symm e)]
      cases q : as[j]? <;> simp [e]
theorem kill_get : ∀ (ks : List Nat) (as : AS) (j : Nat), (kill as ks)[j]? = (as[j]?).map fun a => (a.1, if j ∈ ks then false else a.2)
  | [], as, j => by cases h : as[j]? <;> simp [kill, h]
  | k :: r, as, j => by
    rw [kill, kill_get r, kill1_get]
    cases h : as[j]? with
    | none => rfl
    | some a =>
      simp only [Option.map_some, List.mem_cons]
      by_cases e : j = k <;> by_cases e2 : j ∈ r <;> simp [e, e2]
theorem kill_len (as : AS) : ∀ ks, (kill as ks).length = as.length := fun ks => by
  induction ks generalizing as with
  | nil => rfl
  | cons k r ih =>
    rw [kill, ih]
    unfold kill1
    split <;> simp
theorem kill_keep {as : AS} {ks : List Nat} {k : Nat} {a : List V × Bool} (h : as[k]? = some a) (hk : k ∉ ks) : (kill as ks)[k]? = some a := by
  rw [kill_get, h]; simp [hk]
mutual
theorem InMem.kill {as : AS} {ks : List Nat} : ∀ {v : Va}, InMem as v → (∀ k ∈ order v, k ∉ ks) → InMem (kill as ks) v
  | .int _, _, _ => trivial
  | .bool _, _, _ => trivial
  | .box k v, h, hd => ⟨kill_keep h.1 (hd k (by simp [order])), InMem.kill h.2 fun j hj => hd j (by simp [order, hj])⟩
  | .agg vs, h, hd => InMems.kill h hd
theorem InMems.kill {as : AS} {ks : List Nat} : ∀ {vs : List Va}, InMems as vs → (∀ k ∈ orders vs, k ∉ ks) → InMems (kill as ks) vs
  | [], _, _ => trivial
  | v :: r, h, hd => ⟨InMem.kill h.1 fun j hj => hd j (by simp [orders, hj]), InMems.kill h.2 fun j hj => hd j (by simp [orders, hj])⟩
end
mutual
theorem InMem.live {as : AS} : ∀ {v : Va}, InMem as v → ∀ k ∈ order v, Mine.live as k = true
  | .int _, _, k, hk => by simp [order] at hk
  | .bool _, _, k, hk => by simp [order] at hk
  | .box k v, h, j, hj => by
    simp only [order, List.mem_append, List.mem_singleton] at hj
    rcases hj with hj | rfl
    · exact InMem.live h.2 j hj
    · unfold Mine.live; rw [h.1]
  | .agg vs, h, k, hk => InMems.live h k hk
theorem InMems.live {as : AS} : ∀ {vs : List Va}, InMems as vs → ∀ k ∈ orders vs, Mine.live as k = true
  | [], _, k, hk => by simp [orders] at hk
  | v :: r, h, k, hk => by
    simp only [orders, List.mem_append] at hk
    rcases hk with hk | hk
    · exact InMem.live h.1 k hk
    · exact InMems.live h.2 k hk
end
theorem live_lt {as : AS} {k : Nat} (h : live as k = true) : k < as.length := by
  unfold live at h
  split at h
  · rename_i a ha; exact (List.getElem?_eq_some_iff.mp ha).1
  · cases h
theorem order_none : ∀ {d : Nat} {t : Ty} {v : Va}, Typ d t v → hasBox t = false → order v = []
  | 0, t, v, h, _ => by rcases h with ⟨rfl, i, rfl⟩ | ⟨rfl, i, rfl⟩ <;> rfl
  | d + 1, t, v, h, hb => by
    rcases h with ⟨rfl, i, rfl⟩ | ⟨rfl, i, rfl⟩ | ⟨u, k, v', rfl, rfl, h⟩ | ⟨hp, vs, rfl, h⟩
    · rfl
    · rfl
    · simp [hasBox] at hb
    · have hb' : ∀ u ∈ parts t, hasBox u = false := by
        cases t <;> simp [isParts] at hp
        · simp only [hasBox, hasBoxes_any, List.any_eq_false] at hb
          intro u hu; simpa using hb u hu
        · dsimp only [hasBox] at hb
          intro u hu; simp only [parts, List.mem_replicate] at hu; rw [hu.2]; exact hb
      have go : ∀ {ts : List Ty} {vs : List Va}, Typs (Typ d) ts vs → (∀ u ∈ ts, hasBox u = false) → orders vs = [] := fun {ts} {vs} h => by
        induction h with
        | nil => intro _; rfl
        | cons h r ih => intro hb; simp [orders, order_none h (hb _ (by simp)), ih fun u hu => hb u (by simp [hu])]
      exact go h hb'
theorem filter_none (as : AS) (O : List Nat) : (O.filter (live as)).filter (fun k => !live as k) = [] := by
  rw [List.filter_filter, List.filter_eq_nil_iff]
  intro k _
  cases live as k <;> simp
theorem filter_single {k : Nat} : ∀ {O : List Nat}, O.Nodup → k ∈ O → O.filter (fun j => j == k) = [k]
  | [], _, h => by simp at h
  | j :: r, hn, h => by
    rw [List.nodup_cons] at hn
    rw [List.filter_cons]
    by_cases e : j = k
    · subst e
      have : r.filter (fun i => i == j) = [] := by
        rw [List.filter_eq_nil_iff]; intro i hi; simp; rintro rfl; exact hn.1 hi
      simp [this]
    · have : (j == k) = false := by simpa using e
      rcases List.mem_cons.mp h with h | h
      · exact absurd h.symm e
      · simp only [this]; simpa using filter_single hn.2 h
theorem live_set {as : AS} {k j : Nat} {cs : List V} (hk : k < as.length) : live (as.set k (cs, false)) j = (if j = k then false else live as j) := by
  unfold live
  by_cases e : j = k
  · subst e; rw [List.getElem?_set_self hk]; simp
  · rw [List.getElem?_set_ne (Ne.symm e)]; simp [e]
theorem filter_free {as : AS} {k : Nat} {cs : List V} {O : List Nat} (hn : O.Nodup) (hO : k ∈ O) (hl : live as k = true) : (O.filter (live as)).filter (fun j => !live (as.set k (cs, false)) j) = [k] := by
  rw [List.filter_filter, ← filter_single hn hO]
  apply List.filter_congr
  intro j hj
  rw [live_set (live_lt hl)]
  by_cases e : j = k
  · subst e; simp [hl]
  · simp [e]
noncomputable def revjobs (k : Nat) : Nat → List Ty → List V
  | _, [] => []
  | o, t :: r => revjobs k (o + size t) r ++ [job "drop" k o t]
theorem pjobs_cons (k off : Nat) (t : Ty) (r : List Ty) : ∀ j, pjobs k off (t :: r) (j + 1) = pjobs k (off + size t) r j ++ [job "drop" k off t]
  | 0 => by simp [pjobs, sizes]
  | j + 1 => by
    rw [pjobs, pjobs_cons k off t r j, pjobs]
    simp [sizes, Nat.add_assoc]
theorem pjobs_rev (k : Nat) : ∀ (ts : List Ty) (off : Nat), pjobs k off ts ts.length = revjobs k off ts
  | [], off => rfl
  | t :: r, off => by rw [List.length_cons, pjobs_cons, pjobs_rev k r, revjobs]

theorem Pl.job {s : Str} {k off d : Nat} {t : Ty} (hs : PyData.strOk s = true) (ok : Ok d t) (hd : d ≤ 8) : Pl 40 (job s k off t) :=
  .tup (k := 39) (.cons (.str hs) (.cons (.tup (k := 38) (.cons (.str (by decide +kernel)) (.cons .int (.cons .int (.cons .int .nil))))) (.cons ((Pl.enc ok).le (by omega)) .nil)))
theorem PlA.app {k : Nat} : ∀ {l r : List V}, PlA k l → PlA k r → PlA k (l ++ r)
  | [], r, _, h => h
  | v :: l, r, h, h' => by
    obtain ⟨ds, h1, h2, h3, h4⟩ := h
    dsimp only [V.pys] at h1
    cases q1 : v.py with
    | none => rw [q1] at h1; cases h1
    | some d =>
      cases q2 : V.pys l with
      | none => rw [q1, q2] at h1; cases h1
      | some ds' =>
        rw [q1, q2] at h1
        simp only [Option.bind_some, Option.map_some, Option.some.injEq] at h1
        subst h1
        simp only [PyData.canLayAll0, Bool.and_eq_true, PyData.depthAll, List.length_cons] at h2 h3 h4
        exact .cons ⟨d, q1, h2.1, by omega⟩ (PlA.app ⟨ds', q2, h2.2, by omega, by omega⟩ h')
theorem PlA.rev {k d : Nat} (hd : d ≤ 8) : ∀ {ts : List Ty} {o : Nat}, (∀ t ∈ ts, Ok d t) → PlA 40 (revjobs k o ts)
  | [], _, _ => .nil
  | t :: r, o, h => PlA.app (PlA.rev hd fun u hu => h u (by simp [hu])) (.cons (Pl.job (by decide +kernel) (h t (by simp)) hd) .nil)
theorem revjobs_len {k : Nat} : ∀ {ts : List Ty} {o : Nat}, (revjobs k o ts).length = ts.length
  | [], _ => rfl
  | t :: r, o => by simp [revjobs, revjobs_len]

section
variable {c m g e ij : Nat} {R R' R₁ R₂ : List Role} {σ σ' σ₁ σ₂ : S} {T : Str → Str → Option Ent} {tb : Tb} {n : Nat}

theorem run_drop {R0 : List Role} {σ0 : S} (h : Facts T tb) {N hm io k off : Nat} {kd : Ty} {Od : List Nat} {Qf : Fl → L → S → Prop} (hN : 30 ≤ N) (hOn : Od.Nodup) (hOl : Od.length ≤ 900) : ∀ (d : Nat) (t : Ty) (v : Va) (k off : Nat) (J : List V) (as : AS) (cs : List V) (fuel many : Nat) (F : List Nat), Ok d t → Typ d t v → d ≤ 5 → InMem as v →
    as[k]? = some (cs, true) → (cs.drop off).take (size t) = cel v → off + size t ≤ cs.length → (∀ j ∈ order v, j ∈ Od) → (order v).Nodup → k ∉ order v → many + jobs t ≤ 400 → F.length + (order v).length ≤ 900 → PlA 40 J → J.length + 10 * (d + 1) ≤ 8000 → (∀ j ∈ Od, j < as.length) →
    Lp R0 σ0 T tb N m hm io g ij kd Od Qf fuel (many + jobs t) (F ++ order v) (kill as (order v)) J → Lp R0 σ0 T tb N m hm io g ij kd Od Qf (fuel + jobs t) many F as (J ++ [job "drop" k off t]) := by
  intro d
  have nobox : ∀ (t : Ty) (v : Va) (k off : Nat) (J : List V) (as : AS) (fuel many : Nat) (F : List Nat) (d : Nat), Ok d t → Typ d t v → d ≤ 5 → hasBox t = false → many + jobs t ≤ 400 → F.length + (order v).length ≤ 900 → PlA 40 J → J.length ≤ 8000 → (∀ j ∈ Od, j < as.length) →
      Lp R0 σ0 T tb N m hm io g ij kd Od Qf fuel (many + jobs t) (F ++ order v) (kill as (order v)) J → Lp R0 σ0 T tb N m hm io g ij kd Od Qf (fuel + jobs t) many F as (J ++ [job "drop" k off t]) := by
    intro t v k off J as fuel many F d ok ty hd hb hmany hF hJ hJl hO next
    rw [jobs_no t hb] at next hmany ⊢
    rw [order_none ty hb] at next hF
    refine lp_iter h (by omega) hO hO hOl (by simpa using hF) (step_none h ok (by omega) (by omega) hb (by omega)) (by simp) (hJ.app (.cons (Pl.job (by decide +kernel) ok (by omega)) .nil)) (by omega) ?_
    rw [filter_none]
    exact next
  induction d with
  | zero =>
    intro t v k off J as cs fuel many F ok ty hd im ha hc hl hsub hnd hk hmany hF hJ hJl hO next
    exact nobox t v k off J as fuel many F 0 ok ty hd ok.zero.2.1 hmany hF hJ (by omega) hO next
  | succ d ih =>
    intro t v k off J as cs fuel many F ok ty hd im ha hc hl hsub hnd hk hmany hF hJ hJl hO next
    cases hb : hasBox t with
    | false => exact nobox t v k off J as fuel many F (d + 1) ok ty hd hb hmany hF hJ (by omega) hO next
    | true =>
      rcases id ty with ⟨rfl, i, rfl⟩ | ⟨rfl, i, rfl⟩ | ⟨u, k', v', rfl, rfl, tyv⟩ | ⟨hp, vs, rfl, tys⟩
      · cases hb
      · cases hb
      · have oku : Ok d u := by
          rcases ok with e | e | ⟨u', e, h0⟩ | ⟨us, e, h1, h2⟩ | ⟨u', k', e, h1, h2⟩ <;> cases e; exact h0
        have hcell : cs[off]? = some (ptr k' 0) := by
          have := congrArg (fun l => l[0]?) hc
          simpa [size, cel, List.getElem?_take] using this
        dsimp only [order] at hsub hnd hk hF next
        have hk1 : k ∉ order v' := fun e => hk (by simp [e])
        have hnd' := List.nodup_append.mp hnd
        have hk' : k' ∉ order v' := fun e => hnd'.2.2 k' e k' (by simp) rfl
        dsimp only [jobs] at hmany next ⊢
        rw [show fuel + (2 + jobs u) = fuel + 1 + jobs u + 1 by omega]
        refine lp_iter h (by omega) hO hO hOl (by omega) (step_box h ok (by omega) (by omega) (by omega) ha hcell) (by simp) (hJ.app (.cons (Pl.job (by decide +kernel) ok (by omega)) .nil)) (by omega) ?_
        rw [filter_none, List.append_nil, show J ++ [job "free" k off (.box u), job "drop" k' 0 u] = (J ++ [job "free" k off (.box u)]) ++ [job "drop" k' 0 u] by simp]
        refine ih u v' k' 0 _ as (cel v') (fuel + 1) (many + 1) F oku tyv (by omega) im.2 im.1 (by rw [List.drop_zero, ← tyv.len, List.take_length]) (by rw [tyv.len]; omega) (fun j hj => hsub j (by simp [hj])) hnd'.1 hk' (by omega) (by simp at hF; omega)
          (hJ.app (.cons (Pl.job (by decide +kernel) ok (by omega)) .nil)) (by simp; omega) hO ?_
        have a1 : (kill as (order v'))[k]? = some (cs, true) := kill_keep ha hk1
        have a2 : (kill as (order v'))[k']? = some (cel v', true) := kill_keep im.1 hk'
        have hO1 : ∀ j ∈ Od, j < (kill as (order v')).length := fun j hj => by rw [kill_len]; exact hO j hj
        refine lp_iter h (by omega) hO1 (fun j hj => by rw [List.length_set]; exact hO1 j hj) hOl (by simp at hF ⊢; omega) (step_free h (by omega) (by omega) a1 hcell a2) (by simp) (hJ.app (.cons (Pl.job (by decide +kernel) ok (by omega)) .nil)) (by omega) ?_
        rw [filter_free hOn (hsub k' (by simp)) (by unfold live; rw [a2])]
        rw [kill_app] at next
        have e1 : kill (kill as (order v')) [k'] = (kill as (order v')).set k' (cel v', false) := by
          show kill1 _ k' = _
          unfold kill1; rw [a2]
        rw [e1] at next
        rw [show many + 1 + jobs u + 1 = many + (2 + jobs u) by omega, List.append_assoc]
        exact next
      · obtain ⟨hpl, hok⟩ := ok.parts
        have hj : jobs t = 2 + jobss (parts t) := by
          cases t <;> simp [isParts] at hp
          · dsimp only [hasBox] at hb; simp [jobs, hb, parts]
          · dsimp only [hasBox] at hb; simp [jobs, hb, parts, jobss_rep]
        dsimp only [order] at hsub hnd hk hF next
        rw [hj] at hmany next ⊢
        rw [size_parts hp] at hc hl
        rw [show fuel + (2 + jobss (parts t)) = fuel + jobss (parts t) + 1 + 1 by omega]
        refine lp_iter h (by omega) hO hO hOl (by omega) (step_parts0 h ok hp hb (by omega) (by omega) (by omega)) (by simp) (hJ.app (.cons (Pl.job (by decide +kernel) ok (by omega)) .nil)) (by omega) ?_
        rw [filter_none, List.append_nil]
        refine lp_iter h (by omega) hO hO hOl (by omega) (step_parts h ok hp (by omega) (by omega) (by omega)) (by simp) (hJ.app (.cons (Pl.job (by decide +kernel) ok (by omega)) .nil)) (by omega) ?_
        rw [filter_none, List.append_nil, pjobs_rev]
        have list : ∀ (ts : List Ty) (vs : List Va) (o : Nat) (as : AS) (many : Nat) (F : List Nat), Typs (Typ d) ts vs → (∀ u ∈ ts, Ok d u) → ts.length ≤ 3 → InMems as vs → as[k]? = some (cs, true) → (cs.drop o).take (sizes ts) = cels vs → o + sizes ts ≤ cs.length → (∀ j ∈ orders vs, j ∈ Od) → (orders vs).Nodup → k ∉ orders vs →
            many + jobss ts ≤ 400 → F.length + (orders vs).length ≤ 900 → (∀ j ∈ Od, j < as.length) → Lp R0 σ0 T tb N m hm io g ij kd Od Qf fuel (many + jobss ts) (F ++ orders vs) (kill as (orders vs)) J → Lp R0 σ0 T tb N m hm io g ij kd Od Qf (fuel + jobss ts) many F as (J ++ revjobs k o ts) := by
          intro ts
          induction ts with
          | nil =>
            intro vs o as many F tys hok hl3 im ha hc hl hsub hnd hk hmany hF hO next
            cases tys
            simpa [jobss, orders, revjobs, kill] using next
          | cons t r ihl =>
            intro vs o as many F tys hok hl3 im ha hc hl hsub hnd hk hmany hF hO next
            cases tys with
            | cons ty tys =>
              rename_i v vs
              simp only [orders, jobss, sizes, cels] at *
              have hlen := ty.len
              have hnd' := List.nodup_append.mp hnd
              have c1 : (cs.drop o).take (size t) = cel v := by
                have := congrArg (List.take (size t)) hc
                rw [List.take_take, Nat.min_eq_left (by omega)] at this
                rw [this, List.take_append_of_le_length (by omega), ← hlen, List.take_length]
              have c2 : (cs.drop (o + size t)).take (sizes r) = cels vs := by
                have := congrArg (List.drop (size t)) hc
                rw [List.drop_take, List.drop_drop, Nat.add_sub_cancel_left] at this
                rw [this, ← hlen, List.drop_left]
              rw [revjobs, ← List.append_assoc, show fuel + (jobs t + jobss r) = fuel + jobss r + jobs t by omega]
              refine ih t v k o _ as cs (fuel + jobss r) many F (hok t (by simp)) ty (by omega) im.1 ha c1 (by omega) (fun j hj => hsub j (by simp [hj])) hnd'.1 (fun e => hk (by simp [e])) (by omega) (by simp at hF; omega) (hJ.app (PlA.rev (by omega) fun u hu => hok u (by simp [hu]))) (by simp only [List.length_append, revjobs_len, List.length_cons] at hl3 ⊢; omega) hO ?_
              refine ihl vs (o + size t) (kill as (order v)) (many + jobs t) (F ++ order v) tys (fun u hu => hok u (by simp [hu])) (by simp at hl3; omega) (im.2.kill fun j hj hj' => hnd'.2.2 j hj' j hj rfl) (kill_keep ha fun e => hk (by simp [e])) c2 (by omega) (fun j hj => hsub j (by simp [hj])) hnd'.2.1 (fun e => hk (by simp [e])) (by omega) (by simp at hF ⊢; omega) (fun j hj => by rw [kill_len]; exact hO j hj) ?_
              rw [List.append_assoc, ← kill_app, Nat.add_assoc]
              exact next
        refine list (parts t) vs off as (many + 1 + 1) F tys hok hpl im ha hc hl hsub hnd hk (by omega) hF hO ?_
        rw [show many + 1 + 1 + jobss (parts t) = many + (2 + jobss (parts t)) by omega]
        exact next
end
end Mine

end
section
open PySem PySem.W
set_option Elab.async false
set_option maxRecDepth 100000
namespace Mine

section
variable {c m g e ij : Nat} {R R' R₁ R₂ : List Role} {as as' : AS} {σ σ' σ₁ σ₂ : S} {T : Str → Str → Option Ent} {tb : Tb} {n : Nat}

theorem ne_i {x y : Int} {Q : Bool → Prop} (hq : Q (!(x == y))) : cmpW .NotEq (.int x) (.int y) Q σ := by delta cmpW; exact ⟨_, _, rfl, rfl, rfl, rfl, hq⟩


/-- a new object under way -/
structure New (c : Nat) (as : AS) (R : List Role) (σ : S) (i : Nat) (R' : List Role) (σ' : S) (cl : Str) (fs : List (Str × V)) (b : Nat) : Prop where
  sz : fs.length ≤ b
  inv : Inv c R' as σ'
  nx : Nx R σ R' σ'
  role : R'[i]? = some .free
  at_ : σ'[i]? = some (.inst cl fs)
  new : σ.length ≤ i
  len : R.length = σ.length
theorem New.start (x : Inv c R as σ) (cl : Str) : New c as R σ σ.length (R ++ [.free]) (σ ++ [.inst cl []]) cl [] 0 := by
  have fq := x.free (.inst cl [])
  have x1 := fq.1
  have t1 := fq.2
  exact ⟨Nat.le_refl _, x1, t1, by rw [← x.len]; exact get_new, get_new, Nat.le_refl _, x.len⟩
theorem upd_len (a : Str) (v : V) : ∀ fs : L, (upd a v fs).length ≤ fs.length + 1
  | [] => by simp [upd]
  | p :: r => by
    obtain ⟨y, u⟩ := p
    dsimp only [upd]
    split
    · simp
    · have := upd_len a v r; simp; omega
theorem New.set {i b : Nat} {cl : Str} {fs : List (Str × V)} (x : New c as R σ i R' σ' cl fs b) (a : Str) (v : V) : New c as R σ i R' (σ'.set i (.inst cl (upd a v fs))) cl (upd a v fs) (b + 1) :=
  ⟨Nat.le_trans (upd_len a v fs) (Nat.succ_le_succ x.sz), x.inv.set x.role trivial, x.nx.setNew x.len x.new, x.role, List.getElem?_set_self (List.getElem?_eq_some_iff.mp x.at_).1, x.new, x.len⟩
theorem New.push {i b : Nat} {cl : Str} {fs : List (Str × V)} (x : New c as R σ i R' σ' cl fs b) (o : O) : New c as R σ i (R' ++ [.free]) (σ' ++ [o]) cl fs b := by
  have fq := x.inv.free o
  have x1 := fq.1
  have t1 := fq.2
  exact ⟨x.sz, x1, x.nx.trans t1, t1.get x.role, get_app x.at_, x.new, x.len⟩

theorem New.dset {i b : Nat} {cl : Str} {fs : List (Str × V)} (x : New c as R σ i R' σ' cl fs b) (o : O) (a : Str) : New c as R σ i (R' ++ [.free]) ((σ' ++ [o]).set i (.inst cl (upd a (.ref σ'.length) fs))) cl (upd a (.ref σ'.length) fs) (b + 1) := (x.push o).set a _

theorem w_world (h : Facts T tb) {Q : V → S → Prop} (x : Inv c R as σ) (hq : ∀ R' σ' i, Nx R σ R' σ' → Inv c R' as σ' → Q (.ref i) σ') : callW T tb (n + 2) "" "World" [] Q σ := by
  refine callW_cls h.c_World ?_
  refine callW_fn h.f_World___init__ rfl ?_
  have s0 := New.start x "World"
  refine set_i s0.at_ h.a_World_modules ?_ (Nat.le_trans s0.sz (by decide))
  have s1 := s0.set "modules" .none
  refine set_i (s1.push .dct).at_ h.a_World_adts ?_ (Nat.le_trans s1.sz (by decide))
  have s2 := s1.dset .dct "adts"
  refine set_i (s2.push .dct).at_ h.a_World_variants ?_ (Nat.le_trans s2.sz (by decide))
  have s3 := s2.dset .dct "variants"
  refine set_i (s3.push .dct).at_ h.a_World_sigs ?_ (Nat.le_trans s3.sz (by decide))
  have s4 := s3.dset .dct "sigs"
  refine set_i (s4.push .dct).at_ h.a_World_traits ?_ (Nat.le_trans s4.sz (by decide))
  have s5 := s4.dset .dct "traits"
  refine ⟨by simp, ?_⟩
  refine set_i (s5.push (.lst [])).at_ h.a_World_impls ?_ (Nat.le_trans s5.sz (by decide))
  have s6 := s5.dset (.lst []) "impls"
  refine set_i (s6.push .dct).at_ h.a_World_consts ?_ (Nat.le_trans s6.sz (by decide))
  have s7 := s6.dset .dct "consts"
  refine set_i (s7.push .dct).at_ h.a_World_bodies ?_ (Nat.le_trans s7.sz (by decide))
  have s8 := s7.dset .dct "bodies"
  exact ⟨rfl, hq _ _ _ s8.nx s8.inv⟩
theorem w_places (h : Facts T tb) {mm w : V} {Q : V → S → Prop} (x : Inv c R as σ) (hq : ∀ R' σ' i, Nx R σ R' σ' → Inv c R' as σ' → R'[i]? = some .free → σ'[i]? = some (.inst "Places" [("memory", mm), ("world", w)]) → Q (.ref i) σ') : callW T tb (n + 2) "" "Places" [mm, w] Q σ := by
  refine callW_cls h.c_Places ?_
  refine callW_fn h.f_Places___init__ rfl ?_
  have s0 := New.start x "Places"
  refine set_i s0.at_ h.a_Places_memory ?_ (Nat.le_trans s0.sz (by decide))
  have s1 := s0.set "memory" mm
  refine set_i s1.at_ h.a_Places_world ?_ (Nat.le_trans s1.sz (by decide))
  have s2 := s1.set "world" w
  exact ⟨rfl, hq _ _ _ s2.nx s2.inv s2.role s2.at_⟩
theorem w_glue (h : Facts T tb) {mm w : V} {p : Nat} {Q : V → S → Prop} (x : Inv c R as σ) (hr : R[p]? = some .free) (hg : σ[p]? = some (.inst "Places" [("memory", mm), ("world", w)]))
    (hq : ∀ R' σ' i, Nx R σ R' σ' → Inv c R' as σ' → R'[i]? = some .free → σ'[i]? = some (.inst "DropGlue" [("places", .ref p), ("world", w)]) → Q (.ref i) σ') : callW T tb (n + 2) "" "DropGlue" [.ref p] Q σ := by
  refine callW_cls h.c_DropGlue ?_
  refine callW_fn h.f_DropGlue___init__ rfl ?_
  have s0 := New.start x "DropGlue"
  refine set_i s0.at_ h.a_DropGlue_places ?_ (Nat.le_trans s0.sz (by decide))
  have s1 := s0.set "places" (.ref p)
  refine at_i (s1.nx.keep _ _ hr hg) rfl h.a_Places_world ?_
  refine set_i s1.at_ h.a_DropGlue_world ?_ (Nat.le_trans s1.sz (by decide))
  have s2 := s1.set "world" w
  exact ⟨rfl, hq _ _ _ s2.nx s2.inv s2.role s2.at_⟩
theorem w_memory (h : Facts T tb) {Q : V → S → Prop} (x : Inv 0 R [] σ) (hb : ∀ (i : Nat) r, R[i]? = some r → r = .free ∨ r = .src) (hq : ∀ R' σ' i, Nx R σ R' σ' → Mem R' [] σ' i → Q (.ref i) σ') : callW T tb (n + 2) "" "Memory" [] Q σ := by
  refine callW_cls h.c_Memory ?_
  refine callW_fn h.f_Memory___init__ rfl ?_
  have s0 := New.start x "Memory"
  refine ⟨by simp, ?_⟩
  have s1 := s0.push (.lst [])
  refine set_i s1.at_ h.a_Memory_allocations ?_ (Nat.le_trans s1.sz (by decide))
  have s2 := s1.set "allocations" (.ref (σ ++ [O.inst "Memory" []]).length)
  refine set_i s2.at_ h.a_Memory_tags ?_ (Nat.le_trans s2.sz (by decide))
  have s3 := s2.set "tags" (.int 0)
  have rl : (R ++ [Role.free] ++ [Role.free])[(σ ++ [O.inst "Memory" []]).length]? = some .free := by rw [← s0.inv.len]; exact get_new
  have hne : σ.length ≠ (σ ++ [O.inst "Memory" []]).length := by simp
  have noA : ∀ j : Nat, (R ++ [Role.free] ++ [Role.free])[j]? ≠ some .allocs := fun j e => by
    rcases app_split e with e | ⟨_, e⟩
    · rcases app_split e with e | ⟨_, e⟩
      · rcases hb j _ e with e | e <;> cases e
      · cases e
    · cases e
  have gl : (((σ ++ [O.inst "Memory" []] ++ [O.lst []]).set σ.length (.inst "Memory" (upd "allocations" (.ref (σ ++ [O.inst "Memory" []]).length) []))).set σ.length (.inst "Memory" (upd "tags" (.int 0) (upd "allocations" (.ref (σ ++ [O.inst "Memory" []]).length) []))))[(σ ++ [O.inst "Memory" []]).length]? = some (.lst []) := by
    rw [List.getElem?_set_ne hne, List.getElem?_set_ne hne]; exact get_new
  have x4 := s3.inv.reRole (r := .allocs) rl gl ⟨[], rfl, rfl, by simp⟩ (fun _ => noA)
  have x5 := x4.reRole (i := σ.length) (r := .mem) (by rw [List.getElem?_set_ne (Ne.symm hne)]; exact s3.role) s3.at_ ⟨_, rfl, by rw [List.getElem?_set_ne hne, List.getElem?_set_self (List.getElem?_eq_some_iff.mp rl).1]⟩ (by simp [Role.uniq])
  refine ⟨rfl, hq _ _ _ ((s3.nx.reRole (by rw [x.len]; simp)).reRole (Nat.le_of_eq x.len)) ⟨x5, ?_⟩⟩
  refine List.getElem?_set_self ?_
  have := (List.getElem?_eq_some_iff.mp s3.role).1
  simpa using this

theorem w_live_count (h : Facts T tb) {Q : V → S → Prop} (x : Mem R as σ m) (hq : ∀ R' σ', Nx R σ R' σ' → Mem R' as σ' m → Q (.int ((as.filter (·.2)).length : Nat)) σ') : callW T tb (n + 1) "Memory" "live_count" [.ref m] Q σ := by
  obtain ⟨la, ids, e1, hl, e2, h1, h2⟩ := x.parts
  have hm := x.many
  refine callW_fn h.f_Memory_live_count rfl ?_
  refine at_i e1 rfl h.a_Memory_allocations ?_
  refine ⟨ids.length + 1, by omega, ?_⟩
  refine loopC_all (item := fun k => (ids.map V.ref).getD k .none) ids.length (fun k acc σ' => σ' = σ ∧ acc.length = ((as.take k).filter (·.2)).length) (fun k acc σ' hP hk => ?_) (fun acc σ' hP => ?_) ?_ ?_ ⟨rfl, by simp⟩
  · rw [hP.1, item_l e2]; simp [List.getD, hk]
  · rw [hP.1, item_l e2]; simp
  · rintro k acc σ' K hk ⟨rfl, hacc⟩ hK
    have hid : ids[k]? = some ids[k] := List.getElem?_eq_getElem hk
    have hv : (ids.map V.ref).getD k .none = .ref ids[k] := by simp [List.getD, hk]
    rw [hv]
    obtain ⟨_, g, lc, ls, a, ha, rfl, _, _⟩ := x.inv.getRole (h2 _ _ hid)
    refine at_i g rfl h.a_Allocation_is_live ?_
    have tk : (as.take (k + 1)).filter (·.2) = (as.take k).filter (·.2) ++ (if a.2 then [a] else []) := by
      rw [List.take_add_one, ha, List.filter_append]
      congr 1
      obtain ⟨cs, b⟩ := a
      cases b <;> rfl
    cases hl : a.2 with
    | true => exact hK _ _ ⟨rfl, by rw [tk, hl]; simp [hacc]⟩
    | false => exact hK _ _ ⟨rfl, by rw [tk, hl]; simp [hacc]⟩
  · rintro acc σ' ⟨rfl, hacc⟩
    rw [h1, List.take_length] at hacc
    have fq := x.inv.free (.lst acc)
    have x1 := fq.1
    have t1 := fq.2
    have := List.length_filter_le (fun a : List V × Bool => a.2) as
    refine len_l get_new (by omega) ?_
    rw [hacc]
    exact hq _ _ t1 ⟨x1, t1.get x.at_⟩
end
end Mine

end
section
open PySem PySem.W
set_option Elab.async false
set_option maxRecDepth 100000
namespace Mine

theorem jobs_le : ∀ {d : Nat} {t : Ty}, Ok d t → jobs t + 1 ≤ 2 * 3 ^ d
  | 0, t, h => by rcases h with rfl | rfl <;> simp [jobs]
  | d + 1, t, h => by
    have p : 1 ≤ 3 ^ d := Nat.one_le_pow _ _ (by decide)
    have ps := h.parts
    have go : ∀ ts : List Ty, (∀ u ∈ ts, Ok d u) → jobss ts + ts.length ≤ ts.length * (2 * 3 ^ d) := fun ts => by
      induction ts with
      | nil => intro _; simp [jobss]
      | cons u r ih =>
        intro hu
        have h1 := jobs_le (hu u (by simp))
        have h2 := ih fun v hv => hu v (by simp [hv])
        simp only [jobss, List.length_cons, Nat.add_mul, Nat.one_mul]; omega
    have three : ∀ k X : Nat, k ≤ 3 → k * X ≤ 3 * X := fun k X hk => Nat.mul_le_mul_right _ hk
    rcases h with rfl | rfl | ⟨u, rfl, h⟩ | ⟨us, rfl, h1, h2⟩ | ⟨u, n, rfl, h1, h2⟩
    · simp only [jobs, Nat.pow_succ]; omega
    · simp only [jobs, Nat.pow_succ]; omega
    · have := jobs_le h; simp only [jobs, Nat.pow_succ]; omega
    · have a := go us h2
      have b := three us.length (2 * 3 ^ d) h1
      simp only [jobs, Nat.pow_succ]
      split
      · rename_i hb
        have : us ≠ [] := by rintro rfl; simp [hasBoxes] at hb
        have hl : 1 ≤ us.length := List.length_pos_iff.mpr this
        have a' : jobss us + 3 ≤ 3 * (2 * 3 ^ d) := by
          have c := three us.length (2 * 3 ^ d - 1) h1
          have e : us.length * (2 * 3 ^ d) = us.length * (2 * 3 ^ d - 1) + us.length := by
            rw [← Nat.mul_succ]; congr 1; omega
          omega
        omega
      · omega
    · have a := jobs_le h2
      have b := three n (jobs u) h1
      simp only [jobs, Nat.pow_succ]
      split <;> omega
theorem nb_le : ∀ {d : Nat} {t : Ty}, Ok d t → nb t ≤ 3 ^ d
  | 0, t, h => by rcases h with rfl | rfl <;> simp [nb]
  | d + 1, t, h => by
    have p : 1 ≤ 3 ^ d := Nat.one_le_pow _ _ (by decide)
    have go : ∀ ts : List Ty, (∀ u ∈ ts, Ok d u) → nbs ts ≤ ts.length * 3 ^ d := fun ts => by
      induction ts with
      | nil => intro _; simp [nbs]
      | cons u r ih =>
        intro hu
        have h1 := nb_le (hu u (by simp))
        have h2 := ih fun v hv => hu v (by simp [hv])
        simp only [nbs, List.length_cons, Nat.add_mul, Nat.one_mul]; omega
    have three : ∀ k X : Nat, k ≤ 3 → k * X ≤ 3 * X := fun k X hk => Nat.mul_le_mul_right _ hk
    rcases h with rfl | rfl | ⟨u, rfl, h⟩ | ⟨us, rfl, h1, h2⟩ | ⟨u, n, rfl, h1, h2⟩
    · dsimp only [nb]; omega
    · dsimp only [nb]; omega
    · have := nb_le h; simp only [nb, Nat.pow_succ]; omega
    · have a := go us h2
      have b := three us.length (3 ^ d) h1
      simp only [nb, Nat.pow_succ]; omega
    · have a := nb_le h2
      have b := three n (nb u) h1
      simp only [nb, Nat.pow_succ]; omega

section
variable {c m g e ij : Nat} {R R' R₁ R₂ : List Role} {as as' : AS} {σ σ' σ₁ σ₂ : S} {T : Str → Str → Option Ent} {tb : Tb} {n : Nat}

theorem lp_use {R0 : List Role} {N hm io ifr fuel many : Nat} {kd : Ty} {Od F : List Nat} {Qf : Fl → L → S → Prop} {J : List V} (x : Mem R0 as σ m) (G : Glue R0 σ g m) (hr : R0[ij]? = some .free) (hg : σ[ij]? = some (.lst J)) (hrf : R0[ifr]? = some .free) (hgf : σ[ifr]? = some (.lst (kInts F))) (hne : ifr ≠ ij)
    (hro : R0[io]? = some .free) (hgo : σ[io]? = some (.lst (kInts Od))) (hneo : io ≠ ij) (Lx : Lp R0 σ T tb N m hm io g ij kd Od Qf fuel many F as J) :
    loopW (fun ℓ' K σ' => tru (callW T tb N) tb lpTest ℓ' K σ') (fun ℓ' K σ' => exs (callW T tb N) tb lpBody ℓ' K σ') fuel (lpL m hm io g ij many ifr kd []) Qf σ :=
  Lx R0 σ ifr [] (.inl rfl) Nx.refl.toE x G hr hg hrf hgf hne hro hgo hneo
theorem new_at {α β : Type} {l : List α} {r : List β} {a : β} (e : r.length = l.length) : (r ++ [a])[l.length]? = some a := by rw [← e]; exact get_new
theorem pow4 : 3 ^ 4 = 81 := rfl


theorem w_dropped_right (h : Facts T tb) {N io : Nat} {A : AS} {v : Va} {kd : Ty} {Q : V → S → Prop} (hN : 60 ≤ N) (x : Mem R (A ++ [(cel v, true)]) σ m) (ok : Ok 4 kd) (ty : Typ 4 kd v) (im : InMem (A ++ [(cel v, true)]) v) (ho : order v = List.range' 0 A.length) (hAl : A.length ≤ 81)
    (hro : R[io]? = some .free) (hgo : σ[io]? = some (.lst (kInts (order v)))) (hq : ∀ R' σ' as', Nx R σ R' σ' → Mem R' as' σ' m → Q (.bool true) σ') : callW T tb N "" "_law_dropped_right" [.ref m, .int A.length, enc kd, .ref io] Q σ := by
  obtain ⟨n, rfl⟩ : ∃ n, N = n + 10 := ⟨N - 10, by omega⟩
  have hsz := size_le ok
  have hjb := jobs_le ok
  rw [pow4] at hsz hjb
  refine callW_fn h.f__law_dropped_right rfl ?_
  refine ⟨h.n_DropGlue, h.n_Places, h.n_World, ?_⟩
  refine w_world h x.inv fun R1 σ1 iw t1 x1 => ?_
  refine w_places h x1 fun R2 σ2 p t2 x2 rp gp => ?_
  refine w_glue h x2 rp gp fun R3 σ3 ig t3 x3 rg gg => ?_
  have t13 := (t1.trans t2).trans t3
  have x3m : Mem R3 (A ++ [(cel v, true)]) σ3 m := ⟨x3, t13.get x.at_⟩
  refine ⟨h.n_jobs_of, ?_⟩
  obtain ⟨_, em, la, rfl, _⟩ := x3.getRole x3m.at_
  refine cls_i em h.m_Memory_base ?_
  refine w_base h ?_
  refine callW_fn h.f_jobs_of rfl ?_
  refine ⟨by simp, by simp, by simp, ?_⟩
  have fq := x3.free (.lst [job "gone" A.length 0 kd, job "drop" A.length 0 kd])
  have x4 := fq.1
  have t4 := fq.2
  refine ⟨by simp, ?_⟩
  have fq := x4.free (.lst [])
  have x5 := fq.1
  have t5 := fq.2
  refine ⟨by simp, rfl, ?_⟩
  have t35 := t4.trans t5
  have t15 := t13.trans t35
  have hlt : σ.length ≤ σ3.length := by
    obtain ⟨e, he⟩ := t13.ext
    rw [← x.inv.len, ← x3.len, he]; simp
  have hio : io < σ.length := (List.getElem?_eq_some_iff.mp hgo).1
  refine ⟨2 + jobs kd, ?_⟩
  have G5 : Glue (R3 ++ [.free] ++ [.free]) (σ3 ++ [O.lst [job "gone" A.length 0 kd, job "drop" A.length 0 kd]] ++ [O.lst []]) ig m :=
    Glue.nx ⟨p, .ref iw, rg, gg, t3.get rp, t3.keep _ _ rp gp⟩ t35
  have hnot : A.length ∉ order v := by rw [ho]; simp
  refine lp_use (Od := order v) (F := []) (as := A ++ [(cel v, true)]) ⟨x5, t15.get x.at_⟩ G5 (get_app (new_at x3.len)) (get_app get_new) (new_at x4.len) get_new (by simp) (t15.get hro) (t15.keep _ _ hro hgo) (by omega) ?_
  refine run_drop (k := 0) (off := 0) h (by omega) (by rw [ho]; exact List.nodup_range') (by rw [ho]; simp; omega) 4 kd v A.length 0 [job "gone" A.length 0 kd] _ (cel v) 2 0 [] ok ty (by omega) im get_new (by rw [List.drop_zero, ← ty.len, List.take_length]) (by rw [ty.len]; omega) (fun j hj => hj) (by rw [ho]; exact List.nodup_range') hnot (by omega) (by rw [ho]; simp; omega)
    (.cons (Pl.job (by decide +kernel) ok (by omega)) .nil) (by simp) (fun j hj => by rw [ho] at hj; simp at hj ⊢; omega) ?_
  have a1 : (kill (A ++ [(cel v, true)]) (order v))[A.length]? = some (cel v, true) := kill_keep get_new hnot
  have hOk : ∀ j ∈ order v, j < (kill (A ++ [(cel v, true)]) (order v)).length := fun j hj => by rw [kill_len]; rw [ho] at hj; simp at hj ⊢; omega
  refine lp_iter h (by omega) hOk (fun j hj => by rw [List.length_set]; exact hOk j hj) (by rw [ho]; simp; omega) (by rw [ho]; simp; omega) (step_gone (J := []) h ok (by omega) (by omega) (by simp) a1 ty.len) (by simp) (.cons (Pl.job (by decide +kernel) ok (by omega)) .nil) (by omega) ?_
  have dead : (order v).filter (live (kill (A ++ [(cel v, true)]) (order v))) = [] := by
    rw [List.filter_eq_nil_iff]
    intro j hj
    unfold live
    rw [kill_get]
    cases (A ++ [(cel v, true)])[j]? <;> simp [hj]
  rw [dead, List.filter_nil, List.append_nil, List.nil_append]
  generalize has2 : (kill (A ++ [(cel v, true)]) (order v)).set A.length (List.replicate (size kd) vUNINIT, true) = as2
  have home : as2[A.length]? = some (List.replicate (size kd) vUNINIT, true) := by
    rw [← has2]; exact List.getElem?_set_self (by rw [kill_len]; simp)
  have cnt : (as2.filter (·.2)).length = 1 := by
    have hl2 : as2.length = A.length + 1 := by rw [← has2, List.length_set, kill_len]; simp
    have hget : ∀ j, j < A.length → ∃ cs, as2[j]? = some (cs, false) := fun j hj => by
      rw [← has2, List.getElem?_set_ne (by omega), kill_get, List.getElem?_append_left hj, List.getElem?_eq_getElem hj]
      exact ⟨A[j].1, by simp [ho, hj]⟩
    have split : as2 = as2.take A.length ++ [(List.replicate (size kd) vUNINIT, true)] := by
      have e := List.take_append_drop A.length as2
      rw [List.drop_eq_getElem_cons (by omega), List.drop_eq_nil_of_le (by omega)] at e
      have : as2[A.length]'(by omega) = (List.replicate (size kd) vUNINIT, true) := (List.getElem?_eq_some_iff.mp home).2
      rw [this] at e
      exact e.symm
    have z : (as2.take A.length).filter (·.2) = [] := by
      rw [List.filter_eq_nil_iff]
      intro a ha
      obtain ⟨j, hj⟩ := List.mem_iff_getElem?.mp ha
      rw [List.getElem?_take] at hj
      split at hj
      · rename_i hlt
        obtain ⟨cs, q⟩ := hget j hlt
        rw [q] at hj; cases hj; simp
      · cases hj
    rw [split, List.filter_append, z]; simp
  intro R6 σ6 ifr tail htail e6 x6 G6 hr6 hg6 hrf6 hgf6 hne6 hro6 hgo6 hneo6
  have fin : ∀ ℓ0 : L, (ℓ0 = lpL m A.length io ig σ3.length (jobs kd + 1) ifr kd [] ∨ ∃ a, ℓ0 = lpL m A.length io ig σ3.length (jobs kd + 1) ifr kd ([("ahead", a)] : L)) → ∀ R7 σ7, Nx R6 σ6 R7 σ7 → Inv as2.length R7 as2 σ7 →
      exs (callW T tb (n + 9)) tb (b__law_dropped_right.body.drop 2) ℓ0 (fun fl _ σ' => match fl with | .ret v => Q v σ' | .next => Q .none σ') σ7 := by
    intro ℓ0 hℓ0 R7 σ7 t7 x7
    have last : ∀ R8 σ8 ic, Nx R7 σ7 R8 σ8 → Inv as2.length R8 as2 σ8 → R8[ic]? = some .free → σ8[ic]? = some (.lst (List.replicate (size kd) vUNINIT)) → ∀ ℓ1 : L, (ℓ1 = lpL m A.length io ig σ3.length (jobs kd + 1) ifr kd ([("cells", .ref ic)] : L) ∨ ∃ a, ℓ1 = lpL m A.length io ig σ3.length (jobs kd + 1) ifr kd ([("ahead", a), ("cells", .ref ic)] : L)) →
        exs (callW T tb (n + 9)) tb (b__law_dropped_right.body.drop 3) ℓ1 (fun fl _ σ' => match fl with | .ret v => Q v σ' | .next => Q .none σ') σ8 := by
      intro R8 σ8 ic t8 x8 rc gc ℓ1 hℓ1
      have t78 := t7.trans t8
      have plO : PlA 0 (kInts (order v)) := .of fun u hu => by
        obtain ⟨k, _, rfl⟩ := List.mem_map.mp hu
        exact .int
      have plU : PlA 1 (List.replicate (size kd) vUNINIT) := .of fun u hu => by
        rw [(List.mem_replicate.mp hu).2]
        exact .tup (.cons (.str (by decide +kernel)) .nil)
      have tail2 : ∀ R9 σ9, Nx R8 σ8 R9 σ9 → Inv as2.length R9 as2 σ9 → exs (callW T tb (n + 9)) tb (b__law_dropped_right.body.drop 4) ℓ1 (fun fl _ σ' => match fl with | .ret v => Q v σ' | .next => Q .none σ') σ9 := by
        intro R9 σ9 t9 x9
        have t89 := t78.trans t9
        have x9m : Mem R9 as2 σ9 m := ⟨x9, t89.get x6.at_⟩
        obtain ⟨_, em9, la9, rfl, _⟩ := x9.getRole x9m.at_
        have done : ∀ R' σ', Nx R9 σ9 R' σ' → Inv as2.length R' as2 σ' → Q (.bool true) σ' := fun R' σ' t' x' => by
          have tt := t89.trans t'
          refine hq R' σ' as2 ⟨?_, fun i o h1 h2 => ?_⟩ ⟨x', tt.get x6.at_⟩
          · obtain ⟨a, ha⟩ := t15.ext
            obtain ⟨b, hb⟩ := e6.ext
            obtain ⟨c, hc⟩ := tt.ext
            exact ⟨a ++ b ++ c, by rw [hc, hb, ha]; simp⟩
          · have hi : i < σ.length := (List.getElem?_eq_some_iff.mp h2).1
            exact tt.keep _ _ (e6.get (t15.get h1)) (e6.keep _ _ (by omega) (t15.get h1) (t15.keep _ _ h1 h2))
        have eqs : ∀ R10 σ10, Nx R9 σ9 R10 σ10 → Inv as2.length R10 as2 σ10 → ev (callW T tb (n + 9)) tb (.cmp .Eq (.var "cells") (.bin .Mult (.lst [(.glob "UNINIT")]) (.blt .len [(.var "cells")]))) ℓ1 (fun v σ' => Q v σ') σ10 := by
          intro R10 σ10 t10 x10
          have gc10 := (t9.trans t10).keep _ _ rc gc
          have fq := x10.free (.lst [vUNINIT])
          have x11 := fq.1
          have t11 := fq.2
          have core : ∀ (K : V → S → Prop), K = Q → bltW .len [.ref ic] (fun y σ' => binW .Mult (.ref σ10.length) y (fun z σ'' => cmpW .Eq (.ref ic) z (fun t => K (.bool t) σ'') σ'') σ') (σ10 ++ [.lst [vUNINIT]]) := by
            rintro K rfl
            refine len_l (get_app gc10) (by simp; omega) ?_
            refine rep get_new (by omega) (by simp; omega) ?_
            have fq := x11.free (.lst (List.replicate (((List.replicate (size kd) vUNINIT).length : Nat) : Int).toNat vUNINIT))
            have x12 := fq.1
            have t12 := fq.2
            refine eq_same (get_app (get_app gc10)) (by rw [get_new]; simp) plU (by omega) ?_
            exact done _ _ ((t10.trans t11).trans t12) x12
          rcases hℓ1 with rfl | ⟨a, rfl⟩
          · refine glob_ h.g_UNINIT ⟨by simp, ?_⟩
            exact core Q rfl
          · refine glob_ h.g_UNINIT ⟨by simp, ?_⟩
            exact core Q rfl
        rcases id hℓ1 with rfl | ⟨a, rfl⟩
        · refine cls_i em9 h.m_Memory_live_count ?_
          refine w_live_count h x9m fun R10 σ10 t10 x10 => ?_
          refine eq_i ?_
          rw [cnt]
          exact eqs R10 σ10 t10 x10.inv
        · refine cls_i em9 h.m_Memory_live_count ?_
          refine w_live_count h x9m fun R10 σ10 t10 x10 => ?_
          refine eq_i ?_
          rw [cnt]
          exact eqs R10 σ10 t10 x10.inv
      have j2 : ((jobs kd + 1 : Nat) : Int) = 1 + ((jobs kd : Nat) : Int) := by omega
      rcases id hℓ1 with rfl | ⟨a, rfl⟩
      · refine ne_same (t78.keep _ _ hrf6 hgf6) (t78.keep _ _ hro6 hgo6) plO (by omega) ?_
        refine ⟨h.n__law_jobs, ?_⟩
        refine w_law_jobs h 4 kd _ _ R8 σ8 ok (by omega) (by omega) x8 fun R9 σ9 t9 x9 => ?_
        refine add_i ?_
        refine ne_i ?_
        rw [j2, beq_self_eq_true]
        exact tail2 R9 σ9 t9 x9
      · refine ne_same (t78.keep _ _ hrf6 hgf6) (t78.keep _ _ hro6 hgo6) plO (by omega) ?_
        refine ⟨h.n__law_jobs, ?_⟩
        refine w_law_jobs h 4 kd _ _ R8 σ8 ok (by omega) (by omega) x8 fun R9 σ9 t9 x9 => ?_
        refine add_i ?_
        refine ne_i ?_
        rw [j2, beq_self_eq_true]
        exact tail2 R9 σ9 t9 x9
    have comp : ∀ (elt : V → (List V → S → Prop) → S → Prop) (K : List V → S → Prop) R8 σ8, Nx R7 σ7 R8 σ8 → Inv as2.length R8 as2 σ8 →
        (∀ (j : Nat) R' σ' K, j < size kd → Mem R' as2 σ' m → (∀ R'' σ'', Nx R' σ' R'' σ'' → Mem R'' as2 σ'' m → K [vUNINIT] σ'') → elt (.int j) K σ') →
        (∀ R9 σ9, Nx R7 σ7 R9 σ9 → Inv as2.length R9 as2 σ9 → K (List.replicate (size kd) vUNINIT) σ9) → loopC elt (.rng 0 1 (size kd)) (size kd + 1) 0 [] K σ8 := by
      intro elt K R8 σ8 t8 x8 step fin
      refine loopC_all (item := fun k => .int k) (size kd) (fun k acc σ' => acc = List.replicate k vUNINIT ∧ ∃ R', Nx R7 σ7 R' σ' ∧ Mem R' as2 σ' m) (fun k acc σ' _ hk => item_rng hk) (fun acc σ' _ => item_rng_end) ?_ ?_ ⟨rfl, R8, t8, ⟨x8, (t7.trans t8).get x6.at_⟩⟩
      · rintro k acc σ' K hk ⟨rfl, R', t', x'⟩ hK
        refine step k R' σ' K hk x' fun R'' σ'' t'' x'' => hK _ _ ⟨?_, R'', t'.trans t'', x''⟩
        rw [List.replicate_succ']
      · rintro acc σ' ⟨rfl, R', t', x'⟩
        exact fin R' σ' t' x'.inv
    have rd : ∀ (j : Nat) R' σ' (K : V → S → Prop), j < size kd → Mem R' as2 σ' m → (∀ R'' σ'', Nx R' σ' R'' σ'' → Mem R'' as2 σ'' m → K vUNINIT σ'') →
        clsW tb (.ref m) "read" (fun c => (tb.fn "moved" = true ∧ clsW tb (.ref m) "base" (fun c' => callW T tb (n + 9) c' "base" [.ref m, .int A.length] (fun b σ'' => callW T tb (n + 9) "" "moved" [b, .int j] (fun pp σ3 => callW T tb (n + 9) c "read" [.ref m, pp] K σ3) σ'') σ') σ')) σ' := by
      intro j R' σ' K hj x' hK
      obtain ⟨_, em', la', rfl, _⟩ := x'.inv.getRole x'.at_
      refine cls_i em' h.m_Memory_read ⟨h.n_moved, ?_⟩
      refine cls_i em' h.m_Memory_base ?_
      refine w_base h ?_
      refine w_moved h ?_
      refine w_read (off := j) h x' home (by simp) (by rw [List.getElem?_replicate]; simp [hj]) fun R'' σ'' t'' x'' => hK R'' σ'' t'' x''
    rcases hℓ0 with rfl | ⟨a, rfl⟩
    · refine ⟨h.n__law_size, ?_⟩
      refine w_law_size h 4 kd _ _ R7 σ7 ok (by omega) (by omega) x7 fun R8 σ8 t8 x8 => ?_
      refine range1 (by omega) (by omega) ?_
      refine ⟨size kd + 1, by omega, ?_⟩
      refine comp _ _ R8 σ8 t8 x8 (fun j R' σ' K hj x' hK => rd j R' σ' _ hj x' hK) fun R9 σ9 t9 x9 => ?_
      have fq := x9.free (.lst (List.replicate (size kd) vUNINIT))
      have x10 := fq.1
      have t10 := fq.2
      exact last _ _ _ (t9.trans t10) x10 (by rw [← x9.len]; exact get_new) get_new _ (.inl rfl)
    · refine ⟨h.n__law_size, ?_⟩
      refine w_law_size h 4 kd _ _ R7 σ7 ok (by omega) (by omega) x7 fun R8 σ8 t8 x8 => ?_
      refine range1 (by omega) (by omega) ?_
      refine ⟨size kd + 1, by omega, ?_⟩
      refine comp _ _ R8 σ8 t8 x8 (fun j R' σ' K hj x' hK => rd j R' σ' _ hj x' hK) fun R9 σ9 t9 x9 => ?_
      have fq := x9.free (.lst (List.replicate (size kd) vUNINIT))
      have x10 := fq.1
      have t10 := fq.2
      exact last _ _ _ (t9.trans t10) x10 (by rw [← x9.len]; exact get_new) get_new _ (.inr ⟨a, rfl⟩)
  rw [show 0 + jobs kd + 1 = jobs kd + 1 by omega]
  have fq := x6.inv.free (.lst [])
  have x7 := fq.1
  have t7 := fq.2
  dsimp only [loopW]
  rcases htail with rfl | ⟨a, rfl⟩
  · refine ⟨by simp, ?_⟩
    refine ne_nil (k := 0) (get_app hg6) get_new .nil (by omega) ?_
    exact fin _ (.inl rfl) _ _ t7 x7
  · refine ⟨by simp, ?_⟩
    refine ne_nil (k := 0) (get_app hg6) get_new .nil (by omega) ?_
    exact fin _ (.inr ⟨a, rfl⟩) _ _ t7 x7
end
end Mine

end
section
open PySem PySem.W
set_option Elab.async false
set_option maxRecDepth 100000
namespace Mine

theorem PlA.mem {k : Nat} : ∀ {l : List V}, PlA k l → ∀ v ∈ l, Pl k v
  | [], _, v, h => by cases h
  | u :: l, hp, v, h => by
    obtain ⟨ds, r1, r2, r3, r4⟩ := hp
    dsimp only [V.pys] at r1
    cases q1 : u.py with
    | none => rw [q1] at r1; simp at r1
    | some d =>
      cases q2 : V.pys l with
      | none => rw [q1, q2] at r1; simp at r1
      | some es =>
        rw [q1, q2] at r1
        simp at r1
        subst r1
        simp only [PyData.canLayAll0, Bool.and_eq_true] at r2
        simp only [PyData.depthAll] at r3
        rcases List.mem_cons.mp h with rfl | h
        · exact ⟨d, q1, r2.1, by omega⟩
        · exact PlA.mem ⟨es, q2, r2.2, by omega, by simpa using r4⟩ v h
mutual
theorem cel_pl : ∀ (v : Va), PlA 1 (cel v)
  | .int i => .cons .int .nil
  | .bool b => .cons .bool .nil
  | .box k v => .cons (.tup (.cons (.str (by decide +kernel)) (.cons .int (.cons .int (.cons .int .nil))))) .nil
  | .agg vs => cels_pl vs
theorem cels_pl : ∀ (vs : List Va), PlA 1 (cels vs)
  | [] => .nil
  | v :: r => (cel_pl v).app (cels_pl r)
end
theorem told_pl : ∀ {d : Nat} {t : Ty} {v : Va}, Typ d t v → Pl d (told v)
  | 0, t, v, h => by
    rcases h with ⟨rfl, i, rfl⟩ | ⟨rfl, i, rfl⟩
    · exact .int
    · exact .bool
  | d + 1, t, v, h => by
    rcases h with ⟨rfl, i, rfl⟩ | ⟨rfl, i, rfl⟩ | ⟨u, k, v', rfl, rfl, h⟩ | ⟨hp, vs, rfl, h⟩
    · exact .int
    · exact .bool
    · exact .tup (.cons (.str ok_box) (.cons (told_pl h) .nil))
    · refine .tup ?_
      have go : ∀ (ts : List Ty) (ws : List Va), Typs (Typ d) ts ws → PlA d (tolds ws) := fun ts => by
        induction ts with
        | nil => intro ws h; cases h; exact .nil
        | cons u r ih =>
          intro ws h
          cases h with
          | cons h1 h2 => exact .cons (told_pl h1) (ih _ h2)
      exact go _ _ h
theorem told_ne (v : Va) (i : Nat) : told v ≠ .ref i := by cases v <;> simp [told]

section
variable {c m g e ij : Nat} {R R' R₁ R₂ : List Role} {as as' : AS} {σ σ' σ₁ σ₂ : S} {T : Str → Str → Option Ent} {tb : Tb} {n : Nat}


noncomputable abbrev aL (is : Nat) (kd : V) (m iw ic : Nat) (tv : V) (io home sz : Nat) (tail : L) : L :=
  ([("source", .ref is), ("kind", kd), ("memory", .ref m), ("world", .ref iw), ("cells", .ref ic), ("told", tv), ("order", .ref io), ("home", .int home), ("size", .int sz)] : L) ++ tail

theorem w_array_right (h : Facts T tb) {N is k : Nat} {u : Ty} {Q : V → S → Prop} (hN : 100 ≤ N) (oku : Ok 3 u) (hk : k ≤ 3) (x : Inv 0 R [] σ) (hb : ∀ (i : Nat) r, R[i]? = some r → r = .free ∨ r = .src) (hs : R[is]? = some .src)
    (hq : ∀ R' σ' as' m, Nx R σ R' σ' → Mem R' as' σ' m → Q (.bool true) σ') : callW T tb N "" "_law_array_right" [.ref is, enc (.arr u k)] Q σ := by
  obtain ⟨n, rfl⟩ : ∃ n, N = n + 10 := ⟨N - 10, by omega⟩
  have ok : Ok 4 (.arr u k) := .inr (.inr (.inr (.inr ⟨u, k, rfl, hk, oku⟩)))
  have hsz := size_le ok
  have hnb := nb_le ok
  have hsu := size_le oku
  rw [pow4] at hsz hnb
  have p3 : 3 ^ 3 = 27 := rfl
  rw [p3] at hsu
  refine callW_fn h.f__law_array_right rfl ?_
  refine ⟨h.n_Memory, ?_⟩
  refine w_memory h x hb fun R1 σ1 m t1 x1 => ?_
  refine ⟨h.n_World, ?_⟩
  refine w_world h x1.inv fun R2 σ2 iw t2 x2 => ?_
  have x2m : Mem R2 [] σ2 m := ⟨x2, t2.get x1.at_⟩
  have t12 := t1.trans t2
  refine ⟨by simp, rfl, ?_⟩
  refine ⟨h.n__law_value, ?_⟩
  refine w_law_value h 4 (.arr u k) _ _ R2 [] σ2 ok (by omega) (by omega) x2m (t12.get hs) (by simp; omega) fun R3 σ3 v as₂ ic io t3 x3 ty im ho hlive hlen hrow hic hio => ?_
  obtain ⟨ic', io', e, q1, q2, q3, q4⟩ := hrow
  cases e
  rw [List.nil_append] at x3 im
  rw [List.length_nil] at ho
  have hlenv := ty.len
  refine ⟨rfl, ?_⟩
  obtain ⟨_, e3, la, rfl, _⟩ := x3.inv.getRole x3.at_
  refine cls_i e3 h.m_Memory_allocate ?_
  refine ⟨h.n_size_of, ?_⟩
  refine w_size_of h ok (by omega) (by omega) ?_
  refine w_allocate h x3 (by omega) (by omega) fun R4 σ4 t4 x4 => ?_
  have g4 := t4.keep _ _ q1 q2
  refine len_l g4 (by omega) ?_
  refine ⟨h.n_size_of, ?_⟩
  refine w_size_of h ok (by omega) (by omega) ?_
  refine ne_i ?_
  rw [hlenv, beq_self_eq_true]
  refine ⟨h.n__law_size, ?_⟩
  refine w_law_size h 4 (.arr u k) _ _ R4 σ4 ok (by omega) (by omega) x4.inv fun R5 σ5 t5 x5 => ?_
  have t35 := t4.trans t5
  refine len_l (t35.keep _ _ q1 q2) (by omega) ?_
  refine ne_i ?_
  rw [hlenv, beq_self_eq_true]
  have x5m : Mem R5 (as₂ ++ [(List.replicate (size (.arr u k)) vUNINIT, true)]) σ5 m := ⟨x5, t5.get x4.at_⟩
  obtain ⟨_, e5, la5, rfl, _⟩ := x5.getRole x5m.at_
  refine cls_i e5 h.m_Memory_write_all ?_
  refine cls_i e5 h.m_Memory_base ?_
  refine w_base h ?_
  refine w_write_all (k := as₂.length) h x5m get_new (by simp; exact hlenv) (t35.get q1) (t35.keep _ _ q1 q2) fun R6 σ6 t6 x6 => ?_
  have hset : (as₂ ++ [(List.replicate (size (.arr u k)) vUNINIT, true)]).set as₂.length (cel v, true) = as₂ ++ [(cel v, true)] := by
    rw [List.set_append_right _ _ (Nat.le_refl _)]; simp
  rw [hset] at x6
  refine ⟨h.n__law_size, ?_⟩
  refine sub_t rfl ?_
  refine w_law_size h 3 u _ _ R6 σ6 oku (by omega) (by omega) x6.inv fun R7 σ7 t7 x7 => ?_
  refine sub_t rfl ?_
  refine range1 (by omega) (by omega) ?_
  have t37 := (t35.trans t6).trans t7
  have im7 : InMem (as₂ ++ [(cel v, true)]) v := im.mono fun k a e => get_app e
  have after : ∀ ℓ R8 σ8, ((∃ p q, ℓ = aL is (enc (.arr u k)) m iw ic (told v) io as₂.length (size u) ([("number", p), ("place", q)] : L)) ∨ ℓ = aL is (enc (.arr u k)) m iw ic (told v) io as₂.length (size u) []) → Nx R7 σ7 R8 σ8 → Mem R8 (as₂ ++ [(cel v, true)]) σ8 m →
      exs (callW T tb (n + 9)) tb (b__law_array_right.body.drop 7) ℓ (fun fl _ σ' => match fl with | .ret v => Q v σ' | .next => Q .none σ') σ8 := by
    intro ℓ R8 σ8 hℓ t8 x8
    have t38 := t37.trans t8
    have main : ∀ (K : Bool → S → Prop), (∀ R9 σ9, Nx R8 σ8 R9 σ9 → Mem R9 (as₂ ++ [(cel v, true)]) σ9 m → K false σ9) → callW T tb (n + 9) "" "told_value" [enc (.arr u k), .ref ic, .ref iw, .ref m] (fun w σ' => cmpW .NotEq w (told v) (fun b => K b σ') σ') σ8 := by
      intro K hK
      refine w_told_value h 4 (.arr u k) v _ ic _ R8 σ8 ok ty (by omega) (by omega) x8 im7 (t38.get q1) (t38.keep _ _ q1 q2) fun R9 σ9 t9 x9 => ?_
      exact neV_same (told_pl ty) (by omega) (told_ne v) (hK _ _ t9 x9)
    have fin : ∀ R9 σ9, Nx R8 σ8 R9 σ9 → Mem R9 (as₂ ++ [(cel v, true)]) σ9 m → callW T tb (n + 9) "" "_law_dropped_right" [.ref m, .int as₂.length, enc (.arr u k), .ref io] Q σ9 := by
      intro R9 σ9 t9 x9
      have t39 := t38.trans t9
      refine w_dropped_right h (by omega) x9 ok ty im7 ho (by omega) (t39.get q3) (t39.keep _ _ q3 q4) fun R10 σ10 as' t10 x10 => ?_
      exact hq R10 σ10 as' m (((t12.trans t3).trans t39).trans t10) x10
    rcases hℓ with ⟨p, q, rfl⟩ | rfl
    · exact ⟨h.n_told_value, main _ fun R9 σ9 t9 x9 => ⟨h.n__law_dropped_right, fin R9 σ9 t9 x9⟩⟩
    · exact ⟨h.n_told_value, main _ fun R9 σ9 t9 x9 => ⟨h.n__law_dropped_right, fin R9 σ9 t9 x9⟩⟩
  refine ⟨k + 1, ?_⟩
  refine loopF_all (item := fun j => .int j) k (fun j ℓ σ' => ((∃ p q, ℓ = aL is (enc (.arr u k)) m iw ic (told v) io as₂.length (size u) ([("number", p), ("place", q)] : L)) ∨ ℓ = aL is (enc (.arr u k)) m iw ic (told v) io as₂.length (size u) []) ∧
    ∃ R', Nx R7 σ7 R' σ' ∧ Mem R' (as₂ ++ [(cel v, true)]) σ' m) (fun j ℓ σ' _ hj => item_rng hj) (fun ℓ σ' _ => item_rng_end) ?_ ?_ ⟨.inr rfl, R7, .refl, ⟨x7, t7.get x6.at_⟩⟩
  · rintro j ℓ σ' K hjlt ⟨hℓ, R', t', x'⟩ hK
    have hsk : size (.arr u k) = k * size u := rfl
    have hjb : (j + 1) * size u ≤ k * size u := Nat.mul_le_mul_right _ hjlt
    rw [Nat.add_mul, Nat.one_mul] at hjb
    have core : ∀ (K2 : Bool → S → Prop), (∀ R'' σ'', Nx R' σ' R'' σ'' → Mem R'' (as₂ ++ [(cel v, true)]) σ'' m → K2 false σ'') →
        clsW tb (.ref m) "read_all" (fun c => callW T tb (n + 9) c "read_all" [.ref m, ptr as₂.length ((j * size u : Nat) : Int), .int (size u)] (fun w σ1 => binW .Mult (.int j) (.int (size u)) (fun a σ2 => binW .Mult (.int j) (.int (size u)) (fun b0 σ3 => binW .Add b0 (.int (size u)) (fun b σ4 => sliceW (.ref ic) a b (fun z σ5 => cmpW .NotEq w z (fun b => K2 b σ5) σ5) σ4) σ3) σ2) σ1) σ') σ' := by
      intro K2 hK2
      obtain ⟨_, e', la', rfl, _⟩ := x'.inv.getRole x'.at_
      refine cls_i e' h.m_Memory_read_all ?_
      refine w_read_all (off := j * size u) h x' get_new rfl (by omega) fun R8 σ8 i t8 x8 r8 g8 hi => ?_
      refine mul_i (.inl (by unfold big; simp; omega)) ?_
      refine mul_i (.inl (by unfold big; simp; omega)) ?_
      refine add_i ?_
      have gc := (t37.trans (t'.trans t8)).keep _ _ q1 q2
      have e1 : ((j : Int) * (size u : Int)) = ((j * size u : Nat) : Int) := by push_cast; rfl
      rw [e1]
      refine slice_ab gc (by omega) (by omega) (by omega) (by omega) ?_
      have fq := x8.inv.free (.lst (((cel v).take (((j * size u : Nat) : Int) + (size u : Int)).toNat).drop ((j * size u : Nat) : Int).toNat))
      have x9 := fq.1
      have t9 := fq.2
      refine ne_same (get_app g8) ?_ (k := 1) (.of fun w hw => ?_) (by omega) ?_
      · rw [get_new]
        rw [Int.toNat_natCast, show (((j * size u : Nat) : Int) + (size u : Int)).toNat = j * size u + size u by omega, List.drop_take, Nat.add_sub_cancel_left]
      · exact (cel_pl v).mem w (List.mem_of_mem_drop (List.mem_of_mem_take hw))
      · exact hK2 _ _ (t8.trans t9) ⟨x9, t9.get x8.at_⟩
    obtain ⟨_, e', la', rfl, _⟩ := x'.inv.getRole x'.at_
    rcases hℓ with ⟨p, q, rfl⟩ | rfl
    · refine ⟨h.n_moved, ?_⟩
      refine cls_i e' h.m_Memory_base ?_
      refine w_base h ?_
      refine ⟨h.n_offset_of_item, ?_⟩
      refine w_offset_of_item h oku (by omega) (by omega) (by omega) ?_
      refine w_moved h ?_
      rw [Int.zero_add]
      exact core _ fun R'' σ'' t'' x'' => hK _ _ ⟨.inl ⟨_, _, rfl⟩, R'', t'.trans t'', x''⟩
    · refine ⟨h.n_moved, ?_⟩
      refine cls_i e' h.m_Memory_base ?_
      refine w_base h ?_
      refine ⟨h.n_offset_of_item, ?_⟩
      refine w_offset_of_item h oku (by omega) (by omega) (by omega) ?_
      refine w_moved h ?_
      rw [Int.zero_add]
      exact core _ fun R'' σ'' t'' x'' => hK _ _ ⟨.inl ⟨_, _, rfl⟩, R'', t'.trans t'', x''⟩
  · rintro ℓ σ' ⟨hℓ, R', t', x'⟩
    exact after ℓ R' σ' hℓ t' x'
end
end Mine

end
section
open PySem PySem.W
set_option Elab.async false
set_option maxRecDepth 100000
namespace Mine

noncomputable def rs : Role → Role
  | .src => .src
  | _ => .free
noncomputable def Base (R : List Role) (σ : S) : Prop := Inv 0 R [] σ ∧ (∀ (i : Nat) r, R[i]? = some r → r = .free ∨ r = .src)

section
variable {c m g e ij : Nat} {R R' R₁ R₂ : List Role} {as as' : AS} {σ σ' σ₁ σ₂ : S} {T : Str → Str → Option Ent} {tb : Tb} {n : Nat}

theorem reset (x : Inv c R as σ) : Base (R.map rs) σ := by
  refine ⟨⟨by simp [x.len], fun i r o h1 h2 => ?_, fun i j r h1 h2 h3 => ?_, by simp, by simp⟩, fun i r h1 => ?_⟩
  · rw [List.getElem?_map] at h1
    cases q : R[i]? with
    | none => rw [q] at h1; cases h1
    | some r0 =>
      rw [q] at h1
      cases h1
      have := x.ok i r0 o q h2
      cases r0 <;> first | exact trivial | exact this
  · exfalso
    rw [List.getElem?_map] at h1
    cases q : R[i]? with
    | none => rw [q] at h1; cases h1
    | some r0 =>
      rw [q] at h1
      cases h1
      cases r0 <;> cases h3
  · rw [List.getElem?_map] at h1
    cases q : R[i]? with
    | none => rw [q] at h1; cases h1
    | some r0 =>
      rw [q] at h1
      cases h1
      cases r0 <;> first | exact .inl rfl | exact .inr rfl
theorem get_rs {i : Nat} {r : Role} (h : R[i]? = some r) : (R.map rs)[i]? = some (rs r) := by
  rw [List.getElem?_map, h]; rfl
theorem Base.nx (b : Base R σ) (x : Inv c R' as σ') (t : Nx R σ R' σ') : Nx R σ (R'.map rs) σ' := by
  obtain ⟨e, he⟩ := t.ext
  refine ⟨⟨e.map rs, ?_⟩, t.keep⟩
  rw [he, List.map_append]
  congr 1
  apply List.ext_getElem?
  intro i
  rw [List.getElem?_map]
  cases q : R[i]? with
  | none => rfl
  | some r => rcases b.2 i r q with rfl | rfl <;> rfl

noncomputable def kd1 : Ty := .arr (.box .int) 2
noncomputable def kd2 : Ty := .arr (.tup [.box .bool, .int]) 3
noncomputable def kd3 : Ty := .arr .bool 2
noncomputable def kds : List V := [enc kd1, enc kd2, enc kd3]

theorem law_holds (h : Facts T tb) {N : Nat} (hN : 200 ≤ N) {xs : List Int} (hz : xs.length ≤ 63) : callW T tb N "" "law" [.ref 0] (fun v _ => v = .bool true) [.frz (xs.map .int)] := by
  obtain ⟨n, rfl⟩ : ∃ n, N = n + 10 := ⟨N - 10, by omega⟩
  refine callW_fn h.f_law rfl ?_
  refine ⟨h.n__law_pool, ?_⟩
  refine w_pool h hz rfl fun a b => ?_
  have b0 : Base [.free, .src] ([.frz (xs.map .int)] ++ [.lst [.int a, .int b]]) := by
    refine ⟨⟨rfl, fun i r o h1 h2 => ?_, fun i j r h1 h2 h3 => ?_, by simp, by simp⟩, fun i r h1 => ?_⟩
    · match i, h1, h2 with
      | 0, h1, h2 => cases h1; exact trivial
      | 1, h1, h2 => cases h1; cases h2; exact ⟨a, b, rfl⟩
      | i + 2, h1, h2 => simp at h1
    · exfalso
      match i, h1 with
      | 0, h1 => cases h1; cases h3
      | 1, h1 => cases h1; cases h3
      | i + 2, h1 => simp at h1
    · match i, h1 with
      | 0, h1 => cases h1; exact .inl rfl
      | 1, h1 => cases h1; exact .inr rfl
      | i + 2, h1 => simp at h1
  iterate 11 refine ⟨by simp, ?_⟩
  refine ⟨by simp, ?_⟩
  have fq := b0.1.free (.lst kds)
  have x1 := fq.1
  have t1 := fq.2
  refine ⟨4, ?_⟩
  refine loopF_all (item := fun j => kds.getD j .none) 3 (fun j ℓ σ' => (ℓ = ([("script", .ref 0), ("source", .ref 1)] : L) ∨ ∃ p, ℓ = ([("script", .ref 0), ("source", .ref 1), ("kind", p)] : L)) ∧
    ∃ R', Base R' σ' ∧ R'[1]? = some .src ∧ R'[2]? = some .free ∧ σ'[2]? = some (.lst kds)) (fun j ℓ σ' hP hj => ?_) (fun ℓ σ' hP => ?_) ?_ ?_ ⟨.inl rfl, _, ⟨x1, fun i r h1 => ?_⟩, rfl, rfl, rfl⟩
  · obtain ⟨_, R', _, _, _, g⟩ := hP
    refine (item_l g).trans ?_
    match j, hj with
    | 0, _ => rfl
    | 1, _ => rfl
    | 2, _ => rfl
  · obtain ⟨_, R', _, _, _, g⟩ := hP
    exact (item_l g).trans rfl
  · rintro j ℓ σ' K hj ⟨hℓ, R', b', r1, r2, g2⟩ hK
    have item : ∃ u k, Ok 3 u ∧ k ≤ 3 ∧ kds.getD j .none = enc (.arr u k) := by
      match j, hj with
      | 0, _ => exact ⟨_, _, .inr (.inr (.inl ⟨_, rfl, .inl rfl⟩)), by decide, rfl⟩
      | 1, _ => exact ⟨_, _, .inr (.inr (.inr (.inl ⟨_, rfl, by decide, fun u hu => by
          simp only [List.mem_cons, List.not_mem_nil, or_false] at hu
          rcases hu with rfl | rfl
          · exact .inr (.inr (.inl ⟨_, rfl, .inr (.inl rfl)⟩))
          · exact .inl rfl⟩))), by decide, rfl⟩
      | 2, _ => exact ⟨_, _, .inr (.inl rfl), by decide, rfl⟩
    obtain ⟨u, k, oku, hk, hkd⟩ := item
    have core : ∀ (K' : V → S → Prop), (∀ R2 σ2, Base R2 σ2 → R2[1]? = some .src → R2[2]? = some .free → σ2[2]? = some (.lst kds) → K' (.bool true) σ2) → callW T tb (n + 9) "" "_law_array_right" [.ref 1, kds.getD j .none] K' σ' := by
      intro K' hK'
      rw [hkd]
      refine w_array_right h (by omega) oku hk b'.1 b'.2 r1 fun R2 σ2 as2 m2 t2 x2 => ?_
      have t3 := b'.nx x2.inv t2
      exact hK' _ _ (reset x2.inv) (t3.get r1) (t3.get r2) (t3.keep _ _ r2 g2)
    rcases hℓ with rfl | ⟨p, rfl⟩
    · refine ⟨h.n__law_array_right, core _ fun R2 σ2 b2 r1 r2 g2 => ?_⟩
      exact hK _ _ ⟨.inr ⟨_, rfl⟩, R2, b2, r1, r2, g2⟩
    · refine ⟨h.n__law_array_right, core _ fun R2 σ2 b2 r1 r2 g2 => ?_⟩
      exact hK _ _ ⟨.inr ⟨_, rfl⟩, R2, b2, r1, r2, g2⟩
  · rintro ℓ σ' ⟨hℓ, R', b', r1, r2, g2⟩
    have fin : ∀ R2 σ2 t (r : Nat), Nx R' σ' R2 σ2 → Inv 0 R2 [] σ2 → Ok 3 t → (r : Int) < 2 → callW T tb (n + 9) "" "_law_array_right" [.ref 1, .tup [.str "array", enc t, .int (2 + r)]] (fun v _ => v = .bool true) σ2 := by
      intro R2 σ2 t r t2 x2 okt hr
      have b2 := reset x2
      have t3 := b'.nx x2 t2
      have e : (V.tup [.str "array", enc t, .int (2 + r)]) = enc (.arr t (2 + r)) := by
        dsimp only [enc]; push_cast; rfl
      rw [e]
      exact w_array_right h (by omega) okt (by omega) b2.1 b2.2 (t3.get r1) fun _ _ _ _ _ _ => rfl
    rcases hℓ with rfl | ⟨p, rfl⟩
    · refine ⟨h.n__law_array_right, ?_⟩
      refine ⟨h.n__law_type, ?_⟩
      refine w_type h 3 _ _ R' σ' (by omega) (by omega) b'.1 r1 fun R2 σ2 t t2 x2 okt => ?_
      refine ⟨h.n__law_take, ?_⟩
      refine w_take h x2 (t2.get r1) (by omega) (by omega) fun σ3 r t3 x3 hr => ?_
      refine add_i ?_
      refine ⟨by simp, ?_⟩
      exact fin _ _ t r (t2.trans t3) x3 okt hr
    · refine ⟨h.n__law_array_right, ?_⟩
      refine ⟨h.n__law_type, ?_⟩
      refine w_type h 3 _ _ R' σ' (by omega) (by omega) b'.1 r1 fun R2 σ2 t t2 x2 okt => ?_
      refine ⟨h.n__law_take, ?_⟩
      refine w_take h x2 (t2.get r1) (by omega) (by omega) fun σ3 r t3 x3 hr => ?_
      refine add_i ?_
      refine ⟨by simp, ?_⟩
      exact fin _ _ t r (t2.trans t3) x3 okt hr
  · rcases Nat.lt_or_ge i 2 with hi | hi
    · rw [List.getElem?_append_left (by simpa using hi)] at h1
      exact b0.2 i r h1
    · rw [List.getElem?_append_right (by simpa using hi)] at h1
      rw [List.mem_singleton.mp (List.mem_of_getElem? h1)]
      exact .inl rfl
end
end Mine

end
section
open PySem PySem.W
set_option Elab.async false
set_option maxRecDepth 100000
namespace Mine
theorem facts (P : Params) : Facts (TT (Mine.D.K P)) (tb0 (Mine.D.K P)) where
  f_parts_of := f_parts_of P
  f_needs_drop := f_needs_drop P
  f_sum_of := f_sum_of P
  f_size_of := f_size_of P
  f_size_within := f_size_within P
  f_part_types := f_part_types P
  f_first_place := f_first_place P
  f_offset_of_field := f_offset_of_field P
  f_offset_of_item := f_offset_of_item P
  f_offset_of_part := f_offset_of_part P
  f_Stack___init__ := f_Stack___init__ P
  f_Stack_place := f_Stack_place P
  f_Stack_read := f_Stack_read P
  f_Stack_write := f_Stack_write P
  f_pointer := f_pointer P
  f_moved := f_moved P
  f_Allocation___init__ := f_Allocation___init__ P
  f_Memory___init__ := f_Memory___init__ P
  f_Memory_allocate := f_Memory_allocate P
  f_Memory_base := f_Memory_base P
  f_Memory_is_live := f_Memory_is_live P
  f_Memory_live_count := f_Memory_live_count P
  f_Memory_free := f_Memory_free P
  f_Memory_room := f_Memory_room P
  f_Memory_read := f_Memory_read P
  f_Memory_write := f_Memory_write P
  f_Memory_read_all := f_Memory_read_all P
  f_Memory_write_all := f_Memory_write_all P
  f_is_enum := f_is_enum P
  f_parts_told := f_parts_told P
  f_is_of_parts := f_is_of_parts P
  f_parts_of_cells := f_parts_of_cells P
  f_told_value := f_told_value P
  f_jobs_of := f_jobs_of P
  f_DropGlue___init__ := f_DropGlue___init__ P
  f_DropGlue_step := f_DropGlue_step P
  f_DropGlue_dropped := f_DropGlue_dropped P
  f_DropGlue_put_parts := f_DropGlue_put_parts P
  f_is_pointer := f_is_pointer P
  f_Places___init__ := f_Places___init__ P
  f_Places_led := f_Places_led P
  f_Places_leave := f_Places_leave P
  f_World___init__ := f_World___init__ P
  f__law_pool := f__law_pool P
  f__law_take := f__law_take P
  f__law_one := f__law_one P
  f__law_type := f__law_type P
  f__law_parts := f__law_parts P
  f__law_size := f__law_size P
  f__law_has_box := f__law_has_box P
  f__law_jobs := f__law_jobs P
  f__law_value := f__law_value P
  f__law_dropped_right := f__law_dropped_right P
  f__law_array_right := f__law_array_right P
  f_law := f_law P
  c_Stack := c_Stack P
  n_Stack := n_Stack P
  c_Allocation := c_Allocation P
  n_Allocation := n_Allocation P
  c_Memory := c_Memory P
  n_Memory := n_Memory P
  c_DropGlue := c_DropGlue P
  n_DropGlue := n_DropGlue P
  c_Places := c_Places P
  n_Places := n_Places P
  c_World := c_World P
  n_World := n_World P
  n_parts_of := n_parts_of P
  n_needs_drop := n_needs_drop P
  n_sum_of := n_sum_of P
  n_size_of := n_size_of P
  n_size_within := n_size_within P
  n_part_types := n_part_types P
  n_first_place := n_first_place P
  n_offset_of_field := n_offset_of_field P
  n_offset_of_item := n_offset_of_item P
  n_offset_of_part := n_offset_of_part P
  m_Stack_place := m_Stack_place P
  m_Stack_read := m_Stack_read P
  m_Stack_write := m_Stack_write P
  n_pointer := n_pointer P
  n_moved := n_moved P
  m_Memory_allocate := m_Memory_allocate P
  m_Memory_base := m_Memory_base P
  m_Memory_is_live := m_Memory_is_live P
  m_Memory_live_count := m_Memory_live_count P
  m_Memory_free := m_Memory_free P
  m_Memory_room := m_Memory_room P
  m_Memory_read := m_Memory_read P
  m_Memory_write := m_Memory_write P
  m_Memory_read_all := m_Memory_read_all P
  m_Memory_write_all := m_Memory_write_all P
  n_is_enum := n_is_enum P
  n_parts_told := n_parts_told P
  n_is_of_parts := n_is_of_parts P
  n_parts_of_cells := n_parts_of_cells P
  n_told_value := n_told_value P
  n_jobs_of := n_jobs_of P
  m_DropGlue_step := m_DropGlue_step P
  m_DropGlue_dropped := m_DropGlue_dropped P
  m_DropGlue_put_parts := m_DropGlue_put_parts P
  n_is_pointer := n_is_pointer P
  m_Places_led := m_Places_led P
  m_Places_leave := m_Places_leave P
  n__law_pool := n__law_pool P
  n__law_take := n__law_take P
  n__law_one := n__law_one P
  n__law_type := n__law_type P
  n__law_parts := n__law_parts P
  n__law_size := n__law_size P
  n__law_has_box := n__law_has_box P
  n__law_jobs := n__law_jobs P
  n__law_value := n__law_value P
  n__law_dropped_right := n__law_dropped_right P
  n__law_array_right := n__law_array_right P
  n_law := n_law P
  a_Stack_items := a_Stack_items P
  a_Allocation_cells := a_Allocation_cells P
  a_Allocation_stacks := a_Allocation_stacks P
  a_Allocation_is_live := a_Allocation_is_live P
  a_Memory_allocations := a_Memory_allocations P
  a_Memory_tags := a_Memory_tags P
  a_DropGlue_places := a_DropGlue_places P
  a_DropGlue_world := a_DropGlue_world P
  a_Places_memory := a_Places_memory P
  a_Places_world := a_Places_world P
  a_World_modules := a_World_modules P
  a_World_adts := a_World_adts P
  a_World_variants := a_World_variants P
  a_World_sigs := a_World_sigs P
  a_World_traits := a_World_traits P
  a_World_impls := a_World_impls P
  a_World_consts := a_World_consts P
  a_World_bodies := a_World_bodies P
  g_UNINIT := rfl
  g_OWNER := rfl
  g_MOST := rfl
theorem whole : PySem.Challenge.rw_pf0173_01.Holds := top_of 200 (by decide) fun P xs hz => law_holds (facts P) (Nat.le_refl _) hz

end Mine

end

set_option maxRecDepth 100000 in
theorem PySem.Challenge.cw_pf0173_01_holds : PySem.Challenge.rw_pf0173_01.Holds :=
  Mine.whole
