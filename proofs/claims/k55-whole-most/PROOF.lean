import PyProof.Rows.All
import KE.KeyNested
import PyProof.P3Statements
import PyProof.EqLayable
import PyProof.ReprReads
import PyProof.Rows.TmSorted
import HandS.List
import HandS.ForMost
import HandS.Deep
import HandS.TupAny
import HandS.More
import KE.KDictKeyed
import HandS.Conv
import KE.GoesMore
import KE.GoesZip
import KE.GoesEnum
import KE.SortData
import PyProof.ReprRoads
import HandS.Set
import HandS.SetFor
import HandS.SetTxt0
import HandS.Defaults
import Wide.All
import OpenK.AllK
import Wide.FinOn
import KE.KStateDown
import Lean
import HandS.Base
import HandS.Call
import HandS.Ends
import HandS.Words
import HandS.Head0
import HandS.Head1
import HandS.Head2
import HandS.HeadEnd
import HandS.HeadHook1
import HandS.HeadHook2
import PySem.Challenge.RW_doneroom_k55_whole_most_by_all_runs
import PyProof.ReprText
set_option Elab.async false
set_option linter.all false
section
/-! L3Core: data D without tuple addresses, the store of what changes, readings over them. No machine here. -/
namespace L3
open PySem

inductive D where
  | non | bl (b : Bool) | int (i : Int) | str (x : Str) | tup (ds : List D) | ref (a : Addr) | src (ns : List Int)

/-! ### data as the library's data, as keys -/
mutual
def D.py : D → PyData
  | .non => .none
  | .bl b => .bool b
  | .int i => .int i
  | .str x => .str x
  | .tup ds => .tuple (D.pys ds)
  | .ref _ => .none
  | .src _ => .none
def D.pys : List D → List PyData
  | [] => []
  | d :: ds => d.py :: D.pys ds
end
mutual
/-- no reference inside, texts in order, at most so deep -/
def D.ok : Nat → D → Bool
  | _, .non => true
  | _, .bl _ => true
  | _, .int _ => true
  | _, .str x => PyData.strOk x
  | 0, .tup _ => false
  | n + 1, .tup ds => D.oks n ds
  | _, .ref _ => false
  | _, .src _ => false
def D.oks : Nat → List D → Bool
  | _, [] => true
  | n, d :: ds => D.ok n d && D.oks n ds
end
mutual
/-- the data as a key -/
def D.nk : D → NestedKey
  | .non => .none
  | .bl b => .num (if b = true then 1 else 0)
  | .int i => .num i
  | .str x => .text x
  | .tup ds => .tup (D.nks ds)
  | .ref _ => .none
  | .src _ => .none
def D.nks : List D → List NestedKey
  | [] => []
  | d :: ds => d.nk :: D.nks ds
end
mutual
/-- a key at most so deep -/
def D.kok : Nat → D → Bool
  | _, .non => true
  | _, .bl _ => true
  | _, .int _ => true
  | _, .str _ => true
  | 0, .tup _ => false
  | n + 1, .tup ds => D.koks n ds
  | _, .ref _ => false
  | _, .src _ => false
def D.koks : Nat → List D → Bool
  | _, [] => true
  | n, d :: ds => D.kok n d && D.koks n ds
end
def D.isTup : D → Bool
  | .tup _ => true
  | _ => false
def D.flat : D → Bool
  | .non => true
  | .bl _ => true
  | .int _ => true
  | .str _ => true
  | _ => false
/-- == of data -/
def D.eqb (x y : D) : Bool := PyData.eqv x.py y.py
/-- two that == compares at once -/
def D.scal : D → D → Bool
  | .non, .non => true | .non, .int _ => true | .int _, .non => true | .non, .bl _ => true
  | .bl _, .non => true | .non, .str _ => true | .str _, .non => true
  | .int _, .int _ => true | .bl _, .bl _ => true | .str _, .str _ => true
  | .int _, .str _ => true | .str _, .int _ => true
  | .bl _, .str _ => true | .str _, .bl _ => true
  | _, _ => false

/-! ### the store: what changes -/
inductive AO where
  | lst (ds : List D)
  | dK (kvs : List (Str × D))
  | dT (kvs : List (D × D))
  /-- a dict with tuple keys that is walked -/
  | lk (kvs : List (D × D))
abbrev Sto := Addr → Option AO
def Sto.put (S : Sto) (a : Addr) (o : AO) : Sto := fun b => if b = a then some o else S b
theorem put_same {S : Sto} {a : Addr} {o : AO} : S.put a o a = some o := if_pos rfl
theorem put_ne {S : Sto} {a b : Addr} {o : AO} (h : b ≠ a) : S.put a o b = S b := if_neg h
theorem put_old {S : Sto} {a p : Addr} {o u : AO} (h : S a = some u) (hp : S p = none) : S.put p o a = some u := by
  rw [put_ne, h]
  intro e
  rw [e, hp] at h
  cases h
theorem put_put {S : Sto} {a : Addr} {o u : AO} : (S.put a o).put a u = S.put a u := by
  funext b
  unfold Sto.put
  by_cases h : b = a
  · rw [if_pos h, if_pos h]
  · rw [if_neg h, if_neg h, if_neg h]
theorem put_comm {S : Sto} {a b : Addr} {o u : AO} (h : a ≠ b) : (S.put a o).put b u = (S.put b u).put a o := by
  funext c
  unfold Sto.put
  by_cases h1 : c = a
  · subst h1
    (rw [if_neg h, if_pos rfl, if_pos rfl])
  · by_cases h2 : c = b
    · rw [if_pos h2, if_neg h1, if_pos h2]
    · rw [if_neg h2, if_neg h1, if_neg h1, if_neg h2]
theorem put_self {S : Sto} {a : Addr} {o : AO} (h : S a = some o) : S.put a o = S := by
  funext b
  unfold Sto.put
  by_cases e : b = a
  · rw [if_pos e, e, h]
  · rw [if_neg e]
theorem put_none {S : Sto} {a b : Addr} {o : AO} (h : S.put a o b = none) : S b = none ∧ b ≠ a := by
  by_cases e : b = a
  · rw [e, put_same] at h
    cases h
  · rw [put_ne e] at h
    exact ⟨h, e⟩
/-- what S' knows S knows too -/
def Sub (S' S : Sto) : Prop := ∀ a o, S' a = some o → S a = some o
theorem Sub.refl (S : Sto) : Sub S S := fun _ _ h => h
theorem Sub.trans {S S1 S2 : Sto} (a : Sub S S1) (b : Sub S1 S2) : Sub S S2 := fun x o h => b x o (a x o h)
theorem Sub.new {S S' : Sto} {p : Addr} {o : AO} (h : Sub S S') (hp : S' p = none) : Sub S (S'.put p o) := fun a u e => put_old (h a u e) hp
theorem Sub.put {S S' : Sto} {p : Addr} {o : AO} (h : Sub S S') : Sub (S.put p o) (S'.put p o) := fun a u e => by
  by_cases q : a = p
  · subst q
    rw [put_same] at e ⊢
    exact e
  · rw [put_ne q] at e ⊢
    exact h a u e
theorem Sub.at {S S' : Sto} {p : Addr} {o : AO} (h : Sub S S') (hp : S' p = some o) : Sub (S.put p o) S' := fun a u e => by
  by_cases q : a = p
  · subst q
    rw [put_same] at e
    rw [hp]
    exact e
  · rw [put_ne q] at e
    exact h a u e
theorem Sub.none {S S' : Sto} {p : Addr} (h : Sub S S') (hp : S' p = Option.none) : S p = Option.none := by
  cases e : S p with
  | none => rfl
  | some o =>
    rw [h p o e] at hp
    cases hp

/-! ### dicts -/
def getT (kvs : List (D × D)) (k : D) : Option D := (kvs.find? fun kv => decide (kv.1.nk = k.nk)).map (·.2)
def hasT (kvs : List (D × D)) (k : D) : Bool := kvs.any fun kv => decide (kv.1.nk = k.nk)
def putT (kvs : List (D × D)) (k v : D) : List (D × D) := if hasT kvs k = true then kvs.map fun kv => if kv.1.nk = k.nk then (kv.1, v) else kv else kvs ++ [(k, v)]
def hasK (kvs : List (Str × D)) (k : Str) : Bool := kvs.any fun kv => decide (kv.1 = k)
def putK (kvs : List (Str × D)) (k : Str) (v : D) : List (Str × D) := if hasK kvs k = true then kvs.map fun kv => if kv.1 = k then (kv.1, v) else kv else kvs ++ [(k, v)]

/-! ### readings -/
abbrev E3 := List (Option D)
abbrev K3 := D → Sto → Prop
abbrev T3 := E3 → Sto → K3 → Prop
abbrev B3 := E3 → Sto → (Bool → Sto → Prop) → Prop
abbrev A3 := E3 → Sto → (List D → Sto → Prop) → Prop
abbrev R3 := D → D → Sto → K3 → Prop
abbrev C3 := List D → Sto → K3 → Prop
structure N3 where
  nx : E3 → Sto → Prop
  rt : K3
abbrev S3 := N3 → E3 → Sto → Prop
abbrev G3 := D → E3 → Sto → (E3 → Sto → Prop) → Prop
abbrev Gs3 := List D → E3 → Sto → (E3 → Sto → Prop) → Prop
/-- a def: arguments, store, what follows -/
abbrev F3 := List D → Sto → K3 → Prop

def xVar (i : Nat) : T3 := fun δ S Q => match δ[i]? with
  | some (some d) => Q d S
  | _ => False
def xC (d : D) : T3 := fun _ S Q => Q d S
def xOp (r : R3) (a b : T3) : T3 := fun δ S Q => a δ S fun x S1 => b δ S1 fun y S2 => r x y S2 Q
def aNil : A3 := fun _ S Q => Q [] S
def aCons (a : T3) (r : A3) : A3 := fun δ S Q => a δ S fun x S1 => r δ S1 fun xs S2 => Q (x :: xs) S2
def xTup (a : A3) : T3 := fun δ S Q => a δ S fun ds S1 => ds.length ≤ 1000 ∧ Q (.tup ds) S1
def xLst (a : A3) : T3 := fun δ S Q => a δ S fun ds S1 => ds.length ≤ 1000 ∧ ∀ p, S1 p = none → Q (.ref p) (S1.put p (.lst ds))
def xDK : T3 := fun _ S Q => ∀ p, S p = none → Q (.ref p) (S.put p (.dK []))
def xDT : T3 := fun _ S Q => ∀ p, S p = none → Q (.ref p) (S.put p (.dT []))
def xCall (sp : F3) (a : A3) : T3 := fun δ S Q => a δ S fun ds S1 => sp ds S1 Q
def xIf (c : B3) (a b : T3) : T3 := fun δ S Q => c δ S fun k S1 => if k = true then a δ S1 Q else b δ S1 Q

/-! operators -/
def rAdd : R3
  | .int i, .int j, S, Q => Q (.int (i + j)) S
  | .str a, .str b, S, Q => a.length + b.length ≤ 100000 ∧ Q (.str (a ++ b)) S
  | .tup a, .tup b, S, Q => a.length + b.length ≤ 100000 ∧ Q (.tup (a ++ b)) S
  | .ref a, .ref b, S, Q => ∃ xs ys, S a = some (.lst xs) ∧ S b = some (.lst ys) ∧ xs.length + ys.length ≤ 100000 ∧ ∀ p, S p = none → Q (.ref p) (S.put p (.lst (xs ++ ys)))
  | _, _, _, _ => False
def rSub : R3
  | .int i, .int j, S, Q => Q (.int (i - j)) S
  | _, _, _, _ => False
def strRep (x : Str) (n : Nat) : Str := ⟨((List.replicate n x.cps.toList).flatten).toArray⟩
def rMul : R3
  | .int i, .int j, S, Q => -(2 ^ 64) < i ∧ i < 2 ^ 64 ∧ Q (.int (i * j)) S
  | .str x, .int n, S, Q => 0 ≤ n ∧ n ≤ 1000 ∧ x.length ≤ 1000 ∧ Q (.str (strRep x n.toNat)) S
  | _, _, _, _ => False
def rDiv : R3
  | .int i, .int j, S, Q => 0 < j ∧ j < 1073741824 ∧ Q (.int (i / j)) S
  | _, _, _, _ => False
def rMod : R3
  | .int i, .int j, S, Q => 0 < j ∧ Q (.int (i % j)) S
  | _, _, _, _ => False
def rPow : R3
  | .int i, .int j, S, Q => (0 ≤ j ∧ j ≤ 1000000 ∧ i.natAbs < 2 ^ 64) ∧ Q (.int (i ^ j.toNat)) S
  | _, _, _, _ => False
def rLt : R3
  | .int i, .int j, S, Q => Q (.bl (decide (i < j))) S
  | _, _, _, _ => False
def rGt : R3
  | .int i, .int j, S, Q => Q (.bl (decide (j < i))) S
  | _, _, _, _ => False
def rGe : R3
  | .int i, .int j, S, Q => Q (.bl (decide (j ≤ i))) S
  | _, _, _, _ => False
/-- == (neg: !=) of two at once, of data, of two lists of such -/
def rEq (neg : Bool) : R3 := fun x y S Q =>
  (D.scal x y = true ∧ Q (.bl (neg != D.eqb x y)) S) ∨
  (D.ok 60 x = true ∧ D.ok 60 y = true ∧ Q (.bl (neg != D.eqb x y)) S) ∨
  (∃ a b xs ys, x = .ref a ∧ y = .ref b ∧ S a = some (.lst xs) ∧ S b = some (.lst ys) ∧ xs.all (D.ok 60) = true ∧ ys.all (D.ok 60) = true ∧ Q (.bl (neg != PyData.eqvAll (D.pys xs) (D.pys ys))) S)
/-- in (neg: not in) -/
def rIn (neg : Bool) : R3 := fun x y S Q => match y with
  | .tup ys => x.flat = true ∧ ys.all D.flat = true ∧ Q (.bl (neg != ys.any fun z => D.eqb z x)) S
  | .ref a => ∃ ys, S a = some (.lst ys) ∧ ((x.flat = true ∧ ys.all D.flat = true) ∨ (D.ok 60 x = true ∧ ys.all (D.ok 60) = true)) ∧ Q (.bl (neg != ys.any fun z => D.eqb z x)) S
  | _ => False
/-- in a dict -/
def rInT (neg : Bool) : R3 := fun x y S Q => ∃ a kvs, y = .ref a ∧ (S a = some (.dT kvs) ∨ S a = some (.lk kvs)) ∧ x.isTup = true ∧ x.kok 8 = true ∧ Q (.bl (neg != hasT kvs x)) S
def rInK (neg : Bool) : R3 := fun x y S Q => ∃ a kvs k, y = .ref a ∧ x = .str k ∧ S a = some (.dK kvs) ∧ Q (.bl (neg != hasK kvs k)) S
def D.isNon : D → Bool
  | .non => true
  | _ => false
def xIsN (neg : Bool) (a : T3) : T3 := fun δ S Q => a δ S fun x S1 => Q (.bl (neg != x.isNon)) S1
/-- a[i] -/
def rIx : R3
  | .tup ds, .int i, S, Q => ∃ d, L2.atI ds i = some d ∧ Q d S
  | .ref a, .int i, S, Q => ∃ ds d, S a = some (.lst ds) ∧ L2.atI ds i = some d ∧ Q d S
  | .src ns, .int i, S, Q => ∃ n, L2.atI ns i = some n ∧ Q (.int n) S
  | .str z, .int i, S, Q => ∃ c, z.length ≤ 100000 ∧ L2.atI z.cps.toList i = some c ∧ Q (.str ⟨#[c]⟩) S
  | _, _, _, _ => False
/-- d[k] -/
def rKey : R3 := fun x y S Q => ∃ a kvs v, x = .ref a ∧ (S a = some (.dT kvs) ∨ S a = some (.lk kvs)) ∧ y.isTup = true ∧ y.kok 8 = true ∧ getT kvs y = some v ∧ Q v S
def cut (ds : List D) (lo hi : Option Int) : List D := (ds.drop (HT.sIx ds.length 0 lo)).take (HT.sIx ds.length ds.length hi - HT.sIx ds.length 0 lo)
abbrev O3 := E3 → Sto → (Option Int → Sto → Prop) → Prop
def oNone : O3 := fun _ S Q => Q none S
def oSome (a : T3) : O3 := fun δ S Q => a δ S fun x S1 => match x with
  | .int i => Q (some i) S1
  | _ => False
def rSl (lo hi : Option Int) : D → Sto → K3 → Prop
  | .tup ds, S, Q => Q (.tup (cut ds lo hi)) S
  | .ref a, S, Q => ∃ ds, S a = some (.lst ds) ∧ ∀ p, S p = none → Q (.ref p) (S.put p (.lst (cut ds lo hi)))
  | _, _, _ => False
def xSl (a : T3) (lo hi : O3) : T3 := fun δ S Q => a δ S fun x S1 => lo δ S1 fun i S2 => hi δ S2 fun j S3 => rSl i j x S3 Q

/-! built-ins -/
def xBi (r : C3) (a : A3) : T3 := fun δ S Q => a δ S fun ds S1 => r ds S1 Q
def cLen : C3
  | [.tup ds], S, Q => Q (.int ds.length) S
  | [.src ns], S, Q => Q (.int ns.length) S
  | [.ref a], S, Q => ∃ ds, S a = some (.lst ds) ∧ Q (.int ds.length) S
  | _, _, _ => False
def cTuple : C3
  | [.ref a], S, Q => ∃ ds, S a = some (.lst ds) ∧ Q (.tup ds) S
  | _, _, _ => False
def cList : C3
  | [.ref a], S, Q => ∃ ds, S a = some (.lst ds) ∧ ∀ p, S p = none → Q (.ref p) (S.put p (.lst ds))
  | _, _, _ => False
/-- list(d), d a dict -/
def cListT : C3
  | [.ref a], S, Q => ∃ kvs, S a = some (.dT kvs) ∧ ∀ p, S p = none → Q (.ref p) (S.put p (.lst (kvs.map (·.1))))
  | _, _, _ => False
def cInt : C3
  | [.bl b], S, Q => Q (.int (if b = true then 1 else 0)) S
  | [.int i], S, Q => Q (.int i) S
  | _, _, _ => False
def cMax2 : C3
  | [.int i, .int j], S, Q => Q (.int (if j > i then j else i)) S
  | _, _, _ => False
def cMin2 : C3
  | [.int i, .int j], S, Q => Q (.int (if j < i then j else i)) S
  | _, _, _ => False
def cMaxL : C3
  | [.ref a], S, Q => ∃ ns : List Int, S a = some (.lst (ns.map D.int)) ∧ ns ≠ [] ∧ ∀ m, m ∈ ns → (∀ y ∈ ns, y ≤ m) → Q (.int m) S
  | _, _, _ => False
/-- sorted(d), d a dict with texts for keys -/
def cSortK : C3
  | [.ref a], S, Q => ∃ kvs, S a = some (.dK kvs) ∧ kvs.length < 64 ∧ ∀ ys : List Str, ys.Perm (kvs.map (·.1)) → PyProof.Rows.sortedS ys = true → ∀ p, S p = none → Q (.ref p) (S.put p (.lst (ys.map D.str)))
  | _, _, _ => False
/-- sorted(set(xs)), xs a list of texts -/
def cSortSet : C3
  | [.ref a], S, Q => ∃ xs : List Str, S a = some (.lst (xs.map D.str)) ∧ xs.length < 60 ∧ ∀ ys : List Str, (∀ y, y ∈ ys ↔ y ∈ xs) → ys.length ≤ xs.length → ∀ p, S p = none → Q (.ref p) (S.put p (.lst (ys.map D.str)))
  | _, _, _ => False
/-- a row of a table: (number, a tuple of texts, number) -/
def isRow : D → Bool
  | .tup [.int _, .tup ws, .int _] => ws.all fun w => match w with
    | .str _ => true
    | _ => false
  | _ => false
/-- sorted(xs), xs a table -/
def cSortRows : C3
  | [.ref a], S, Q => ∃ xs, S a = some (.lst xs) ∧ xs.length ≤ 100000 ∧ xs.all isRow = true ∧ xs.all (D.ok 20) = true ∧ ∀ ys, ∀ p, S p = none → Q (.ref p) (S.put p (.lst ys))
  | _, _, _ => False
/-- str(xs), xs a list of data -/
def cStr : C3
  | [.ref a], S, Q => ∃ xs, S a = some (.lst xs) ∧ xs.all (D.ok 20) = true ∧ PyData.showable (.list (D.pys xs)) = true ∧ PyData.depth (.list (D.pys xs)) ≤ 50 ∧
    (PyData.shown (.list (D.pys xs))).length ≤ 10000000 ∧ Q (.str (PyData.shown (.list (D.pys xs)))) S
  | _, _, _ => False

/-! methods of lists -/
def xMth (r : R3) (o e : T3) : T3 := fun δ S Q => o δ S fun x S1 => (∃ a ds, x = .ref a ∧ S1 a = some (.lst ds)) ∧ e δ S1 fun y S2 => r x y S2 Q
def xM0 (r : D → Sto → K3 → Prop) (a : T3) : T3 := fun δ S Q => a δ S fun x S1 => r x S1 Q
def mAppend : R3
  | .ref a, d, S, Q => ∃ xs, S a = some (.lst xs) ∧ xs.length < 100000 ∧ Q .non (S.put a (.lst (xs ++ [d])))
  | _, _, _, _ => False
def mExtend : R3
  | .ref a, .ref b, S, Q => ∃ xs ys, S a = some (.lst xs) ∧ S b = some (.lst ys) ∧ xs.length + ys.length ≤ 1000000 ∧ Q .non (S.put a (.lst (xs ++ ys)))
  | .ref a, .tup ys, S, Q => ∃ xs, S a = some (.lst xs) ∧ xs.length + ys.length ≤ 1000000 ∧ Q .non (S.put a (.lst (xs ++ ys)))
  | _, _, _, _ => False
def mPop : D → Sto → K3 → Prop
  | .ref a, S, Q => ∃ xs d, S a = some (.lst xs) ∧ xs[xs.length - 1]? = some d ∧ Q d (S.put a (.lst xs.dropLast))
  | _, _, _ => False
def mReverse : D → Sto → K3 → Prop
  | .ref a, S, Q => ∃ xs, S a = some (.lst xs) ∧ Q .non (S.put a (.lst xs.reverse))
  | _, _, _ => False
def mIndex : R3
  | .ref a, .str x, S, Q => ∃ (ys : List Str) (j : Nat), S a = some (.lst (ys.map D.str)) ∧ ys[j]? = some x ∧ (∀ (m : Nat) (z : Str), m < j → ys[m]? = some z → z ≠ x) ∧ Q (.int j) S
  | _, _, _, _ => False

/-! tests -/
def bT (a : T3) : B3 := fun δ S Q => a δ S fun x S1 => match x with
  | .bl b => Q b S1
  | _ => False
def bAnd (a b : B3) : B3 := fun δ S Q => a δ S fun c S1 => if c = true then b δ S1 Q else Q false S1
def bOr (a b : B3) : B3 := fun δ S Q => a δ S fun c S1 => if c = true then Q true S1 else b δ S1 Q
def bNot (a : B3) : B3 := fun δ S Q => a δ S fun c S1 => Q (!c) S1
def bYes : B3 := fun _ S Q => Q true S
def xAndV (a b : T3) : T3 := fun δ S Q => a δ S fun x S1 => match x with
  | .bl c => if c = true then b δ S1 Q else Q (.bl false) S1
  | _ => False

/-! targets -/
def gN (i : Nat) : G3 := fun d δ S k => k (δ.set i (some d)) S
def gNil : Gs3 := fun ds δ S k => ds = [] ∧ k δ S
def gCons (g : G3) (r : Gs3) : Gs3 := fun ds δ S k => match ds with
  | d :: ds => g d δ S fun δ1 S1 => r ds δ1 S1 k
  | [] => False
def gTup (n : Nat) (r : Gs3) : G3 := fun d δ S k => match d with
  | .tup ds => ds.length = n ∧ r ds δ S k
  | _ => False
/-- a[i] = d, a list -/
def gSubL (o i : T3) : G3 := fun d δ S k => o δ S fun x S1 => i δ S1 fun y S2 => ∃ a n xs j, x = .ref a ∧ y = .int n ∧ S2 a = some (.lst xs) ∧ L2.ixN xs.length n = some j ∧ k δ (S2.put a (.lst (xs.set j d)))
/-- d[k] = v -/
def gSubT (o i : T3) : G3 := fun d δ S k => o δ S fun x S1 => i δ S1 fun y S2 => ∃ a kvs, x = .ref a ∧ S2 a = some (.dT kvs) ∧ y.isTup = true ∧ y.kok 8 = true ∧ kvs.length < 100000 ∧ k δ (S2.put a (.dT (putT kvs y d)))
def gSubK (o i : T3) : G3 := fun d δ S k => o δ S fun x S1 => i δ S1 fun y S2 => ∃ a kvs z, x = .ref a ∧ y = .str z ∧ S2 a = some (.dK kvs) ∧ kvs.length < 100000 ∧ k δ (S2.put a (.dK (putK kvs z d)))

/-! statements -/
def sNil : S3 := fun N δ S => N.nx δ S
def sSeq (a b : S3) : S3 := fun N δ S => a { N with nx := b N } δ S
def sAsg (e : T3) (g : G3) : S3 := fun N δ S => e δ S fun d S1 => g d δ S1 N.nx
def sDrop (e : T3) : S3 := fun N δ S => e δ S fun _ S1 => N.nx δ S1
def sRet (e : T3) : S3 := fun N δ S => e δ S N.rt
def sIf (c : B3) (a b : S3) : S3 := fun N δ S => c δ S fun k S1 => if k = true then a N δ S1 else b N δ S1
def sWhile (c : B3) (b : S3) : S3 := fun N δ S => ∃ W : Nat → E3 → Sto → Prop, (∃ m, W m δ S) ∧ ∀ m δ S, W m δ S →
  c δ S fun k S1 => if k = true then b { N with nx := fun δ' S' => ∃ m', m' < m ∧ W m' δ' S' } δ S1 else N.nx δ S1
/-- the items still to come; G: what is asked of the store at each turn -/
def forD (G : Sto → Prop) (g : G3) (b : S3) (N : N3) : List D → E3 → Sto → Prop
  | [], δ, S => G S ∧ N.nx δ S
  | d :: ds, δ, S => G S ∧ g d δ S fun δ1 S1 => b { N with nx := fun δ2 S2 => forD G g b N ds δ2 S2 } δ1 S1
/-- what is walked: its items, what is asked at each turn -/
abbrev I3 := E3 → Sto → (List D → (Sto → Prop) → Sto → Prop) → Prop
def seqOf : D → Sto → (List D → (Sto → Prop) → Sto → Prop) → Prop
  | .tup ds, S, k => k ds (fun _ => True) S
  | .ref a, S, k => ∃ ds, S a = some (.lst ds) ∧ k ds (fun S' => S' a = some (.lst ds)) S
  | _, _, _ => False
def iSeq (e : T3) : I3 := fun δ S k => e δ S fun x S1 => seqOf x S1 k
def numbered (n : Nat) : List D → List D
  | [] => []
  | d :: ds => .tup [.int n, d] :: numbered (n + 1) ds
abbrev J3 := List D → Sto → (List D → (Sto → Prop) → Sto → Prop) → Prop
def iBi (r : J3) (a : A3) : I3 := fun δ S k => a δ S fun ds S1 => r ds S1 k
def jEnum : J3
  | [x], S, k => seqOf x S fun ds G S2 => k (numbered 0 ds) G S2
  | _, _, _ => False
def jRev : J3
  | [.ref a], S, k => ∃ ds, S a = some (.lst ds) ∧ k ds.reverse (fun S' => S' a = some (.lst ds)) S
  | _, _, _ => False
def rangeD (lo : Int) : Nat → List D
  | 0 => []
  | n + 1 => .int lo :: rangeD (lo + 1) n
def jRange1 : J3
  | [.int n], S, k => -1000000 ≤ n ∧ n ≤ 1000000 ∧ k (rangeD 0 n.toNat) (fun _ => True) S
  | _, _, _ => False
def jRange2 : J3
  | [.int m, .int n], S, k => -1000000 ≤ m ∧ m ≤ 1000000 ∧ n ≤ 1000000 ∧ -1000000 ≤ n ∧ k (rangeD m (n - m).toNat) (fun _ => True) S
  | _, _, _ => False
/-- range(0, n, 2) -/
def evens (lo : Int) : Nat → List D
  | 0 => []
  | n + 1 => .int lo :: evens (lo + 2) n
def jRange02 : J3
  | [.int m, .int n, .int c], S, k => m = 0 ∧ c = 2 ∧ 0 ≤ n ∧ n ≤ 1000000 ∧ k (evens 0 ((n + 1) / 2).toNat) (fun _ => True) S
  | _, _, _ => False
def sFor (it : I3) (g : G3) (b : S3) : S3 := fun N δ S => it δ S fun ds G S1 => forD G g b N ds δ S1
/-- the dict with tuple keys at the name i is walked meanwhile -/
def sLock (i : Nat) (s : S3) : S3 := fun N δ S => ∃ a kvs, δ[i]? = some (some (.ref a)) ∧ S a = some (.dT kvs) ∧
  s ⟨fun δ' S' => S' a = some (.lk kvs) ∧ N.nx δ' (S'.put a (.dT kvs)), fun d S' => S' a = some (.lk kvs) ∧ N.rt d (S'.put a (.dT kvs))⟩ δ (S.put a (.lk kvs))
def xLock (i : Nat) (t : T3) : T3 := fun δ S Q => ∃ a kvs, δ[i]? = some (some (.ref a)) ∧ S a = some (.dT kvs) ∧
  t δ (S.put a (.lk kvs)) fun d S' => S' a = some (.lk kvs) ∧ Q d (S'.put a (.dT kvs))
/-- its keys -/
def iLk (i : Nat) : I3 := fun δ S k => ∃ a kvs, δ[i]? = some (some (.ref a)) ∧ S a = some (.lk kvs) ∧ k (kvs.map (·.1)) (fun S' => S' a = some (.lk kvs)) S

/-! list comprehensions -/
def wipe (δ : E3) : List Nat → E3
  | [] => δ
  | v :: vs => (wipe δ vs).set v none
/-- acc: what is made so far -/
def lcD (G : Sto → Prop) (g : G3) (c : B3) (e : T3) (δ : E3) : List D → List D → Sto → (List D → Sto → Prop) → Prop
  | [], acc, S, Q => G S ∧ Q acc S
  | d :: ds, acc, S, Q => G S ∧ g d δ S fun δ1 S1 => c δ1 S1 fun k S2 => if k = true then e δ1 S2 fun x S3 => acc.length < 100000 ∧ lcD G g c e δ ds (acc ++ [x]) S3 Q else lcD G g c e δ ds acc S2 Q
def xLc (it : I3) (vs : List Nat) (g : G3) (c : B3) (e : T3) : T3 := fun δ S Q => it δ S fun ds G S1 => lcD G g c e (wipe δ vs) ds [] S1 fun acc S2 => ∀ p, S2 p = none → Q (.ref p) (S2.put p (.lst acc))
/-! defs -/
def start (n : Nat) (ds : List D) : E3 := ds.map some ++ List.replicate (n - ds.length) none
/-- a def's body keeps the promise sp -/
def Keeps (n ps : Nat) (body : S3) (sp : F3) : Prop := (∀ ds S Q, sp ds S Q → ds.length = ps) ∧
  ∀ ds S Q, sp ds S Q → body ⟨fun _ S' => ∃ S'', Sub S'' S' ∧ Q .non S'', fun d S' => ∃ S'', Sub S'' S' ∧ Q d S''⟩ (start n ds) S
end L3
end
section
set_option maxRecDepth 100000
set_option maxHeartbeats 4200000
/-! L3A: readings over data are readings over the layer: the relation, the lifts, the general rules. -/
namespace L3
open L2 PyProof.Rows PySem.Spec PySem
abbrev St := L2.St

/-- the script: locked, or the module's own -/
def Src (K : PySem.W.Frag) (H : Hp) (a : Addr) (ns : List Int) : Prop := (∃ o, H a = some (.frz o (.lst (ns.map V.int)))) ∨ ∀ H', SqL K H' a (ns.map V.int)
mutual
inductive Rp (K : PySem.W.Frag) (H : Hp) : V → D → Prop
  | non : Rp K H .non .non
  | bl (b : Bool) : Rp K H (.bl b) (.bl b)
  | int (i : Int) : Rp K H (.int i) (.int i)
  | str (x : Str) : Rp K H (.str x) (.str x)
  | ref (a : Addr) : Rp K H (.ref a) (.ref a)
  | tup {a : Addr} {xs : List V} {ds : List D} : SqT K H a xs → RpA K H xs ds → Rp K H (.ref a) (.tup ds)
  | src {a : Addr} {ns : List Int} : Src K H a ns → Rp K H (.ref a) (.src ns)
inductive RpA (K : PySem.W.Frag) (H : Hp) : List V → List D → Prop
  | nil : RpA K H [] []
  | cons {v : V} {vs : List V} {d : D} {ds : List D} : Rp K H v d → RpA K H vs ds → RpA K H (v :: vs) (d :: ds)
end
structure Keep (H H' : Hp) : Prop where
  tup : ∀ a xs, H a = some (.tup xs) → H' a = some (.tup xs)
  frz : ∀ a o u, H a = some (.frz o u) → H' a = some (.frz o u)
  trk : ∀ a, H a ≠ none → H' a ≠ none
theorem Keep.refl (H : Hp) : Keep H H := ⟨fun _ _ h => h, fun _ _ _ h => h, fun _ h => h⟩
theorem Keep.trans {H H1 H2 : Hp} (a : Keep H H1) (b : Keep H1 H2) : Keep H H2 :=
  ⟨fun x xs h => b.tup _ _ (a.tup _ _ h), fun x o u h => b.frz _ _ _ (a.frz _ _ _ h), fun x h => b.trk _ (a.trk _ h)⟩
theorem Keep.new {H : Hp} {p : Addr} {o : HO} (h : H p = none) : Keep H (upd H p o) :=
  ⟨fun a xs e => by rw [upd_ne (ne_of_none e h)]; exact e, fun a u v e => by rw [upd_ne (ne_of_none e h)]; exact e, fun a e => by
    by_cases q : a = p
    · rw [q, upd_same]; exact fun z => nomatch z
    · rw [upd_ne q]; exact e⟩
/-- what may be stored at -/
def Soft : HO → Prop
  | .tup _ => False
  | .frz _ _ => False
  | _ => True
theorem Keep.set {H : Hp} {p : Addr} {o u : HO} (h : H p = some u) (hs : Soft u) : Keep H (upd H p o) := by
  refine ⟨fun a xs e => ?_, fun a w v e => ?_, fun a e => ?_⟩
  · have : a ≠ p := fun q => by subst q; rw [h] at e; cases e; exact hs
    rw [upd_ne this]; exact e
  · have : a ≠ p := fun q => by subst q; rw [h] at e; cases e; exact hs
    rw [upd_ne this]; exact e
  · by_cases q : a = p
    · rw [q, upd_same]; exact fun z => nomatch z
    · rw [upd_ne q]; exact e
/-- what data lean on -/
structure KeepR (H H' : Hp) : Prop where
  tup : ∀ a xs, H a = some (.tup xs) → H' a = some (.tup xs)
  ft : ∀ a o xs, H a = some (.frz o (.tup xs)) → H' a = some (.frz o (.tup xs))
  fl : ∀ a o xs, H a = some (.frz o (.lst xs)) → H' a = some (.frz o (.lst xs))
theorem Keep.r {H H' : Hp} (k : Keep H H') : KeepR H H' := ⟨k.tup, fun a o _ h => k.frz a o _ h, fun a o _ h => k.frz a o _ h⟩
section
variable {K : PySem.W.Frag} {H H' : Hp}
theorem KeepR.sqt (k : KeepR H H') {a : Addr} {xs : List V} (h : SqT K H a xs) : SqT K H' a xs := by
  rcases h with ((h | ⟨o, h⟩) | h)
  · exact .inl (.inl (k.tup _ _ h))
  · exact .inl (.inr ⟨o, k.ft _ _ _ h⟩)
  · exact .inr h
theorem Keep.sqt (k : Keep H H') {a : Addr} {xs : List V} (h : SqT K H a xs) : SqT K H' a xs := k.r.sqt h
theorem KeepR.src (k : KeepR H H') {a : Addr} {ns : List Int} (h : Src K H a ns) : Src K H' a ns := by
  rcases h with ⟨o, h⟩ | h
  · exact .inl ⟨o, k.fl _ _ _ h⟩
  · exact .inr h
theorem Src.sql {a : Addr} {ns : List Int} (h : Src K H a ns) : SqL K H a (ns.map V.int) := by
  rcases h with ⟨o, h⟩ | h
  · exact .inl (.inr ⟨o, h⟩)
  · exact h H
mutual
theorem Rp.keepR (k : KeepR H H') : ∀ {d : D} {v : V}, Rp K H v d → Rp K H' v d
  | .non, _, h => by cases h; exact .non
  | .bl b, _, h => by cases h; exact .bl b
  | .int i, _, h => by cases h; exact .int i
  | .str x, _, h => by cases h; exact .str x
  | .ref a, _, h => by cases h; exact .ref a
  | .src ns, _, h => by
    cases h with
    | src q => exact .src (k.src q)
  | .tup ds, _, h => by
    cases h with
    | tup q r => exact .tup (k.sqt q) (RpA.keepR k r)
theorem RpA.keepR (k : KeepR H H') : ∀ {ds : List D} {vs : List V}, RpA K H vs ds → RpA K H' vs ds
  | [], _, h => by cases h; exact .nil
  | d :: ds, _, h => by
    cases h with
    | cons a b => exact .cons (Rp.keepR k a) (RpA.keepR k b)
end
theorem Rp.keep (k : Keep H H') {d : D} {v : V} (h : Rp K H v d) : Rp K H' v d := Rp.keepR k.r h
theorem RpA.keep (k : Keep H H') {d : List D} {v : List V} (h : RpA K H v d) : RpA K H' v d := RpA.keepR k.r h
theorem RpA.length {vs : List V} {ds : List D} (h : RpA K H vs ds) : vs.length = ds.length := by
  induction ds generalizing vs with
  | nil => cases h; rfl
  | cons d ds ih =>
    cases h with
    | cons a b => rw [List.length_cons, List.length_cons, ih b]
theorem RpA.get {vs : List V} {ds : List D} (h : RpA K H vs ds) {i : Nat} {d : D} (e : ds[i]? = some d) : ∃ v, vs[i]? = some v ∧ Rp K H v d := by
  induction ds generalizing vs i with
  | nil => simp at e
  | cons a ds ih =>
    cases h with
    | cons r t =>
      cases i with
      | zero => simp at e; subst e; exact ⟨_, rfl, r⟩
      | succ i =>
        obtain ⟨v, h1, h2⟩ := ih t (by simpa using e)
        exact ⟨v, by simpa using h1, h2⟩
theorem RpA.get' {vs : List V} {ds : List D} (h : RpA K H vs ds) {i : Nat} {v : V} (e : vs[i]? = some v) : ∃ d, ds[i]? = some d ∧ Rp K H v d := by
  induction ds generalizing vs i with
  | nil => cases h; simp at e
  | cons a ds ih =>
    cases h with
    | cons r t =>
      cases i with
      | zero => simp at e; subst e; exact ⟨_, rfl, r⟩
      | succ i =>
        obtain ⟨v, h1, h2⟩ := ih t (by simpa using e)
        exact ⟨v, by simpa using h1, h2⟩
theorem RpA.append {vs us : List V} {ds es : List D} (h : RpA K H vs ds) (g : RpA K H us es) : RpA K H (vs ++ us) (ds ++ es) := by
  induction ds generalizing vs with
  | nil => cases h; exact g
  | cons d ds ih =>
    cases h with
    | cons a b => exact .cons a (ih b)
theorem RpA.drop {vs : List V} {ds : List D} (h : RpA K H vs ds) (n : Nat) : RpA K H (vs.drop n) (ds.drop n) := by
  induction n generalizing vs ds with
  | zero => simpa using h
  | succ n ih =>
    cases h with
    | nil => exact .nil
    | cons a b => exact ih b
theorem RpA.take {vs : List V} {ds : List D} (h : RpA K H vs ds) (n : Nat) : RpA K H (vs.take n) (ds.take n) := by
  induction n generalizing vs ds with
  | zero => simpa using .nil
  | succ n ih =>
    cases h with
    | nil => exact .nil
    | cons a b => exact .cons a (ih b)
theorem RpA.reverse {vs : List V} {ds : List D} (h : RpA K H vs ds) : RpA K H vs.reverse ds.reverse := by
  induction ds generalizing vs with
  | nil => cases h; exact .nil
  | cons d ds ih =>
    cases h with
    | cons a b =>
      rw [List.reverse_cons, List.reverse_cons]; exact (ih b).append (.cons a .nil)
theorem RpA.dropLast {vs : List V} {ds : List D} (h : RpA K H vs ds) : RpA K H vs.dropLast ds.dropLast := by
  rw [List.dropLast_eq_take, List.dropLast_eq_take, h.length]
  exact h.take _
theorem RpA.set {vs : List V} {ds : List D} {v : V} {d : D} (h : RpA K H vs ds) (r : Rp K H v d) (n : Nat) : RpA K H (vs.set n v) (ds.set n d) := by
  induction n generalizing vs ds with
  | zero =>
    cases h with
    | nil => exact .nil
    | cons a b => exact .cons r b
  | succ n ih =>
    cases h with
    | nil => exact .nil
    | cons a b => exact .cons a (ih b)
theorem RpA.ints {ns : List Int} {vs : List V} (h : RpA K H vs (ns.map D.int)) : vs = ns.map V.int := by
  induction ns generalizing vs with
  | nil => cases h; rfl
  | cons n ns ih =>
    cases h with
    | cons a b => cases a; rw [ih b]; rfl
theorem RpA.strs {ns : List Str} {vs : List V} (h : RpA K H vs (ns.map D.str)) : vs = ns.map V.str := by
  induction ns generalizing vs with
  | nil => cases h; rfl
  | cons n ns ih =>
    cases h with
    | cons a b => cases a; rw [ih b]; rfl
theorem RpA.of_ints {ns : List Int} : RpA K H (ns.map V.int) (ns.map D.int) := by
  induction ns with
  | nil => exact .nil
  | cons n ns ih => exact .cons (.int n) ih
theorem RpA.of_strs {ns : List Str} : RpA K H (ns.map V.str) (ns.map D.str) := by
  induction ns with
  | nil => exact .nil
  | cons n ns ih => exact .cons (.str n) ih
end

/-! ### dicts with tuple keys -/
abbrev YK := NestedKey × Addr × V
def YX (ys : List YK) (xs : List (NestedKey × Addr × Value)) : Prop := Paired (fun (y : YK) (x : NestedKey × Addr × Value) => x.1 = y.1 ∧ x.2.1 = y.2.1 ∧ RelV y.2.2 x.2.2) ys xs
def dF (P : Program) (w : World) (a : Addr) (ys : List YK) (h : Heap) : Prop := (a == sysModules) = false ∧ ys.length ≤ sizeLine ∧ ∃ xs, YX ys xs ∧
  ∃ o es ep, h.get? a = some o ∧ o.ExactDict ∧ o.data = .dict es ep ∧ es.toList = xs.map (entryOfKey (nestedKind P w)) ∧ (xs.map (·.1)).Nodup
def dO (P : Program) (w : World) (a : Addr) (ys : List YK) : HO := .ext (dF P w a ys)
def YR (K : PySem.W.Frag) (H : Hp) (kvs : List (D × D)) (ys : List YK) : Prop :=
  Paired (fun (p : D × D) (y : YK) => y.1 = p.1.nk ∧ p.1.kok 8 = true ∧ p.1.isTup = true ∧ Rp K H (.ref y.2.1) p.1 ∧ Rp K H y.2.2 p.2) kvs ys
def KR (K : PySem.W.Frag) (H : Hp) (kvs : List (Str × D)) (ks : List (Key × V)) : Prop :=
  Paired (fun (p : Str × D) (q : Key × V) => q.1 = Sum.inr p.1 ∧ Rp K H q.2 p.2) kvs ks
section
variable {K : PySem.W.Frag} {H H' : Hp}
theorem YR.keepR (k : KeepR H H') {kvs : List (D × D)} {ys : List YK} (h : YR K H kvs ys) : YR K H' kvs ys :=
  Paired.mapP h fun _ _ ⟨h1, h2, h3, h4, h5⟩ => ⟨h1, h2, h3, h4.keepR k, h5.keepR k⟩
theorem KR.keepR (k : KeepR H H') {kvs : List (Str × D)} {ks : List (Key × V)} (h : KR K H kvs ks) : KR K H' kvs ks :=
  Paired.mapP h fun _ _ ⟨h1, h2⟩ => ⟨h1, h2.keepR k⟩
theorem YR.keep (k : Keep H H') {kvs : List (D × D)} {ys : List YK} (h : YR K H kvs ys) : YR K H' kvs ys := YR.keepR k.r h
theorem KR.keep (k : Keep H H') {kvs : List (Str × D)} {ks : List (Key × V)} (h : KR K H kvs ks) : KR K H' kvs ks := KR.keepR k.r h
end
section
variable (P : Program) (w : World) (K : PySem.W.Frag)
def AOk (H : Hp) (a : Addr) : AO → Prop
  | .lst ds => ∃ vs, H a = some (.lst vs) ∧ RpA K H vs ds
  | .dK kvs => ∃ ks, H a = some (.dK ks) ∧ KR K H kvs ks
  | .dT kvs => ∃ ys, H a = some (dO P w a ys) ∧ YR K H kvs ys
  | .lk kvs => ∃ o ys, H a = some (.frz o (dO P w a ys)) ∧ YR K H kvs ys
def StoOk (H : Hp) (S : Sto) : Prop := ∀ a o, S a = some o → AOk P w K H a o
def EnvOk (H : Hp) (σ : St) (δ : E3) : Prop := σ.length = δ.length ∧ ∀ (i : Nat) (d : D), δ[i]? = some (some d) → ∃ v, σ[i]? = some (some v) ∧ Rp K H v d
structure Step (H : Hp) (S : Sto) (H' : Hp) (S' : Sto) : Prop where
  k : Keep H H'
  dom : ∀ a, S' a ≠ none → S a ≠ none ∨ H a = none
  frm : ∀ a o, H a = some o → S a = none → H' a = some o
/-- the lifts -/
def lE (f : T3) : TE := fun σ H Q => ∃ δ S Q3, EnvOk K H σ δ ∧ StoOk P w K H S ∧ f δ S Q3 ∧ ∀ v H' d S', Step H S H' S' → Rp K H' v d → StoOk P w K H' S' → Q3 d S' → Q v H'
def lB (f : B3) : TT := fun σ H Q => ∃ δ S Q3, EnvOk K H σ δ ∧ StoOk P w K H S ∧ f δ S Q3 ∧ ∀ b H' S', Step H S H' S' → StoOk P w K H' S' → Q3 b S' → Q b H'
def lA (f : A3) : TA := fun σ H Q => ∃ δ S Q3, EnvOk K H σ δ ∧ StoOk P w K H S ∧ f δ S Q3 ∧ ∀ vs H' ds S', Step H S H' S' → RpA K H' vs ds → StoOk P w K H' S' → Q3 ds S' → Q vs H'
def lO (f : O3) : TO := fun σ H Q => ∃ δ S Q3, EnvOk K H σ δ ∧ StoOk P w K H S ∧ f δ S Q3 ∧ ∀ o H' S', Step H S H' S' → StoOk P w K H' S' → Q3 o S' → Q o H'
def lS (f : S3) : TS := fun D σ H => ∃ δ S N, EnvOk K H σ δ ∧ StoOk P w K H S ∧ f N δ S ∧
  (∀ σ' H' δ' S', Step H S H' S' → EnvOk K H' σ' δ' → StoOk P w K H' S' → N.nx δ' S' → D.nx σ' H') ∧
  (∀ v H' d S', Step H S H' S' → Rp K H' v d → StoOk P w K H' S' → N.rt d S' → D.rt v H')
def lG (g : G3) : TG := fun v σ H Q => ∃ d δ S Q3, Rp K H v d ∧ EnvOk K H σ δ ∧ StoOk P w K H S ∧ g d δ S Q3 ∧ ∀ σ' H' δ' S', Step H S H' S' → EnvOk K H' σ' δ' → StoOk P w K H' S' → Q3 δ' S' → Q σ' H'
def lGs (g : Gs3) : TGs := fun vs σ H Q => ∃ ds δ S Q3, RpA K H vs ds ∧ EnvOk K H σ δ ∧ StoOk P w K H S ∧ g ds δ S Q3 ∧ ∀ σ' H' δ' S', Step H S H' S' → EnvOk K H' σ' δ' → StoOk P w K H' S' → Q3 δ' S' → Q σ' H'
/-- operations on values -/
def lR (r : R3) : R2 := fun x y H Q => ∃ dx dy S Q3, Rp K H x dx ∧ Rp K H y dy ∧ StoOk P w K H S ∧ r dx dy S Q3 ∧ ∀ v H' d S', Step H S H' S' → Rp K H' v d → StoOk P w K H' S' → Q3 d S' → Q v H'
def lR1 (r : D → Sto → K3 → Prop) : V → Hp → VK → Prop := fun x H Q => ∃ dx S Q3, Rp K H x dx ∧ StoOk P w K H S ∧ r dx S Q3 ∧ ∀ v H' d S', Step H S H' S' → Rp K H' v d → StoOk P w K H' S' → Q3 d S' → Q v H'
def lC (r : C3) : List V → Hp → VK → Prop := fun xs H Q => ∃ ds S Q3, RpA K H xs ds ∧ StoOk P w K H S ∧ r ds S Q3 ∧ ∀ v H' d S', Step H S H' S' → Rp K H' v d → StoOk P w K H' S' → Q3 d S' → Q v H'
/-- a def's promise -/
def lSp (sp : F3) : Sp := fun vs H Q _ => ∃ ds S Q3, RpA K H vs ds ∧ StoOk P w K H S ∧ sp ds S Q3 ∧ ∀ v H' d S', Step H S H' S' → Rp K H' v d → StoOk P w K H' S' → Q3 d S' → Q v H'
end

section
variable {P : Program} {w : World} {K : PySem.W.Frag} {H H1 H2 H' : Hp} {S S1 S2 S' : Sto}
theorem Step.refl (H : Hp) (S : Sto) : Step H S H S := ⟨Keep.refl H, fun _ h => .inl h, fun _ _ h _ => h⟩
theorem Step.trans (a : Step H S H1 S1) (b : Step H1 S1 H2 S2) : Step H S H2 S2 := ⟨a.k.trans b.k, fun x h => by
  rcases b.dom x h with q | q
  · exact a.dom x q
  · exact .inr (by
      cases e : H x with
      | none => rfl
      | some o => exact absurd q (a.k.trk x (by rw [e]; exact fun z => nomatch z))), fun x o h hn => b.frm x o (a.frm x o h hn) (by
  cases e : S1 x with
  | none => rfl
  | some u =>
    rcases a.dom x (by rw [e]; exact fun z => nomatch z) with q | q
    · exact absurd hn q
    · rw [h] at q; cases q)⟩
theorem Step.sub (a : Step H S H1 S1) (b : Sub S2 S1) : Step H S H1 S2 := ⟨a.k, fun x h => a.dom x (by
  cases e : S2 x with
  | none => exact absurd e h
  | some o => rw [b x o e]; exact fun z => nomatch z), a.frm⟩
theorem StoOk.sub (h : StoOk P w K H S) (b : Sub S1 S) : StoOk P w K H S1 := fun a o e => h a o (b a o e)
theorem EnvOk.keepR {σ : St} {δ : E3} (k : KeepR H H') (h : EnvOk K H σ δ) : EnvOk K H' σ δ := ⟨h.1, fun i d e => let ⟨v, h1, h2⟩ := h.2 i d e; ⟨v, h1, h2.keepR k⟩⟩
theorem EnvOk.keep {σ : St} {δ : E3} (k : Keep H H') (h : EnvOk K H σ δ) : EnvOk K H' σ δ := EnvOk.keepR k.r h
theorem EnvOk.set {σ : St} {δ : E3} {v : V} {d : D} (h : EnvOk K H σ δ) (r : Rp K H v d) (i : Nat) : EnvOk K H (σ.set i (some v)) (δ.set i (some d)) := by
  refine ⟨by simp [h.1], fun j e q => ?_⟩
  by_cases hj : i = j
  · subst hj
    by_cases hl : i < δ.length
    · rw [List.getElem?_set_self hl] at q
      cases q
      exact ⟨v, List.getElem?_set_self (by rw [h.1]; exact hl), r⟩
    · rw [List.getElem?_eq_none (by simpa using hl)] at q
      cases q
  · rw [List.getElem?_set_ne hj] at q ⊢
    exact h.2 j e q
theorem AOk.trk {a : Addr} {o : AO} (h : AOk P w K H a o) : H a ≠ none := by
  cases o with
  | lst ds => obtain ⟨_, e, _⟩ := h; rw [e]; exact fun z => nomatch z
  | dK ds => obtain ⟨_, e, _⟩ := h; rw [e]; exact fun z => nomatch z
  | dT ds => obtain ⟨_, e, _⟩ := h; rw [e]; exact fun z => nomatch z
  | lk ds => obtain ⟨_, _, e, _⟩ := h; rw [e]; exact fun z => nomatch z
theorem AOk.moveR {a : Addr} {o : AO} (k : KeepR H H') (e : H' a = H a) (h : AOk P w K H a o) : AOk P w K H' a o := by
  cases o with
  | lst ds => obtain ⟨_, q, r⟩ := h; exact ⟨_, e.trans q, r.keepR k⟩
  | dK ds => obtain ⟨_, q, r⟩ := h; exact ⟨_, e.trans q, KR.keepR k r⟩
  | dT ds => obtain ⟨_, q, r⟩ := h; exact ⟨_, e.trans q, YR.keepR k r⟩
  | lk ds => obtain ⟨_, _, q, r⟩ := h; exact ⟨_, _, e.trans q, YR.keepR k r⟩
theorem AOk.move {a : Addr} {o : AO} (k : Keep H H') (e : H' a = H a) (h : AOk P w K H a o) : AOk P w K H' a o := h.moveR k.r e
theorem StoOk.fresh (h : StoOk P w K H S) {p : Addr} (hp : H p = none) : S p = none := by
  cases e : S p with
  | none => rfl
  | some o => exact absurd hp (h p o e).trk
/-- a new tracked thing that the store does not tell of -/
theorem StoOk.laid (h : StoOk P w K H S) {p : Addr} {o : HO} (hp : H p = none) : StoOk P w K (upd H p o) S := fun a u e =>
  (h a u e).move (Keep.new hp) (upd_ne fun q => by rw [q, h.fresh hp] at e; cases e)
/-- a new thing -/
theorem StoOk.new (h : StoOk P w K H S) {p : Addr} {o : HO} {u : AO} (hp : H p = none) (hu : AOk P w K (upd H p o) p u) : StoOk P w K (upd H p o) (S.put p u) := fun a x e => by
  by_cases q : a = p
  · subst q; rw [put_same] at e; cases e; exact hu
  · rw [put_ne q] at e
    exact (h a x e).move (Keep.new hp) (upd_ne q)
theorem StoOk.set (h : StoOk P w K H S) {p : Addr} {o v : HO} {u : AO} (hp : H p = some v) (hs : Soft v) (hu : AOk P w K (upd H p o) p u) : StoOk P w K (upd H p o) (S.put p u) := fun a x e => by
  by_cases q : a = p
  · subst q; rw [put_same] at e; cases e; exact hu
  · rw [put_ne q] at e
    exact (h a x e).move (Keep.set hp hs) (upd_ne q)
theorem Step.laid {p : Addr} {o : HO} (hp : H p = none) : Step H S (upd H p o) S := ⟨Keep.new hp, fun _ h => .inl h, fun a u e _ => by rw [upd_ne (ne_of_none e hp)]; exact e⟩
theorem Step.new {p : Addr} {o : HO} {u : AO} (hp : H p = none) : Step H S (upd H p o) (S.put p u) := ⟨Keep.new hp, fun a h => by
  by_cases q : a = p
  · exact .inr (by rw [q]; exact hp)
  · rw [put_ne q] at h; exact .inl h, fun a u e _ => by rw [upd_ne (ne_of_none e hp)]; exact e⟩
theorem Step.set {p : Addr} {o v : HO} {u : AO} (hp : H p = some v) (hs : Soft v) (hS : S p ≠ none) : Step H S (upd H p o) (S.put p u) := ⟨Keep.set hp hs, fun a h => by
  by_cases q : a = p
  · exact .inl (by rw [q]; exact hS)
  · rw [put_ne q] at h; exact .inl h, fun a w e hn => by
  by_cases q : a = p
  · rw [q] at hn; exact absurd hn hS
  · rw [upd_ne q]; exact e⟩
end

/-! ### weakening -/
section
variable {X : Cx} {e : Expr} {es : List Expr} {st : Stmt} {sts : List Stmt}
theorem wkE {t t' : TE} (h : PE X e t) (k : ∀ σ H Q, t' σ H Q → t σ H Q) : PE X e t' := ⟨fun pins s σ H Q I q => h.run pins s σ H Q I (k σ H Q q)⟩
theorem wkT {t t' : TT} (h : PT X e t) (k : ∀ σ H Q, t' σ H Q → t σ H Q) : PT X e t' := ⟨fun pins s σ H Q I q => h.run pins s σ H Q I (k σ H Q q)⟩
theorem wkW {t t' : TT} (h : PW X e t) (k : ∀ σ H Q, t' σ H Q → t σ H Q) : PW X e t' := ⟨fun wh pins s σ H Q I q => h.run wh pins s σ H Q I (k σ H Q q)⟩
theorem wkA {t t' : TA} (h : PA X es t) (k : ∀ σ H Q, t' σ H Q → t σ H Q) : PA X es t' := ⟨fun pos pins s σ H Q I q => h.run pos pins s σ H Q I (k σ H Q q)⟩
theorem wkS {t t' : TS} (h : PS X st t) (k : ∀ D σ H, t' D σ H → t D σ H) : PS X st t' := ⟨fun pins s σ H D I q => h.run pins s σ H D I (k D σ H q)⟩
theorem wkSs {t t' : TS} (h : PSs X sts t) (k : ∀ D σ H, t' D σ H → t D σ H) : PSs X sts t' := ⟨fun pins s σ H D I q => h.run pins s σ H D I (k D σ H q)⟩
theorem wkG {t t' : TG} (h : PG X e t) (k : ∀ v σ H Q, t' v σ H Q → t v σ H Q) : PG X e t' := ⟨fun pins s σ H v u Q I r q => h.run pins s σ H v u Q I r (k v σ H Q q)⟩
theorem wkGs {t t' : TGs} (h : PGs X es t) (k : ∀ v σ H Q, t' v σ H Q → t v σ H Q) : PGs X es t' := ⟨fun pins s σ H v u Q I r q => h.run pins s σ H v u Q I r (k v σ H Q q)⟩
theorem wkR {f : Value → Value → Sem Value} {r r' : R2} (h : OpR X f r) (k : ∀ x y H Q, r' x y H Q → r x y H Q) : OpR X f r' := fun pins s σ H x y v u Q I rx ry q => h pins s σ H x y v u Q I rx ry (k x y H Q q)
theorem wkI {f : Value} {r r' : List V → Hp → VK → Prop} (h : CallR X f r) (k : ∀ xs H Q, r' xs H Q → r xs H Q) : CallR X f r' := fun pins s σ H xs us Q I rx q => h pins s σ H xs us Q I rx (k xs H Q q)
end

/-! ### the general rules -/
section
variable {X : Cx} {e a b : Expr} {es : List Expr} {st : Stmt} {sts : List Stmt} {pos : Pos}
abbrev QE (X : Cx) (e : Expr) (f : T3) : Prop := PE X e (lE X.prog X.w X.K f)
abbrev QB (X : Cx) (e : Expr) (f : B3) : Prop := PT X e (lB X.prog X.w X.K f)
abbrev QW (X : Cx) (e : Expr) (f : B3) : Prop := PW X e (lB X.prog X.w X.K f)
abbrev QA (X : Cx) (es : List Expr) (f : A3) : Prop := PA X es (lA X.prog X.w X.K f)
abbrev QS (X : Cx) (st : Stmt) (f : S3) : Prop := PS X st (lS X.prog X.w X.K f)
abbrev QSs (X : Cx) (st : List Stmt) (f : S3) : Prop := PSs X st (lS X.prog X.w X.K f)
abbrev QG (X : Cx) (e : Expr) (f : G3) : Prop := PG X e (lG X.prog X.w X.K f)
abbrev QGs (X : Cx) (es : List Expr) (f : Gs3) : Prop := PGs X es (lGs X.prog X.w X.K f)
abbrev QR (X : Cx) (f : Value → Value → Sem Value) (r : R3) : Prop := OpR X f (lR X.prog X.w X.K r)
abbrev QC (X : Cx) (f : Value) (r : C3) : Prop := CallR X f (lC X.prog X.w X.K r)

theorem qv (i : Nat) {x : Str} {pos : Pos} (hN : X.N[i]? = some x := by rfl) (hv : Vis X.env.scope x := by first | exact Or.inl rfl | exact Or.inr (Or.inl rfl) | exact Or.inr (Or.inr rfl)) (hd : (x == ("__debug__" : Str)) = false := by decide)
    (hcd : (x == ("__classdict__" : Str)) = false := by decide) : QE X (.Name x pos) (xVar i) := by
  refine wkE (pe_var hN hv hd hcd) fun σ H Q ⟨δ, S, Q3, en, so, f, k⟩ => ?_
  unfold xVar at f
  split at f
  · rename_i d hd
    obtain ⟨v, h1, h2⟩ := en.2 i d hd
    exact ⟨v, h1, k v H d S (Step.refl H S) h2 so f⟩
  · exact f.elim
theorem q_int {i j pos} : QE X (.Constant (.int i) j pos) (xC (.int i)) := wkE pe_int fun σ H Q ⟨δ, S, Q3, en, so, f, k⟩ => k _ H _ S (Step.refl H S) (.int i) so f
theorem q_bl {b j pos} : QE X (.Constant (.bool b) j pos) (xC (.bl b)) := wkE pe_bl fun σ H Q ⟨δ, S, Q3, en, so, f, k⟩ => k _ H _ S (Step.refl H S) (.bl b) so f
theorem q_non {j pos} : QE X (.Constant .none j pos) (xC .non) := wkE pe_non fun σ H Q ⟨δ, S, Q3, en, so, f, k⟩ => k _ H _ S (Step.refl H S) .non so f
theorem q_str {x j pos} : QE X (.Constant (.str x) j pos) (xC (.str x)) := wkE pe_str fun σ H Q ⟨δ, S, Q3, en, so, f, k⟩ => k _ H _ S (Step.refl H S) (.str x) so f
/-- a module's constant -/
theorem q_glob {x : Str} {v : V} {u : Value} {d : D} {pos : Pos} (hg : Gl X x) (hm : X.mg x = some u) (r : RelV v u) (hr : ∀ H, Rp X.K H v d) (hd : (x == ("__debug__" : Str)) = false := by decide) : QE X (.Name x pos) (xC d) :=
  wkE (pe_glob hg hm r hd) fun σ H Q ⟨δ, S, Q3, en, so, f, k⟩ => k _ H _ S (Step.refl H S) (hr H) so f

theorem lOp {r : R3} {fa fb : T3} (σ : St) (H : Hp) (Q : VK) (h : lE X.prog X.w X.K (xOp r fa fb) σ H Q) : tOp (lR X.prog X.w X.K r) (lE X.prog X.w X.K fa) (lE X.prog X.w X.K fb) σ H Q := by
  obtain ⟨δ, S, Q3, en, so, f, k⟩ := h
  refine ⟨δ, S, _, en, so, f, fun x H1 dx S1 st1 rx so1 f1 => ?_⟩
  refine ⟨δ, S1, _, en.keep st1.k, so1, f1, fun y H2 dy S2 st2 ry so2 f2 => ?_⟩
  exact ⟨dx, dy, S2, Q3, rx.keep st2.k, ry, so2, f2, fun v H' d S' st r s q => k v H' d S' ((st1.trans st2).trans st) r s q⟩
theorem q_op {op : Operator} {r : R3} {fa fb : T3} (ho : QR X (binaryOp op) r) (ha : QE X a fa) (hb : QE X b fb) : QE X (.BinOp a op b pos) (xOp r fa fb) := wkE (pe_op ho ha hb) lOp
theorem q_cmp {op : CmpOp} {r : R3} {fa fb : T3} (ho : QR X (compareOp op) r) (ha : QE X a fa) (hb : QE X b fb) (hm : behindInMarks op b = false) : QE X (.Compare a [op] [b] pos) (xOp r fa fb) := wkE (pe_cmpR ho ha hb hm) lOp
theorem qt_cmp {op : CmpOp} {r : R3} {fa fb : T3} (ho : QR X (compareOp op) r) (ha : QE X a fa) (hb : QE X b fb) (hm : behindInMarks op b = false) : QB X (.Compare a [op] [b] pos) (bT (xOp r fa fb)) := by
  refine wkT (pt_cmpR ho ha hb hm) fun σ H Q ⟨δ, S, Q3, en, so, f, k⟩ => ?_
  refine lOp σ H _ ⟨δ, S, _, en, so, f, fun v H' d S' st r s q => ?_⟩
  cases d <;> first
    | exact q.elim
    | (cases r; exact ⟨_, rfl, k _ H' S' st s q⟩)
theorem qt_val {fa : T3} (ha : QE X e fa) (he : ∀ whole, isTrue e X.env whole = (do let v ← whole; standAt e.pos; holding [v] (truthy v)) := by intro _; rfl) : QB X e (bT fa) := by
  refine wkT (pt_val ha he) fun σ H Q ⟨δ, S, Q3, en, so, f, k⟩ => ?_
  refine ⟨δ, S, _, en, so, f, fun v H' d S' st r s q => ?_⟩
  cases d <;> first
    | exact q.elim
    | (cases r; exact ⟨_, rfl, k _ H' S' st s q⟩)
theorem q_isN {j pos'} {fa : T3} (ha : QE X a fa) : QE X (.Compare a [.Is] [.Constant .none j pos'] pos) (xIsN false fa) := by
  refine wkE (pe_cmp (pc_isN ha)) fun σ H Q ⟨δ, S, Q3, en, so, f, k⟩ => ?_
  refine ⟨δ, S, _, en, so, f, fun v H' d S' st r s q => ?_⟩
  refine k _ H' _ S' st ?_ s q
  cases r <;> exact .bl _
theorem q_notN {j pos'} {fa : T3} (ha : QE X a fa) : QE X (.Compare a [.IsNot] [.Constant .none j pos'] pos) (xIsN true fa) := by
  refine wkE (pe_cmp (pc_notN ha)) fun σ H Q ⟨δ, S, Q3, en, so, f, k⟩ => ?_
  refine ⟨δ, S, _, en, so, f, fun v H' d S' st r s q => ?_⟩
  refine k _ H' _ S' st ?_ s q
  cases r <;> exact .bl _
theorem qt_isN {j pos'} {fa : T3} (ha : QE X a fa) : QB X (.Compare a [.Is] [.Constant .none j pos'] pos) (bT (xIsN false fa)) := by
  refine wkT (pt_cmp (pc_isN ha)) fun σ H Q ⟨δ, S, Q3, en, so, f, k⟩ => ?_
  refine ⟨δ, S, _, en, so, f, fun v H' d S' st r s q => ?_⟩
  refine ⟨_, rfl, ?_⟩
  cases r <;> exact k _ H' S' st s q
theorem qt_notN {j pos'} {fa : T3} (ha : QE X a fa) : QB X (.Compare a [.IsNot] [.Constant .none j pos'] pos) (bT (xIsN true fa)) := by
  refine wkT (pt_cmp (pc_notN ha)) fun σ H Q ⟨δ, S, Q3, en, so, f, k⟩ => ?_
  refine ⟨δ, S, _, en, so, f, fun v H' d S' st r s q => ?_⟩
  refine ⟨_, rfl, ?_⟩
  cases r <;> exact k _ H' S' st s q

/-! tests -/
variable {rest : List Expr}
theorem qw_and1 {fa : B3} (ha : QB X a fa) : QW X (.BoolOp .And [a] pos) fa := pw_and1 ha
theorem qw_or1 {fa : B3} (ha : QB X a fa) : QW X (.BoolOp .Or [a] pos) fa := pw_or1 ha
theorem qw_and {fa fb : B3} (ha : QB X a fa) (hb : QW X (.BoolOp .And (b :: rest) pos) fb) : QW X (.BoolOp .And (a :: b :: rest) pos) (bAnd fa fb) := by
  refine wkW (pw_and ha hb) fun σ H Q ⟨δ, S, Q3, en, so, f, k⟩ => ?_
  refine ⟨δ, S, _, en, so, f, fun c H' S' st s q => ?_⟩
  cases c with
  | true => exact ⟨δ, S', _, en.keep st.k, s, q, fun c2 H2 S2 st2 s2 q2 => k c2 H2 S2 (st.trans st2) s2 q2⟩
  | false => exact k false H' S' st s q
theorem qw_or {fa fb : B3} (ha : QB X a fa) (hb : QW X (.BoolOp .Or (b :: rest) pos) fb) : QW X (.BoolOp .Or (a :: b :: rest) pos) (bOr fa fb) := by
  refine wkW (pw_or ha hb) fun σ H Q ⟨δ, S, Q3, en, so, f, k⟩ => ?_
  refine ⟨δ, S, _, en, so, f, fun c H' S' st s q => ?_⟩
  cases c with
  | false => exact ⟨δ, S', _, en.keep st.k, s, q, fun c2 H2 S2 st2 s2 q2 => k c2 H2 S2 (st.trans st2) s2 q2⟩
  | true => exact k true H' S' st s q
theorem qt_not {fa : B3} (ha : QB X a fa) : QB X (.UnaryOp .Not a pos) (bNot fa) := by
  refine wkT (pt_not ha) fun σ H Q ⟨δ, S, Q3, en, so, f, k⟩ => ?_
  exact ⟨δ, S, _, en, so, f, fun c H' S' st s q => k (!c) H' S' st s q⟩
theorem q_one {op} {f : T3} (h : QE X a f) : QE X (.BoolOp op [a] pos) f := pe_one h
theorem q_and {fa fb : T3} (ha : QE X a fa) (hb : QE X (.BoolOp .And (b :: rest) pos) fb) : QE X (.BoolOp .And (a :: b :: rest) pos) (xAndV fa fb) := by
  refine wkE (pe_and ha hb) fun σ H Q ⟨δ, S, Q3, en, so, f, k⟩ => ?_
  refine ⟨δ, S, _, en, so, f, fun v H' d S' st r s q => ?_⟩
  cases d <;> first
    | exact q.elim
    | skip
  rename_i c
  cases r
  refine ⟨c, rfl, ?_⟩
  cases c with
  | true => exact ⟨δ, S', _, en.keep st.k, s, q, fun v2 H2 d2 S2 st2 r2 s2 q2 => k v2 H2 d2 S2 (st.trans st2) r2 s2 q2⟩
  | false => exact k _ H' _ S' st (.bl false) s q
theorem q_ifx {c : Expr} {fc : B3} {fa fb : T3} (hc : QB X c fc) (ha : QE X a fa) (hb : QE X b fb) : QE X (.IfExp c a b pos) (xIf fc fa fb) := by
  refine wkE (pe_ifExp hc ha hb) fun σ H Q ⟨δ, S, Q3, en, so, f, k⟩ => ?_
  refine ⟨δ, S, _, en, so, f, fun c H' S' st s q => ?_⟩
  cases c with
  | true => exact ⟨δ, S', _, en.keep st.k, s, q, fun v2 H2 d2 S2 st2 r2 s2 q2 => k v2 H2 d2 S2 (st.trans st2) r2 s2 q2⟩
  | false => exact ⟨δ, S', _, en.keep st.k, s, q, fun v2 H2 d2 S2 st2 r2 s2 q2 => k v2 H2 d2 S2 (st.trans st2) r2 s2 q2⟩

/-! argument lists, displays -/
theorem qa_nil : QA X [] aNil := wkA pa_nil fun σ H Q ⟨δ, S, Q3, en, so, f, k⟩ => k [] H [] S (Step.refl H S) .nil so f
theorem lCons {fa : T3} {fr : A3} (σ : St) (H : Hp) (Q : List V → Hp → Prop) (h : lA X.prog X.w X.K (aCons fa fr) σ H Q) : tCons (lE X.prog X.w X.K fa) (lA X.prog X.w X.K fr) σ H Q := by
  obtain ⟨δ, S, Q3, en, so, f, k⟩ := h
  refine ⟨δ, S, _, en, so, f, fun x H1 dx S1 st1 rx so1 f1 => ?_⟩
  exact ⟨δ, S1, _, en.keep st1.k, so1, f1, fun ys H2 dys S2 st2 ry so2 f2 => k _ H2 _ S2 (st1.trans st2) (.cons (rx.keep st2.k) ry) so2 f2⟩
theorem qa_cons {fa : T3} {fr : A3} (ha : QE X e fa) (hr : QA X es fr) (hs : starEach (e :: es) X.env = (false, eval e X.env) :: starEach es X.env := by rfl) : QA X (e :: es) (aCons fa fr) := wkA (pa_cons ha hr hs) lCons
theorem q_tup {x1} {fa : A3} (ha : QA X es fa) : QE X (.Tuple es x1 pos) (xTup fa) := by
  refine wkE (pe_tup ha) fun σ H Q ⟨δ, S, Q3, en, so, f, k⟩ => ?_
  refine ⟨δ, S, _, en, so, f, fun xs H1 ds S1 st1 rx so1 ⟨hl, f1⟩ => ?_⟩
  refine ⟨by rw [rx.length]; exact Nat.le_trans hl (by decide), fun p hp => ?_⟩
  exact k _ _ _ S1 (st1.trans (Step.laid hp)) (.tup (SqT.of upd_same) (rx.keep (Keep.new hp))) (so1.laid hp) f1
theorem q_lst {fa : A3} (ha : QA X es fa) : QE X (.List es pos) (xLst fa) := by
  refine wkE (pe_lst ha) fun σ H Q ⟨δ, S, Q3, en, so, f, k⟩ => ?_
  refine ⟨δ, S, _, en, so, f, fun xs H1 ds S1 st1 rx so1 ⟨hl, f1⟩ => ?_⟩
  refine ⟨by rw [rx.length]; exact Nat.le_trans hl (by decide), fun p hp => ?_⟩
  exact k _ _ _ _ (st1.trans (Step.new hp)) (.ref p) (so1.new (u := .lst ds) hp ⟨_, upd_same, rx.keep (Keep.new hp)⟩) (f1 p (so1.fresh hp))

/-! statements -/
theorem qs_nil : QSs X [] sNil := wkSs pss_nil fun D σ H ⟨δ, S, N, en, so, f, k1, k2⟩ => k1 σ H δ S (Step.refl H S) en so f
theorem qs_cons {f g : S3} (h1 : QS X st f) (h2 : QSs X sts g) : QSs X (st :: sts) (sSeq f g) := by
  refine wkSs (pss_cons h1 h2) fun D σ H ⟨δ, S, N, en, so, f, k1, k2⟩ => ?_
  refine ⟨δ, S, _, en, so, f, fun σ' H' δ' S' st e s q => ?_, k2⟩
  exact ⟨δ', S', N, e, s, q, fun σ2 H2 δ2 S2 st2 e2 s2 q2 => k1 σ2 H2 δ2 S2 (st.trans st2) e2 s2 q2, fun v H2 d S2 st2 r2 s2 q2 => k2 v H2 d S2 (st.trans st2) r2 s2 q2⟩
theorem qs_one {f : S3} (h1 : QS X st f) : QSs X [st] f := pss_one h1
theorem q_drop {f : T3} (he : QE X e f) (hs : swapsWith e none pos.line X.env = pure false := by rfl) : QS X (.Expr e pos) (sDrop f) := by
  refine wkS (ps_expr he hs) fun D σ H ⟨δ, S, N, en, so, f, k1, k2⟩ => ?_
  exact ⟨δ, S, _, en, so, f, fun v H' d S' st r s q => k1 σ H' δ S' st (en.keep st.k) s q⟩
theorem q_ret {f : T3} (he : QE X e f) : QS X (.Return (some e) pos) (sRet f) := by
  refine wkS (ps_ret he) fun D σ H ⟨δ, S, N, en, so, f, k1, k2⟩ => ?_
  exact ⟨δ, S, _, en, so, f, k2⟩
theorem q_if {c : Expr} {u v : List Stmt} {fc : B3} {f g : S3} (hc : QB X c fc) (ha : QSs X u f) (hb : QSs X v g) : QS X (.If c u v pos) (sIf fc f g) := by
  refine wkS (ps_if hc ha hb) fun D σ H ⟨δ, S, N, en, so, f, k1, k2⟩ => ?_
  refine ⟨δ, S, _, en, so, f, fun c H' S' st s q => ?_⟩
  cases c with
  | true => exact ⟨δ, S', N, en.keep st.k, s, q, fun σ2 H2 δ2 S2 st2 e2 s2 q2 => k1 σ2 H2 δ2 S2 (st.trans st2) e2 s2 q2, fun v H2 d S2 st2 r2 s2 q2 => k2 v H2 d S2 (st.trans st2) r2 s2 q2⟩
  | false => exact ⟨δ, S', N, en.keep st.k, s, q, fun σ2 H2 δ2 S2 st2 e2 s2 q2 => k1 σ2 H2 δ2 S2 (st.trans st2) e2 s2 q2, fun v H2 d S2 st2 r2 s2 q2 => k2 v H2 d S2 (st.trans st2) r2 s2 q2⟩

/-! targets -/
theorem qg_name {i : Nat} {x : Str} (hN : X.N.Nodup) (hi : X.N[i]? = some x) (hx : Loc X.env.scope x) (hf : X.fn x = true ∨ X.env.scope.names.lookup x = some .local := by first | exact .inl rfl | exact .inr rfl | assumption) : QG X (.Name x pos) (gN i) := by
  refine wkG (pg_name hN hi hx hf) fun v σ H Q ⟨d, δ, S, Q3, r, en, so, f, k⟩ => ?_
  exact k _ H _ S (Step.refl H S) (en.set r i) so f
theorem qgs_nil : QGs X [] gNil := wkGs pgs_nil fun vs σ H Q ⟨ds, δ, S, Q3, r, en, so, ⟨e, f⟩, k⟩ => by
  subst e
  cases r
  exact ⟨rfl, k σ H δ S (Step.refl H S) en so f⟩
theorem qgs_cons {g : G3} {u : Gs3} (h1 : QG X e g) (h2 : QGs X es u)
    (hs : (assignEach (e :: es) X.env).map (·.2) = assign e X.env :: (assignEach es X.env).map (·.2) := by rfl) : QGs X (e :: es) (gCons g u) := by
  refine wkGs (pgs_cons h1 h2 hs) fun vs σ H Q ⟨ds, δ, S, Q3, r, en, so, f, k⟩ => ?_
  cases r with
  | nil => exact f.elim
  | cons r rr =>
    refine ⟨_, _, rfl, _, δ, S, _, r, en, so, f, fun σ' H' δ' S' st e s q => ?_⟩
    exact ⟨_, δ', S', _, rr.keep st.k, e, s, q, fun σ2 H2 δ2 S2 st2 e2 s2 q2 => k σ2 H2 δ2 S2 (st.trans st2) e2 s2 q2⟩
theorem qg_tup {kk : Nat} {u : Gs3} {n : Nat} (hc : X.calm = true) (h : QGs X es u)
    (hn : (assignEach es X.env).length = n := by rfl) (hst : (assignEach es X.env).findIdx? (·.1) = none := by rfl) : QG X (.Tuple es kk pos) (gTup n u) := by
  refine wkG (pg_tup hc h hn hst) fun v σ H Q ⟨d, δ, S, Q3, r, en, so, f, k⟩ => ?_
  cases d <;> first
    | exact f.elim
    | skip
  obtain ⟨hl, f⟩ := f
  cases r with
  | tup q rr => exact ⟨_, _, rfl, q, by rw [rr.length]; exact hl, _, δ, S, _, rr, en, so, f, k⟩
theorem q_asg {tg : Expr} {f : T3} {g : G3} (he : QE X e f) (hg : QG X tg g) (hs : swapsWithSole [tg] e pos.line X.env = pure false := by rfl) (hw : swappedStores [tg] e X.env = pure none := by rfl)
    (h1 : (assignEach [tg] X.env).map (·.2) = [assign tg X.env] := by rfl) : QS X (.Assign [tg] e pos) (sAsg f g) := by
  refine wkS (ps_asg he hg hs hw h1) fun D σ H ⟨δ, S, N, en, so, f, k1, k2⟩ => ?_
  refine ⟨δ, S, _, en, so, f, fun v H' d S' st r s q => ?_⟩
  exact ⟨d, δ, S', _, r, en.keep st.k, s, q, fun σ2 H2 δ2 S2 st2 e2 s2 q2 => k1 σ2 H2 δ2 S2 (st.trans st2) e2 s2 q2⟩
theorem q_set {i : Nat} {x : Str} {f : T3} {pos' : Pos} (hN : X.N.Nodup) (hi : X.N[i]? = some x) (hx : Loc X.env.scope x) (he : QE X e f) (hs : swapsWith e (some (.Name x pos')) pos.line X.env = pure false := by rfl) (hf : X.fn x = true ∨ X.env.scope.names.lookup x = some .local := by first | exact .inl rfl | exact .inr rfl | assumption) :
    QS X (.Assign [.Name x pos'] e pos) (sAsg f (gN i)) := by
  refine wkS (ps_set hN hi hx he hs hf) fun D σ H ⟨δ, S, N, en, so, f, k1, k2⟩ => ?_
  refine ⟨δ, S, _, en, so, f, fun v H' d S' st r s q => ?_⟩
  exact k1 _ H' _ S' st ((en.keep st.k).set r i) s q
end
end L3
end
section
set_option maxRecDepth 100000
set_option maxHeartbeats 4200000
/-! L3B: while, for, comprehensions; what is walked: tuples, lists, ranges, reversed lists, dicts with tuple keys. -/
namespace L3
open L2 PyProof.Rows PySem.Spec PySem

section
variable {X : Cx} {e a b c tg iter : Expr} {body : List Stmt} {pos : Pos}
theorem q_while {fc : B3} {f : S3} (hp : PassesOwn (model X.prog X.w) X.A X.env X.xe) (hc : QB X c fc) (hb : QSs X body f) : QS X (.While c body [] pos) (sWhile fc f) := by
  refine wkS (ps_while hp hc hb) fun D σ H ⟨δ, S, N, en, so, ⟨W, ⟨m0, w0⟩, turn⟩, k1, k2⟩ => ?_
  refine ⟨fun m σ' H' => ∃ δ' S', Step H S H' S' ∧ EnvOk X.K H' σ' δ' ∧ StoOk X.prog X.w X.K H' S' ∧ W m δ' S', ⟨m0, δ, S, Step.refl H S, en, so, w0⟩, ?_⟩
  rintro m σ' H' ⟨δ', S', st, e', s', w'⟩
  refine ⟨δ', S', _, e', s', turn m δ' S' w', fun k H1 S1 st1 s1 q => ?_⟩
  cases k with
  | false => exact k1 σ' H1 δ' S1 (st.trans st1) (e'.keep st1.k) s1 q
  | true =>
    refine ⟨fun σ2 H2 => ∃ m', m' < m ∧ ∃ δ2 S2, Step H S H2 S2 ∧ EnvOk X.K H2 σ2 δ2 ∧ StoOk X.prog X.w X.K H2 S2 ∧ W m' δ2 S2, fun σ2 H2 h => h, ?_⟩
    refine ⟨δ', S1, _, e'.keep st1.k, s1, q, fun σ2 H2 δ2 S2 st2 e2 s2 ⟨m', hm, w2⟩ => ?_, fun v H2 d S2 st2 r2 s2 q2 => k2 v H2 d S2 ((st.trans st1).trans st2) r2 s2 q2⟩
    exact ⟨m', hm, δ2, S2, (st.trans st1).trans st2, e2, s2, w2⟩
end

/-- an iterator yields these data -/
structure Itok (P : Program) (w : World) (K : PySem.W.Frag) (H0 : Hp) (J : It) (ds : List D) (G : Sto → Prop) : Prop where
  go : ∀ (i : Nat) (d : D) (H : Hp) (S : Sto), Keep H0 H → StoOk P w K H S → G S → ds[i]? = some d → J.go i H ∧ ∀ x H', J.yld i H x H' → Rp K H' x d ∧ Step H S H' S ∧ StoOk P w K H' S
  stop : ∀ (i : Nat) (H : Hp) (S : Sto), Keep H0 H → StoOk P w K H S → G S → ds.length ≤ i → J.stop i H
def lI (P : Program) (w : World) (K : PySem.W.Frag) (it : I3) : TI := fun σ H R => ∃ δ S k3, EnvOk K H σ δ ∧ StoOk P w K H S ∧ it δ S k3 ∧
  ∀ J ds G H1 S1, Step H S H1 S1 → StoOk P w K H1 S1 → Itok P w K H1 J ds G → k3 ds G S1 → R J H1
abbrev QI (X : Cx) (tg iter : Expr) (it : I3) : Prop := PI X tg iter (lI X.prog X.w X.K it)
theorem wkI' {X : Cx} {tg iter : Expr} {t t' : TI} (h : PI X tg iter t) (k : ∀ σ H R, t' σ H R → t σ H R) : PI X tg iter t' := ⟨fun pins s σ H R I q => h.run pins s σ H R I (k σ H R q)⟩

theorem forD_drop {G : Sto → Prop} {g : G3} {b : S3} {N : N3} {ds : List D} {i : Nat} {d : D} {δ : E3} {S : Sto} (h : ds[i]? = some d) (f : forD G g b N (ds.drop i) δ S) :
    G S ∧ g d δ S fun δ1 S1 => b { N with nx := fun δ2 S2 => forD G g b N (ds.drop (i + 1)) δ2 S2 } δ1 S1 := by
  obtain ⟨hl, e⟩ := List.getElem?_eq_some_iff.1 h
  rw [List.drop_eq_getElem_cons hl, e] at f
  exact f
theorem lcD_drop {G : Sto → Prop} {g : G3} {c : B3} {e : T3} {δ : E3} {ds acc : List D} {i : Nat} {d : D} {S : Sto} {Q : List D → Sto → Prop} (h : ds[i]? = some d) (f : lcD G g c e δ (ds.drop i) acc S Q) :
    G S ∧ g d δ S fun δ1 S1 => c δ1 S1 fun k S2 => if k = true then e δ1 S2 fun x S3 => acc.length < 100000 ∧ lcD G g c e δ (ds.drop (i + 1)) (acc ++ [x]) S3 Q else lcD G g c e δ (ds.drop (i + 1)) acc S2 Q := by
  obtain ⟨hl, q⟩ := List.getElem?_eq_some_iff.mp h
  rw [List.drop_eq_getElem_cons hl, q] at f
  exact f

section
variable {P : Program} {w : World} {K : PySem.W.Frag}
/-- the loop over what is yielded -/
theorem for_core {g : G3} {f : S3} {N : N3} {En : Ends} {J : It} {ds : List D} {G : Sto → Prop} {σ : St} {H : Hp} {δ : E3} {S : Sto} (ok : Itok P w K H J ds G) (en : EnvOk K H σ δ) (so : StoOk P w K H S) (q : forD G g f N ds δ S)
    (k1 : ∀ σ' H' δ' S', Step H S H' S' → EnvOk K H' σ' δ' → StoOk P w K H' S' → G S' → N.nx δ' S' → En.nx σ' H')
    (k2 : ∀ v H' d S', Step H S H' S' → Rp K H' v d → StoOk P w K H' S' → N.rt d S' → En.rt v H') :
    ∃ W : Nat → Nat → St → Hp → Prop, (∃ m : Nat, W 0 m σ H) ∧ ∀ i m σ H, W i m σ H →
      (J.stop i H ∧ En.nx σ H) ∨ (J.go i H ∧ ∃ Nx : St → Hp → Prop, (∀ σ' H', Nx σ' H' → ∃ m', m' < m ∧ W (i + 1) m' σ' H') ∧ ∀ x H', J.yld i H x H' → lG P w K g x σ H' fun σ2 H2 => lS P w K f { En with nx := Nx, ct := Nx, bk := En.nx } σ2 H2) := by
  refine ⟨fun i m σ' H' => i ≤ ds.length ∧ m = ds.length - i ∧ ∃ δ' S', Step H S H' S' ∧ EnvOk K H' σ' δ' ∧ StoOk P w K H' S' ∧ forD G g f N (ds.drop i) δ' S', ⟨ds.length, Nat.zero_le _, by omega, δ, S, Step.refl H S, en, so, by simpa using q⟩, ?_⟩
  rintro i m σ' H' ⟨hi, rfl, δ', S', st, e', s', f'⟩
  by_cases hl : i < ds.length
  · have hd : ds[i]? = some ds[i] := List.getElem?_eq_getElem hl
    obtain ⟨hG, f1⟩ := forD_drop hd f'
    obtain ⟨hgo, hy⟩ := ok.go i _ H' S' st.k s' hG hd
    refine .inr ⟨hgo, fun σ2 H2 => i + 1 ≤ ds.length ∧ ∃ δ2 S2, Step H S H2 S2 ∧ EnvOk K H2 σ2 δ2 ∧ StoOk P w K H2 S2 ∧ forD G g f N (ds.drop (i + 1)) δ2 S2, fun σ2 H2 h => ⟨ds.length - (i + 1), by omega, h.1, rfl, h.2⟩, fun x H1 y => ?_⟩
    obtain ⟨rx, st1, s1⟩ := hy x H1 y
    refine ⟨_, δ', S', _, rx, e'.keep st1.k, s1, f1, fun σ2 H2 δ2 S2 st2 e2 s2 q2 => ?_⟩
    have stt := (st.trans st1).trans st2
    refine ⟨δ2, S2, _, e2, s2, q2, fun σ3 H3 δ3 S3 st3 e3 s3 q3 => ⟨hl, δ3, S3, stt.trans st3, e3, s3, q3⟩, fun v H3 d S3 st3 r3 s3 q3 => k2 v H3 d S3 (stt.trans st3) r3 s3 q3⟩
  · have hge : ds.length ≤ i := Nat.le_of_not_lt hl
    rw [List.drop_eq_nil_of_le hge] at f'
    exact .inl ⟨ok.stop i H' S' st.k s' f'.1 hge, k1 σ' H' δ' S' st e' s' f'.1 f'.2⟩
end

section
variable {X : Cx} {e a b c tg iter : Expr} {body : List Stmt} {pos : Pos}
theorem q_for {it : I3} {g : G3} {f : S3} (hp : PassesOwn (model X.prog X.w) X.A X.env X.xe) (hc : X.calm = true) (hi : QI X tg iter it) (hg : QG X tg g) (hb : QSs X body f)
    (hs : ∀ x, foldedSetIterable iter X.env x = pure x := by intro _; rfl) : QS X (.For tg iter body [] pos) (sFor it g f) := by
  refine wkS (ps_for hp hc hi hg hb hs) fun D σ H ⟨δ, S, N, en, so, h, k1, k2⟩ => ?_
  refine ⟨δ, S, _, en, so, h, fun J ds G H1 S1 st1 s1 ok q => ?_⟩
  exact for_core (En := D) ok (en.keep st1.k) s1 q (fun σ' H' δ' S' st e' s' _ n => k1 σ' H' δ' S' (st1.trans st) e' s' n) fun v H' d S' st r s' n => k2 v H' d S' (st1.trans st) r s' n

/-! ### what is walked -/
def iAny (K : PySem.W.Frag) (td : TE) : TI := fun σ H R => td σ H fun x H1 => ∃ a, x = .ref a ∧ ((∃ xs, SqL K H1 a xs ∧ R (Itl K a) H1) ∨ ∃ xs, SqT K H1 a xs ∧ R (Itt K a) H1)
theorem pi_any {td : TE} (hl : PE X e td) : PI X tg e (iAny X.K td) := by
  refine ⟨fun pins s σ H R I h => ?_⟩; refine thn (hl.run pins s σ H _ I h) fun v s1 ⟨x, H1, I1, r1, a, ex, q1⟩ => ?_
  subst ex
  cases r1
  rcases q1 with ⟨xs, hq, q⟩ | ⟨xs, hq, q⟩
  · obtain ⟨its, rv, p, hz⟩ := I1.list hq
    exact wpAny_pyIter_list p.isList (pi_one (tk := s1.toks) I1 _ (turn_list a _) ⟨_, Heap.get?_push_size _ rfl, rfl, rfl⟩ q)
  · obtain ⟨its, rv, p, hz⟩ := I1.tuple hq
    exact wpAny_pyIter_tuple (show s1.heap.IsTuple a its.toArray from p) (pi_one (tk := s1.toks) I1 _ (turn_tuple a _) ⟨_, Heap.get?_push_size _ rfl, rfl, rfl⟩ q)
theorem ok_tup {P : Program} {w : World} {K : PySem.W.Frag} {H0 : Hp} {a : Addr} {xs : List V} {ds : List D} (hq : SqT K H0 a xs) (r : RpA K H0 xs ds) (inj : ∀ H ys, Keep H0 H → SqT K H a ys → ys = xs) : Itok P w K H0 (Itt K a) ds (fun _ => True) where
  go := fun i d H S k so _ hd => by
    obtain ⟨v, hv, rv⟩ := r.get hd
    refine ⟨⟨xs, v, k.sqt hq, hv⟩, fun x H' ⟨eH, hx⟩ => ?_⟩
    subst eH
    have := hx xs (k.sqt hq)
    rw [hv] at this
    cases this
    exact ⟨rv.keep k, Step.refl _ _, so⟩
  stop := fun i H S k so _ hl => ⟨xs, k.sqt hq, by rw [r.length]; exact hl⟩
theorem ok_tup' {P : Program} {w : World} {K : PySem.W.Frag} {H0 : Hp} {a : Addr} {xs : List V} {ds : List D} (hq : SqT K H0 a xs) (r : RpA K H0 xs ds) : Itok P w K H0 (Itt K a) ds (fun _ => True) where
  go := fun i d H S k so _ hd => by
    obtain ⟨v, hv, rv⟩ := r.get hd
    refine ⟨⟨xs, v, k.sqt hq, hv⟩, fun x H' ⟨eH, hx⟩ => ?_⟩
    subst eH
    have := hx xs (k.sqt hq)
    rw [hv] at this
    cases this
    exact ⟨rv.keep k, Step.refl _ _, so⟩
  stop := fun i H S k so _ hl => ⟨xs, k.sqt hq, by rw [r.length]; exact hl⟩
theorem ok_lst {P : Program} {w : World} {K : PySem.W.Frag} {H0 : Hp} {a : Addr} {ds : List D} : Itok P w K H0 (Itl K a) ds (fun S' => S' a = some (.lst ds)) where
  go := fun i d H S k so hG hd => by
    obtain ⟨vs, hv, r⟩ := so a _ hG
    obtain ⟨v, he, rv⟩ := r.get hd
    refine ⟨⟨vs, v, SqL.of hv, he⟩, fun x H' ⟨eH, hx⟩ => ?_⟩
    subst eH
    have := hx vs (SqL.of hv)
    rw [he] at this
    cases this
    exact ⟨rv, Step.refl _ _, so⟩
  stop := fun i H S k so hG hl => by
    obtain ⟨vs, hv, r⟩ := so a _ hG
    exact ⟨vs, SqL.of hv, by rw [r.length]; exact hl⟩
theorem qi_seq {fe : T3} (he : QE X e fe) : QI X tg e (iSeq fe) := by
  refine wkI' (pi_any he) fun σ H R ⟨δ, S, k3, en, so, f, k⟩ => ?_
  refine ⟨δ, S, _, en, so, f, fun v H' d S' st r s q => ?_⟩
  cases d with
  | tup ds =>
    cases r with
    | tup hq rr => exact ⟨_, rfl, .inr ⟨_, hq, k _ ds _ H' S' st s (ok_tup' hq rr) q⟩⟩
  | ref a =>
    cases r
    obtain ⟨ds, hS, q⟩ := q
    obtain ⟨vs, hv, rr⟩ := s a _ hS
    exact ⟨_, rfl, .inl ⟨_, SqL.of hv, k _ ds _ H' S' st s ok_lst q⟩⟩
  | _ => exact q.elim

/-! reversed -/
theorem ok_rev {P : Program} {w : World} {K : PySem.W.Frag} {H0 : Hp} {a : Addr} {ds : List D} : Itok P w K H0 (Itv K a ds.length) ds.reverse (fun S' => S' a = some (.lst ds)) where
  go := fun i d H S k so hG hd => by
    obtain ⟨vs, hv, r⟩ := so a _ hG
    have hi : i < ds.length := by
      have := (List.getElem?_eq_some_iff.mp hd).1
      simpa using this
    rw [List.getElem?_reverse hi] at hd
    obtain ⟨v, he, rv⟩ := r.get hd
    refine ⟨⟨hi, vs, v, SqL.of hv, he⟩, fun x H' ⟨eH, hx⟩ => ?_⟩
    subst eH
    have := hx vs (SqL.of hv)
    rw [he] at this
    cases this
    exact ⟨rv, Step.refl _ _, so⟩
  stop := fun i H S k so hG hl => by
    show ds.length ≤ i
    simpa using hl
theorem qi_rev {p : Pos} {fa : A3} (hg : Gl X "reversed") (hm : X.mg "reversed" = none) (he : QA X [e] fa) (hs : starEach [e] X.env = [(false, eval e X.env)] := by rfl) : QI X tg (.Call (.Name "reversed" p) [e] [] pos) (iBi jRev fa) := by
  refine wkI' (pi_reversed hg hm he hs) fun σ H R ⟨δ, S, k3, en, so, f, k⟩ => ?_
  refine ⟨δ, S, _, en, so, f, fun vs H' ds S' st r s q => ?_⟩
  unfold jRev at q
  split at q
  · cases r with
    | cons r rr =>
      cases rr
      cases r
      obtain ⟨ds, hS, q⟩ := q
      obtain ⟨vs, hv, rr⟩ := s _ _ hS
      refine ⟨_, vs, rfl, SqL.of hv, ?_⟩
      rw [rr.length]
      exact k _ _ _ H' S' st s ok_rev q
  · exact q.elim

/-! ranges -/
theorem rangeD_get : ∀ (n : Nat) (lo : Int) (i : Nat) (d : D), (rangeD lo n)[i]? = some d → i < n ∧ d = .int (lo + i)
  | 0, _, _, _, h => by simp [rangeD] at h
  | n + 1, lo, 0, d, h => by
    simp [rangeD] at h
    subst h
    exact ⟨Nat.succ_pos _, by simp⟩
  | n + 1, lo, i + 1, d, h => by
    simp only [rangeD, List.getElem?_cons_succ] at h
    obtain ⟨h1, h2⟩ := rangeD_get n (lo + 1) i d h
    refine ⟨Nat.succ_lt_succ h1, ?_⟩
    rw [h2]
    congr 1
    omega
theorem rangeD_length : ∀ (n : Nat) (lo : Int), (rangeD lo n).length = n
  | 0, _ => rfl
  | n + 1, lo => by simp [rangeD, rangeD_length n]
theorem ok_range {P : Program} {w : World} {K : PySem.W.Frag} {H0 : Hp} {lo : Int} {n : Nat} : Itok P w K H0 (Itr lo n) (rangeD lo n) (fun _ => True) where
  go := fun i d H S k so _ hd => by
    obtain ⟨h1, h2⟩ := rangeD_get n lo i d hd
    subst h2
    refine ⟨h1, fun x H' ⟨eH, ex⟩ => ?_⟩
    subst eH ex
    exact ⟨.int _, Step.refl _ _, so⟩
  stop := fun i H S k so _ hl => by
    rw [rangeD_length] at hl
    exact hl
theorem qi_range1 {p : Pos} {fa : A3} (hg : Gl X "range") (hm : X.mg "range" = none) (he : QA X [a] fa) (hs : starEach [a] X.env = [(false, eval a X.env)] := by rfl) : QI X tg (.Call (.Name "range" p) [a] [] pos) (iBi jRange1 fa) := by
  refine wkI' (pi_range1 hg hm he hs) fun σ H R ⟨δ, S, k3, en, so, f, k⟩ => ?_
  refine ⟨δ, S, _, en, so, f, fun vs H' ds S' st r s q => ?_⟩
  unfold jRange1 at q
  split at q
  · cases r with
    | cons r rr =>
      cases rr
      cases r
      obtain ⟨q1, q2, q3⟩ := q
      exact ⟨_, rfl, by omega, by omega, k _ _ _ H' S' st s ok_range q3⟩
  · exact q.elim
theorem qi_range2 {p : Pos} {fa : A3} (hg : Gl X "range") (hm : X.mg "range" = none) (he : QA X [a, b] fa) (hs : starEach [a, b] X.env = [(false, eval a X.env), (false, eval b X.env)] := by rfl) (hs2 : starEach [b] X.env = [(false, eval b X.env)] := by rfl) :
    QI X tg (.Call (.Name "range" p) [a, b] [] pos) (iBi jRange2 fa) := by
  refine wkI' (pi_range2 hg hm he hs hs2) fun σ H R ⟨δ, S, k3, en, so, f, k⟩ => ?_
  refine ⟨δ, S, _, en, so, f, fun vs H' ds S' st r s q => ?_⟩
  unfold jRange2 at q
  split at q
  · cases r with
    | cons r rr =>
      cases rr with
      | cons r2 rr =>
        cases rr
        cases r
        cases r2
        obtain ⟨q1, q2, q3, q4, q5⟩ := q
        exact ⟨_, _, rfl, by omega, k _ _ _ H' S' st s ok_range q5⟩
  · exact q.elim
theorem evens_get : ∀ (n : Nat) (lo : Int) (i : Nat) (d : D), (evens lo n)[i]? = some d → i < n ∧ d = .int (lo + (i : Nat) * 2)
  | 0, _, _, _, h => by simp [evens] at h
  | n + 1, lo, 0, d, h => by
    simp [evens] at h
    subst h
    exact ⟨Nat.succ_pos _, by simp⟩
  | n + 1, lo, i + 1, d, h => by
    simp only [evens, List.getElem?_cons_succ] at h
    obtain ⟨h1, h2⟩ := evens_get n (lo + 2) i d h
    refine ⟨Nat.succ_lt_succ h1, ?_⟩
    rw [h2]
    congr 1
    omega
theorem evens_length : ∀ (n : Nat) (lo : Int), (evens lo n).length = n
  | 0, _ => rfl
  | n + 1, lo => by simp [evens, evens_length n]
theorem ok_evens {P : Program} {w : World} {K : PySem.W.Frag} {H0 : Hp} {lo : Int} {n : Nat} : Itok P w K H0 (Itc lo 2 n) (evens lo n) (fun _ => True) where
  go := fun i d H S k so _ hd => by
    obtain ⟨h1, h2⟩ := evens_get n lo i d hd
    subst h2
    refine ⟨h1, fun x H' ⟨eH, ex⟩ => ?_⟩
    subst eH ex
    exact ⟨.int _, Step.refl _ _, so⟩
  stop := fun i H S k so _ hl => by
    rw [evens_length] at hl
    exact hl
theorem RgC.two {n : Int} (h0 : 0 ≤ n) (h1 : n ≤ 1000000) : RgC 0 n 2 ((n + 1) / 2).toNat := by
  have e : Builtin.Range.rangeSize 0 n 2 = (((n + 1) / 2).toNat : Int) := by
    unfold Builtin.Range.rangeSize; simp only [show (2 : Int) > 0 by decide, if_true]
    split <;> omega
  refine ⟨by decide, by decide, ?_, e⟩
  unfold Builtin.Range.small
  rw [e]
  simp only [Builtin.Range.rangeFitsLong, Bool.and_eq_true, Bool.or_eq_true, decide_eq_true_eq, beq_iff_eq, show (2 : Int) > 0 by decide, if_true]
  omega
theorem qi_range02 {p : Pos} {fa : A3} (hg : Gl X "range") (hm : X.mg "range" = none) (he : QA X [a, b, c] fa)
    (hs : starEach [a, b, c] X.env = (false, eval a X.env) :: starEach [b, c] X.env := by (rfl))
    (hpl : (backTo pos (starEach [b, c] X.env)).any (·.1) = false := by rfl) :
    QI X tg (.Call (.Name "range" p) [a, b, c] [] pos) (iBi jRange02 fa) := by
  refine wkI' (pi_range3 hg hm he hs hpl) fun σ H R ⟨δ, S, k3, en, so, f, k⟩ => ?_
  refine ⟨δ, S, _, en, so, f, fun vs H' ds S' st r s q => ?_⟩
  unfold jRange02 at q
  split at q
  · cases r with
    | cons r rr =>
      cases rr with
      | cons r2 rr =>
        cases rr with
        | cons r3 rr =>
          cases rr
          cases r
          cases r2
          cases r3
          obtain ⟨rfl, rfl, q3, q4, q5⟩ := q
          exact ⟨_, _, _, _, rfl, RgC.two q3 q4, k _ _ _ H' S' st s ok_evens q5⟩
  · exact q.elim
end

/-! ### list comprehensions -/
/-- a target that stores names at these places alone -/
def TgOk (vs : List Nat) (g : TG) (g3 : G3) : Prop := ∀ {K : PySem.W.Frag} {v : V} {d : D} {σ : St} {H : Hp} {δ : E3} {S : Sto} {k : E3 → Sto → Prop} {Q : St → Hp → Prop}, Rp K H v d → EnvOk K H σ δ → g3 d δ S k →
  (∀ σ2 δ2, EnvOk K H σ2 δ2 → σ2.length = σ.length → (∀ i, i ∉ vs → σ2[i]? = σ[i]?) → k δ2 S → Q σ2 H) → g v σ H Q
def TgsOk (K : PySem.W.Frag) (vs : List Nat) (g : TGs) (g3 : Gs3) : Prop := ∀ {v : List V} {d : List D} {σ : St} {H : Hp} {δ : E3} {S : Sto} {k : E3 → Sto → Prop} {Q : St → Hp → Prop}, RpA K H v d → EnvOk K H σ δ → g3 d δ S k →
  (∀ σ2 δ2, EnvOk K H σ2 δ2 → σ2.length = σ.length → (∀ i, i ∉ vs → σ2[i]? = σ[i]?) → k δ2 S → Q σ2 H) → g v σ H Q
def TgK (K : PySem.W.Frag) (vs : List Nat) (g : TG) (g3 : G3) : Prop := ∀ {v : V} {d : D} {σ : St} {H : Hp} {δ : E3} {S : Sto} {k : E3 → Sto → Prop} {Q : St → Hp → Prop}, Rp K H v d → EnvOk K H σ δ → g3 d δ S k →
  (∀ σ2 δ2, EnvOk K H σ2 δ2 → σ2.length = σ.length → (∀ i, i ∉ vs → σ2[i]? = σ[i]?) → k δ2 S → Q σ2 H) → g v σ H Q
section
variable {K : PySem.W.Frag} {vs : List Nat}
theorem tg_name {i : Nat} (hi : i ∈ vs) : TgK K vs (gName i) (gN i) := fun {v d σ H δ S k Q} r en f q =>
  q _ _ (en.set r i) (by simp) (fun j hj => List.getElem?_set_ne fun e => hj (by rw [← e]; exact hi)) f
theorem tgs_nil : TgsOk K vs L2.gNil gNil := fun {v d σ H δ S k Q} r en f q => by
  obtain ⟨e, f⟩ := f
  subst e
  cases r
  exact ⟨rfl, q σ δ en rfl (fun _ _ => rfl) f⟩
theorem tgs_cons {g : TG} {g3 : G3} {u : TGs} {u3 : Gs3} (h1 : TgK K vs g g3) (h2 : TgsOk K vs u u3) : TgsOk K vs (L2.gCons g u) (gCons g3 u3) := fun {v d σ H δ S k Q} r en f q => by
  cases r with
  | nil => exact f.elim
  | cons r rr =>
    refine ⟨_, _, rfl, h1 (k := _) r en f fun σ2 δ2 en2 l2 o2 f2 => ?_⟩
    exact h2 (k := k) rr en2 f2 fun σ3 δ3 en3 l3 o3 f3 => q σ3 δ3 en3 (l3.trans l2) (fun i hi => (o3 i hi).trans (o2 i hi)) f3
theorem tg_tup {n : Nat} {u : TGs} {u3 : Gs3} (h : TgsOk K vs u u3) : TgK K vs (L2.gTup K n u) (gTup n u3) := fun {v d σ H δ S k Q} r en f q => by
  cases d <;> first
    | exact f.elim
    | skip
  obtain ⟨hl, f⟩ := f
  cases r with
  | tup hq rr => exact ⟨_, _, rfl, hq, by rw [rr.length]; exact hl, h (k := k) rr en f q⟩
end
theorem wipe_get {σ : St} {i : Nat} : ∀ {vs : List Nat}, (L2.wipe σ vs)[i]? = if i ∈ vs ∧ i < σ.length then some none else σ[i]?
  | [] => by simp [L2.wipe]
  | v :: vs => by
    unfold L2.wipe
    by_cases hv : v = i
    · subst hv
      by_cases hl : v < σ.length
      · rw [List.getElem?_set_self (by rw [wipe_length]; exact hl), if_pos ⟨by simp, hl⟩]
      · rw [if_neg (fun z => hl z.2), List.getElem?_eq_none (by simp [wipe_length]; omega), List.getElem?_eq_none (by omega)]
    · rw [List.getElem?_set_ne hv, wipe_get (vs := vs)]
      by_cases hm : i ∈ vs
      · simp [hm]
      · have : ¬ (i = v) := fun e => hv e.symm
        simp [hm, this]
theorem wipe_eq {σ σ2 : St} {vs : List Nat} (hl : σ2.length = (L2.wipe σ vs).length) (ho : ∀ i, i ∉ vs → σ2[i]? = (L2.wipe σ vs)[i]?) : L2.wipe σ2 vs = L2.wipe σ vs := by
  rw [wipe_length] at hl
  apply List.ext_getElem?
  intro i
  rw [wipe_get, wipe_get]
  by_cases hi : i ∈ vs
  · by_cases h : i < σ.length
    · rw [if_pos ⟨hi, by omega⟩, if_pos ⟨hi, h⟩]
    · rw [if_neg (fun z => h (by omega)), if_neg (fun z => h z.2), List.getElem?_eq_none (by omega), List.getElem?_eq_none (by omega)]
  · rw [if_neg (fun z => hi z.1), if_neg (fun z => hi z.1), ho i hi, wipe_get, if_neg (fun z => hi z.1)]
theorem EnvOk.wipe {K : PySem.W.Frag} {H : Hp} {σ : St} {δ : E3} (h : EnvOk K H σ δ) : ∀ vs : List Nat, EnvOk K H (L2.wipe σ vs) (wipe δ vs)
  | [] => h
  | v :: vs => by
    have ih := EnvOk.wipe h vs
    refine ⟨by unfold L2.wipe L3.wipe; rw [List.length_set, List.length_set]; exact ih.1, fun j e q => ?_⟩
    unfold L3.wipe at q
    unfold L2.wipe
    by_cases hj : v = j
    · subst hj
      by_cases hl : v < (L3.wipe δ vs).length
      · rw [List.getElem?_set_self hl] at q; cases q
      · rw [List.getElem?_eq_none (by simpa using hl)] at q; cases q
    · rw [List.getElem?_set_ne hj] at q ⊢
      exact ih.2 j e q
section
variable {P : Program} {w : World} {K : PySem.W.Frag} {H H1 H' : Hp} {S S1 S' : Sto} {p : Addr} {o u : HO}
/-- a thing that the store does not tell of, made on the way, changed -/
theorem Step.hid (st : Step H S H' S') (hp : H p = none) : Step H S (upd H' p o) S' := by
  refine ⟨⟨fun a xs h => ?_, fun a x y h => ?_, fun a h => ?_⟩, st.dom, fun a x h hn => ?_⟩
  · rw [upd_ne (ne_of_none h hp)]; exact st.k.tup _ _ h
  · rw [upd_ne (ne_of_none h hp)]; exact st.k.frz _ _ _ h
  · by_cases q : a = p
    · rw [q, upd_same]; exact fun z => nomatch z
    · rw [upd_ne q]; exact st.k.trk _ h
  · rw [upd_ne (ne_of_none h hp)]; exact st.frm _ _ h hn
theorem Step.tell (st : Step H S H' S') (hp : H p = none) {x : AO} : Step H S H' (S'.put p x) := ⟨st.k, fun a h => by
  by_cases q : a = p
  · exact .inr (by rw [q]; exact hp)
  · rw [put_ne q] at h; exact st.dom a h, st.frm⟩
theorem StoOk.tell (h : StoOk P w K H S) {x : AO} (hx : AOk P w K H p x) : StoOk P w K H (S.put p x) := fun a y e => by
  by_cases q : a = p
  · subst q; rw [put_same] at e; cases e; exact hx
  · rw [put_ne q] at e; exact h a y e
theorem StoOk.hid (h : StoOk P w K H S) (hS : S p = none) (hp : H p = some u) (hs : Soft u) : StoOk P w K (upd H p o) S := fun a y e =>
  (h a y e).move (Keep.set hp hs) (upd_ne fun q => by rw [q, hS] at e; cases e)
theorem Step.none (st : Step H S H' S') (hS : S p = Option.none) (hp : H p ≠ Option.none) : S' p = Option.none := by
  cases e : S' p with
  | none => rfl
  | some x =>
    rcases st.dom p (by rw [e]; exact fun z => nomatch z) with q | q
    · exact absurd hS q
    · exact absurd q hp
end
section
variable {X : Cx} {e tg iter : Expr} {pos : Pos}
theorem qts_nil : PTs X [] (lB X.prog X.w X.K bYes) := ⟨fun pins s σ H Q I ⟨δ, S, Q3, en, so, f, k⟩ => pts_nil.run pins s σ H Q I (k true H S (Step.refl H S) so f)⟩
theorem qts_one {c : Expr} {f : B3} (h : QB X c f) : PTs X [c] (lB X.prog X.w X.K f) := pts_one h
theorem lLc {it : I3} {g : TG} {g3 : G3} {c : B3} {e : T3} {vs : List Nat} (hg : TgK X.K vs g g3) (σ : St) (H : Hp) (Q : VK) (h : lE X.prog X.w X.K (xLc it vs g3 c e) σ H Q) :
    tLc (lI X.prog X.w X.K it) g (lB X.prog X.w X.K c) (lE X.prog X.w X.K e) vs σ H Q := by
  obtain ⟨δ, S, Q3, en, so, f, k⟩ := h
  refine ⟨δ, S, _, en, so, f, fun J ds G H1 S1 st1 s1 ok q Dl hD => ?_⟩
  have hSD : S1 Dl = Option.none := s1.fresh hD
  refine ⟨fun i m H' => i ≤ ds.length ∧ m = ds.length - i ∧ ∃ acc vs' S', H' Dl = some (.lst vs') ∧ RpA X.K H' vs' acc ∧ S' Dl = Option.none ∧ Step H1 S1 H' S' ∧ StoOk X.prog X.w X.K H' S' ∧ acc.length ≤ 100000 ∧
    lcD G g3 c e (wipe δ vs) (ds.drop i) acc S' (fun acc S2 => ∀ p, S2 p = Option.none → Q3 (.ref p) (S2.put p (.lst acc))), ?_, ?_⟩
  · exact ⟨_, Nat.zero_le _, rfl, [], [], S1, upd_same, .nil, hSD, (Step.refl H1 S1).hid hD, s1.laid hD, by decide, by simpa using q⟩
  · rintro i m H' ⟨hi, rfl, acc, vs', S', hL, rA, hS', st, s', hlen, f'⟩
    by_cases hl : i < ds.length
    · have hd : ds[i]? = some ds[i] := List.getElem?_eq_getElem hl
      obtain ⟨hG, f1⟩ := lcD_drop hd f'
      obtain ⟨hgo, hy⟩ := ok.go i _ H' S' st.k s' hG hd
      refine .inr ⟨hgo, fun H2 => i + 1 ≤ ds.length ∧ ∃ acc vs' S', H2 Dl = some (.lst vs') ∧ RpA X.K H2 vs' acc ∧ S' Dl = Option.none ∧ Step H1 S1 H2 S' ∧ StoOk X.prog X.w X.K H2 S' ∧ acc.length ≤ 100000 ∧
        lcD G g3 c e (wipe δ vs) (ds.drop (i + 1)) acc S' (fun acc S2 => ∀ p, S2 p = Option.none → Q3 (.ref p) (S2.put p (.lst acc))), fun H2 h => ⟨ds.length - (i + 1), by omega, h.1, rfl, h.2⟩, fun x H2 y => ?_⟩
      obtain ⟨rx, st2, s2⟩ := hy x H2 y
      have en2 : EnvOk X.K H2 (L2.wipe σ vs) (wipe δ vs) := ((en.keep (st1.k.trans (st.k.trans st2.k))).wipe vs)
      refine hg rx en2 f1 fun σ3 δ3 en3 l3 o3 f3 => ⟨wipe_eq l3 o3, δ3, S', _, en3, s2, f3, fun b H4 S4 st4 s4 f4 => ?_⟩
      have nD2 : S' Dl = Option.none := hS'
      have hL2 : H2 Dl = some (.lst vs') := st2.frm _ _ hL hS'
      have hL4 : H4 Dl = some (.lst vs') := st4.frm _ _ hL2 hS'
      have hS4 : S4 Dl = Option.none := st4.none hS' (by rw [hL2]; exact fun z => nomatch z)
      have stt := (st.trans st2).trans st4
      cases b with
      | false =>
        rw [if_neg Bool.false_ne_true] at f4
        exact L2.iteF ⟨hl, acc, vs', S4, hL4, (rA.keep st2.k).keep st4.k, hS4, stt, s4, hlen, f4⟩
      | true =>
        rw [if_pos rfl] at f4
        refine L2.iteT ⟨δ3, S4, _, en3.keep st4.k, s4, f4, fun v H5 d S5 st5 r5 s5 ⟨hlt, f5⟩ => ?_⟩
        have hL5 : H5 Dl = some (.lst vs') := st5.frm _ _ hL4 hS4
        have hS5 : S5 Dl = Option.none := st5.none hS4 (by rw [hL4]; exact fun z => nomatch z)
        have kS : Keep H5 (upd H5 Dl (.lst (vs' ++ [v]))) := Keep.set hL5 trivial
        refine ⟨vs', hL5, ?_, hl, acc ++ [d], _, S5, upd_same, ?_, hS5, (stt.trans st5).hid hD, s5.hid hS5 hL5 trivial, ?_, f5⟩
        · rw [rA.length]
          exact Nat.lt_of_lt_of_le hlt (by decide)
        · exact ((((rA.keep st2.k).keep st4.k).keep st5.k).append (.cons r5 .nil)).keep kS
        · (rw [List.length_append, List.length_singleton])
          omega
    · have hge : ds.length ≤ i := Nat.le_of_not_lt hl
      rw [List.drop_eq_nil_of_le hge] at f'
      refine .inl ⟨ok.stop i H' S' st.k s' f'.1 hge, ?_⟩
      have hD0 : H Dl = Option.none := by
        cases q : H Dl with
        | none => rfl
        | some z => exact absurd hD (st1.k.trk Dl (by rw [q]; exact fun z => nomatch z))
      exact k (.ref Dl) H' _ _ ((st1.trans st).tell hD0) (.ref Dl) (s'.tell (x := .lst acc) ⟨vs', hL, rA⟩) (f'.2 Dl hS')
/-- as a value -/
theorem q_lc {elt : Expr} {ifs : List Expr} {scope : Scope} {own : List (Str × Nat)} {it : I3} {g : TG} {g3 : G3} {fc : B3} {fe : T3} (hc : X.calm = true) (hN : X.N.Nodup) (hi : QI X tg iter it) (ok : BlkOk X.N X.env.scope scope own) (ho : TgK X.K (own.map (·.2)) g g3)
    (hg : ∀ (s : Shared) (H : Hp) (C : Addr) (cl : List (Str × Addr)) (fp : List Addr), PG (X.blk s H scope (compEnvC scope cl C X.env) fp) tg g)
    (ht : ∀ (s : Shared) (H : Hp) (C : Addr) (cl : List (Str × Addr)) (fp : List Addr), PTs (X.blk s H scope (compEnvC scope cl C X.env) fp) ifs (lB X.prog X.w X.K fc))
    (he : ∀ (s : Shared) (H : Hp) (C : Addr) (cl : List (Str × Addr)) (fp : List Addr), QE (X.blk s H scope (compEnvC scope cl C X.env) fp) elt fe) (hs : ∀ x, foldedSetIterable iter X.env x = pure x := by intro _; rfl) :
    QE X (.ListComp elt [⟨tg, iter, ifs, 0⟩] scope pos) (xLc it (own.map (·.2)) g3 fc fe) := wkE (pe_lc hc hN hi ok hg ht he hs) (lLc ho)
/-- name = [..] -/
theorem q_setLc {i : Nat} {y : Str} {py spos : Pos} {elt : Expr} {ifs : List Expr} {scope : Scope} {own : List (Str × Nat)} {it : I3} {g : TG} {g3 : G3} {fc : B3} {fe : T3} (hc : X.calm = true) (hN : X.N.Nodup) (hy : X.N[i]? = some y) (hyl : X.env.scope.names.lookup y = some .local)
    (hsw : swapsWith (.ListComp elt [⟨tg, iter, ifs, 0⟩] scope pos) (some (.Name y py)) spos.line X.env = pure true) (hi : QI X tg iter it) (ok : BlkOk X.N X.env.scope scope own) (ho : TgK X.K (own.map (·.2)) g g3)
    (hg : ∀ (s : Shared) (H : Hp) (C : Addr) (cl : List (Str × Addr)) (fp : List Addr), PG (X.blk s H scope (compEnvC scope cl C X.env) fp) tg g)
    (ht : ∀ (s : Shared) (H : Hp) (C : Addr) (cl : List (Str × Addr)) (fp : List Addr), PTs (X.blk s H scope (compEnvC scope cl C X.env) fp) ifs (lB X.prog X.w X.K fc))
    (he : ∀ (s : Shared) (H : Hp) (C : Addr) (cl : List (Str × Addr)) (fp : List Addr), QE (X.blk s H scope (compEnvC scope cl C X.env) fp) elt fe) (hs : ∀ x, foldedSetIterable iter X.env x = pure x := by intro _; rfl) :
    QS X (.Assign [.Name y py] (.ListComp elt [⟨tg, iter, ifs, 0⟩] scope pos) spos) (sAsg (xLc it (own.map (·.2)) g3 fc fe) (gN i)) := by
  refine wkS (ps_setLc (te := lE X.prog X.w X.K fe) hc hN hy hyl hsw hi ok hg ht he hs) fun D σ H ⟨δ, S, N, en, so, f, k1, k2⟩ => ?_
  exact lLc ho σ H _ ⟨δ, S, _, en, so, f, fun v H' d S' st r s q => k1 _ H' _ S' st ((en.keep st.k).set r i) s q⟩

/-! ### dicts with tuple keys, walked -/
theorem YR.len {K : PySem.W.Frag} {H : Hp} {kvs : List (D × D)} {ys : List YK} (h : YR K H kvs ys) : kvs.length = ys.length := Paired.length h
theorem Inv.frzY {pins : List (Addr × Obj)} {σ : St} {H : Hp} {s : Shared} {d : Addr} {o : Obj} {ys : List YK} (I : Inv X pins σ H s) (h : H d = some (.frz o (dO X.prog X.w d ys))) :
    (d == sysModules) = false ∧ s.heap.get? d = some o ∧ o.ExactDict ∧ ∃ (es : Array DictEntry) (ep : Nat), o.data = .dict es ep ∧ es.size = ys.length ∧
      ∀ (i : Nat) (y : YK), ys[i]? = some y → ∃ (en : DictEntry), es[i]? = some en ∧ en.key = .ref y.2.1 := by
  obtain ⟨hd, ⟨⟨hs, hz, xs, pr, o', es, ep, ho, hx, hdt, he, _⟩, _, _⟩⟩ : s.heap.get? d = some o ∧ ObjOk X.prog X.w H s.heap d (dO X.prog X.w d ys) := I.hok d _ h
  rw [hd] at ho
  cases ho
  refine ⟨hs, hd, hx, es, ep, hdt, ?_, fun i y e => ?_⟩
  · have l1 : es.toList.length = xs.length := by rw [he, List.length_map]
    have l2 : ys.length = xs.length := Paired.length pr; rw [Array.length_toList] at l1
    omega
  · (obtain ⟨b, hb, e1, e2, _⟩ := paired_get pr e)
    have q : es.toList[i]? = some (entryOfKey (nestedKind X.prog X.w) b) := by rw [he, List.getElem?_map, hb]; rfl
    refine ⟨_, by simpa using q, ?_⟩
    show Value.ref b.2.1 = _
    rw [e2]
def Itx (P : Program) (w : World) (d : Addr) (o : Obj) (ys : List YK) : It :=
  ⟨fun i H => H d = some (.frz o (dO P w d ys)) ∧ i < ys.length, fun i H x H' => H' = H ∧ ∃ y, ys[i]? = some y ∧ x = .ref y.2.1, fun i H => H d = some (.frz o (dO P w d ys)) ∧ ys.length ≤ i⟩
theorem turn_x {P : Program} {w : World} {K : PySem.W.Frag} {tg : Expr} {d : Addr} {o : Obj} {ys : List YK} {es : Array DictEntry} {ep : Nat} (it : Addr) (hod : o.data = .dict es ep) :
    Turn P w K tg (Itx P w d o ys) [it] it (fun i h => h.IsKeyIter it d i ys.length ep) where
  mem := List.mem_singleton.mpr rfl
  obj := fun i h st b hb => by
    obtain rfl : b = it := List.mem_singleton.mp hb
    obtain ⟨oi, e, c, dd⟩ := st
    exact ⟨oi, e, fun v z => nomatch dd.symm.trans z⟩
  keep := fun i h h' st k => st.at fun oi e => k it (List.mem_singleton.mpr rfl) oi e
  item := fun X hP hw hK hc i pins s σ H E I hf st hg => by
    subst hP hw hK
    obtain ⟨hd, hi⟩ := hg
    obtain ⟨f0, f1, f2, f3, f4, f5⟩ := hf it (List.mem_singleton.mpr rfl)
    obtain ⟨hs, hgd, hx, es', ep', hdt, hsz, ent⟩ := Inv.frzY I hd
    obtain ⟨rfl, rfl⟩ := dict_ep hod hdt; have hy : ys[i]? = some ys[i] := List.getElem?_eq_getElem hi
    obtain ⟨en, hen, hkey⟩ := ent i _ hy
    refine next_key_item st hgd hdt hsz hen fun h' st' sb => ?_; have I1 : Inv X pins σ H { s with heap := h' } := I.turned (t' := s.toks) (fun b ob hb e => (sb.2 b hb).trans e) f0 f1 f3 f4 f5
    obtain ⟨oi, e, c, dd⟩ := id st'; exact ⟨en.key, rfl, go_of (s := { s with heap := h' }) e c dd (by decide) ⟨.ref ys[i].2.1, H, I1, hkey, ⟨rfl, _, hy, rfl⟩, st', fun b hb => (hf b hb).1⟩⟩
  done := fun X hP hw hK hc i pins s σ H E I hf st hg => by
    subst hP hw hK
    obtain ⟨hd, hi⟩ := hg
    obtain ⟨f0, f1, f2, f3, f4, f5⟩ := hf it (List.mem_singleton.mpr rfl)
    obtain ⟨hs, hgd, hx, es', ep', hdt, hsz, ent⟩ := Inv.frzY I hd
    obtain ⟨rfl, rfl⟩ := dict_ep hod hdt; exact next_key_end (I.ok.hd hc) st hgd hdt hsz hi fun h' eb => ⟨rfl, I.turned (t' := s.toks) (fun b ob hb e => eb b ob hb e) f0 f1 f3 f4 f5⟩
  self := fun A i s Q E st h => (wpAny_pyIter_keyiter st h)
def iKeysX (P : Program) (w : World) (td : TE) : TI := fun σ H R => td σ H fun x H1 => ∃ d o ys, x = .ref d ∧ H1 d = some (.frz o (dO P w d ys)) ∧ R (Itx P w d o ys) H1
theorem pi_keysX {td : TE} (he : PE X e td) : PI X tg e (iKeysX X.prog X.w td) := by
  refine ⟨fun pins s σ H R I h => ?_⟩; refine thn (he.run pins s σ H _ I h) fun u s1 ⟨x, H1, I1, rx, d, o, ys, ex, hd, q⟩ => ?_
  subst ex
  obtain rfl : u = Value.ref d := rx; obtain ⟨hs, hgd, hx, es, ep, hdt, hsz, ent⟩ := Inv.frzY I1 hd
  refine iter_keys hs hgd hx hdt (pi_one (tk := s1.toks) I1 _ (turn_x _ hdt) ⟨_, Heap.get?_push_size _ rfl, rfl, ?_⟩ q)
  rw [hsz] <;> rfl
theorem ok_keys {P : Program} {w : World} {K : PySem.W.Frag} {H0 : Hp} {a : Addr} {o : Obj} {ys : List YK} {kvs : List (D × D)} (h0 : H0 a = some (.frz o (dO P w a ys))) (r : YR K H0 kvs ys) : Itok P w K H0 (Itx P w a o ys) (kvs.map (·.1)) (fun S' => S' a = some (.lk kvs)) where
  go := fun i d H S k so hG hd => by
    have hl : i < kvs.length := by simpa using (List.getElem?_eq_some_iff.mp hd).1
    have r' := YR.keep k r
    refine ⟨⟨k.frz _ _ _ h0, by rw [← r.len]; exact hl⟩, fun x H' ⟨eH, y, hy, ex⟩ => ?_⟩
    subst eH ex
    rw [List.getElem?_map, List.getElem?_eq_getElem hl] at hd
    cases hd
    obtain ⟨y', hy', e1, e2, e3, e4, e5⟩ := paired_get r' (List.getElem?_eq_getElem hl)
    rw [hy] at hy'
    cases hy'
    exact ⟨e4, Step.refl _ _, so⟩
  stop := fun i H S k so hG hl => ⟨k.frz _ _ _ h0, by rw [← r.len]; simpa using hl⟩
theorem qi_keys (i : Nat) {x : Str} {pos : Pos} (hN : X.N[i]? = some x := by rfl) (hv : Vis X.env.scope x := by first | exact Or.inl rfl | exact Or.inr (Or.inl rfl) | exact Or.inr (Or.inr rfl)) (hd : (x == ("__debug__" : Str)) = false := by decide)
    (hcd : (x == ("__classdict__" : Str)) = false := by decide) : QI X tg (.Name x pos) (iLk i) := by
  refine wkI' (pi_keysX (pe_var hN hv hd hcd)) fun σ H R ⟨δ, S, k3, en, so, ⟨a, kvs, ha, hS, q⟩, k⟩ => ?_
  obtain ⟨v, h1, h2⟩ := en.2 i _ ha
  cases h2
  obtain ⟨o, ys, hf, yr⟩ := so a _ hS
  exact ⟨_, h1, a, o, ys, rfl, hf, k _ _ _ H S (Step.refl H S) so (ok_keys hf yr) q⟩
theorem lock_in {P : Program} {w : World} {K : PySem.W.Frag} {H : Hp} {S : Sto} {a : Addr} {kvs : List (D × D)} (so : StoOk P w K H S) (hS : S a = some (.dT kvs)) : ∃ ys, H a = some (dO P w a ys) ∧ ∀ od, Keep H (upd H a (.frz od (dO P w a ys))) ∧ StoOk P w K (upd H a (.frz od (dO P w a ys))) (S.put a (.lk kvs)) := by
  obtain ⟨ys, ha, yr⟩ := so a _ hS
  have ks : ∀ od, Keep H (upd H a (.frz od (dO P w a ys))) := fun od => Keep.set ha trivial
  exact ⟨ys, ha, fun od => ⟨ks od, so.set (u := .lk kvs) ha trivial ⟨od, ys, upd_same, yr.keep (ks od)⟩⟩⟩
theorem lock_out {P : Program} {w : World} {K : PySem.W.Frag} {H H' : Hp} {S S' : Sto} {a : Addr} {od : Obj} {ys : List YK} {kvs : List (D × D)} (ha : H a = some (dO P w a ys)) (hS : S a = some (.dT kvs)) (st : Step (upd H a (.frz od (dO P w a ys))) (S.put a (.lk kvs)) H' S') (s' : StoOk P w K H' S') (hl : S' a = some (.lk kvs)) :
    H' a = some (.frz od (dO P w a ys)) ∧ Step H S (upd H' a (dO P w a ys)) (S'.put a (.dT kvs)) ∧ KeepR H' (upd H' a (dO P w a ys)) ∧ StoOk P w K (upd H' a (dO P w a ys)) (S'.put a (.dT kvs)) := by
  have hf : H' a = some (.frz od (dO P w a ys)) := st.k.frz _ _ _ upd_same
  have na : ∀ {b : Addr} {o : HO}, H b = some o → Soft o = False → b ≠ a := fun {b o} h hs e => by
    rw [e, ha] at h
    cases h
    exact hs ▸ trivial
  have kr : KeepR H' (upd H' a (dO P w a ys)) := ⟨fun b xs h => by rw [upd_ne fun e => by rw [e, hf] at h; cases h]; exact h, fun b o xs h => by rw [upd_ne fun e => by rw [e, hf] at h; cases h]; exact h, fun b o xs h => by rw [upd_ne fun e => by rw [e, hf] at h; cases h]; exact h⟩
  refine ⟨hf, ⟨⟨fun b xs h => ?_, fun b o u h => ?_, fun b h => ?_⟩, fun b h => ?_, fun b o h hn => ?_⟩, kr, fun b o e => ?_⟩
  · have := na h rfl
    rw [upd_ne this]
    exact st.k.tup _ _ (by rw [upd_ne this]; exact h)
  · have := na h rfl
    rw [upd_ne this]
    exact st.k.frz _ _ _ (by rw [upd_ne this]; exact h)
  · by_cases q : b = a
    · rw [q, upd_same]; exact fun z => nomatch z
    · rw [upd_ne q]; exact st.k.trk _ (by rw [upd_ne q]; exact h)
  · by_cases q : b = a
    · exact .inl (by rw [q, hS]; exact fun z => nomatch z)
    · rw [put_ne q] at h
      have := st.dom b h
      rw [put_ne q, upd_ne q] at this
      exact this
  · have q : b ≠ a := fun e => by rw [e, hS] at hn; cases hn
    rw [upd_ne q]
    exact st.frm _ _ (by rw [upd_ne q]; exact h) (by rw [put_ne q]; exact hn)
  · by_cases q : b = a
    · subst q
      rw [put_same] at e
      cases e
      obtain ⟨o2, ys2, h2, yr2⟩ := s' _ _ hl
      rw [hf] at h2
      have e2 : dO P w b ys = dO P w b ys2 := by
        injection h2 with h2
        injection h2
      exact ⟨ys2, by rw [upd_same, e2], YR.keepR kr yr2⟩
    · rw [put_ne q] at e
      exact (s' b o e).moveR kr (upd_ne q)
theorem q_lock {i : Nat} {f : T3} (he : QE X e f) : QE X e (xLock i f) := by
  refine wkE (pe_lock he) fun σ H Q ⟨δ, S, Q3, en, so, ⟨a, kvs, ha, hS, f⟩, k⟩ => ?_
  obtain ⟨ys, hH, lk⟩ := lock_in so hS
  refine ⟨a, _, hH, trivial, fun od => ?_⟩
  obtain ⟨kp, sl⟩ := lk od
  refine ⟨δ, _, _, en.keep kp, sl, f, fun v H' d S' st r s ⟨hl, q⟩ => ?_⟩
  obtain ⟨h1, h2, h3, h4⟩ := lock_out hH hS st s hl
  exact ⟨h1, k v _ d _ h2 (r.keepR h3) h4 q⟩
theorem qs_lock {st : Stmt} {i : Nat} {f : S3} (he : QS X st f) : QS X st (sLock i f) := by
  refine wkS (ps_lock he) fun D σ H ⟨δ, S, N, en, so, ⟨a, kvs, ha, hS, f⟩, k1, k2⟩ => ?_
  obtain ⟨ys, hH, lk⟩ := lock_in so hS
  refine ⟨a, _, hH, trivial, fun od => ?_⟩
  obtain ⟨kp, sl⟩ := lk od
  refine ⟨δ, _, _, en.keep kp, sl, f, fun σ' H' δ' S' st e' s ⟨hl, q⟩ => ?_, fun v H' d S' st r s ⟨hl, q⟩ => ?_⟩
  · obtain ⟨h1, h2, h3, h4⟩ := lock_out hH hS st s hl
    exact ⟨h1, k1 _ _ _ _ h2 (e'.keepR h3) h4 q⟩
  · obtain ⟨h1, h2, h3, h4⟩ := lock_out hH hS st s hl
    exact ⟨h1, k2 v _ d _ h2 (r.keepR h3) h4 q⟩
end
end L3
end
section
set_option maxRecDepth 100000
set_option maxHeartbeats 4200000
/-! L3C: operators, subscripts, slices, built-ins, methods, stores, dicts. -/
namespace L3
open L2 PyProof.Rows PySem.Spec PySem

theorem strRep_mul (x : Str) (n : Int) (h : 0 ≤ n) : Txt.mul x n = strRep x n.toNat := by
  have key : ∀ (k : Nat) (acc : Array Nat), (List.replicate k x.cps).foldl (· ++ ·) acc = acc ++ ((List.replicate k x.cps.toList).flatten).toArray := by
    intro k
    induction k with
    | zero => intro acc; simp
    | succ k ih =>
      intro acc
      rw [List.replicate_succ, List.foldl_cons, ih, List.replicate_succ, List.flatten_cons]
      apply Array.toList_inj.mp
      simp
  unfold Txt.mul strRep
  by_cases h1 : n < 1
  · have : n = 0 := by omega
    subst this
    rfl
  · rw [if_neg h1]
    by_cases h2 : (n == 1 || x.length == 0) = true
    · rw [if_pos h2]
      rw [Bool.or_eq_true] at h2
      rcases h2 with h2 | h2
      · have : n = 1 := by simpa using h2
        subst this
        simp
      · have e : x.cps = #[] := by
          have : x.cps.size = 0 := by simpa [Str.length] using h2
          exact Array.eq_empty_of_size_eq_zero this
        obtain ⟨c⟩ := x
        simp only at e
        subst e
        simp
    · rw [if_neg h2, key]
      simp

section
variable {X : Cx}
theorem op_mul_str : OpR X (binaryOp .Mult) (fun x y H Q => ∃ z n, x = .str z ∧ y = .int n ∧ 0 ≤ n ∧ n ≤ 1000 ∧ z.length ≤ 1000 ∧ Q (.str (strRep z n.toNat)) H) := by
  intro pins s σ H x y v u Q I rx ry h; obtain ⟨z, n, rfl, rfl, h0, h1, h2, q⟩ := h
  obtain ⟨t, rfl⟩ := rx
  obtain ⟨t', rfl⟩ := ry
  refine PySem.SB.mul ⟨?_, fun hn _ => ?_, fun hn _ => ?_⟩ fun t2 k => ⟨.str (strRep z n.toNat), H, I.tok _, ⟨t2, by rw [strRep_mul z n h0]⟩, q⟩
  · rw [decide_eq_false (show ¬ n < -(2 ^ 63 : Int) by omega), decide_eq_false (show ¬ n ≥ 2 ^ 63 by omega)] <;> rfl
  · have h3 : (9223372036854775807 : Int) / 1000 ≤ (2 ^ 63 - 1) / n := by
      have e : (2 ^ 63 - 1 : Int) = 9223372036854775807 := by decide
      rw [e]
      rw [Int.le_ediv_iff_mul_le (by omega)]
      have : (9223372036854775807 : Int) / 1000 * n ≤ 9223372036854775807 / 1000 * 1000 := Int.mul_le_mul_of_nonneg_left h1 (by decide)
      omega
    have h4 : (9223372036854775807 : Int) / 1000 = 9223372036854775 := by decide
    rw [h4] at h3
    omega
  · have h3 : z.length * n.toNat ≤ 1000 * 1000 := Nat.mul_le_mul h2 (by omega)
    have := sizeLine_eq; exact decide_eq_false (by omega)

theorem Rp.int_inv {K : PySem.W.Frag} {H : Hp} {v : V} {i : Int} (r : Rp K H v (.int i)) : v = .int i := by cases r; rfl
theorem Rp.str_inv {K : PySem.W.Frag} {H : Hp} {v : V} {i : Str} (r : Rp K H v (.str i)) : v = .str i := by cases r; rfl
theorem Rp.ref_inv {K : PySem.W.Frag} {H : Hp} {v : V} {i : Addr} (r : Rp K H v (.ref i)) : v = .ref i := by cases r; rfl
theorem Rp.bl_inv {K : PySem.W.Frag} {H : Hp} {v : V} {i : Bool} (r : Rp K H v (.bl i)) : v = .bl i := by cases r; rfl
theorem line5 {n : Nat} (h : n ≤ 100000) : n ≤ sizeLine := Nat.le_trans h (by decide)
theorem line6 {n : Nat} (h : n ≤ 1000000) : n ≤ sizeLine := Nat.le_trans h (by decide)

theorem r_add : QR X (binaryOp .Add) rAdd := by
  refine wkR (((op_add.or op_add_str).or op_catA).or op_cat) fun x y H Q ⟨dx, dy, S, Q3, rx, ry, so, h, k⟩ => ?_
  unfold rAdd at h
  split at h
  · cases rx; cases ry
    exact .inl (.inl (.inl ⟨_, _, rfl, rfl, k _ H _ S (Step.refl H S) (.int _) so h⟩))
  · cases rx; cases ry
    exact .inl (.inl (.inr ⟨_, _, rfl, rfl, line5 h.1, k _ H _ S (Step.refl H S) (.str _) so h.2⟩))
  · cases rx with
    | @tup _ xs _ qx ax =>
      cases ry with
      | @tup _ ys _ qy ay =>
        refine .inl (.inr ⟨_, _, xs, ys, rfl, rfl, qx, qy, ?_, fun e => ?_, fun _ e => ?_, fun _ _ p hp => ?_⟩)
        · rw [ax.length, ay.length]; exact line5 h.1
        · subst e
          cases ax
          exact k _ H _ S (Step.refl H S) (.tup qy (by simpa using ay)) so h.2
        · subst e
          cases ay
          exact k _ H _ S (Step.refl H S) (.tup qx (by simpa using ax)) so h.2
        · exact k _ _ _ S (Step.laid hp) (.tup (SqT.of upd_same) ((ax.append ay).keep (Keep.new hp))) (so.laid hp) h.2
  · cases rx; cases ry
    obtain ⟨xs, ys, h1, h2, h3, h4⟩ := h
    obtain ⟨vs, e1, r1⟩ := so _ _ h1
    obtain ⟨us, e2, r2⟩ := so _ _ h2
    refine .inr ⟨_, _, vs, us, rfl, rfl, e1, e2, by rw [r1.length, r2.length]; exact line5 h3, fun p hp => ?_⟩
    exact k _ _ _ _ (Step.new hp) (.ref p) (so.new (u := .lst (xs ++ ys)) hp ⟨_, upd_same, (r1.append r2).keep (Keep.new hp)⟩) (h4 p (so.fresh hp))
  · exact h.elim
theorem r_sub : QR X (binaryOp .Sub) rSub := by
  refine wkR op_sub fun x y H Q ⟨dx, dy, S, Q3, rx, ry, so, h, k⟩ => ?_
  unfold rSub at h
  split at h
  · cases rx; cases ry
    exact ⟨_, _, rfl, rfl, k _ H _ S (Step.refl H S) (.int _) so h⟩
  · exact h.elim
theorem r_mul : QR X (binaryOp .Mult) rMul := by
  refine wkR (op_mul.or op_mul_str) fun x y H Q ⟨dx, dy, S, Q3, rx, ry, so, h, k⟩ => ?_
  unfold rMul at h
  split at h
  · cases rx; cases ry
    exact .inl ⟨_, _, rfl, rfl, .inl ⟨h.1, h.2.1⟩, k _ H _ S (Step.refl H S) (.int _) so h.2.2⟩
  · cases rx; cases ry
    exact .inr ⟨_, _, rfl, rfl, h.1, h.2.1, h.2.2.1, k _ H _ S (Step.refl H S) (.str _) so h.2.2.2⟩
  · exact h.elim
theorem r_div : QR X (binaryOp .FloorDiv) rDiv := by
  refine wkR op_fdiv fun x y H Q ⟨dx, dy, S, Q3, rx, ry, so, h, k⟩ => ?_
  unfold rDiv at h
  split at h
  · cases rx; cases ry
    exact ⟨_, _, rfl, rfl, ⟨h.1, h.2.1⟩, k _ H _ S (Step.refl H S) (.int _) so h.2.2⟩
  · exact h.elim
theorem r_mod : QR X (binaryOp .Mod) rMod := by
  refine wkR op_mod fun x y H Q ⟨dx, dy, S, Q3, rx, ry, so, h, k⟩ => ?_
  unfold rMod at h
  split at h
  · cases rx; cases ry
    exact ⟨_, _, rfl, rfl, h.1, k _ H _ S (Step.refl H S) (.int _) so h.2⟩
  · exact h.elim
theorem r_pow : QR X (binaryOp .Pow) rPow := by
  refine wkR op_pow fun x y H Q ⟨dx, dy, S, Q3, rx, ry, so, h, k⟩ => ?_
  unfold rPow at h
  split at h
  · cases rx; cases ry
    exact ⟨_, _, rfl, rfl, h.1, k _ H _ S (Step.refl H S) (.int _) so h.2⟩
  · exact h.elim
theorem r_lt : QR X (compareOp .Lt) rLt := by
  refine wkR op_lt fun x y H Q ⟨dx, dy, S, Q3, rx, ry, so, h, k⟩ => ?_
  unfold rLt at h
  split at h
  · cases rx; cases ry
    exact ⟨_, _, rfl, rfl, k _ H _ S (Step.refl H S) (.bl _) so h⟩
  · exact h.elim
theorem r_gt : QR X (compareOp .Gt) rGt := by
  refine wkR op_gt fun x y H Q ⟨dx, dy, S, Q3, rx, ry, so, h, k⟩ => ?_
  unfold rGt at h
  split at h
  · cases rx; cases ry
    exact ⟨_, _, rfl, rfl, k _ H _ S (Step.refl H S) (.bl _) so h⟩
  · exact h.elim
theorem r_ge : QR X (compareOp .GtE) rGe := by
  refine wkR op_ge fun x y H Q ⟨dx, dy, S, Q3, rx, ry, so, h, k⟩ => ?_
  unfold rGe at h
  split at h
  · cases rx; cases ry
    exact ⟨_, _, rfl, rfl, k _ H _ S (Step.refl H S) (.bl _) so h⟩
  · exact h.elim

/-! == -/
theorem scal_eq {K : PySem.W.Frag} {H : Hp} {x y : V} {dx dy : D} (rx : Rp K H x dx) (ry : Rp K H y dy) (h : D.scal dx dy = true) : L2.scal x y = true ∧ decide (x = y) = D.eqb dx dy := by
  cases rx <;> cases ry <;> first
    | (exfalso; revert h; simp [D.scal]; done)
    | (refine ⟨rfl, ?_⟩; simp [D.eqb, D.py, PyData.eqv]; try (rw [Bool.eq_iff_iff]; simp))
mutual
theorem Rp.dp {K : PySem.W.Frag} {H : Hp} : ∀ {n : Nat} {d : D} {v : V}, Rp K H v d → D.ok n d = true → Dp K H v d.py
  | n, .non, _, r, _ => by cases r; simp only [D.py]; exact .non
  | n, .bl b, _, r, _ => by cases r; simp only [D.py]; exact .bl b
  | n, .int i, _, r, _ => by cases r; simp only [D.py]; exact .int i
  | n, .str x, _, r, _ => by cases r; simp only [D.py]; exact .str x
  | 0, .tup ds, _, r, h => by simp [D.ok] at h
  | n + 1, .tup ds, _, r, h => by
    cases r with
    | tup q a => simp only [D.py]; exact .tup q (RpA.dp (n := n) a (by simpa [D.ok] using h))
  | n, .ref a, _, r, h => by cases n <;> simp [D.ok] at h
  | n, .src a, _, r, h => by cases n <;> simp [D.ok] at h
theorem RpA.dp {K : PySem.W.Frag} {H : Hp} : ∀ {n : Nat} {ds : List D} {vs : List V}, RpA K H vs ds → D.oks n ds = true → DpAll K H vs (D.pys ds)
  | n, [], _, r, _ => by cases r; simp only [D.pys]; exact .nil
  | n, d :: ds, _, r, h => by
    cases r with
    | cons a b =>
      have h' : D.ok n d = true ∧ D.oks n ds = true := by simpa [D.oks] using h
      simp only [D.pys]
      exact .cons (Rp.dp a h'.1) (RpA.dp b h'.2)
end
mutual
theorem D.ok_lay : ∀ {n : Nat} {d : D}, D.ok n d = true → PyData.canLay0 d.py = true ∧ PyData.depth d.py ≤ n
  | n, .non, _ => by simp [D.py, PyData.canLay0, PyData.depth]
  | n, .bl b, _ => by simp [D.py, PyData.canLay0, PyData.depth]
  | n, .int i, _ => by simp [D.py, PyData.canLay0, PyData.depth]
  | n, .str x, h => by
    have : PyData.strOk x = true := by cases n <;> simpa [D.ok] using h
    simp [D.py, PyData.canLay0, PyData.depth, this]
  | 0, .tup ds, h => by simp [D.ok] at h
  | n + 1, .tup ds, h => by
    have ih := D.oks_lay (n := n) (ds := ds) (by simpa [D.ok] using h)
    simp only [D.py, PyData.canLay0, PyData.depth]
    exact ⟨ih.1, Nat.succ_le_succ ih.2⟩
  | n, .ref a, h => by cases n <;> simp [D.ok] at h
  | n, .src a, h => by cases n <;> simp [D.ok] at h
theorem D.oks_lay : ∀ {n : Nat} {ds : List D}, D.oks n ds = true → PyData.canLayAll0 (D.pys ds) = true ∧ PyData.depthAll (D.pys ds) ≤ n
  | n, [], _ => by simp [D.pys, PyData.canLayAll0, PyData.depthAll]
  | n, d :: ds, h => by
    have h' : D.ok n d = true ∧ D.oks n ds = true := by simpa [D.oks] using h
    have i1 := D.ok_lay h'.1
    have i2 := D.oks_lay h'.2
    simp only [D.pys, PyData.canLayAll0, PyData.depthAll, i1.1, i2.1, Bool.and_self, true_and]
    omega
end
theorem D.oks_all {n : Nat} : ∀ {ds : List D}, ds.all (D.ok n) = true → D.oks n ds = true
  | [], _ => by simp [D.oks]
  | d :: ds, h => by
    have h' : D.ok n d = true ∧ ds.all (D.ok n) = true := by simpa using h
    simp [D.oks, h'.1, D.oks_all h'.2]
theorem D.ok_shaped {d : D} (h : D.ok 60 d = true) : SeqAt.shaped d.py = true := by
  have i := D.ok_lay h
  show (PyData.canLay0 d.py && decide (d.py.depth ≤ 64)) = true
  rw [Bool.and_eq_true]
  exact ⟨i.1, decide_eq_true (Nat.le_trans i.2 (by decide))⟩
theorem D.oks_shaped {ds : List D} (h : ds.all (D.ok 60) = true) : SeqAt.shaped (.list (D.pys ds)) = true := by
  have i := D.oks_lay (D.oks_all h)
  show (PyData.canLay0 (.list (D.pys ds)) && decide (PyData.depth (.list (D.pys ds)) ≤ 64)) = true
  rw [Bool.and_eq_true]
  simp only [PyData.canLay0, PyData.depth]
  exact ⟨i.1, decide_eq_true (by omega)⟩
theorem r_eq (hu : X.A.units + 100 < cLine) : QR X (compareOp .Eq) (rEq false) := by
  refine wkR (op_eq.or (op_eqD (by omega))) fun x y H Q ⟨dx, dy, S, Q3, rx, ry, so, h, k⟩ => ?_
  rcases h with ⟨h1, h2⟩ | ⟨h1, h2, h3⟩ | ⟨a, b, xs, ys, rfl, rfl, h1, h2, h3, h4, h5⟩
  · obtain ⟨e1, e2⟩ := scal_eq rx ry h1
    exact .inl ⟨e1, by rw [e2]; exact k _ H _ S (Step.refl H S) (.bl _) so (by simpa using h2)⟩
  · exact .inr ⟨_, _, rx.dp h1, ry.dp h2, D.ok_shaped h1, D.ok_shaped h2, k _ H _ S (Step.refl H S) (.bl _) so (by simpa [D.eqb] using h3)⟩
  · cases rx; cases ry
    obtain ⟨vs, e1, r1⟩ := so _ _ h1
    obtain ⟨us, e2, r2⟩ := so _ _ h2
    exact .inr ⟨_, _, .lst (SqL.of e1) (r1.dp (D.oks_all h3)), .lst (SqL.of e2) (r2.dp (D.oks_all h4)), D.oks_shaped h3, D.oks_shaped h4, k _ H _ S (Step.refl H S) (.bl _) so (by simpa [PyData.eqv] using h5)⟩
theorem r_ne (hu : X.A.units + 100 < cLine) : QR X (compareOp .NotEq) (rEq true) := by
  refine wkR (op_ne.or (op_neD (by omega))) fun x y H Q ⟨dx, dy, S, Q3, rx, ry, so, h, k⟩ => ?_
  rcases h with ⟨h1, h2⟩ | ⟨h1, h2, h3⟩ | ⟨a, b, xs, ys, rfl, rfl, h1, h2, h3, h4, h5⟩
  · obtain ⟨e1, e2⟩ := scal_eq rx ry h1
    exact .inl ⟨e1, by rw [e2]; exact k _ H _ S (Step.refl H S) (.bl _) so (by simpa using h2)⟩
  · exact .inr ⟨_, _, rx.dp h1, ry.dp h2, D.ok_shaped h1, D.ok_shaped h2, k _ H _ S (Step.refl H S) (.bl _) so (by simpa [D.eqb] using h3)⟩
  · cases rx; cases ry
    obtain ⟨vs, e1, r1⟩ := so _ _ h1
    obtain ⟨us, e2, r2⟩ := so _ _ h2
    exact .inr ⟨_, _, .lst (SqL.of e1) (r1.dp (D.oks_all h3)), .lst (SqL.of e2) (r2.dp (D.oks_all h4)), D.oks_shaped h3, D.oks_shaped h4, k _ H _ S (Step.refl H S) (.bl _) so (by simpa [PyData.eqv] using h5)⟩

/-! in -/
theorem flat_inv {K : PySem.W.Frag} {H : Hp} {x : V} {d : D} (r : Rp K H x d) (h : d.flat = true) : flatV x = true := by
  cases r <;> first
    | rfl
    | (exfalso; revert h; simp [D.flat]; done)
theorem flat_eqV {K : PySem.W.Frag} {H : Hp} {x y : V} {dx dy : D} (rx : Rp K H x dx) (ry : Rp K H y dy) (hx : dx.flat = true) (hy : dy.flat = true) : eqV x y = D.eqb dx dy := by
  cases rx <;> first
    | (exfalso; revert hx; simp [D.flat]; done)
    | (cases ry <;> first
        | (exfalso; revert hy; simp [D.flat]; done)
        | simp [eqV, D.eqb, D.py, PyData.eqv])
theorem flat_in {K : PySem.W.Frag} {H : Hp} {x : V} {dx : D} (rx : Rp K H x dx) (hx : dx.flat = true) : ∀ {vs : List V} {ds : List D}, RpA K H vs ds → ds.all D.flat = true → vs.all flatV = true ∧ inV x vs = ds.any fun z => D.eqb z dx
  | _, _, .nil, _ => ⟨rfl, rfl⟩
  | _, _, .cons a b, h => by
    simp only [List.all_cons, Bool.and_eq_true] at h; obtain ⟨i1, i2⟩ := flat_in rx hx b h.2
    refine ⟨by simp [flat_inv a h.1, i1], ?_⟩
    show (eqV _ x || inV x _) = _
    rw [flat_eqV a rx h.1 hx, i2]
    rfl
theorem pys_any {dx : D} : ∀ {ds : List D}, ((D.pys ds).any fun z => PyData.eqv z dx.py) = ds.any fun z => D.eqb z dx
  | [] => rfl
  | d :: ds => by simp only [D.pys, List.any_cons, pys_any (ds := ds), D.eqb]
theorem r_in (hu : X.A.units + 100 < cLine) : QR X (compareOp .In) (rIn false) := by
  refine wkR (op_in_seq.or (op_inD (by omega))) fun x y H Q ⟨dx, dy, S, Q3, rx, ry, so, h, k⟩ => ?_
  unfold rIn at h
  split at h
  · obtain ⟨h1, h2, h3⟩ := h
    cases ry with
    | tup q a =>
      obtain ⟨e1, e2⟩ := flat_in rx h1 a h2
      exact .inl ⟨_, _, rfl, .inr q, flat_inv rx h1, e1, k _ H _ S (Step.refl H S) (.bl _) so (by simpa [e2] using h3)⟩
  · cases ry
    obtain ⟨ys, hS, h1, h2⟩ := h
    obtain ⟨vs, e, r⟩ := so _ _ hS
    rcases h1 with ⟨h1, h3⟩ | ⟨h1, h3⟩
    · obtain ⟨e1, e2⟩ := flat_in rx h1 r h3
      exact .inl ⟨_, _, rfl, .inl (SqL.of e), flat_inv rx h1, e1, k _ H _ S (Step.refl H S) (.bl _) so (by simpa [e2] using h2)⟩
    · exact .inr ⟨_, _, rx.dp h1, .lst (SqL.of e) (r.dp (D.oks_all h3)), D.ok_shaped h1, D.oks_shaped h3, k _ H _ S (Step.refl H S) (.bl _) so (by rw [pys_any]; simpa using h2)⟩
  · exact h.elim
theorem r_notin (hu : X.A.units + 100 < cLine) : QR X (compareOp .NotIn) (rIn true) := by
  refine wkR (op_notIn_seq.or (op_notInD (by omega))) fun x y H Q ⟨dx, dy, S, Q3, rx, ry, so, h, k⟩ => ?_
  unfold rIn at h
  split at h
  · obtain ⟨h1, h2, h3⟩ := h
    cases ry with
    | tup q a =>
      obtain ⟨e1, e2⟩ := flat_in rx h1 a h2
      exact .inl ⟨_, _, rfl, .inr q, flat_inv rx h1, e1, k _ H _ S (Step.refl H S) (.bl _) so (by simpa [e2] using h3)⟩
  · cases ry
    obtain ⟨ys, hS, h1, h2⟩ := h
    obtain ⟨vs, e, r⟩ := so _ _ hS
    rcases h1 with ⟨h1, h3⟩ | ⟨h1, h3⟩
    · obtain ⟨e1, e2⟩ := flat_in rx h1 r h3
      exact .inl ⟨_, _, rfl, .inl (SqL.of e), flat_inv rx h1, e1, k _ H _ S (Step.refl H S) (.bl _) so (by simpa [e2] using h2)⟩
    · exact .inr ⟨_, _, rx.dp h1, .lst (SqL.of e) (r.dp (D.oks_all h3)), D.ok_shaped h1, D.oks_shaped h3, k _ H _ S (Step.refl H S) (.bl _) so (by rw [pys_any]; simpa using h2)⟩
  · exact h.elim

/-! subscripts, slices -/
theorem ixN_lt {n : Nat} {i : Int} {j : Nat} (h : ixN n i = some j) : j < n := (ixN_seq h).2.1
theorem atI_rp {K : PySem.W.Frag} {H : Hp} {vs : List V} {ds : List D} {i : Int} {d : D} (r : RpA K H vs ds) (h : atI ds i = some d) : ∃ v, atI vs i = some v ∧ Rp K H v d := by
  unfold atI at h ⊢
  rw [r.length]
  cases e : ixN ds.length i with
  | none => (rw [e] at h; cases h)
  | some j =>
    rw [e] at h
    exact r.get h
theorem atI_mapE {α β : Type} {f : α → β} {xs : List α} {i : Int} {x : α} (h : atI xs i = some x) : atI (xs.map f) i = some (f x) := by
  unfold atI at h ⊢
  rw [List.length_map]; cases e : ixN xs.length i with
  | none => (rw [e] at h; cases h)
  | some j =>
    rw [e] at h
    have h : xs[j]? = some x := h
    show (xs.map f)[j]? = some (f x)
    rw [List.getElem?_map, h]
    rfl
theorem q_ix {a b : Expr} {pos : Pos} {fa fb : T3} (ha : QE X a fa) (hb : QE X b fb) (hs : PlainIx b := by exact fun _ _ => rfl) : QE X (.Subscript a b pos) (xOp rIx fa fb) := by
  refine wkE (pe_ix ix_seq ha hb hs) fun σ H Q h => ?_
  obtain ⟨δ, S, Q3, en, so, f, k⟩ := h
  refine ⟨δ, S, _, en, so, f, fun x H1 dx S1 st1 rx so1 f1 => ?_⟩
  refine ⟨δ, S1, _, en.keep st1.k, so1, f1, fun y H2 dy S2 st2 ry so2 h => ?_⟩
  have rx2 := rx.keep st2.k
  have st := st1.trans st2
  unfold rIx at h
  split at h
  · cases rx2 with
    | tup q a =>
      cases ry
      obtain ⟨d, h1, h2⟩ := h
      obtain ⟨v, e1, e2⟩ := atI_rp a h1
      exact .inr (.inl ⟨_, _, _, v, rfl, rfl, q, e1, k v H2 d S2 st e2 so2 h2⟩)
  · cases rx2; cases ry
    obtain ⟨ds, d, h0, h1, h2⟩ := h
    obtain ⟨vs, e, r⟩ := so2 _ _ h0
    obtain ⟨v, e1, e2⟩ := atI_rp r h1
    exact .inl ⟨_, _, _, v, rfl, rfl, SqL.of e, e1, k v H2 d S2 st e2 so2 h2⟩
  · cases rx2 with
    | src q =>
      cases ry
      obtain ⟨n, h1, h2⟩ := h
      exact .inl ⟨_, _, _, _, rfl, rfl, q.sql, atI_mapE h1, k _ H2 _ S2 st (.int n) so2 h2⟩
  · cases rx2; cases ry
    obtain ⟨c, h0, h1, h2⟩ := h
    exact .inr (.inr ⟨_, _, c, rfl, rfl, line5 h0, h1, k _ H2 _ S2 st (.str _) so2 h2⟩)
  · exact h.elim
theorem cut_rp {K : PySem.W.Frag} {H : Hp} {vs : List V} {ds : List D} (r : RpA K H vs ds) (lo hi : Option Int) : RpA K H (cutV vs lo hi) (cut ds lo hi) := by
  unfold cutV cut
  rw [r.length]
  exact (r.drop _).take _
theorem cut_all {α : Type} {xs : List α} {lo hi : Option Int} (h : HT.sIx xs.length 0 lo = 0 ∧ HT.sIx xs.length xs.length hi = xs.length) : (xs.drop (HT.sIx xs.length 0 lo)).take (HT.sIx xs.length xs.length hi - HT.sIx xs.length 0 lo) = xs := by
  rw [h.1, h.2]
  simp
theorem qo_none : PO X none (lO X.prog X.w X.K oNone) := ⟨fun pins s σ H Q I ⟨δ, S, Q3, en, so, f, k⟩ => po_none.run pins s σ H Q I (k none H S (Step.refl H S) so f)⟩
theorem qo_some {e : Expr} {f : T3} (h : QE X e f) : PO X (some e) (lO X.prog X.w X.K (oSome f)) := ⟨fun pins s σ H Q I ⟨δ, S, Q3, en, so, f, k⟩ => (po_some h).run pins s σ H Q I ⟨δ, S, _, en, so, f, fun v H' d S' st r s q => by
  cases d <;> first
    | exact q.elim
    | (cases r; exact ⟨_, rfl, k _ H' S' st s q⟩)⟩⟩
theorem q_sl {e : Expr} {lo hi : Option Expr} {p2 pos : Pos} {fe : T3} {fl fh : O3} (he : QE X e fe) (hl : PO X lo (lO X.prog X.w X.K fl)) (hu : PO X hi (lO X.prog X.w X.K fh)) : QE X (.Subscript e (.Slice lo hi none p2) pos) (xSl fe fl fh) := by
  refine wkE (pe_slice (sl_list.or sl_tupA) he hl hu) fun σ H Q h => ?_
  obtain ⟨δ, S, Q3, en, so, f, k⟩ := h
  refine ⟨δ, S, _, en, so, f, fun x H1 dx S1 st1 rx so1 f1 => ?_⟩
  refine ⟨δ, S1, _, en.keep st1.k, so1, f1, fun i H2 S2 st2 so2 f2 => ?_⟩
  refine ⟨δ, S2, _, (en.keep st1.k).keep st2.k, so2, f2, fun j H3 S3 st3 so3 h => ?_⟩
  have r := (rx.keep st2.k).keep st3.k
  have st := (st1.trans st2).trans st3
  unfold rSl at h
  split at h
  · cases r with
    | @tup a xs ds q a =>
      refine .inr ⟨_, _, rfl, q, fun hw => ?_, fun hw p hp => ?_⟩
      · rw [a.length] at hw
        refine k _ H3 _ S3 st (.tup q ?_) so3 h
        unfold cut
        rw [cut_all hw]
        exact a
      · exact k _ _ _ S3 (st.trans (Step.laid hp)) (.tup (SqT.of upd_same) ((cut_rp a i j).keep (Keep.new hp))) (so3.laid hp) h
  · cases r
    obtain ⟨ds, h0, h1⟩ := h
    obtain ⟨vs, e, r⟩ := so3 _ _ h0
    refine .inl ⟨_, _, rfl, SqL.of e, fun p hp => ?_⟩
    exact k _ _ _ _ (st.trans (Step.new hp)) (.ref p) (so3.new (u := .lst (cut ds i j)) hp ⟨_, upd_same, (cut_rp r i j).keep (Keep.new hp)⟩) (h1 p (so3.fresh hp))
  · exact h.elim

/-! built-ins -/
theorem lBi {r : C3} {fa : A3} (σ : St) (H : Hp) (Q : VK) (h : lE X.prog X.w X.K (xBi r fa) σ H Q) : tCB (lC X.prog X.w X.K r) (lA X.prog X.w X.K fa) σ H Q := by
  obtain ⟨δ, S, Q3, en, so, f, k⟩ := h
  refine ⟨δ, S, _, en, so, f, fun xs H1 ds S1 st1 rx so1 f1 => ?_⟩
  exact ⟨ds, S1, Q3, rx, so1, f1, fun v H' d S' st r s q => k v H' d S' (st1.trans st) r s q⟩
theorem q_bi {x : Str} {p pos : Pos} {e : Expr} {es : List Expr} {id : String} {r : C3} {fa : A3} (hc : QC X (.builtin id) r) (hg : Gl X x) (hm : X.mg x = none) (hv : bootBuiltins x = some (.builtin id)) (ha : QA X (e :: es) fa) (hn : x ≠ "__name__" := by decide) (hdb : (x == ("__debug__" : Str)) = false := by decide)
    (he : starEach (e :: es) X.env = (false, eval e X.env) :: starEach es X.env := by rfl) (hpl : (backTo pos (starEach es X.env)).any (·.1) = false := by rfl) : QE X (.Call (.Name x p) (e :: es) [] pos) (xBi r fa) :=
  wkE (pe_callB hc hg hm hv ha hn hdb he hpl) lBi
theorem q_ty {x : Str} {p pos : Pos} {e : Expr} {es : List Expr} {T : String} {r : C3} {fa : A3} (hc : QC X (.type T) r) (hg : Gl X x) (hm : X.mg x = none) (hv : bootBuiltins x = some (.type T)) (ha : QA X (e :: es) fa) (hn : x ≠ "__name__" := by decide) (hdb : (x == ("__debug__" : Str)) = false := by decide)
    (he : starEach (e :: es) X.env = (false, eval e X.env) :: starEach es X.env := by rfl) (hpl : (backTo pos (starEach es X.env)).any (·.1) = false := by rfl) : QE X (.Call (.Name x p) (e :: es) [] pos) (xBi r fa) :=
  wkE (pe_callTy hc hg hm hv ha hn hdb he hpl) lBi
theorem c_len : QC X (.builtin "len") cLen := by
  refine wkI call_len_seq fun xs H Q ⟨ds, S, Q3, r, so, h, k⟩ => ?_
  unfold cLen at h
  split at h
  · cases r with
    | cons r rr =>
      cases rr
      cases r with
      | tup q a =>
        refine ⟨_, _, rfl, .inr q, ?_⟩
        rw [a.length]
        exact k _ H _ S (Step.refl H S) (.int _) so h
  · cases r with
    | cons r rr =>
      cases rr
      cases r with
      | src q =>
        refine ⟨_, _, rfl, .inl q.sql, ?_⟩
        rw [List.length_map]
        exact k _ H _ S (Step.refl H S) (.int _) so h
  · cases r with
    | cons r rr =>
      cases rr
      cases r
      obtain ⟨ds, h0, h1⟩ := h
      obtain ⟨vs, e, r⟩ := so _ _ h0
      refine ⟨_, _, rfl, .inl (SqL.of e), ?_⟩
      rw [r.length]
      exact k _ H _ S (Step.refl H S) (.int _) so h1
  · exact h.elim
theorem c_tuple : QC X (.type "tuple") cTuple := by
  refine wkI call_tuple_of fun xs H Q ⟨ds, S, Q3, r, so, h, k⟩ => ?_
  unfold cTuple at h
  split at h
  · cases r with
    | cons r rr =>
      cases rr
      cases r
      obtain ⟨ds, h0, h1⟩ := h
      obtain ⟨vs, e, r⟩ := so _ _ h0
      refine ⟨_, _, rfl, .inl ⟨SqL.of e, fun p hp => ?_⟩⟩
      exact k _ _ _ S (Step.laid hp) (.tup (SqT.of upd_same) (r.keep (Keep.new hp))) (so.laid hp) h1
  · exact h.elim
theorem c_list : QC X (.type "list") cList := by
  refine wkI call_list_of fun xs H Q ⟨ds, S, Q3, r, so, h, k⟩ => ?_
  unfold cList at h
  split at h
  · cases r with
    | cons r rr =>
      cases rr
      cases r
      obtain ⟨ds, h0, h1⟩ := h
      obtain ⟨vs, e, r⟩ := so _ _ h0
      refine ⟨_, _, rfl, .inl (SqL.of e), fun p hp => ?_⟩
      exact k _ _ _ _ (Step.new hp) (.ref p) (so.new (u := .lst ds) hp ⟨_, upd_same, r.keep (Keep.new hp)⟩) (h1 p (so.fresh hp))
  · exact h.elim
theorem c_int : QC X (.type "int") cInt := by
  refine wkI call_int1 fun xs H Q ⟨ds, S, Q3, r, so, h, k⟩ => ?_
  unfold cInt at h
  split at h
  · cases r with
    | cons r rr =>
      cases rr
      cases r
      rename_i b
      refine .inr ⟨_, rfl, ?_⟩
      have := k _ H _ S (Step.refl H S) (.int _) so h
      cases b <;> exact this
  · cases r with
    | cons r rr =>
      cases rr
      cases r
      exact .inl ⟨_, rfl, k _ H _ S (Step.refl H S) (.int _) so h⟩
  · exact h.elim
theorem c_max2 (hc : X.calm = true) : QC X (.builtin "max") cMax2 := by
  refine wkI (call_max2 hc) fun xs H Q ⟨ds, S, Q3, r, so, h, k⟩ => ?_
  unfold cMax2 at h
  split at h
  · cases r with
    | cons r rr =>
      cases rr with
      | cons r2 rr =>
        cases rr
        cases r
        cases r2
        exact ⟨_, _, rfl, k _ H _ S (Step.refl H S) (.int _) so h⟩
  · exact h.elim
theorem c_min2 (hc : X.calm = true) : QC X (.builtin "min") cMin2 := by
  refine wkI (call_min2 hc) fun xs H Q ⟨ds, S, Q3, r, so, h, k⟩ => ?_
  unfold cMin2 at h
  split at h
  · cases r with
    | cons r rr =>
      cases rr with
      | cons r2 rr =>
        cases rr
        cases r
        cases r2
        exact ⟨_, _, rfl, k _ H _ S (Step.refl H S) (.int _) so h⟩
  · exact h.elim
theorem c_maxL (hc : X.calm = true) : QC X (.builtin "max") cMaxL := by
  refine wkI (cr_max hc) fun xs H Q ⟨ds, S, Q3, r, so, h, k⟩ => ?_
  unfold cMaxL at h
  split at h
  · cases r with
    | cons r rr =>
      cases rr
      cases r
      obtain ⟨ns, h0, h1, h2⟩ := h
      obtain ⟨vs, e, r⟩ := so _ _ h0
      rw [r.ints] at e
      refine ⟨_, ns, rfl, SqL.of e, List.length_pos_iff.mpr h1, fun m hm hy => ?_⟩
      exact k _ H _ S (Step.refl H S) (.int _) so (h2 m hm hy)
  · exact h.elim
theorem KR.keys {K : PySem.W.Frag} {H : Hp} {kvs : List (Str × D)} {ks : List (Key × V)} (h : KR K H kvs ks) : ks.map (·.1) = (kvs.map (·.1)).map Sum.inr := by
  induction h with
  | nil => rfl
  | cons a b ih => rw [List.map_cons, List.map_cons, List.map_cons, ih, a.1]
theorem c_sortK (hc : X.calm = true) : QC X (.builtin "sorted") cSortK := by
  refine wkI (call_sortedD hc) fun xs H Q ⟨ds, S, Q3, r, so, h, k⟩ => ?_
  unfold cSortK at h
  split at h
  · cases r with
    | cons r rr =>
      cases rr
      cases r
      obtain ⟨kvs, h0, h1, h2⟩ := h
      obtain ⟨ks, e, r⟩ := so _ _ h0
      refine ⟨_, ks, kvs.map (·.1), rfl, .inl e, r.keys, by rw [List.length_map]; exact h1, fun ys p pm up hp => ?_⟩
      exact k _ _ _ _ (Step.new hp) (.ref p) (so.new (u := .lst (ys.map D.str)) hp ⟨_, upd_same, RpA.of_strs⟩) (h2 ys pm up p (so.fresh hp))
  · exact h.elim

/-! methods of lists -/
def lM (P : Program) (w : World) (K : PySem.W.Frag) (r : R3) : V → List V → Hp → VK → Prop := fun x xs H Q => ∃ dx dy y S Q3, xs = [y] ∧ Rp K H x dx ∧ Rp K H y dy ∧ StoOk P w K H S ∧ r dx dy S Q3 ∧ ∀ v H' d S', Step H S H' S' → Rp K H' v d → StoOk P w K H' S' → Q3 d S' → Q v H'
def lM0 (P : Program) (w : World) (K : PySem.W.Frag) (r : D → Sto → K3 → Prop) : V → List V → Hp → VK → Prop := fun x xs H Q => ∃ dx S Q3, xs = [] ∧ Rp K H x dx ∧ StoOk P w K H S ∧ r dx S Q3 ∧ ∀ v H' d S', Step H S H' S' → Rp K H' v d → StoOk P w K H' S' → Q3 d S' → Q v H'
theorem wkM {id : String} {r r' : V → List V → Hp → VK → Prop} (h : MtR X id r) (k : ∀ x xs H Q, r' x xs H Q → r x xs H Q) : MtR X id r' := fun pins s σ H x xs v us Q I rx rxs q => h pins s σ H x xs v us Q I rx rxs (k x xs H Q q)
theorem q_mth {o e : Expr} {apos cpos : Pos} {name : Str} {id : String} {r : R3} {fo fe : T3} (slot : Slot "list" name id) (hty : typeOf (.builtin id) = pure (.type "method_descriptor")) (hm : MtR X id (lM X.prog X.w X.K r)) (ho : QE X o fo) (he : QA X [e] (aCons fe aNil))
    (hbase : attributeBase o name X.env (eval o X.env) = eval o X.env := by (rfl))
    (hfew : ((backTo cpos (starEach (e :: []) X.env)).all (fun x => !x.1) && (backToKw cpos (keywordEach [] X.env)).all (fun x => x.1.isSome)
      && decide ((e :: []).length + ([] : List Keyword).length + (if ([] : List Keyword).isEmpty then 0 else 1) < 30)) = true := by rfl)
    (hline : (apos.endLine == cpos.line) = true := by rfl) (hs : starEach (e :: []) X.env = (false, eval e X.env) :: starEach [] X.env := by rfl) (hplain : (backTo cpos (starEach [] X.env)).any (·.1) = false := by rfl) :
    QE X (.Call (.Attribute o name apos) [e] [] cpos) (xMth r fo fe) := by
  refine wkE (pe_bm PySem.F.plainAttrs_list slot hty hm ho he hbase hfew hline hs hplain) fun σ H Q h => ?_
  obtain ⟨δ, S, Q3, en, so, f, k⟩ := h
  refine ⟨δ, S, _, en, so, f, fun x H1 dx S1 st1 rx so1 ⟨⟨a, ds, hx, hS⟩, f1⟩ => ?_⟩
  subst hx
  cases rx
  obtain ⟨vs, e1, r1⟩ := so1 _ _ hS
  refine ⟨.inl ⟨rfl, vs, SqL.of e1⟩, δ, S1, (fun ds S2 => match ds with
    | [y] => r (.ref a) y S2 Q3
    | _ => False), en.keep st1.k, so1, f1, fun ys H2 dys S2 st2 ry so2 h => ?_⟩
  dsimp only at h
  split at h
  · cases ry with
    | cons ry rr =>
      cases rr
      exact ⟨_, _, _, S2, Q3, rfl, .ref a, ry, so2, h, fun v H' d S' st rv s q => k v H' d S' ((st1.trans st2).trans st) rv s q⟩
  · exact h.elim
theorem q_m0 {o : Expr} {apos cpos : Pos} {name : Str} {id : String} {r : D → Sto → K3 → Prop} {fo : T3} (slot : Slot "list" name id) (hty : typeOf (.builtin id) = pure (.type "method_descriptor")) (hm : MtR X id (lM0 X.prog X.w X.K r)) (ho : QE X o fo)
    (hl : ∀ d S Q, r d S Q → ∃ a ds, d = .ref a ∧ S a = some (.lst ds))
    (hbase : attributeBase o name X.env (eval o X.env) = eval o X.env := by rfl) (hline : (apos.endLine == cpos.line) = true := by rfl) :
    QE X (.Call (.Attribute o name apos) [] [] cpos) (xM0 r fo) := by
  refine wkE (pe_bm0 PySem.F.plainAttrs_list slot hty hm ho hbase hline) fun σ H Q h => ?_
  obtain ⟨δ, S, Q3, en, so, f, k⟩ := h
  refine ⟨δ, S, _, en, so, f, fun x H1 dx S1 st1 rx so1 h => ?_⟩
  obtain ⟨a, ds, hx, hS⟩ := hl _ _ _ h
  subst hx
  cases rx
  obtain ⟨vs, e1, r1⟩ := so1 _ _ hS
  exact ⟨.inl ⟨rfl, vs, SqL.of e1⟩, .ref a, S1, Q3, rfl, .ref a, so1, h, fun v H' d S' st rv s q => k v H' d S' (st1.trans st) rv s q⟩
theorem m_append : MtR X "list.append" (lM X.prog X.w X.K mAppend) := by
  refine wkM mt_append fun x xs H Q ⟨dx, dy, y, S, Q3, hxs, rx, ry, so, h, k⟩ => ?_
  unfold mAppend at h
  split at h
  · cases rx
    obtain ⟨ds, h0, h1, h2⟩ := h
    obtain ⟨vs, e, r⟩ := so _ _ h0
    have kp : Keep H (upd H _ (.lst (vs ++ [y]))) := Keep.set e trivial
    refine ⟨_, vs, y, rfl, hxs, e, by rw [r.length]; exact Nat.lt_of_lt_of_le h1 (by decide), ?_⟩
    exact k _ _ _ _ (Step.set e trivial (by rw [h0]; exact fun z => nomatch z)) .non (so.set (u := .lst (ds ++ [_])) e trivial ⟨_, upd_same, (r.append (.cons ry .nil)).keep kp⟩) h2
  · exact h.elim
/-- l.extend(t), t a tuple of any make -/
theorem meets_extend_tup (l : Addr) (xs : Array Value) (n : Nat) (t : Addr) (ys : Array Value) (m : Nat) (dd : Option Addr) (sl : Array (Option Value))
    (h0 : ¬(!xs.isEmpty && Builtin.List.listTooLong (xs.size + ys.size)) = true) (h1 : xs.size ≤ sizeLine) (h2 : xs.size + ys.size ≤ sizeLine + 1) :
    Meets (Builtin.«list.extend» ⟨[.ref l, .ref t], []⟩) (fun _ R s => s.heap.get? l = some { cls := .type "list", dict := none, data := .seq xs n, slots := #[] } ∧
      s.heap.get? t = some { cls := .type "tuple", dict := dd, data := .seq ys m, slots := sl } ∧ R (.ok (.ret Value.none)) { s with heap := s.heap.update l (Obj.mapSeq fun z => z ++ ys), toks := s.toks }) :=
  .of_wp <| fun prog w A R s h => by
    obtain ⟨hp, g, d, tk, os⟩ := s; obtain ⟨hl, ht, h⟩ := h
    have f4 := AutoSeq1.sub_tuple_list
    have f5 := AutoSeq1.sub_list_tuple
    have f2 := AutoSeq1.sub_tuple_tuple; have f3 := AutoSeq1.sub_list_list
    have hz' : (xs ++ ys).size ≤ sizeLine + 1 := by rw [Array.size_append]; exact h2
    wp_walk using (PySem.wpAny_updateSeq hl rfl (hz := h1) (_hz' := hz')), AutoSeq1.wpAny_loadPart' hl, AutoSeq1.wpAny_loadPart' ht
    exact ⟨_, rfl, h⟩
def rExtT (K : PySem.W.Frag) : V → List V → Hp → VK → Prop := fun x vs H Q => ∃ l t xs zs, x = .ref l ∧ vs = [.ref t] ∧ H l = some (.lst xs) ∧ SqT K H t zs ∧ xs.length + zs.length ≤ sizeLine ∧ Q .non (upd H l (.lst (xs ++ zs)))
theorem mt_extT : MtR X "list.extend" (rExtT X.K) := by
  intro pins s σ H x vs v us Q I rx rv h; obtain ⟨l, t, xs, zs, rfl, rfl, hH, hT, hz, q⟩ := h
  cases rx
  obtain ⟨u, rfl, ru⟩ := rv.one
  cases ru
  obtain ⟨z, its, n, r, hl, e⟩ := I.lstM hH; obtain ⟨its2, r2, ⟨⟨c, dd, dt, sl⟩, e2, hc, m, hd⟩, hz2⟩ := I.tuple hT
  have hc : c = .type "tuple" := hc
  have hd : dt = .seq its2.toArray m := hd
  subst hc hd
  have l2 := r2.length
  (have hsz : its.toArray.size + its2.toArray.size ≤ sizeLine := by rw [List.size_toArray, List.size_toArray]; omega); have hlong : ¬ (!its.toArray.isEmpty && Builtin.List.listTooLong (its.toArray.size + its2.toArray.size)) = true := by
    (rw [notLongL hsz, Bool.and_false])
    decide
  refine call_meets PySem.F.slot_list_extend ⟨_, e, rfl⟩ PySem.F.entry_list_extend (PySem.F.args_list_extend_2 _ _)
    (meets_extend_tup l its.toArray n t its2.toArray m dd sl hlong (by rw [List.size_toArray]; omega) (by omega)) ⟨e, e2, ?_⟩
  refine ⟨.non, _, I.lset (its' := its ++ its2) hH e (by simp) (r.append r2) (by rw [List.length_append]; omega), rfl, q⟩
theorem MtR.or {id : String} {r r' : V → List V → Hp → VK → Prop} (h : MtR X id r) (h' : MtR X id r') :
    MtR X id (fun x xs H Q => r x xs H Q ∨ r' x xs H Q) := by
  intro pins s σ H x xs v us Q I rx rxs q
  rcases q with q | q
  · exact h pins s σ H x xs v us Q I rx rxs q
  · exact h' pins s σ H x xs v us Q I rx rxs q
theorem m_extend : MtR X "list.extend" (lM X.prog X.w X.K mExtend) := by
  refine wkM (MtR.or mt_extend mt_extT) fun x xs H Q ⟨dx, dy, y, S, Q3, hxs, rx, ry, so, h, k⟩ => ?_
  unfold mExtend at h
  split at h
  · cases rx
    cases ry
    obtain ⟨ds, es, h0, h1, h2, h3⟩ := h
    obtain ⟨vs, e, r⟩ := so _ _ h0
    obtain ⟨us, e', r'⟩ := so _ _ h1
    have kp : Keep H (upd H _ (.lst (vs ++ us))) := Keep.set e trivial
    refine .inl ⟨_, _, vs, us, rfl, hxs, e, e', by rw [r.length, r'.length]; exact line6 h2, ?_⟩
    exact k _ _ _ _ (Step.set e trivial (by rw [h0]; exact fun z => nomatch z)) .non (so.set (u := .lst (ds ++ es)) e trivial ⟨_, upd_same, (r.append r').keep kp⟩) h3
  · cases rx
    cases ry with
    | @tup t us es q a =>
      obtain ⟨ds, h0, h2, h3⟩ := h
      obtain ⟨vs, e, r⟩ := so _ _ h0
      have kp : Keep H (upd H _ (.lst (vs ++ us))) := Keep.set e trivial
      refine .inr ⟨_, _, vs, us, rfl, hxs, e, q, by rw [r.length, a.length]; exact line6 h2, ?_⟩
      exact k _ _ _ _ (Step.set e trivial (by rw [h0]; exact fun z => nomatch z)) .non (so.set (u := .lst (ds ++ _)) e trivial ⟨_, upd_same, (r.append a).keep kp⟩) h3
  · exact h.elim
/-- extend by a tuple -/
theorem m_pop : MtR X "list.pop" (lM0 X.prog X.w X.K mPop) := by
  refine wkM mt_pop fun x xs H Q ⟨dx, S, Q3, hxs, rx, so, h, k⟩ => ?_
  unfold mPop at h
  split at h
  · cases rx
    obtain ⟨ds, d, h0, h1, h2⟩ := h
    obtain ⟨vs, e, r⟩ := so _ _ h0
    obtain ⟨v, hv, rv⟩ := r.get h1
    have kp : Keep H (upd H _ (.lst vs.dropLast)) := Keep.set e trivial
    refine ⟨_, vs, v, rfl, hxs, e, by rw [r.length]; exact hv, ?_⟩
    exact k _ _ _ _ (Step.set e trivial (by rw [h0]; exact fun z => nomatch z)) (rv.keep kp) (so.set (u := .lst ds.dropLast) e trivial ⟨_, upd_same, r.dropLast.keep kp⟩) h2
  · exact h.elim
theorem m_reverse : MtR X "list.reverse" (lM0 X.prog X.w X.K mReverse) := by
  refine wkM mt_reverse fun x xs H Q ⟨dx, S, Q3, hxs, rx, so, h, k⟩ => ?_
  unfold mReverse at h
  split at h
  · cases rx
    obtain ⟨ds, h0, h2⟩ := h
    obtain ⟨vs, e, r⟩ := so _ _ h0
    have kp : Keep H (upd H _ (.lst vs.reverse)) := Keep.set e trivial
    refine ⟨_, vs, rfl, hxs, e, ?_⟩
    exact k _ _ _ _ (Step.set e trivial (by rw [h0]; exact fun z => nomatch z)) .non (so.set (u := .lst ds.reverse) e trivial ⟨_, upd_same, r.reverse.keep kp⟩) h2
  · exact h.elim
theorem m_index : MtR X "list.index" (lM X.prog X.w X.K mIndex) := by
  refine wkM mt_index fun x xs H Q ⟨dx, dy, y, S, Q3, hxs, rx, ry, so, h, k⟩ => ?_
  unfold mIndex at h
  split at h
  · cases rx
    cases ry
    obtain ⟨ys, j, h0, h1, h2, h3⟩ := h
    obtain ⟨vs, e, r⟩ := so _ _ h0
    rw [r.strs] at e
    refine ⟨_, _, _, j, _, rfl, hxs, SqL.of e, rfl, ?_, by rw [List.getElem?_map, h1]; rfl, by simp [eqV], fun m z' hm hz => ?_, k _ H _ S (Step.refl H S) (.int _) so h3⟩
    · rw [List.all_eq_true]
      intro z hz
      obtain ⟨q, _, rfl⟩ := List.mem_map.mp hz
      rfl
    · rw [List.getElem?_map] at hz
      cases q : ys[m]? with
      | none => rw [q] at hz; cases hz
      | some z =>
        rw [q] at hz
        cases hz
        simp [eqV, h2 m z hm q]
  · exact h.elim
theorem q_append {o e : Expr} {apos cpos : Pos} {fo fe : T3} (ho : QE X o fo) (he : QA X [e] (aCons fe aNil))
    (hbase : attributeBase o "append" X.env (eval o X.env) = eval o X.env := by rfl)
    (hfew : ((backTo cpos (starEach (e :: []) X.env)).all (fun x => !x.1) && (backToKw cpos (keywordEach [] X.env)).all (fun x => x.1.isSome)
      && decide ((e :: []).length + ([] : List Keyword).length + (if ([] : List Keyword).isEmpty then 0 else 1) < 30)) = true := by rfl)
    (hline : (apos.endLine == cpos.line) = true := by rfl) (hs : starEach (e :: []) X.env = (false, eval e X.env) :: starEach [] X.env := by rfl) (hplain : (backTo cpos (starEach [] X.env)).any (·.1) = false := by rfl) :
    QE X (.Call (.Attribute o "append" apos) [e] [] cpos) (xMth mAppend fo fe) := q_mth PySem.F.slot_list_append PySem.F.type_list_append m_append ho he hbase hfew hline hs hplain
theorem q_extend {o e : Expr} {apos cpos : Pos} {fo fe : T3} (ho : QE X o fo) (he : QA X [e] (aCons fe aNil))
    (hbase : attributeBase o "extend" X.env (eval o X.env) = eval o X.env := by rfl)
    (hfew : ((backTo cpos (starEach (e :: []) X.env)).all (fun x => !x.1) && (backToKw cpos (keywordEach [] X.env)).all (fun x => x.1.isSome)
      && decide ((e :: []).length + ([] : List Keyword).length + (if ([] : List Keyword).isEmpty then 0 else 1) < 30)) = true := by rfl)
    (hline : (apos.endLine == cpos.line) = true := by rfl) (hs : starEach (e :: []) X.env = (false, eval e X.env) :: starEach [] X.env := by rfl) (hplain : (backTo cpos (starEach [] X.env)).any (·.1) = false := by rfl) :
    QE X (.Call (.Attribute o "extend" apos) [e] [] cpos) (xMth mExtend fo fe) := q_mth PySem.F.slot_list_extend PySem.F.type_list_extend m_extend ho he hbase hfew hline hs hplain
theorem q_index {o e : Expr} {apos cpos : Pos} {fo fe : T3} (ho : QE X o fo) (he : QA X [e] (aCons fe aNil))
    (hbase : attributeBase o "index" X.env (eval o X.env) = eval o X.env := by rfl)
    (hfew : ((backTo cpos (starEach (e :: []) X.env)).all (fun x => !x.1) && (backToKw cpos (keywordEach [] X.env)).all (fun x => x.1.isSome)
      && decide ((e :: []).length + ([] : List Keyword).length + (if ([] : List Keyword).isEmpty then 0 else 1) < 30)) = true := by rfl)
    (hline : (apos.endLine == cpos.line) = true := by rfl) (hs : starEach (e :: []) X.env = (false, eval e X.env) :: starEach [] X.env := by rfl) (hplain : (backTo cpos (starEach [] X.env)).any (·.1) = false := by rfl) :
    QE X (.Call (.Attribute o "index" apos) [e] [] cpos) (xMth mIndex fo fe) := q_mth PySem.F.slot_list_index PySem.F.type_list_index m_index ho he hbase hfew hline hs hplain
theorem q_pop {o : Expr} {apos cpos : Pos} {fo : T3} (ho : QE X o fo)
    (hbase : attributeBase o "pop" X.env (eval o X.env) = eval o X.env := by rfl) (hline : (apos.endLine == cpos.line) = true := by rfl) :
    QE X (.Call (.Attribute o "pop" apos) [] [] cpos) (xM0 mPop fo) := q_m0 PySem.F.slot_list_pop PySem.F.type_list_pop m_pop ho (fun d S Q h => by
      cases d <;> first
        | exact h.elim
        | (obtain ⟨xs, _, h0, _⟩ := h; exact ⟨_, _, rfl, h0⟩)) hbase hline
theorem q_reverse {o : Expr} {apos cpos : Pos} {fo : T3} (ho : QE X o fo)
    (hbase : attributeBase o "reverse" X.env (eval o X.env) = eval o X.env := by rfl) (hline : (apos.endLine == cpos.line) = true := by rfl) :
    QE X (.Call (.Attribute o "reverse" apos) [] [] cpos) (xM0 mReverse fo) := q_m0 PySem.F.slot_list_reverse PySem.F.type_list_reverse m_reverse ho (fun d S Q h => by
      cases d <;> first
        | exact h.elim
        | (obtain ⟨xs, h0, _⟩ := h; exact ⟨_, _, rfl, h0⟩)) hbase hline

/-! stores -/
theorem qg_subL {o i : Expr} {fo fi : T3} {pos : Pos} (ho : QE X o fo) (hi : QE X i fi)
    (ha : ∀ v : Value, assign (.Subscript o i pos) X.env v = (do
      let ov ← holding [v] (eval o X.env); let iv ← holding [v, ov] (eval i X.env)
      standAt pos
      holding [v, ov, iv]
        (setItem ov iv v)
      release [v, ov, iv] []) := by intro _; rfl) : QG X (.Subscript o i pos) (gSubL fo fi) := by
  refine wkG (pg_sub ho hi set_list ha) fun v σ H Q ⟨d, δ, S, Q3, r, en, so, f, k⟩ => ?_
  refine ⟨δ, S, _, en, so, f, fun x H1 dx S1 st1 rx so1 f1 => ?_⟩
  refine ⟨δ, S1, _, en.keep st1.k, so1, f1, fun y H2 dy S2 st2 ry so2 ⟨a, n, xs, j, e1, e2, h0, h1, h2⟩ => ?_⟩
  subst e1 e2
  have rx2 := rx.keep st2.k
  cases rx2
  cases ry
  obtain ⟨vs, e, rv⟩ := so2 _ _ h0
  have st := st1.trans st2
  have kp : Keep H2 (upd H2 a (.lst (vs.set j v))) := Keep.set e trivial
  refine ⟨_, vs, _, j, rfl, rfl, e, by rw [rv.length]; exact h1, ?_⟩
  exact k σ _ δ _ (st.trans (Step.set e trivial (by rw [h0]; exact fun z => nomatch z))) ((en.keep st.k).keep kp) (so2.set (u := .lst (xs.set j d)) e trivial ⟨_, upd_same, (rv.set (r.keep st.k) j).keep kp⟩) h2

/-! dicts with texts for keys -/
theorem KR.has {K : PySem.W.Frag} {H : Hp} {kvs : List (Str × D)} {ks : List (Key × V)} (h : KR K H kvs ks) (k : Str) : (valV ks (Sum.inr k)).isSome = hasK kvs k := by
  rw [← valV_any]
  unfold hasK
  induction h with
  | nil => rfl
  | cons a b ih =>
    rw [List.any_cons, List.any_cons, ih, a.1]
    congr 1
    simp
theorem KR.put {K : PySem.W.Frag} {H : Hp} {kvs : List (Str × D)} {ks : List (Key × V)} {v : V} {d : D} (h : KR K H kvs ks) (r : Rp K H v d) (k : Str) : KR K H (putK kvs k d) (L2.putK ks (Sum.inr k) v) := by
  have hh := h.has k
  rw [← valV_any] at hh
  unfold putK L2.putK
  by_cases c : hasK kvs k = true
  · rw [if_pos c, if_pos (by rw [hh]; exact c)]
    clear hh c
    induction h with
    | nil => exact .nil
    | @cons p q ps qs a b ih =>
      rw [List.map_cons, List.map_cons]; refine .cons ?_ ih
      by_cases e : p.1 = k
      · rw [if_pos e, if_pos (by rw [a.1, e])]
        exact ⟨a.1, r⟩
      · rw [if_neg e, if_neg (by rw [a.1]; exact fun z => e (Sum.inr.inj z))]
        exact a
  · rw [if_neg c, if_neg (by rw [hh]; exact c)]
    clear hh c
    induction h with
    | nil => exact .cons ⟨rfl, r⟩ .nil
    | cons a b ih => exact .cons a ih
theorem q_dK {pos : Pos} : QE X (.Dict [] [] pos) xDK := wkE pe_dnewK fun σ H Q ⟨δ, S, Q3, en, so, f, k⟩ p hp =>
  k _ _ _ _ (Step.new hp) (.ref p) (so.new (u := .dK []) hp ⟨[], upd_same, .nil⟩) (f p (so.fresh hp))
def rInKV (neg : Bool) : R2 := fun x y H Q => ∃ a k ks, y = .ref a ∧ x = .str k ∧ H a = some (.dK ks) ∧ Q (.bl (neg != (valV ks (Sum.inr k)).isSome)) H
theorem op_inK (hu : X.A.units + 100 < cLine) : OpR X (compareOp .In) (rInKV false) := by
  intro pins s σ H x y v u Q I rx ry ⟨a, k, ks, e1, e2, h, q⟩
  subst e1 e2
  cases ry
  exact d_in (by omega) I (.inl ⟨ks, Sum.inr k, .inl h, rfl, rfl⟩) rx fun s' I' => ⟨.bl _, H, I', rfl, by simpa using q⟩
theorem op_notInK (hu : X.A.units + 100 < cLine) : OpR X (compareOp .NotIn) (rInKV true) := by
  intro pins s σ H x y v u Q I rx ry ⟨a, k, ks, e1, e2, h, q⟩
  subst e1 e2
  cases ry
  exact d_notIn (by omega) I (.inl ⟨ks, Sum.inr k, .inl h, rfl, rfl⟩) rx fun s' I' => ⟨.bl _, H, I', rfl, by simpa using q⟩
theorem lInK {neg : Bool} (x y : V) (H : Hp) (Q : VK) (h : lR X.prog X.w X.K (rInK neg) x y H Q) : rInKV neg x y H Q := by
  obtain ⟨dx, dy, S, Q3, rx, ry, so, ⟨a, kvs, k, rfl, rfl, h0, h1⟩, kk⟩ := h
  cases rx
  cases ry
  obtain ⟨ks, e, r⟩ := so _ _ h0
  exact ⟨a, k, ks, rfl, rfl, e, by rw [r.has]; exact kk _ H _ S (Step.refl H S) (.bl _) so h1⟩
theorem r_inK (hu : X.A.units + 100 < cLine) : QR X (compareOp .In) (rInK false) := wkR (op_inK hu) lInK
theorem r_notinK (hu : X.A.units + 100 < cLine) : QR X (compareOp .NotIn) (rInK true) := wkR (op_notInK hu) lInK
def tSetK : TSet := fun o i v H Q => ∃ a k ks, o = .ref a ∧ i = .str k ∧ H a = some (.dK ks) ∧ ks.length < sizeLine ∧ Q (upd H a (.dK (L2.putK ks (Sum.inr k) v)))
theorem set_K (hu : X.A.units + 100 < cLine) : PSet X tSetK := by
  intro pins s σ H o i v ov iv u Q I ro ri rv ⟨a, k, ks, e1, e2, h, hl, q⟩
  subst e1 e2
  cases ro
  exact d_setItem (by omega) I (.inl ⟨ks, Sum.inr k, h, rfl, hl, rfl⟩) ri rv fun s' I' => ⟨_, I', q⟩
theorem qg_subK {o i : Expr} {fo fi : T3} {pos : Pos} (hu : X.A.units + 100 < cLine) (ho : QE X o fo) (hi : QE X i fi)
    (ha : ∀ v : Value, assign (.Subscript o i pos) X.env v = (do
      let ov ← holding [v] (eval o X.env); let iv ← holding [v, ov] (eval i X.env)
      standAt pos
      holding [v, ov, iv]
        (setItem ov iv v)
      release [v, ov, iv] []) := by intro _; rfl) : QG X (.Subscript o i pos) (gSubK fo fi) := by
  refine wkG (pg_sub ho hi (set_K hu) ha) fun v σ H Q ⟨d, δ, S, Q3, r, en, so, f, k⟩ => ?_
  refine ⟨δ, S, _, en, so, f, fun x H1 dx S1 st1 rx so1 f1 => ?_⟩
  refine ⟨δ, S1, _, en.keep st1.k, so1, f1, fun y H2 dy S2 st2 ry so2 ⟨a, kvs, z, e1, e2, h0, h1, h2⟩ => ?_⟩
  subst e1 e2
  have rx2 := rx.keep st2.k
  cases rx2
  cases ry
  obtain ⟨ks, e, rv⟩ := so2 _ _ h0
  have st := st1.trans st2
  have kp : Keep H2 (upd H2 a (.dK (L2.putK ks (Sum.inr z) v))) := Keep.set e trivial
  have hl : ks.length = kvs.length := (Paired.length rv).symm
  refine ⟨_, z, ks, rfl, rfl, e, by rw [hl]; exact Nat.lt_of_lt_of_le h1 (by decide), ?_⟩
  exact k σ _ δ _ (st.trans (Step.set e trivial (by rw [h0]; exact fun z => nomatch z))) ((en.keep st.k).keep kp) (so2.set (u := .dK (putK kvs z d)) e trivial ⟨_, upd_same, (rv.put (r.keep st.k) z).keep kp⟩) h2
end
end L3
end
section
set_option maxRecDepth 100000
set_option maxHeartbeats 4200000
/-! L3D: dicts with tuple keys, list(d), enumerate, defs and their calls. -/
namespace L3
open L2 PyProof.Rows PySem.Spec PySem

/-! ### keys -/
section
variable {X : Cx} {pins : List (Addr × Obj)}
variable {σ : St} {H : Hp} {s : Shared}
mutual
theorem Rp.nested (I : Inv X pins σ H s) : ∀ {n : Nat} {d : D} {v : V} {u : Value}, Rp X.K H v d → RelV v u → D.kok n d = true → NestedIs s.heap d.nk u ∧ d.nk.depth ≤ n
  | n, .non, _, _, h, r, _ => by cases h; cases r; exact ⟨by simp only [D.nk]; exact .none, by simp [D.nk, NestedKey.depth]⟩
  | n, .bl b, _, _, h, r, _ => by cases h; cases r; exact ⟨by simp only [D.nk]; exact .bool rfl, by simp [D.nk, NestedKey.depth]⟩
  | n, .int i, _, _, h, r, _ => by cases h; obtain ⟨t, rfl⟩ := r; exact ⟨by simp only [D.nk]; exact .int i t, by simp [D.nk, NestedKey.depth]⟩
  | n, .str x, _, _, h, r, _ => by cases h; obtain ⟨t, rfl⟩ := r; exact ⟨by simp only [D.nk]; exact .text x t, by simp [D.nk, NestedKey.depth]⟩
  | 0, .tup ds, _, _, _, _, h => by simp [D.kok] at h
  | n + 1, .tup ds, _, _, h, r, k => by
    cases h with
    | tup q a =>
      cases r
      obtain ⟨its, rv, ⟨o, ho, hc, m, hd⟩, hz⟩ := I.tuple q
      obtain ⟨i1, i2⟩ := RpA.nested I (n := n) a rv (by simpa [D.kok] using k)
      simp only [D.nk, NestedKey.depth]
      exact ⟨.tup ho hc hd i1, Nat.succ_le_succ i2⟩
  | n, .ref a, _, _, _, _, h => by cases n <;> simp [D.kok] at h
  | n, .src a, _, _, _, _, h => by cases n <;> simp [D.kok] at h
theorem RpA.nested (I : Inv X pins σ H s) : ∀ {n : Nat} {ds : List D} {vs : List V} {us : List Value}, RpA X.K H vs ds → Vals vs us → D.koks n ds = true → NestedAll s.heap (D.nks ds) us ∧ NestedKey.depthAll (D.nks ds) ≤ n
  | n, [], _, _, h, r, _ => by cases h; cases r; exact ⟨by simp only [D.nks]; exact .nil, by simp [D.nks, NestedKey.depthAll]⟩
  | n, d :: ds, _, _, h, r, k => by
    cases h with
    | cons a b =>
      cases r with
      | cons r rr =>
        have k' : D.kok n d = true ∧ D.koks n ds = true := by simpa [D.koks] using k
        obtain ⟨i1, i2⟩ := Rp.nested I a r k'.1
        obtain ⟨j1, j2⟩ := RpA.nested I b rr k'.2
        simp only [D.nks, NestedKey.depthAll]
        exact ⟨.cons i1 j1, Nat.max_le.mpr ⟨i2, j2⟩⟩
end
theorem Rp.key (I : Inv X pins σ H s) {d : D} {b : Addr} (r : Rp X.K H (.ref b) d) (h : D.kok 8 d = true) : (nestedKind X.prog X.w).is s.heap d.nk b := r.nested I rfl h
theorem Rp.addr {K : PySem.W.Frag} {v : V} {d : D} (r : Rp K H v d) (h : d.isTup = true) : ∃ b, v = .ref b := by
  cases r <;> first
    | (exfalso; revert h; simp [D.isTup]; done)
    | exact ⟨_, rfl⟩

/-- what the machine's dict holds -/
theorem Inv.dictY (I : Inv X pins σ H s) {a : Addr} {kvs : List (D × D)} {ys : List YK} (h : H a = some (dO X.prog X.w a ys) ∨ ∃ o, H a = some (.frz o (dO X.prog X.w a ys))) (r : YR X.K H kvs ys) :
    (a == sysModules) = false ∧ kvs.length ≤ sizeLine ∧ ∃ xs, YX ys xs ∧ s.heap.DictOfH (nestedKind X.prog X.w) a xs := by
  have hd : dF X.prog X.w a ys s.heap := by
    rcases h with h | ⟨o, h⟩
    · have q : ObjOk X.prog X.w H s.heap a (dO X.prog X.w a ys) := I.hok a _ h
      exact q.1
    · have q : s.heap.get? a = some o ∧ ObjOk X.prog X.w H s.heap a (dO X.prog X.w a ys) := I.hok a _ h
      exact q.2.1
  obtain ⟨hs, hz, xs, pr, o, es, ep, ho, hx, hdt, he, hn⟩ := hd
  refine ⟨hs, by rw [r.len]; exact hz, xs, pr, o, es, ep, ho, hx, hdt, he, fun x hm => ?_, hn⟩
  obtain ⟨i, hi⟩ := List.getElem?_of_mem hm
  obtain ⟨hil, _⟩ := List.getElem?_eq_some_iff.mp hi
  have hl1 : ys.length = xs.length := Paired.length pr
  have hl2 := r.len
  have hy : ys[i]? = some ys[i] := List.getElem?_eq_getElem (by omega)
  have hk : kvs[i]? = some kvs[i] := List.getElem?_eq_getElem (by omega)
  obtain ⟨x', hx', e1, e2, _⟩ := paired_get pr hy
  rw [hi] at hx'
  cases hx'
  obtain ⟨y', hy', f1, f2, f3, f4, _⟩ := paired_get r hk
  rw [hy] at hy'
  cases hy'
  rw [e1, e2, f1]
  exact f4.key I f2
theorem atKey_of {K : PySem.W.Frag} {kvs : List (D × D)} {ys : List YK} {xs : List (NestedKey × Addr × Value)} (r : YR K H kvs ys) (p : YX ys xs) (k : D) : (atKey xs k.nk).isSome = hasT kvs k ∧ ∀ d, getT kvs k = some d → ∃ b u v, atKey xs k.nk = some (b, u) ∧ RelV v u ∧ Rp K H v d := by
  induction r generalizing xs with
  | nil =>
    cases p
    exact ⟨rfl, fun d h => nomatch h⟩
  | @cons kv y kvs ys a b ih =>
    cases p with
    | @cons _ x _ xs pa pb =>
      obtain ⟨i1, i2⟩ := ih pb
      have e : x.1 = kv.1.nk := pa.1.trans a.1
      unfold atKey hasT getT at *
      rw [List.find?_cons, List.any_cons, List.find?_cons]
      by_cases h : kv.1.nk = k.nk
      · rw [decide_eq_true (e.trans h), decide_eq_true h]
        refine ⟨rfl, fun d hd => ?_⟩
        have hd : some kv.2 = some d := hd
        cases hd
        exact ⟨_, _, _, rfl, pa.2.2, a.2.2.2.2⟩
      · rw [decide_eq_false (fun q => h (e.symm.trans q)), decide_eq_false h]
        exact ⟨by simpa using i1, i2⟩
end
section
variable {X : Cx}
def rInX (X : Cx) (neg : Bool) : R2 := fun x y H Q => ∃ a b kvs ys k, y = .ref a ∧ x = .ref b ∧ (H a = some (dO X.prog X.w a ys) ∨ ∃ o, H a = some (.frz o (dO X.prog X.w a ys))) ∧ YR X.K H kvs ys ∧ Rp X.K H (.ref b) k ∧ D.kok 8 k = true ∧ Q (.bl (neg != hasT kvs k)) H
theorem op_inX (hu : X.A.units + 100 < cLine) : OpR X (compareOp .In) (rInX X false) := by
  intro pins s σ H x y v u Q I rx ry ⟨a, b, kvs, ys, k, e1, e2, h, yr, rk, hk, q⟩
  subst e1 e2
  cases rx
  cases ry
  obtain ⟨hs, hz, xs, pr, hm⟩ := Inv.dictY I h yr
  refine wpAny_in_heap (show X.A.in1.units + 8 < cLine by simp only [Around.in1_units]; omega) (rk.key I hk) hs hm ⟨.bl _, H, I.tok _, rfl, ?_⟩
  rw [(atKey_of yr pr k).1]
  simpa using q
theorem op_notInX (hu : X.A.units + 100 < cLine) : OpR X (compareOp .NotIn) (rInX X true) := by
  intro pins s σ H x y v u Q I rx ry ⟨a, b, kvs, ys, k, e1, e2, h, yr, rk, hk, q⟩
  subst e1 e2
  cases rx
  cases ry
  obtain ⟨hs, hz, xs, pr, hm⟩ := Inv.dictY I h yr
  refine wpAny_bind (wpAny_contains_heap (show X.A.in1.units + 8 < cLine by simp only [Around.in1_units]; omega) (rk.key I hk) hs hm (wpAny_pure ⟨.bl _, H, I.tok _, rfl, ?_⟩))
  rw [(atKey_of yr pr k).1]
  simpa using q
theorem sto_T {P : Program} {w : World} {K : PySem.W.Frag} {H : Hp} {S : Sto} {a : Addr} {kvs : List (D × D)} (so : StoOk P w K H S) (h : S a = some (.dT kvs) ∨ S a = some (.lk kvs)) :
    ∃ ys, (H a = some (dO P w a ys) ∨ ∃ o, H a = some (.frz o (dO P w a ys))) ∧ YR K H kvs ys := by
  rcases h with h | h
  · obtain ⟨ys, e, r⟩ := so _ _ h
    exact ⟨ys, .inl e, r⟩
  · obtain ⟨o, ys, e, r⟩ := so _ _ h
    exact ⟨ys, .inr ⟨o, e⟩, r⟩
theorem lInX {neg : Bool} (x y : V) (H : Hp) (Q : VK) (h : lR X.prog X.w X.K (rInT neg) x y H Q) : rInX X neg x y H Q := by
  obtain ⟨dx, dy, S, Q3, rx, ry, so, ⟨a, kvs, rfl, h0, h1, h2, h3⟩, k⟩ := h
  cases ry
  obtain ⟨b, rfl⟩ := rx.addr h1
  obtain ⟨ys, hH, yr⟩ := sto_T so h0
  exact ⟨a, b, kvs, ys, dx, rfl, rfl, hH, yr, rx, h2, k _ H _ S (Step.refl H S) (.bl _) so h3⟩
theorem r_inT (hu : X.A.units + 100 < cLine) : QR X (compareOp .In) (rInT false) := wkR (op_inX hu) lInX
theorem r_notinT (hu : X.A.units + 100 < cLine) : QR X (compareOp .NotIn) (rInT true) := wkR (op_notInX hu) lInX
/-- d[k] -/
theorem q_key {o i : Expr} {pos : Pos} {fo fi : T3} (hu : X.A.units + 100 < cLine) (ho : QE X o fo) (hi : QE X i fi) (hs : NoSl i := by exact fun _ _ => rfl) : QE X (.Subscript o i pos) (xOp rKey fo fi) := by
  refine ⟨fun pins s σ H Q I h => ?_⟩; have h := lOp (r := rKey) σ H Q h
  refine subD_of PySem.F.slot_dict_getitem.lookup hs (thn (ho.run pins s σ H _ I h) fun u s1 ⟨x, H1, I1, rx, q1⟩ => thn (hi.run pins s1 σ H1 _ I1 q1) fun iv s2 ⟨y, H2, I2, ry, q⟩ => ?_)
  obtain ⟨dx, dy, S, Q3, rdx, rdy, so, ⟨a, kvs, v, rfl, h0, h1, h2, h3, h4⟩, k⟩ := q
  cases rdx
  cases rx
  obtain ⟨b, rfl⟩ := rdy.addr h1
  cases ry
  obtain ⟨ys, hH, yr⟩ := sto_T so h0
  obtain ⟨hs, hz, xs, pr, hm⟩ := Inv.dictY I2 hH yr
  refine ⟨hm.typeIs, ?_⟩
  obtain ⟨b', u, v', e1, e2, e3⟩ := (atKey_of yr pr dy).2 v h3
  exact wpAny_getItem_heap (show X.A.in1.units + 8 < cLine by simp only [Around.in1_units]; omega) (rdy.key I2 h2) hm e1 ⟨v', H2, I2.tok _, e2, k v' H2 v S (Step.refl _ _) e3 so h4⟩

/-! stores -/
theorem dF_stable {P : Program} {w : World} {a : Addr} {ys : List YK} (h1 h2 : Heap) (x : dF P w a ys h1) (k : ∀ o, h1.get? a = some o → h2.get? a = some o) : dF P w a ys h2 := by
  obtain ⟨hs, hz, xs, pr, o, es, ep, ho, r⟩ := x
  exact ⟨hs, hz, xs, pr, o, es, ep, k o ho, r⟩
theorem dO_ok {P : Program} {w : World} {H : Hp} {h : Heap} {a : Addr} {ys : List YK} (x : dF P w a ys h) : ObjOk P w H h a (dO P w a ys) := by
  obtain ⟨hs, hz, xs, pr, o, es, ep, ho, r⟩ := id x
  exact ⟨x, ⟨o, ho⟩, fun h1 h2 => dF_stable h1 h2⟩
def stY (ys : List YK) (k : NestedKey) (b : Addr) (v : V) : List YK := if (ys.any fun y => decide (y.1 = k)) = true then ys.map fun y => if y.1 = k then (y.1, y.2.1, v) else y else ys ++ [(k, b, v)]
theorem YX.has {ys : List YK} {xs : List (NestedKey × Addr × Value)} (p : YX ys xs) (k : NestedKey) : (atKey xs k).isSome = ys.any fun y => decide (y.1 = k) := by
  induction p with
  | nil => rfl
  | @cons y x ys xs a b ih =>
    unfold atKey at *
    rw [List.find?_cons, List.any_cons]
    by_cases h : y.1 = k
    · rw [decide_eq_true (a.1.trans h), decide_eq_true h]
      rfl
    · rw [decide_eq_false (fun q => h (a.1.symm.trans q)), decide_eq_false h]
      simpa using ih
theorem YX.put {ys : List YK} {xs : List (NestedKey × Addr × Value)} (p : YX ys xs) (k : NestedKey) (b : Addr) {v : V} {u : Value} (r : RelV v u) : YX (stY ys k b v) (storedH xs k b u) := by
  have hh := p.has k
  unfold stY storedH
  rw [hh]
  by_cases c : (ys.any fun y => decide (y.1 = k)) = true
  · rw [if_pos c, if_pos c]
    clear hh c
    induction p with
    | nil => exact .nil
    | @cons y x ys xs a b ih =>
      refine .cons ?_ ih
      unfold putAt
      dsimp only
      by_cases h : y.1 = k
      · rw [if_pos h, if_pos (a.1.trans h)]
        exact ⟨a.1, a.2.1, r⟩
      · rw [if_neg h, if_neg (fun q => h (a.1.symm.trans q))]
        exact a
  · rw [if_neg c, if_neg c]
    clear hh c
    induction p with
    | nil => exact .cons ⟨rfl, rfl, r⟩ .nil
    | cons a b ih => exact .cons a ih
theorem YR.put {K : PySem.W.Frag} {H : Hp} {kvs : List (D × D)} {ys : List YK} (p : YR K H kvs ys) {kd d : D} {b : Addr} {v : V} (rk : Rp K H (.ref b) kd) (h1 : kd.isTup = true) (h2 : D.kok 8 kd = true) (r : Rp K H v d) : YR K H (putT kvs kd d) (stY ys kd.nk b v) := by
  have hh : hasT kvs kd = ys.any fun y => decide (y.1 = kd.nk) := by
    unfold hasT
    induction p with
    | nil => rfl
    | cons a b ih => rw [List.any_cons, List.any_cons, ih, a.1]
  unfold putT stY
  rw [← hh]
  by_cases c : hasT kvs kd = true
  · rw [if_pos c, if_pos c]
    clear hh c
    induction p with
    | nil => exact .nil
    | @cons q y qs ys a b ih =>
      refine .cons ?_ ih
      dsimp only
      by_cases h : q.1.nk = kd.nk
      · rw [if_pos h, if_pos (a.1.trans h)]
        exact ⟨a.1, a.2.1, a.2.2.1, a.2.2.2.1, r⟩
      · rw [if_neg h, if_neg (fun z => h (a.1.symm.trans z))]
        exact a
  · rw [if_neg c, if_neg c]
    clear hh c
    induction p with
    | nil => exact .cons ⟨rfl, h2, h1, rk, r⟩ .nil
    | cons a b ih => exact .cons a ih
theorem stY_len (ys : List YK) (k : NestedKey) (b : Addr) (v : V) : (stY ys k b v).length ≤ ys.length + 1 := by
  unfold stY
  split
  · rw [List.length_map]; omega
  · (rw [List.length_append]; simp)
def tSetT (X : Cx) : TSet := fun o i v H Q => ∃ a b kvs ys k, o = .ref a ∧ i = .ref b ∧ H a = some (dO X.prog X.w a ys) ∧ YR X.K H kvs ys ∧ Rp X.K H (.ref b) k ∧ D.kok 8 k = true ∧ ys.length < sizeLine ∧ Q (upd H a (dO X.prog X.w a (stY ys k.nk b v)))
theorem set_T (hu : X.A.units + 100 < cLine) : PSet X (tSetT X) := by
  intro pins s σ H o i v ov iv u Q I ro ri rv ⟨a, b, kvs, ys, k, e1, e2, h, yr, rk, hk, hl, q⟩
  subst e1 e2
  cases ro
  cases ri
  obtain ⟨hs, hz, xs, pr, hm⟩ := Inv.dictY I (.inl h) yr
  have hz' : xs.length ≤ sizeLine := by
    have := Paired.length pr
    omega
  refine wpAny_setItem_heap (hsz := hz') (show X.A.in1.units + 8 < cLine by simp only [Around.in1_units]; omega) (rk.key I hk) hm fun h' hm' hs' => ?_
  obtain ⟨ob, es, ep, ho, h2, h3, h4, _, h5⟩ := hm'
  refine ⟨_, d_write I (by rw [h]; exact True.intro) hs' ⟨ob, ho⟩ (dO_ok ⟨hs, ?_, _, pr.put k.nk b rv, ob, es, ep, ho, h2, h3, h4, h5⟩), q⟩
  have := stY_len ys k.nk b v
  omega
theorem qg_subT {o i : Expr} {fo fi : T3} {pos : Pos} (hu : X.A.units + 100 < cLine) (ho : QE X o fo) (hi : QE X i fi)
    (ha : ∀ v : Value, assign (.Subscript o i pos) X.env v = (do
      let ov ← holding [v] (eval o X.env); let iv ← holding [v, ov] (eval i X.env)
      standAt pos
      holding [v, ov, iv]
        (setItem ov iv v)
      release [v, ov, iv] []) := by intro _; rfl) : QG X (.Subscript o i pos) (gSubT fo fi) := by
  refine wkG (pg_sub ho hi (set_T hu) ha) fun v σ H Q ⟨d, δ, S, Q3, r, en, so, f, k⟩ => ?_
  refine ⟨δ, S, _, en, so, f, fun x H1 dx S1 st1 rx so1 f1 => ?_⟩
  refine ⟨δ, S1, _, en.keep st1.k, so1, f1, fun y H2 dy S2 st2 ry so2 ⟨a, kvs, e1, h0, h1, h2, h3, h4⟩ => ?_⟩
  subst e1
  have rx2 := rx.keep st2.k
  cases rx2
  obtain ⟨b, rfl⟩ := ry.addr h1
  obtain ⟨ys, e, yr⟩ := so2 _ _ h0
  have st := st1.trans st2
  have kp : Keep H2 (upd H2 a (dO X.prog X.w a (stY ys dy.nk b v))) := Keep.set e trivial
  have hl := yr.len
  refine ⟨a, b, kvs, ys, dy, rfl, rfl, e, yr, ry, h2, by rw [← hl]; exact Nat.lt_of_lt_of_le h3 (by decide), ?_⟩
  exact k σ _ δ _ (st.trans (Step.set e trivial (by rw [h0]; exact fun z => nomatch z))) ((en.keep st.k).keep kp) (so2.set (u := .dT (putT kvs dy d)) e trivial ⟨_, upd_same, (yr.put ry h1 h2 (r.keep st.k)).keep kp⟩) h4
theorem q_dT {pos : Pos} : QE X (.Dict [] [] pos) xDT := by
  refine ⟨fun pins s σ H Q I ⟨δ, S, Q3, en, so, f, k⟩ => ?_⟩
  have hp : H s.heap.objs.size = Option.none := I.hok.fresh (Nat.le_refl _)
  have new : dF X.prog X.w s.heap.objs.size [] (s.heap.push { cls := .type "dict", data := .dict #[] }) :=
    ⟨beq_eq_false_iff_ne.mpr (Ne.symm (Nat.ne_of_lt (L2.Inv.big I))), Nat.zero_le _, [], .nil, _, #[], 0, Heap.get?_push_size _ rfl, ⟨rfl, rfl, rfl⟩, rfl, rfl, List.nodup_nil⟩
  refine wpAny_Dict_empty ⟨.ref s.heap.objs.size, _, I.laid (a := s.heap.objs.size) (o := dO X.prog X.w s.heap.objs.size []) (t' := s.toks) (fun _ _ q => Heap.get?_push_of_some _ q) (Nat.le_refl _) (dO_ok new), rfl, ?_⟩
  exact k _ _ _ _ (Step.new hp) (.ref _) (so.new (u := .dT []) hp ⟨[], upd_same, .nil⟩) (f _ (so.fresh hp))
/-- list(d) -/
def rListX (X : Cx) : List V → Hp → VK → Prop := fun xs H Q => ∃ a ys, xs = [.ref a] ∧ H a = some (dO X.prog X.w a ys) ∧ ∀ p, H p = none → Q (.ref p) (upd H p (.lst (ys.map fun y => V.ref y.2.1)))
theorem call_listX (hc : X.calm = true) : CallR X (.type "list") (rListX X) := by
  intro pins s σ H xs us Q I r ⟨a, ys, e, h, q⟩
  subst e
  obtain ⟨u, rfl, rx⟩ := r.one
  cases rx
  have hd : dF X.prog X.w a ys s.heap := (show ObjOk X.prog X.w H s.heap a (dO X.prog X.w a ys) from I.hok a _ h).1
  obtain ⟨hs, hz, xs, pr, o, es, ep, ho, hx, hdt, he, hn⟩ := hd
  have l1 : es.toList.length = xs.length := by rw [he, List.length_map]
  have l2 : ys.length = xs.length := Paired.length pr
  rw [Array.length_toList] at l1; refine PySem.W.kdl_call (kdl_raw hs hx hdt) (I.ok.hd hc) ho (by omega) fun h' tk acc c kp e it => ?_
  have hz' : (ys.map fun y => V.ref y.2.1).length ≤ sizeLine := by rw [List.length_map]; exact hz
  have la : acc.toList.length = ys.length := by rw [Array.length_toList, it.1, l1, l2]
  have rv : Vals (ys.map fun y => V.ref y.2.1) acc.toList := by
    have ea : acc.toList = ys.map fun y => Value.ref y.2.1 := by
      apply List.ext_getElem?
      intro j
      rw [List.getElem?_map]
      by_cases hj : j < ys.length
      · have hy : ys[j]? = some ys[j] := List.getElem?_eq_getElem hj
        obtain ⟨x, hx1, e1, e2, _⟩ := paired_get pr hy
        have hja : j < acc.size := by rw [← Array.length_toList]; omega
        have hv : acc[j]? = some acc[j] := Array.getElem?_eq_getElem hja
        obtain ⟨en, hen, hve⟩ := it.2 j _ hv
        have hes : es.toList[j]? = some (entryOfKey (nestedKind X.prog X.w) x) := by rw [he, List.getElem?_map, hx1]; rfl
        rw [Array.getElem?_toList, hen] at hes
        cases hes
        rw [Array.getElem?_toList, hv, hve, hy]
        show some (Value.ref x.2.1) = some (Value.ref _)
        rw [e2]
      · rw [List.getElem?_eq_none (by omega), List.getElem?_eq_none (by omega)]
        rfl
    rw [ea]
    clear q h hz hz' pr la ea l2
    induction ys with
    | nil => exact .nil
    | cons y ys ih => exact .cons rfl ih
  refine ⟨.ref s.heap.objs.size, _, I.laid (t' := tk) (o := .lst (ys.map fun y => V.ref y.2.1)) kp (Nat.le_refl _) ⟨hz', acc.toList, c, rv, by rw [Array.toArray_toList]; exact e⟩, rfl, q _ (I.hok.fresh (Nat.le_refl _))⟩
theorem YR.refs {K : PySem.W.Frag} {H : Hp} {kvs : List (D × D)} {ys : List YK} (p : YR K H kvs ys) : RpA K H (ys.map fun y => V.ref y.2.1) (kvs.map (·.1)) := by
  induction p with
  | nil => exact .nil
  | cons a b ih => exact .cons a.2.2.2.1 ih
theorem c_listT (hc : X.calm = true) : QC X (.type "list") cListT := by
  refine wkI (call_listX hc) fun xs H Q ⟨ds, S, Q3, r, so, h, k⟩ => ?_
  unfold cListT at h
  split at h
  · cases r with
    | cons r rr =>
      cases rr
      cases r
      obtain ⟨kvs, h0, h1⟩ := h
      obtain ⟨ys, e, yr⟩ := so _ _ h0
      refine ⟨_, ys, rfl, e, fun p hp => ?_⟩
      exact k _ _ _ _ (Step.new hp) (.ref p) (so.new (u := .lst (kvs.map (·.1))) hp ⟨_, upd_same, yr.refs.keep (Keep.new hp)⟩) (h1 p (so.fresh hp))
  · exact h.elim
end
end L3
end
section
set_option maxRecDepth 100000
set_option maxHeartbeats 4200000
/-! L3E: enumerate; defs and their calls. -/
namespace L3
open L2 PyProof.Rows PySem.Spec PySem

theorem meets_enum1 {v : Value} {o : Obj} {G : Heap → Prop} (B : Begins v o G) :
    Meets (Builtin.«enumerate.__new__» ⟨[.type "enumerate", v], []⟩) (fun _ R s => G s.heap ∧
      R (.ok (.ret (.ref (s.heap.push o).objs.size))) { s with heap := (s.heap.push o).push { cls := .type "enumerate", data := .fields #[.none, .bool false, .ref s.heap.objs.size, rawInt 0, .none, .none] } }) :=
  .of_wp <| fun prog w A R s h => by
    obtain ⟨hp, g, d, tk, os⟩ := s; obtain ⟨h1, h2⟩ := h
    have hsub := sub_enumerate
    have go : ∀ {A' : Around} {E Q : Value → Shared → Prop}, Q (.ref hp.objs.size) ⟨hp.push o, g, d, tk, os⟩ → wpAny (model prog w) A' (pyIter v) Q E ⟨hp, g, d, tk, os⟩ :=
      fun q => (B.iter prog w _ _ ⟨hp, g, d, tk, os⟩ _ h1 q)
    wp_walk using go
    refine wpAny_stack_any (fun st => wpAny_pure ?_)
    split
    · rename_i c _ _ _ _ _
      cases (c == Value.type "enumerate") <;> (wp_walk using go; exact ⟨_, rfl, h2⟩)
    · wp_walk using go
      exact ⟨_, rfl, h2⟩
theorem call_enum1 {prog : Program} {w : World} {A : Around} {E : Value → Shared → Prop} {s : Shared} {v : Value} {o : Obj} {G : Heap → Prop} {Q : Value → Shared → Prop} (B : Begins v o G) (h1 : G s.heap)
    (h : ∀ h', IsEnum h' (s.heap.objs.size + 1) s.heap.objs.size 0 .none → h'.get? s.heap.objs.size = some o → h'.objs.size = s.heap.objs.size + 2 →
      (∀ b u, s.heap.get? b = some u → h'.get? b = some u) → Q (.ref (s.heap.objs.size + 1)) { s with heap := h' }) :
    wpAny (model prog w) A (call (.type "enumerate") [v]) Q E s := by
  refine callType_new F.called_enumerate (by decide) (F.typeCall_enumerate_1 _) (F.newCall_enumerate_1 _) (fun obj => F.args_object_init_2 obj _) F.entry_enumerate_new (meets_enum1 B) ⟨h1, ?_⟩
  have hz : (s.heap.push o).objs.size = s.heap.objs.size + 1 := Heap.size_push ..; show _ ∧ _
  rw [hz]
  have he : IsEnum ((s.heap.push o).push { cls := .type "enumerate", data := .fields #[.none, .bool false, .ref s.heap.objs.size, rawInt 0, .none, .none] }) (s.heap.objs.size + 1) s.heap.objs.size 0 .none := by
    have q := Heap.get?_push_size (s.heap.push o) (o := { cls := .type "enumerate", data := .fields #[.none, .bool false, .ref s.heap.objs.size, rawInt 0, .none, .none] }) rfl
    rw [hz] at q
    exact q
  exact ⟨⟨_, he, rfl⟩, h _ he (Heap.get?_push_of_some _ (Heap.get?_push_size _ B.free)) (by rw [Heap.size_push, hz]) fun b u x => Heap.get?_push_of_some _ (Heap.get?_push_of_some _ x)⟩

/-- the tuple at a, each item in a new pair -/
def ItE (K : PySem.W.Frag) (a : Addr) : It :=
  ⟨fun i H => ∃ (xs : List V) (x : V), SqT K H a xs ∧ xs[i]? = some x, fun i H v H' => ∃ T x, v = .ref T ∧ H T = none ∧ H' = upd H T (.tup [.int (i : Nat), x]) ∧ ∀ xs, SqT K H a xs → xs[i]? = some x, fun i H => ∃ xs : List V, SqT K H a xs ∧ xs.length ≤ i⟩
theorem turn_enumT {P : Program} {w : World} {K : PySem.W.Frag} {elts : List Expr} {kk : Nat} {tpos : Pos} (a e it : Addr) :
    Turn P w K (.Tuple elts kk tpos) (ItE K a) [e, it] e (fun i h => (∃ old, IsEnum h e it ((i : Nat) : Int) old) ∧ h.IsTupleIter it a i ∧ e ≠ it) where
  mem := List.mem_cons_self
  obj := fun i h st b hb => by
    obtain ⟨⟨old, he⟩, ⟨o, ho, hc, hd⟩, _⟩ := st; have e' : b = e ∨ b = it := by simpa using hb
    rcases e' with rfl | rfl
    · exact ⟨_, he, fun v q => nomatch q⟩
    · exact ⟨o, ho, fun v q => nomatch hd.symm.trans q⟩
  keep := fun i h h' st k => by
    obtain ⟨⟨old, he⟩, hi, hne⟩ := st
    exact ⟨⟨old, k e (by simp) _ he⟩, hi.at fun o q => k it (by simp) o q, hne⟩
  item := fun X hP hw hK hc i pins s σ H E I hf st hg => by
    subst hP hw hK
    obtain ⟨⟨old, he⟩, hit, hne⟩ := st; obtain ⟨xs, x, hq, hx⟩ := hg
    obtain ⟨its, rv, p, hz⟩ := I.tuple hq; obtain ⟨u, hu, ru⟩ := rv.get hx
    have hel : e < s.heap.objs.size := Heap.lt_size he; have hil : it < s.heap.objs.size := by obtain ⟨_, q, _⟩ := hit; exact Heap.lt_size q
    have hae : e ≠ a := fun z => by
      obtain ⟨o, ho, hcl, _⟩ := p
      have he2 : s.heap.get? e = _ := he
      rw [z, ho] at he2
      cases he2
      exact absurd hcl (by show Value.type "enumerate" ≠ Value.type "tuple"; decide +kernel)
    have hai : (a ≠ it) := fun z => by
      obtain ⟨o, ho, hcl, _⟩ := p
      obtain ⟨o2, h2, c2, _⟩ := hit
      rw [z, h2] at ho
      cases ho
      rw [c2] at hcl
      exact absurd hcl (by decide +kernel)
    have Dr := Draws.tuple (prog := X.prog) (w := X.w) (A := X.A.in1) (I.ok.hd hc) it a hai its.toArray
    have hlt : i < its.toArray.size := by
      have := (List.getElem?_eq_some_iff.mp hu).1
      simpa using this
    refine wpAny_pyNext_enum_itemD Dr he ⟨hit, p⟩ hlt hne (by simp [hne, hae]) fun y h' tk hy ho hst hT hsz hk => ?_
    have hy : its[i]? = some y := by simpa using hy
    rw [hu] at hy
    cases hy
    refine ⟨_, rfl, wpAny_letOwnedTupleGo_enum (s := { s with heap := h', toks := tk + 1 }) ho fun h'' he' sb => ?_⟩
    have hT2 : h''.get? s.heap.objs.size = some { cls := .type "tuple", data := .seq #[.int i tk, u] } := (sb.2 _ (Nat.ne_of_gt hel)).trans hT; have new : ObjOk X.prog X.w (upd H s.heap.objs.size (.tup [.int (i : Nat), x])) h'' s.heap.objs.size (.tup [.int (i : Nat), x]) :=
      ⟨by show 2 ≤ sizeLine; decide, [.int i tk, u], .cons ⟨_, rfl⟩ (.cons ru .nil), ⟨_, hT2, rfl, _, rfl⟩⟩
    have I1 : Inv X pins σ (upd H s.heap.objs.size (.tup [.int (i : Nat), x])) { s with heap := h'', toks := tk + 1 } :=
      I.turnedNew (ch := [e, it])
        (fun b ob hb q => (sb.2 b (fun z => hb (by simp [z]))).trans (hk b ob (fun z => hb (by simp [z])) (fun z => hb (by simp [z])) q)) hf (Nat.le_refl _) new
    refine ⟨.ref s.heap.objs.size, _, I1, rfl, ⟨_, x, rfl, I.hok.fresh (Nat.le_refl _), rfl, fun ys hy => by rw [I.tuple_inj hy hq]; exact hx⟩, ⟨⟨u, ?_⟩, hst.1.at fun o q => (sb.2 it (Ne.symm hne)).trans q, hne⟩, fun b hb => ?_⟩
    · have e1 : ((i + 1 : Nat) : Int) = (i : Int) + 1 := by (omega)
      rw [e1]
      exact he'
    · have hb' : (b < s.heap.objs.size) := by
        (have e' : b = e ∨ b = it := by simpa using hb); rcases e' with rfl | rfl
        · exact hel
        · exact hil
      rw [upd_ne (Nat.ne_of_lt hb')]; exact (hf b hb).1
  done := fun X hP hw hK hc i pins s σ H E I hf st hg => by
    subst hP hw hK
    obtain ⟨⟨old, he⟩, hit, hne⟩ := st; obtain ⟨xs, hq, hx⟩ := hg
    obtain ⟨its, rv, p, hz⟩ := I.tuple hq; obtain ⟨f0, f1, f2, f3, f4, f5⟩ := hf it (by simp)
    have hl := rv.length; have hai : a ≠ it := fun z => by
      obtain ⟨o, ho, hcl, _⟩ := p
      obtain ⟨o2, h2, c2, _⟩ := hit
      rw [z, h2] at ho
      cases ho
      rw [c2] at hcl
      exact absurd hcl (by decide +kernel)
    have hT : s.TypeIs (.ref e) "enumerate" := ⟨_, he, rfl⟩; unfold pyNext; refine wpAny_bind (wpAny_attempt (wpAny_callSpecial?_slot (name := Str.ofString "__next__") hT F.slot_enumerate_next
      (wpAny_call_entry F.slot_enumerate_next hT F.entry_enumerate_next ?_
        (F.args_enumerate_next_1 _))))
    show wpAny _ _ (field (.ref e) 2 >>= _) _ _ _; refine wpAny_bind (wpAny_field he rfl (x := .ref it) rfl ?_)
    refine wpAny_bind (wpAny_nextOf_tuple_end (I.ok.hd hc) hit p (Array.getElem?_eq_none (by rw [List.size_toArray]; omega)) fun h' x he' hx' => ?_)
    obtain ⟨o, ho, hcl⟩ := hx'
    refine wpAny_bind (wpAny_isInstance (T := "StopIteration") (b := true) ⟨o, ho, hcl⟩ isSubtype_stop ?_)
    exact wpAny_pure ⟨rfl, I.turned (t' := s.toks) (fun b o hb q => he' b o hb q) f0 f1 f3 f4 f5⟩
  self := fun A i s Q E st (h : _) => by
    obtain ⟨⟨_, he⟩, _⟩ := st
    exact wpAny_pyIter_enum he h
def iEnumA (K : PySem.W.Frag) (ta : TA) : TI := fun σ H R => ta σ H fun vs H1 => ∃ a, vs = [.ref a] ∧ ((∃ xs, SqL K H1 a xs ∧ R (Ite K a) H1) ∨ ∃ xs, SqT K H1 a xs ∧ R (ItE K a) H1)
section
variable {X : Cx}
theorem pi_enumA {e : Expr} {ta : TA} {p pos tpos : Pos} {elts : List Expr} {kk : Nat} (hg : Gl X "enumerate") (hm : X.mg "enumerate" = none) (ha : PA X [e] ta) (hs : starEach [e] X.env = [(false, eval e X.env)] := by rfl) :
    PI X (.Tuple elts kk tpos) (.Call (.Name "enumerate" p) [e] [] pos) (iEnumA X.K ta) := by
  refine ⟨fun pins s σ H R I h => ?_⟩; refine Call_ (ld_blt I hg hm boot_enumerate (PyProof.Rows.callWith_type1 (thn (ha.run pos pins s σ H _ I h) fun us s1 ⟨vs, H1, I1, r1, q1⟩ => ?_) hs rfl))
  obtain ⟨a, ex, q⟩ := q1
  subst ex
  obtain ⟨u, rfl, rx⟩ := r1.one
  cases rx
  have fp : ∀ b ∈ [s1.heap.objs.size + 1, s1.heap.objs.size], FpOk X pins H1 b := fun b hb => by
    have hle : (s1.heap.objs.size ≤ b) := by
      have e' : b = s1.heap.objs.size + 1 ∨ b = s1.heap.objs.size := by (simpa using hb)
      omega
    (exact I1.fpOk hle (I1.hok.fresh hle))
  rcases q with ⟨xs, hq, q⟩ | ⟨xs, hq, q⟩
  · (obtain ⟨its, rv, p', hz⟩ := I1.list hq)
    refine call_enumerate_list p'.isList fun h' he hit hsz hk => wpAny_pyIter_enum he ?_; exact ⟨s1.heap.objs.size + 1, _, _, _, H1, rfl, I1.kept (t' := s1.toks) hk, turn_enum a (s1.heap.objs.size + 1) s1.heap.objs.size, ⟨⟨.none, he⟩, hit, Nat.succ_ne_self _⟩, fp, q⟩
  · (obtain ⟨its, rv, p', hz⟩ := I1.tuple hq)
    refine call_enum1 (begins_tuple a its.toArray) p' fun h' he hit hsz hk => wpAny_pyIter_enum he ?_
    exact ⟨s1.heap.objs.size + 1, _, _, _, H1, rfl, I1.kept (t' := s1.toks) hk, turn_enumT a (s1.heap.objs.size + 1) s1.heap.objs.size, ⟨⟨.none, he⟩, ⟨_, hit, rfl, rfl⟩, Nat.succ_ne_self _⟩, fp, q⟩
theorem numbered_get : ∀ (ds : List D) (n i : Nat) (d : D), (numbered n ds)[i]? = some d → ∃ x, ds[i]? = some x ∧ d = .tup [.int ((n + i : Nat) : Int), x]
  | [], _, _, _, h => by simp [numbered] at h
  | x :: ds, n, 0, d, h => by
    simp [numbered] at h
    exact ⟨x, rfl, h.symm⟩
  | x :: ds, n, i + 1, d, h => by
    simp only [numbered, List.getElem?_cons_succ] at h
    obtain ⟨y, h1, h2⟩ := numbered_get ds (n + 1) i d h
    exact ⟨y, by simpa using h1, by rw [h2]; congr 3; congr 1; omega⟩
theorem numbered_length : ∀ (ds : List D) (n : Nat), (numbered n ds).length = ds.length
  | [], _ => rfl
  | x :: ds, n => by simp [numbered, numbered_length ds]
theorem ok_enumT {P : Program} {w : World} {K : PySem.W.Frag} {H0 : Hp} {a : Addr} {xs : List V} {ds : List D} (hq : SqT K H0 a xs) (r : RpA K H0 xs ds) : Itok P w K H0 (ItE K a) (numbered 0 ds) (fun _ => True) where
  go := fun i d H S k so _ hd => by
    obtain ⟨y, hy, ed⟩ := numbered_get ds 0 i d hd
    obtain ⟨v, hv, rv⟩ := r.get hy
    refine ⟨⟨xs, v, k.sqt hq, hv⟩, fun x H' ⟨T, z, ex, hT, eH, hx⟩ => ?_⟩
    subst ex eH
    have := hx xs (k.sqt hq)
    rw [hv] at this
    cases this
    rw [ed, Nat.zero_add]
    exact ⟨.tup (SqT.of upd_same) (.cons (.int _) (.cons ((rv.keep k).keep (Keep.new hT)) .nil)), Step.laid hT, so.laid hT⟩
  stop := fun i H S k so _ hl => ⟨xs, k.sqt hq, by rw [r.length]; rw [numbered_length] at hl; exact hl⟩
theorem ok_enumL {P : Program} {w : World} {K : PySem.W.Frag} {H0 : Hp} {a : Addr} {ds : List D} : Itok P w K H0 (Ite K a) (numbered 0 ds) (fun S' => S' a = some (.lst ds)) where
  go := fun i d H S k so hG hd => by
    obtain ⟨y, hy, ed⟩ := numbered_get ds 0 i d hd
    obtain ⟨vs, hv, r⟩ := so a _ hG
    obtain ⟨v, he, rv⟩ := r.get hy
    refine ⟨⟨vs, v, SqL.of hv, he⟩, fun x H' ⟨T, z, ex, hT, eH, hx⟩ => ?_⟩
    subst ex eH
    have := hx vs (SqL.of hv)
    rw [he] at this
    cases this
    rw [ed, Nat.zero_add]
    exact ⟨.tup (SqT.of upd_same) (.cons (.int _) (.cons (rv.keep (Keep.new hT)) .nil)), Step.laid hT, so.laid hT⟩
  stop := fun i H S k so hG hl => by
    obtain ⟨vs, hv, r⟩ := so a _ hG
    exact ⟨vs, SqL.of hv, by rw [r.length]; rw [numbered_length] at hl; exact hl⟩
theorem qi_enum {e : Expr} {fa : A3} {p pos tpos : Pos} {elts : List Expr} {kk : Nat} (hg : Gl X "enumerate") (hm : X.mg "enumerate" = none) (ha : QA X [e] fa) (hs : starEach [e] X.env = [(false, eval e X.env)] := by rfl) :
    QI X (.Tuple elts kk tpos) (.Call (.Name "enumerate" p) [e] [] pos) (iBi jEnum fa) := by
  refine wkI' (pi_enumA hg hm ha hs) fun σ H R ⟨δ, S, k3, en, so, f, k⟩ => ?_
  refine ⟨δ, S, _, en, so, f, fun vs H' ds S' st r s q => ?_⟩
  unfold jEnum at q
  split at q
  · cases r with
    | cons r rr =>
      cases rr
      unfold seqOf at q
      split at q
      · cases r with
        | tup hq a => exact ⟨_, rfl, .inr ⟨_, hq, k _ _ _ H' _ st s (ok_enumT hq a) q⟩⟩
      · cases r
        obtain ⟨ds, hS, q⟩ := q
        obtain ⟨vs, hv, rr⟩ := s _ _ hS
        exact ⟨_, rfl, .inl ⟨_, SqL.of hv, k _ _ _ H' _ st s ok_enumL q⟩⟩
      · exact q.elim
  · exact q.elim
end

/-! ### defs -/
structure Fn3 (P : Program) (w : World) (K : PySem.W.Frag) (mg : Str → Option Value) (base : Heap) (k : Nat) (f : Addr) (fd : FuncData) (ps : List Str) (sp : F3) : Prop where
  len : ∀ ds S Q, sp ds S Q → ds.length = ps.length
  run : ∀ (A : Around) (outer : List Env) (s : Shared) (H : Hp) (args : Args) (us : List Value) (vs : List V) (Q : VK), Room k A → A.guards = some [] → Env0 P w K mg base A outer s H → BindsTo s fd args (ps.zip us) → Vals vs us → lSp P w K sp vs H Q E0 →
    codeAny (model P w) A (.call (.ref f) args) (CR CX0 outer P w H s Q E0) s
section
variable {X : Cx} {k : Nat} {f : Addr} {fd : FuncData} {ps : List Str} {sp : F3} {x : Str} {p pos : Pos} {e : Expr} {es : List Expr} {fa : A3}
theorem run3 {pins : List (Addr × Obj)} {σ : St} {H : Hp} {s : Shared} {Q : VK} {us : List Value} {vs : List V} (G : Fn3 X.prog X.w X.K X.mg X.base k f fd ps sp) (hr : Room k X.A) (hgd : X.A.guards = some []) (hb : Binds X.K fd ps [])
    (I : Inv X pins σ H s) (r : Vals vs us) (h : lSp X.prog X.w X.K sp vs H Q E0) : wpAny (model X.prog X.w) X.A (call (.ref f) us) (EP X pins σ Q) X.xe s := by
  have hl : (us ++ []).length = ps.length := by
    obtain ⟨ds, S, Q3, ra, so, h3, _⟩ := h
    rw [List.append_nil, ← r.length, ra.length]
    exact G.len _ _ _ h3
  have hbb := hb s us I.kIn hl
  rw [List.append_nil] at hbb
  refine wpAny_call (codeAny_mono (G.run X.A X.stack s H ⟨us, []⟩ us vs Q hr hgd I.env0 hbb r h) fun res s' hq => ?_)
  cases res with
  | error z => exact False.elim hq
  | ok fl =>
    cases fl with
    | ret u => exact I.after hq
    | _ => exact False.elim hq
theorem q_call (G : Fn3 X.prog X.w X.K X.mg X.base k f fd ps sp) (hr : Room k X.A) (hgd : X.A.guards = some []) (hg : Gl X x) (hm : X.mg x = some (.ref f)) (hk : PySem.W.keepIn X.K (.ref f) = true) (hb : Binds X.K fd ps [])
    (ha : QA X (e :: es) fa) (hdb : (x == ("__debug__" : Str)) = false := by decide) (he : starEach (e :: es) X.env = (false, eval e X.env) :: starEach es X.env := by rfl) (hpl : (backTo pos (starEach es X.env)).any (·.1) = false := by rfl) :
    QE X (.Call (.Name x p) (e :: es) [] pos) (xCall sp fa) := by
  refine ⟨fun pins s σ H Q I ⟨δ, S, Q3, en, so, h, kk⟩ => ?_⟩
  refine wpAny_Call_Name_kw (ld_glob I hg hm ?_ hdb); refine PySem.W.callWith_K (h₀ := X.base) I.ok.mod.kin hk (thn (ha.run pos pins s σ H (fun vs H1 => lSp X.prog X.w X.K sp vs H1 Q E0) I ⟨δ, S, _, en, so, h, fun vs H1 ds S1 st r so1 q => ?_⟩) fun us s1 ⟨vs, H1, I1, r, q⟩ => ⟨I1.kIn, ?_⟩) he hpl
  · exact ⟨ds, S1, Q3, r, so1, q, fun v H' d S' st' r' s' q' => kk v H' d S' (st.trans st') r' s' q'⟩
  · exact run3 G hr hgd hb I1 r q
theorem q_call0 (G : Fn3 X.prog X.w X.K X.mg X.base k f fd ps sp) (hr : Room k X.A) (hgd : X.A.guards = some []) (hg : Gl X x) (hm : X.mg x = some (.ref f)) (hk : PySem.W.keepIn X.K (.ref f) = true) (hb : Binds X.K fd ps [])
    (hdb : (x == ("__debug__" : Str)) = false := by decide) : QE X (.Call (.Name x p) [] [] pos) (xCall sp aNil) := by
  refine ⟨fun pins s σ H Q I ⟨δ, S, Q3, en, so, h, kk⟩ => ?_⟩
  refine wpAny_Call_Name_kw (ld_glob I hg hm ?_ hdb); exact PySem.W.callWith_K0 I.kIn hk (run3 (us := []) (vs := []) G hr hgd hb I .nil ⟨[], S, Q3, .nil, so, h, kk⟩)
end
theorem start_env {K : PySem.W.Frag} {H : Hp} {N : List Str} {vs : List V} {ds : List D} (r : RpA K H vs ds) : EnvOk K H (L2.start N vs) (start N.length ds) := by
  refine ⟨?_, fun i d h => ?_⟩
  · unfold L2.start L3.start
    rw [List.length_append, List.length_append, List.length_map, List.length_map, List.length_replicate, List.length_replicate, r.length]
  · unfold L3.start at h
    have hi : i < ds.length := by
      by_cases hi : i < ds.length
      · exact hi
      · rw [List.getElem?_append_right (by simpa using hi), List.getElem?_replicate] at h
        split at h <;> cases h
    rw [List.getElem?_append_left (by simpa using hi), List.getElem?_map] at h
    cases e : ds[i]? with
    | none => (rw [e] at h; cases h)
    | some d' =>
      rw [e] at h
      cases h
      obtain ⟨v, hv, rv⟩ := r.get e
      refine ⟨v, ?_, rv⟩
      unfold L2.start
      rw [List.getElem?_append_left (by rw [List.length_map, r.length]; exact hi), List.getElem?_map, hv]
      rfl
section
variable {P : Program} {w : World}
variable {K : PySem.W.Frag} {mg : Str → Option Value} {base : Heap}
/-- a def by its body -/
theorem fn3 {x qual : Str} {st : Stmt} {f : Addr} {fd : FuncData} {N ps : List Str} {k : Nat} {sp : F3} {body : S3} (F : Fun K x qual st f fd) (S : FnScope N ps (defScope st)) (keeps : Keeps N.length ps.length body sp)
    (hbody : ∀ (cdv : Value) (A : Around) (outer : List Env) (s : Shared) (H : Hp), Room k (A.deeper (envOfC qual (defScope st) s.heap.objs.size f cdv)) → A.guards = some [] →
      QSs (cxOf CX0 P w K mg base N qual (defScope st) f cdv A outer s H E0).nox (defBody st) body) : Fn3 P w K mg base (k + 1) f fd ps sp := by
  obtain ⟨oc, od, kV, doc, pm, an, cdv, ct, osl, rfl, lk, hcd⟩ := F.ex; refine ⟨keeps.1, fun A outer s H args us vs Q hr hgd e0 hb r hsp => ?_⟩
  obtain ⟨ds, S0, Q3, ra, so, h3, kk⟩ := hsp
  have hl : vs.length = ps.length := by rw [ra.length]; exact keeps.1 _ _ _ h3
  have stays : ∀ b o, base.get? b = some o → s.heap.get? b = some o := fun b o e => (e0.bs b o e).1
  have KX : K.In s.heap := e0.mod.kin.keeps stays
  have hkind : ∀ y ∈ ps.zip us, (defScope st).names.lookup y.1 = some .local ∨ ((defScope st).names.lookup y.1 = some .cell ∧ ((cellsFrom (s.heap.objs.size + 1) (defScope st).names []).lookup y.1).isSome = true) := by
    rintro ⟨n, v⟩ hy
    rcases S.par n ((List.of_mem_zip hy).1) with q | q
    · exact .inl q
    · (exact .inr ⟨q, PySem.W.cellsFrom_some _ _ _ (.inl q)⟩)
  refine codeAny_call_function hr.depth (KX _ _ lk) rfl S.co S.gen rfl (PySem.W.codeRec_of KX hcd) (hb _ _ _ _ ?_); refine wpAny_newFunctionEnv_cells S.kind hkind fun env he s1 y => ?_
  subst he
  have lim : s.heap.NoLimit := e0.mod.nolimit.keeps stays
  refine ⟨lim.keeps y.toInCall.keep, codeAny_func ?_⟩
  have hq := (hbody cdv A outer s H (hr.deeper _) hgd).nox
  have I := inv_start (CX := CX0) (P := P) (w := w) (K := K) (mg := mg) (base := base) (N := N) (qual := qual) (f := f) (cd := cdv) (E := E0) S hr.hd e0 hl r y
  have fin : ∀ {σ' : St} {H' : Hp} {v : V} {u : Value} {s' : Shared}, Inv (cxOf CX0 P w K mg base N qual (defScope st) f cdv A outer s H E0) [] σ' H' s' → RelV v u → Q v H' → CE outer P w H s Q u s' :=
    fun {σ' H' v u s'} J rv q => ⟨v, H', J.os, J.bare, J.base, J.hok, rv, q⟩
  refine wpAny_mono (hq.run [] s1 (L2.start N vs) H { nx := fun _ H' => Q .non H', rt := Q } I ⟨L3.start N.length ds, S0, _, start_env ra, so, keeps.2 _ _ _ h3, ?_, ?_⟩) (fun fl s' hs => ?_) fun e s' hs => hs
  · rintro σ' H' δ' S' st _ s' ⟨S'', sub, q⟩
    exact kk .non H' .non S'' (st.sub sub) .non (s'.sub sub) q
  · rintro v H' d S' st rv s' ⟨S'', sub, q⟩
    exact kk v H' d S'' (st.sub sub) rv (s'.sub sub) q
  · cases fl with
    | ret u =>
      obtain ⟨v, σ', H', J, rv, q⟩ := hs; exact fin J rv q
    | next =>
      obtain ⟨σ', H', J, q⟩ := hs; exact fin (v := V.non) (u := Value.none) J rfl q
    | brk =>
      obtain ⟨_, _, _, q⟩ := hs
      exact False.elim q
    | cont =>
      obtain ⟨_, _, _, q⟩ := hs
      exact False.elim q
end
end L3
end
section
set_option maxRecDepth 100000
set_option maxHeartbeats 4200000
/-! L3F: str of a list, sorted of rows. -/
namespace L3
open L2 PyProof.Rows PySem.Spec PySem
section
variable {X : Cx}
theorem hasDict_py : ∀ (n : Nat) (d : D), D.ok n d = true → (D.py d).hasDict = false := by
  have go : ∀ n, (∀ d, D.ok n d = true → (D.py d).hasDict = false) ∧ (∀ ds, D.oks n ds = true → PyData.hasDictAll (D.pys ds) = false) := by
    intro n
    induction n with
    | zero =>
      have a : ∀ d, D.ok 0 d = true → (D.py d).hasDict = false := fun d h => by
        cases d <;> simp_all [D.ok, D.py, PyData.hasDict]
      refine ⟨a, fun ds => ?_⟩
      induction ds with
      | nil => intro _; rfl
      | cons d ds ih =>
        intro h
        have h' : D.ok 0 d = true ∧ D.oks 0 ds = true := by simpa [D.oks] using h
        show PyData.hasDictAll (D.py d :: D.pys ds) = false
        rw [PyData.hasDictAll, a d h'.1, ih h'.2]; rfl
    | succ n ih0 =>
      have a : ∀ d, D.ok (n + 1) d = true → (D.py d).hasDict = false := fun d h => by
        cases d with
        | tup ds =>
          show PyData.hasDict (.tuple (D.pys ds)) = false
          rw [PyData.hasDict]
          exact ih0.2 ds (by simpa [D.ok] using h)
        | _ => simp_all [D.ok, D.py, PyData.hasDict]
      refine ⟨a, fun ds => ?_⟩
      induction ds with
      | nil => intro _; rfl
      | cons d ds ih =>
        intro h
        have h' : D.ok (n + 1) d = true ∧ D.oks (n + 1) ds = true := by simpa [D.oks] using h
        show PyData.hasDictAll (D.py d :: D.pys ds) = false
        rw [PyData.hasDictAll, a d h'.1, ih h'.2]; rfl
  exact fun n => (go n).1
theorem hasDict_pys (n : Nat) : ∀ ds : List D, ds.all (D.ok n) = true → PyData.hasDictAll (D.pys ds) = false
  | [], _ => rfl
  | d :: ds, h => by
    have h' : D.ok n d = true ∧ ds.all (D.ok n) = true := by simpa using h
    show PyData.hasDictAll (D.py d :: D.pys ds) = false
    rw [PyData.hasDictAll, hasDict_py n d h'.1, hasDict_pys n ds h'.2]; rfl
theorem c_str (hgd : X.A.guards = some []) (hu : X.A.units + 100 < cLine) : QC X (.type "str") cStr := by
  intro pn s τ H xs us Q I r h
  obtain ⟨ds, S, Q3, rp, so, h, k⟩ := h
  unfold cStr at h
  split at h
  case h_2 => exact h.elim
  obtain ⟨v, rfl, rv⟩ : ∃ v, xs = [v] ∧ Rp X.K H v (.ref _) := by
    cases rp with
    | cons a b => cases b; exact ⟨_, rfl, a⟩
  cases rv
  obtain ⟨xs, h0, h1, h2, h3, h4, h5⟩ := h
  obtain ⟨vs, e, r1⟩ := so _ _ h0
  have dp : Dp X.K H (.ref _) (.list (D.pys xs)) := .lst (SqL.of e) (r1.dp (D.oks_all h1))
  obtain ⟨u, eu, ru⟩ := vals1 r
  subst eu
  obtain ⟨as, rd⟩ := Dp.reads I _ _ _ dp ru
  cases ru
  have hd : (PyData.list (D.pys xs)).hasDict = false := by
    rw [PyData.hasDict]
    exact hasDict_pys 20 xs h1
  have hz : (PyData.shown (.list (D.pys xs))).length ≤ sizeLine := Nat.le_trans h4 (by decide)
  refine callType_new F.called_str (by decide) (F.typeCall_str_1 _) (F.newCall_str_1 _) (fun obj => F.args_object_init_2 obj _) F.entry_str_new
    (meets_str_new (S := fun A' R s' => A'.guards = some [] ∧ A'.units + 90 < cLine ∧ (∀ b o, s.heap.get? b = some o → s'.heap.get? b = some o) ∧
      ∀ h' u tk, (∀ b o, s'.heap.get? b = some o → h'.get? b = some o) → R (.ok (.ret (.str (PyData.shown (.list (D.pys xs))) u))) { s' with heap := h', toks := tk }) fun P' w' A' R' s' q => ?_) ?_
  · exact strOf_of_reads (prog := P') (w := w') (A := A'.in1) rd h2 (PyData.noDict_hsm hd) q.1 (by show A'.units + 1 + (_ + 1) < cLine; have := q.2.1; omega) q.2.2.1 q.2.2.2 hz
  · refine ⟨hgd, by show X.A.units + 1 + 90 < cLine; omega, fun _ _ e => e, fun h' u tk hk => ⟨typeIs_str _ _ _, ?_⟩⟩
    exact ⟨.str (PyData.shown (.list (D.pys xs))), H, I.kept (t' := tk) hk, ⟨u, rfl⟩, k _ H _ S (Step.refl H S) (.str _) so h5⟩

/-! sorted of rows -/
open PySem.W in
theorem alike_strs : ∀ ws us : List D, (ws.all fun w => match w with | .str _ => true | _ => false) = true → (us.all fun w => match w with | .str _ => true | _ => false) = true → alikeAll (D.pys ws) (D.pys us) = true
  | [], us, _, _ => by simp [D.pys, alikeAll]
  | w :: ws, [], _, _ => by simp [D.pys, alikeAll]
  | w :: ws, u :: us, h, g => by
    have h' := by simpa only [List.all_cons, Bool.and_eq_true] using h
    have g' := by simpa only [List.all_cons, Bool.and_eq_true] using g
    show alikeAll (D.py w :: D.pys ws) (D.py u :: D.pys us) = true
    rw [alikeAll, alike_strs ws us h'.2 g'.2, Bool.and_true]
    cases w <;> cases u <;> simp_all [D.py, alike]
theorem isRow_shape {d : D} (h : isRow d = true) : ∃ i ws j, d = .tup [.int i, .tup ws, .int j] ∧ (ws.all fun w => match w with | .str _ => true | _ => false) = true := by
  unfold isRow at h
  split at h
  · exact ⟨_, _, _, rfl, h⟩
  · cases h
open PySem.W in
theorem alike_rows {d d' : D} (h : isRow d = true) (h' : isRow d' = true) : alike d.py d'.py = true := by
  obtain ⟨i, ws, j, rfl, g⟩ := isRow_shape h
  obtain ⟨i', ws', j', rfl, g'⟩ := isRow_shape h'
  show alike (.tuple [.int i, .tuple (D.pys ws), .int j]) (.tuple [.int i', .tuple (D.pys ws'), .int j']) = true
  have := alike_strs ws ws' g g'
  simp [alike, alikeAll, this]
theorem mem_pys : ∀ {ds : List D} {p : PyData}, p ∈ D.pys ds → ∃ d, d ∈ ds ∧ p = d.py
  | [], _, h => nomatch h
  | d :: ds, p, h => by
    have h' : p ∈ d.py :: D.pys ds := h
    rcases List.mem_cons.mp h' with e | e
    · exact ⟨d, List.mem_cons_self, e⟩
    · obtain ⟨x, a, b⟩ := mem_pys e
      exact ⟨x, List.mem_cons_of_mem _ a, b⟩
theorem pys_len : ∀ ds : List D, (D.pys ds).length = ds.length
  | [] => rfl
  | d :: ds => congrArg (· + 1) (pys_len ds)
theorem depth_strs : ∀ ws : List D, (ws.all fun w => match w with | .str _ => true | _ => false) = true → PyData.depthAll (D.pys ws) = 0
  | [], _ => by simp [D.pys, PyData.depthAll]
  | w :: ws, h => by
    have h' := by simpa only [List.all_cons, Bool.and_eq_true] using h
    show PyData.depthAll (D.py w :: D.pys ws) = 0
    rw [PyData.depthAll, depth_strs ws h'.2]
    cases w <;> simp_all [D.py, PyData.depth]
/-- a value that stands for the data p -/
def Stands (K : PySem.W.Frag) (H : Hp) (v : Value) (p : PyData) : Prop := ∃ x d, RelV x v ∧ Rp K H x d ∧ d.py = p
theorem stands_in {K : PySem.W.Frag} {H : Hp} : ∀ {ds : List D} {vs : List V} {us : List Value}, RpA K H vs ds → Vals vs us → PySem.W.EachIs (Stands K H) us (D.pys ds)
  | [], _, _, .nil, .nil => (.nil)
  | d :: ds, _, _, .cons a b, .cons r t => .cons ⟨_, d, r, a, rfl⟩ (stands_in b t)
theorem stands_out {K : PySem.W.Frag} {H : Hp} : ∀ {us : List Value} {ps : List PyData}, PySem.W.EachIs (Stands K H) us ps → ∃ vs ds, Vals vs us ∧ RpA K H vs ds
  | _, _, .nil => ⟨[], [], .nil, .nil⟩
  | _, _, .cons ⟨x, d, r, a, _⟩ t => by
    obtain ⟨vs, ds, h1, h2⟩ := stands_out t
    exact ⟨x :: vs, d :: ds, .cons r h1, .cons a h2⟩
theorem vals_len {vs : List V} {us : List Value} (h : Vals vs us) : vs.length = us.length := h.length
theorem c_sortRows (hu : X.A.units + 100 < cLine) : QC X (.builtin "sorted") cSortRows := by
  intro pn s τ H xs us Q I r h
  obtain ⟨ds, S, Q3, rp, so, h, k⟩ := h
  unfold cSortRows at h
  split at h
  case h_2 => exact h.elim
  obtain ⟨v, rfl, rv⟩ : ∃ v, xs = [v] ∧ Rp X.K H v (.ref _) := by
    cases rp with
    | cons a b => cases b; exact ⟨_, rfl, a⟩
  cases rv
  obtain ⟨xs, h0, h1, h2, hk, h5⟩ := h
  obtain ⟨vs, e, r1⟩ := so _ _ h0
  obtain ⟨u, eu, ru⟩ := vals1 r
  subst eu
  cases ru
  have hrow : ∀ d ∈ xs, isRow d = true := fun d hd => List.all_eq_true.mp h2 d hd
  obtain ⟨its, rv, pl, hz⟩ := I.list (SqL.of e)
  obtain ⟨as, rds⟩ := Dp.readsAll I _ _ _ (r1.dp (D.oks_all hk)) rv
  have hL : (D.pys xs).length ≤ sizeLine := by rw [pys_len]; exact Nat.le_trans h1 (by decide)
  have hid : (D.pys xs).map id = D.pys xs := List.map_id _
  refine PySem.W.sorted_data (β := PyData) (enc := id) (vs := its) (bs := D.pys xs) (R := Stands X.K H) pl.isList (stands_in r1 rv) (PySem.W.readsAll_each id (by rw [hid]; exact rds)) ?_ ?_ hL ?_ fun out ho es => ?_
  · rw [hid]
    intro d hd d' hd'
    obtain ⟨x, hx, rfl⟩ := mem_pys hd
    obtain ⟨x', hx', rfl⟩ := mem_pys hd'
    exact alike_rows (hrow x hx) (hrow x' hx')
  · rw [hid]
    refine .inl fun d hd => ?_
    obtain ⟨x, hx, rfl⟩ := mem_pys hd
    obtain ⟨i, ws, j, rfl, _⟩ := isRow_shape (hrow x hx)
    exact ⟨_, _, rfl⟩
  · intro d hd
    obtain ⟨x, hx, rfl⟩ := mem_pys hd
    obtain ⟨i, ws, j, rfl, g⟩ := isRow_shape (hrow x hx)
    have : PyData.depth (.tuple [.int i, .tuple (D.pys ws), .int j]) ≤ 3 := by
      simp [PyData.depth, PyData.depthAll, depth_strs ws g]
    show X.A.units + 2 + PyData.depth (.tuple [.int i, .tuple (D.pys ws), .int j]) < cLine
    omega
  · obtain ⟨vs', ds', hv, hr⟩ := stands_out es
    obtain ⟨c, hc⟩ := sortedAll_at s.heap its (List.toArray out)
    have hn : H (s.heap.objs.size + 1) = none := I.hok.fresh (Nat.le_succ _)
    have hlen : vs'.length ≤ sizeLine := by
      rw [vals_len hv, ho]
      exact hL
    refine ⟨.ref (s.heap.objs.size + 1), upd H (s.heap.objs.size + 1) (.lst vs'), I.laid (t' := s.toks) (fun b u q => sortedAll_old q) (Nat.le_succ _)
      (show ObjOk X.prog X.w _ _ _ (.lst vs') from ⟨hlen, out, c, hv, hc⟩), rfl, ?_⟩
    exact k _ _ _ _ (Step.new hn) (.ref _) (so.new (u := .lst ds') hn ⟨_, upd_same, hr.keep (Keep.new hn)⟩) (h5 ds' _ (so.fresh hn))
end
end L3
end
section
set_option maxRecDepth 100000
set_option maxHeartbeats 4200000
/-! L3G: sorted(set(xs)), xs a list of texts. -/
namespace L3
open PySem PySem.Spec PyProof.Rows L2 PySem.Froz

/-- the set of texts at a: its members are l's -/
structure TxR (P : Program) (w : World) (h : Heap) (a : Addr) (D : SD) (l : List Str) : Prop where
  here : h.get? a = some (sObj "set" D)
  ok : TxOk P w D l
  txt : ∀ e ∈ D.1.toList, ∃ k u, e.2 = Value.str k u
  ris : Ris D.2.2.place.toList
  led : w.params.followText "set-order" = true ∨ D.2.2.led = true
abbrev freshD (w : World) : SD := (#[], 0, .fresh 0 0 (!w.params.followText "set-order"))
section
variable {P : Program} {w : World} {A : Around}
variable {E : Value → Shared → Prop} {s : Shared}
theorem txR_fresh {h : Heap} {a : Addr} (e : h.get? a = some (sObj "set" (freshD w))) : TxR P w h a (freshD w) [] where
  here := e
  ok := TxOk.nil rfl
  txt := fun e he => by simp at he
  ris := List.Pairwise.nil
  led := by
    show _ ∨ (!w.params.followText "set-order") = true; cases w.params.followText "set-order"
    · exact .inr rfl
    · exact .inl rfl
theorem ris_tail {ep : Nat} {es : Array (Int × Value)} {t : SetTable} {b : Bool} (r : Ris t.place.toList) : Ris (tailTx ep es t b).2.2.place.toList := by
  unfold tailTx
  split
  · exact relayAll_ris t es _
  · exact r
theorem led_tail {ep : Nat} {es : Array (Int × Value)} {t : SetTable} {b : Bool} : (tailTx ep es t b).2.2.led = t.led := by
  unfold tailTx
  split
  · exact relayAll_led t es _
  · rfl
theorem txt_tail {ep : Nat} {es : Array (Int × Value)} {t : SetTable} {b : Bool} (h : ∀ e ∈ es.toList, ∃ k u, e.2 = Value.str k u) : ∀ e ∈ (tailTx ep es t b).1.toList, ∃ k u, e.2 = Value.str k u := by
  unfold tailTx
  split
  · exact fun e he => h e ((relayAll_perm t es _).mem_iff.mp he)
  · exact h
theorem add_txR {D : SD} {l : List Str} {x : Str} {u : Tok} {h h' : Heap} {a : Addr} (R : TxR P w h a D l) (e : h'.get? a = some (sObj "set" (addTx (hashStr w x) (.str x u) D))) :
    TxR P w h' a (addTx (hashStr w x) (.str x u) D) (x :: l) where
  here := e
  ok := add_ok u R.ok
  txt := by
    refine txt_tail fun e he => ?_
    have pm := layNew_perm D.2.2 D.1 (hashStr w x) (.str x u)
    rw [Array.toList_push] at pm
    rcases List.mem_append.mp (pm.mem_iff.mp he) with q | q
    · exact R.txt e q
    · rw [List.mem_singleton.mp q]
      exact ⟨x, u, rfl⟩
  ris := by
    refine ris_tail ?_
    have q := layNew_ris D.2.2 D.1 (hashStr w x) (.str x u) R.ris
    split <;> exact q
  led := R.led.imp id fun z => by
    have q := layNew_led D.2.2 D.1 (hashStr w x) (.str x u)
    refine led_tail.trans ?_
    split <;> exact q.trans z
theorem TxR.keep {D : SD} {l : List Str} {h h' : Heap} {a : Addr} (R : TxR P w h a D l) (k : ∀ o, h.get? a = some o → h'.get? a = some o) : TxR P w h' a D l :=
  ⟨k _ R.here, R.ok, R.txt, R.ris, R.led⟩
/-- a text that the set has -/
theorem old_txt {a : Addr} {D : SD} {l : List Str} {x : Str} {u : Tok} {Q : Bool → Shared → Prop} (ho : s.heap.get? a = some (sObj "set" D)) (F : TxOk P w D l) (hk : x ∈ l) (hb : l.length < scanBound) (h : Q false s) :
    wpAny (model P w) A (setAddHashed a (.str x u) (hashStr w x)) Q E s := by
  obtain ⟨es, ep, t⟩ := D
  have hd : (sObj "set" (es, ep, t)).data = .set es ep t := rfl
  have fit : t.fits es.size = true := F.fit
  have elm : ElemsOf (strKind P w) es.toList := F.el
  have size : es.size = l.length := F.sz
  unfold setAddHashed setAddHashedIn; refine wpAny_holding (wpAny_bind (wpAny_setState_of ho hd fit ?_))
  dsimp only
  rw [byScan_of rfl (by omega) elm]
  simp only [↓reduceIte]
  unfold setAddByScan
  refine wpAny_bind (wpAny_bind (wpAny_rule (wpAny_bind (wpAny_setScan_of (knd := strKind P w) (k := x) (is_str x u) ho hd fit elm ?_))))
  cases c : List.findIdx? (fun e => (strKind P w).is x e.2) es.toList with
  | some j => exact wpAny_pure (wpAny_pure h)
  | none =>
    obtain ⟨e, he, q⟩ := (F.mem x).mp hk
    have z := List.findIdx?_eq_none_iff.mp c e he
    rw [q] at z
    cases z
end
/-- the members after i texts -/
structure Upto (xs : List Str) (i : Nat) (l : List Str) : Prop where
  mem : ∀ x, x ∈ l ↔ x ∈ xs.take i
  few : l.length ≤ i
theorem take_step {xs : List Str} {i : Nat} {x : Str} (h : xs[i]? = some x) : xs.take (i + 1) = xs.take i ++ [x] := by
  rw [List.take_add_one, h]; rfl
theorem Upto.old {xs l : List Str} {i : Nat} {x : Str} (h : Upto xs i l) (e : xs[i]? = some x) (m : x ∈ l) : Upto xs (i + 1) l where
  mem := fun y => by
    rw [take_step e, List.mem_append, ← h.mem y, List.mem_singleton]
    exact ⟨.inl, fun q => q.elim id fun q => q ▸ m⟩
  few := Nat.le_succ_of_le h.few
theorem Upto.new {xs l : List Str} {i : Nat} {x : Str} (h : Upto xs i l) (e : xs[i]? = some x) : Upto xs (i + 1) (x :: l) where
  mem := fun y => by
    rw [take_step e, List.mem_append, ← h.mem y, List.mem_singleton, List.mem_cons, Or.comm]
  few := Nat.succ_le_succ h.few
theorem strs_get : ∀ {us : List Value} {xs : List Str}, StrsAre us xs → ∀ (i : Nat) (v : Value), us[i]? = some v → ∃ x t, xs[i]? = some x ∧ v = .str x t
  | _, _, .nil, i, v, h => by (simp at h)
  | _, _, .cons x t _, 0, v, h => by
    simp at h
    exact ⟨x, t, rfl, h.symm⟩
  | _, _, .cons x t r, i + 1, v, h => by
    simp only [List.getElem?_cons_succ] at h; exact strs_get r i v h
section
variable {prog : Program} {w : World} {A : Around} {R : Result → Shared → Prop} {I : Addr} {fp wr : List Addr} {G : Array GenState → Array GenState → Prop} {n : Nat} {Pv : Nat → Value → Prop} {St : Nat → Shared → Prop}
theorem fill_texts (W : WalksS prog w A.in1 I fp wr G n Pv St) (a : Addr) (hf : a ∉ fp) (xs : List Str) (hn : n = xs.length) (h64 : xs.length < 1000) (hval : ∀ i v, Pv i v → ∃ x t, xs[i]? = some x ∧ v = .str x t) :
    ∀ (k i : Nat) (s : Shared), n - i = k → i ≤ n → St i s → (∃ D l, TxR prog w s.heap a D l ∧ Upto xs i l) →
      (∀ s' D l, Moved (a :: wr) G s s' → TxR prog w s'.heap a D l → Upto xs n l → R (.ok (.ret .none)) s') →
      codeAny (model prog w) A (.builtin "set.update.loop" ⟨[.ref a, .ref I], []⟩) R s := by
  have hw : a ∉ wr := fun h => hf (W.sub _ h)
  have more : ∀ b ∈ wr, b ∈ a :: wr := fun b hb => List.mem_cons_of_mem _ hb
  intro k
  induction k with
  | zero =>
    intro i s hk hi st ⟨D, l, T, U⟩ fin
    obtain rfl : i = n := by omega
    refine codeAny_builtin F.entry_set_update_loop ?_; rw [Around.under_plainId F.plain_set_update_loop _]
    show wpAny _ A.in1 (pyNext (.ref I) >>= _) _ _ s; refine wpAny_bind (W.done s _ _ st fun s' mv => ?_)
    exact wpAny_pure (fin s' D l (mv.mono more) (T.keep fun o e => mv.heap a o hw e) U)
  | succ k ih =>
    intro i s hk hi st ⟨D, l, T, U⟩ fin
    have lt : i < n := by omega
    refine codeAny_builtin F.entry_set_update_loop ?_; rw [Around.under_plainId F.plain_set_update_loop _]
    show wpAny _ A.in1 (pyNext (.ref I) >>= _) _ _ s; refine wpAny_bind (W.item i s _ _ lt st fun v s' hP st' mv => ?_)
    obtain ⟨x, t, hx, rfl⟩ := hval i v hP
    have T1 : TxR prog w s'.heap a D l := T.keep fun o e => mv.heap a o hw e
    show wpAny _ A.in1 (holding [Value.str x t] (setAdd a (.str x t)) >>= _) _ _ s'
    refine wpAny_bind (wpAny_holding ?_); unfold setAdd
    refine wpAny_holding (wpAny_bind ((strKind prog w).pyHash (k := x) (is_str x t) ?_))
    have few := U.few
    by_cases hm : x ∈ l
    · refine old_txt (s := { s' with toks := s'.toks + 1 }) T1.here T1.ok hm (by unfold scanBound; omega) ?_
      refine wpAny_pure ⟨plainId_quiet F.plain_set_update_loop _, ih (i + 1) _ (by omega) lt (W.frame _ s' _ _ st' (Nat.le_succ _) fun b hb o e => e) ⟨D, l, T1, U.old hx hm⟩ fun s2 D2 l2 m2 T2 U2 => ?_⟩
      exact fin s2 D2 l2 (Moved.trans W.gtrans ((mv.mono more).then_heap (Nat.le_succ _) fun b o hb e => e) m2) T2 U2
    · refine add_x (T := "set") (l := l) (D := D) (s := { s' with toks := s'.toks + 1 }) T1.here T1.ok hm (by unfold scanBound; omega) ?_
      have oth : ∀ b o, b ≠ a → s'.heap.get? b = some o → (s'.heap.update a (fun _ => sObj "set" (addTx (hashStr w x) (.str x t) D))).get? b = some o := fun b o hb e => (Heap.get?_update_other _ _ (Ne.symm hb)).trans e
      refine wpAny_pure ⟨plainId_quiet F.plain_set_update_loop _, ih (i + 1) _ (by omega) lt (W.frame _ s' _ _ st' (Nat.le_succ _) fun b hb o e => oth b o (fun z => hf (z ▸ hb)) e) ⟨_, x :: l, add_txR T1 (get_upd _ T1.here rfl), U.new hx⟩ fun s2 D2 l2 m2 T2 U2 => ?_⟩
      exact fin s2 D2 l2 (Moved.trans W.gtrans ((mv.mono more).then_heap (Nat.le_succ _) fun b o hb e => oth b o (fun z => hb (by rw [z]; exact List.mem_cons_self)) e) m2) T2 U2
end
abbrev fso (w : World) : Obj := { cls := .type "set", dict := none, data := .set #[] 0 (.fresh 0 0 (!w.params.followText "set-order")) }
section
variable {P : Program} {w : World} {A : Around}
variable {E : Value → Shared → Prop} {s : Shared}
theorem strs_len : ∀ {us : List Value} {xs : List Str}, StrsAre us xs → us.length = xs.length
  | _, _, .nil => rfl
  | _, _, .cons _ _ r => congrArg (· + 1) (strs_len r)
set_option maxRecDepth 110000 in
/-- set(xs), xs a list of texts -/
theorem call_texts {l : Addr} {items : Array Value} (xs : List Str) {Q : Value → Shared → Prop} (hh : A.handled = none) (hl : s.heap.IsList l items) (hi : StrsAre items.toList xs) (h64 : xs.length < 1000)
    (fin : ∀ (h' : Heap) (tk : Nat) D m, TxR P w h' s.heap.objs.size D m → Upto xs xs.length m → (∀ b o, s.heap.get? b = some o → h'.get? b = some o) → Q (.ref s.heap.objs.size) { s with heap := h', toks := tk }) :
    (wpAny (model P w) A (call (.type "set") [.ref l]) Q E s) := by
  have isz : items.size = xs.length := by
    have q := strs_len hi
    rw [Array.length_toList] at q
    exact q
  obtain ⟨c, tl, hmro⟩ := F.called_set.mro; have hmd := F.called_set.made
  have hsb := F.called_set.sub
  refine wpAny_call (codeAny_of_tree ?_); show wpAny _ _ (callAny (.type "set") _) _ _ _
  (refine wpAny_pure ⟨Code.quiet_builtin _ (by decide +kernel), codeAny_builtin F.entry_type_call ?_⟩); rw [Around.under_plain (weight_type_call_type "set" [.ref l] []) rfl]
  have ha := F.called_set.notType
  have hb := F.called_set.canCreate
  have hct := F.typeCall_set_1 (.ref l); repeat (any_goals (first | assumption | wp_step))
  refine codeAny_mono (code_set_led1 (.ref l) (E := E) (Q₁ := fun v s1 => v = .ref s.heap.objs.size ∧ s1 = { s with heap := s.heap.push (fso w) }) ⟨rfl, rfl⟩) fun r s1 hr => ?_
  cases r with
  | error e => exact hr
  | ok fl =>
    cases fl with
    | ret obj =>
      obtain ⟨rfl, rfl⟩ := hr
      have at0 : (s.heap.push (fso w)).get? s.heap.objs.size = some (fso w) := Heap.get?_push_size _ rfl
      have tyS : Shared.TypeIs { s with heap := s.heap.push (fso w) } (.ref s.heap.objs.size) "set" := ⟨_, at0, rfl⟩
      have hli := F.called_set.init.lookup; have hbi := F.called_set.init.bind (.ref s.heap.objs.size); repeat (any_goals (first | assumption | wp_step))
      refine codeAny_mono (codeAny_call_builtin (R := wants (fun v s2 => v = .none ∧ ∃ h' tk D m, s2 = { s with heap := h', toks := tk } ∧ TxR P w h' s.heap.objs.size D m ∧ Upto xs xs.length m ∧ ∀ b o, s.heap.get? b = some o → h'.get? b = some o) E)
        F.called_set.init.plain F.entry_set_init (check_set_init_1 tyS ?_)) fun r2 s2 hr2 => ?_
      · (obtain ⟨ol, hol, hcl, nl, hdl⟩ := hl)
        obtain ⟨ocls, odict, odata, oslots⟩ := ol; simp only at hcl hdl
        subst hcl; subst hdl
        have hol1 : (s.heap.push (fso w)).get? l = some { cls := .type "list", dict := odict, data := .seq items nl, slots := oslots } := Heap.get?_push_of_some _ hol
        have nls := F.sub_list_set
        have nlf := F.sub_list_frozenset
        have nld : (Value.type "list" == Value.type "dict") = false := by decide
        have ll1 : (s.heap.push (fso w)).IsList l items := ⟨_, hol1, rfl, nl, rfl⟩; unfold Builtin.«set.__init__» noKeywords Builtin.Frozenset.updateFrom
        generalize hPI : pyIter = PI
        wp_walk
        subst hPI
        refine wpAny_pyIter_list ll1 (wpAny_bind (wpAny_runValue ?_))
        have lt : l < s.heap.objs.size := Heap.lt_size hol
        (have hh3 : A.in1.in1.in1.handled = none := by simp [hh]); have sz1 : (s.heap.push (fso w)).objs.size = s.heap.objs.size + 1 := Heap.size_push ..
        have neI : l ≠ (s.heap.push (fso w)).objs.size := by
          rw [sz1]
          exact Nat.ne_of_lt (Nat.lt_succ_of_lt lt)
        have notf : s.heap.objs.size ∉ [(s.heap.push (fso w)).objs.size, l] := by
          intro z
          rcases List.mem_cons.1 z with z | z
          · rw [sz1] at z
            exact absurd z (Nat.ne_of_lt (Nat.lt_succ_self _))
          · exact absurd (List.mem_singleton.mp z) (Nat.ne_of_gt lt)
        have val : ∀ (i : Nat) (v : Value), items[i]? = some v → ∃ x t, xs[i]? = some x ∧ v = .str x t := fun i v hv => strs_get hi i v (by rw [Array.getElem?_toList]; exact hv)
        refine fill_texts ((Walks.list hh3 _ l neI items).toS) s.heap.objs.size notf xs isz h64 val (items.size - 0) 0 _ (by omega) (Nat.zero_le _) ⟨⟨_, Heap.get?_push_size _ rfl, rfl, rfl⟩, (ll1.push _)⟩ ?_ ?_
        · exact ⟨freshD w, [], txR_fresh (Heap.get?_push_of_some _ at0), ⟨fun x => (by simp), Nat.le_refl _⟩⟩
        · intro s' D m mv T U
          obtain ⟨h', g2, d', tk', os'⟩ := s'; have eg : g2 = s.gens := mv.gens
          have ed : d' = s.drawn := mv.drawn
          have eo : os' = s.os := mv.os
          subst eg ed eo
          show wpAny _ _ _ _ _ _
          refine wpAny_pure ?_
          show wpAny _ _ (ret Value.none) _ _ _; rw [isz] at U
          refine wpAny_pure ⟨rfl, h', tk', D, m, rfl, T, U, fun b o e => ?_⟩
          have lb : b < s.heap.objs.size := Heap.lt_size e
          refine mv.heap b o (fun z => ?_) (Heap.get?_push_of_some _ (Heap.get?_push_of_some _ e))
          rcases List.mem_cons.1 z with z | z
          · exact absurd z (Nat.ne_of_lt lb)
          · have q := List.mem_singleton.mp z
            rw [sz1] at q
            exact absurd q (Nat.ne_of_lt (Nat.lt_succ_of_lt lb))
      · cases r2 with
        | error e => exact hr2
        | ok fl2 =>
          cases fl2 with
          | ret r =>
            obtain ⟨rfl, h', tk, D, m, rfl, T, U, hk⟩ := hr2; repeat (any_goals (first | assumption | wp_step))
            exact fin _ _ _ _ T U hk
          | _ => exact hr2.elim
    | _ => exact hr.elim
/-- texts that stand for the values -/
theorem texts_of : ∀ vs : List Value, (∀ v ∈ vs, ∃ k u, v = Value.str k u) → ∃ xs, StrsAre vs xs
  | [], _ => ⟨[], .nil⟩
  | v :: vs, h => by
    obtain ⟨k, u, rfl⟩ := h v List.mem_cons_self
    obtain ⟨xs, r⟩ := texts_of vs fun y hy => h y (List.mem_cons_of_mem _ hy)
    exact ⟨k :: xs, .cons k u r⟩
theorem texts_mem : ∀ {vs : List Value} {xs : List Str}, StrsAre vs xs → ∀ k, k ∈ xs ↔ ∃ u, Value.str k u ∈ vs
  | _, _, .nil, k => by simp
  | _, _, .cons x t r, k => by
    rw [List.mem_cons, texts_mem r k]
    constructor
    · rintro (e | ⟨u, h⟩)
      · exact ⟨t, by rw [e]; exact List.mem_cons_self⟩
      · exact ⟨u, List.mem_cons_of_mem _ h⟩
    · rintro ⟨u, h⟩
      rcases List.mem_cons.1 h with e | h
      · cases e
        exact .inl rfl
      · exact .inr ⟨u, h⟩
/-- sorted(set) -/
theorem sorted_texts {a : Addr} {D : SD} {l : List Str} {Q : Value → Shared → Prop} (T : TxR P w s.heap a D l) (hh : A.handled = none) (h64 : l.length < 64)
    (fin : ∀ s' p (out : Array Value) (c : Nat) (ys : List Str), (∀ b o, s.heap.get? b = some o → s'.heap.get? b = some o) → s'.gens = s.gens → s'.os = s.os → s.heap.objs.size ≤ p →
      s'.heap.get? p = some (seqObj "list" out c) → StrsAre out.toList ys → (∀ k, k ∈ ys ↔ k ∈ l) → ys.length = l.length → Q (.ref p) s') :
    (wpAny (model P w) A (call (.builtin "sorted") [.ref a]) Q E s) := by
  obtain ⟨es, ep, t⟩ := D
  refine Calls.call_function_entry kind_sorted plain_sorted entry_sorted (args_sorted1 _) ?_; unfold Builtin.«sorted»
  refine wpAny_bind (m := checkCount "sorted" 1 1 _) (wpAny_pure ?_); have sz : es.size = l.length := T.ok.sz
  refine wpAny_bind (collect_set (A := A.in1) hh ⟨_, T.here, rfl, rfl⟩ T.ok.fit (by show es.size < scanBound; unfold scanBound; omega) T.ris T.led fun s1 vs k1 hz g1 o1 pm => ?_)
  have hvl : vs.length = l.length := by rw [pm.length_eq, List.length_map, Array.length_toList]; exact sz
  obtain ⟨xs, hS⟩ := texts_of vs fun v hv => by
    obtain ⟨e, he, q⟩ := List.mem_map.1 (pm.mem_iff.1 hv)
    rw [← q]
    exact T.txt e he
  have hxm : ∀ k, k ∈ xs ↔ k ∈ l := fun k => by
    rw [texts_mem hS k, T.ok.mem k]
    constructor
    · rintro ⟨u, hu⟩
      obtain ⟨e, he, q⟩ := List.mem_map.mp (pm.mem_iff.mp hu)
      exact ⟨e, he, by rw [q]; exact is_str k u⟩
    · rintro ⟨e, he, q⟩
      obtain ⟨u, hu⟩ := Value.isStrOf_shape (x := k) (v := e.2) q
      exact ⟨u, pm.mem_iff.mpr (List.mem_map.mpr ⟨e, he, hu⟩)⟩
  (refine wpAny_bind (wpAny_newList ?_ (by rw [hvl, sizeLine_eq]; omega))); have hoL : (s1.heap.push (seqObj "list" vs.toArray 0)).get? s1.heap.objs.size = some (seqObj "list" vs.toArray 0) := Heap.get?_push_size _ rfl
  show wpAny _ _ _ _ _ { s1 with heap := s1.heap.push (seqObj "list" vs.toArray 0) }
  refine wpAny_bind (wpAny_holding (wpAny_call_entry slot_list_sort ⟨_, hoL, rfl⟩ entry_list_sort
    (list_sort_treeK strKind_oneLt (s := { s1 with heap := s1.heap.push (seqObj "list" vs.toArray 0) }) hoL hS.keysOf (fun v₁ v₂ rest e => keyKind_strs (by rw [← e]; exact hS)) (by rw [hvl]; exact h64) fun st' hp hs => ⟨_, rfl, ?_⟩)
    (args_list_sort _)))
  obtain ⟨ys, f1, f2, f3⟩ := sorted_out_str hS hp hs
  obtain ⟨c, hc⟩ := sortedHeap_at (vs := vs) (out := (arrOf st').map (·.2)) hoL
  refine wpAny_pure ⟨_, rfl, fin _ s1.heap.objs.size ((arrOf st').map (·.2)) c ys (fun b u e => ?_) g1 o1 hz hc f1 (fun k => by rw [f2.mem_iff, hxm]) ?_⟩
  · have q := k1 b u e
    have lb := Heap.lt_size q
    show (sortedHeap (s1.heap.push (seqObj "list" vs.toArray 0)) s1.heap.objs.size vs ((arrOf st').map (·.2))).get? b = some u
    (rw [sortedHeap_old (Nat.ne_of_lt lb) (by rw [Heap.size_push]; exact Nat.lt_succ_of_lt lb)]); exact Heap.get?_push_of_some _ q
  · rw [f2.length_eq, ← strs_len hS, hvl]
end
section
variable {X : Cx}
theorem vals_strs : ∀ {xs : List Str} {us : List Value}, Vals (xs.map V.str) us → StrsAre us xs
  | [], _, .nil => .nil
  | x :: xs, _, .cons r t => by
    obtain ⟨k, rfl⟩ := r
    exact .cons x k (vals_strs t)
theorem strs_vals : ∀ {xs : List Str} {us : List Value}, StrsAre us xs → Vals (xs.map V.str) us
  | _, _, .nil => .nil
  | _, _, .cons x k r => .cons ⟨k, rfl⟩ (strs_vals r)
theorem q_sortSet {a : Expr} {fa : T3} {p p2 q pos : Pos} (hc : X.calm = true) (hg : Gl X "sorted") (hm : X.mg "sorted" = none) (hg2 : Gl X "set") (hm2 : X.mg "set" = none) (ha : QE X a fa)
    (na : starEach [a] X.env = (false, eval a X.env) :: starEach [] X.env := by rfl) : QE X (.Call (.Name "sorted" p) [.Call (.Name "set" p2) [a] [] q] [] pos) (xBi cSortSet (aCons fa aNil)) := by
  refine ⟨fun pn s τ H Q I ⟨δ, S, Q3, en, so, h, k⟩ => ?_⟩
  refine Call_ (ld_blt I hg hm (by rfl) (PyProof.Rows.callWith_builtin1 (PyProof.Rows.args_cons ?_ rfl) rfl rfl))
  refine Call_ (ld_blt I hg2 hm2 boot_set ?_); refine PyProof.Rows.callWith_type1 (PyProof.Rows.args_cons (thn (ha.run pn s τ H (fun x H1 => ∃ d S1, Step H S H1 S1 ∧ Rp X.K H1 x d ∧ StoOk X.prog X.w X.K H1 S1 ∧ cSortSet [d] S1 Q3) I
    ⟨δ, S, _, en, so, h, fun x H1 d S1 st r so1 q => ⟨d, S1, st, r, so1, q⟩⟩) fun v s1 ⟨x, H1, I1, r1, d, S1, st, rp, so1, q1⟩ => PyProof.Rows.args_nil ?_) na) na rfl
  obtain ⟨a1, rfl⟩ : ∃ a1, d = .ref a1 := by
    cases d with
    | ref a1 => exact ⟨a1, rfl⟩
    | _ => exact q1.elim
  obtain ⟨xs, h0, few, q2⟩ := q1
  obtain rfl : x = V.ref a1 := by cases rp; rfl
  obtain rfl : v = Value.ref a1 := r1
  obtain ⟨vs, e, rl⟩ := so1 _ _ h0
  rw [rl.strs] at e
  obtain ⟨its, rv, pl, hz⟩ := I1.list (SqL.of e)
  refine call_texts xs (I1.ok.hd hc) pl.isList (by simpa using vals_strs rv) (by omega) fun h' tk D4 m T U hk => ?_
  refine PyProof.Rows.args_nil ?_; have I2 : Inv X pn τ H1 { s1 with heap := h', toks := tk } := I1.kept hk
  have ml := U.few
  refine sorted_texts (s := { s1 with heap := h', toks := tk }) T (I2.ok.hd hc) (by omega) fun s' p' out c ys k2 g o hp at1 hS mem len => ?_
  have hn : H1 p' = none := I2.hok.fresh hp
  have hlen : (ys.map V.str).length ≤ sizeLine := by rw [List.length_map, sizeLine_eq]; omega
  have J : Inv X pn τ (upd H1 p' (.lst (ys.map V.str))) { s1 with heap := s'.heap, gens := s'.gens, drawn := s'.drawn, toks := s'.toks } :=
    Inv.call (s := { s1 with heap := h', toks := tk }) (ch := []) I2 (Un.laid k2 hp hn) (I2.hok.laid k2 hp ⟨hlen, out.toList, c, strs_vals hS, at1⟩) (by rw [g]; exact I2.bare) (fun _ z => nomatch z)
  have es : s' = { s1 with heap := s'.heap, gens := s'.gens, drawn := s'.drawn, toks := s'.toks } := by
    cases s'
    cases s1
    cases o
    rfl
  rw [es]
  refine ⟨.ref p', _, J, rfl, k _ _ _ _ (st.trans (Step.new hn)) (.ref p') (so1.new (u := .lst (ys.map D.str)) hn ⟨_, upd_same, RpA.of_strs⟩) (q2 ys (fun y => ?_) (by omega) p' (so1.fresh hn))⟩
  rw [mem y, U.mem y, List.take_length]
end
end L3
end
section
set_option maxRecDepth 100000
set_option maxHeartbeats 4200000
/-! L3H: defs as the head tells them, calls by name. -/
namespace L3
open L2 PyProof.Rows PySem.Spec PySem
section
variable {X : Cx}
theorem q_m1 {j p pos} : QE X (.UnaryOp .USub (.Constant (.int 1) j p) pos) (xC (.int (-1))) :=
  wkE (pe_un un_neg pe_int) fun σ H Q ⟨δ, S, Q3, en, so, f, k⟩ => ⟨1, rfl, k _ H _ S (Step.refl H S) (.int _) so f⟩
end
section
variable {P : Program} {w : World}
variable {K : PySem.W.Frag} {mg : Str → Option Value} {base : Heap}
/-- a def that may be called: x its name -/
structure Cal (P : Program) (w : World) (K : PySem.W.Frag) (mg : Str → Option Value) (base : Heap) (k : Nat) (x : Str) (ps : List Str) (sp : F3) : Prop where
  ex : ∃ f fd, Fn3 P w K mg base k f fd ps sp ∧ mg x = some (.ref f) ∧ PySem.W.keepIn K (.ref f) = true ∧ Binds K fd ps []
theorem q_callC {X : Cx} {x : Str} {ps : List Str} {sp : F3} {k j : Nat} {p pos : Pos} {e : Expr} {es : List Expr} {fa : A3} (c : Cal X.prog X.w X.K X.mg X.base k x ps sp) (hr : Room j X.A) (hk : k ≤ j) (hgd : X.A.guards = some []) (hg : Gl X x)
    (ha : QA X (e :: es) fa) (hdb : (x == ("__debug__" : Str)) = false := by decide) (he : starEach (e :: es) X.env = (false, eval e X.env) :: starEach es X.env := by rfl) (hpl : (backTo pos (starEach es X.env)).any (·.1) = false := by rfl) :
    QE X (.Call (.Name x p) (e :: es) [] pos) (xCall sp fa) := by
  obtain ⟨f, fd, G, hm, kp, hb⟩ := c.ex
  exact q_call G (hr.mono hk) hgd hg hm kp hb ha hdb he hpl
theorem q_callC0 {X : Cx} {x : Str} {ps : List Str} {sp : F3} {k j : Nat} {p pos : Pos} (c : Cal X.prog X.w X.K X.mg X.base k x ps sp) (hr : Room j X.A) (hk : k ≤ j) (hgd : X.A.guards = some []) (hg : Gl X x)
    (hdb : (x == ("__debug__" : Str)) = false := by decide) : QE X (.Call (.Name x p) [] [] pos) (xCall sp aNil) := by
  obtain ⟨f, fd, G, hm, kp, hb⟩ := c.ex
  exact q_call0 G (hr.mono hk) hgd hg hm kp hb hdb
/-- a def by its body, as the head tells it -/
theorem fn3D {x qual : Str} {params : Arguments} {bdy : List Stmt} {scope : Scope} {f : Addr} {fd : FuncData} {N ps : List Str} {k : Nat} {sp : F3} {body : S3} (F : FunD K x qual params bdy scope [] [] f fd) (C : FnScope N ps scope) (keeps : Keeps N.length ps.length body sp)
    (hbody : ∀ (cdv : Value) (A : Around) (outer : List Env) (s : Shared) (H : Hp), Room k (A.deeper (envOfC qual scope s.heap.objs.size f cdv)) → (A.deeper (envOfC qual scope s.heap.objs.size f cdv)).guards = some [] →
      QSs (cxOf CX0 P w K mg base N qual scope f cdv A outer s H E0).nox bdy body) : Fn3 P w K mg base (k + 1) f fd ps sp := by
  obtain ⟨oc, od, dV, kV, doc, pm, an, cdv, ct, osl, rfl, lk, hcd, _, _⟩ := F.ex; refine ⟨keeps.1, fun A outer s H args us vs Q hr hgd e0 hb r hsp => ?_⟩
  obtain ⟨ds, S0, Q3, ra, so, h3, kk⟩ := hsp
  have hl : vs.length = ps.length := by rw [ra.length]; exact keeps.1 _ _ _ h3
  have old : ∀ b o, base.get? b = some o → s.heap.get? b = some o := fun b o e => (e0.bs b o e).1
  have KX : K.In s.heap := e0.mod.kin.keeps old
  have kinds : ∀ y ∈ ps.zip us, scope.names.lookup y.1 = some .local ∨ (scope.names.lookup y.1 = some .cell ∧ ((cellsFrom (s.heap.objs.size + 1) scope.names []).lookup y.1).isSome = true) := by
    rintro ⟨n, v⟩ hy
    rcases C.par n (List.of_mem_zip hy).1 with e | e
    · exact .inl e
    · exact .inr ⟨e, PySem.W.cellsFrom_some _ _ _ (.inl e)⟩
  refine codeAny_call_function hr.depth (KX _ _ lk) rfl C.co C.gen rfl (PySem.W.codeRec_of KX hcd) (hb _ _ _ _ ?_)
  refine wpAny_newFunctionEnv_cells C.kind kinds fun env he s1 y => ?_
  subst he
  have lim : s.heap.NoLimit := e0.mod.nolimit.keeps old
  refine ⟨lim.keeps y.toInCall.keep, codeAny_func ?_⟩
  have hq := (hbody cdv A outer s H (hr.deeper _) hgd).nox
  have I := inv_start (CX := CX0) (P := P) (w := w) (K := K) (mg := mg) (base := base) (N := N) (qual := qual) (f := f) (cd := cdv) (E := E0) C hr.hd e0 hl r y
  have fin : ∀ {σ' : St} {H' : Hp} {v : V} {u : Value} {s' : Shared}, Inv (cxOf CX0 P w K mg base N qual scope f cdv A outer s H E0) [] σ' H' s' → RelV v u → Q v H' → CE outer P w H s Q u s' :=
    fun {σ' H' v u s'} J rv q => ⟨v, H', J.os, J.bare, J.base, J.hok, rv, q⟩
  refine wpAny_mono (hq.run [] s1 (L2.start N vs) H { nx := fun _ H' => Q .non H', rt := Q } I ⟨L3.start N.length ds, S0, _, start_env ra, so, keeps.2 _ _ _ h3, ?_, ?_⟩) (fun fl s' hs => ?_) fun e s' hs => hs
  · rintro σ' H' δ' S' st _ s' ⟨S'', sub, q⟩
    exact kk .non H' .non S'' (st.sub sub) .non (s'.sub sub) q
  · rintro v H' d S' st rv s' ⟨S'', sub, q⟩
    exact kk v H' d S'' (st.sub sub) (rv) (s'.sub sub) q
  · cases fl with
    | ret u =>
      obtain ⟨v, σ', H', J, rv, q⟩ := hs; exact fin J rv q
    | next =>
      obtain ⟨σ', H', J, q⟩ := hs; exact fin (v := V.non) (u := Value.none) J rfl q
    | brk =>
      obtain ⟨_, _, _, q⟩ := hs
      exact False.elim q
    | cont =>
      obtain ⟨_, _, _, q⟩ := hs
      exact False.elim q
/-- a def that the head tells, by its Keeps -/
theorem calD {x : Str} {params : Arguments} {bdy : List Stmt} {scope : Scope} {f : Addr} {fd : FuncData} {ps : List Str} {k : Nat} {sp : F3} (F : FunD K x x params bdy scope [] [] f fd) (hm : mg x = some (.ref f)) (G : Fn3 P w K mg base k f fd ps sp) (hb : Binds K fd ps []) :
    Cal P w K mg base k x ps sp := ⟨f, fd, G, hm, F.kp, hb⟩
end
end L3
end
section
/-! L3Body: the defs' bodies as readings. Printed by gen_walk.py. -/
namespace L3
open PySem
/-- end_of(lines, k); names: 0 lines, 1 k, 2 deep, 3 at -/
def b_end_of : S3 := (sSeq (sAsg (xC (.int 0)) (gN 2)) (sSeq (sAsg (xOp rAdd (xVar 1) (xC (.int 1))) (gN 3)) (sSeq (sWhile (bOr (bT (xOp rGt (xVar 2) (xC (.int 0)))) (bT (xOp (rEq true) (xOp rIx (xOp rIx (xVar 0) (xVar 3)) (xC (.int 0))) (xC (.str "end"))))) (sSeq (sIf (bT (xOp (rIn false) (xOp rIx (xOp rIx (xVar 0) (xVar 3)) (xC (.int 0))) (xC (.tup [.str "either", .str "again"])))) (sAsg (xOp rAdd (xVar 2) (xC (.int 1))) (gN 2)) (sIf (bT (xOp (rEq false) (xOp rIx (xOp rIx (xVar 0) (xVar 3)) (xC (.int 0))) (xC (.str "end")))) (sAsg (xOp rSub (xVar 2) (xC (.int 1))) (gN 2)) sNil)) (sAsg (xOp rAdd (xVar 3) (xC (.int 1))) (gN 3)))) (sRet (xVar 3)))))
/-- or_of(lines, k); names: 0 lines, 1 k, 2 deep, 3 at -/
def b_or_of : S3 := (sSeq (sAsg (xC (.int 0)) (gN 2)) (sSeq (sAsg (xOp rAdd (xVar 1) (xC (.int 1))) (gN 3)) (sSeq (sWhile (bOr (bT (xOp rGt (xVar 2) (xC (.int 0)))) (bT (xOp (rEq true) (xOp rIx (xOp rIx (xVar 0) (xVar 3)) (xC (.int 0))) (xC (.str "or"))))) (sSeq (sIf (bT (xOp (rIn false) (xOp rIx (xOp rIx (xVar 0) (xVar 3)) (xC (.int 0))) (xC (.tup [.str "either", .str "again"])))) (sAsg (xOp rAdd (xVar 2) (xC (.int 1))) (gN 2)) (sIf (bT (xOp (rEq false) (xOp rIx (xOp rIx (xVar 0) (xVar 3)) (xC (.int 0))) (xC (.str "end")))) (sAsg (xOp rSub (xVar 2) (xC (.int 1))) (gN 2)) sNil)) (sAsg (xOp rAdd (xVar 3) (xC (.int 1))) (gN 3)))) (sRet (xVar 3)))))
/-- head_of(lines, k); names: 0 lines, 1 k, 2 deep, 3 at -/
def b_head_of : S3 := (sSeq (sAsg (xC (.int 0)) (gN 2)) (sSeq (sAsg (xOp rSub (xVar 1) (xC (.int 1))) (gN 3)) (sSeq (sWhile (bOr (bT (xOp rGt (xVar 2) (xC (.int 0)))) (bT (xOp (rIn true) (xOp rIx (xOp rIx (xVar 0) (xVar 3)) (xC (.int 0))) (xC (.tup [.str "either", .str "again"]))))) (sSeq (sIf (bT (xOp (rEq false) (xOp rIx (xOp rIx (xVar 0) (xVar 3)) (xC (.int 0))) (xC (.str "end")))) (sAsg (xOp rAdd (xVar 2) (xC (.int 1))) (gN 2)) (sIf (bT (xOp (rIn false) (xOp rIx (xOp rIx (xVar 0) (xVar 3)) (xC (.int 0))) (xC (.tup [.str "either", .str "again"])))) (sAsg (xOp rSub (xVar 2) (xC (.int 1))) (gN 2)) sNil)) (sAsg (xOp rSub (xVar 3) (xC (.int 1))) (gN 3)))) (sRet (xVar 3)))))
/-- number_of(program, name); names: 0 program, 1 name, 2 number, 3 part -/
def b_number_of : S3 := (sSeq (sFor (iBi jEnum (aCons (xVar 0) aNil)) (gTup 2 (gCons (gN 2) (gCons (gN 3) gNil))) (sIf (bT (xOp (rEq false) (xOp rIx (xVar 3) (xC (.int 0))) (xVar 1))) (sRet (xVar 2)) sNil)) (sRet (xC .non)))
/-- all_lines(program); names: 0 program, 1 found, 2 part -/
def b_all_lines : S3 := (sSeq (sAsg (xLst aNil) (gN 1)) (sSeq (sFor (iSeq (xVar 0)) (gN 2) (sDrop (xMth mExtend (xVar 1) (xOp rIx (xVar 2) (xC (.int 1)))))) (sRet (xVar 1))))
/-- words_of(program); names: 0 program, 1 found, 2 line -/
def b_words_of (all_lines : F3) : S3 := (sSeq (sAsg xDK (gN 1)) (sSeq (sFor (iSeq (xCall all_lines (aCons (xVar 0) aNil))) (gN 2) (sIf (bT (xOp (rEq false) (xOp rIx (xVar 2) (xC (.int 0))) (xC (.str "pair")))) (sAsg (xC (.bl true)) (gSubK (xVar 1) (xOp rIx (xVar 2) (xC (.int 2))))) sNil)) (sRet (xBi cSortK (aCons (xVar 1) aNil)))))
/-- first_spot(); names:  -/
def b_first_spot : S3 := (sRet (xTup (aCons (xTup aNil) (aCons (xC (.int 0)) (aCons (xC (.int 0)) (aCons (xC (.bl false)) aNil))))))
/-- place_of(spot); names: 0 spot -/
def b_place_of : S3 := (sSeq (sIf (bT (xOp rIx (xVar 0) (xC (.int 3)))) (sRet (xC .non)) sNil) (sRet (xTup (aCons (xOp rIx (xVar 0) (xC (.int 1))) (aCons (xOp rIx (xVar 0) (xC (.int 2))) aNil)))))
/-- line_of(program, spot); names: 0 program, 1 spot, 2 lines -/
def b_line_of : S3 := (sSeq (sAsg (xOp rIx (xOp rIx (xVar 0) (xOp rIx (xVar 1) (xC (.int 1)))) (xC (.int 1))) (gN 2)) (sSeq (sIf (bOr (bT (xOp rIx (xVar 1) (xC (.int 3)))) (bT (xOp (rEq false) (xOp rIx (xVar 1) (xC (.int 2))) (xBi cLen (aCons (xVar 2) aNil))))) (sRet (xC .non)) sNil) (sRet (xOp rIx (xVar 2) (xOp rIx (xVar 1) (xC (.int 2)))))))
/-- behind_part(way); names: 0 way, 1 part, 2 k -/
def b_behind_part : S3 := (sSeq (sIf (bT (xOp (rEq false) (xVar 0) (xTup aNil))) (sRet (xLst aNil)) sNil) (sSeq (sAsg (xOp rIx (xVar 0) (xC (.int (-1)))) (gTup 2 (gCons (gN 1) (gCons (gN 2) gNil)))) (sRet (xLst (aCons (xTup (aCons (xSl (xVar 0) oNone (oSome (xC (.int (-1))))) (aCons (xVar 1) (aCons (xOp rAdd (xVar 2) (xC (.int 1))) (aCons (xC (.bl false)) aNil))))) aNil)))))
/-- behind_end(way, part, lines, k); names: 0 way, 1 part, 2 lines, 3 k, 4 head -/
def b_behind_end (head_of : F3) : S3 := (sSeq (sAsg (xCall head_of (aCons (xVar 2) (aCons (xVar 3) aNil))) (gN 4)) (sSeq (sIf (bT (xOp (rEq false) (xOp rIx (xOp rIx (xVar 2) (xVar 4)) (xC (.int 0))) (xC (.str "again")))) (sRet (xLst (aCons (xTup (aCons (xVar 0) (aCons (xVar 1) (aCons (xVar 4) (aCons (xC (.bl true)) aNil))))) aNil))) sNil) (sRet (xLst (aCons (xTup (aCons (xVar 0) (aCons (xVar 1) (aCons (xOp rAdd (xVar 3) (xC (.int 1))) (aCons (xC (.bl false)) aNil))))) aNil)))))
/-- next_spots(program, spot); names: 0 program, 1 spot, 2 way, 3 part, 4 k, 5 head, 6 lines, 7 word -/
def b_next_spots (behind_part : F3) (behind_end : F3) (number_of : F3) (end_of : F3) (or_of : F3) : S3 := (sSeq (sAsg (xVar 1) (gTup 4 (gCons (gN 2) (gCons (gN 3) (gCons (gN 4) (gCons (gN 5) gNil)))))) (sSeq (sAsg (xOp rIx (xOp rIx (xVar 0) (xVar 3)) (xC (.int 1))) (gN 6)) (sSeq (sIf (bT (xVar 5)) (sRet (xLst (aCons (xTup (aCons (xVar 2) (aCons (xVar 3) (aCons (xOp rAdd (xCall end_of (aCons (xVar 6) (aCons (xVar 4) aNil))) (xC (.int 1))) (aCons (xC (.bl false)) aNil))))) (aCons (xTup (aCons (xVar 2) (aCons (xVar 3) (aCons (xOp rAdd (xVar 4) (xC (.int 1))) (aCons (xC (.bl false)) aNil))))) aNil)))) sNil) (sSeq (sIf (bT (xOp (rEq false) (xVar 4) (xBi cLen (aCons (xVar 6) aNil)))) (sRet (xCall behind_part (aCons (xVar 2) aNil))) sNil) (sSeq (sAsg (xOp rIx (xOp rIx (xVar 6) (xVar 4)) (xC (.int 0))) (gN 7)) (sSeq (sIf (bT (xOp (rEq false) (xVar 7) (xC (.str "either")))) (sRet (xLst (aCons (xTup (aCons (xVar 2) (aCons (xVar 3) (aCons (xOp rAdd (xVar 4) (xC (.int 1))) (aCons (xC (.bl false)) aNil))))) (aCons (xTup (aCons (xVar 2) (aCons (xVar 3) (aCons (xOp rAdd (xCall or_of (aCons (xVar 6) (aCons (xVar 4) aNil))) (xC (.int 1))) (aCons (xC (.bl false)) aNil))))) aNil)))) sNil) (sSeq (sIf (bT (xOp (rEq false) (xVar 7) (xC (.str "or")))) (sRet (xLst (aCons (xTup (aCons (xVar 2) (aCons (xVar 3) (aCons (xOp rAdd (xCall end_of (aCons (xVar 6) (aCons (xVar 4) aNil))) (xC (.int 1))) (aCons (xC (.bl false)) aNil))))) aNil))) sNil) (sSeq (sIf (bT (xOp (rEq false) (xVar 7) (xC (.str "again")))) (sRet (xLst (aCons (xTup (aCons (xVar 2) (aCons (xVar 3) (aCons (xVar 4) (aCons (xC (.bl true)) aNil))))) aNil))) sNil) (sSeq (sIf (bT (xOp (rEq false) (xVar 7) (xC (.str "end")))) (sRet (xCall behind_end (aCons (xVar 2) (aCons (xVar 3) (aCons (xVar 6) (aCons (xVar 4) aNil)))))) sNil) (sSeq (sIf (bT (xOp (rEq false) (xVar 7) (xC (.str "do")))) (sRet (xLst (aCons (xTup (aCons (xOp rAdd (xVar 2) (xTup (aCons (xTup (aCons (xVar 3) (aCons (xVar 4) aNil))) aNil))) (aCons (xCall number_of (aCons (xVar 0) (aCons (xOp rIx (xOp rIx (xVar 6) (xVar 4)) (xC (.int 1))) aNil))) (aCons (xC (.int 0)) (aCons (xC (.bl false)) aNil))))) aNil))) sNil) (sRet (xLst (aCons (xTup (aCons (xVar 2) (aCons (xVar 3) (aCons (xOp rAdd (xVar 4) (xC (.int 1))) (aCons (xC (.bl false)) aNil))))) aNil)))))))))))))
/-- spots(program); names: 0 program, 1 found, 2 met, 3 waiting, 4 spot, 5 other -/
def b_spots (first_spot : F3) (next_spots : F3) : S3 := (sSeq (sAsg (xLst aNil) (gN 1)) (sSeq (sAsg xDT (gN 2)) (sSeq (sAsg (xLst (aCons (xCall first_spot aNil) aNil)) (gN 3)) (sSeq (sWhile (bT (xOp (rEq true) (xVar 3) (xLst aNil))) (sSeq (sAsg (xM0 mPop (xVar 3)) (gN 4)) (sIf (bT (xOp (rInT true) (xVar 4) (xVar 2))) (sSeq (sAsg (xC (.bl true)) (gSubT (xVar 2) (xVar 4))) (sSeq (sDrop (xMth mAppend (xVar 1) (xVar 4))) (sFor (iBi jRev (aCons (xCall next_spots (aCons (xVar 0) (aCons (xVar 4) aNil))) aNil)) (gN 5) (sDrop (xMth mAppend (xVar 3) (xVar 5)))))) sNil))) (sRet (xVar 1))))))
/-- given_at(manner, spot); names: 0 manner, 1 spot, 2 place, 3 word, 4 there -/
def b_given_at (place_of : F3) : S3 := (sSeq (sAsg (xCall place_of (aCons (xVar 1) aNil)) (gN 2)) (sRet (xLc (iSeq (xVar 0)) [3, 4] (gTup 2 (gCons (gN 3) (gCons (gN 4) gNil))) (bT (xOp (rEq false) (xVar 4) (xVar 2))) (xVar 3))))
/-- made_at(program, spot); names: 0 program, 1 spot, 2 line -/
def b_made_at (line_of : F3) : S3 := (sSeq (sAsg (xCall line_of (aCons (xVar 0) (aCons (xVar 1) aNil))) (gN 2)) (sSeq (sIf (bOr (bT (xIsN false (xVar 2))) (bT (xOp (rEq true) (xOp rIx (xVar 2) (xC (.int 0))) (xC (.str "pair"))))) (sRet (xC .non)) sNil) (sRet (xOp rIx (xVar 2) (xC (.int 2))))))
/-- spots_ahead(program); names: 0 program, 1 found, 2 spot, 3 other -/
def b_spots_ahead (spots : F3) (next_spots : F3) : S3 := (sSeq (sAsg xDT (gN 1)) (sSeq (sFor (iSeq (xCall spots (aCons (xVar 0) aNil))) (gN 2) (sAsg (xLst aNil) (gSubT (xVar 1) (xVar 2)))) (sSeq (sFor (iSeq (xBi cListT (aCons (xVar 1) aNil))) (gN 2) (sFor (iSeq (xCall next_spots (aCons (xVar 0) (aCons (xVar 2) aNil)))) (gN 3) (sDrop (xMth mAppend (xOp rKey (xVar 1) (xVar 3)) (xVar 2))))) (sRet (xVar 1)))))
/-- givings(program, manner); names: 0 program, 1 manner, 2 found, 3 spot -/
def b_givings (spots : F3) (given_at : F3) : S3 := (sSeq (sAsg xDT (gN 2)) (sSeq (sFor (iSeq (xCall spots (aCons (xVar 0) aNil))) (gN 3) (sAsg (xCall given_at (aCons (xVar 1) (aCons (xVar 3) aNil))) (gSubT (xVar 2) (xVar 3)))) (sRet (xVar 2))))
/-- rests(program, gone, ahead, entry); names: 0 program, 1 gone, 2 ahead, 3 entry, 4 spot, 5 words, 6 found, 7 other, 8 left, 9 word -/
def b_rests (made_at : F3) : S3 := (sSeq (sAsg (xVar 3) (gTup 2 (gCons (gN 4) (gCons (gN 5) gNil)))) (sSeq (sAsg (xLst aNil) (gN 6)) (sSeq (sFor (iSeq (xOp rKey (xVar 2) (xVar 4))) (gN 7) (sSeq (sAsg (xBi cTuple (aCons (xLc (iSeq (xVar 5)) [9] (gN 9) (bT (xOp (rIn true) (xVar 9) (xOp rKey (xVar 1) (xVar 7)))) (xVar 9)) aNil)) (gN 8)) (sDrop (xMth mAppend (xVar 6) (xTup (aCons (xTup (aCons (xVar 7) (aCons (xVar 8) aNil))) (aCons (xBi cInt (aCons (xOp (rIn false) (xCall made_at (aCons (xVar 0) (aCons (xVar 7) aNil))) (xVar 5)) aNil)) aNil))))))) (sRet (xVar 6)))))
/-- makings(program, word); names: 0 program, 1 word, 2 found, 3 spot, 4 line -/
def b_makings (spots : F3) (line_of : F3) : S3 := (sSeq (sAsg (xLst aNil) (gN 2)) (sSeq (sFor (iSeq (xCall spots (aCons (xVar 0) aNil))) (gN 3) (sSeq (sAsg (xCall line_of (aCons (xVar 0) (aCons (xVar 3) aNil))) (gN 4)) (sIf (bAnd (bT (xIsN true (xVar 4))) (bAnd (bT (xOp (rEq false) (xOp rIx (xVar 4) (xC (.int 0))) (xC (.str "pair")))) (bT (xOp (rEq false) (xOp rIx (xVar 4) (xC (.int 2))) (xVar 1))))) (sDrop (xMth mAppend (xVar 2) (xVar 3))) sNil))) (sRet (xVar 2))))
/-- spots_at(program, places); names: 0 program, 1 places, 2 spot -/
def b_spots_at (spots : F3) (place_of : F3) : S3 := (sRet (xLc (iSeq (xCall spots (aCons (xVar 0) aNil))) [2] (gN 2) (bT (xOp (rIn false) (xCall place_of (aCons (xVar 2) aNil)) (xVar 1))) (xVar 2)))
/-- way_back(came, spot); names: 0 came, 1 spot, 2 row -/
def b_way_back : S3 := (sSeq (sAsg (xLst aNil) (gN 2)) (sSeq (sWhile (bT (xIsN true (xVar 1))) (sSeq (sDrop (xMth mAppend (xVar 2) (xVar 1))) (sAsg (xOp rKey (xVar 0) (xVar 1)) (gN 1)))) (sSeq (sDrop (xM0 mReverse (xVar 2))) (sRet (xVar 2)))))
/-- road(program, starts, goals, barred); names: 0 program, 1 starts, 2 goals, 3 barred, 4 came, 5 row, 6 spot, 7 at, 8 other -/
def b_road (way_back : F3) (next_spots : F3) : S3 := (sSeq (sAsg xDT (gN 4)) (sSeq (sAsg (xLst aNil) (gN 5)) (sSeq (sFor (iSeq (xVar 1)) (gN 6) (sIf (bT (xOp (rInT true) (xVar 6) (xVar 4))) (sSeq (sAsg (xC .non) (gSubT (xVar 4) (xVar 6))) (sDrop (xMth mAppend (xVar 5) (xVar 6)))) sNil)) (sSeq (sAsg (xC (.int 0)) (gN 7)) (sSeq (sWhile (bT (xOp rLt (xVar 7) (xBi cLen (aCons (xVar 5) aNil)))) (sSeq (sAsg (xOp rIx (xVar 5) (xVar 7)) (gN 6)) (sSeq (sAsg (xOp rAdd (xVar 7) (xC (.int 1))) (gN 7)) (sSeq (sIf (bT (xOp (rIn false) (xVar 6) (xVar 2))) (sRet (xCall way_back (aCons (xVar 4) (aCons (xVar 6) aNil)))) sNil) (sIf (bT (xOp (rIn true) (xVar 6) (xVar 3))) (sFor (iSeq (xCall next_spots (aCons (xVar 0) (aCons (xVar 6) aNil)))) (gN 8) (sIf (bT (xOp (rInT true) (xVar 8) (xVar 4))) (sSeq (sAsg (xVar 6) (gSubT (xVar 4) (xVar 8))) (sDrop (xMth mAppend (xVar 5) (xVar 8)))) sNil)) sNil))))) (sRet (xC .non)))))))
/-- run_to(program, spot); names: 0 program, 1 spot -/
def b_run_to (road : F3) (first_spot : F3) : S3 := (sRet (xCall road (aCons (xVar 0) (aCons (xLst (aCons (xCall first_spot aNil) aNil)) (aCons (xLst (aCons (xVar 1) aNil)) (aCons (xLst aNil) aNil))))))
/-- growing_round(program, manner, word); names: 0 program, 1 manner, 2 word, 3 barred, 4 spot, 5 found, 6 other, 7 place -/
def b_growing_round (spots_at : F3) (makings : F3) (road : F3) (next_spots : F3) : S3 := (sSeq (sAsg (xCall spots_at (aCons (xVar 0) (aCons (xLc (iSeq (xVar 1)) [6, 7] (gTup 2 (gCons (gN 6) (gCons (gN 7) gNil))) (bT (xOp (rEq false) (xVar 6) (xVar 2))) (xVar 7)) aNil))) (gN 3)) (sSeq (sFor (iSeq (xCall makings (aCons (xVar 0) (aCons (xVar 2) aNil)))) (gN 4) (sIf (bT (xOp (rIn true) (xVar 4) (xVar 3))) (sSeq (sAsg (xCall road (aCons (xVar 0) (aCons (xCall next_spots (aCons (xVar 0) (aCons (xVar 4) aNil))) (aCons (xLst (aCons (xVar 4) aNil)) (aCons (xVar 3) aNil))))) (gN 5)) (sIf (bT (xIsN true (xVar 5))) (sRet (xOp rAdd (xLst (aCons (xVar 4) aNil)) (xVar 5))) sNil)) sNil)) (sRet (xC .non))))
/-- wanted_entries(program, manner); names: 0 program, 1 manner, 2 ahead, 3 gone, 4 words, 5 rows, 6 waiting, 7 entry, 8 spot, 9 one, 10 more -/
def b_wanted_entries (spots_ahead : F3) (givings : F3) (words_of : F3) (rests : F3) : S3 := (sSeq (sAsg (xCall spots_ahead (aCons (xVar 0) aNil)) (gN 2)) (sSeq (sAsg (xCall givings (aCons (xVar 0) (aCons (xVar 1) aNil))) (gN 3)) (sSeq (sAsg (xBi cTuple (aCons (xCall words_of (aCons (xVar 0) aNil)) aNil)) (gN 4)) (sSeq (sAsg xDT (gN 5)) (sSeq (sLock 2 (sAsg (xLc (iLk 2) [8] (gN 8) bYes (xTup (aCons (xVar 8) (aCons (xVar 4) aNil)))) (gN 6))) (sSeq (sWhile (bT (xOp (rEq true) (xVar 6) (xLst aNil))) (sSeq (sAsg (xM0 mPop (xVar 6)) (gN 7)) (sIf (bT (xOp (rInT true) (xVar 7) (xVar 5))) (sSeq (sAsg (xCall rests (aCons (xVar 0) (aCons (xVar 3) (aCons (xVar 2) (aCons (xVar 7) aNil))))) (gSubT (xVar 5) (xVar 7))) (sDrop (xMth mExtend (xVar 6) (xLc (iSeq (xOp rKey (xVar 5) (xVar 7))) [9, 10] (gTup 2 (gCons (gN 9) (gCons (gN 10) gNil))) bYes (xVar 9))))) sNil))) (sRet (xVar 5))))))))
/-- bettered(rows); names: 0 rows, 1 numbers, 2 came, 3 entry, 4 changed, 5 one, 6 more -/
def b_bettered : S3 := (sSeq (sAsg xDT (gN 1)) (sSeq (sAsg xDT (gN 2)) (sSeq (sLock 0 (sFor (iLk 0) (gN 3) (sSeq (sAsg (xC (.int 0)) (gSubT (xVar 1) (xVar 3))) (sAsg (xC .non) (gSubT (xVar 2) (xVar 3)))))) (sSeq (sAsg (xC (.bl true)) (gN 4)) (sSeq (sWhile (bT (xVar 4)) (sSeq (sAsg (xC (.bl false)) (gN 4)) (sFor (iBi jRev (aCons (xBi cListT (aCons (xVar 0) aNil)) aNil)) (gN 3) (sFor (iSeq (xOp rKey (xVar 0) (xVar 3))) (gTup 2 (gCons (gN 5) (gCons (gN 6) gNil))) (sIf (bT (xOp rGt (xOp rAdd (xOp rKey (xVar 1) (xVar 5)) (xVar 6)) (xOp rKey (xVar 1) (xVar 3)))) (sSeq (sAsg (xOp rAdd (xOp rKey (xVar 1) (xVar 5)) (xVar 6)) (gSubT (xVar 1) (xVar 3))) (sSeq (sAsg (xVar 5) (gSubT (xVar 2) (xVar 3))) (sAsg (xC (.bl true)) (gN 4)))) sNil))))) (sRet (xTup (aCons (xVar 1) (aCons (xVar 2) aNil)))))))))
/-- run_back(program, came, entry); names: 0 program, 1 came, 2 entry, 3 row -/
def b_run_back (run_to : F3) : S3 := (sSeq (sAsg (xLst aNil) (gN 3)) (sSeq (sWhile (bT (xIsN true (xVar 2))) (sSeq (sDrop (xMth mAppend (xVar 3) (xOp rIx (xVar 2) (xC (.int 0))))) (sAsg (xOp rKey (xVar 1) (xVar 2)) (gN 2)))) (sSeq (sDrop (xM0 mReverse (xVar 3))) (sRet (xOp rAdd (xSl (xCall run_to (aCons (xVar 0) (aCons (xOp rIx (xVar 3) (xC (.int 0))) aNil))) oNone (oSome (xC (.int (-1))))) (xVar 3))))))
/-- table_of(program, numbers); names: 0 program, 1 numbers, 2 places, 3 n, 4 spot, 5 words -/
def b_table_of (spots : F3) : S3 := (sSeq (sAsg xDT (gN 2)) (sSeq (sFor (iBi jEnum (aCons (xCall spots (aCons (xVar 0) aNil)) aNil)) (gTup 2 (gCons (gN 3) (gCons (gN 4) gNil))) (sAsg (xVar 3) (gSubT (xVar 2) (xVar 4)))) (sLock 1 (sRet (xBi cSortRows (aCons (xLc (iLk 1) [4, 5] (gTup 2 (gCons (gN 4) (gCons (gN 5) gNil))) bYes (xTup (aCons (xOp rKey (xVar 2) (xVar 4)) (aCons (xVar 5) (aCons (xOp rKey (xVar 1) (xTup (aCons (xVar 4) (aCons (xVar 5) aNil)))) aNil))))) aNil))))))
/-- most(program, manner); names: 0 program, 1 manner, 2 word, 3 found, 4 numbers, 5 came, 6 words, 7 best, 8 spot -/
def b_most (words_of : F3) (bettered : F3) (spots : F3) (growing_round : F3) (wanted_entries : F3) (first_spot : F3) (run_back : F3) (table_of : F3) (run_to : F3) : S3 := (sSeq (sFor (iSeq (xCall words_of (aCons (xVar 0) aNil))) (gN 2) (sSeq (sAsg (xCall growing_round (aCons (xVar 0) (aCons (xVar 1) (aCons (xVar 2) aNil)))) (gN 3)) (sIf (bT (xIsN true (xVar 3))) (sRet (xTup (aCons (xC (.str "grows")) (aCons (xVar 2) (aCons (xCall run_to (aCons (xVar 0) (aCons (xOp rIx (xVar 3) (xC (.int 0))) aNil))) (aCons (xVar 3) aNil)))))) sNil))) (sSeq (sAsg (xCall bettered (aCons (xCall wanted_entries (aCons (xVar 0) (aCons (xVar 1) aNil))) aNil)) (gTup 2 (gCons (gN 4) (gCons (gN 5) gNil)))) (sSeq (sAsg (xBi cTuple (aCons (xCall words_of (aCons (xVar 0) aNil)) aNil)) (gN 6)) (sSeq (sAsg (xTup (aCons (xCall first_spot aNil) (aCons (xVar 6) aNil))) (gN 7)) (sSeq (sFor (iSeq (xCall spots (aCons (xVar 0) aNil))) (gN 8) (sIf (bT (xOp rGt (xOp rKey (xVar 4) (xTup (aCons (xVar 8) (aCons (xVar 6) aNil)))) (xOp rKey (xVar 4) (xVar 7)))) (sAsg (xTup (aCons (xVar 8) (aCons (xVar 6) aNil))) (gN 7)) sNil)) (sRet (xTup (aCons (xC (.str "most")) (aCons (xOp rKey (xVar 4) (xVar 7)) (aCons (xCall run_back (aCons (xVar 0) (aCons (xVar 5) (aCons (xVar 7) aNil)))) (aCons (xCall table_of (aCons (xVar 0) (aCons (xVar 4) aNil))) aNil)))))))))))
/-- _law_feed(script, k); names: 0 script, 1 k, 2 cell, 3 digits -/
def b_law_feed : S3 := (sSeq (sAsg (xC (.int 0)) (gN 2)) (sSeq (sIf (bT (xOp rLt (xVar 1) (xBi cLen (aCons (xVar 0) aNil)))) (sAsg (xOp rIx (xVar 0) (xVar 1)) (gN 2)) sNil) (sSeq (sAsg (xC (.int 0)) (gN 3)) (sSeq (sIf (bT (xOp rGe (xVar 2) (xOp rPow (xC (.int 10)) (xC (.int 18))))) (sAsg (xOp rSub (xVar 2) (xOp rPow (xC (.int 10)) (xC (.int 18)))) (gN 3)) sNil) (sRet (xLst (aCons (xVar 3) (aCons (xOp rAdd (xOp rMod (xOp rMul (xOp rMod (xVar 2) (xC (.int 2147483647))) (xC (.int 48271))) (xC (.int 2147483647))) (xVar 1)) aNil))))))))
/-- _law_take(feed, many); names: 0 feed, 1 many, 2 found -/
def b_law_take : S3 := (sSeq (sIf (bT (xOp rGt (xOp rIx (xVar 0) (xC (.int 0))) (xC (.int 0)))) (sSeq (sAsg (xOp rMod (xOp rIx (xVar 0) (xC (.int 0))) (xVar 1)) (gN 2)) (sSeq (sAsg (xOp rDiv (xOp rIx (xVar 0) (xC (.int 0))) (xVar 1)) (gSubL (xVar 0) (xC (.int 0)))) (sRet (xVar 2)))) sNil) (sSeq (sAsg (xOp rMod (xOp rAdd (xOp rMul (xOp rIx (xVar 0) (xC (.int 1))) (xC (.int 69621))) (xC (.int 12345))) (xC (.int 2147483647))) (gSubL (xVar 0) (xC (.int 1)))) (sRet (xOp rMod (xOp rDiv (xOp rIx (xVar 0) (xC (.int 1))) (xC (.int 8191))) (xVar 1)))))
/-- _law_names(feed, many); names: 0 feed, 1 many, 2 letters, 3 filler, 4 first, 5 step, 6 size, 7 place, 8 back, 9 k -/
def b_law_names (law_take : F3) : S3 := (sSeq (sAsg (xC (.str "abcdefghijklmnopqrstuvwxyz")) (gN 2)) (sSeq (sAsg (xOp rIx (xVar 2) (xCall law_take (aCons (xVar 0) (aCons (xC (.int 26)) aNil)))) (gN 3)) (sSeq (sIf (bT (xOp (rEq false) (xCall law_take (aCons (xVar 0) (aCons (xC (.int 3)) aNil))) (xC (.int 0)))) (sRet (xLc (iBi jRange1 (aCons (xVar 1) aNil)) [9] (gN 9) bYes (xOp rMul (xVar 3) (xOp rAdd (xVar 9) (xC (.int 1)))))) sNil) (sSeq (sAsg (xCall law_take (aCons (xVar 0) (aCons (xC (.int 26)) aNil))) (gN 4)) (sSeq (sAsg (xOp rIx (xLst (aCons (xC (.int 1)) (aCons (xC (.int 3)) (aCons (xC (.int 5)) (aCons (xC (.int 7)) (aCons (xC (.int 9)) (aCons (xC (.int 11)) aNil))))))) (xCall law_take (aCons (xVar 0) (aCons (xC (.int 6)) aNil)))) (gN 5)) (sSeq (sAsg (xOp rIx (xLst (aCons (xC (.int 1)) (aCons (xC (.int 3)) (aCons (xC (.int 4)) (aCons (xC (.int 5)) (aCons (xC (.int 6)) (aCons (xC (.int 7)) (aCons (xC (.int 8)) (aCons (xC (.int 1)) aNil))))))))) (xCall law_take (aCons (xVar 0) (aCons (xC (.int 8)) aNil)))) (gN 6)) (sSeq (sAsg (xCall law_take (aCons (xVar 0) (aCons (xVar 6) aNil))) (gN 7)) (sSeq (sAsg (xOp rMul (xVar 3) (xOp rSub (xOp rSub (xVar 6) (xC (.int 1))) (xVar 7))) (gN 8)) (sRet (xLc (iBi jRange1 (aCons (xVar 1) aNil)) [9] (gN 9) bYes (xOp rAdd (xOp rAdd (xOp rMul (xVar 3) (xVar 7)) (xOp rIx (xVar 2) (xOp rMod (xOp rAdd (xVar 4) (xOp rMul (xVar 5) (xVar 9))) (xC (.int 26))))) (xVar 8))))))))))))
/-- _law_plain(feed, boxes, words); names: 0 feed, 1 boxes, 2 words, 3 way, 4 x, 5 y, 6 z -/
def b_law_plain (law_take : F3) : S3 := (sSeq (sAsg (xCall law_take (aCons (xVar 0) (aCons (xC (.int 10)) aNil))) (gN 3)) (sSeq (sAsg (xOp rIx (xVar 1) (xCall law_take (aCons (xVar 0) (aCons (xBi cLen (aCons (xVar 1) aNil)) aNil)))) (gN 4)) (sSeq (sAsg (xOp rIx (xVar 1) (xCall law_take (aCons (xVar 0) (aCons (xBi cLen (aCons (xVar 1) aNil)) aNil)))) (gN 5)) (sSeq (sIf (bT (xOp rLt (xVar 3) (xC (.int 4)))) (sSeq (sAsg (xOp rIx (xVar 1) (xCall law_take (aCons (xVar 0) (aCons (xBi cLen (aCons (xVar 1) aNil)) aNil)))) (gN 6)) (sRet (xTup (aCons (xC (.str "pair")) (aCons (xVar 4) (aCons (xOp rIx (xVar 2) (xCall law_take (aCons (xVar 0) (aCons (xBi cLen (aCons (xVar 2) aNil)) aNil)))) (aCons (xVar 5) (aCons (xVar 6) aNil)))))))) sNil) (sRet (xOp rIx (xLst (aCons (xTup (aCons (xC (.str "first")) (aCons (xVar 4) (aCons (xVar 5) aNil)))) (aCons (xTup (aCons (xC (.str "second")) (aCons (xVar 4) (aCons (xVar 5) aNil)))) (aCons (xTup (aCons (xC (.str "same")) (aCons (xVar 4) (aCons (xVar 5) aNil)))) (aCons (xTup (aCons (xC (.str "none")) (aCons (xVar 4) aNil))) (aCons (xTup (aCons (xC (.str "tell")) (aCons (xVar 5) aNil))) (aCons (xTup (aCons (xC (.str "tell")) (aCons (xVar 4) aNil))) aNil))))))) (xOp rSub (xVar 3) (xC (.int 4)))))))))
/-- _law_step_on(lines, opened); names: 0 lines, 1 opened -/
def b_law_step_on : S3 := (sIf (bT (xOp (rEq false) (xOp rIx (xVar 1) (xC (.int (-1)))) (xC (.str "either")))) (sSeq (sDrop (xMth mAppend (xVar 0) (xTup (aCons (xC (.str "or")) aNil)))) (sAsg (xC (.str "or")) (gSubL (xVar 1) (xC (.int (-1)))))) (sSeq (sDrop (xMth mAppend (xVar 0) (xTup (aCons (xC (.str "end")) aNil)))) (sDrop (xM0 mPop (xVar 1)))))
/-- _law_part(feed, size, menus, later, opens, dos); names: 0 feed, 1 size, 2 menus, 3 later, 4 opens, 5 dos, 6 lines, 7 opened, 8 k, 9 way -/
def b_law_part (law_take : F3) (law_step_on : F3) (law_plain : F3) : S3 := (sSeq (sAsg (xLst aNil) (gN 6)) (sSeq (sAsg (xLst aNil) (gN 7)) (sSeq (sFor (iBi jRange1 (aCons (xVar 1) aNil)) (gN 8) (sSeq (sAsg (xCall law_take (aCons (xVar 0) (aCons (xC (.int 14)) aNil))) (gN 9)) (sIf (bAnd (bT (xOp rLt (xVar 9) (xC (.int 3)))) (bT (xOp rGt (xVar 4) (xC (.int 0))))) (sSeq (sDrop (xMth mAppend (xVar 7) (xOp rIx (xLst (aCons (xC (.str "either")) (aCons (xC (.str "again")) (aCons (xC (.str "either")) aNil)))) (xVar 9)))) (sSeq (sDrop (xMth mAppend (xVar 6) (xTup (aCons (xOp rIx (xVar 7) (xC (.int (-1)))) aNil)))) (sAsg (xOp rSub (xVar 4) (xC (.int 1))) (gN 4)))) (sIf (bAnd (bT (xOp rLt (xVar 9) (xC (.int 6)))) (bT (xOp rGt (xBi cLen (aCons (xVar 7) aNil)) (xC (.int 0))))) (sDrop (xCall law_step_on (aCons (xVar 6) (aCons (xVar 7) aNil)))) (sIf (bAnd (bT (xOp (rIn false) (xVar 9) (xLst (aCons (xC (.int 6)) (aCons (xC (.int 7)) aNil))))) (bAnd (bT (xOp rGt (xVar 5) (xC (.int 0)))) (bT (xOp rGt (xBi cLen (aCons (xVar 3) aNil)) (xC (.int 0)))))) (sSeq (sDrop (xMth mAppend (xVar 6) (xTup (aCons (xC (.str "do")) (aCons (xOp rIx (xVar 3) (xCall law_take (aCons (xVar 0) (aCons (xBi cLen (aCons (xVar 3) aNil)) aNil)))) aNil))))) (sAsg (xOp rSub (xVar 5) (xC (.int 1))) (gN 5))) (sDrop (xMth mAppend (xVar 6) (xCall law_plain (aCons (xVar 0) (aCons (xOp rIx (xVar 2) (xC (.int 0))) (aCons (xOp rIx (xVar 2) (xC (.int 1))) aNil))))))))))) (sSeq (sWhile (bT (xOp rGt (xBi cLen (aCons (xVar 7) aNil)) (xC (.int 0)))) (sDrop (xCall law_step_on (aCons (xVar 6) (aCons (xVar 7) aNil))))) (sRet (xBi cTuple (aCons (xVar 6) aNil)))))))
/-- _law_program(feed, bounds); names: 0 feed, 1 bounds, 2 menus, 3 names, 4 size, 5 found, 6 k -/
def b_law_program (law_names : F3) (law_take : F3) (law_part : F3) : S3 := (sSeq (sAsg (xTup (aCons (xCall law_names (aCons (xVar 0) (aCons (xOp rAdd (xC (.int 1)) (xCall law_take (aCons (xVar 0) (aCons (xOp rIx (xVar 1) (xC (.int 0))) aNil)))) aNil))) (aCons (xCall law_names (aCons (xVar 0) (aCons (xOp rAdd (xC (.int 1)) (xCall law_take (aCons (xVar 0) (aCons (xOp rIx (xVar 1) (xC (.int 1))) aNil)))) aNil))) aNil))) (gN 2)) (sSeq (sAsg (xCall law_names (aCons (xVar 0) (aCons (xOp rAdd (xC (.int 1)) (xCall law_take (aCons (xVar 0) (aCons (xOp rIx (xVar 1) (xC (.int 2))) aNil)))) aNil))) (gN 3)) (sSeq (sAsg (xOp rSub (xOp rIx (xVar 1) (xC (.int 3))) (xCall law_take (aCons (xVar 0) (aCons (xC (.int 3)) aNil)))) (gN 4)) (sSeq (sIf (bT (xOp (rEq false) (xCall law_take (aCons (xVar 0) (aCons (xC (.int 4)) aNil))) (xC (.int 0)))) (sAsg (xCall law_take (aCons (xVar 0) (aCons (xOp rAdd (xVar 4) (xC (.int 1))) aNil))) (gN 4)) sNil) (sSeq (sAsg (xLst (aCons (xTup (aCons (xOp rIx (xVar 3) (xC (.int 0))) (aCons (xCall law_part (aCons (xVar 0) (aCons (xVar 4) (aCons (xVar 2) (aCons (xSl (xVar 3) (oSome (xC (.int 1))) oNone) (aCons (xC (.int 2)) (aCons (xC (.int 2)) aNil))))))) aNil))) aNil)) (gN 5)) (sSeq (sFor (iBi jRange2 (aCons (xC (.int 1)) (aCons (xBi cLen (aCons (xVar 3) aNil)) aNil))) (gN 6) (sDrop (xMth mAppend (xVar 5) (xTup (aCons (xOp rIx (xVar 3) (xVar 6)) (aCons (xCall law_part (aCons (xVar 0) (aCons (xCall law_take (aCons (xVar 0) (aCons (xC (.int 4)) aNil))) (aCons (xVar 2) (aCons (xSl (xVar 3) (oSome (xOp rAdd (xVar 6) (xC (.int 1)))) oNone) (aCons (xC (.int 1)) (aCons (xC (.int 1)) aNil))))))) aNil)))))) (sRet (xBi cTuple (aCons (xVar 5) aNil)))))))))
/-- _law_blocks(lines); names: 0 lines, 1 rows, 2 opened, 3 k, 4 line -/
def b_law_blocks : S3 := (sSeq (sAsg (xLc (iSeq (xVar 0)) [4] (gN 4) bYes (xC .non)) (gN 1)) (sSeq (sAsg (xLst aNil) (gN 2)) (sSeq (sFor (iBi jRange1 (aCons (xBi cLen (aCons (xVar 0) aNil)) aNil)) (gN 3) (sSeq (sIf (bOr (bT (xOp (rEq false) (xOp rIx (xOp rIx (xVar 0) (xVar 3)) (xC (.int 0))) (xC (.str "either")))) (bT (xOp (rEq false) (xOp rIx (xOp rIx (xVar 0) (xVar 3)) (xC (.int 0))) (xC (.str "again"))))) (sDrop (xMth mAppend (xVar 2) (xLst (aCons (xVar 3) (aCons (xVar 3) (aCons (xVar 3) aNil)))))) sNil) (sSeq (sIf (bT (xOp rGt (xBi cLen (aCons (xVar 2) aNil)) (xC (.int 0)))) (sAsg (xOp rIx (xVar 2) (xC (.int (-1)))) (gSubL (xVar 1) (xVar 3))) sNil) (sSeq (sIf (bT (xOp (rEq false) (xOp rIx (xOp rIx (xVar 0) (xVar 3)) (xC (.int 0))) (xC (.str "or")))) (sAsg (xVar 3) (gSubL (xOp rIx (xVar 2) (xC (.int (-1)))) (xC (.int 1)))) sNil) (sIf (bT (xOp (rEq false) (xOp rIx (xOp rIx (xVar 0) (xVar 3)) (xC (.int 0))) (xC (.str "end")))) (sSeq (sAsg (xVar 3) (gSubL (xOp rIx (xVar 2) (xC (.int (-1)))) (xC (.int 2)))) (sDrop (xM0 mPop (xVar 2)))) sNil))))) (sRet (xVar 1)))))
/-- _law_next(program, rows, spot); names: 0 program, 1 rows, 2 spot, 3 way, 4 part, 5 k, 6 head, 7 lines, 8 word, 9 name, 10 inner -/
def b_law_next : S3 := (sSeq (sAsg (xVar 2) (gTup 4 (gCons (gN 3) (gCons (gN 4) (gCons (gN 5) (gCons (gN 6) gNil)))))) (sSeq (sAsg (xOp rIx (xOp rIx (xVar 0) (xVar 4)) (xC (.int 1))) (gN 7)) (sSeq (sIf (bT (xVar 6)) (sRet (xLst (aCons (xTup (aCons (xVar 3) (aCons (xVar 4) (aCons (xOp rAdd (xOp rIx (xOp rIx (xOp rIx (xVar 1) (xVar 4)) (xVar 5)) (xC (.int 2))) (xC (.int 1))) (aCons (xC (.bl false)) aNil))))) (aCons (xTup (aCons (xVar 3) (aCons (xVar 4) (aCons (xOp rAdd (xVar 5) (xC (.int 1))) (aCons (xC (.bl false)) aNil))))) aNil)))) sNil) (sSeq (sIf (bAnd (bT (xOp (rEq false) (xVar 5) (xBi cLen (aCons (xVar 7) aNil)))) (bT (xOp rGt (xBi cLen (aCons (xVar 3) aNil)) (xC (.int 0))))) (sRet (xLst (aCons (xTup (aCons (xSl (xVar 3) oNone (oSome (xC (.int (-1))))) (aCons (xOp rIx (xOp rIx (xVar 3) (xC (.int (-1)))) (xC (.int 0))) (aCons (xOp rAdd (xOp rIx (xOp rIx (xVar 3) (xC (.int (-1)))) (xC (.int 1))) (xC (.int 1))) (aCons (xC (.bl false)) aNil))))) aNil))) sNil) (sSeq (sIf (bT (xOp (rEq false) (xVar 5) (xBi cLen (aCons (xVar 7) aNil)))) (sRet (xLst aNil)) sNil) (sSeq (sAsg (xOp rIx (xOp rIx (xVar 7) (xVar 5)) (xC (.int 0))) (gN 8)) (sSeq (sIf (bT (xOp (rEq false) (xVar 8) (xC (.str "either")))) (sRet (xLst (aCons (xTup (aCons (xVar 3) (aCons (xVar 4) (aCons (xOp rAdd (xVar 5) (xC (.int 1))) (aCons (xC (.bl false)) aNil))))) (aCons (xTup (aCons (xVar 3) (aCons (xVar 4) (aCons (xOp rAdd (xOp rIx (xOp rIx (xOp rIx (xVar 1) (xVar 4)) (xVar 5)) (xC (.int 1))) (xC (.int 1))) (aCons (xC (.bl false)) aNil))))) aNil)))) sNil) (sSeq (sIf (bT (xOp (rEq false) (xVar 8) (xC (.str "or")))) (sRet (xLst (aCons (xTup (aCons (xVar 3) (aCons (xVar 4) (aCons (xOp rAdd (xOp rIx (xOp rIx (xOp rIx (xVar 1) (xVar 4)) (xVar 5)) (xC (.int 2))) (xC (.int 1))) (aCons (xC (.bl false)) aNil))))) aNil))) sNil) (sSeq (sIf (bT (xOp (rEq false) (xVar 8) (xC (.str "again")))) (sRet (xLst (aCons (xTup (aCons (xVar 3) (aCons (xVar 4) (aCons (xVar 5) (aCons (xC (.bl true)) aNil))))) aNil))) sNil) (sSeq (sIf (bAnd (bT (xOp (rEq false) (xVar 8) (xC (.str "end")))) (bT (xOp (rEq false) (xOp rIx (xOp rIx (xVar 7) (xOp rIx (xOp rIx (xOp rIx (xVar 1) (xVar 4)) (xVar 5)) (xC (.int 0)))) (xC (.int 0))) (xC (.str "again"))))) (sRet (xLst (aCons (xTup (aCons (xVar 3) (aCons (xVar 4) (aCons (xOp rIx (xOp rIx (xOp rIx (xVar 1) (xVar 4)) (xVar 5)) (xC (.int 0))) (aCons (xC (.bl true)) aNil))))) aNil))) sNil) (sSeq (sIf (bT (xOp (rEq false) (xVar 8) (xC (.str "do")))) (sRet (xLst (aCons (xTup (aCons (xOp rAdd (xVar 3) (xTup (aCons (xTup (aCons (xVar 4) (aCons (xVar 5) aNil))) aNil))) (aCons (xMth mIndex (xLc (iSeq (xVar 0)) [9, 10] (gTup 2 (gCons (gN 9) (gCons (gN 10) gNil))) bYes (xVar 9)) (xOp rIx (xOp rIx (xVar 7) (xVar 5)) (xC (.int 1)))) (aCons (xC (.int 0)) (aCons (xC (.bl false)) aNil))))) aNil))) sNil) (sRet (xLst (aCons (xTup (aCons (xVar 3) (aCons (xVar 4) (aCons (xOp rAdd (xVar 5) (xC (.int 1))) (aCons (xC (.bl false)) aNil))))) aNil))))))))))))))
/-- _law_words(program); names: 0 program, 1 found, 2 name, 3 lines, 4 line -/
def b_law_words : S3 := (sSeq (sAsg (xLst aNil) (gN 1)) (sSeq (sFor (iSeq (xVar 0)) (gTup 2 (gCons (gN 2) (gCons (gN 3) gNil))) (sDrop (xMth mExtend (xVar 1) (xLc (iSeq (xVar 3)) [4] (gN 4) (bT (xOp (rEq false) (xOp rIx (xVar 4) (xC (.int 0))) (xC (.str "pair")))) (xOp rIx (xVar 4) (xC (.int 2))))))) (sRet (xBi cSortSet (aCons (xVar 1) aNil)))))
/-- _law_manner(program, feed); names: 0 program, 1 feed, 2 places, 3 number, 4 part, 5 words, 6 way, 7 one, 8 found, 9 word, 10 place, 11 gap -/
def b_law_manner (law_words : F3) (law_take : F3) : S3 := (sSeq (sAsg (xLst aNil) (gN 2)) (sSeq (sFor (iBi jEnum (aCons (xVar 0) aNil)) (gTup 2 (gCons (gN 3) (gCons (gN 4) gNil))) (sDrop (xMth mExtend (xVar 2) (xLc (iBi jRange1 (aCons (xOp rAdd (xBi cLen (aCons (xOp rIx (xVar 4) (xC (.int 1))) aNil)) (xC (.int 1))) aNil)) [11] (gN 11) bYes (xTup (aCons (xVar 3) (aCons (xVar 11) aNil))))))) (sSeq (sAsg (xCall law_words (aCons (xVar 0) aNil)) (gN 5)) (sSeq (sAsg (xCall law_take (aCons (xVar 1) (aCons (xC (.int 6)) aNil))) (gN 6)) (sSeq (sAsg (xOp rIx (xVar 2) (xCall law_take (aCons (xVar 1) (aCons (xBi cLen (aCons (xVar 2) aNil)) aNil)))) (gN 7)) (sSeq (sAsg (xLst aNil) (gN 8)) (sSeq (sFor (iSeq (xVar 5)) (gN 9) (sFor (iSeq (xVar 2)) (gN 10) (sIf (bOr (bAnd (bT (xOp (rEq false) (xVar 6) (xC (.int 0)))) (bT (xOp (rEq false) (xVar 10) (xVar 7)))) (bAnd (bT (xOp rGt (xVar 6) (xC (.int 1)))) (bT (xOp (rEq false) (xCall law_take (aCons (xVar 1) (aCons (xOp rAdd (xC (.int 2)) (xVar 6)) aNil))) (xC (.int 0)))))) (sDrop (xMth mAppend (xVar 8) (xTup (aCons (xVar 9) (aCons (xVar 10) aNil))))) sNil))) (sRet (xVar 8)))))))))
/-- _law_made(program, spot); names: 0 program, 1 spot, 2 lines -/
def b_law_made : S3 := (sSeq (sAsg (xOp rIx (xOp rIx (xVar 0) (xOp rIx (xVar 1) (xC (.int 1)))) (xC (.int 1))) (gN 2)) (sSeq (sIf (bAnd (bNot (bT (xOp rIx (xVar 1) (xC (.int 3))))) (bAnd (bT (xOp rLt (xOp rIx (xVar 1) (xC (.int 2))) (xBi cLen (aCons (xVar 2) aNil)))) (bT (xOp (rEq false) (xOp rIx (xOp rIx (xVar 2) (xOp rIx (xVar 1) (xC (.int 2)))) (xC (.int 0))) (xC (.str "pair")))))) (sRet (xOp rIx (xOp rIx (xVar 2) (xOp rIx (xVar 1) (xC (.int 2)))) (xC (.int 2)))) sNil) (sRet (xC .non))))
/-- _law_given(manner, spot); names: 0 manner, 1 spot, 2 word, 3 place -/
def b_law_given : S3 := (sSeq (sIf (bT (xOp rIx (xVar 1) (xC (.int 3)))) (sRet (xLst aNil)) sNil) (sRet (xLc (iSeq (xVar 0)) [2, 3] (gTup 2 (gCons (gN 2) (gCons (gN 3) gNil))) (bT (xOp (rEq false) (xVar 3) (xSl (xVar 1) (oSome (xC (.int 1))) (oSome (xC (.int 3)))))) (xVar 2))))
/-- _law_book(program, manner, run); names: 0 program, 1 manner, 2 run, 3 rooms, 4 found, 5 spot, 6 gone, 7 ahead, 8 room, 9 word -/
def b_law_book (law_given : F3) (law_made : F3) : S3 := (sSeq (sAsg (xLst aNil) (gN 3)) (sSeq (sAsg (xLst aNil) (gN 4)) (sSeq (sFor (iSeq (xVar 2)) (gN 5) (sSeq (sAsg (xCall law_given (aCons (xVar 1) (aCons (xVar 5) aNil))) (gN 6)) (sSeq (sAsg (xLc (iSeq (xVar 3)) [8] (gN 8) (bT (xOp rIx (xVar 8) (xC (.int 2)))) (xVar 8)) (gN 7)) (sSeq (sFor (iSeq (xVar 7)) (gN 8) (sAsg (xOp (rIn true) (xOp rIx (xVar 8) (xC (.int 0))) (xVar 6)) (gSubL (xVar 8) (xC (.int 2))))) (sSeq (sDrop (xMth mAppend (xVar 4) (xTup (aCons (xVar 7) (aCons (xLc (iSeq (xVar 7)) [8] (gN 8) (bT (xOp rIx (xVar 8) (xC (.int 2)))) (xVar 8)) aNil))))) (sSeq (sAsg (xCall law_made (aCons (xVar 0) (aCons (xVar 5) aNil))) (gN 9)) (sIf (bT (xIsN true (xVar 9))) (sDrop (xMth mAppend (xVar 3) (xLst (aCons (xVar 9) (aCons (xVar 5) (aCons (xC (.bl true)) aNil)))))) sNil))))))) (sRet (xVar 4)))))
/-- _law_run_by(program, rows, number); names: 0 program, 1 rows, 2 number, 3 run, 4 left, 5 others -/
def b_law_run_by (law_next : F3) : S3 := (sSeq (sAsg (xLst (aCons (xTup (aCons (xTup aNil) (aCons (xC (.int 0)) (aCons (xC (.int 0)) (aCons (xC (.bl false)) aNil))))) aNil)) (gN 3)) (sSeq (sAsg (xC (.int 6)) (gN 4)) (sSeq (sAsg (xCall law_next (aCons (xVar 0) (aCons (xVar 1) (aCons (xOp rIx (xVar 3) (xC (.int 0))) aNil)))) (gN 5)) (sSeq (sWhile (bOr (bT (xOp (rEq false) (xBi cLen (aCons (xVar 5) aNil)) (xC (.int 1)))) (bAnd (bT (xOp rGt (xBi cLen (aCons (xVar 5) aNil)) (xC (.int 1)))) (bT (xOp rGt (xVar 4) (xC (.int 0)))))) (sSeq (sIf (bT (xOp (rEq false) (xBi cLen (aCons (xVar 5) aNil)) (xC (.int 1)))) (sDrop (xMth mAppend (xVar 3) (xOp rIx (xVar 5) (xC (.int 0))))) (sSeq (sDrop (xMth mAppend (xVar 3) (xOp rIx (xVar 5) (xOp rMod (xVar 2) (xC (.int 2)))))) (sSeq (sAsg (xOp rDiv (xVar 2) (xC (.int 2))) (gN 2)) (sAsg (xOp rSub (xVar 4) (xC (.int 1))) (gN 4))))) (sAsg (xCall law_next (aCons (xVar 0) (aCons (xVar 1) (aCons (xOp rIx (xVar 3) (xC (.int (-1)))) aNil)))) (gN 5)))) (sRet (xTup (aCons (xVar 3) (aCons (xOp (rEq false) (xBi cLen (aCons (xVar 5) aNil)) (xC (.int 0))) aNil))))))))
/-- _law_greatest(program, rows, manner); names: 0 program, 1 rows, 2 manner, 3 found, 4 ended, 5 seen, 6 number, 7 run, 8 done, 9 ahead, 10 behind -/
def b_law_greatest (law_run_by : F3) (law_book : F3) : S3 := (sSeq (sAsg (xC (.int 0)) (gN 3)) (sSeq (sAsg (xC (.bl true)) (gN 4)) (sSeq (sAsg xDK (gN 5)) (sSeq (sFor (iBi jRange1 (aCons (xC (.int 64)) aNil)) (gN 6) (sSeq (sAsg (xCall law_run_by (aCons (xVar 0) (aCons (xVar 1) (aCons (xVar 6) aNil)))) (gTup 2 (gCons (gN 7) (gCons (gN 8) gNil)))) (sSeq (sAsg (xAndV (xVar 4) (xVar 8)) (gN 4)) (sIf (bT (xOp (rInK true) (xBi cStr (aCons (xVar 7) aNil)) (xVar 5))) (sSeq (sAsg (xC (.bl true)) (gSubK (xVar 5) (xBi cStr (aCons (xVar 7) aNil)))) (sAsg (xBi cMax2 (aCons (xVar 3) (aCons (xBi cMaxL (aCons (xLc (iSeq (xCall law_book (aCons (xVar 0) (aCons (xVar 2) (aCons (xVar 7) aNil))))) [9, 10] (gTup 2 (gCons (gN 9) (gCons (gN 10) gNil))) bYes (xBi cLen (aCons (xVar 9) aNil))) aNil)) aNil))) (gN 3))) sNil)))) (sRet (xTup (aCons (xVar 3) (aCons (xVar 4) aNil))))))))
/-- law(script); names: 0 script, 1 k, 2 program, 3 rows, 4 manner, 5 found, 6 number, 7 ended, 8 run, 9 book, 10 there, 11 part, 12 row, 13 room -/
def b_law (law_program : F3) (law_manner : F3) (most : F3) (law_greatest : F3) (law_feed : F3) (law_blocks : F3) (law_book : F3) : S3 := (sSeq (sFor (iBi jRange02 (aCons (xC (.int 0)) (aCons (xBi cMax2 (aCons (xC (.int 2)) (aCons (xBi cMin2 (aCons (xC (.int 4)) (aCons (xBi cLen (aCons (xVar 0) aNil)) aNil))) aNil))) (aCons (xC (.int 2)) aNil)))) (gN 1) (sSeq (sAsg (xCall law_program (aCons (xCall law_feed (aCons (xVar 0) (aCons (xVar 1) aNil))) (aCons (xLst (aCons (xC (.int 2)) (aCons (xC (.int 3)) (aCons (xC (.int 2)) (aCons (xC (.int 4)) aNil))))) aNil))) (gN 2)) (sSeq (sAsg (xLc (iSeq (xVar 2)) [11] (gN 11) bYes (xCall law_blocks (aCons (xOp rIx (xVar 11) (xC (.int 1))) aNil))) (gN 3)) (sSeq (sAsg (xCall law_manner (aCons (xVar 2) (aCons (xCall law_feed (aCons (xVar 0) (aCons (xOp rAdd (xVar 1) (xC (.int 1))) aNil))) aNil))) (gN 4)) (sSeq (sAsg (xCall most (aCons (xVar 2) (aCons (xBi cList (aCons (xVar 4) aNil)) aNil))) (gN 5)) (sSeq (sAsg (xCall law_greatest (aCons (xVar 2) (aCons (xVar 3) (aCons (xVar 4) aNil)))) (gTup 2 (gCons (gN 6) (gCons (gN 7) gNil)))) (sSeq (sIf (bAnd (bT (xOp (rEq false) (xOp rIx (xVar 5) (xC (.int 0))) (xC (.str "most")))) (bOr (bT (xOp rLt (xOp rIx (xVar 5) (xC (.int 1))) (xVar 6))) (bAnd (bT (xVar 7)) (bT (xOp (rEq true) (xOp rIx (xVar 5) (xC (.int 1))) (xVar 6)))))) (sRet (xC (.bl false))) sNil) (sIf (bT (xOp (rEq false) (xOp rIx (xVar 5) (xC (.int 0))) (xC (.str "grows")))) (sSeq (sAsg (xOp rAdd (xOp rAdd (xOp rIx (xVar 5) (xC (.int 2))) (xSl (xOp rIx (xVar 5) (xC (.int 3))) (oSome (xC (.int 1))) oNone)) (xSl (xOp rIx (xVar 5) (xC (.int 3))) (oSome (xC (.int 1))) oNone)) (gN 8)) (sSeq (sAsg (xCall law_book (aCons (xVar 2) (aCons (xVar 4) (aCons (xVar 8) aNil)))) (gN 9)) (sSeq (sAsg (xLc (iSeq (xVar 9)) [12] (gN 12) bYes (xBi cLen (aCons (xLc (iSeq (xOp rIx (xVar 12) (xC (.int 0)))) [13] (gN 13) (bT (xOp (rEq false) (xOp rIx (xVar 13) (xC (.int 0))) (xOp rIx (xVar 5) (xC (.int 1))))) (xVar 13)) aNil))) (gN 10)) (sIf (bOr (bT (xVar 7)) (bNot (bT (xOp rLt (xOp rIx (xVar 10) (xOp rSub (xBi cLen (aCons (xOp rIx (xVar 5) (xC (.int 2))) aNil)) (xC (.int 1)))) (xOp rIx (xVar 10) (xC (.int (-1)))))))) (sRet (xC (.bl false))) sNil)))) sNil)))))))) (sRet (xC (.bl true))))
end L3
end
section
set_option maxRecDepth 100000
set_option maxHeartbeats 0
/-! LHead: the head. -/
namespace L3
open L2 PyProof.Rows PySem.Spec PySem
def top (i : Nat) : Stmt := PySem.Challenge.pw_doneroom_k55_whole_most_by_all_runs.main.body.getD i (.Pass ⟨0, 0, 0, 0⟩)
abbrev s_end_of : Stmt := top 2
abbrev s_or_of : Stmt := top 3
abbrev s_head_of : Stmt := top 4
abbrev s_number_of : Stmt := top 6
abbrev s_all_lines : Stmt := top 7
abbrev s_words_of : Stmt := top 8
abbrev s_first_spot : Stmt := top 10
abbrev s_place_of : Stmt := top 11
abbrev s_line_of : Stmt := top 12
abbrev s_behind_part : Stmt := top 13
abbrev s_behind_end : Stmt := top 14
abbrev s_next_spots : Stmt := top 15
abbrev s_spots : Stmt := top 17
abbrev s_given_at : Stmt := top 19
abbrev s_made_at : Stmt := top 20
abbrev s_spots_ahead : Stmt := top 21
abbrev s_givings : Stmt := top 22
abbrev s_rests : Stmt := top 23
abbrev s_makings : Stmt := top 25
abbrev s_spots_at : Stmt := top 26
abbrev s_way_back : Stmt := top 27
abbrev s_road : Stmt := top 28
abbrev s_run_to : Stmt := top 29
abbrev s_growing_round : Stmt := top 31
abbrev s_wanted_entries : Stmt := top 32
abbrev s_bettered : Stmt := top 33
abbrev s_run_back : Stmt := top 34
abbrev s_table_of : Stmt := top 35
abbrev s_most : Stmt := top 36
abbrev s_law_feed : Stmt := top 38
abbrev s_law_take : Stmt := top 39
abbrev s_law_names : Stmt := top 40
abbrev s_law_plain : Stmt := top 41
abbrev s_law_step_on : Stmt := top 42
abbrev s_law_part : Stmt := top 43
abbrev s_law_program : Stmt := top 44
abbrev s_law_blocks : Stmt := top 45
abbrev s_law_next : Stmt := top 46
abbrev s_law_words : Stmt := top 47
abbrev s_law_manner : Stmt := top 48
abbrev s_law_made : Stmt := top 49
abbrev s_law_given : Stmt := top 50
abbrev s_law_book : Stmt := top 51
abbrev s_law_run_by : Stmt := top 52
abbrev s_law_greatest : Stmt := top 53
abbrev s_law : Stmt := top 54
abbrev datD (x : String) (st : Stmt) : He.DefD := ⟨(x, none), x, x, defArgs st, defBody st, defScope st, [], []⟩
def fns : List He.DefD := [datD "end_of" s_end_of, datD "or_of" s_or_of, datD "head_of" s_head_of, datD "number_of" s_number_of, datD "all_lines" s_all_lines, datD "words_of" s_words_of, datD "first_spot" s_first_spot, datD "place_of" s_place_of, datD "line_of" s_line_of, datD "behind_part" s_behind_part, datD "behind_end" s_behind_end, datD "next_spots" s_next_spots, datD "spots" s_spots, datD "given_at" s_given_at, datD "made_at" s_made_at, datD "spots_ahead" s_spots_ahead, datD "givings" s_givings, datD "rests" s_rests, datD "makings" s_makings, datD "spots_at" s_spots_at, datD "way_back" s_way_back, datD "road" s_road, datD "run_to" s_run_to, datD "growing_round" s_growing_round, datD "wanted_entries" s_wanted_entries, datD "bettered" s_bettered, datD "run_back" s_run_back, datD "table_of" s_table_of, datD "most" s_most, datD "_law_feed" s_law_feed, datD "_law_take" s_law_take, datD "_law_names" s_law_names, datD "_law_plain" s_law_plain, datD "_law_step_on" s_law_step_on, datD "_law_part" s_law_part, datD "_law_program" s_law_program, datD "_law_blocks" s_law_blocks, datD "_law_next" s_law_next, datD "_law_words" s_law_words, datD "_law_manner" s_law_manner, datD "_law_made" s_law_made, datD "_law_given" s_law_given, datD "_law_book" s_law_book, datD "_law_run_by" s_law_run_by, datD "_law_greatest" s_law_greatest, datD "law" s_law]
def fas : List He.Fa := [.glo "end_of", .glo "or_of", .glo "head_of", .glo "number_of", .glo "all_lines", .glo "words_of", .glo "first_spot", .glo "place_of", .glo "line_of", .glo "behind_part", .glo "behind_end", .glo "next_spots", .glo "spots", .glo "given_at", .glo "made_at", .glo "spots_ahead", .glo "givings", .glo "rests", .glo "makings", .glo "spots_at", .glo "way_back", .glo "road", .glo "run_to", .glo "growing_round", .glo "wanted_entries", .glo "bettered", .glo "run_back", .glo "table_of", .glo "most", .glo "_law_feed", .glo "_law_take", .glo "_law_names", .glo "_law_plain", .glo "_law_step_on", .glo "_law_part", .glo "_law_program", .glo "_law_blocks", .glo "_law_next", .glo "_law_words", .glo "_law_manner", .glo "_law_made", .glo "_law_given", .glo "_law_book", .glo "_law_run_by", .glo "_law_greatest", .glo "law", .free "enumerate", .free "sorted", .free "len", .free "reversed", .free "list", .free "tuple", .free "int", .free "range", .free "max", .free "min", .free "set", .free "str", .glo "OPENING"]
/-- what the head tells: the defs, the names, the one table -/
def obs3 (K : PySem.W.Frag) : He.AlD × Bool := (He.obsD fas fns K, He.tupB K "OPENING" [.str "either", .str "again"])
def hook3 : PySem.W.Hook where
  α := He.AlD × Bool
  obs := fun s => obs3 (He.frG s.heap.get? (He.asD s.heap.get? 4))
  val := fun _ => (He.valD fns, true)
  says := fun _ h => ∃ K : PySem.W.Frag, K.In h ∧ obs3 K = (He.valD fns, true)
  of := fun _ _ e => ⟨_, He.frG_in, e⟩
  keeps := fun _ _ _ ⟨Kf, hKf, c⟩ k => ⟨Kf, PySem.W.Frag.In.keeps hKf k, c⟩
abbrev row3 : PySem.W.OpenRow := PySem.W.OpenLaw.row PySem.Challenge.rw_doneroom_k55_whole_most_by_all_runs
def ob3 (s : PySem.W.SharedT) : He.AlD × Bool := obs3 (He.frG (HandSHeadRun.getT s) (He.asD (HandSHeadRun.getT s) 4))
theorem ob3_eq (s : PySem.W.SharedT) : ob3 s = hook3.obs s.abs := by
  have e : HandSHeadRun.getT s = s.abs.heap.get? := funext (HandSHeadRun.getT_eq s)
  unfold ob3
  rw [e]
  all_goals rfl
def names0 : List Str := ["OPENING", "end_of", "or_of", "head_of", "number_of", "all_lines", "words_of", "first_spot", "place_of", "line_of", "behind_part", "behind_end", "next_spots", "spots", "given_at", "made_at"]
def names1 : List Str := ["spots_ahead", "givings", "rests", "makings", "spots_at", "way_back", "road", "run_to", "growing_round", "wanted_entries", "bettered", "run_back", "table_of", "most", "_law_feed", "_law_take"]
def names2 : List Str := ["_law_names", "_law_plain", "_law_step_on", "_law_part", "_law_program", "_law_blocks", "_law_next", "_law_words", "_law_manner", "_law_made", "_law_given", "_law_book", "_law_run_by", "_law_greatest"]
def names3 : List Str := names0 ++ names1 ++ names2
theorem headRun (w : World) : HandSHeadRun.RunEq row3 (PySem.W.view row3.prog [54]) hook3 ob3 4000 names3 w := by
  intro os
  kernel_rfl
end L3
end
section
set_option maxRecDepth 100000
set_option maxHeartbeats 4200000
/-! L3Walk: each def's statements read as its body says. Printed by gen_walk.py. -/
namespace L3
open L2 PyProof.Rows PySem.Spec PySem
/-- the module's names -/
structure Mg (K : PySem.W.Frag) (mg : Str → Option Value) : Prop where
  enumerate : mg "enumerate" = none
  int : mg "int" = none
  len : mg "len" = none
  list : mg "list" = none
  max : mg "max" = none
  min : mg "min" = none
  range : mg "range" = none
  reversed : mg "reversed" = none
  set : mg "set" = none
  sorted : mg "sorted" = none
  str : mg "str" = none
  tuple : mg "tuple" = none
  opH : mg "OPENING" = some (.ref (He.ga K "OPENING"))
  opR : ∀ H, Rp K H (.ref (He.ga K "OPENING")) (.tup [.str "either", .str "again"])
section
variable {P : Program} {w : World}
variable {K : PySem.W.Frag} {mg : Str → Option Value} {base : Heap}
theorem sc_end_of : FnScope ["lines", "k", "deep", "at"] ["lines", "k"] (defScope s_end_of) := ⟨rfl, rfl, rfl, by decide +kernel, rfl, by decide +kernel, by decide +kernel⟩
theorem w_end_of (M : Mg K mg) {f : Addr} {fd : FuncData} {sp : F3} (F : FunD K "end_of" "end_of" (defArgs s_end_of) (defBody s_end_of) (defScope s_end_of) [] [] f fd) (kp : Keeps 4 2 (b_end_of) sp) : Fn3 P w K mg base 1 f fd ["lines", "k"] sp :=
  fn3D (k := 0) F sc_end_of kp fun cdv A outer s H hr hgd => by
    have hu := hr.un
    replace hu : (A.deeper (envOfC "end_of" (defScope s_end_of) s.heap.objs.size f cdv)).units + 100 < cLine := by omega
    have C := sc_end_of
    exact (qs_cons (q_set (i := 2) C.nd rfl (by first | exact Or.inl rfl | exact Or.inr rfl) q_int) (qs_cons (q_set (i := 3) C.nd rfl (by first | exact Or.inl rfl | exact Or.inr rfl) (q_op r_add (qv 1) q_int)) (qs_cons (q_while PassesOwn.never (PW.pt (qw_or (qt_cmp r_gt (qv 2) q_int (nomark _)) (qw_or1 (qt_cmp (r_ne hu) (q_ix (q_ix (qv 0) (qv 3)) q_int) q_str (nomark _))))) (qs_cons (q_if (qt_cmp (r_in hu) (q_ix (q_ix (qv 0) (qv 3)) q_int) (q_glob (v := .ref (He.ga K "OPENING")) (by rfl) M.opH (by rfl) M.opR) rfl) (qs_one (q_set (i := 2) C.nd rfl (by first | exact Or.inl rfl | exact Or.inr rfl) (q_op r_add (qv 2) q_int))) (qs_one (q_if (qt_cmp (r_eq hu) (q_ix (q_ix (qv 0) (qv 3)) q_int) q_str (nomark _)) (qs_one (q_set (i := 2) C.nd rfl (by first | exact Or.inl rfl | exact Or.inr rfl) (q_op r_sub (qv 2) q_int))) qs_nil))) (qs_one (q_set (i := 3) C.nd rfl (by first | exact Or.inl rfl | exact Or.inr rfl) (q_op r_add (qv 3) q_int))))) (qs_one (q_ret (qv 3))))))
theorem sc_or_of : FnScope ["lines", "k", "deep", "at"] ["lines", "k"] (defScope s_or_of) := ⟨rfl, rfl, rfl, by decide +kernel, rfl, by decide +kernel, by decide +kernel⟩
theorem w_or_of (M : Mg K mg) {f : Addr} {fd : FuncData} {sp : F3} (F : FunD K "or_of" "or_of" (defArgs s_or_of) (defBody s_or_of) (defScope s_or_of) [] [] f fd) (kp : Keeps 4 2 (b_or_of) sp) : Fn3 P w K mg base 1 f fd ["lines", "k"] sp :=
  fn3D (k := 0) F sc_or_of kp fun cdv A outer s H hr hgd => by
    have hu := hr.un
    replace hu : (A.deeper (envOfC "or_of" (defScope s_or_of) s.heap.objs.size f cdv)).units + 100 < cLine := by omega
    have C := sc_or_of
    exact (qs_cons (q_set (i := 2) C.nd rfl (by first | exact Or.inl rfl | exact Or.inr rfl) q_int) (qs_cons (q_set (i := 3) C.nd rfl (by first | exact Or.inl rfl | exact Or.inr rfl) (q_op r_add (qv 1) q_int)) (qs_cons (q_while PassesOwn.never (PW.pt (qw_or (qt_cmp r_gt (qv 2) q_int (nomark _)) (qw_or1 (qt_cmp (r_ne hu) (q_ix (q_ix (qv 0) (qv 3)) q_int) q_str (nomark _))))) (qs_cons (q_if (qt_cmp (r_in hu) (q_ix (q_ix (qv 0) (qv 3)) q_int) (q_glob (v := .ref (He.ga K "OPENING")) (by rfl) M.opH (by rfl) M.opR) rfl) (qs_one (q_set (i := 2) C.nd rfl (by first | exact Or.inl rfl | exact Or.inr rfl) (q_op r_add (qv 2) q_int))) (qs_one (q_if (qt_cmp (r_eq hu) (q_ix (q_ix (qv 0) (qv 3)) q_int) q_str (nomark _)) (qs_one (q_set (i := 2) C.nd rfl (by first | exact Or.inl rfl | exact Or.inr rfl) (q_op r_sub (qv 2) q_int))) qs_nil))) (qs_one (q_set (i := 3) C.nd rfl (by first | exact Or.inl rfl | exact Or.inr rfl) (q_op r_add (qv 3) q_int))))) (qs_one (q_ret (qv 3))))))
theorem sc_head_of : FnScope ["lines", "k", "deep", "at"] ["lines", "k"] (defScope s_head_of) := ⟨rfl, rfl, rfl, by decide +kernel, rfl, by decide +kernel, by decide +kernel⟩
theorem w_head_of (M : Mg K mg) {f : Addr} {fd : FuncData} {sp : F3} (F : FunD K "head_of" "head_of" (defArgs s_head_of) (defBody s_head_of) (defScope s_head_of) [] [] f fd) (kp : Keeps 4 2 (b_head_of) sp) : Fn3 P w K mg base 1 f fd ["lines", "k"] sp :=
  fn3D (k := 0) F sc_head_of kp fun cdv A outer s H hr hgd => by
    have hu := hr.un
    replace hu : (A.deeper (envOfC "head_of" (defScope s_head_of) s.heap.objs.size f cdv)).units + 100 < cLine := by omega
    have C := sc_head_of
    exact (qs_cons (q_set (i := 2) C.nd rfl (by first | exact Or.inl rfl | exact Or.inr rfl) q_int) (qs_cons (q_set (i := 3) C.nd rfl (by first | exact Or.inl rfl | exact Or.inr rfl) (q_op r_sub (qv 1) q_int)) (qs_cons (q_while PassesOwn.never (PW.pt (qw_or (qt_cmp r_gt (qv 2) q_int (nomark _)) (qw_or1 (qt_cmp (r_notin hu) (q_ix (q_ix (qv 0) (qv 3)) q_int) (q_glob (v := .ref (He.ga K "OPENING")) (by rfl) M.opH (by rfl) M.opR) rfl)))) (qs_cons (q_if (qt_cmp (r_eq hu) (q_ix (q_ix (qv 0) (qv 3)) q_int) q_str (nomark _)) (qs_one (q_set (i := 2) C.nd rfl (by first | exact Or.inl rfl | exact Or.inr rfl) (q_op r_add (qv 2) q_int))) (qs_one (q_if (qt_cmp (r_in hu) (q_ix (q_ix (qv 0) (qv 3)) q_int) (q_glob (v := .ref (He.ga K "OPENING")) (by rfl) M.opH (by rfl) M.opR) rfl) (qs_one (q_set (i := 2) C.nd rfl (by first | exact Or.inl rfl | exact Or.inr rfl) (q_op r_sub (qv 2) q_int))) qs_nil))) (qs_one (q_set (i := 3) C.nd rfl (by first | exact Or.inl rfl | exact Or.inr rfl) (q_op r_sub (qv 3) q_int))))) (qs_one (q_ret (qv 3))))))
theorem sc_number_of : FnScope ["program", "name", "number", "part"] ["program", "name"] (defScope s_number_of) := ⟨rfl, rfl, rfl, by decide +kernel, rfl, by decide +kernel, by decide +kernel⟩
theorem w_number_of (M : Mg K mg) {f : Addr} {fd : FuncData} {sp : F3} (F : FunD K "number_of" "number_of" (defArgs s_number_of) (defBody s_number_of) (defScope s_number_of) [] [] f fd) (kp : Keeps 4 2 (b_number_of) sp) : Fn3 P w K mg base 1 f fd ["program", "name"] sp :=
  fn3D (k := 0) F sc_number_of kp fun cdv A outer s H hr hgd => by
    have hu := hr.un
    replace hu : (A.deeper (envOfC "number_of" (defScope s_number_of) s.heap.objs.size f cdv)).units + 100 < cLine := by omega
    have C := sc_number_of
    exact (qs_cons (q_for PassesOwn.never rfl (qi_enum (by rfl) M.enumerate (qa_cons (qv 0) qa_nil)) (qg_tup rfl (qgs_cons (qg_name (i := 2) C.nd rfl (by first | exact Or.inl rfl | exact Or.inr rfl)) (qgs_cons (qg_name (i := 3) C.nd rfl (by first | exact Or.inl rfl | exact Or.inr rfl)) qgs_nil))) (qs_one (q_if (qt_cmp (r_eq hu) (q_ix (qv 3) q_int) (qv 1) (nomark _)) (qs_one (q_ret (qv 2))) qs_nil))) (qs_one (q_ret q_non)))
theorem sc_all_lines : FnScope ["program", "found", "part"] ["program"] (defScope s_all_lines) := ⟨rfl, rfl, rfl, by decide +kernel, rfl, by decide +kernel, by decide +kernel⟩
theorem w_all_lines (M : Mg K mg) {f : Addr} {fd : FuncData} {sp : F3} (F : FunD K "all_lines" "all_lines" (defArgs s_all_lines) (defBody s_all_lines) (defScope s_all_lines) [] [] f fd) (kp : Keeps 3 1 (b_all_lines) sp) : Fn3 P w K mg base 1 f fd ["program"] sp :=
  fn3D (k := 0) F sc_all_lines kp fun cdv A outer s H hr hgd => by
    have hu := hr.un
    replace hu : (A.deeper (envOfC "all_lines" (defScope s_all_lines) s.heap.objs.size f cdv)).units + 100 < cLine := by omega
    have C := sc_all_lines
    exact (qs_cons (q_set (i := 1) C.nd rfl (by first | exact Or.inl rfl | exact Or.inr rfl) (q_lst qa_nil)) (qs_cons (q_for PassesOwn.never rfl (qi_seq (qv 0)) (qg_name (i := 2) C.nd rfl (by first | exact Or.inl rfl | exact Or.inr rfl)) (qs_one (q_drop (q_extend (qv 1) (qa_cons (q_ix (qv 2) q_int) qa_nil))))) (qs_one (q_ret (qv 1)))))
theorem sc_words_of : FnScope ["program", "found", "line"] ["program"] (defScope s_words_of) := ⟨rfl, rfl, rfl, by decide +kernel, rfl, by decide +kernel, by decide +kernel⟩
theorem w_words_of (M : Mg K mg) {all_lines : F3} (c_all_lines : Cal P w K mg base 1 "all_lines" ["program"] all_lines) {f : Addr} {fd : FuncData} {sp : F3} (F : FunD K "words_of" "words_of" (defArgs s_words_of) (defBody s_words_of) (defScope s_words_of) [] [] f fd) (kp : Keeps 3 1 (b_words_of all_lines) sp) : Fn3 P w K mg base 2 f fd ["program"] sp :=
  fn3D (k := 1) F sc_words_of kp fun cdv A outer s H hr hgd => by
    have hu := hr.un
    replace hu : (A.deeper (envOfC "words_of" (defScope s_words_of) s.heap.objs.size f cdv)).units + 100 < cLine := by omega
    have C := sc_words_of
    exact (qs_cons (q_set (i := 1) C.nd rfl (by first | exact Or.inl rfl | exact Or.inr rfl) q_dK) (qs_cons (q_for PassesOwn.never rfl (qi_seq (q_callC c_all_lines hr (by decide) hgd (by rfl) (qa_cons (qv 0) qa_nil))) (qg_name (i := 2) C.nd rfl (by first | exact Or.inl rfl | exact Or.inr rfl)) (qs_one (q_if (qt_cmp (r_eq hu) (q_ix (qv 2) q_int) q_str (nomark _)) (qs_one (q_asg q_bl (qg_subK hu (qv 1) (q_ix (qv 2) q_int)))) qs_nil))) (qs_one (q_ret (q_bi (c_sortK rfl) (by rfl) M.sorted (by decide +kernel) (qa_cons (qv 1) qa_nil))))))
theorem sc_first_spot : FnScope [] [] (defScope s_first_spot) := ⟨rfl, rfl, rfl, by decide +kernel, rfl, by decide +kernel, by decide +kernel⟩
theorem w_first_spot (M : Mg K mg) {f : Addr} {fd : FuncData} {sp : F3} (F : FunD K "first_spot" "first_spot" (defArgs s_first_spot) (defBody s_first_spot) (defScope s_first_spot) [] [] f fd) (kp : Keeps 0 0 (b_first_spot) sp) : Fn3 P w K mg base 1 f fd [] sp :=
  fn3D (k := 0) F sc_first_spot kp fun cdv A outer s H hr hgd => by
    have hu := hr.un
    replace hu : (A.deeper (envOfC "first_spot" (defScope s_first_spot) s.heap.objs.size f cdv)).units + 100 < cLine := by omega
    have C := sc_first_spot
    exact (qs_one (q_ret (q_tup (qa_cons (q_tup qa_nil) (qa_cons q_int (qa_cons q_int (qa_cons q_bl qa_nil)))))))
theorem sc_place_of : FnScope ["spot"] ["spot"] (defScope s_place_of) := ⟨rfl, rfl, rfl, by decide +kernel, rfl, by decide +kernel, by decide +kernel⟩
theorem w_place_of (M : Mg K mg) {f : Addr} {fd : FuncData} {sp : F3} (F : FunD K "place_of" "place_of" (defArgs s_place_of) (defBody s_place_of) (defScope s_place_of) [] [] f fd) (kp : Keeps 1 1 (b_place_of) sp) : Fn3 P w K mg base 1 f fd ["spot"] sp :=
  fn3D (k := 0) F sc_place_of kp fun cdv A outer s H hr hgd => by
    have hu := hr.un
    replace hu : (A.deeper (envOfC "place_of" (defScope s_place_of) s.heap.objs.size f cdv)).units + 100 < cLine := by omega
    have C := sc_place_of
    exact (qs_cons (q_if (qt_val (q_ix (qv 0) q_int)) (qs_one (q_ret q_non)) qs_nil) (qs_one (q_ret (q_tup (qa_cons (q_ix (qv 0) q_int) (qa_cons (q_ix (qv 0) q_int) qa_nil))))))
theorem sc_line_of : FnScope ["program", "spot", "lines"] ["program", "spot"] (defScope s_line_of) := ⟨rfl, rfl, rfl, by decide +kernel, rfl, by decide +kernel, by decide +kernel⟩
theorem w_line_of (M : Mg K mg) {f : Addr} {fd : FuncData} {sp : F3} (F : FunD K "line_of" "line_of" (defArgs s_line_of) (defBody s_line_of) (defScope s_line_of) [] [] f fd) (kp : Keeps 3 2 (b_line_of) sp) : Fn3 P w K mg base 1 f fd ["program", "spot"] sp :=
  fn3D (k := 0) F sc_line_of kp fun cdv A outer s H hr hgd => by
    have hu := hr.un
    replace hu : (A.deeper (envOfC "line_of" (defScope s_line_of) s.heap.objs.size f cdv)).units + 100 < cLine := by omega
    have C := sc_line_of
    exact (qs_cons (q_set (i := 2) C.nd rfl (by first | exact Or.inl rfl | exact Or.inr rfl) (q_ix (q_ix (qv 0) (q_ix (qv 1) q_int)) q_int)) (qs_cons (q_if (PW.pt (qw_or (qt_val (q_ix (qv 1) q_int)) (qw_or1 (qt_cmp (r_eq hu) (q_ix (qv 1) q_int) (q_bi c_len (by rfl) M.len (by decide +kernel) (qa_cons (qv 2) qa_nil)) (nomark _))))) (qs_one (q_ret q_non)) qs_nil) (qs_one (q_ret (q_ix (qv 2) (q_ix (qv 1) q_int))))))
theorem sc_behind_part : FnScope ["way", "part", "k"] ["way"] (defScope s_behind_part) := ⟨rfl, rfl, rfl, by decide +kernel, rfl, by decide +kernel, by decide +kernel⟩
theorem w_behind_part (M : Mg K mg) {f : Addr} {fd : FuncData} {sp : F3} (F : FunD K "behind_part" "behind_part" (defArgs s_behind_part) (defBody s_behind_part) (defScope s_behind_part) [] [] f fd) (kp : Keeps 3 1 (b_behind_part) sp) : Fn3 P w K mg base 1 f fd ["way"] sp :=
  fn3D (k := 0) F sc_behind_part kp fun cdv A outer s H hr hgd => by
    have hu := hr.un
    replace hu : (A.deeper (envOfC "behind_part" (defScope s_behind_part) s.heap.objs.size f cdv)).units + 100 < cLine := by omega
    have C := sc_behind_part
    exact (qs_cons (q_if (qt_cmp (r_eq hu) (qv 0) (q_tup qa_nil) (nomark _)) (qs_one (q_ret (q_lst qa_nil))) qs_nil) (qs_cons (q_asg (q_ix (qv 0) q_m1) (qg_tup rfl (qgs_cons (qg_name (i := 1) C.nd rfl (by first | exact Or.inl rfl | exact Or.inr rfl)) (qgs_cons (qg_name (i := 2) C.nd rfl (by first | exact Or.inl rfl | exact Or.inr rfl)) qgs_nil)))) (qs_one (q_ret (q_lst (qa_cons (q_tup (qa_cons (q_sl (qv 0) qo_none (qo_some q_m1)) (qa_cons (qv 1) (qa_cons (q_op r_add (qv 2) q_int) (qa_cons q_bl qa_nil))))) qa_nil))))))
theorem sc_behind_end : FnScope ["way", "part", "lines", "k", "head"] ["way", "part", "lines", "k"] (defScope s_behind_end) := ⟨rfl, rfl, rfl, by decide +kernel, rfl, by decide +kernel, by decide +kernel⟩
theorem w_behind_end (M : Mg K mg) {head_of : F3} (c_head_of : Cal P w K mg base 1 "head_of" ["lines", "k"] head_of) {f : Addr} {fd : FuncData} {sp : F3} (F : FunD K "behind_end" "behind_end" (defArgs s_behind_end) (defBody s_behind_end) (defScope s_behind_end) [] [] f fd) (kp : Keeps 5 4 (b_behind_end head_of) sp) : Fn3 P w K mg base 2 f fd ["way", "part", "lines", "k"] sp :=
  fn3D (k := 1) F sc_behind_end kp fun cdv A outer s H hr hgd => by
    have hu := hr.un
    replace hu : (A.deeper (envOfC "behind_end" (defScope s_behind_end) s.heap.objs.size f cdv)).units + 100 < cLine := by omega
    have C := sc_behind_end
    exact (qs_cons (q_set (i := 4) C.nd rfl (by first | exact Or.inl rfl | exact Or.inr rfl) (q_callC c_head_of hr (by decide) hgd (by rfl) (qa_cons (qv 2) (qa_cons (qv 3) qa_nil)))) (qs_cons (q_if (qt_cmp (r_eq hu) (q_ix (q_ix (qv 2) (qv 4)) q_int) q_str (nomark _)) (qs_one (q_ret (q_lst (qa_cons (q_tup (qa_cons (qv 0) (qa_cons (qv 1) (qa_cons (qv 4) (qa_cons q_bl qa_nil))))) qa_nil)))) qs_nil) (qs_one (q_ret (q_lst (qa_cons (q_tup (qa_cons (qv 0) (qa_cons (qv 1) (qa_cons (q_op r_add (qv 3) q_int) (qa_cons q_bl qa_nil))))) qa_nil))))))
theorem sc_next_spots : FnScope ["program", "spot", "way", "part", "k", "head", "lines", "word"] ["program", "spot"] (defScope s_next_spots) := ⟨rfl, rfl, rfl, by decide +kernel, rfl, by decide +kernel, by decide +kernel⟩
theorem w_next_spots (M : Mg K mg) {behind_part : F3} (c_behind_part : Cal P w K mg base 1 "behind_part" ["way"] behind_part) {behind_end : F3} (c_behind_end : Cal P w K mg base 2 "behind_end" ["way", "part", "lines", "k"] behind_end) {number_of : F3} (c_number_of : Cal P w K mg base 1 "number_of" ["program", "name"] number_of) {end_of : F3} (c_end_of : Cal P w K mg base 1 "end_of" ["lines", "k"] end_of) {or_of : F3} (c_or_of : Cal P w K mg base 1 "or_of" ["lines", "k"] or_of) {f : Addr} {fd : FuncData} {sp : F3} (F : FunD K "next_spots" "next_spots" (defArgs s_next_spots) (defBody s_next_spots) (defScope s_next_spots) [] [] f fd) (kp : Keeps 8 2 (b_next_spots behind_part behind_end number_of end_of or_of) sp) : Fn3 P w K mg base 3 f fd ["program", "spot"] sp :=
  fn3D (k := 2) F sc_next_spots kp fun cdv A outer s H hr hgd => by
    have hu := hr.un
    replace hu : (A.deeper (envOfC "next_spots" (defScope s_next_spots) s.heap.objs.size f cdv)).units + 100 < cLine := by omega
    have C := sc_next_spots
    exact (qs_cons (q_asg (qv 1) (qg_tup rfl (qgs_cons (qg_name (i := 2) C.nd rfl (by first | exact Or.inl rfl | exact Or.inr rfl)) (qgs_cons (qg_name (i := 3) C.nd rfl (by first | exact Or.inl rfl | exact Or.inr rfl)) (qgs_cons (qg_name (i := 4) C.nd rfl (by first | exact Or.inl rfl | exact Or.inr rfl)) (qgs_cons (qg_name (i := 5) C.nd rfl (by first | exact Or.inl rfl | exact Or.inr rfl)) qgs_nil)))))) (qs_cons (q_set (i := 6) C.nd rfl (by first | exact Or.inl rfl | exact Or.inr rfl) (q_ix (q_ix (qv 0) (qv 3)) q_int)) (qs_cons (q_if (qt_val (qv 5)) (qs_one (q_ret (q_lst (qa_cons (q_tup (qa_cons (qv 2) (qa_cons (qv 3) (qa_cons (q_op r_add (q_callC c_end_of hr (by decide) hgd (by rfl) (qa_cons (qv 6) (qa_cons (qv 4) qa_nil))) q_int) (qa_cons q_bl qa_nil))))) (qa_cons (q_tup (qa_cons (qv 2) (qa_cons (qv 3) (qa_cons (q_op r_add (qv 4) q_int) (qa_cons q_bl qa_nil))))) qa_nil))))) qs_nil) (qs_cons (q_if (qt_cmp (r_eq hu) (qv 4) (q_bi c_len (by rfl) M.len (by decide +kernel) (qa_cons (qv 6) qa_nil)) (nomark _)) (qs_one (q_ret (q_callC c_behind_part hr (by decide) hgd (by rfl) (qa_cons (qv 2) qa_nil)))) qs_nil) (qs_cons (q_set (i := 7) C.nd rfl (by first | exact Or.inl rfl | exact Or.inr rfl) (q_ix (q_ix (qv 6) (qv 4)) q_int)) (qs_cons (q_if (qt_cmp (r_eq hu) (qv 7) q_str (nomark _)) (qs_one (q_ret (q_lst (qa_cons (q_tup (qa_cons (qv 2) (qa_cons (qv 3) (qa_cons (q_op r_add (qv 4) q_int) (qa_cons q_bl qa_nil))))) (qa_cons (q_tup (qa_cons (qv 2) (qa_cons (qv 3) (qa_cons (q_op r_add (q_callC c_or_of hr (by decide) hgd (by rfl) (qa_cons (qv 6) (qa_cons (qv 4) qa_nil))) q_int) (qa_cons q_bl qa_nil))))) qa_nil))))) qs_nil) (qs_cons (q_if (qt_cmp (r_eq hu) (qv 7) q_str (nomark _)) (qs_one (q_ret (q_lst (qa_cons (q_tup (qa_cons (qv 2) (qa_cons (qv 3) (qa_cons (q_op r_add (q_callC c_end_of hr (by decide) hgd (by rfl) (qa_cons (qv 6) (qa_cons (qv 4) qa_nil))) q_int) (qa_cons q_bl qa_nil))))) qa_nil)))) qs_nil) (qs_cons (q_if (qt_cmp (r_eq hu) (qv 7) q_str (nomark _)) (qs_one (q_ret (q_lst (qa_cons (q_tup (qa_cons (qv 2) (qa_cons (qv 3) (qa_cons (qv 4) (qa_cons q_bl qa_nil))))) qa_nil)))) qs_nil) (qs_cons (q_if (qt_cmp (r_eq hu) (qv 7) q_str (nomark _)) (qs_one (q_ret (q_callC c_behind_end hr (by decide) hgd (by rfl) (qa_cons (qv 2) (qa_cons (qv 3) (qa_cons (qv 6) (qa_cons (qv 4) qa_nil))))))) qs_nil) (qs_cons (q_if (qt_cmp (r_eq hu) (qv 7) q_str (nomark _)) (qs_one (q_ret (q_lst (qa_cons (q_tup (qa_cons (q_op r_add (qv 2) (q_tup (qa_cons (q_tup (qa_cons (qv 3) (qa_cons (qv 4) qa_nil))) qa_nil))) (qa_cons (q_callC c_number_of hr (by decide) hgd (by rfl) (qa_cons (qv 0) (qa_cons (q_ix (q_ix (qv 6) (qv 4)) q_int) qa_nil))) (qa_cons q_int (qa_cons q_bl qa_nil))))) qa_nil)))) qs_nil) (qs_one (q_ret (q_lst (qa_cons (q_tup (qa_cons (qv 2) (qa_cons (qv 3) (qa_cons (q_op r_add (qv 4) q_int) (qa_cons q_bl qa_nil))))) qa_nil))))))))))))))
theorem sc_spots : FnScope ["program", "found", "met", "waiting", "spot", "other"] ["program"] (defScope s_spots) := ⟨rfl, rfl, rfl, by decide +kernel, rfl, by decide +kernel, by decide +kernel⟩
theorem w_spots (M : Mg K mg) {first_spot : F3} (c_first_spot : Cal P w K mg base 1 "first_spot" [] first_spot) {next_spots : F3} (c_next_spots : Cal P w K mg base 3 "next_spots" ["program", "spot"] next_spots) {f : Addr} {fd : FuncData} {sp : F3} (F : FunD K "spots" "spots" (defArgs s_spots) (defBody s_spots) (defScope s_spots) [] [] f fd) (kp : Keeps 6 1 (b_spots first_spot next_spots) sp) : Fn3 P w K mg base 4 f fd ["program"] sp :=
  fn3D (k := 3) F sc_spots kp fun cdv A outer s H hr hgd => by
    have hu := hr.un
    replace hu : (A.deeper (envOfC "spots" (defScope s_spots) s.heap.objs.size f cdv)).units + 100 < cLine := by omega
    have C := sc_spots
    exact (qs_cons (q_set (i := 1) C.nd rfl (by first | exact Or.inl rfl | exact Or.inr rfl) (q_lst qa_nil)) (qs_cons (q_set (i := 2) C.nd rfl (by first | exact Or.inl rfl | exact Or.inr rfl) q_dT) (qs_cons (q_set (i := 3) C.nd rfl (by first | exact Or.inl rfl | exact Or.inr rfl) (q_lst (qa_cons (q_callC0 c_first_spot hr (by decide) hgd (by rfl)) qa_nil))) (qs_cons (q_while PassesOwn.never (qt_cmp (r_ne hu) (qv 3) (q_lst qa_nil) (nomark _)) (qs_cons (q_set (i := 4) C.nd rfl (by first | exact Or.inl rfl | exact Or.inr rfl) (q_pop (qv 3))) (qs_one (q_if (qt_cmp (r_notinT hu) (qv 4) (qv 2) rfl) (qs_cons (q_asg q_bl (qg_subT hu (qv 2) (qv 4))) (qs_cons (q_drop (q_append (qv 1) (qa_cons (qv 4) qa_nil))) (qs_one (q_for PassesOwn.never rfl (qi_rev (by rfl) M.reversed (qa_cons (q_callC c_next_spots hr (by decide) hgd (by rfl) (qa_cons (qv 0) (qa_cons (qv 4) qa_nil))) qa_nil)) (qg_name (i := 5) C.nd rfl (by first | exact Or.inl rfl | exact Or.inr rfl)) (qs_one (q_drop (q_append (qv 3) (qa_cons (qv 5) qa_nil)))))))) qs_nil)))) (qs_one (q_ret (qv 1)))))))
theorem sc_given_at : FnScope ["manner", "spot", "place", "word", "there"] ["manner", "spot"] (defScope s_given_at) := ⟨rfl, rfl, rfl, by decide +kernel, rfl, by decide +kernel, by decide +kernel⟩
theorem w_given_at (M : Mg K mg) {place_of : F3} (c_place_of : Cal P w K mg base 1 "place_of" ["spot"] place_of) {f : Addr} {fd : FuncData} {sp : F3} (F : FunD K "given_at" "given_at" (defArgs s_given_at) (defBody s_given_at) (defScope s_given_at) [] [] f fd) (kp : Keeps 5 2 (b_given_at place_of) sp) : Fn3 P w K mg base 2 f fd ["manner", "spot"] sp :=
  fn3D (k := 1) F sc_given_at kp fun cdv A outer s H hr hgd => by
    have hu := hr.un
    replace hu : (A.deeper (envOfC "given_at" (defScope s_given_at) s.heap.objs.size f cdv)).units + 100 < cLine := by omega
    have C := sc_given_at
    exact (qs_cons (q_set (i := 2) C.nd rfl (by first | exact Or.inl rfl | exact Or.inr rfl) (q_callC c_place_of hr (by decide) hgd (by rfl) (qa_cons (qv 1) qa_nil))) (qs_one (q_ret (q_lc rfl C.nd (qi_seq (qv 0)) (blkOk_by (own := [("word", 3), ("there", 4)]) (by kernel_rfl)) (tg_tup (tgs_cons (tg_name (by decide)) (tgs_cons (tg_name (by decide)) tgs_nil))) (fun _ _ _ _ _ => (pg_tup rfl (pgs_cons (pg_name (i := 3) C.nd rfl (by first | exact Or.inl rfl | exact Or.inr rfl)) (pgs_cons (pg_name (i := 4) C.nd rfl (by first | exact Or.inl rfl | exact Or.inr rfl)) pgs_nil)))) (fun _ _ _ _ _ => (qts_one (qt_cmp (r_eq hu) (qv 4) (qv 2) (nomark _)))) (fun _ _ _ _ _ => (qv 3))))))
theorem sc_made_at : FnScope ["program", "spot", "line"] ["program", "spot"] (defScope s_made_at) := ⟨rfl, rfl, rfl, by decide +kernel, rfl, by decide +kernel, by decide +kernel⟩
theorem w_made_at (M : Mg K mg) {line_of : F3} (c_line_of : Cal P w K mg base 1 "line_of" ["program", "spot"] line_of) {f : Addr} {fd : FuncData} {sp : F3} (F : FunD K "made_at" "made_at" (defArgs s_made_at) (defBody s_made_at) (defScope s_made_at) [] [] f fd) (kp : Keeps 3 2 (b_made_at line_of) sp) : Fn3 P w K mg base 2 f fd ["program", "spot"] sp :=
  fn3D (k := 1) F sc_made_at kp fun cdv A outer s H hr hgd => by
    have hu := hr.un
    replace hu : (A.deeper (envOfC "made_at" (defScope s_made_at) s.heap.objs.size f cdv)).units + 100 < cLine := by omega
    have C := sc_made_at
    exact (qs_cons (q_set (i := 2) C.nd rfl (by first | exact Or.inl rfl | exact Or.inr rfl) (q_callC c_line_of hr (by decide) hgd (by rfl) (qa_cons (qv 0) (qa_cons (qv 1) qa_nil)))) (qs_cons (q_if (PW.pt (qw_or (qt_isN (qv 2)) (qw_or1 (qt_cmp (r_ne hu) (q_ix (qv 2) q_int) q_str (nomark _))))) (qs_one (q_ret q_non)) qs_nil) (qs_one (q_ret (q_ix (qv 2) q_int)))))
theorem sc_spots_ahead : FnScope ["program", "found", "spot", "other"] ["program"] (defScope s_spots_ahead) := ⟨rfl, rfl, rfl, by decide +kernel, rfl, by decide +kernel, by decide +kernel⟩
theorem w_spots_ahead (M : Mg K mg) {spots : F3} (c_spots : Cal P w K mg base 4 "spots" ["program"] spots) {next_spots : F3} (c_next_spots : Cal P w K mg base 3 "next_spots" ["program", "spot"] next_spots) {f : Addr} {fd : FuncData} {sp : F3} (F : FunD K "spots_ahead" "spots_ahead" (defArgs s_spots_ahead) (defBody s_spots_ahead) (defScope s_spots_ahead) [] [] f fd) (kp : Keeps 4 1 (b_spots_ahead spots next_spots) sp) : Fn3 P w K mg base 5 f fd ["program"] sp :=
  fn3D (k := 4) F sc_spots_ahead kp fun cdv A outer s H hr hgd => by
    have hu := hr.un
    replace hu : (A.deeper (envOfC "spots_ahead" (defScope s_spots_ahead) s.heap.objs.size f cdv)).units + 100 < cLine := by omega
    have C := sc_spots_ahead
    exact (qs_cons (q_set (i := 1) C.nd rfl (by first | exact Or.inl rfl | exact Or.inr rfl) q_dT) (qs_cons (q_for PassesOwn.never rfl (qi_seq (q_callC c_spots hr (by decide) hgd (by rfl) (qa_cons (qv 0) qa_nil))) (qg_name (i := 2) C.nd rfl (by first | exact Or.inl rfl | exact Or.inr rfl)) (qs_one (q_asg (q_lst qa_nil) (qg_subT hu (qv 1) (qv 2))))) (qs_cons (q_for PassesOwn.never rfl (qi_seq (q_ty (c_listT rfl) (by rfl) M.list (by decide +kernel) (qa_cons (qv 1) qa_nil))) (qg_name (i := 2) C.nd rfl (by first | exact Or.inl rfl | exact Or.inr rfl)) (qs_one (q_for PassesOwn.never rfl (qi_seq (q_callC c_next_spots hr (by decide) hgd (by rfl) (qa_cons (qv 0) (qa_cons (qv 2) qa_nil)))) (qg_name (i := 3) C.nd rfl (by first | exact Or.inl rfl | exact Or.inr rfl)) (qs_one (q_drop (q_append (q_key hu (qv 1) (qv 3)) (qa_cons (qv 2) qa_nil))))))) (qs_one (q_ret (qv 1))))))
theorem sc_givings : FnScope ["program", "manner", "found", "spot"] ["program", "manner"] (defScope s_givings) := ⟨rfl, rfl, rfl, by decide +kernel, rfl, by decide +kernel, by decide +kernel⟩
theorem w_givings (M : Mg K mg) {spots : F3} (c_spots : Cal P w K mg base 4 "spots" ["program"] spots) {given_at : F3} (c_given_at : Cal P w K mg base 2 "given_at" ["manner", "spot"] given_at) {f : Addr} {fd : FuncData} {sp : F3} (F : FunD K "givings" "givings" (defArgs s_givings) (defBody s_givings) (defScope s_givings) [] [] f fd) (kp : Keeps 4 2 (b_givings spots given_at) sp) : Fn3 P w K mg base 5 f fd ["program", "manner"] sp :=
  fn3D (k := 4) F sc_givings kp fun cdv A outer s H hr hgd => by
    have hu := hr.un
    replace hu : (A.deeper (envOfC "givings" (defScope s_givings) s.heap.objs.size f cdv)).units + 100 < cLine := by omega
    have C := sc_givings
    exact (qs_cons (q_set (i := 2) C.nd rfl (by first | exact Or.inl rfl | exact Or.inr rfl) q_dT) (qs_cons (q_for PassesOwn.never rfl (qi_seq (q_callC c_spots hr (by decide) hgd (by rfl) (qa_cons (qv 0) qa_nil))) (qg_name (i := 3) C.nd rfl (by first | exact Or.inl rfl | exact Or.inr rfl)) (qs_one (q_asg (q_callC c_given_at hr (by decide) hgd (by rfl) (qa_cons (qv 1) (qa_cons (qv 3) qa_nil))) (qg_subT hu (qv 2) (qv 3))))) (qs_one (q_ret (qv 2)))))
theorem sc_rests : FnScope ["program", "gone", "ahead", "entry", "spot", "words", "found", "other", "left", "word"] ["program", "gone", "ahead", "entry"] (defScope s_rests) := ⟨rfl, rfl, rfl, by decide +kernel, rfl, by decide +kernel, by decide +kernel⟩
theorem w_rests (M : Mg K mg) {made_at : F3} (c_made_at : Cal P w K mg base 2 "made_at" ["program", "spot"] made_at) {f : Addr} {fd : FuncData} {sp : F3} (F : FunD K "rests" "rests" (defArgs s_rests) (defBody s_rests) (defScope s_rests) [] [] f fd) (kp : Keeps 10 4 (b_rests made_at) sp) : Fn3 P w K mg base 3 f fd ["program", "gone", "ahead", "entry"] sp :=
  fn3D (k := 2) F sc_rests kp fun cdv A outer s H hr hgd => by
    have hu := hr.un
    replace hu : (A.deeper (envOfC "rests" (defScope s_rests) s.heap.objs.size f cdv)).units + 100 < cLine := by omega
    have C := sc_rests
    exact (qs_cons (q_asg (qv 3) (qg_tup rfl (qgs_cons (qg_name (i := 4) C.nd rfl (by first | exact Or.inl rfl | exact Or.inr rfl)) (qgs_cons (qg_name (i := 5) C.nd rfl (by first | exact Or.inl rfl | exact Or.inr rfl)) qgs_nil)))) (qs_cons (q_set (i := 6) C.nd rfl (by first | exact Or.inl rfl | exact Or.inr rfl) (q_lst qa_nil)) (qs_cons (q_for PassesOwn.never rfl (qi_seq (q_key hu (qv 2) (qv 4))) (qg_name (i := 7) C.nd rfl (by first | exact Or.inl rfl | exact Or.inr rfl)) (qs_cons (q_set (i := 8) C.nd rfl (by first | exact Or.inl rfl | exact Or.inr rfl) (q_ty c_tuple (by rfl) M.tuple (by decide +kernel) (qa_cons (q_lc rfl C.nd (qi_seq (qv 5)) (blkOk_by (own := [("word", 9)]) (by kernel_rfl)) (tg_name (by decide)) (fun _ _ _ _ _ => (pg_name (i := 9) C.nd rfl (by first | exact Or.inl rfl | exact Or.inr rfl))) (fun _ _ _ _ _ => (qts_one (qt_cmp (r_notin hu) (qv 9) (q_key hu (qv 1) (qv 7)) rfl))) (fun _ _ _ _ _ => (qv 9))) qa_nil))) (qs_one (q_drop (q_append (qv 6) (qa_cons (q_tup (qa_cons (q_tup (qa_cons (qv 7) (qa_cons (qv 8) qa_nil))) (qa_cons (q_ty c_int (by rfl) M.int (by decide +kernel) (qa_cons (q_cmp (r_in hu) (q_callC c_made_at hr (by decide) hgd (by rfl) (qa_cons (qv 0) (qa_cons (qv 7) qa_nil))) (qv 5) rfl) qa_nil)) qa_nil))) qa_nil)))))) (qs_one (q_ret (qv 6))))))
theorem sc_makings : FnScope ["program", "word", "found", "spot", "line"] ["program", "word"] (defScope s_makings) := ⟨rfl, rfl, rfl, by decide +kernel, rfl, by decide +kernel, by decide +kernel⟩
theorem w_makings (M : Mg K mg) {spots : F3} (c_spots : Cal P w K mg base 4 "spots" ["program"] spots) {line_of : F3} (c_line_of : Cal P w K mg base 1 "line_of" ["program", "spot"] line_of) {f : Addr} {fd : FuncData} {sp : F3} (F : FunD K "makings" "makings" (defArgs s_makings) (defBody s_makings) (defScope s_makings) [] [] f fd) (kp : Keeps 5 2 (b_makings spots line_of) sp) : Fn3 P w K mg base 5 f fd ["program", "word"] sp :=
  fn3D (k := 4) F sc_makings kp fun cdv A outer s H hr hgd => by
    have hu := hr.un
    replace hu : (A.deeper (envOfC "makings" (defScope s_makings) s.heap.objs.size f cdv)).units + 100 < cLine := by omega
    have C := sc_makings
    exact (qs_cons (q_set (i := 2) C.nd rfl (by first | exact Or.inl rfl | exact Or.inr rfl) (q_lst qa_nil)) (qs_cons (q_for PassesOwn.never rfl (qi_seq (q_callC c_spots hr (by decide) hgd (by rfl) (qa_cons (qv 0) qa_nil))) (qg_name (i := 3) C.nd rfl (by first | exact Or.inl rfl | exact Or.inr rfl)) (qs_cons (q_set (i := 4) C.nd rfl (by first | exact Or.inl rfl | exact Or.inr rfl) (q_callC c_line_of hr (by decide) hgd (by rfl) (qa_cons (qv 0) (qa_cons (qv 3) qa_nil)))) (qs_one (q_if (PW.pt (qw_and (qt_notN (qv 4)) (qw_and (qt_cmp (r_eq hu) (q_ix (qv 4) q_int) q_str (nomark _)) (qw_and1 (qt_cmp (r_eq hu) (q_ix (qv 4) q_int) (qv 1) (nomark _)))))) (qs_one (q_drop (q_append (qv 2) (qa_cons (qv 3) qa_nil)))) qs_nil)))) (qs_one (q_ret (qv 2)))))
theorem sc_spots_at : FnScope ["program", "places", "spot"] ["program", "places"] (defScope s_spots_at) := ⟨rfl, rfl, rfl, by decide +kernel, rfl, by decide +kernel, by decide +kernel⟩
theorem w_spots_at (M : Mg K mg) {spots : F3} (c_spots : Cal P w K mg base 4 "spots" ["program"] spots) {place_of : F3} (c_place_of : Cal P w K mg base 1 "place_of" ["spot"] place_of) {f : Addr} {fd : FuncData} {sp : F3} (F : FunD K "spots_at" "spots_at" (defArgs s_spots_at) (defBody s_spots_at) (defScope s_spots_at) [] [] f fd) (kp : Keeps 3 2 (b_spots_at spots place_of) sp) : Fn3 P w K mg base 5 f fd ["program", "places"] sp :=
  fn3D (k := 4) F sc_spots_at kp fun cdv A outer s H hr hgd => by
    have hu := hr.un
    replace hu : (A.deeper (envOfC "spots_at" (defScope s_spots_at) s.heap.objs.size f cdv)).units + 100 < cLine := by omega
    have C := sc_spots_at
    exact (qs_one (q_ret (q_lc rfl C.nd (qi_seq (q_callC c_spots hr (by decide) hgd (by rfl) (qa_cons (qv 0) qa_nil))) (blkOk_by (own := [("spot", 2)]) (by kernel_rfl)) (tg_name (by decide)) (fun _ _ _ _ _ => (pg_name (i := 2) C.nd rfl (by first | exact Or.inl rfl | exact Or.inr rfl))) (fun _ _ _ _ _ => (qts_one (qt_cmp (r_in hu) (q_callC c_place_of hr (by decide) hgd (by rfl) (qa_cons (qv 2) qa_nil)) (qv 1) rfl))) (fun _ _ _ _ _ => (qv 2)))))
theorem sc_way_back : FnScope ["came", "spot", "row"] ["came", "spot"] (defScope s_way_back) := ⟨rfl, rfl, rfl, by decide +kernel, rfl, by decide +kernel, by decide +kernel⟩
theorem w_way_back (M : Mg K mg) {f : Addr} {fd : FuncData} {sp : F3} (F : FunD K "way_back" "way_back" (defArgs s_way_back) (defBody s_way_back) (defScope s_way_back) [] [] f fd) (kp : Keeps 3 2 (b_way_back) sp) : Fn3 P w K mg base 1 f fd ["came", "spot"] sp :=
  fn3D (k := 0) F sc_way_back kp fun cdv A outer s H hr hgd => by
    have hu := hr.un
    replace hu : (A.deeper (envOfC "way_back" (defScope s_way_back) s.heap.objs.size f cdv)).units + 100 < cLine := by omega
    have C := sc_way_back
    exact (qs_cons (q_set (i := 2) C.nd rfl (by first | exact Or.inl rfl | exact Or.inr rfl) (q_lst qa_nil)) (qs_cons (q_while PassesOwn.never (qt_notN (qv 1)) (qs_cons (q_drop (q_append (qv 2) (qa_cons (qv 1) qa_nil))) (qs_one (q_set (i := 1) C.nd rfl (by first | exact Or.inl rfl | exact Or.inr rfl) (q_key hu (qv 0) (qv 1)))))) (qs_cons (q_drop (q_reverse (qv 2))) (qs_one (q_ret (qv 2))))))
theorem sc_road : FnScope ["program", "starts", "goals", "barred", "came", "row", "spot", "at", "other"] ["program", "starts", "goals", "barred"] (defScope s_road) := ⟨rfl, rfl, rfl, by decide +kernel, rfl, by decide +kernel, by decide +kernel⟩
theorem w_road (M : Mg K mg) {way_back : F3} (c_way_back : Cal P w K mg base 1 "way_back" ["came", "spot"] way_back) {next_spots : F3} (c_next_spots : Cal P w K mg base 3 "next_spots" ["program", "spot"] next_spots) {f : Addr} {fd : FuncData} {sp : F3} (F : FunD K "road" "road" (defArgs s_road) (defBody s_road) (defScope s_road) [] [] f fd) (kp : Keeps 9 4 (b_road way_back next_spots) sp) : Fn3 P w K mg base 4 f fd ["program", "starts", "goals", "barred"] sp :=
  fn3D (k := 3) F sc_road kp fun cdv A outer s H hr hgd => by
    have hu := hr.un
    replace hu : (A.deeper (envOfC "road" (defScope s_road) s.heap.objs.size f cdv)).units + 100 < cLine := by omega
    have C := sc_road
    exact (qs_cons (q_set (i := 4) C.nd rfl (by first | exact Or.inl rfl | exact Or.inr rfl) q_dT) (qs_cons (q_set (i := 5) C.nd rfl (by first | exact Or.inl rfl | exact Or.inr rfl) (q_lst qa_nil)) (qs_cons (q_for PassesOwn.never rfl (qi_seq (qv 1)) (qg_name (i := 6) C.nd rfl (by first | exact Or.inl rfl | exact Or.inr rfl)) (qs_one (q_if (qt_cmp (r_notinT hu) (qv 6) (qv 4) rfl) (qs_cons (q_asg q_non (qg_subT hu (qv 4) (qv 6))) (qs_one (q_drop (q_append (qv 5) (qa_cons (qv 6) qa_nil))))) qs_nil))) (qs_cons (q_set (i := 7) C.nd rfl (by first | exact Or.inl rfl | exact Or.inr rfl) q_int) (qs_cons (q_while PassesOwn.never (qt_cmp r_lt (qv 7) (q_bi c_len (by rfl) M.len (by decide +kernel) (qa_cons (qv 5) qa_nil)) (nomark _)) (qs_cons (q_set (i := 6) C.nd rfl (by first | exact Or.inl rfl | exact Or.inr rfl) (q_ix (qv 5) (qv 7))) (qs_cons (q_set (i := 7) C.nd rfl (by first | exact Or.inl rfl | exact Or.inr rfl) (q_op r_add (qv 7) q_int)) (qs_cons (q_if (qt_cmp (r_in hu) (qv 6) (qv 2) rfl) (qs_one (q_ret (q_callC c_way_back hr (by decide) hgd (by rfl) (qa_cons (qv 4) (qa_cons (qv 6) qa_nil))))) qs_nil) (qs_one (q_if (qt_cmp (r_notin hu) (qv 6) (qv 3) rfl) (qs_one (q_for PassesOwn.never rfl (qi_seq (q_callC c_next_spots hr (by decide) hgd (by rfl) (qa_cons (qv 0) (qa_cons (qv 6) qa_nil)))) (qg_name (i := 8) C.nd rfl (by first | exact Or.inl rfl | exact Or.inr rfl)) (qs_one (q_if (qt_cmp (r_notinT hu) (qv 8) (qv 4) rfl) (qs_cons (q_asg (qv 6) (qg_subT hu (qv 4) (qv 8))) (qs_one (q_drop (q_append (qv 5) (qa_cons (qv 8) qa_nil))))) qs_nil)))) qs_nil)))))) (qs_one (q_ret q_non)))))))
theorem sc_run_to : FnScope ["program", "spot"] ["program", "spot"] (defScope s_run_to) := ⟨rfl, rfl, rfl, by decide +kernel, rfl, by decide +kernel, by decide +kernel⟩
theorem w_run_to (M : Mg K mg) {road : F3} (c_road : Cal P w K mg base 4 "road" ["program", "starts", "goals", "barred"] road) {first_spot : F3} (c_first_spot : Cal P w K mg base 1 "first_spot" [] first_spot) {f : Addr} {fd : FuncData} {sp : F3} (F : FunD K "run_to" "run_to" (defArgs s_run_to) (defBody s_run_to) (defScope s_run_to) [] [] f fd) (kp : Keeps 2 2 (b_run_to road first_spot) sp) : Fn3 P w K mg base 5 f fd ["program", "spot"] sp :=
  fn3D (k := 4) F sc_run_to kp fun cdv A outer s H hr hgd => by
    have hu := hr.un
    replace hu : (A.deeper (envOfC "run_to" (defScope s_run_to) s.heap.objs.size f cdv)).units + 100 < cLine := by omega
    have C := sc_run_to
    exact (qs_one (q_ret (q_callC c_road hr (by decide) hgd (by rfl) (qa_cons (qv 0) (qa_cons (q_lst (qa_cons (q_callC0 c_first_spot hr (by decide) hgd (by rfl)) qa_nil)) (qa_cons (q_lst (qa_cons (qv 1) qa_nil)) (qa_cons (q_lst qa_nil) qa_nil)))))))
theorem sc_growing_round : FnScope ["program", "manner", "word", "barred", "spot", "found", "other", "place"] ["program", "manner", "word"] (defScope s_growing_round) := ⟨rfl, rfl, rfl, by decide +kernel, rfl, by decide +kernel, by decide +kernel⟩
theorem w_growing_round (M : Mg K mg) {spots_at : F3} (c_spots_at : Cal P w K mg base 5 "spots_at" ["program", "places"] spots_at) {makings : F3} (c_makings : Cal P w K mg base 5 "makings" ["program", "word"] makings) {road : F3} (c_road : Cal P w K mg base 4 "road" ["program", "starts", "goals", "barred"] road) {next_spots : F3} (c_next_spots : Cal P w K mg base 3 "next_spots" ["program", "spot"] next_spots) {f : Addr} {fd : FuncData} {sp : F3} (F : FunD K "growing_round" "growing_round" (defArgs s_growing_round) (defBody s_growing_round) (defScope s_growing_round) [] [] f fd) (kp : Keeps 8 3 (b_growing_round spots_at makings road next_spots) sp) : Fn3 P w K mg base 6 f fd ["program", "manner", "word"] sp :=
  fn3D (k := 5) F sc_growing_round kp fun cdv A outer s H hr hgd => by
    have hu := hr.un
    replace hu : (A.deeper (envOfC "growing_round" (defScope s_growing_round) s.heap.objs.size f cdv)).units + 100 < cLine := by omega
    have C := sc_growing_round
    exact (qs_cons (q_set (i := 3) C.nd rfl (by first | exact Or.inl rfl | exact Or.inr rfl) (q_callC c_spots_at hr (by decide) hgd (by rfl) (qa_cons (qv 0) (qa_cons (q_lc rfl C.nd (qi_seq (qv 1)) (blkOk_by (own := [("other", 6), ("place", 7)]) (by kernel_rfl)) (tg_tup (tgs_cons (tg_name (by decide)) (tgs_cons (tg_name (by decide)) tgs_nil))) (fun _ _ _ _ _ => (pg_tup rfl (pgs_cons (pg_name (i := 6) C.nd rfl (by first | exact Or.inl rfl | exact Or.inr rfl)) (pgs_cons (pg_name (i := 7) C.nd rfl (by first | exact Or.inl rfl | exact Or.inr rfl)) pgs_nil)))) (fun _ _ _ _ _ => (qts_one (qt_cmp (r_eq hu) (qv 6) (qv 2) (nomark _)))) (fun _ _ _ _ _ => (qv 7))) qa_nil)))) (qs_cons (q_for PassesOwn.never rfl (qi_seq (q_callC c_makings hr (by decide) hgd (by rfl) (qa_cons (qv 0) (qa_cons (qv 2) qa_nil)))) (qg_name (i := 4) C.nd rfl (by first | exact Or.inl rfl | exact Or.inr rfl)) (qs_one (q_if (qt_cmp (r_notin hu) (qv 4) (qv 3) rfl) (qs_cons (q_set (i := 5) C.nd rfl (by first | exact Or.inl rfl | exact Or.inr rfl) (q_callC c_road hr (by decide) hgd (by rfl) (qa_cons (qv 0) (qa_cons (q_callC c_next_spots hr (by decide) hgd (by rfl) (qa_cons (qv 0) (qa_cons (qv 4) qa_nil))) (qa_cons (q_lst (qa_cons (qv 4) qa_nil)) (qa_cons (qv 3) qa_nil)))))) (qs_one (q_if (qt_notN (qv 5)) (qs_one (q_ret (q_op r_add (q_lst (qa_cons (qv 4) qa_nil)) (qv 5)))) qs_nil))) qs_nil))) (qs_one (q_ret q_non))))
theorem sc_wanted_entries : FnScope ["program", "manner", "ahead", "gone", "words", "rows", "waiting", "entry", "spot", "one", "more"] ["program", "manner"] (defScope s_wanted_entries) := ⟨rfl, rfl, rfl, by decide +kernel, rfl, by decide +kernel, by decide +kernel⟩
theorem w_wanted_entries (M : Mg K mg) {spots_ahead : F3} (c_spots_ahead : Cal P w K mg base 5 "spots_ahead" ["program"] spots_ahead) {givings : F3} (c_givings : Cal P w K mg base 5 "givings" ["program", "manner"] givings) {words_of : F3} (c_words_of : Cal P w K mg base 2 "words_of" ["program"] words_of) {rests : F3} (c_rests : Cal P w K mg base 3 "rests" ["program", "gone", "ahead", "entry"] rests) {f : Addr} {fd : FuncData} {sp : F3} (F : FunD K "wanted_entries" "wanted_entries" (defArgs s_wanted_entries) (defBody s_wanted_entries) (defScope s_wanted_entries) [] [] f fd) (kp : Keeps 11 2 (b_wanted_entries spots_ahead givings words_of rests) sp) : Fn3 P w K mg base 6 f fd ["program", "manner"] sp :=
  fn3D (k := 5) F sc_wanted_entries kp fun cdv A outer s H hr hgd => by
    have hu := hr.un
    replace hu : (A.deeper (envOfC "wanted_entries" (defScope s_wanted_entries) s.heap.objs.size f cdv)).units + 100 < cLine := by omega
    have C := sc_wanted_entries
    exact (qs_cons (q_set (i := 2) C.nd rfl (by first | exact Or.inl rfl | exact Or.inr rfl) (q_callC c_spots_ahead hr (by decide) hgd (by rfl) (qa_cons (qv 0) qa_nil))) (qs_cons (q_set (i := 3) C.nd rfl (by first | exact Or.inl rfl | exact Or.inr rfl) (q_callC c_givings hr (by decide) hgd (by rfl) (qa_cons (qv 0) (qa_cons (qv 1) qa_nil)))) (qs_cons (q_set (i := 4) C.nd rfl (by first | exact Or.inl rfl | exact Or.inr rfl) (q_ty c_tuple (by rfl) M.tuple (by decide +kernel) (qa_cons (q_callC c_words_of hr (by decide) hgd (by rfl) (qa_cons (qv 0) qa_nil)) qa_nil))) (qs_cons (q_set (i := 5) C.nd rfl (by first | exact Or.inl rfl | exact Or.inr rfl) q_dT) (qs_cons (qs_lock (q_setLc (i := 6) rfl C.nd rfl rfl (sw_true rfl rfl rfl (by decide +kernel)) (qi_keys 2) (blkOk_by (own := [("spot", 8)]) (by kernel_rfl)) (tg_name (by decide)) (fun _ _ _ _ _ => (pg_name (i := 8) C.nd rfl (by first | exact Or.inl rfl | exact Or.inr rfl))) (fun _ _ _ _ _ => qts_nil) (fun _ _ _ _ _ => (q_tup (qa_cons (qv 8) (qa_cons (qv 4) qa_nil)))))) (qs_cons (q_while PassesOwn.never (qt_cmp (r_ne hu) (qv 6) (q_lst qa_nil) (nomark _)) (qs_cons (q_set (i := 7) C.nd rfl (by first | exact Or.inl rfl | exact Or.inr rfl) (q_pop (qv 6))) (qs_one (q_if (qt_cmp (r_notinT hu) (qv 7) (qv 5) rfl) (qs_cons (q_asg (q_callC c_rests hr (by decide) hgd (by rfl) (qa_cons (qv 0) (qa_cons (qv 3) (qa_cons (qv 2) (qa_cons (qv 7) qa_nil))))) (qg_subT hu (qv 5) (qv 7))) (qs_one (q_drop (q_extend (qv 6) (qa_cons (q_lc rfl C.nd (qi_seq (q_key hu (qv 5) (qv 7))) (blkOk_by (own := [("one", 9), ("more", 10)]) (by kernel_rfl)) (tg_tup (tgs_cons (tg_name (by decide)) (tgs_cons (tg_name (by decide)) tgs_nil))) (fun _ _ _ _ _ => (pg_tup rfl (pgs_cons (pg_name (i := 9) C.nd rfl (by first | exact Or.inl rfl | exact Or.inr rfl)) (pgs_cons (pg_name (i := 10) C.nd rfl (by first | exact Or.inl rfl | exact Or.inr rfl)) pgs_nil)))) (fun _ _ _ _ _ => qts_nil) (fun _ _ _ _ _ => (qv 9))) qa_nil))))) qs_nil)))) (qs_one (q_ret (qv 5)))))))))
theorem sc_bettered : FnScope ["rows", "numbers", "came", "entry", "changed", "one", "more"] ["rows"] (defScope s_bettered) := ⟨rfl, rfl, rfl, by decide +kernel, rfl, by decide +kernel, by decide +kernel⟩
theorem w_bettered (M : Mg K mg) {f : Addr} {fd : FuncData} {sp : F3} (F : FunD K "bettered" "bettered" (defArgs s_bettered) (defBody s_bettered) (defScope s_bettered) [] [] f fd) (kp : Keeps 7 1 (b_bettered) sp) : Fn3 P w K mg base 1 f fd ["rows"] sp :=
  fn3D (k := 0) F sc_bettered kp fun cdv A outer s H hr hgd => by
    have hu := hr.un
    replace hu : (A.deeper (envOfC "bettered" (defScope s_bettered) s.heap.objs.size f cdv)).units + 100 < cLine := by omega
    have C := sc_bettered
    exact (qs_cons (q_set (i := 1) C.nd rfl (by first | exact Or.inl rfl | exact Or.inr rfl) q_dT) (qs_cons (q_set (i := 2) C.nd rfl (by first | exact Or.inl rfl | exact Or.inr rfl) q_dT) (qs_cons (qs_lock (q_for PassesOwn.never rfl (qi_keys 0) (qg_name (i := 3) C.nd rfl (by first | exact Or.inl rfl | exact Or.inr rfl)) (qs_cons (q_asg q_int (qg_subT hu (qv 1) (qv 3))) (qs_one (q_asg q_non (qg_subT hu (qv 2) (qv 3))))))) (qs_cons (q_set (i := 4) C.nd rfl (by first | exact Or.inl rfl | exact Or.inr rfl) q_bl) (qs_cons (q_while PassesOwn.never (qt_val (qv 4)) (qs_cons (q_set (i := 4) C.nd rfl (by first | exact Or.inl rfl | exact Or.inr rfl) q_bl) (qs_one (q_for PassesOwn.never rfl (qi_rev (by rfl) M.reversed (qa_cons (q_ty (c_listT rfl) (by rfl) M.list (by decide +kernel) (qa_cons (qv 0) qa_nil)) qa_nil)) (qg_name (i := 3) C.nd rfl (by first | exact Or.inl rfl | exact Or.inr rfl)) (qs_one (q_for PassesOwn.never rfl (qi_seq (q_key hu (qv 0) (qv 3))) (qg_tup rfl (qgs_cons (qg_name (i := 5) C.nd rfl (by first | exact Or.inl rfl | exact Or.inr rfl)) (qgs_cons (qg_name (i := 6) C.nd rfl (by first | exact Or.inl rfl | exact Or.inr rfl)) qgs_nil))) (qs_one (q_if (qt_cmp r_gt (q_op r_add (q_key hu (qv 1) (qv 5)) (qv 6)) (q_key hu (qv 1) (qv 3)) (nomark _)) (qs_cons (q_asg (q_op r_add (q_key hu (qv 1) (qv 5)) (qv 6)) (qg_subT hu (qv 1) (qv 3))) (qs_cons (q_asg (qv 5) (qg_subT hu (qv 2) (qv 3))) (qs_one (q_set (i := 4) C.nd rfl (by first | exact Or.inl rfl | exact Or.inr rfl) q_bl)))) qs_nil)))))))) (qs_one (q_ret (q_tup (qa_cons (qv 1) (qa_cons (qv 2) qa_nil))))))))))
theorem sc_run_back : FnScope ["program", "came", "entry", "row"] ["program", "came", "entry"] (defScope s_run_back) := ⟨rfl, rfl, rfl, by decide +kernel, rfl, by decide +kernel, by decide +kernel⟩
theorem w_run_back (M : Mg K mg) {run_to : F3} (c_run_to : Cal P w K mg base 5 "run_to" ["program", "spot"] run_to) {f : Addr} {fd : FuncData} {sp : F3} (F : FunD K "run_back" "run_back" (defArgs s_run_back) (defBody s_run_back) (defScope s_run_back) [] [] f fd) (kp : Keeps 4 3 (b_run_back run_to) sp) : Fn3 P w K mg base 6 f fd ["program", "came", "entry"] sp :=
  fn3D (k := 5) F sc_run_back kp fun cdv A outer s H hr hgd => by
    have hu := hr.un
    replace hu : (A.deeper (envOfC "run_back" (defScope s_run_back) s.heap.objs.size f cdv)).units + 100 < cLine := by omega
    have C := sc_run_back
    exact (qs_cons (q_set (i := 3) C.nd rfl (by first | exact Or.inl rfl | exact Or.inr rfl) (q_lst qa_nil)) (qs_cons (q_while PassesOwn.never (qt_notN (qv 2)) (qs_cons (q_drop (q_append (qv 3) (qa_cons (q_ix (qv 2) q_int) qa_nil))) (qs_one (q_set (i := 2) C.nd rfl (by first | exact Or.inl rfl | exact Or.inr rfl) (q_key hu (qv 1) (qv 2)))))) (qs_cons (q_drop (q_reverse (qv 3))) (qs_one (q_ret (q_op r_add (q_sl (q_callC c_run_to hr (by decide) hgd (by rfl) (qa_cons (qv 0) (qa_cons (q_ix (qv 3) q_int) qa_nil))) qo_none (qo_some q_m1)) (qv 3)))))))
theorem sc_table_of : FnScope ["program", "numbers", "places", "n", "spot", "words"] ["program", "numbers"] (defScope s_table_of) := ⟨rfl, rfl, rfl, by decide +kernel, rfl, by decide +kernel, by decide +kernel⟩
theorem w_table_of (M : Mg K mg) {spots : F3} (c_spots : Cal P w K mg base 4 "spots" ["program"] spots) {f : Addr} {fd : FuncData} {sp : F3} (F : FunD K "table_of" "table_of" (defArgs s_table_of) (defBody s_table_of) (defScope s_table_of) [] [] f fd) (kp : Keeps 6 2 (b_table_of spots) sp) : Fn3 P w K mg base 5 f fd ["program", "numbers"] sp :=
  fn3D (k := 4) F sc_table_of kp fun cdv A outer s H hr hgd => by
    have hu := hr.un
    replace hu : (A.deeper (envOfC "table_of" (defScope s_table_of) s.heap.objs.size f cdv)).units + 100 < cLine := by omega
    have C := sc_table_of
    exact (qs_cons (q_set (i := 2) C.nd rfl (by first | exact Or.inl rfl | exact Or.inr rfl) q_dT) (qs_cons (q_for PassesOwn.never rfl (qi_enum (by rfl) M.enumerate (qa_cons (q_callC c_spots hr (by decide) hgd (by rfl) (qa_cons (qv 0) qa_nil)) qa_nil)) (qg_tup rfl (qgs_cons (qg_name (i := 3) C.nd rfl (by first | exact Or.inl rfl | exact Or.inr rfl)) (qgs_cons (qg_name (i := 4) C.nd rfl (by first | exact Or.inl rfl | exact Or.inr rfl)) qgs_nil))) (qs_one (q_asg (qv 3) (qg_subT hu (qv 2) (qv 4))))) (qs_one (qs_lock (q_ret (q_bi (c_sortRows hu) (by rfl) M.sorted (by decide +kernel) (qa_cons (q_lc rfl C.nd (qi_keys 1) (blkOk_by (own := [("spot", 4), ("words", 5)]) (by kernel_rfl)) (tg_tup (tgs_cons (tg_name (by decide)) (tgs_cons (tg_name (by decide)) tgs_nil))) (fun _ _ _ _ _ => (pg_tup rfl (pgs_cons (pg_name (i := 4) C.nd rfl (by first | exact Or.inl rfl | exact Or.inr rfl)) (pgs_cons (pg_name (i := 5) C.nd rfl (by first | exact Or.inl rfl | exact Or.inr rfl)) pgs_nil)))) (fun _ _ _ _ _ => qts_nil) (fun _ _ _ _ _ => (q_tup (qa_cons (q_key hu (qv 2) (qv 4)) (qa_cons (qv 5) (qa_cons (q_key hu (qv 1) (q_tup (qa_cons (qv 4) (qa_cons (qv 5) qa_nil)))) qa_nil)))))) qa_nil)))))))
theorem sc_most : FnScope ["program", "manner", "word", "found", "numbers", "came", "words", "best", "spot"] ["program", "manner"] (defScope s_most) := ⟨rfl, rfl, rfl, by decide +kernel, rfl, by decide +kernel, by decide +kernel⟩
theorem w_most (M : Mg K mg) {words_of : F3} (c_words_of : Cal P w K mg base 2 "words_of" ["program"] words_of) {bettered : F3} (c_bettered : Cal P w K mg base 1 "bettered" ["rows"] bettered) {spots : F3} (c_spots : Cal P w K mg base 4 "spots" ["program"] spots) {growing_round : F3} (c_growing_round : Cal P w K mg base 6 "growing_round" ["program", "manner", "word"] growing_round) {wanted_entries : F3} (c_wanted_entries : Cal P w K mg base 6 "wanted_entries" ["program", "manner"] wanted_entries) {first_spot : F3} (c_first_spot : Cal P w K mg base 1 "first_spot" [] first_spot) {run_back : F3} (c_run_back : Cal P w K mg base 6 "run_back" ["program", "came", "entry"] run_back) {table_of : F3} (c_table_of : Cal P w K mg base 5 "table_of" ["program", "numbers"] table_of) {run_to : F3} (c_run_to : Cal P w K mg base 5 "run_to" ["program", "spot"] run_to) {f : Addr} {fd : FuncData} {sp : F3} (F : FunD K "most" "most" (defArgs s_most) (defBody s_most) (defScope s_most) [] [] f fd) (kp : Keeps 9 2 (b_most words_of bettered spots growing_round wanted_entries first_spot run_back table_of run_to) sp) : Fn3 P w K mg base 7 f fd ["program", "manner"] sp :=
  fn3D (k := 6) F sc_most kp fun cdv A outer s H hr hgd => by
    have hu := hr.un
    replace hu : (A.deeper (envOfC "most" (defScope s_most) s.heap.objs.size f cdv)).units + 100 < cLine := by omega
    have C := sc_most
    exact (qs_cons (q_for PassesOwn.never rfl (qi_seq (q_callC c_words_of hr (by decide) hgd (by rfl) (qa_cons (qv 0) qa_nil))) (qg_name (i := 2) C.nd rfl (by first | exact Or.inl rfl | exact Or.inr rfl)) (qs_cons (q_set (i := 3) C.nd rfl (by first | exact Or.inl rfl | exact Or.inr rfl) (q_callC c_growing_round hr (by decide) hgd (by rfl) (qa_cons (qv 0) (qa_cons (qv 1) (qa_cons (qv 2) qa_nil))))) (qs_one (q_if (qt_notN (qv 3)) (qs_one (q_ret (q_tup (qa_cons q_str (qa_cons (qv 2) (qa_cons (q_callC c_run_to hr (by decide) hgd (by rfl) (qa_cons (qv 0) (qa_cons (q_ix (qv 3) q_int) qa_nil))) (qa_cons (qv 3) qa_nil))))))) qs_nil)))) (qs_cons (q_asg (q_callC c_bettered hr (by decide) hgd (by rfl) (qa_cons (q_callC c_wanted_entries hr (by decide) hgd (by rfl) (qa_cons (qv 0) (qa_cons (qv 1) qa_nil))) qa_nil)) (qg_tup rfl (qgs_cons (qg_name (i := 4) C.nd rfl (by first | exact Or.inl rfl | exact Or.inr rfl)) (qgs_cons (qg_name (i := 5) C.nd rfl (by first | exact Or.inl rfl | exact Or.inr rfl)) qgs_nil)))) (qs_cons (q_set (i := 6) C.nd rfl (by first | exact Or.inl rfl | exact Or.inr rfl) (q_ty c_tuple (by rfl) M.tuple (by decide +kernel) (qa_cons (q_callC c_words_of hr (by decide) hgd (by rfl) (qa_cons (qv 0) qa_nil)) qa_nil))) (qs_cons (q_set (i := 7) C.nd rfl (by first | exact Or.inl rfl | exact Or.inr rfl) (q_tup (qa_cons (q_callC0 c_first_spot hr (by decide) hgd (by rfl)) (qa_cons (qv 6) qa_nil)))) (qs_cons (q_for PassesOwn.never rfl (qi_seq (q_callC c_spots hr (by decide) hgd (by rfl) (qa_cons (qv 0) qa_nil))) (qg_name (i := 8) C.nd rfl (by first | exact Or.inl rfl | exact Or.inr rfl)) (qs_one (q_if (qt_cmp r_gt (q_key hu (qv 4) (q_tup (qa_cons (qv 8) (qa_cons (qv 6) qa_nil)))) (q_key hu (qv 4) (qv 7)) (nomark _)) (qs_one (q_set (i := 7) C.nd rfl (by first | exact Or.inl rfl | exact Or.inr rfl) (q_tup (qa_cons (qv 8) (qa_cons (qv 6) qa_nil))))) qs_nil))) (qs_one (q_ret (q_tup (qa_cons q_str (qa_cons (q_key hu (qv 4) (qv 7)) (qa_cons (q_callC c_run_back hr (by decide) hgd (by rfl) (qa_cons (qv 0) (qa_cons (qv 5) (qa_cons (qv 7) qa_nil)))) (qa_cons (q_callC c_table_of hr (by decide) hgd (by rfl) (qa_cons (qv 0) (qa_cons (qv 4) qa_nil))) qa_nil))))))))))))
theorem sc_law_feed : FnScope ["script", "k", "cell", "digits"] ["script", "k"] (defScope s_law_feed) := ⟨rfl, rfl, rfl, by decide +kernel, rfl, by decide +kernel, by decide +kernel⟩
theorem w_law_feed (M : Mg K mg) {f : Addr} {fd : FuncData} {sp : F3} (F : FunD K "_law_feed" "_law_feed" (defArgs s_law_feed) (defBody s_law_feed) (defScope s_law_feed) [] [] f fd) (kp : Keeps 4 2 (b_law_feed) sp) : Fn3 P w K mg base 1 f fd ["script", "k"] sp :=
  fn3D (k := 0) F sc_law_feed kp fun cdv A outer s H hr hgd => by
    have hu := hr.un
    replace hu : (A.deeper (envOfC "_law_feed" (defScope s_law_feed) s.heap.objs.size f cdv)).units + 100 < cLine := by omega
    have C := sc_law_feed
    exact (qs_cons (q_set (i := 2) C.nd rfl (by first | exact Or.inl rfl | exact Or.inr rfl) q_int) (qs_cons (q_if (qt_cmp r_lt (qv 1) (q_bi c_len (by rfl) M.len (by decide +kernel) (qa_cons (qv 0) qa_nil)) (nomark _)) (qs_one (q_set (i := 2) C.nd rfl (by first | exact Or.inl rfl | exact Or.inr rfl) (q_ix (qv 0) (qv 1)))) qs_nil) (qs_cons (q_set (i := 3) C.nd rfl (by first | exact Or.inl rfl | exact Or.inr rfl) q_int) (qs_cons (q_if (qt_cmp r_ge (qv 2) (q_op r_pow q_int q_int) (nomark _)) (qs_one (q_set (i := 3) C.nd rfl (by first | exact Or.inl rfl | exact Or.inr rfl) (q_op r_sub (qv 2) (q_op r_pow q_int q_int)))) qs_nil) (qs_one (q_ret (q_lst (qa_cons (qv 3) (qa_cons (q_op r_add (q_op r_mod (q_op r_mul (q_op r_mod (qv 2) q_int) q_int) q_int) (qv 1)) qa_nil)))))))))
theorem sc_law_take : FnScope ["feed", "many", "found"] ["feed", "many"] (defScope s_law_take) := ⟨rfl, rfl, rfl, by decide +kernel, rfl, by decide +kernel, by decide +kernel⟩
theorem w_law_take (M : Mg K mg) {f : Addr} {fd : FuncData} {sp : F3} (F : FunD K "_law_take" "_law_take" (defArgs s_law_take) (defBody s_law_take) (defScope s_law_take) [] [] f fd) (kp : Keeps 3 2 (b_law_take) sp) : Fn3 P w K mg base 1 f fd ["feed", "many"] sp :=
  fn3D (k := 0) F sc_law_take kp fun cdv A outer s H hr hgd => by
    have hu := hr.un
    replace hu : (A.deeper (envOfC "_law_take" (defScope s_law_take) s.heap.objs.size f cdv)).units + 100 < cLine := by omega
    have C := sc_law_take
    exact (qs_cons (q_if (qt_cmp r_gt (q_ix (qv 0) q_int) q_int (nomark _)) (qs_cons (q_set (i := 2) C.nd rfl (by first | exact Or.inl rfl | exact Or.inr rfl) (q_op r_mod (q_ix (qv 0) q_int) (qv 1))) (qs_cons (q_asg (q_op r_div (q_ix (qv 0) q_int) (qv 1)) (qg_subL (qv 0) q_int)) (qs_one (q_ret (qv 2))))) qs_nil) (qs_cons (q_asg (q_op r_mod (q_op r_add (q_op r_mul (q_ix (qv 0) q_int) q_int) q_int) q_int) (qg_subL (qv 0) q_int)) (qs_one (q_ret (q_op r_mod (q_op r_div (q_ix (qv 0) q_int) q_int) (qv 1))))))
theorem sc_law_names : FnScope ["feed", "many", "letters", "filler", "first", "step", "size", "place", "back", "k"] ["feed", "many"] (defScope s_law_names) := ⟨rfl, rfl, rfl, by decide +kernel, rfl, by decide +kernel, by decide +kernel⟩
theorem w_law_names (M : Mg K mg) {law_take : F3} (c_law_take : Cal P w K mg base 1 "_law_take" ["feed", "many"] law_take) {f : Addr} {fd : FuncData} {sp : F3} (F : FunD K "_law_names" "_law_names" (defArgs s_law_names) (defBody s_law_names) (defScope s_law_names) [] [] f fd) (kp : Keeps 10 2 (b_law_names law_take) sp) : Fn3 P w K mg base 2 f fd ["feed", "many"] sp :=
  fn3D (k := 1) F sc_law_names kp fun cdv A outer s H hr hgd => by
    have hu := hr.un
    replace hu : (A.deeper (envOfC "_law_names" (defScope s_law_names) s.heap.objs.size f cdv)).units + 100 < cLine := by omega
    have C := sc_law_names
    exact (qs_cons (q_set (i := 2) C.nd rfl (by first | exact Or.inl rfl | exact Or.inr rfl) q_str) (qs_cons (q_set (i := 3) C.nd rfl (by first | exact Or.inl rfl | exact Or.inr rfl) (q_ix (qv 2) (q_callC c_law_take hr (by decide) hgd (by rfl) (qa_cons (qv 0) (qa_cons q_int qa_nil))))) (qs_cons (q_if (qt_cmp (r_eq hu) (q_callC c_law_take hr (by decide) hgd (by rfl) (qa_cons (qv 0) (qa_cons q_int qa_nil))) q_int (nomark _)) (qs_one (q_ret (q_lc rfl C.nd (qi_range1 (by rfl) M.range (qa_cons (qv 1) qa_nil)) (blkOk_by (own := [("k", 9)]) (by kernel_rfl)) (tg_name (by decide)) (fun _ _ _ _ _ => (pg_name (i := 9) C.nd rfl (by first | exact Or.inl rfl | exact Or.inr rfl))) (fun _ _ _ _ _ => qts_nil) (fun _ _ _ _ _ => (q_op r_mul (qv 3) (q_op r_add (qv 9) q_int)))))) qs_nil) (qs_cons (q_set (i := 4) C.nd rfl (by first | exact Or.inl rfl | exact Or.inr rfl) (q_callC c_law_take hr (by decide) hgd (by rfl) (qa_cons (qv 0) (qa_cons q_int qa_nil)))) (qs_cons (q_set (i := 5) C.nd rfl (by first | exact Or.inl rfl | exact Or.inr rfl) (q_ix (q_lst (qa_cons q_int (qa_cons q_int (qa_cons q_int (qa_cons q_int (qa_cons q_int (qa_cons q_int qa_nil))))))) (q_callC c_law_take hr (by decide) hgd (by rfl) (qa_cons (qv 0) (qa_cons q_int qa_nil))))) (qs_cons (q_set (i := 6) C.nd rfl (by first | exact Or.inl rfl | exact Or.inr rfl) (q_ix (q_lst (qa_cons q_int (qa_cons q_int (qa_cons q_int (qa_cons q_int (qa_cons q_int (qa_cons q_int (qa_cons q_int (qa_cons q_int qa_nil))))))))) (q_callC c_law_take hr (by decide) hgd (by rfl) (qa_cons (qv 0) (qa_cons q_int qa_nil))))) (qs_cons (q_set (i := 7) C.nd rfl (by first | exact Or.inl rfl | exact Or.inr rfl) (q_callC c_law_take hr (by decide) hgd (by rfl) (qa_cons (qv 0) (qa_cons (qv 6) qa_nil)))) (qs_cons (q_set (i := 8) C.nd rfl (by first | exact Or.inl rfl | exact Or.inr rfl) (q_op r_mul (qv 3) (q_op r_sub (q_op r_sub (qv 6) q_int) (qv 7)))) (qs_one (q_ret (q_lc rfl C.nd (qi_range1 (by rfl) M.range (qa_cons (qv 1) qa_nil)) (blkOk_by (own := [("k", 9)]) (by kernel_rfl)) (tg_name (by decide)) (fun _ _ _ _ _ => (pg_name (i := 9) C.nd rfl (by first | exact Or.inl rfl | exact Or.inr rfl))) (fun _ _ _ _ _ => qts_nil) (fun _ _ _ _ _ => (q_op r_add (q_op r_add (q_op r_mul (qv 3) (qv 7)) (q_ix (qv 2) (q_op r_mod (q_op r_add (qv 4) (q_op r_mul (qv 5) (qv 9))) q_int))) (qv 8))))))))))))))
theorem sc_law_plain : FnScope ["feed", "boxes", "words", "way", "x", "y", "z"] ["feed", "boxes", "words"] (defScope s_law_plain) := ⟨rfl, rfl, rfl, by decide +kernel, rfl, by decide +kernel, by decide +kernel⟩
theorem w_law_plain (M : Mg K mg) {law_take : F3} (c_law_take : Cal P w K mg base 1 "_law_take" ["feed", "many"] law_take) {f : Addr} {fd : FuncData} {sp : F3} (F : FunD K "_law_plain" "_law_plain" (defArgs s_law_plain) (defBody s_law_plain) (defScope s_law_plain) [] [] f fd) (kp : Keeps 7 3 (b_law_plain law_take) sp) : Fn3 P w K mg base 2 f fd ["feed", "boxes", "words"] sp :=
  fn3D (k := 1) F sc_law_plain kp fun cdv A outer s H hr hgd => by
    have hu := hr.un
    replace hu : (A.deeper (envOfC "_law_plain" (defScope s_law_plain) s.heap.objs.size f cdv)).units + 100 < cLine := by omega
    have C := sc_law_plain
    exact (qs_cons (q_set (i := 3) C.nd rfl (by first | exact Or.inl rfl | exact Or.inr rfl) (q_callC c_law_take hr (by decide) hgd (by rfl) (qa_cons (qv 0) (qa_cons q_int qa_nil)))) (qs_cons (q_set (i := 4) C.nd rfl (by first | exact Or.inl rfl | exact Or.inr rfl) (q_ix (qv 1) (q_callC c_law_take hr (by decide) hgd (by rfl) (qa_cons (qv 0) (qa_cons (q_bi c_len (by rfl) M.len (by decide +kernel) (qa_cons (qv 1) qa_nil)) qa_nil))))) (qs_cons (q_set (i := 5) C.nd rfl (by first | exact Or.inl rfl | exact Or.inr rfl) (q_ix (qv 1) (q_callC c_law_take hr (by decide) hgd (by rfl) (qa_cons (qv 0) (qa_cons (q_bi c_len (by rfl) M.len (by decide +kernel) (qa_cons (qv 1) qa_nil)) qa_nil))))) (qs_cons (q_if (qt_cmp r_lt (qv 3) q_int (nomark _)) (qs_cons (q_set (i := 6) C.nd rfl (by first | exact Or.inl rfl | exact Or.inr rfl) (q_ix (qv 1) (q_callC c_law_take hr (by decide) hgd (by rfl) (qa_cons (qv 0) (qa_cons (q_bi c_len (by rfl) M.len (by decide +kernel) (qa_cons (qv 1) qa_nil)) qa_nil))))) (qs_one (q_ret (q_tup (qa_cons q_str (qa_cons (qv 4) (qa_cons (q_ix (qv 2) (q_callC c_law_take hr (by decide) hgd (by rfl) (qa_cons (qv 0) (qa_cons (q_bi c_len (by rfl) M.len (by decide +kernel) (qa_cons (qv 2) qa_nil)) qa_nil)))) (qa_cons (qv 5) (qa_cons (qv 6) qa_nil))))))))) qs_nil) (qs_one (q_ret (q_ix (q_lst (qa_cons (q_tup (qa_cons q_str (qa_cons (qv 4) (qa_cons (qv 5) qa_nil)))) (qa_cons (q_tup (qa_cons q_str (qa_cons (qv 4) (qa_cons (qv 5) qa_nil)))) (qa_cons (q_tup (qa_cons q_str (qa_cons (qv 4) (qa_cons (qv 5) qa_nil)))) (qa_cons (q_tup (qa_cons q_str (qa_cons (qv 4) qa_nil))) (qa_cons (q_tup (qa_cons q_str (qa_cons (qv 5) qa_nil))) (qa_cons (q_tup (qa_cons q_str (qa_cons (qv 4) qa_nil))) qa_nil))))))) (q_op r_sub (qv 3) q_int))))))))
theorem sc_law_step_on : FnScope ["lines", "opened"] ["lines", "opened"] (defScope s_law_step_on) := ⟨rfl, rfl, rfl, by decide +kernel, rfl, by decide +kernel, by decide +kernel⟩
theorem w_law_step_on (M : Mg K mg) {f : Addr} {fd : FuncData} {sp : F3} (F : FunD K "_law_step_on" "_law_step_on" (defArgs s_law_step_on) (defBody s_law_step_on) (defScope s_law_step_on) [] [] f fd) (kp : Keeps 2 2 (b_law_step_on) sp) : Fn3 P w K mg base 1 f fd ["lines", "opened"] sp :=
  fn3D (k := 0) F sc_law_step_on kp fun cdv A outer s H hr hgd => by
    have hu := hr.un
    replace hu : (A.deeper (envOfC "_law_step_on" (defScope s_law_step_on) s.heap.objs.size f cdv)).units + 100 < cLine := by omega
    have C := sc_law_step_on
    exact (qs_one (q_if (qt_cmp (r_eq hu) (q_ix (qv 1) q_m1) q_str (nomark _)) (qs_cons (q_drop (q_append (qv 0) (qa_cons (q_tup (qa_cons q_str qa_nil)) qa_nil))) (qs_one (q_asg q_str (qg_subL (qv 1) q_m1)))) (qs_cons (q_drop (q_append (qv 0) (qa_cons (q_tup (qa_cons q_str qa_nil)) qa_nil))) (qs_one (q_drop (q_pop (qv 1)))))))
theorem sc_law_part : FnScope ["feed", "size", "menus", "later", "opens", "dos", "lines", "opened", "k", "way"] ["feed", "size", "menus", "later", "opens", "dos"] (defScope s_law_part) := ⟨rfl, rfl, rfl, by decide +kernel, rfl, by decide +kernel, by decide +kernel⟩
theorem w_law_part (M : Mg K mg) {law_take : F3} (c_law_take : Cal P w K mg base 1 "_law_take" ["feed", "many"] law_take) {law_step_on : F3} (c_law_step_on : Cal P w K mg base 1 "_law_step_on" ["lines", "opened"] law_step_on) {law_plain : F3} (c_law_plain : Cal P w K mg base 2 "_law_plain" ["feed", "boxes", "words"] law_plain) {f : Addr} {fd : FuncData} {sp : F3} (F : FunD K "_law_part" "_law_part" (defArgs s_law_part) (defBody s_law_part) (defScope s_law_part) [] [] f fd) (kp : Keeps 10 6 (b_law_part law_take law_step_on law_plain) sp) : Fn3 P w K mg base 3 f fd ["feed", "size", "menus", "later", "opens", "dos"] sp :=
  fn3D (k := 2) F sc_law_part kp fun cdv A outer s H hr hgd => by
    have hu := hr.un
    replace hu : (A.deeper (envOfC "_law_part" (defScope s_law_part) s.heap.objs.size f cdv)).units + 100 < cLine := by omega
    have C := sc_law_part
    exact (qs_cons (q_set (i := 6) C.nd rfl (by first | exact Or.inl rfl | exact Or.inr rfl) (q_lst qa_nil)) (qs_cons (q_set (i := 7) C.nd rfl (by first | exact Or.inl rfl | exact Or.inr rfl) (q_lst qa_nil)) (qs_cons (q_for PassesOwn.never rfl (qi_range1 (by rfl) M.range (qa_cons (qv 1) qa_nil)) (qg_name (i := 8) C.nd rfl (by first | exact Or.inl rfl | exact Or.inr rfl)) (qs_cons (q_set (i := 9) C.nd rfl (by first | exact Or.inl rfl | exact Or.inr rfl) (q_callC c_law_take hr (by decide) hgd (by rfl) (qa_cons (qv 0) (qa_cons q_int qa_nil)))) (qs_one (q_if (PW.pt (qw_and (qt_cmp r_lt (qv 9) q_int (nomark _)) (qw_and1 (qt_cmp r_gt (qv 4) q_int (nomark _))))) (qs_cons (q_drop (q_append (qv 7) (qa_cons (q_ix (q_lst (qa_cons q_str (qa_cons q_str (qa_cons q_str qa_nil)))) (qv 9)) qa_nil))) (qs_cons (q_drop (q_append (qv 6) (qa_cons (q_tup (qa_cons (q_ix (qv 7) q_m1) qa_nil)) qa_nil))) (qs_one (q_set (i := 4) C.nd rfl (by first | exact Or.inl rfl | exact Or.inr rfl) (q_op r_sub (qv 4) q_int))))) (qs_one (q_if (PW.pt (qw_and (qt_cmp r_lt (qv 9) q_int (nomark _)) (qw_and1 (qt_cmp r_gt (q_bi c_len (by rfl) M.len (by decide +kernel) (qa_cons (qv 7) qa_nil)) q_int (nomark _))))) (qs_one (q_drop (q_callC c_law_step_on hr (by decide) hgd (by rfl) (qa_cons (qv 6) (qa_cons (qv 7) qa_nil))))) (qs_one (q_if (PW.pt (qw_and (qt_cmp (r_in hu) (qv 9) (q_lst (qa_cons q_int (qa_cons q_int qa_nil))) rfl) (qw_and (qt_cmp r_gt (qv 5) q_int (nomark _)) (qw_and1 (qt_cmp r_gt (q_bi c_len (by rfl) M.len (by decide +kernel) (qa_cons (qv 3) qa_nil)) q_int (nomark _)))))) (qs_cons (q_drop (q_append (qv 6) (qa_cons (q_tup (qa_cons q_str (qa_cons (q_ix (qv 3) (q_callC c_law_take hr (by decide) hgd (by rfl) (qa_cons (qv 0) (qa_cons (q_bi c_len (by rfl) M.len (by decide +kernel) (qa_cons (qv 3) qa_nil)) qa_nil)))) qa_nil))) qa_nil))) (qs_one (q_set (i := 5) C.nd rfl (by first | exact Or.inl rfl | exact Or.inr rfl) (q_op r_sub (qv 5) q_int)))) (qs_one (q_drop (q_append (qv 6) (qa_cons (q_callC c_law_plain hr (by decide) hgd (by rfl) (qa_cons (qv 0) (qa_cons (q_ix (qv 2) q_int) (qa_cons (q_ix (qv 2) q_int) qa_nil)))) qa_nil)))))))))))) (qs_cons (q_while PassesOwn.never (qt_cmp r_gt (q_bi c_len (by rfl) M.len (by decide +kernel) (qa_cons (qv 7) qa_nil)) q_int (nomark _)) (qs_one (q_drop (q_callC c_law_step_on hr (by decide) hgd (by rfl) (qa_cons (qv 6) (qa_cons (qv 7) qa_nil)))))) (qs_one (q_ret (q_ty c_tuple (by rfl) M.tuple (by decide +kernel) (qa_cons (qv 6) qa_nil))))))))
theorem sc_law_program : FnScope ["feed", "bounds", "menus", "names", "size", "found", "k"] ["feed", "bounds"] (defScope s_law_program) := ⟨rfl, rfl, rfl, by decide +kernel, rfl, by decide +kernel, by decide +kernel⟩
theorem w_law_program (M : Mg K mg) {law_names : F3} (c_law_names : Cal P w K mg base 2 "_law_names" ["feed", "many"] law_names) {law_take : F3} (c_law_take : Cal P w K mg base 1 "_law_take" ["feed", "many"] law_take) {law_part : F3} (c_law_part : Cal P w K mg base 3 "_law_part" ["feed", "size", "menus", "later", "opens", "dos"] law_part) {f : Addr} {fd : FuncData} {sp : F3} (F : FunD K "_law_program" "_law_program" (defArgs s_law_program) (defBody s_law_program) (defScope s_law_program) [] [] f fd) (kp : Keeps 7 2 (b_law_program law_names law_take law_part) sp) : Fn3 P w K mg base 4 f fd ["feed", "bounds"] sp :=
  fn3D (k := 3) F sc_law_program kp fun cdv A outer s H hr hgd => by
    have hu := hr.un
    replace hu : (A.deeper (envOfC "_law_program" (defScope s_law_program) s.heap.objs.size f cdv)).units + 100 < cLine := by omega
    have C := sc_law_program
    exact (qs_cons (q_set (i := 2) C.nd rfl (by first | exact Or.inl rfl | exact Or.inr rfl) (q_tup (qa_cons (q_callC c_law_names hr (by decide) hgd (by rfl) (qa_cons (qv 0) (qa_cons (q_op r_add q_int (q_callC c_law_take hr (by decide) hgd (by rfl) (qa_cons (qv 0) (qa_cons (q_ix (qv 1) q_int) qa_nil)))) qa_nil))) (qa_cons (q_callC c_law_names hr (by decide) hgd (by rfl) (qa_cons (qv 0) (qa_cons (q_op r_add q_int (q_callC c_law_take hr (by decide) hgd (by rfl) (qa_cons (qv 0) (qa_cons (q_ix (qv 1) q_int) qa_nil)))) qa_nil))) qa_nil)))) (qs_cons (q_set (i := 3) C.nd rfl (by first | exact Or.inl rfl | exact Or.inr rfl) (q_callC c_law_names hr (by decide) hgd (by rfl) (qa_cons (qv 0) (qa_cons (q_op r_add q_int (q_callC c_law_take hr (by decide) hgd (by rfl) (qa_cons (qv 0) (qa_cons (q_ix (qv 1) q_int) qa_nil)))) qa_nil)))) (qs_cons (q_set (i := 4) C.nd rfl (by first | exact Or.inl rfl | exact Or.inr rfl) (q_op r_sub (q_ix (qv 1) q_int) (q_callC c_law_take hr (by decide) hgd (by rfl) (qa_cons (qv 0) (qa_cons q_int qa_nil))))) (qs_cons (q_if (qt_cmp (r_eq hu) (q_callC c_law_take hr (by decide) hgd (by rfl) (qa_cons (qv 0) (qa_cons q_int qa_nil))) q_int (nomark _)) (qs_one (q_set (i := 4) C.nd rfl (by first | exact Or.inl rfl | exact Or.inr rfl) (q_callC c_law_take hr (by decide) hgd (by rfl) (qa_cons (qv 0) (qa_cons (q_op r_add (qv 4) q_int) qa_nil))))) qs_nil) (qs_cons (q_set (i := 5) C.nd rfl (by first | exact Or.inl rfl | exact Or.inr rfl) (q_lst (qa_cons (q_tup (qa_cons (q_ix (qv 3) q_int) (qa_cons (q_callC c_law_part hr (by decide) hgd (by rfl) (qa_cons (qv 0) (qa_cons (qv 4) (qa_cons (qv 2) (qa_cons (q_sl (qv 3) (qo_some q_int) qo_none) (qa_cons q_int (qa_cons q_int qa_nil))))))) qa_nil))) qa_nil))) (qs_cons (q_for PassesOwn.never rfl (qi_range2 (by rfl) M.range (qa_cons q_int (qa_cons (q_bi c_len (by rfl) M.len (by decide +kernel) (qa_cons (qv 3) qa_nil)) qa_nil))) (qg_name (i := 6) C.nd rfl (by first | exact Or.inl rfl | exact Or.inr rfl)) (qs_one (q_drop (q_append (qv 5) (qa_cons (q_tup (qa_cons (q_ix (qv 3) (qv 6)) (qa_cons (q_callC c_law_part hr (by decide) hgd (by rfl) (qa_cons (qv 0) (qa_cons (q_callC c_law_take hr (by decide) hgd (by rfl) (qa_cons (qv 0) (qa_cons q_int qa_nil))) (qa_cons (qv 2) (qa_cons (q_sl (qv 3) (qo_some (q_op r_add (qv 6) q_int)) qo_none) (qa_cons q_int (qa_cons q_int qa_nil))))))) qa_nil))) qa_nil))))) (qs_one (q_ret (q_ty c_tuple (by rfl) M.tuple (by decide +kernel) (qa_cons (qv 5) qa_nil))))))))))
theorem sc_law_blocks : FnScope ["lines", "rows", "opened", "k", "line"] ["lines"] (defScope s_law_blocks) := ⟨rfl, rfl, rfl, by decide +kernel, rfl, by decide +kernel, by decide +kernel⟩
theorem w_law_blocks (M : Mg K mg) {f : Addr} {fd : FuncData} {sp : F3} (F : FunD K "_law_blocks" "_law_blocks" (defArgs s_law_blocks) (defBody s_law_blocks) (defScope s_law_blocks) [] [] f fd) (kp : Keeps 5 1 (b_law_blocks) sp) : Fn3 P w K mg base 1 f fd ["lines"] sp :=
  fn3D (k := 0) F sc_law_blocks kp fun cdv A outer s H hr hgd => by
    have hu := hr.un
    replace hu : (A.deeper (envOfC "_law_blocks" (defScope s_law_blocks) s.heap.objs.size f cdv)).units + 100 < cLine := by omega
    have C := sc_law_blocks
    exact (qs_cons (q_setLc (i := 1) rfl C.nd rfl rfl (sw_true rfl rfl rfl (by decide +kernel)) (qi_seq (qv 0)) (blkOk_by (own := [("line", 4)]) (by kernel_rfl)) (tg_name (by decide)) (fun _ _ _ _ _ => (pg_name (i := 4) C.nd rfl (by first | exact Or.inl rfl | exact Or.inr rfl))) (fun _ _ _ _ _ => qts_nil) (fun _ _ _ _ _ => q_non)) (qs_cons (q_set (i := 2) C.nd rfl (by first | exact Or.inl rfl | exact Or.inr rfl) (q_lst qa_nil)) (qs_cons (q_for PassesOwn.never rfl (qi_range1 (by rfl) M.range (qa_cons (q_bi c_len (by rfl) M.len (by decide +kernel) (qa_cons (qv 0) qa_nil)) qa_nil)) (qg_name (i := 3) C.nd rfl (by first | exact Or.inl rfl | exact Or.inr rfl)) (qs_cons (q_if (PW.pt (qw_or (qt_cmp (r_eq hu) (q_ix (q_ix (qv 0) (qv 3)) q_int) q_str (nomark _)) (qw_or1 (qt_cmp (r_eq hu) (q_ix (q_ix (qv 0) (qv 3)) q_int) q_str (nomark _))))) (qs_one (q_drop (q_append (qv 2) (qa_cons (q_lst (qa_cons (qv 3) (qa_cons (qv 3) (qa_cons (qv 3) qa_nil)))) qa_nil)))) qs_nil) (qs_cons (q_if (qt_cmp r_gt (q_bi c_len (by rfl) M.len (by decide +kernel) (qa_cons (qv 2) qa_nil)) q_int (nomark _)) (qs_one (q_asg (q_ix (qv 2) q_m1) (qg_subL (qv 1) (qv 3)))) qs_nil) (qs_cons (q_if (qt_cmp (r_eq hu) (q_ix (q_ix (qv 0) (qv 3)) q_int) q_str (nomark _)) (qs_one (q_asg (qv 3) (qg_subL (q_ix (qv 2) q_m1) q_int))) qs_nil) (qs_one (q_if (qt_cmp (r_eq hu) (q_ix (q_ix (qv 0) (qv 3)) q_int) q_str (nomark _)) (qs_cons (q_asg (qv 3) (qg_subL (q_ix (qv 2) q_m1) q_int)) (qs_one (q_drop (q_pop (qv 2))))) qs_nil)))))) (qs_one (q_ret (qv 1))))))
theorem sc_law_next : FnScope ["program", "rows", "spot", "way", "part", "k", "head", "lines", "word", "name", "inner"] ["program", "rows", "spot"] (defScope s_law_next) := ⟨rfl, rfl, rfl, by decide +kernel, rfl, by decide +kernel, by decide +kernel⟩
theorem w_law_next (M : Mg K mg) {f : Addr} {fd : FuncData} {sp : F3} (F : FunD K "_law_next" "_law_next" (defArgs s_law_next) (defBody s_law_next) (defScope s_law_next) [] [] f fd) (kp : Keeps 11 3 (b_law_next) sp) : Fn3 P w K mg base 1 f fd ["program", "rows", "spot"] sp :=
  fn3D (k := 0) F sc_law_next kp fun cdv A outer s H hr hgd => by
    have hu := hr.un
    replace hu : (A.deeper (envOfC "_law_next" (defScope s_law_next) s.heap.objs.size f cdv)).units + 100 < cLine := by omega
    have C := sc_law_next
    exact (qs_cons (q_asg (qv 2) (qg_tup rfl (qgs_cons (qg_name (i := 3) C.nd rfl (by first | exact Or.inl rfl | exact Or.inr rfl)) (qgs_cons (qg_name (i := 4) C.nd rfl (by first | exact Or.inl rfl | exact Or.inr rfl)) (qgs_cons (qg_name (i := 5) C.nd rfl (by first | exact Or.inl rfl | exact Or.inr rfl)) (qgs_cons (qg_name (i := 6) C.nd rfl (by first | exact Or.inl rfl | exact Or.inr rfl)) qgs_nil)))))) (qs_cons (q_set (i := 7) C.nd rfl (by first | exact Or.inl rfl | exact Or.inr rfl) (q_ix (q_ix (qv 0) (qv 4)) q_int)) (qs_cons (q_if (qt_val (qv 6)) (qs_one (q_ret (q_lst (qa_cons (q_tup (qa_cons (qv 3) (qa_cons (qv 4) (qa_cons (q_op r_add (q_ix (q_ix (q_ix (qv 1) (qv 4)) (qv 5)) q_int) q_int) (qa_cons q_bl qa_nil))))) (qa_cons (q_tup (qa_cons (qv 3) (qa_cons (qv 4) (qa_cons (q_op r_add (qv 5) q_int) (qa_cons q_bl qa_nil))))) qa_nil))))) qs_nil) (qs_cons (q_if (PW.pt (qw_and (qt_cmp (r_eq hu) (qv 5) (q_bi c_len (by rfl) M.len (by decide +kernel) (qa_cons (qv 7) qa_nil)) (nomark _)) (qw_and1 (qt_cmp r_gt (q_bi c_len (by rfl) M.len (by decide +kernel) (qa_cons (qv 3) qa_nil)) q_int (nomark _))))) (qs_one (q_ret (q_lst (qa_cons (q_tup (qa_cons (q_sl (qv 3) qo_none (qo_some q_m1)) (qa_cons (q_ix (q_ix (qv 3) q_m1) q_int) (qa_cons (q_op r_add (q_ix (q_ix (qv 3) q_m1) q_int) q_int) (qa_cons q_bl qa_nil))))) qa_nil)))) qs_nil) (qs_cons (q_if (qt_cmp (r_eq hu) (qv 5) (q_bi c_len (by rfl) M.len (by decide +kernel) (qa_cons (qv 7) qa_nil)) (nomark _)) (qs_one (q_ret (q_lst qa_nil))) qs_nil) (qs_cons (q_set (i := 8) C.nd rfl (by first | exact Or.inl rfl | exact Or.inr rfl) (q_ix (q_ix (qv 7) (qv 5)) q_int)) (qs_cons (q_if (qt_cmp (r_eq hu) (qv 8) q_str (nomark _)) (qs_one (q_ret (q_lst (qa_cons (q_tup (qa_cons (qv 3) (qa_cons (qv 4) (qa_cons (q_op r_add (qv 5) q_int) (qa_cons q_bl qa_nil))))) (qa_cons (q_tup (qa_cons (qv 3) (qa_cons (qv 4) (qa_cons (q_op r_add (q_ix (q_ix (q_ix (qv 1) (qv 4)) (qv 5)) q_int) q_int) (qa_cons q_bl qa_nil))))) qa_nil))))) qs_nil) (qs_cons (q_if (qt_cmp (r_eq hu) (qv 8) q_str (nomark _)) (qs_one (q_ret (q_lst (qa_cons (q_tup (qa_cons (qv 3) (qa_cons (qv 4) (qa_cons (q_op r_add (q_ix (q_ix (q_ix (qv 1) (qv 4)) (qv 5)) q_int) q_int) (qa_cons q_bl qa_nil))))) qa_nil)))) qs_nil) (qs_cons (q_if (qt_cmp (r_eq hu) (qv 8) q_str (nomark _)) (qs_one (q_ret (q_lst (qa_cons (q_tup (qa_cons (qv 3) (qa_cons (qv 4) (qa_cons (qv 5) (qa_cons q_bl qa_nil))))) qa_nil)))) qs_nil) (qs_cons (q_if (PW.pt (qw_and (qt_cmp (r_eq hu) (qv 8) q_str (nomark _)) (qw_and1 (qt_cmp (r_eq hu) (q_ix (q_ix (qv 7) (q_ix (q_ix (q_ix (qv 1) (qv 4)) (qv 5)) q_int)) q_int) q_str (nomark _))))) (qs_one (q_ret (q_lst (qa_cons (q_tup (qa_cons (qv 3) (qa_cons (qv 4) (qa_cons (q_ix (q_ix (q_ix (qv 1) (qv 4)) (qv 5)) q_int) (qa_cons q_bl qa_nil))))) qa_nil)))) qs_nil) (qs_cons (q_if (qt_cmp (r_eq hu) (qv 8) q_str (nomark _)) (qs_one (q_ret (q_lst (qa_cons (q_tup (qa_cons (q_op r_add (qv 3) (q_tup (qa_cons (q_tup (qa_cons (qv 4) (qa_cons (qv 5) qa_nil))) qa_nil))) (qa_cons (q_index (q_lc rfl C.nd (qi_seq (qv 0)) (blkOk_by (own := [("name", 9), ("inner", 10)]) (by kernel_rfl)) (tg_tup (tgs_cons (tg_name (by decide)) (tgs_cons (tg_name (by decide)) tgs_nil))) (fun _ _ _ _ _ => (pg_tup rfl (pgs_cons (pg_name (i := 9) C.nd rfl (by first | exact Or.inl rfl | exact Or.inr rfl)) (pgs_cons (pg_name (i := 10) C.nd rfl (by first | exact Or.inl rfl | exact Or.inr rfl)) pgs_nil)))) (fun _ _ _ _ _ => qts_nil) (fun _ _ _ _ _ => (qv 9))) (qa_cons (q_ix (q_ix (qv 7) (qv 5)) q_int) qa_nil)) (qa_cons q_int (qa_cons q_bl qa_nil))))) qa_nil)))) qs_nil) (qs_one (q_ret (q_lst (qa_cons (q_tup (qa_cons (qv 3) (qa_cons (qv 4) (qa_cons (q_op r_add (qv 5) q_int) (qa_cons q_bl qa_nil))))) qa_nil)))))))))))))))
theorem sc_law_words : FnScope ["program", "found", "name", "lines", "line"] ["program"] (defScope s_law_words) := ⟨rfl, rfl, rfl, by decide +kernel, rfl, by decide +kernel, by decide +kernel⟩
theorem w_law_words (M : Mg K mg) {f : Addr} {fd : FuncData} {sp : F3} (F : FunD K "_law_words" "_law_words" (defArgs s_law_words) (defBody s_law_words) (defScope s_law_words) [] [] f fd) (kp : Keeps 5 1 (b_law_words) sp) : Fn3 P w K mg base 1 f fd ["program"] sp :=
  fn3D (k := 0) F sc_law_words kp fun cdv A outer s H hr hgd => by
    have hu := hr.un
    replace hu : (A.deeper (envOfC "_law_words" (defScope s_law_words) s.heap.objs.size f cdv)).units + 100 < cLine := by omega
    have C := sc_law_words
    exact (qs_cons (q_set (i := 1) C.nd rfl (by first | exact Or.inl rfl | exact Or.inr rfl) (q_lst qa_nil)) (qs_cons (q_for PassesOwn.never rfl (qi_seq (qv 0)) (qg_tup rfl (qgs_cons (qg_name (i := 2) C.nd rfl (by first | exact Or.inl rfl | exact Or.inr rfl)) (qgs_cons (qg_name (i := 3) C.nd rfl (by first | exact Or.inl rfl | exact Or.inr rfl)) qgs_nil))) (qs_one (q_drop (q_extend (qv 1) (qa_cons (q_lc rfl C.nd (qi_seq (qv 3)) (blkOk_by (own := [("line", 4)]) (by kernel_rfl)) (tg_name (by decide)) (fun _ _ _ _ _ => (pg_name (i := 4) C.nd rfl (by first | exact Or.inl rfl | exact Or.inr rfl))) (fun _ _ _ _ _ => (qts_one (qt_cmp (r_eq hu) (q_ix (qv 4) q_int) q_str (nomark _)))) (fun _ _ _ _ _ => (q_ix (qv 4) q_int))) qa_nil))))) (qs_one (q_ret (q_sortSet rfl (by rfl) M.sorted (by rfl) M.set (qv 1))))))
theorem sc_law_manner : FnScope ["program", "feed", "places", "number", "part", "words", "way", "one", "found", "word", "place", "gap"] ["program", "feed"] (defScope s_law_manner) := ⟨rfl, rfl, rfl, by decide +kernel, rfl, by decide +kernel, by decide +kernel⟩
theorem w_law_manner (M : Mg K mg) {law_words : F3} (c_law_words : Cal P w K mg base 1 "_law_words" ["program"] law_words) {law_take : F3} (c_law_take : Cal P w K mg base 1 "_law_take" ["feed", "many"] law_take) {f : Addr} {fd : FuncData} {sp : F3} (F : FunD K "_law_manner" "_law_manner" (defArgs s_law_manner) (defBody s_law_manner) (defScope s_law_manner) [] [] f fd) (kp : Keeps 12 2 (b_law_manner law_words law_take) sp) : Fn3 P w K mg base 2 f fd ["program", "feed"] sp :=
  fn3D (k := 1) F sc_law_manner kp fun cdv A outer s H hr hgd => by
    have hu := hr.un
    replace hu : (A.deeper (envOfC "_law_manner" (defScope s_law_manner) s.heap.objs.size f cdv)).units + 100 < cLine := by omega
    have C := sc_law_manner
    exact (qs_cons (q_set (i := 2) C.nd rfl (by first | exact Or.inl rfl | exact Or.inr rfl) (q_lst qa_nil)) (qs_cons (q_for PassesOwn.never rfl (qi_enum (by rfl) M.enumerate (qa_cons (qv 0) qa_nil)) (qg_tup rfl (qgs_cons (qg_name (i := 3) C.nd rfl (by first | exact Or.inl rfl | exact Or.inr rfl)) (qgs_cons (qg_name (i := 4) C.nd rfl (by first | exact Or.inl rfl | exact Or.inr rfl)) qgs_nil))) (qs_one (q_drop (q_extend (qv 2) (qa_cons (q_lc rfl C.nd (qi_range1 (by rfl) M.range (qa_cons (q_op r_add (q_bi c_len (by rfl) M.len (by decide +kernel) (qa_cons (q_ix (qv 4) q_int) qa_nil)) q_int) qa_nil)) (blkOk_by (own := [("gap", 11)]) (by kernel_rfl)) (tg_name (by decide)) (fun _ _ _ _ _ => (pg_name (i := 11) C.nd rfl (by first | exact Or.inl rfl | exact Or.inr rfl))) (fun _ _ _ _ _ => qts_nil) (fun _ _ _ _ _ => (q_tup (qa_cons (qv 3) (qa_cons (qv 11) qa_nil))))) qa_nil))))) (qs_cons (q_set (i := 5) C.nd rfl (by first | exact Or.inl rfl | exact Or.inr rfl) (q_callC c_law_words hr (by decide) hgd (by rfl) (qa_cons (qv 0) qa_nil))) (qs_cons (q_set (i := 6) C.nd rfl (by first | exact Or.inl rfl | exact Or.inr rfl) (q_callC c_law_take hr (by decide) hgd (by rfl) (qa_cons (qv 1) (qa_cons q_int qa_nil)))) (qs_cons (q_set (i := 7) C.nd rfl (by first | exact Or.inl rfl | exact Or.inr rfl) (q_ix (qv 2) (q_callC c_law_take hr (by decide) hgd (by rfl) (qa_cons (qv 1) (qa_cons (q_bi c_len (by rfl) M.len (by decide +kernel) (qa_cons (qv 2) qa_nil)) qa_nil))))) (qs_cons (q_set (i := 8) C.nd rfl (by first | exact Or.inl rfl | exact Or.inr rfl) (q_lst qa_nil)) (qs_cons (q_for PassesOwn.never rfl (qi_seq (qv 5)) (qg_name (i := 9) C.nd rfl (by first | exact Or.inl rfl | exact Or.inr rfl)) (qs_one (q_for PassesOwn.never rfl (qi_seq (qv 2)) (qg_name (i := 10) C.nd rfl (by first | exact Or.inl rfl | exact Or.inr rfl)) (qs_one (q_if (PW.pt (qw_or (PW.pt (qw_and (qt_cmp (r_eq hu) (qv 6) q_int (nomark _)) (qw_and1 (qt_cmp (r_eq hu) (qv 10) (qv 7) (nomark _))))) (qw_or1 (PW.pt (qw_and (qt_cmp r_gt (qv 6) q_int (nomark _)) (qw_and1 (qt_cmp (r_eq hu) (q_callC c_law_take hr (by decide) hgd (by rfl) (qa_cons (qv 1) (qa_cons (q_op r_add q_int (qv 6)) qa_nil))) q_int (nomark _)))))))) (qs_one (q_drop (q_append (qv 8) (qa_cons (q_tup (qa_cons (qv 9) (qa_cons (qv 10) qa_nil))) qa_nil)))) qs_nil))))) (qs_one (q_ret (qv 8))))))))))
theorem sc_law_made : FnScope ["program", "spot", "lines"] ["program", "spot"] (defScope s_law_made) := ⟨rfl, rfl, rfl, by decide +kernel, rfl, by decide +kernel, by decide +kernel⟩
theorem w_law_made (M : Mg K mg) {f : Addr} {fd : FuncData} {sp : F3} (F : FunD K "_law_made" "_law_made" (defArgs s_law_made) (defBody s_law_made) (defScope s_law_made) [] [] f fd) (kp : Keeps 3 2 (b_law_made) sp) : Fn3 P w K mg base 1 f fd ["program", "spot"] sp :=
  fn3D (k := 0) F sc_law_made kp fun cdv A outer s H hr hgd => by
    have hu := hr.un
    replace hu : (A.deeper (envOfC "_law_made" (defScope s_law_made) s.heap.objs.size f cdv)).units + 100 < cLine := by omega
    have C := sc_law_made
    exact (qs_cons (q_set (i := 2) C.nd rfl (by first | exact Or.inl rfl | exact Or.inr rfl) (q_ix (q_ix (qv 0) (q_ix (qv 1) q_int)) q_int)) (qs_cons (q_if (PW.pt (qw_and (qt_not (qt_val (q_ix (qv 1) q_int))) (qw_and (qt_cmp r_lt (q_ix (qv 1) q_int) (q_bi c_len (by rfl) M.len (by decide +kernel) (qa_cons (qv 2) qa_nil)) (nomark _)) (qw_and1 (qt_cmp (r_eq hu) (q_ix (q_ix (qv 2) (q_ix (qv 1) q_int)) q_int) q_str (nomark _)))))) (qs_one (q_ret (q_ix (q_ix (qv 2) (q_ix (qv 1) q_int)) q_int))) qs_nil) (qs_one (q_ret q_non))))
theorem sc_law_given : FnScope ["manner", "spot", "word", "place"] ["manner", "spot"] (defScope s_law_given) := ⟨rfl, rfl, rfl, by decide +kernel, rfl, by decide +kernel, by decide +kernel⟩
theorem w_law_given (M : Mg K mg) {f : Addr} {fd : FuncData} {sp : F3} (F : FunD K "_law_given" "_law_given" (defArgs s_law_given) (defBody s_law_given) (defScope s_law_given) [] [] f fd) (kp : Keeps 4 2 (b_law_given) sp) : Fn3 P w K mg base 1 f fd ["manner", "spot"] sp :=
  fn3D (k := 0) F sc_law_given kp fun cdv A outer s H hr hgd => by
    have hu := hr.un
    replace hu : (A.deeper (envOfC "_law_given" (defScope s_law_given) s.heap.objs.size f cdv)).units + 100 < cLine := by omega
    have C := sc_law_given
    exact (qs_cons (q_if (qt_val (q_ix (qv 1) q_int)) (qs_one (q_ret (q_lst qa_nil))) qs_nil) (qs_one (q_ret (q_lc rfl C.nd (qi_seq (qv 0)) (blkOk_by (own := [("word", 2), ("place", 3)]) (by kernel_rfl)) (tg_tup (tgs_cons (tg_name (by decide)) (tgs_cons (tg_name (by decide)) tgs_nil))) (fun _ _ _ _ _ => (pg_tup rfl (pgs_cons (pg_name (i := 2) C.nd rfl (by first | exact Or.inl rfl | exact Or.inr rfl)) (pgs_cons (pg_name (i := 3) C.nd rfl (by first | exact Or.inl rfl | exact Or.inr rfl)) pgs_nil)))) (fun _ _ _ _ _ => (qts_one (qt_cmp (r_eq hu) (qv 3) (q_sl (qv 1) (qo_some q_int) (qo_some q_int)) (nomark _)))) (fun _ _ _ _ _ => (qv 2))))))
theorem sc_law_book : FnScope ["program", "manner", "run", "rooms", "found", "spot", "gone", "ahead", "room", "word"] ["program", "manner", "run"] (defScope s_law_book) := ⟨rfl, rfl, rfl, by decide +kernel, rfl, by decide +kernel, by decide +kernel⟩
theorem w_law_book (M : Mg K mg) {law_given : F3} (c_law_given : Cal P w K mg base 1 "_law_given" ["manner", "spot"] law_given) {law_made : F3} (c_law_made : Cal P w K mg base 1 "_law_made" ["program", "spot"] law_made) {f : Addr} {fd : FuncData} {sp : F3} (F : FunD K "_law_book" "_law_book" (defArgs s_law_book) (defBody s_law_book) (defScope s_law_book) [] [] f fd) (kp : Keeps 10 3 (b_law_book law_given law_made) sp) : Fn3 P w K mg base 2 f fd ["program", "manner", "run"] sp :=
  fn3D (k := 1) F sc_law_book kp fun cdv A outer s H hr hgd => by
    have hu := hr.un
    replace hu : (A.deeper (envOfC "_law_book" (defScope s_law_book) s.heap.objs.size f cdv)).units + 100 < cLine := by omega
    have C := sc_law_book
    exact (qs_cons (q_set (i := 3) C.nd rfl (by first | exact Or.inl rfl | exact Or.inr rfl) (q_lst qa_nil)) (qs_cons (q_set (i := 4) C.nd rfl (by first | exact Or.inl rfl | exact Or.inr rfl) (q_lst qa_nil)) (qs_cons (q_for PassesOwn.never rfl (qi_seq (qv 2)) (qg_name (i := 5) C.nd rfl (by first | exact Or.inl rfl | exact Or.inr rfl)) (qs_cons (q_set (i := 6) C.nd rfl (by first | exact Or.inl rfl | exact Or.inr rfl) (q_callC c_law_given hr (by decide) hgd (by rfl) (qa_cons (qv 1) (qa_cons (qv 5) qa_nil)))) (qs_cons (q_setLc (i := 7) rfl C.nd rfl rfl (sw_true rfl rfl rfl (by decide +kernel)) (qi_seq (qv 3)) (blkOk_by (own := [("room", 8)]) (by kernel_rfl)) (tg_name (by decide)) (fun _ _ _ _ _ => (pg_name (i := 8) C.nd rfl (by first | exact Or.inl rfl | exact Or.inr rfl))) (fun _ _ _ _ _ => (qts_one (qt_val (q_ix (qv 8) q_int)))) (fun _ _ _ _ _ => (qv 8))) (qs_cons (q_for PassesOwn.never rfl (qi_seq (qv 7)) (qg_name (i := 8) C.nd rfl (by first | exact Or.inl rfl | exact Or.inr rfl)) (qs_one (q_asg (q_cmp (r_notin hu) (q_ix (qv 8) q_int) (qv 6) rfl) (qg_subL (qv 8) q_int)))) (qs_cons (q_drop (q_append (qv 4) (qa_cons (q_tup (qa_cons (qv 7) (qa_cons (q_lc rfl C.nd (qi_seq (qv 7)) (blkOk_by (own := [("room", 8)]) (by kernel_rfl)) (tg_name (by decide)) (fun _ _ _ _ _ => (pg_name (i := 8) C.nd rfl (by first | exact Or.inl rfl | exact Or.inr rfl))) (fun _ _ _ _ _ => (qts_one (qt_val (q_ix (qv 8) q_int)))) (fun _ _ _ _ _ => (qv 8))) qa_nil))) qa_nil))) (qs_cons (q_set (i := 9) C.nd rfl (by first | exact Or.inl rfl | exact Or.inr rfl) (q_callC c_law_made hr (by decide) hgd (by rfl) (qa_cons (qv 0) (qa_cons (qv 5) qa_nil)))) (qs_one (q_if (qt_notN (qv 9)) (qs_one (q_drop (q_append (qv 3) (qa_cons (q_lst (qa_cons (qv 9) (qa_cons (qv 5) (qa_cons q_bl qa_nil)))) qa_nil)))) qs_nil)))))))) (qs_one (q_ret (qv 4))))))
theorem sc_law_run_by : FnScope ["program", "rows", "number", "run", "left", "others"] ["program", "rows", "number"] (defScope s_law_run_by) := ⟨rfl, rfl, rfl, by decide +kernel, rfl, by decide +kernel, by decide +kernel⟩
theorem w_law_run_by (M : Mg K mg) {law_next : F3} (c_law_next : Cal P w K mg base 1 "_law_next" ["program", "rows", "spot"] law_next) {f : Addr} {fd : FuncData} {sp : F3} (F : FunD K "_law_run_by" "_law_run_by" (defArgs s_law_run_by) (defBody s_law_run_by) (defScope s_law_run_by) [] [] f fd) (kp : Keeps 6 3 (b_law_run_by law_next) sp) : Fn3 P w K mg base 2 f fd ["program", "rows", "number"] sp :=
  fn3D (k := 1) F sc_law_run_by kp fun cdv A outer s H hr hgd => by
    have hu := hr.un
    replace hu : (A.deeper (envOfC "_law_run_by" (defScope s_law_run_by) s.heap.objs.size f cdv)).units + 100 < cLine := by omega
    have C := sc_law_run_by
    exact (qs_cons (q_set (i := 3) C.nd rfl (by first | exact Or.inl rfl | exact Or.inr rfl) (q_lst (qa_cons (q_tup (qa_cons (q_tup qa_nil) (qa_cons q_int (qa_cons q_int (qa_cons q_bl qa_nil))))) qa_nil))) (qs_cons (q_set (i := 4) C.nd rfl (by first | exact Or.inl rfl | exact Or.inr rfl) q_int) (qs_cons (q_set (i := 5) C.nd rfl (by first | exact Or.inl rfl | exact Or.inr rfl) (q_callC c_law_next hr (by decide) hgd (by rfl) (qa_cons (qv 0) (qa_cons (qv 1) (qa_cons (q_ix (qv 3) q_int) qa_nil))))) (qs_cons (q_while PassesOwn.never (PW.pt (qw_or (qt_cmp (r_eq hu) (q_bi c_len (by rfl) M.len (by decide +kernel) (qa_cons (qv 5) qa_nil)) q_int (nomark _)) (qw_or1 (PW.pt (qw_and (qt_cmp r_gt (q_bi c_len (by rfl) M.len (by decide +kernel) (qa_cons (qv 5) qa_nil)) q_int (nomark _)) (qw_and1 (qt_cmp r_gt (qv 4) q_int (nomark _)))))))) (qs_cons (q_if (qt_cmp (r_eq hu) (q_bi c_len (by rfl) M.len (by decide +kernel) (qa_cons (qv 5) qa_nil)) q_int (nomark _)) (qs_one (q_drop (q_append (qv 3) (qa_cons (q_ix (qv 5) q_int) qa_nil)))) (qs_cons (q_drop (q_append (qv 3) (qa_cons (q_ix (qv 5) (q_op r_mod (qv 2) q_int)) qa_nil))) (qs_cons (q_set (i := 2) C.nd rfl (by first | exact Or.inl rfl | exact Or.inr rfl) (q_op r_div (qv 2) q_int)) (qs_one (q_set (i := 4) C.nd rfl (by first | exact Or.inl rfl | exact Or.inr rfl) (q_op r_sub (qv 4) q_int)))))) (qs_one (q_set (i := 5) C.nd rfl (by first | exact Or.inl rfl | exact Or.inr rfl) (q_callC c_law_next hr (by decide) hgd (by rfl) (qa_cons (qv 0) (qa_cons (qv 1) (qa_cons (q_ix (qv 3) q_m1) qa_nil)))))))) (qs_one (q_ret (q_tup (qa_cons (qv 3) (qa_cons (q_cmp (r_eq hu) (q_bi c_len (by rfl) M.len (by decide +kernel) (qa_cons (qv 5) qa_nil)) q_int (nomark _)) qa_nil)))))))))
theorem sc_law_greatest : FnScope ["program", "rows", "manner", "found", "ended", "seen", "number", "run", "done", "ahead", "behind"] ["program", "rows", "manner"] (defScope s_law_greatest) := ⟨rfl, rfl, rfl, by decide +kernel, rfl, by decide +kernel, by decide +kernel⟩
theorem w_law_greatest (M : Mg K mg) {law_run_by : F3} (c_law_run_by : Cal P w K mg base 2 "_law_run_by" ["program", "rows", "number"] law_run_by) {law_book : F3} (c_law_book : Cal P w K mg base 2 "_law_book" ["program", "manner", "run"] law_book) {f : Addr} {fd : FuncData} {sp : F3} (F : FunD K "_law_greatest" "_law_greatest" (defArgs s_law_greatest) (defBody s_law_greatest) (defScope s_law_greatest) [] [] f fd) (kp : Keeps 11 3 (b_law_greatest law_run_by law_book) sp) : Fn3 P w K mg base 3 f fd ["program", "rows", "manner"] sp :=
  fn3D (k := 2) F sc_law_greatest kp fun cdv A outer s H hr hgd => by
    have hu := hr.un
    replace hu : (A.deeper (envOfC "_law_greatest" (defScope s_law_greatest) s.heap.objs.size f cdv)).units + 100 < cLine := by omega
    have C := sc_law_greatest
    exact (qs_cons (q_set (i := 3) C.nd rfl (by first | exact Or.inl rfl | exact Or.inr rfl) q_int) (qs_cons (q_set (i := 4) C.nd rfl (by first | exact Or.inl rfl | exact Or.inr rfl) q_bl) (qs_cons (q_set (i := 5) C.nd rfl (by first | exact Or.inl rfl | exact Or.inr rfl) q_dK) (qs_cons (q_for PassesOwn.never rfl (qi_range1 (by rfl) M.range (qa_cons q_int qa_nil)) (qg_name (i := 6) C.nd rfl (by first | exact Or.inl rfl | exact Or.inr rfl)) (qs_cons (q_asg (q_callC c_law_run_by hr (by decide) hgd (by rfl) (qa_cons (qv 0) (qa_cons (qv 1) (qa_cons (qv 6) qa_nil)))) (qg_tup rfl (qgs_cons (qg_name (i := 7) C.nd rfl (by first | exact Or.inl rfl | exact Or.inr rfl)) (qgs_cons (qg_name (i := 8) C.nd rfl (by first | exact Or.inl rfl | exact Or.inr rfl)) qgs_nil)))) (qs_cons (q_set (i := 4) C.nd rfl (by first | exact Or.inl rfl | exact Or.inr rfl) (q_and (qv 4) (q_one (qv 8)))) (qs_one (q_if (qt_cmp (r_notinK hu) (q_ty (c_str hgd hu) (by rfl) M.str (by decide +kernel) (qa_cons (qv 7) qa_nil)) (qv 5) rfl) (qs_cons (q_asg q_bl (qg_subK hu (qv 5) (q_ty (c_str hgd hu) (by rfl) M.str (by decide +kernel) (qa_cons (qv 7) qa_nil)))) (qs_one (q_set (i := 3) C.nd rfl (by first | exact Or.inl rfl | exact Or.inr rfl) (q_bi (c_max2 rfl) (by rfl) M.max (by decide +kernel) (qa_cons (qv 3) (qa_cons (q_bi (c_maxL rfl) (by rfl) M.max (by decide +kernel) (qa_cons (q_lc rfl C.nd (qi_seq (q_callC c_law_book hr (by decide) hgd (by rfl) (qa_cons (qv 0) (qa_cons (qv 2) (qa_cons (qv 7) qa_nil))))) (blkOk_by (own := [("ahead", 9), ("behind", 10)]) (by kernel_rfl)) (tg_tup (tgs_cons (tg_name (by decide)) (tgs_cons (tg_name (by decide)) tgs_nil))) (fun _ _ _ _ _ => (pg_tup rfl (pgs_cons (pg_name (i := 9) C.nd rfl (by first | exact Or.inl rfl | exact Or.inr rfl)) (pgs_cons (pg_name (i := 10) C.nd rfl (by first | exact Or.inl rfl | exact Or.inr rfl)) pgs_nil)))) (fun _ _ _ _ _ => qts_nil) (fun _ _ _ _ _ => (q_bi c_len (by rfl) M.len (by decide +kernel) (qa_cons (qv 9) qa_nil)))) qa_nil)) qa_nil)))))) qs_nil))))) (qs_one (q_ret (q_tup (qa_cons (qv 3) (qa_cons (qv 4) qa_nil)))))))))
theorem sc_law : FnScope ["script", "k", "program", "rows", "manner", "found", "number", "ended", "run", "book", "there", "part", "row", "room"] ["script"] (defScope s_law) := ⟨rfl, rfl, rfl, by decide +kernel, rfl, by decide +kernel, by decide +kernel⟩
theorem w_law (M : Mg K mg) {law_program : F3} (c_law_program : Cal P w K mg base 4 "_law_program" ["feed", "bounds"] law_program) {law_manner : F3} (c_law_manner : Cal P w K mg base 2 "_law_manner" ["program", "feed"] law_manner) {most : F3} (c_most : Cal P w K mg base 7 "most" ["program", "manner"] most) {law_greatest : F3} (c_law_greatest : Cal P w K mg base 3 "_law_greatest" ["program", "rows", "manner"] law_greatest) {law_feed : F3} (c_law_feed : Cal P w K mg base 1 "_law_feed" ["script", "k"] law_feed) {law_blocks : F3} (c_law_blocks : Cal P w K mg base 1 "_law_blocks" ["lines"] law_blocks) {law_book : F3} (c_law_book : Cal P w K mg base 2 "_law_book" ["program", "manner", "run"] law_book) {f : Addr} {fd : FuncData} {sp : F3} (F : FunD K "law" "law" (defArgs s_law) (defBody s_law) (defScope s_law) [] [] f fd) (kp : Keeps 14 1 (b_law law_program law_manner most law_greatest law_feed law_blocks law_book) sp) : Fn3 P w K mg base 8 f fd ["script"] sp :=
  fn3D (k := 7) F sc_law kp fun cdv A outer s H hr hgd => by
    have hu := hr.un
    replace hu : (A.deeper (envOfC "law" (defScope s_law) s.heap.objs.size f cdv)).units + 100 < cLine := by omega
    have C := sc_law
    exact (qs_cons (q_for PassesOwn.never rfl (qi_range02 (by rfl) M.range (qa_cons q_int (qa_cons (q_bi (c_max2 rfl) (by rfl) M.max (by decide +kernel) (qa_cons q_int (qa_cons (q_bi (c_min2 rfl) (by rfl) M.min (by decide +kernel) (qa_cons q_int (qa_cons (q_bi c_len (by rfl) M.len (by decide +kernel) (qa_cons (qv 0) qa_nil)) qa_nil))) qa_nil))) (qa_cons q_int qa_nil)))) (qg_name (i := 1) C.nd rfl (by first | exact Or.inl rfl | exact Or.inr rfl)) (qs_cons (q_set (i := 2) C.nd rfl (by first | exact Or.inl rfl | exact Or.inr rfl) (q_callC c_law_program hr (by decide) hgd (by rfl) (qa_cons (q_callC c_law_feed hr (by decide) hgd (by rfl) (qa_cons (qv 0) (qa_cons (qv 1) qa_nil))) (qa_cons (q_lst (qa_cons q_int (qa_cons q_int (qa_cons q_int (qa_cons q_int qa_nil))))) qa_nil)))) (qs_cons (q_setLc (i := 3) rfl C.nd rfl rfl (sw_true rfl rfl rfl (by decide +kernel)) (qi_seq (qv 2)) (blkOk_by (own := [("part", 11)]) (by kernel_rfl)) (tg_name (by decide)) (fun _ _ _ _ _ => (pg_name (i := 11) C.nd rfl (by first | exact Or.inl rfl | exact Or.inr rfl))) (fun _ _ _ _ _ => qts_nil) (fun _ _ _ _ _ => (q_callC c_law_blocks hr (by decide) hgd (by rfl) (qa_cons (q_ix (qv 11) q_int) qa_nil)))) (qs_cons (q_set (i := 4) C.nd rfl (by first | exact Or.inl rfl | exact Or.inr rfl) (q_callC c_law_manner hr (by decide) hgd (by rfl) (qa_cons (qv 2) (qa_cons (q_callC c_law_feed hr (by decide) hgd (by rfl) (qa_cons (qv 0) (qa_cons (q_op r_add (qv 1) q_int) qa_nil))) qa_nil)))) (qs_cons (q_set (i := 5) C.nd rfl (by first | exact Or.inl rfl | exact Or.inr rfl) (q_callC c_most hr (by decide) hgd (by rfl) (qa_cons (qv 2) (qa_cons (q_ty c_list (by rfl) M.list (by decide +kernel) (qa_cons (qv 4) qa_nil)) qa_nil)))) (qs_cons (q_asg (q_callC c_law_greatest hr (by decide) hgd (by rfl) (qa_cons (qv 2) (qa_cons (qv 3) (qa_cons (qv 4) qa_nil)))) (qg_tup rfl (qgs_cons (qg_name (i := 6) C.nd rfl (by first | exact Or.inl rfl | exact Or.inr rfl)) (qgs_cons (qg_name (i := 7) C.nd rfl (by first | exact Or.inl rfl | exact Or.inr rfl)) qgs_nil)))) (qs_cons (q_if (PW.pt (qw_and (qt_cmp (r_eq hu) (q_ix (qv 5) q_int) q_str (nomark _)) (qw_and1 (PW.pt (qw_or (qt_cmp r_lt (q_ix (qv 5) q_int) (qv 6) (nomark _)) (qw_or1 (PW.pt (qw_and (qt_val (qv 7)) (qw_and1 (qt_cmp (r_ne hu) (q_ix (qv 5) q_int) (qv 6) (nomark _))))))))))) (qs_one (q_ret q_bl)) qs_nil) (qs_one (q_if (qt_cmp (r_eq hu) (q_ix (qv 5) q_int) q_str (nomark _)) (qs_cons (q_set (i := 8) C.nd rfl (by first | exact Or.inl rfl | exact Or.inr rfl) (q_op r_add (q_op r_add (q_ix (qv 5) q_int) (q_sl (q_ix (qv 5) q_int) (qo_some q_int) qo_none)) (q_sl (q_ix (qv 5) q_int) (qo_some q_int) qo_none))) (qs_cons (q_set (i := 9) C.nd rfl (by first | exact Or.inl rfl | exact Or.inr rfl) (q_callC c_law_book hr (by decide) hgd (by rfl) (qa_cons (qv 2) (qa_cons (qv 4) (qa_cons (qv 8) qa_nil))))) (qs_cons (q_setLc (i := 10) rfl C.nd rfl rfl (sw_true rfl rfl rfl (by decide +kernel)) (qi_seq (qv 9)) (blkOk_by (own := [("row", 12)]) (by kernel_rfl)) (tg_name (by decide)) (fun _ _ _ _ _ => (pg_name (i := 12) C.nd rfl (by first | exact Or.inl rfl | exact Or.inr rfl))) (fun _ _ _ _ _ => qts_nil) (fun _ _ _ _ _ => (q_bi c_len (by rfl) M.len (by decide +kernel) (qa_cons (q_lc rfl C.nd (qi_seq (q_ix (qv 12) q_int)) (blkOk_by (own := [("room", 13)]) (by kernel_rfl)) (tg_name (by decide)) (fun _ _ _ _ _ => (pg_name (i := 13) C.nd rfl (by first | exact Or.inl rfl | exact Or.inr rfl))) (fun _ _ _ _ _ => (qts_one (qt_cmp (r_eq hu) (q_ix (qv 13) q_int) (q_ix (qv 5) q_int) (nomark _)))) (fun _ _ _ _ _ => (qv 13))) qa_nil)))) (qs_one (q_if (PW.pt (qw_or (qt_val (qv 7)) (qw_or1 (qt_not (qt_cmp r_lt (q_ix (qv 10) (q_op r_sub (q_bi c_len (by rfl) M.len (by decide +kernel) (qa_cons (q_ix (qv 5) q_int) qa_nil)) q_int)) (q_ix (qv 10) q_m1) (nomark _)))))) (qs_one (q_ret q_bl)) qs_nil))))) qs_nil))))))))) (qs_one (q_ret q_bl)))
end
end L3
end
section
set_option maxRecDepth 100000
set_option maxHeartbeats 4200000
/-! L3End: the law's call, from its contract. -/
namespace L3
open L2 PyProof.Rows PySem.Spec PySem
/-- what the law's def promises: true at any script of at most 63 numbers -/
def spLaw3 : F3 := fun ds S Q => ∃ ns : List Int, ds = [.src ns] ∧ ns.length ≤ 63 ∧ ∀ S', Sub S S' → Q (.bl true) S'
section
variable {P : Program} {w : World} {K : PySem.W.Frag} {mg mb : Str → Option Value} {k : Nat} {fa a : Addr} {fd : FuncData} {x : Str} {s1 : Shared} {vs : List Value} {ns : List Int}
theorem law3 (KX : K.In s1.heap) (hns : s1.heap.Ns mainGlobals mg) (hb : s1.heap.Ns builtinsNs mb) (hbb : ∀ x : Str, x ≠ "__name__" → mb x = bootBuiltins x) (lim : s1.heap.NoLimit) (hg : s1.gens = #[])
    (ha : s1.heap.get? a = some { cls := .type "list", data := .seq vs.toArray }) (hi : IntsAre vs ns) (hl : ns.length ≤ 63) (hr : Room k callerA)
    (F : ∀ base : Heap, K.In base → base.Ns mainGlobals mg → Fn3 P w K mg base k fa fd [x] spLaw3) (bind : ∀ (s : Shared) (u : Value), BindsTo s fd ⟨[u], []⟩ [(x, u)]) :
    codeAny (model P w) callerA (.call (.ref fa) ⟨[.ref a], []⟩) (fun r s' => r = .ok (.ret (.bool true)) ∧ OldK s1.heap s'.heap ∧ s'.os = s1.os ∧ AllBare s'.gens) s1 := by
  have rv := vals_ints hi
  have lenV := hi.length
  -- H tracks nothing but, maybe, the script
  have core : ∀ H : Hp, (∀ b, H b ≠ none → b = a ∧ ∃ o xs, H b = some (.frz o (.lst xs))) → Src K H a ns → HOk P w H s1.heap → (H a ≠ none → K.lookup a = none) →
      codeAny (model P w) callerA (.call (.ref fa) ⟨[.ref a], []⟩) (fun r s' => r = .ok (.ret (.bool true)) ∧ OldK s1.heap s'.heap ∧ s'.os = s1.os ∧ AllBare s'.gens) s1 := by
    intro H hO hS hok hK
    have free : ∀ {b : Addr} {o : Obj} {es : Array DictEntry} {ep : Nat}, s1.heap.get? b = some o → o.data = .dict es ep → H b = none := fun {b o es ep} e d => by
      rcases Option.eq_none_or_eq_some (H b) with q | ⟨u, q⟩
      · exact q
      · obtain ⟨rfl, _⟩ := hO b (by rw [q]; simp)
        rw [ha] at e
        cases e
        have d' : Data.seq vs.toArray _ = Data.dict es ep := d; cases d'
    have ns0 : ∀ {b : Addr} {m : Str → Option Value}, s1.heap.Ns b m → (hidT s1.heap H).Ns b m := fun {b m} ⟨o, es, ep, e, d, r⟩ => ⟨o, es, ep, hidT_get e (free e d), d, r⟩
    have kin : K.In (hidT s1.heap H) := fun b o e => hidT_get (KX b o e) (by
      rcases Option.eq_none_or_eq_some (H b) with q | ⟨u, q⟩
      · exact q
      · obtain ⟨rfl, _⟩ := hO b (by rw [q]; simp)
        (rw [hK (by rw [q]; simp)] at e); cases e)
    have mod : Mod K mg (hidT s1.heap H) := ⟨kin, ns0 hns, ⟨mb, ns0 hb, hbb⟩, let ⟨mc, h1, h2⟩ := lim; ⟨mc, ns0 h1, h2⟩⟩
    have e0 : Env0 P w K mg (hidT s1.heap H) callerA [] s1 H := ⟨rfl, mod, fun b o e => of_hidT e, Nat.le_of_eq (hidT_size _ _), trivial, fun b hb => absurd (show b ∈ ([] : List Addr) from hb) (by simp), hok, .of_eq hg⟩
    refine codeAny_mono ((F _ kin (ns0 hns)).run callerA [] s1 H ⟨[.ref a], []⟩ [.ref a] [.ref a] (fun v _ => v = .bl true) hr rfl e0 (bind s1 (.ref a)) (.cons rfl .nil)
      ⟨[.src ns], fun _ => none, fun d _ => d = .bl true, .cons (.src hS) .nil, (fun _ _ e => nomatch e), ⟨ns, rfl, hl, fun _ _ => rfl⟩, fun v H' d S' _ r _ e => by subst e; cases r; rfl⟩) fun r s' h => ?_
    cases r with
    | error e => exact False.elim h
    | ok fl =>
      cases fl with
      | ret u =>
        obtain ⟨v, H', os, bare, un, hok', r', q⟩ := h; have q' : v = .bl true := q
        subst q'
        obtain rfl : u = Value.bool true := r'; refine ⟨rfl, OldK.of_keep fun b o e => ?_, os, bare⟩
        rcases Option.eq_none_or_eq_some (H b) with q | ⟨u, q⟩
        · exact un.keep b o e q (by intro z; exact absurd (show b ∈ ([] : List Addr) from z) (by simp)) (by simp)
        · obtain ⟨_, ob, xs, z⟩ := hO b (by rw [q]; simp)
          have z2 := un.frzs b ob _ z
          obtain ⟨f1, _⟩ := hok b _ z
          obtain ⟨f2, _⟩ := hok' b _ z2
          rw [e] at f1
          cases f1
          exact f2
      | _ => exact False.elim h
  cases hk : K.lookup a with
  | some o =>
    have e := KX a o hk
    rw [ha] at e
    cases e
    refine core (fun _ => none) (fun b z => absurd rfl z) (.inr fun H' => .inr ⟨_, vs.toArray, _, hk, rfl, rfl, rfl, by rw [List.size_toArray, lenV]; exact Nat.le_trans hl (by decide), by simpa using rv⟩)
      (fun b u z => by have z' : (none : Option HO) = some u := z; cases z') fun z => absurd rfl z
  | none =>
    refine core (fun b => if b = a then some (.frz { cls := .type "list", data := .seq vs.toArray } (.lst (ns.map V.int))) else none) (fun b z => ?_) (.inl ⟨{ cls := .type "list", data := .seq vs.toArray }, if_pos rfl⟩) (fun b u z => ?_) fun _ => hk
    · by_cases hb : b = a
      · exact ⟨hb, _, _, if_pos hb⟩
      · exact absurd (if_neg hb) z
    · by_cases hb : b = a
      · have y := (if_pos hb).symm.trans z
        cases y
        subst hb
        exact ⟨ha, by rw [List.length_map]; exact Nat.le_trans hl (by decide), vs, _, rv, ha⟩
      · have y := (if_neg hb).symm.trans z
        cases y
end
/-- the law's end over such a head -/
theorem walk3 {l : PySem.W.OpenLaw} {k : Nat} {q : Program} {loose : List Str} {XP : (Str → Option Value) → Heap → Prop} {YP : World → Heap → Prop} {d : DefRec} {x : Str} (hn : l.most = some 63) (hdf : d.params.defaults = []) (hr : Room k callerA)
    (F : ∀ (w : World) (mg : Str → Option Value) (fa : Addr) (h : Heap), YP w h →
      h.Ns mainGlobals mg → mg d.name = some (.ref fa) →
      ∃ (K : PySem.W.Frag) (fd : FuncData), K.In h ∧ (∀ (s : Shared) (u : Value), BindsTo s fd ⟨[u], []⟩ [(x, u)]) ∧ ∀ base : Heap, K.In base → base.Ns mainGlobals mg → Fn3 l.prog w K mg base k fa fd [x] spLaw3) :
    (PySem.W.WalkO q loose XP YP l.row.toRowW d [] (fun f vs => PySem.call f vs)) := by
  refine Att.attach_call hn hdf fun w s₀ s₁ mg mb fa o pm cd doc a vs ns G Y ho hd hcd hmg hobj hints hlen hg => ?_; obtain ⟨K, fd, KX, hb, hF⟩ := F w mg fa _ Y G.T.g hmg
  exact law3 KX G.T.g G.T.b G.T.builtins G.T.nolimit hg hobj hints hlen hr hF hb
end L3
end
section
set_option maxRecDepth 100000
set_option maxHeartbeats 4200000
/-! L3Fin: all defs joined. Printed by gen_fin.py. -/
namespace L3
open L2 PyProof.Rows PySem.Spec PySem
theorem facts3 {p_end_of p_or_of p_head_of p_number_of p_all_lines p_words_of p_first_spot p_place_of p_line_of p_behind_part p_behind_end p_next_spots p_spots p_given_at p_made_at p_spots_ahead p_givings p_rests p_makings p_spots_at p_way_back p_road p_run_to p_growing_round p_wanted_entries p_bettered p_run_back p_table_of p_most p_law_feed p_law_take p_law_names p_law_plain p_law_step_on p_law_part p_law_program p_law_blocks p_law_next p_law_words p_law_manner p_law_made p_law_given p_law_book p_law_run_by p_law_greatest : F3}
    (k_end_of : Keeps 4 2 (b_end_of) p_end_of)
    (k_or_of : Keeps 4 2 (b_or_of) p_or_of)
    (k_head_of : Keeps 4 2 (b_head_of) p_head_of)
    (k_number_of : Keeps 4 2 (b_number_of) p_number_of)
    (k_all_lines : Keeps 3 1 (b_all_lines) p_all_lines)
    (k_words_of : Keeps 3 1 (b_words_of p_all_lines) p_words_of)
    (k_first_spot : Keeps 0 0 (b_first_spot) p_first_spot)
    (k_place_of : Keeps 1 1 (b_place_of) p_place_of)
    (k_line_of : Keeps 3 2 (b_line_of) p_line_of)
    (k_behind_part : Keeps 3 1 (b_behind_part) p_behind_part)
    (k_behind_end : Keeps 5 4 (b_behind_end p_head_of) p_behind_end)
    (k_next_spots : Keeps 8 2 (b_next_spots p_behind_part p_behind_end p_number_of p_end_of p_or_of) p_next_spots)
    (k_spots : Keeps 6 1 (b_spots p_first_spot p_next_spots) p_spots)
    (k_given_at : Keeps 5 2 (b_given_at p_place_of) p_given_at)
    (k_made_at : Keeps 3 2 (b_made_at p_line_of) p_made_at)
    (k_spots_ahead : Keeps 4 1 (b_spots_ahead p_spots p_next_spots) p_spots_ahead)
    (k_givings : Keeps 4 2 (b_givings p_spots p_given_at) p_givings)
    (k_rests : Keeps 10 4 (b_rests p_made_at) p_rests)
    (k_makings : Keeps 5 2 (b_makings p_spots p_line_of) p_makings)
    (k_spots_at : Keeps 3 2 (b_spots_at p_spots p_place_of) p_spots_at)
    (k_way_back : Keeps 3 2 (b_way_back) p_way_back)
    (k_road : Keeps 9 4 (b_road p_way_back p_next_spots) p_road)
    (k_run_to : Keeps 2 2 (b_run_to p_road p_first_spot) p_run_to)
    (k_growing_round : Keeps 8 3 (b_growing_round p_spots_at p_makings p_road p_next_spots) p_growing_round)
    (k_wanted_entries : Keeps 11 2 (b_wanted_entries p_spots_ahead p_givings p_words_of p_rests) p_wanted_entries)
    (k_bettered : Keeps 7 1 (b_bettered) p_bettered)
    (k_run_back : Keeps 4 3 (b_run_back p_run_to) p_run_back)
    (k_table_of : Keeps 6 2 (b_table_of p_spots) p_table_of)
    (k_most : Keeps 9 2 (b_most p_words_of p_bettered p_spots p_growing_round p_wanted_entries p_first_spot p_run_back p_table_of p_run_to) p_most)
    (k_law_feed : Keeps 4 2 (b_law_feed) p_law_feed)
    (k_law_take : Keeps 3 2 (b_law_take) p_law_take)
    (k_law_names : Keeps 10 2 (b_law_names p_law_take) p_law_names)
    (k_law_plain : Keeps 7 3 (b_law_plain p_law_take) p_law_plain)
    (k_law_step_on : Keeps 2 2 (b_law_step_on) p_law_step_on)
    (k_law_part : Keeps 10 6 (b_law_part p_law_take p_law_step_on p_law_plain) p_law_part)
    (k_law_program : Keeps 7 2 (b_law_program p_law_names p_law_take p_law_part) p_law_program)
    (k_law_blocks : Keeps 5 1 (b_law_blocks) p_law_blocks)
    (k_law_next : Keeps 11 3 (b_law_next) p_law_next)
    (k_law_words : Keeps 5 1 (b_law_words) p_law_words)
    (k_law_manner : Keeps 12 2 (b_law_manner p_law_words p_law_take) p_law_manner)
    (k_law_made : Keeps 3 2 (b_law_made) p_law_made)
    (k_law_given : Keeps 4 2 (b_law_given) p_law_given)
    (k_law_book : Keeps 10 3 (b_law_book p_law_given p_law_made) p_law_book)
    (k_law_run_by : Keeps 6 3 (b_law_run_by p_law_next) p_law_run_by)
    (k_law_greatest : Keeps 11 3 (b_law_greatest p_law_run_by p_law_book) p_law_greatest)
    (k_law : Keeps 14 1 (b_law p_law_program p_law_manner p_most p_law_greatest p_law_feed p_law_blocks p_law_book) spLaw3)
    {P : Program} {w : World} {K : PySem.W.Frag} {h : Heap} {mg : Str → Option Value} {f : Addr} (X : K.In h) (G : h.Ns mainGlobals mg) (hfa : mg ("law" : Str) = some (.ref f)) (says : obs3 K = (He.valD fns, true)) :
    ∃ fd : FuncData, (∀ (s : Shared) (v : Value), BindsTo s fd ⟨[v], []⟩ [("script", v)]) ∧ ∀ base : Heap, K.In base → base.Ns mainGlobals mg → Fn3 P w K mg base 8 f fd ["script"] spLaw3 := by
  have c : He.SaysD fas fns K := congrArg (fun z : He.AlD × Bool => z.1) says
  have t : He.tupB K "OPENING" [.str "either", .str "again"] = true := congrArg (fun z : He.AlD × Bool => z.2) says
  have M : Mg K mg := { enumerate := He.free_ok X G (c.fact 46 (f := .free "enumerate") rfl), int := He.free_ok X G (c.fact 52 (f := .free "int") rfl), len := He.free_ok X G (c.fact 48 (f := .free "len") rfl), list := He.free_ok X G (c.fact 50 (f := .free "list") rfl), max := He.free_ok X G (c.fact 54 (f := .free "max") rfl), min := He.free_ok X G (c.fact 55 (f := .free "min") rfl), range := He.free_ok X G (c.fact 53 (f := .free "range") rfl), reversed := He.free_ok X G (c.fact 49 (f := .free "reversed") rfl), set := He.free_ok X G (c.fact 56 (f := .free "set") rfl), sorted := He.free_ok X G (c.fact 47 (f := .free "sorted") rfl), str := He.free_ok X G (c.fact 57 (f := .free "str") rfl), tuple := He.free_ok X G (c.fact 51 (f := .free "tuple") rfl), opH := He.glo_ok X G (c.fact 58 (f := .glo "OPENING") rfl), opR := fun H => .tup (He.tupB_ok t H) (.cons (.str _) (.cons (.str _) .nil)) }
  obtain ⟨d_end_of, F_end_of⟩ := c.def_ 0 (d := datD "end_of" s_end_of) rfl
  have e_end_of : mg "end_of" = some (.ref (He.ga K "end_of")) := He.glo_ok X G (c.fact 0 (f := .glo "end_of") rfl)
  have B_end_of : Binds K d_end_of ["lines", "k"] [] := F_end_of.bindsN fun _ _ _ _ _ _ us hl => match us, hl with | [_, _], _ => rfl
  obtain ⟨d_or_of, F_or_of⟩ := c.def_ 1 (d := datD "or_of" s_or_of) rfl
  have e_or_of : mg "or_of" = some (.ref (He.ga K "or_of")) := He.glo_ok X G (c.fact 1 (f := .glo "or_of") rfl)
  have B_or_of : Binds K d_or_of ["lines", "k"] [] := F_or_of.bindsN fun _ _ _ _ _ _ us hl => match us, hl with | [_, _], _ => rfl
  obtain ⟨d_head_of, F_head_of⟩ := c.def_ 2 (d := datD "head_of" s_head_of) rfl
  have e_head_of : mg "head_of" = some (.ref (He.ga K "head_of")) := He.glo_ok X G (c.fact 2 (f := .glo "head_of") rfl)
  have B_head_of : Binds K d_head_of ["lines", "k"] [] := F_head_of.bindsN fun _ _ _ _ _ _ us hl => match us, hl with | [_, _], _ => rfl
  obtain ⟨d_number_of, F_number_of⟩ := c.def_ 3 (d := datD "number_of" s_number_of) rfl
  have e_number_of : mg "number_of" = some (.ref (He.ga K "number_of")) := He.glo_ok X G (c.fact 3 (f := .glo "number_of") rfl)
  have B_number_of : Binds K d_number_of ["program", "name"] [] := F_number_of.bindsN fun _ _ _ _ _ _ us hl => match us, hl with | [_, _], _ => rfl
  obtain ⟨d_all_lines, F_all_lines⟩ := c.def_ 4 (d := datD "all_lines" s_all_lines) rfl
  have e_all_lines : mg "all_lines" = some (.ref (He.ga K "all_lines")) := He.glo_ok X G (c.fact 4 (f := .glo "all_lines") rfl)
  have B_all_lines : Binds K d_all_lines ["program"] [] := F_all_lines.bindsN fun _ _ _ _ _ _ us hl => match us, hl with | [_], _ => rfl
  obtain ⟨d_words_of, F_words_of⟩ := c.def_ 5 (d := datD "words_of" s_words_of) rfl
  have e_words_of : mg "words_of" = some (.ref (He.ga K "words_of")) := He.glo_ok X G (c.fact 5 (f := .glo "words_of") rfl)
  have B_words_of : Binds K d_words_of ["program"] [] := F_words_of.bindsN fun _ _ _ _ _ _ us hl => match us, hl with | [_], _ => rfl
  obtain ⟨d_first_spot, F_first_spot⟩ := c.def_ 6 (d := datD "first_spot" s_first_spot) rfl
  have e_first_spot : mg "first_spot" = some (.ref (He.ga K "first_spot")) := He.glo_ok X G (c.fact 6 (f := .glo "first_spot") rfl)
  have B_first_spot : Binds K d_first_spot [] [] := F_first_spot.bindsN fun _ _ _ _ _ _ us hl => match us, hl with | [], _ => rfl
  obtain ⟨d_place_of, F_place_of⟩ := c.def_ 7 (d := datD "place_of" s_place_of) rfl
  have e_place_of : mg "place_of" = some (.ref (He.ga K "place_of")) := He.glo_ok X G (c.fact 7 (f := .glo "place_of") rfl)
  have B_place_of : Binds K d_place_of ["spot"] [] := F_place_of.bindsN fun _ _ _ _ _ _ us hl => match us, hl with | [_], _ => rfl
  obtain ⟨d_line_of, F_line_of⟩ := c.def_ 8 (d := datD "line_of" s_line_of) rfl
  have e_line_of : mg "line_of" = some (.ref (He.ga K "line_of")) := He.glo_ok X G (c.fact 8 (f := .glo "line_of") rfl)
  have B_line_of : Binds K d_line_of ["program", "spot"] [] := F_line_of.bindsN fun _ _ _ _ _ _ us hl => match us, hl with | [_, _], _ => rfl
  obtain ⟨d_behind_part, F_behind_part⟩ := c.def_ 9 (d := datD "behind_part" s_behind_part) rfl
  have e_behind_part : mg "behind_part" = some (.ref (He.ga K "behind_part")) := He.glo_ok X G (c.fact 9 (f := .glo "behind_part") rfl)
  have B_behind_part : Binds K d_behind_part ["way"] [] := F_behind_part.bindsN fun _ _ _ _ _ _ us hl => match us, hl with | [_], _ => rfl
  obtain ⟨d_behind_end, F_behind_end⟩ := c.def_ 10 (d := datD "behind_end" s_behind_end) rfl
  have e_behind_end : mg "behind_end" = some (.ref (He.ga K "behind_end")) := He.glo_ok X G (c.fact 10 (f := .glo "behind_end") rfl)
  have B_behind_end : Binds K d_behind_end ["way", "part", "lines", "k"] [] := F_behind_end.bindsN fun _ _ _ _ _ _ us hl => match us, hl with | [_, _, _, _], _ => rfl
  obtain ⟨d_next_spots, F_next_spots⟩ := c.def_ 11 (d := datD "next_spots" s_next_spots) rfl
  have e_next_spots : mg "next_spots" = some (.ref (He.ga K "next_spots")) := He.glo_ok X G (c.fact 11 (f := .glo "next_spots") rfl)
  have B_next_spots : Binds K d_next_spots ["program", "spot"] [] := F_next_spots.bindsN fun _ _ _ _ _ _ us hl => match us, hl with | [_, _], _ => rfl
  obtain ⟨d_spots, F_spots⟩ := c.def_ 12 (d := datD "spots" s_spots) rfl
  have e_spots : mg "spots" = some (.ref (He.ga K "spots")) := He.glo_ok X G (c.fact 12 (f := .glo "spots") rfl)
  have B_spots : Binds K d_spots ["program"] [] := F_spots.bindsN fun _ _ _ _ _ _ us hl => match us, hl with | [_], _ => rfl
  obtain ⟨d_given_at, F_given_at⟩ := c.def_ 13 (d := datD "given_at" s_given_at) rfl
  have e_given_at : mg "given_at" = some (.ref (He.ga K "given_at")) := He.glo_ok X G (c.fact 13 (f := .glo "given_at") rfl)
  have B_given_at : Binds K d_given_at ["manner", "spot"] [] := F_given_at.bindsN fun _ _ _ _ _ _ us hl => match us, hl with | [_, _], _ => rfl
  obtain ⟨d_made_at, F_made_at⟩ := c.def_ 14 (d := datD "made_at" s_made_at) rfl
  have e_made_at : mg "made_at" = some (.ref (He.ga K "made_at")) := He.glo_ok X G (c.fact 14 (f := .glo "made_at") rfl)
  have B_made_at : Binds K d_made_at ["program", "spot"] [] := F_made_at.bindsN fun _ _ _ _ _ _ us hl => match us, hl with | [_, _], _ => rfl
  obtain ⟨d_spots_ahead, F_spots_ahead⟩ := c.def_ 15 (d := datD "spots_ahead" s_spots_ahead) rfl
  have e_spots_ahead : mg "spots_ahead" = some (.ref (He.ga K "spots_ahead")) := He.glo_ok X G (c.fact 15 (f := .glo "spots_ahead") rfl)
  have B_spots_ahead : Binds K d_spots_ahead ["program"] [] := F_spots_ahead.bindsN fun _ _ _ _ _ _ us hl => match us, hl with | [_], _ => rfl
  obtain ⟨d_givings, F_givings⟩ := c.def_ 16 (d := datD "givings" s_givings) rfl
  have e_givings : mg "givings" = some (.ref (He.ga K "givings")) := He.glo_ok X G (c.fact 16 (f := .glo "givings") rfl)
  have B_givings : Binds K d_givings ["program", "manner"] [] := F_givings.bindsN fun _ _ _ _ _ _ us hl => match us, hl with | [_, _], _ => rfl
  obtain ⟨d_rests, F_rests⟩ := c.def_ 17 (d := datD "rests" s_rests) rfl
  have e_rests : mg "rests" = some (.ref (He.ga K "rests")) := He.glo_ok X G (c.fact 17 (f := .glo "rests") rfl)
  have B_rests : Binds K d_rests ["program", "gone", "ahead", "entry"] [] := F_rests.bindsN fun _ _ _ _ _ _ us hl => match us, hl with | [_, _, _, _], _ => rfl
  obtain ⟨d_makings, F_makings⟩ := c.def_ 18 (d := datD "makings" s_makings) rfl
  have e_makings : mg "makings" = some (.ref (He.ga K "makings")) := He.glo_ok X G (c.fact 18 (f := .glo "makings") rfl)
  have B_makings : Binds K d_makings ["program", "word"] [] := F_makings.bindsN fun _ _ _ _ _ _ us hl => match us, hl with | [_, _], _ => rfl
  obtain ⟨d_spots_at, F_spots_at⟩ := c.def_ 19 (d := datD "spots_at" s_spots_at) rfl
  have e_spots_at : mg "spots_at" = some (.ref (He.ga K "spots_at")) := He.glo_ok X G (c.fact 19 (f := .glo "spots_at") rfl)
  have B_spots_at : Binds K d_spots_at ["program", "places"] [] := F_spots_at.bindsN fun _ _ _ _ _ _ us hl => match us, hl with | [_, _], _ => rfl
  obtain ⟨d_way_back, F_way_back⟩ := c.def_ 20 (d := datD "way_back" s_way_back) rfl
  have e_way_back : mg "way_back" = some (.ref (He.ga K "way_back")) := He.glo_ok X G (c.fact 20 (f := .glo "way_back") rfl)
  have B_way_back : Binds K d_way_back ["came", "spot"] [] := F_way_back.bindsN fun _ _ _ _ _ _ us hl => match us, hl with | [_, _], _ => rfl
  obtain ⟨d_road, F_road⟩ := c.def_ 21 (d := datD "road" s_road) rfl
  have e_road : mg "road" = some (.ref (He.ga K "road")) := He.glo_ok X G (c.fact 21 (f := .glo "road") rfl)
  have B_road : Binds K d_road ["program", "starts", "goals", "barred"] [] := F_road.bindsN fun _ _ _ _ _ _ us hl => match us, hl with | [_, _, _, _], _ => rfl
  obtain ⟨d_run_to, F_run_to⟩ := c.def_ 22 (d := datD "run_to" s_run_to) rfl
  have e_run_to : mg "run_to" = some (.ref (He.ga K "run_to")) := He.glo_ok X G (c.fact 22 (f := .glo "run_to") rfl)
  have B_run_to : Binds K d_run_to ["program", "spot"] [] := F_run_to.bindsN fun _ _ _ _ _ _ us hl => match us, hl with | [_, _], _ => rfl
  obtain ⟨d_growing_round, F_growing_round⟩ := c.def_ 23 (d := datD "growing_round" s_growing_round) rfl
  have e_growing_round : mg "growing_round" = some (.ref (He.ga K "growing_round")) := He.glo_ok X G (c.fact 23 (f := .glo "growing_round") rfl)
  have B_growing_round : Binds K d_growing_round ["program", "manner", "word"] [] := F_growing_round.bindsN fun _ _ _ _ _ _ us hl => match us, hl with | [_, _, _], _ => rfl
  obtain ⟨d_wanted_entries, F_wanted_entries⟩ := c.def_ 24 (d := datD "wanted_entries" s_wanted_entries) rfl
  have e_wanted_entries : mg "wanted_entries" = some (.ref (He.ga K "wanted_entries")) := He.glo_ok X G (c.fact 24 (f := .glo "wanted_entries") rfl)
  have B_wanted_entries : Binds K d_wanted_entries ["program", "manner"] [] := F_wanted_entries.bindsN fun _ _ _ _ _ _ us hl => match us, hl with | [_, _], _ => rfl
  obtain ⟨d_bettered, F_bettered⟩ := c.def_ 25 (d := datD "bettered" s_bettered) rfl
  have e_bettered : mg "bettered" = some (.ref (He.ga K "bettered")) := He.glo_ok X G (c.fact 25 (f := .glo "bettered") rfl)
  have B_bettered : Binds K d_bettered ["rows"] [] := F_bettered.bindsN fun _ _ _ _ _ _ us hl => match us, hl with | [_], _ => rfl
  obtain ⟨d_run_back, F_run_back⟩ := c.def_ 26 (d := datD "run_back" s_run_back) rfl
  have e_run_back : mg "run_back" = some (.ref (He.ga K "run_back")) := He.glo_ok X G (c.fact 26 (f := .glo "run_back") rfl)
  have B_run_back : Binds K d_run_back ["program", "came", "entry"] [] := F_run_back.bindsN fun _ _ _ _ _ _ us hl => match us, hl with | [_, _, _], _ => rfl
  obtain ⟨d_table_of, F_table_of⟩ := c.def_ 27 (d := datD "table_of" s_table_of) rfl
  have e_table_of : mg "table_of" = some (.ref (He.ga K "table_of")) := He.glo_ok X G (c.fact 27 (f := .glo "table_of") rfl)
  have B_table_of : Binds K d_table_of ["program", "numbers"] [] := F_table_of.bindsN fun _ _ _ _ _ _ us hl => match us, hl with | [_, _], _ => rfl
  obtain ⟨d_most, F_most⟩ := c.def_ 28 (d := datD "most" s_most) rfl
  have e_most : mg "most" = some (.ref (He.ga K "most")) := He.glo_ok X G (c.fact 28 (f := .glo "most") rfl)
  have B_most : Binds K d_most ["program", "manner"] [] := F_most.bindsN fun _ _ _ _ _ _ us hl => match us, hl with | [_, _], _ => rfl
  obtain ⟨d_law_feed, F_law_feed⟩ := c.def_ 29 (d := datD "_law_feed" s_law_feed) rfl
  have e_law_feed : mg "_law_feed" = some (.ref (He.ga K "_law_feed")) := He.glo_ok X G (c.fact 29 (f := .glo "_law_feed") rfl)
  have B_law_feed : Binds K d_law_feed ["script", "k"] [] := F_law_feed.bindsN fun _ _ _ _ _ _ us hl => match us, hl with | [_, _], _ => rfl
  obtain ⟨d_law_take, F_law_take⟩ := c.def_ 30 (d := datD "_law_take" s_law_take) rfl
  have e_law_take : mg "_law_take" = some (.ref (He.ga K "_law_take")) := He.glo_ok X G (c.fact 30 (f := .glo "_law_take") rfl)
  have B_law_take : Binds K d_law_take ["feed", "many"] [] := F_law_take.bindsN fun _ _ _ _ _ _ us hl => match us, hl with | [_, _], _ => rfl
  obtain ⟨d_law_names, F_law_names⟩ := c.def_ 31 (d := datD "_law_names" s_law_names) rfl
  have e_law_names : mg "_law_names" = some (.ref (He.ga K "_law_names")) := He.glo_ok X G (c.fact 31 (f := .glo "_law_names") rfl)
  have B_law_names : Binds K d_law_names ["feed", "many"] [] := F_law_names.bindsN fun _ _ _ _ _ _ us hl => match us, hl with | [_, _], _ => rfl
  obtain ⟨d_law_plain, F_law_plain⟩ := c.def_ 32 (d := datD "_law_plain" s_law_plain) rfl
  have e_law_plain : mg "_law_plain" = some (.ref (He.ga K "_law_plain")) := He.glo_ok X G (c.fact 32 (f := .glo "_law_plain") rfl)
  have B_law_plain : Binds K d_law_plain ["feed", "boxes", "words"] [] := F_law_plain.bindsN fun _ _ _ _ _ _ us hl => match us, hl with | [_, _, _], _ => rfl
  obtain ⟨d_law_step_on, F_law_step_on⟩ := c.def_ 33 (d := datD "_law_step_on" s_law_step_on) rfl
  have e_law_step_on : mg "_law_step_on" = some (.ref (He.ga K "_law_step_on")) := He.glo_ok X G (c.fact 33 (f := .glo "_law_step_on") rfl)
  have B_law_step_on : Binds K d_law_step_on ["lines", "opened"] [] := F_law_step_on.bindsN fun _ _ _ _ _ _ us hl => match us, hl with | [_, _], _ => rfl
  obtain ⟨d_law_part, F_law_part⟩ := c.def_ 34 (d := datD "_law_part" s_law_part) rfl
  have e_law_part : mg "_law_part" = some (.ref (He.ga K "_law_part")) := He.glo_ok X G (c.fact 34 (f := .glo "_law_part") rfl)
  have B_law_part : Binds K d_law_part ["feed", "size", "menus", "later", "opens", "dos"] [] := F_law_part.bindsN fun _ _ _ _ _ _ us hl => match us, hl with | [_, _, _, _, _, _], _ => rfl
  obtain ⟨d_law_program, F_law_program⟩ := c.def_ 35 (d := datD "_law_program" s_law_program) rfl
  have e_law_program : mg "_law_program" = some (.ref (He.ga K "_law_program")) := He.glo_ok X G (c.fact 35 (f := .glo "_law_program") rfl)
  have B_law_program : Binds K d_law_program ["feed", "bounds"] [] := F_law_program.bindsN fun _ _ _ _ _ _ us hl => match us, hl with | [_, _], _ => rfl
  obtain ⟨d_law_blocks, F_law_blocks⟩ := c.def_ 36 (d := datD "_law_blocks" s_law_blocks) rfl
  have e_law_blocks : mg "_law_blocks" = some (.ref (He.ga K "_law_blocks")) := He.glo_ok X G (c.fact 36 (f := .glo "_law_blocks") rfl)
  have B_law_blocks : Binds K d_law_blocks ["lines"] [] := F_law_blocks.bindsN fun _ _ _ _ _ _ us hl => match us, hl with | [_], _ => rfl
  obtain ⟨d_law_next, F_law_next⟩ := c.def_ 37 (d := datD "_law_next" s_law_next) rfl
  have e_law_next : mg "_law_next" = some (.ref (He.ga K "_law_next")) := He.glo_ok X G (c.fact 37 (f := .glo "_law_next") rfl)
  have B_law_next : Binds K d_law_next ["program", "rows", "spot"] [] := F_law_next.bindsN fun _ _ _ _ _ _ us hl => match us, hl with | [_, _, _], _ => rfl
  obtain ⟨d_law_words, F_law_words⟩ := c.def_ 38 (d := datD "_law_words" s_law_words) rfl
  have e_law_words : mg "_law_words" = some (.ref (He.ga K "_law_words")) := He.glo_ok X G (c.fact 38 (f := .glo "_law_words") rfl)
  have B_law_words : Binds K d_law_words ["program"] [] := F_law_words.bindsN fun _ _ _ _ _ _ us hl => match us, hl with | [_], _ => rfl
  obtain ⟨d_law_manner, F_law_manner⟩ := c.def_ 39 (d := datD "_law_manner" s_law_manner) rfl
  have e_law_manner : mg "_law_manner" = some (.ref (He.ga K "_law_manner")) := He.glo_ok X G (c.fact 39 (f := .glo "_law_manner") rfl)
  have B_law_manner : Binds K d_law_manner ["program", "feed"] [] := F_law_manner.bindsN fun _ _ _ _ _ _ us hl => match us, hl with | [_, _], _ => rfl
  obtain ⟨d_law_made, F_law_made⟩ := c.def_ 40 (d := datD "_law_made" s_law_made) rfl
  have e_law_made : mg "_law_made" = some (.ref (He.ga K "_law_made")) := He.glo_ok X G (c.fact 40 (f := .glo "_law_made") rfl)
  have B_law_made : Binds K d_law_made ["program", "spot"] [] := F_law_made.bindsN fun _ _ _ _ _ _ us hl => match us, hl with | [_, _], _ => rfl
  obtain ⟨d_law_given, F_law_given⟩ := c.def_ 41 (d := datD "_law_given" s_law_given) rfl
  have e_law_given : mg "_law_given" = some (.ref (He.ga K "_law_given")) := He.glo_ok X G (c.fact 41 (f := .glo "_law_given") rfl)
  have B_law_given : Binds K d_law_given ["manner", "spot"] [] := F_law_given.bindsN fun _ _ _ _ _ _ us hl => match us, hl with | [_, _], _ => rfl
  obtain ⟨d_law_book, F_law_book⟩ := c.def_ 42 (d := datD "_law_book" s_law_book) rfl
  have e_law_book : mg "_law_book" = some (.ref (He.ga K "_law_book")) := He.glo_ok X G (c.fact 42 (f := .glo "_law_book") rfl)
  have B_law_book : Binds K d_law_book ["program", "manner", "run"] [] := F_law_book.bindsN fun _ _ _ _ _ _ us hl => match us, hl with | [_, _, _], _ => rfl
  obtain ⟨d_law_run_by, F_law_run_by⟩ := c.def_ 43 (d := datD "_law_run_by" s_law_run_by) rfl
  have e_law_run_by : mg "_law_run_by" = some (.ref (He.ga K "_law_run_by")) := He.glo_ok X G (c.fact 43 (f := .glo "_law_run_by") rfl)
  have B_law_run_by : Binds K d_law_run_by ["program", "rows", "number"] [] := F_law_run_by.bindsN fun _ _ _ _ _ _ us hl => match us, hl with | [_, _, _], _ => rfl
  obtain ⟨d_law_greatest, F_law_greatest⟩ := c.def_ 44 (d := datD "_law_greatest" s_law_greatest) rfl
  have e_law_greatest : mg "_law_greatest" = some (.ref (He.ga K "_law_greatest")) := He.glo_ok X G (c.fact 44 (f := .glo "_law_greatest") rfl)
  have B_law_greatest : Binds K d_law_greatest ["program", "rows", "manner"] [] := F_law_greatest.bindsN fun _ _ _ _ _ _ us hl => match us, hl with | [_, _, _], _ => rfl
  obtain ⟨d_law, F_law⟩ := c.def_ 45 (d := datD "law" s_law) rfl
  have e := hfa.symm.trans (He.glo_ok X G (c.fact 45 (f := .glo "law") rfl))
  cases e
  have B := FunD.bindsA (ps := ["script"]) F_law fun _ _ _ _ _ _ us hl => match us, hl with | [_], _ => rfl
  refine ⟨d_law, fun s v => B s [v] rfl, fun base _ _ => ?_⟩
  have c_end_of : Cal P w K mg base 1 "end_of" ["lines", "k"] p_end_of := calD F_end_of e_end_of (w_end_of M F_end_of k_end_of) B_end_of
  have c_or_of : Cal P w K mg base 1 "or_of" ["lines", "k"] p_or_of := calD F_or_of e_or_of (w_or_of M F_or_of k_or_of) B_or_of
  have c_head_of : Cal P w K mg base 1 "head_of" ["lines", "k"] p_head_of := calD F_head_of e_head_of (w_head_of M F_head_of k_head_of) B_head_of
  have c_number_of : Cal P w K mg base 1 "number_of" ["program", "name"] p_number_of := calD F_number_of e_number_of (w_number_of M F_number_of k_number_of) B_number_of
  have c_all_lines : Cal P w K mg base 1 "all_lines" ["program"] p_all_lines := calD F_all_lines e_all_lines (w_all_lines M F_all_lines k_all_lines) B_all_lines
  have c_words_of : Cal P w K mg base 2 "words_of" ["program"] p_words_of := calD F_words_of e_words_of (w_words_of M c_all_lines F_words_of k_words_of) B_words_of
  have c_first_spot : Cal P w K mg base 1 "first_spot" [] p_first_spot := calD F_first_spot e_first_spot (w_first_spot M F_first_spot k_first_spot) B_first_spot
  have c_place_of : Cal P w K mg base 1 "place_of" ["spot"] p_place_of := calD F_place_of e_place_of (w_place_of M F_place_of k_place_of) B_place_of
  have c_line_of : Cal P w K mg base 1 "line_of" ["program", "spot"] p_line_of := calD F_line_of e_line_of (w_line_of M F_line_of k_line_of) B_line_of
  have c_behind_part : Cal P w K mg base 1 "behind_part" ["way"] p_behind_part := calD F_behind_part e_behind_part (w_behind_part M F_behind_part k_behind_part) B_behind_part
  have c_behind_end : Cal P w K mg base 2 "behind_end" ["way", "part", "lines", "k"] p_behind_end := calD F_behind_end e_behind_end (w_behind_end M c_head_of F_behind_end k_behind_end) B_behind_end
  have c_next_spots : Cal P w K mg base 3 "next_spots" ["program", "spot"] p_next_spots := calD F_next_spots e_next_spots (w_next_spots M c_behind_part c_behind_end c_number_of c_end_of c_or_of F_next_spots k_next_spots) B_next_spots
  have c_spots : Cal P w K mg base 4 "spots" ["program"] p_spots := calD F_spots e_spots (w_spots M c_first_spot c_next_spots F_spots k_spots) B_spots
  have c_given_at : Cal P w K mg base 2 "given_at" ["manner", "spot"] p_given_at := calD F_given_at e_given_at (w_given_at M c_place_of F_given_at k_given_at) B_given_at
  have c_made_at : Cal P w K mg base 2 "made_at" ["program", "spot"] p_made_at := calD F_made_at e_made_at (w_made_at M c_line_of F_made_at k_made_at) B_made_at
  have c_spots_ahead : Cal P w K mg base 5 "spots_ahead" ["program"] p_spots_ahead := calD F_spots_ahead e_spots_ahead (w_spots_ahead M c_spots c_next_spots F_spots_ahead k_spots_ahead) B_spots_ahead
  have c_givings : Cal P w K mg base 5 "givings" ["program", "manner"] p_givings := calD F_givings e_givings (w_givings M c_spots c_given_at F_givings k_givings) B_givings
  have c_rests : Cal P w K mg base 3 "rests" ["program", "gone", "ahead", "entry"] p_rests := calD F_rests e_rests (w_rests M c_made_at F_rests k_rests) B_rests
  have c_makings : Cal P w K mg base 5 "makings" ["program", "word"] p_makings := calD F_makings e_makings (w_makings M c_spots c_line_of F_makings k_makings) B_makings
  have c_spots_at : Cal P w K mg base 5 "spots_at" ["program", "places"] p_spots_at := calD F_spots_at e_spots_at (w_spots_at M c_spots c_place_of F_spots_at k_spots_at) B_spots_at
  have c_way_back : Cal P w K mg base 1 "way_back" ["came", "spot"] p_way_back := calD F_way_back e_way_back (w_way_back M F_way_back k_way_back) B_way_back
  have c_road : Cal P w K mg base 4 "road" ["program", "starts", "goals", "barred"] p_road := calD F_road e_road (w_road M c_way_back c_next_spots F_road k_road) B_road
  have c_run_to : Cal P w K mg base 5 "run_to" ["program", "spot"] p_run_to := calD F_run_to e_run_to (w_run_to M c_road c_first_spot F_run_to k_run_to) B_run_to
  have c_growing_round : Cal P w K mg base 6 "growing_round" ["program", "manner", "word"] p_growing_round := calD F_growing_round e_growing_round (w_growing_round M c_spots_at c_makings c_road c_next_spots F_growing_round k_growing_round) B_growing_round
  have c_wanted_entries : Cal P w K mg base 6 "wanted_entries" ["program", "manner"] p_wanted_entries := calD F_wanted_entries e_wanted_entries (w_wanted_entries M c_spots_ahead c_givings c_words_of c_rests F_wanted_entries k_wanted_entries) B_wanted_entries
  have c_bettered : Cal P w K mg base 1 "bettered" ["rows"] p_bettered := calD F_bettered e_bettered (w_bettered M F_bettered k_bettered) B_bettered
  have c_run_back : Cal P w K mg base 6 "run_back" ["program", "came", "entry"] p_run_back := calD F_run_back e_run_back (w_run_back M c_run_to F_run_back k_run_back) B_run_back
  have c_table_of : Cal P w K mg base 5 "table_of" ["program", "numbers"] p_table_of := calD F_table_of e_table_of (w_table_of M c_spots F_table_of k_table_of) B_table_of
  have c_most : Cal P w K mg base 7 "most" ["program", "manner"] p_most := calD F_most e_most (w_most M c_words_of c_bettered c_spots c_growing_round c_wanted_entries c_first_spot c_run_back c_table_of c_run_to F_most k_most) B_most
  have c_law_feed : Cal P w K mg base 1 "_law_feed" ["script", "k"] p_law_feed := calD F_law_feed e_law_feed (w_law_feed M F_law_feed k_law_feed) B_law_feed
  have c_law_take : Cal P w K mg base 1 "_law_take" ["feed", "many"] p_law_take := calD F_law_take e_law_take (w_law_take M F_law_take k_law_take) B_law_take
  have c_law_names : Cal P w K mg base 2 "_law_names" ["feed", "many"] p_law_names := calD F_law_names e_law_names (w_law_names M c_law_take F_law_names k_law_names) B_law_names
  have c_law_plain : Cal P w K mg base 2 "_law_plain" ["feed", "boxes", "words"] p_law_plain := calD F_law_plain e_law_plain (w_law_plain M c_law_take F_law_plain k_law_plain) B_law_plain
  have c_law_step_on : Cal P w K mg base 1 "_law_step_on" ["lines", "opened"] p_law_step_on := calD F_law_step_on e_law_step_on (w_law_step_on M F_law_step_on k_law_step_on) B_law_step_on
  have c_law_part : Cal P w K mg base 3 "_law_part" ["feed", "size", "menus", "later", "opens", "dos"] p_law_part := calD F_law_part e_law_part (w_law_part M c_law_take c_law_step_on c_law_plain F_law_part k_law_part) B_law_part
  have c_law_program : Cal P w K mg base 4 "_law_program" ["feed", "bounds"] p_law_program := calD F_law_program e_law_program (w_law_program M c_law_names c_law_take c_law_part F_law_program k_law_program) B_law_program
  have c_law_blocks : Cal P w K mg base 1 "_law_blocks" ["lines"] p_law_blocks := calD F_law_blocks e_law_blocks (w_law_blocks M F_law_blocks k_law_blocks) B_law_blocks
  have c_law_next : Cal P w K mg base 1 "_law_next" ["program", "rows", "spot"] p_law_next := calD F_law_next e_law_next (w_law_next M F_law_next k_law_next) B_law_next
  have c_law_words : Cal P w K mg base 1 "_law_words" ["program"] p_law_words := calD F_law_words e_law_words (w_law_words M F_law_words k_law_words) B_law_words
  have c_law_manner : Cal P w K mg base 2 "_law_manner" ["program", "feed"] p_law_manner := calD F_law_manner e_law_manner (w_law_manner M c_law_words c_law_take F_law_manner k_law_manner) B_law_manner
  have c_law_made : Cal P w K mg base 1 "_law_made" ["program", "spot"] p_law_made := calD F_law_made e_law_made (w_law_made M F_law_made k_law_made) B_law_made
  have c_law_given : Cal P w K mg base 1 "_law_given" ["manner", "spot"] p_law_given := calD F_law_given e_law_given (w_law_given M F_law_given k_law_given) B_law_given
  have c_law_book : Cal P w K mg base 2 "_law_book" ["program", "manner", "run"] p_law_book := calD F_law_book e_law_book (w_law_book M c_law_given c_law_made F_law_book k_law_book) B_law_book
  have c_law_run_by : Cal P w K mg base 2 "_law_run_by" ["program", "rows", "number"] p_law_run_by := calD F_law_run_by e_law_run_by (w_law_run_by M c_law_next F_law_run_by k_law_run_by) B_law_run_by
  have c_law_greatest : Cal P w K mg base 3 "_law_greatest" ["program", "rows", "manner"] p_law_greatest := calD F_law_greatest e_law_greatest (w_law_greatest M c_law_run_by c_law_book F_law_greatest k_law_greatest) B_law_greatest
  exact w_law M c_law_program c_law_manner c_most c_law_greatest c_law_feed c_law_blocks c_law_book F_law k_law
end L3
end
section
set_option maxRecDepth 10000
/-! L4Base: equality of data, typed dicts, loops. -/
namespace L3
open PySem

/-! ### == is equality of keys -/
mutual
theorem eqv_nk : ∀ x y : D, PyData.eqv x.py y.py = decide (x.nk = y.nk)
  | .tup xs, y => by
    cases y with
    | tup ys =>
      show PyData.eqv (.tuple (D.pys xs)) (.tuple (D.pys ys)) = decide (NestedKey.tup (D.nks xs) = NestedKey.tup (D.nks ys))
      rw [PyData.eqv, eqvs_nk xs ys, Bool.eq_iff_iff]
      simp
    | _ => simp [D.py, D.nk, PyData.eqv]
  | .non, y => by cases y <;> simp [D.py, D.nk, PyData.eqv]
  | .bl b, y => by
    cases y with
    | bl c => cases b <;> cases c <;> simp [D.py, D.nk, PyData.eqv]
    | int j => rw [Bool.eq_iff_iff]; cases b <;> simp [D.py, D.nk, PyData.eqv]
    | _ => simp [D.py, D.nk, PyData.eqv]
  | .int i, y => by
    cases y with
    | bl c => rw [Bool.eq_iff_iff]; cases c <;> simp [D.py, D.nk, PyData.eqv]
    | int j => rw [Bool.eq_iff_iff]; simp [D.py, D.nk, PyData.eqv]
    | _ => simp [D.py, D.nk, PyData.eqv]
  | .str x, y => by
    cases y with
    | str z => rw [Bool.eq_iff_iff]; simp [D.py, D.nk, PyData.eqv]
    | _ => simp [D.py, D.nk, PyData.eqv]
  | .ref a, y => by cases y <;> simp [D.py, D.nk, PyData.eqv]
  | .src ns, y => by cases y <;> simp [D.py, D.nk, PyData.eqv]
theorem eqvs_nk : ∀ xs ys : List D, PyData.eqvAll (D.pys xs) (D.pys ys) = decide (D.nks xs = D.nks ys)
  | [], [] => by simp [D.pys, D.nks, PyData.eqvAll]
  | [], y :: ys => by simp [D.pys, D.nks, PyData.eqvAll]
  | x :: xs, [] => by simp [D.pys, D.nks, PyData.eqvAll]
  | x :: xs, y :: ys => by
    show PyData.eqvAll (x.py :: D.pys xs) (y.py :: D.pys ys) = decide (x.nk :: D.nks xs = y.nk :: D.nks ys)
    rw [PyData.eqvAll, eqv_nk x y, eqvs_nk xs ys, Bool.eq_iff_iff]
    simp
end
theorem eqb_nk (x y : D) : D.eqb x y = decide (x.nk = y.nk) := eqv_nk x y

/-! ### typed keys -/
/-- an encoding whose keys tell the data apart -/
structure Inj {κ : Type} (enc : κ → D) : Prop where
  inj : ∀ a b, (enc a).nk = (enc b).nk → a = b
theorem Inj.iff {κ : Type} {enc : κ → D} (h : Inj enc) (a b : κ) : (enc a).nk = (enc b).nk ↔ a = b := ⟨h.inj a b, fun e => by rw [e]⟩
theorem Inj.eqb {κ : Type} [DecidableEq κ] {enc : κ → D} (h : Inj enc) (a b : κ) : D.eqb (enc a) (enc b) = decide (a = b) := by
  rw [eqb_nk, Bool.eq_iff_iff]
  simp [h.iff]
theorem Inj.any {κ : Type} [DecidableEq κ] {enc : κ → D} (h : Inj enc) (l : List κ) (x : κ) : ((l.map enc).any fun z => D.eqb z (enc x)) = decide (x ∈ l) := by
  (rw [Bool.eq_iff_iff, List.any_eq_true, decide_eq_true_eq])
  constructor
  · rintro ⟨z, hz, e⟩
    obtain ⟨y, hy, rfl⟩ := List.mem_map.mp hz
    rw [h.eqb, decide_eq_true_eq] at e
    exact e ▸ hy
  · intro hx
    exact ⟨_, List.mem_map.mpr ⟨x, hx, rfl⟩, by rw [h.eqb]; simp⟩

/-- a dict with typed keys: ks its keys in order -/
def dm {κ : Type} (enc : κ → D) (ks : List κ) (f : κ → D) : List (D × D) := ks.map fun k => (enc k, f k)
def upd1 {κ : Type} [DecidableEq κ] {β : Type} (f : κ → β) (k : κ) (v : β) : κ → β := fun j => if j = k then v else f j
theorem upd1_same {κ : Type} [DecidableEq κ] {β : Type} {f : κ → β} {k : κ} {v : β} : upd1 f k v k = v := if_pos rfl
theorem upd1_ne {κ : Type} [DecidableEq κ] {β : Type} {f : κ → β} {k j : κ} {v : β} (h : j ≠ k) : upd1 f k v j = f j := if_neg h
section
variable {κ : Type} [DecidableEq κ] {enc : κ → D}
theorem hasT_dm (h : Inj enc) (ks : List κ) (f : κ → D) (k : κ) : hasT (dm enc ks f) (enc k) = decide (k ∈ ks) := by
  unfold hasT dm; rw [Bool.eq_iff_iff, List.any_eq_true, decide_eq_true_eq]
  constructor
  · rintro ⟨z, hz, e⟩
    obtain ⟨y, hy, rfl⟩ := List.mem_map.mp hz
    rw [decide_eq_true_eq, h.iff] at e
    exact e ▸ hy
  · intro hx
    exact ⟨_, List.mem_map.mpr ⟨k, hx, rfl⟩, by simp⟩
theorem getT_dm (h : Inj enc) : ∀ (ks : List κ) (f : κ → D) (k : κ), k ∈ ks → getT (dm enc ks f) (enc k) = some (f k)
  | [], _, _, hm => by cases hm
  | j :: ks, f, k, hm => by
    unfold getT dm
    rw [List.map_cons, List.find?_cons]
    by_cases e : j = k
    · subst e
      simp
    · have ne : ¬ (enc j).nk = (enc k).nk := fun q => e (h.inj _ _ q)
      simp only [ne, decide_false]
      have hm' : k ∈ ks := by
        rcases List.mem_cons.1 hm with q | q
        · exact absurd q.symm e
        · exact q
      exact getT_dm h ks f k hm'
theorem putT_dm (h : Inj enc) (ks : List κ) (f : κ → D) (k : κ) (v : D) : putT (dm enc ks f) (enc k) v = dm enc (if k ∈ ks then ks else ks ++ [k]) (upd1 f k v) := by
  unfold putT
  rw [hasT_dm h]
  by_cases hm : k ∈ ks
  · rw [if_pos (by simpa using hm), if_pos hm]
    unfold dm
    rw [List.map_map]
    refine List.map_congr_left fun j hj => ?_
    show (if (enc j).nk = (enc k).nk then (enc j, v) else (enc j, f j)) = (enc j, upd1 f k v j)
    by_cases e : j = k
    · rw [if_pos (by rw [e]), e, upd1_same]
    · rw [if_neg (fun q => e (h.inj _ _ q)), upd1_ne e]
  · rw [if_neg (by simpa using hm), if_neg hm]
    unfold dm
    rw [List.map_append]
    congr 1
    · refine List.map_congr_left fun j hj => ?_
      rw [upd1_ne fun e : j = k => hm (e ▸ hj)]
    · show [(enc k, v)] = [(enc k, upd1 f k v k)]
      rw [upd1_same]
theorem dm_keys (ks : List κ) (f : κ → D) : (dm enc ks f).map (·.1) = ks.map enc := by
  unfold dm
  rw [List.map_map]
  rfl
theorem dm_len (ks : List κ) (f : κ → D) : (dm enc ks f).length = ks.length := List.length_map ..
theorem dm_congr {ks : List κ} {f g : κ → D} (h : ∀ k ∈ ks, f k = g k) : dm enc ks f = dm enc ks g := List.map_congr_left fun k hk => by rw [h k hk]
end

/-! ### stores -/
theorem Sub.putN {S S' : Sto} {p : Addr} {o : AO} (h : Sub S S') (hp : S p = Option.none) : Sub S (S'.put p o) := fun a u e => by
  rw [put_ne (fun q => by rw [q, hp] at e; cases e)]
  exact h a u e
theorem ne_new {S : Sto} {a p : Addr} {o : AO} (h : S a = some o) (hp : S p = none) : a ≠ p := fun q => by
  rw [q, hp] at h
  cases h

/-! ### loops -/
/-- for: I i holds ahead of the i-th item -/
theorem for_inv {G : Sto → Prop} {g : G3} {b : S3} {N : N3} (I : Nat → E3 → Sto → Prop) : ∀ (ds : List D) (n : Nat) (δ : E3) (S : Sto), I n δ S → (∀ i δ S, I i δ S → G S) →
    (∀ i d δ S, ds[i]? = some d → I (n + i) δ S → ∀ k : E3 → Sto → Prop, (∀ δ' S', I (n + i + 1) δ' S' → k δ' S') → g d δ S fun δ1 S1 => b { N with nx := k } δ1 S1) →
    (∀ δ S, I (n + ds.length) δ S → N.nx δ S) → forD G g b N ds δ S
  | [], n, δ, S, h0, hG, _, hE => ⟨hG _ _ _ h0, hE δ S h0⟩
  | d :: ds, n, δ, S, h0, hG, hs, hE => ⟨hG _ _ _ h0, hs 0 d δ S rfl h0 _ fun δ' S' h' => for_inv I ds (n + 1) δ' S' h' hG
    (fun i d δ S e h k hk => by
      have := hs (i + 1) d δ S (by simpa using e) (by rw [show n + (i + 1) = n + 1 + i by omega]; exact h) k
      exact this fun δ' S' h' => hk δ' S' (by rw [show n + 1 + i + 1 = n + (i + 1) + 1 by omega]; exact h'))
    fun δ S h => hE δ S (by rw [List.length_cons, show n + (ds.length + 1) = n + 1 + ds.length by omega]; exact h)⟩
/-- for: I xs holds behind the items xs -/
theorem for_pre {α : Type} {f : α → D} {G : Sto → Prop} {g : G3} {b : S3} {N : N3} (I : List α → E3 → Sto → Prop) (xs : List α) {δ : E3} {S : Sto} (h0 : I [] δ S) (hG : ∀ l δ S, I l δ S → G S)
    (hs : ∀ l x r δ S, xs = l ++ x :: r → I l δ S → ∀ k : E3 → Sto → Prop, (∀ δ' S', I (l ++ [x]) δ' S' → k δ' S') → g (f x) δ S fun δ1 S1 => b { N with nx := k } δ1 S1)
    (hE : ∀ δ S, I xs δ S → N.nx δ S) : forD G g b N (xs.map f) δ S := by
  have go : ∀ (r l : List α) (δ : E3) (S : Sto), xs = l ++ r → I l δ S → forD G g b N (r.map f) δ S := by
    intro r
    induction r with
    | nil =>
      intro l δ S e h
      rw [List.append_nil] at e
      subst e
      exact ⟨hG _ _ _ h, hE _ _ h⟩
    | cons x r ih =>
      intro l δ S e h
      exact ⟨hG _ _ _ h, hs l x r δ S e h _ fun δ' S' h' => ih (l ++ [x]) δ' S' (by rw [e, List.append_assoc]; rfl) h'⟩
  exact go xs [] δ S rfl h0
/-- for over enumerate -/
theorem for_num {α : Type} {f : α → D} {G : Sto → Prop} {g : G3} {b : S3} {N : N3} (I : List α → E3 → Sto → Prop) (xs : List α) {δ : E3} {S : Sto} (h0 : I [] δ S) (hG : ∀ l δ S, I l δ S → G S)
    (hs : ∀ l x r δ S, xs = l ++ x :: r → I l δ S → ∀ k : E3 → Sto → Prop, (∀ δ' S', I (l ++ [x]) δ' S' → k δ' S') → g (.tup [.int (l.length : Nat), f x]) δ S fun δ1 S1 => b { N with nx := k } δ1 S1)
    (hE : ∀ δ S, I xs δ S → N.nx δ S) : forD G g b N (numbered 0 (xs.map f)) δ S := by
  have go : ∀ (r l : List α) (δ : E3) (S : Sto), xs = l ++ r → I l δ S → forD G g b N (numbered l.length (r.map f)) δ S := by
    intro r
    induction r with
    | nil =>
      intro l δ S e h
      rw [List.append_nil] at e
      subst e
      exact ⟨hG _ _ _ h, hE _ _ h⟩
    | cons x r ih =>
      intro l δ S e h
      refine ⟨hG _ _ _ h, hs l x r δ S e h _ fun δ' S' h' => ?_⟩
      have q := ih (l ++ [x]) δ' S' (by rw [e, List.append_assoc]; rfl) h'
      rw [List.length_append] at q
      exact q
  exact go xs [] δ S rfl h0
/-- a comprehension whose items are read without a trace that matters: P what is kept of the store -/
theorem lc_pure {α : Type} {f : α → D} {G : Sto → Prop} {g : G3} {c : B3} {e : T3} {δ : E3} (P : Sto → Prop) (h : α → Option D) : ∀ (xs : List α) (acc : List D) (S : Sto) (Q : List D → Sto → Prop), P S → (∀ S, P S → G S) → acc.length + xs.length ≤ 100000 →
    (∀ x ∈ xs, ∀ S, P S → ∀ (k1 : D → Sto → Prop) (k2 : Sto → Prop), (match h x with
      | some d => ∀ S', P S' → k1 d S'
      | none => ∀ S', P S' → k2 S') → g (f x) δ S fun δ1 S1 => c δ1 S1 fun k S2 => if k = true then e δ1 S2 k1 else k2 S2) →
    (∀ S', P S' → Q (acc ++ xs.filterMap h) S') → lcD G g c e δ (xs.map f) acc S Q
  | [], acc, S, Q, hP, hG, _, _, hQ => ⟨hG S hP, by simpa using hQ S hP⟩
  | x :: xs, acc, S, Q, hP, hG, hl, hs, hQ => by
    refine ⟨hG S hP, hs x List.mem_cons_self S hP _ _ ?_⟩
    rw [List.length_cons] at hl
    have rest : ∀ acc', acc'.length + xs.length ≤ 100000 → (∀ S', P S' → Q (acc' ++ xs.filterMap h) S') → ∀ S', P S' → lcD G g c e δ (xs.map f) acc' S' Q :=
      fun acc' hl' hQ' S' hP' => lc_pure P h xs acc' S' Q hP' hG hl' (fun y hy => hs y (List.mem_cons_of_mem _ hy)) hQ'
    cases q : h x with
    | none => exact fun S' hP' => rest acc (by omega) (fun S2 p2 => by simpa [List.filterMap_cons, q] using hQ S2 p2) S' hP'
    | some d =>
      exact fun S' hP' => ⟨by omega, rest (acc ++ [d]) (by rw [List.length_append, List.length_singleton]; omega) (fun S2 p2 => by simpa [List.filterMap_cons, q] using hQ S2 p2) S' hP'⟩
end L3
end
section
set_option maxRecDepth 10000
/-! L4Data: lines, programs, spots as data. -/
namespace L3
open PySem

theorem itB {b : Bool} {p q : Prop} (h1 : b = true → p) (h2 : b = false → q) : if b = true then p else q := by
  cases b
  · exact h2 rfl
  · exact h1 rfl
theorem itT {b : Bool} {p q : Prop} (h : b = true) (h1 : p) : if b = true then p else q := by rw [if_pos h]; exact h1
theorem itF {b : Bool} {p q : Prop} (h : b = false) (h1 : q) : if b = true then p else q := by rw [if_neg (by rw [h]; simp)]; exact h1

/-! ### lines -/
inductive Kd | eit | agn | orr | fin | doo | oth deriving DecidableEq
inductive PlK | first | second | same | none | tell deriving DecidableEq
inductive Ln where
  | eit | agn | orr | fin
  | doo (nm : Str)
  | pair (x w y z : Str)
  | pl (h : PlK) (xs : List Str)
def PlK.str : PlK → Str
  | .first => "first" | .second => "second" | .same => "same" | .none => "none" | .tell => "tell"
def Ln.kd : Ln → Kd
  | .eit => .eit | .agn => .agn | .orr => .orr | .fin => .fin | .doo _ => .doo | .pair .. => .oth | .pl .. => .oth
def Ln.hd : Ln → Str
  | .eit => "either" | .agn => "again" | .orr => "or" | .fin => "end" | .doo _ => "do" | .pair .. => "pair" | .pl h _ => h.str
def Ln.tl : Ln → List D
  | .doo nm => [.str nm]
  | .pair x w y z => [.str x, .str w, .str y, .str z]
  | .pl _ xs => xs.map .str
  | _ => []
def lnD (l : Ln) : D := .tup (.str l.hd :: l.tl)
def lsD (L : List Ln) : D := .tup (L.map lnD)
theorem str_eqb (x y : Str) : D.eqb (.str x) (.str y) = decide (x = y) := by
  rw [eqb_nk, Bool.eq_iff_iff]
  simp [D.nk]
theorem int_eqb (x y : Int) : D.eqb (.int x) (.int y) = decide (x = y) := by
  rw [eqb_nk, Bool.eq_iff_iff]
  simp [D.nk]
theorem hd_eit : ∀ l : Ln, decide (l.hd = "either") = decide (l.kd = .eit)
  | .eit => show decide (("either" : Str) = "either") = decide (Kd.eit = Kd.eit) by decide +kernel
  | .agn => show decide (("again" : Str) = "either") = decide (Kd.agn = Kd.eit) by decide +kernel
  | .orr => show decide (("or" : Str) = "either") = decide (Kd.orr = Kd.eit) by decide +kernel
  | .fin => show decide (("end" : Str) = "either") = decide (Kd.fin = Kd.eit) by decide +kernel
  | .doo _ => show decide (("do" : Str) = "either") = decide (Kd.doo = Kd.eit) by decide +kernel
  | .pair _ _ _ _ => show decide (("pair" : Str) = "either") = decide (Kd.oth = Kd.eit) by decide +kernel
  | .pl .first _ => show decide (("first" : Str) = "either") = decide (Kd.oth = Kd.eit) by decide +kernel
  | .pl .second _ => show decide (("second" : Str) = "either") = decide (Kd.oth = Kd.eit) by decide +kernel
  | .pl .same _ => show decide (("same" : Str) = "either") = decide (Kd.oth = Kd.eit) by decide +kernel
  | .pl .none _ => show decide (("none" : Str) = "either") = decide (Kd.oth = Kd.eit) by decide +kernel
  | .pl .tell _ => show decide (("tell" : Str) = "either") = decide (Kd.oth = Kd.eit) by decide +kernel
theorem hd_agn : ∀ l : Ln, decide (l.hd = "again") = decide (l.kd = .agn)
  | .eit => show decide (("either" : Str) = "again") = decide (Kd.eit = Kd.agn) by decide +kernel
  | .agn => show decide (("again" : Str) = "again") = decide (Kd.agn = Kd.agn) by decide +kernel
  | .orr => show decide (("or" : Str) = "again") = decide (Kd.orr = Kd.agn) by decide +kernel
  | .fin => show decide (("end" : Str) = "again") = decide (Kd.fin = Kd.agn) by decide +kernel
  | .doo _ => show decide (("do" : Str) = "again") = decide (Kd.doo = Kd.agn) by decide +kernel
  | .pair _ _ _ _ => show decide (("pair" : Str) = "again") = decide (Kd.oth = Kd.agn) by decide +kernel
  | .pl .first _ => show decide (("first" : Str) = "again") = decide (Kd.oth = Kd.agn) by decide +kernel
  | .pl .second _ => show decide (("second" : Str) = "again") = decide (Kd.oth = Kd.agn) by decide +kernel
  | .pl .same _ => show decide (("same" : Str) = "again") = decide (Kd.oth = Kd.agn) by decide +kernel
  | .pl .none _ => show decide (("none" : Str) = "again") = decide (Kd.oth = Kd.agn) by decide +kernel
  | .pl .tell _ => show decide (("tell" : Str) = "again") = decide (Kd.oth = Kd.agn) by decide +kernel
theorem hd_orr : ∀ l : Ln, decide (l.hd = "or") = decide (l.kd = .orr)
  | .eit => show decide (("either" : Str) = "or") = decide (Kd.eit = Kd.orr) by decide +kernel
  | .agn => show decide (("again" : Str) = "or") = decide (Kd.agn = Kd.orr) by decide +kernel
  | .orr => show decide (("or" : Str) = "or") = decide (Kd.orr = Kd.orr) by decide +kernel
  | .fin => show decide (("end" : Str) = "or") = decide (Kd.fin = Kd.orr) by decide +kernel
  | .doo _ => show decide (("do" : Str) = "or") = decide (Kd.doo = Kd.orr) by decide +kernel
  | .pair _ _ _ _ => show decide (("pair" : Str) = "or") = decide (Kd.oth = Kd.orr) by decide +kernel
  | .pl .first _ => show decide (("first" : Str) = "or") = decide (Kd.oth = Kd.orr) by decide +kernel
  | .pl .second _ => show decide (("second" : Str) = "or") = decide (Kd.oth = Kd.orr) by decide +kernel
  | .pl .same _ => show decide (("same" : Str) = "or") = decide (Kd.oth = Kd.orr) by decide +kernel
  | .pl .none _ => show decide (("none" : Str) = "or") = decide (Kd.oth = Kd.orr) by decide +kernel
  | .pl .tell _ => show decide (("tell" : Str) = "or") = decide (Kd.oth = Kd.orr) by decide +kernel
theorem hd_fin : ∀ l : Ln, decide (l.hd = "end") = decide (l.kd = .fin)
  | .eit => show decide (("either" : Str) = "end") = decide (Kd.eit = Kd.fin) by decide +kernel
  | .agn => show decide (("again" : Str) = "end") = decide (Kd.agn = Kd.fin) by decide +kernel
  | .orr => show decide (("or" : Str) = "end") = decide (Kd.orr = Kd.fin) by decide +kernel
  | .fin => show decide (("end" : Str) = "end") = decide (Kd.fin = Kd.fin) by decide +kernel
  | .doo _ => show decide (("do" : Str) = "end") = decide (Kd.doo = Kd.fin) by decide +kernel
  | .pair _ _ _ _ => show decide (("pair" : Str) = "end") = decide (Kd.oth = Kd.fin) by decide +kernel
  | .pl .first _ => show decide (("first" : Str) = "end") = decide (Kd.oth = Kd.fin) by decide +kernel
  | .pl .second _ => show decide (("second" : Str) = "end") = decide (Kd.oth = Kd.fin) by decide +kernel
  | .pl .same _ => show decide (("same" : Str) = "end") = decide (Kd.oth = Kd.fin) by decide +kernel
  | .pl .none _ => show decide (("none" : Str) = "end") = decide (Kd.oth = Kd.fin) by decide +kernel
  | .pl .tell _ => show decide (("tell" : Str) = "end") = decide (Kd.oth = Kd.fin) by decide +kernel
theorem hd_doo : ∀ l : Ln, decide (l.hd = "do") = decide (l.kd = .doo)
  | .eit => show decide (("either" : Str) = "do") = decide (Kd.eit = Kd.doo) by decide +kernel
  | .agn => show decide (("again" : Str) = "do") = decide (Kd.agn = Kd.doo) by decide +kernel
  | .orr => show decide (("or" : Str) = "do") = decide (Kd.orr = Kd.doo) by decide +kernel
  | .fin => show decide (("end" : Str) = "do") = decide (Kd.fin = Kd.doo) by decide +kernel
  | .doo _ => show decide (("do" : Str) = "do") = decide (Kd.doo = Kd.doo) by decide +kernel
  | .pair _ _ _ _ => show decide (("pair" : Str) = "do") = decide (Kd.oth = Kd.doo) by decide +kernel
  | .pl .first _ => show decide (("first" : Str) = "do") = decide (Kd.oth = Kd.doo) by decide +kernel
  | .pl .second _ => show decide (("second" : Str) = "do") = decide (Kd.oth = Kd.doo) by decide +kernel
  | .pl .same _ => show decide (("same" : Str) = "do") = decide (Kd.oth = Kd.doo) by decide +kernel
  | .pl .none _ => show decide (("none" : Str) = "do") = decide (Kd.oth = Kd.doo) by decide +kernel
  | .pl .tell _ => show decide (("tell" : Str) = "do") = decide (Kd.oth = Kd.doo) by decide +kernel
def Ln.isPair : Ln → Bool
  | .pair .. => true
  | _ => false
theorem hd_pair : ∀ l : Ln, decide (l.hd = "pair") = l.isPair
  | .eit => show decide (("either" : Str) = "pair") = false by decide +kernel
  | .agn => show decide (("again" : Str) = "pair") = false by decide +kernel
  | .orr => show decide (("or" : Str) = "pair") = false by decide +kernel
  | .fin => show decide (("end" : Str) = "pair") = false by decide +kernel
  | .doo _ => show decide (("do" : Str) = "pair") = false by decide +kernel
  | .pair _ _ _ _ => show decide (("pair" : Str) = "pair") = true by decide +kernel
  | .pl .first _ => show decide (("first" : Str) = "pair") = false by decide +kernel
  | .pl .second _ => show decide (("second" : Str) = "pair") = false by decide +kernel
  | .pl .same _ => show decide (("same" : Str) = "pair") = false by decide +kernel
  | .pl .none _ => show decide (("none" : Str) = "pair") = false by decide +kernel
  | .pl .tell _ => show decide (("tell" : Str) = "pair") = false by decide +kernel
def Ln.word : Ln → Option Str
  | .pair _ w _ _ => some w
  | _ => none
theorem word_pair {l : Ln} (h : l.isPair = true) : ∃ w, l.word = some w ∧ L2.atI (.str l.hd :: l.tl) 2 = some (.str w) := by
  cases l <;> first | exact ⟨_, rfl, rfl⟩ | exact absurd h (by simp [Ln.isPair])
theorem word_none {l : Ln} (h : l.isPair = false) : l.word = none := by
  cases l <;> first | rfl | exact absurd h (by simp [Ln.isPair])
/-- the tests of a line's first text -/
theorem eqb_eit (l : Ln) : D.eqb (.str l.hd) (.str "either") = decide (l.kd = .eit) := (str_eqb _ _).trans (hd_eit l)
theorem eqb_agn (l : Ln) : D.eqb (.str l.hd) (.str "again") = decide (l.kd = .agn) := (str_eqb _ _).trans (hd_agn l)
theorem eqb_orr (l : Ln) : D.eqb (.str l.hd) (.str "or") = decide (l.kd = .orr) := (str_eqb _ _).trans (hd_orr l)
theorem eqb_fin (l : Ln) : D.eqb (.str l.hd) (.str "end") = decide (l.kd = .fin) := (str_eqb _ _).trans (hd_fin l)
theorem eqb_doo (l : Ln) : D.eqb (.str l.hd) (.str "do") = decide (l.kd = .doo) := (str_eqb _ _).trans (hd_doo l)
theorem eqb_pair (l : Ln) : D.eqb (.str l.hd) (.str "pair") = l.isPair := (str_eqb _ _).trans (hd_pair l)
theorem eqb_open (l : Ln) : ([D.str "either", D.str "again"].any fun z => D.eqb z (.str l.hd)) = decide (l.kd = .eit ∨ l.kd = .agn) := by
  have sym : ∀ x y : Str, D.eqb (.str x) (.str y) = D.eqb (.str y) (.str x) := fun x y => by
    rw [str_eqb, str_eqb, Bool.eq_iff_iff]
    simp [eq_comm]
  rw [List.any_cons, List.any_cons, List.any_nil, Bool.or_false, sym, eqb_eit, sym _ l.hd, eqb_agn, Bool.eq_iff_iff]
  simp

/-! ### spots -/
structure Spt where
  way : List (Nat × Nat)
  part : Nat
  k : Nat
  hd : Bool
deriving DecidableEq
def plD (p : Nat × Nat) : D := .tup [.int (p.1 : Nat), .int (p.2 : Nat)]
def wyD (w : List (Nat × Nat)) : D := .tup (w.map plD)
def spD (s : Spt) : D := .tup [wyD s.way, .int (s.part : Nat), .int (s.k : Nat), .bl s.hd]
abbrev Ent := Spt × List Str
def enD (e : Ent) : D := .tup [spD e.1, .tup (e.2.map .str)]
theorem nks_map {α : Type} {f : α → D} (inj : ∀ a b, (f a).nk = (f b).nk → a = b) : ∀ xs ys : List α, D.nks (xs.map f) = D.nks (ys.map f) → xs = ys
  | [], [], _ => rfl
  | [], _ :: _, h => by cases h
  | _ :: _, [], h => by cases h
  | x :: xs, y :: ys, h => by
    have h' : (f x).nk :: D.nks (xs.map f) = (f y).nk :: D.nks (ys.map f) := h
    rw [inj x y (List.cons.inj h').1, nks_map inj xs ys (List.cons.inj h').2]
theorem inj_pl : Inj plD := ⟨fun a b h => by
  obtain ⟨a1, a2⟩ := a
  obtain ⟨b1, b2⟩ := b
  simp [plD, D.nk, D.nks] at h
  simp only [Prod.mk.injEq]
  omega⟩
theorem inj_wy : Inj wyD := ⟨fun a b h => by
  simp only [wyD, D.nk, NestedKey.tup.injEq] at h
  exact nks_map inj_pl.inj a b h⟩
theorem inj_sp : Inj spD := ⟨fun a b h => by
  obtain ⟨a1, a2, a3, a4⟩ := a
  obtain ⟨b1, b2, b3, b4⟩ := b
  simp only [spD, D.nk, D.nks, NestedKey.tup.injEq, List.cons.injEq, NestedKey.num.injEq, and_true] at h
  obtain ⟨h1, h2, h3, h4⟩ := h
  have e1 := inj_wy.inj a1 b1 h1
  have e4 : a4 = b4 := by cases a4 <;> cases b4 <;> simp_all
  subst e1 e4
  simp only [Spt.mk.injEq, true_and, and_true]
  omega⟩
theorem inj_str : Inj D.str := ⟨fun a b h => by simpa [D.nk] using h⟩
theorem inj_en : Inj enD := ⟨fun a b h => by
  obtain ⟨a1, a2⟩ := a
  obtain ⟨b1, b2⟩ := b
  simp only [enD, D.nk, D.nks, NestedKey.tup.injEq, List.cons.injEq, and_true] at h
  rw [inj_sp.inj a1 b1 h.1, nks_map inj_str.inj a2 b2 h.2]⟩
theorem kok_pl (p : Nat × Nat) (n : Nat) : D.kok (n + 1) (plD p) = true := rfl
theorem koks_map {α : Type} {f : α → D} {n : Nat} (h : ∀ a, D.kok n (f a) = true) : ∀ xs : List α, D.koks n (xs.map f) = true
  | [] => rfl
  | x :: xs => by
    show (D.kok n (f x) && D.koks n (xs.map f)) = true
    rw [h x, koks_map h xs]; rfl
theorem oks_map {α : Type} {f : α → D} {n : Nat} : ∀ xs : List α, (∀ a ∈ xs, D.ok n (f a) = true) → D.oks n (xs.map f) = true
  | [], _ => rfl
  | x :: xs, h => by
    show (D.ok n (f x) && D.oks n (xs.map f)) = true
    rw [h x List.mem_cons_self, oks_map xs fun a ha => h a (List.mem_cons_of_mem _ ha)]; rfl
theorem kok_wy (w : List (Nat × Nat)) (n : Nat) : D.kok (n + 2) (wyD w) = true := by
  show D.koks (n + 1) (w.map plD) = true
  exact koks_map (fun p => rfl) w
theorem kok_sp (s : Spt) (n : Nat) : D.kok (n + 3) (spD s) = true := by
  show (D.kok (n + 2) (wyD s.way) && (true && (true && (true && true)))) = true
  rw [kok_wy]; rfl
theorem kok_en (e : Ent) (n : Nat) : D.kok (n + 4) (enD e) = true := by
  show (D.kok (n + 3) (spD e.1) && (D.koks (n + 2) (e.2.map .str) && true)) = true
  rw [kok_sp, koks_map (fun x => rfl)]; rfl
theorem ok_pl (p : Nat × Nat) (n : Nat) : D.ok (n + 1) (plD p) = true := rfl
theorem ok_wy (w : List (Nat × Nat)) (n : Nat) : D.ok (n + 2) (wyD w) = true := by
  show D.oks (n + 1) (w.map plD) = true
  exact oks_map w fun p _ => rfl
theorem ok_sp (s : Spt) (n : Nat) : D.ok (n + 3) (spD s) = true := by
  show (D.ok (n + 2) (wyD s.way) && (true && (true && (true && true)))) = true
  rw [ok_wy]; rfl
theorem ok_sp60 (s : Spt) : D.ok 60 (spD s) = true := ok_sp s 57
theorem ok_en (e : Ent) (n : Nat) (h : ∀ x ∈ e.2, PyData.strOk x = true) : D.ok (n + 4) (enD e) = true := by
  show (D.ok (n + 3) (spD e.1) && (D.oks (n + 2) (e.2.map .str) && true)) = true
  rw [ok_sp, oks_map e.2 fun x hx => by show PyData.strOk x = true; exact h x hx]; rfl
theorem all_map {α : Type} {f : α → D} {p : D → Bool} {xs : List α} (h : ∀ a ∈ xs, p (f a) = true) : (xs.map f).all p = true := by
  rw [List.all_eq_true]
  intro d hd
  obtain ⟨a, ha, rfl⟩ := List.mem_map.mp hd
  exact h a ha

/-! ### programs -/
abbrev Pg := List (Str × List Ln)
def ptD (p : Str × List Ln) : D := .tup [.str p.1, lsD p.2]
def pgD (P : Pg) : D := .tup (P.map ptD)
def lines (P : Pg) (i : Nat) : List Ln := ((P[i]?).map (·.2)).getD []

/-! ### places in lists -/
theorem atI_map {α : Type} {f : α → D} {xs : List α} {i : Nat} {x : α} (h : xs[i]? = some x) : L2.atI (xs.map f) (i : Int) = some (f x) := by
  have hi : i < xs.length := (List.getElem?_eq_some_iff.mp h).1
  unfold L2.atI L2.ixN
  rw [if_pos (by omega), if_pos (by rw [List.length_map]; omega)]
  show (xs.map f)[((i : Int)).toNat]? = some (f x)
  rw [Int.toNat_natCast, List.getElem?_map, h]
  rfl
theorem atI_nat {α : Type} {xs : List α} {i : Nat} {x : α} (h : xs[i]? = some x) : L2.atI xs (i : Int) = some x := by
  have hi : i < xs.length := (List.getElem?_eq_some_iff.mp h).1
  unfold L2.atI L2.ixN
  (rw [if_pos (by omega), if_pos (by omega)]); show xs[((i : Int)).toNat]? = some x
  rw [Int.toNat_natCast, h]
theorem atI_last {α : Type} {xs : List α} {x : α} : L2.atI (xs ++ [x]) (-1) = some x := by
  unfold L2.atI L2.ixN
  rw [if_neg (by omega), if_pos (by rw [List.length_append, List.length_singleton]; omega)]
  show (xs ++ [x])[(-1 + ((xs ++ [x]).length : Int)).toNat]? = some x
  have e : (-1 + ((xs ++ [x]).length : Int)).toNat = xs.length := by rw [List.length_append, List.length_singleton]; omega
  rw [e, List.getElem?_append_right (Nat.le_refl _), Nat.sub_self]
  rfl
end L3
end
section
set_option maxRecDepth 10000
/-! L4Blk: the ends of blocks. -/
namespace L3
open PySem
def goEnd (tg : Kd) (K : List Kd) : Nat → Nat → Nat → Option Nat
  | 0, _, _ => none
  | f + 1, d, a => match K[a]? with
    | none => none
    | some c => if d = 0 ∧ c = tg then some a else if c = .eit ∨ c = .agn then goEnd tg K f (d + 1) (a + 1)
      else if c = .fin then (if d = 0 then none else goEnd tg K f (d - 1) (a + 1)) else goEnd tg K f d (a + 1)
/-- a: one past the place -/
def goHead (K : List Kd) : Nat → Nat → Nat → Option Nat
  | 0, _, _ => none
  | _ + 1, _, 0 => none
  | f + 1, d, a + 1 => match K[a]? with
    | none => none
    | some c => if d = 0 ∧ (c = .eit ∨ c = .agn) then some a else if c = .fin then goHead K f (d + 1) a
      else if c = .eit ∨ c = .agn then goHead K f (d - 1) a else goHead K f d a
def p_end_of : F3 := fun ds S Q => ∃ (L : List Ln) (k f e : Nat), ds = [lsD L, .int (k : Nat)] ∧ goEnd .fin (L.map Ln.kd) f 0 (k + 1) = some e ∧ Q (.int (e : Nat)) S
def p_or_of : F3 := fun ds S Q => ∃ (L : List Ln) (k f e : Nat), ds = [lsD L, .int (k : Nat)] ∧ goEnd .orr (L.map Ln.kd) f 0 (k + 1) = some e ∧ Q (.int (e : Nat)) S
def p_head_of : F3 := fun ds S Q => ∃ (L : List Ln) (k f e : Nat), ds = [lsD L, .int (k : Nat)] ∧ goHead (L.map Ln.kd) f 0 k = some e ∧ Q (.int (e : Nat)) S
theorem kd_at {L : List Ln} {a : Nat} {c : Kd} (h : (L.map Ln.kd)[a]? = some c) : ∃ l, L[a]? = some l ∧ l.kd = c := by
  rw [List.getElem?_map] at h
  cases e : L[a]? with
  | none => (rw [e] at h; cases h)
  | some l => rw [e] at h; exact ⟨l, rfl, Option.some.inj h⟩
theorem ln_at {L : List Ln} {a : Nat} {l : Ln} (h : L[a]? = some l) : L2.atI (L.map lnD) (a : Int) = some (.tup (.str l.hd :: l.tl)) := atI_map h
theorem or_step {a b : B3} {δ : E3} {S : Sto} {Q : Bool → Sto → Prop} (va vb : Bool) (ha : ∀ R : Bool → Sto → Prop, R va S → a δ S R) (hb : va = false → ∀ R : Bool → Sto → Prop, R vb S → b δ S R) (h : Q (va || vb) S) : bOr a b δ S Q := by
  refine ha _ ?_
  cases va with
  | true => exact h
  | false => exact hb rfl _ h
theorem and_step {a b : B3} {δ : E3} {S : Sto} {Q : Bool → Sto → Prop} (va vb : Bool) (ha : ∀ R : Bool → Sto → Prop, R va S → a δ S R) (hb : va = true → ∀ R : Bool → Sto → Prop, R vb S → b δ S R) (h : Q (va && vb) S) : bAnd a b δ S Q := by
  refine ha _ ?_
  cases va with
  | true => exact hb rfl _ h
  | false => exact h
theorem bne_f {b c : Bool} (h : b = c) : (false != b) = c := by subst h; cases b <;> rfl
theorem bne_t {b c : Bool} (h : b = c) : (true != b) = !c := by subst h; cases b <;> rfl
theorem trB {b c : Bool} {S : Sto} {R : Bool → Sto → Prop} (e : b = c) (h : R c S) : R b S := e ▸ h
theorem at0 {α : Type} {x : α} {xs : List α} : L2.atI (x :: xs) 0 = some x := atI_nat (i := 0) rfl
theorem k_end_of : Keeps 4 2 b_end_of p_end_of := by
  refine ⟨fun ds S Q ⟨L, k, f, e, h, _⟩ => by rw [h]; rfl, fun ds S Q ⟨L, k, f, e, h, hg, hQ⟩ => ?_⟩
  subst h
  refine ⟨fun m δ S' => ∃ (d a : Nat), δ = [some (lsD L), some (.int (k : Nat)), some (.int (d : Nat)), some (.int (a : Nat))] ∧ S' = S ∧ goEnd .fin (L.map Ln.kd) m d a = some e, ⟨f, 0, k + 1, rfl, rfl, hg⟩, ?_⟩
  rintro m δ S' ⟨d, a, rfl, rfl, hm⟩
  cases m with
  | zero => cases hm
  | succ m =>
    unfold goEnd at hm
    cases hc : (L.map Ln.kd)[a]? with
    | none => rw [hc] at hm; cases hm
    | some c =>
      rw [hc] at hm
      obtain ⟨l, hl, rfl⟩ := kd_at hc
      dsimp only at hm
      refine or_step (decide (0 < (d : Int))) (!decide (l.kd = .fin)) (fun R h => h) (fun _ R h => ⟨_, ln_at hl, _, at0, .inl ⟨rfl, trB (bne_t (eqb_fin l)) h⟩⟩) (itB (fun h1 => ?_) (fun h1 => ?_))
      · have h1' : ¬ (d = 0 ∧ l.kd = .fin) := by
          rintro ⟨rfl, q⟩
          simp [q] at h1
        rw [if_neg h1'] at hm
        refine ⟨_, ln_at hl, _, at0, rfl, rfl, itB (fun h2 => ?_) (fun h2 => ?_)⟩
        · rw [bne_f (eqb_open l), decide_eq_true_eq] at h2
          rw [if_pos h2] at hm
          exact ⟨m, Nat.lt_succ_self m, d + 1, a + 1, rfl, rfl, hm⟩
        · rw [bne_f (eqb_open l), decide_eq_false_iff_not] at h2
          rw [if_neg h2] at hm
          refine ⟨_, ln_at hl, _, at0, .inl ⟨rfl, itB (fun h3 => ?_) (fun h3 => ?_)⟩⟩
          · rw [bne_f (eqb_fin l), decide_eq_true_eq] at h3
            rw [if_pos h3] at hm
            cases d with
            | zero => cases hm
            | succ d => exact ⟨m, Nat.lt_succ_self m, d, a + 1, by rw [show ((d : Nat) : Int) = ((d + 1 : Nat) : Int) - 1 by omega]; rfl, rfl, hm⟩
          · rw [bne_f (eqb_fin l), decide_eq_false_iff_not] at h3
            rw [if_neg h3] at hm
            exact ⟨m, Nat.lt_succ_self m, d, a + 1, rfl, rfl, hm⟩
      · have h1' : d = 0 ∧ l.kd = .fin := by
          simp only [Bool.or_eq_false_iff, decide_eq_false_iff_not, Bool.not_eq_false', decide_eq_true_eq] at h1
          exact ⟨by omega, h1.2⟩
        rw [if_pos h1'] at hm
        cases hm
        exact ⟨S', Sub.refl _, hQ⟩
theorem k_or_of : Keeps 4 2 b_or_of p_or_of := by
  refine ⟨fun ds S Q ⟨L, k, f, e, h, _⟩ => by rw [h]; rfl, fun ds S Q ⟨L, k, f, e, h, hg, hQ⟩ => ?_⟩
  subst h
  refine ⟨fun m δ S' => ∃ (d a : Nat), δ = [some (lsD L), some (.int (k : Nat)), some (.int (d : Nat)), some (.int (a : Nat))] ∧ S' = S ∧ goEnd .orr (L.map Ln.kd) m d a = some e, ⟨f, 0, k + 1, rfl, rfl, hg⟩, ?_⟩
  rintro m δ S' ⟨d, a, rfl, rfl, hm⟩
  cases m with
  | zero => cases hm
  | succ m =>
    unfold goEnd at hm
    cases hc : (L.map Ln.kd)[a]? with
    | none => rw [hc] at hm; cases hm
    | some c =>
      rw [hc] at hm
      obtain ⟨l, hl, rfl⟩ := kd_at hc
      dsimp only at hm
      refine or_step (decide (0 < (d : Int))) (!decide (l.kd = .orr)) (fun R h => h) (fun _ R h => ⟨_, ln_at hl, _, at0, .inl ⟨rfl, trB (bne_t (eqb_orr l)) h⟩⟩) (itB (fun h1 => ?_) (fun h1 => ?_))
      · have h1' : ¬ (d = 0 ∧ l.kd = .orr) := by
          rintro ⟨rfl, q⟩
          simp [q] at h1
        rw [if_neg h1'] at hm
        refine ⟨_, ln_at hl, _, at0, rfl, rfl, itB (fun h2 => ?_) (fun h2 => ?_)⟩
        · rw [bne_f (eqb_open l), decide_eq_true_eq] at h2
          rw [if_pos h2] at hm
          exact ⟨m, Nat.lt_succ_self m, d + 1, a + 1, rfl, rfl, hm⟩
        · rw [bne_f (eqb_open l), decide_eq_false_iff_not] at h2
          rw [if_neg h2] at hm
          refine ⟨_, ln_at hl, _, at0, .inl ⟨rfl, itB (fun h3 => ?_) (fun h3 => ?_)⟩⟩
          · rw [bne_f (eqb_fin l), decide_eq_true_eq] at h3
            rw [if_pos h3] at hm
            cases d with
            | zero => cases hm
            | succ d => exact ⟨m, Nat.lt_succ_self m, d, a + 1, by rw [show ((d : Nat) : Int) = ((d + 1 : Nat) : Int) - 1 by omega]; rfl, rfl, hm⟩
          · rw [bne_f (eqb_fin l), decide_eq_false_iff_not] at h3
            rw [if_neg h3] at hm
            exact ⟨m, Nat.lt_succ_self m, d, a + 1, rfl, rfl, hm⟩
      · have h1' : d = 0 ∧ l.kd = .orr := by
          simp only [Bool.or_eq_false_iff, decide_eq_false_iff_not, Bool.not_eq_false', decide_eq_true_eq] at h1
          exact ⟨by omega, h1.2⟩
        rw [if_pos h1'] at hm
        cases hm
        exact ⟨S', Sub.refl _, hQ⟩
theorem k_head_of : Keeps 4 2 b_head_of p_head_of := by
  refine ⟨fun ds S Q ⟨L, k, f, e, h, _⟩ => by rw [h]; rfl, fun ds S Q ⟨L, k, f, e, h, hg, hQ⟩ => ?_⟩
  subst h
  refine ⟨fun m δ S' => ∃ (d a : Nat), δ = [some (lsD L), some (.int (k : Nat)), some (.int (d : Nat)), some (.int ((a : Nat) - 1))] ∧ S' = S ∧ goHead (L.map Ln.kd) m d a = some e, ⟨f, 0, k, rfl, rfl, hg⟩, ?_⟩
  rintro m δ S' ⟨d, a, rfl, rfl, hm⟩
  cases m with
  | zero => cases hm
  | succ m =>
    cases a with
    | zero => cases hm
    | succ a =>
    unfold goHead at hm
    cases hc : (L.map Ln.kd)[a]? with
    | none => rw [hc] at hm; cases hm
    | some c =>
      rw [hc] at hm
      obtain ⟨l, hl, rfl⟩ := kd_at hc
      dsimp only at hm
      have ea : ((a + 1 : Nat) : Int) - 1 = (a : Nat) := by omega
      have hl' : L2.atI (L.map lnD) (((a + 1 : Nat) : Int) - 1) = some (.tup (.str l.hd :: l.tl)) := by rw [ea]; exact ln_at hl
      refine or_step (decide (0 < (d : Int))) (!decide (l.kd = .eit ∨ l.kd = .agn)) (fun R h => h) (fun _ R h => ⟨_, hl', _, at0, rfl, rfl, trB (bne_t (eqb_open l)) h⟩) (itB (fun h1 => ?_) (fun h1 => ?_))
      · have h1' : ¬ (d = 0 ∧ (l.kd = .eit ∨ l.kd = .agn)) := by
          rintro ⟨rfl, q⟩
          simp [q] at h1
        rw [if_neg h1'] at hm
        refine ⟨_, hl', _, at0, .inl ⟨rfl, itB (fun h2 => ?_) (fun h2 => ?_)⟩⟩
        · rw [bne_f (eqb_fin l), decide_eq_true_eq] at h2
          rw [if_pos h2] at hm
          exact ⟨m, Nat.lt_succ_self m, d + 1, a, by rw [show ((a : Nat) : Int) = ((a + 1 : Nat) : Int) - 1 by omega]; rfl, rfl, hm⟩
        · rw [bne_f (eqb_fin l), decide_eq_false_iff_not] at h2
          rw [if_neg h2] at hm
          refine ⟨_, hl', _, at0, rfl, rfl, itB (fun h3 => ?_) (fun h3 => ?_)⟩
          · rw [bne_f (eqb_open l), decide_eq_true_eq] at h3
            rw [if_pos h3] at hm
            cases d with
            | zero => exact absurd ⟨rfl, h3⟩ h1'
            | succ d => exact ⟨m, Nat.lt_succ_self m, d, a, by rw [show ((d : Nat) : Int) = ((d + 1 : Nat) : Int) - 1 by omega, show ((a : Nat) : Int) = ((a + 1 : Nat) : Int) - 1 by omega]; rfl, rfl, hm⟩
          · rw [bne_f (eqb_open l), decide_eq_false_iff_not] at h3
            rw [if_neg h3] at hm
            exact ⟨m, Nat.lt_succ_self m, d, a, by rw [show ((a : Nat) : Int) = ((a + 1 : Nat) : Int) - 1 by omega]; rfl, rfl, hm⟩
      · have h1' : d = 0 ∧ (l.kd = .eit ∨ l.kd = .agn) := by
          simp only [Bool.or_eq_false_iff, decide_eq_false_iff_not, Bool.not_eq_false', decide_eq_true_eq] at h1
          exact ⟨by omega, h1.2⟩
        rw [if_pos h1'] at hm
        cases hm
        refine ⟨S', Sub.refl _, ?_⟩
        rw [ea]
        exact hQ
end L3
end
section
set_option maxRecDepth 10000
/-! L4Sem: where a spot leads to. -/
namespace L3
open PySem
/-! ### blocks, as the law lays them -/
structure BS where
  rows : List (Option Nat)
  op : List Nat
  tb : Nat → Nat × Nat
  ok : Bool
def isOp (c : Kd) : Bool := decide (c = .eit ∨ c = .agn)
def bopen (s : BS) (c : Kd) : BS := if isOp c = true then { s with op := s.rows.length :: s.op, tb := upd1 s.tb s.rows.length (s.rows.length, s.rows.length) } else s
def bput (s : BS) : BS := { s with rows := s.rows ++ [s.op.head?] }
def bend (s : BS) (c : Kd) : BS := match c with
  | .orr => (match s.op with
    | o :: _ => { s with tb := upd1 s.tb o (s.rows.length - 1, (s.tb o).2) }
    | [] => { s with ok := false })
  | .fin => (match s.op with
    | o :: r => { s with op := r, tb := upd1 s.tb o ((s.tb o).1, s.rows.length - 1) }
    | [] => { s with ok := false })
  | _ => s
def bstep (s : BS) (c : Kd) : BS := bend (bput (bopen s c)) c
def bs0 : BS := ⟨[], [], fun _ => (0, 0), true⟩
def bscan (K : List Kd) : BS := K.foldl bstep bs0
/-- the line's block: where it opens, its or, its end -/
def row (K : List Kd) (k : Nat) : Nat × Nat × Nat := match (bscan K).rows[k]? with
  | some (some o) => (o, (bscan K).tb o)
  | _ => (0, 0, 0)
def wfAt (K : List Kd) (k : Nat) : Bool := match K[k]? with
  | some .eit => decide ((bscan K).rows[k]? = some (some (row K k).1)) && decide (goEnd .orr K 40 0 (k + 1) = some (row K k).2.1) && decide ((row K k).2.1 < K.length)
  | some .agn => decide ((bscan K).rows[k]? = some (some (row K k).1)) && decide (goEnd .fin K 40 0 (k + 1) = some (row K k).2.2) && decide ((row K k).2.2 < K.length)
  | some .orr => decide ((bscan K).rows[k]? = some (some (row K k).1)) && decide (goEnd .fin K 40 0 (k + 1) = some (row K k).2.2) && decide (k < (row K k).2.2) && decide ((row K k).2.2 < K.length)
  | some .fin => decide ((bscan K).rows[k]? = some (some (row K k).1)) && decide (goHead K 40 0 k = some (row K k).1) && decide ((row K k).1 < k) && decide (K[(row K k).1]? = some .eit ∨ K[(row K k).1]? = some .agn)
  | _ => true
def wfK (K : List Kd) : Bool := (bscan K).ok && (List.range K.length).all (wfAt K)
theorem wf_at {K : List Kd} (h : wfK K = true) {k : Nat} {c : Kd} (hk : K[k]? = some c) : wfAt K k = true := by
  have h2 := (Bool.and_eq_true_iff.mp h).2
  exact List.all_eq_true.mp h2 k (List.mem_range.mpr (List.getElem?_eq_some_iff.mp hk).1)
structure WfO (K : List Kd) (k : Nat) : Prop where
  rw_ : (bscan K).rows[k]? = some (some (row K k).1)
theorem wf_eit {K : List Kd} (h : wfK K = true) {k : Nat} (hk : K[k]? = some .eit) : (bscan K).rows[k]? = some (some (row K k).1) ∧ goEnd .orr K 40 0 (k + 1) = some (row K k).2.1 ∧ (row K k).2.1 < K.length := by
  have := wf_at h hk
  unfold wfAt at this
  rw [hk] at this
  simpa [and_assoc] using this
theorem wf_agn {K : List Kd} (h : wfK K = true) {k : Nat} (hk : K[k]? = some .agn) : (bscan K).rows[k]? = some (some (row K k).1) ∧ goEnd .fin K 40 0 (k + 1) = some (row K k).2.2 ∧ (row K k).2.2 < K.length := by
  have := wf_at h hk
  unfold wfAt at this
  rw [hk] at this
  simpa [and_assoc] using this
theorem wf_orr {K : List Kd} (h : wfK K = true) {k : Nat} (hk : K[k]? = some .orr) : (bscan K).rows[k]? = some (some (row K k).1) ∧ goEnd .fin K 40 0 (k + 1) = some (row K k).2.2 ∧ k < (row K k).2.2 ∧ (row K k).2.2 < K.length := by
  have := wf_at h hk
  unfold wfAt at this
  rw [hk] at this
  simpa [and_assoc] using this
theorem wf_fin {K : List Kd} (h : wfK K = true) {k : Nat} (hk : K[k]? = some .fin) : (bscan K).rows[k]? = some (some (row K k).1) ∧ goHead K 40 0 k = some (row K k).1 ∧ (row K k).1 < k ∧ (K[(row K k).1]? = some .eit ∨ K[(row K k).1]? = some .agn) := by
  have := wf_at h hk
  unfold wfAt at this
  rw [hk] at this
  simpa [and_assoc] using this

/-! ### all parts that may be drawn -/
def closeK : List Kd → List Kd → List Kd
  | acc, [] => acc
  | acc, .eit :: r => closeK (acc ++ [.orr, .fin]) r
  | acc, _ :: r => closeK (acc ++ [.fin]) r
/-- op: what is open, innermost first: eit, agn or orr -/
def genK : Nat → Nat → List Kd → List Kd → List (List Kd)
  | 0, _, op, acc => [closeK acc op]
  | n + 1, opens, op, acc =>
    (if opens = 0 then [] else genK n (opens - 1) (.eit :: op) (acc ++ [.eit]) ++ genK n (opens - 1) (.agn :: op) (acc ++ [.agn])) ++
    (match op with
      | .eit :: r => genK n opens (.orr :: r) (acc ++ [.orr])
      | _ :: r => genK n opens r (acc ++ [.fin])
      | [] => []) ++
    genK n opens op (acc ++ [.doo]) ++ genK n opens op (acc ++ [.oth])
theorem gen_wf : ([0, 1, 2, 3, 4].all fun n => [0, 1, 2].all fun o => (genK n o [] []).all fun K => wfK K && decide (K.length ≤ 8)) = true := by decide +kernel

/-! ### next -/
def ix (P : Pg) (nm : Str) : Nat := (P.map (·.1)).idxOf nm
def goTo (s : Spt) (k : Nat) : Spt := ⟨s.way, s.part, k, false⟩
def rowOf (P : Pg) (s : Spt) : Nat × Nat × Nat := row ((lines P s.part).map Ln.kd) s.k
def nx (P : Pg) (s : Spt) : List Spt :=
  if s.hd = true then [goTo s ((rowOf P s).2.2 + 1), goTo s (s.k + 1)]
  else match (lines P s.part)[s.k]? with
    | none => (match s.way.getLast? with
      | none => []
      | some p => [⟨s.way.dropLast, p.1, p.2 + 1, false⟩])
    | some .eit => [goTo s (s.k + 1), goTo s ((rowOf P s).2.1 + 1)]
    | some .orr => [goTo s ((rowOf P s).2.2 + 1)]
    | some .agn => [⟨s.way, s.part, s.k, true⟩]
    | some .fin => if ((lines P s.part).map Ln.kd)[(rowOf P s).1]? = some .agn then [⟨s.way, s.part, (rowOf P s).1, true⟩] else [goTo s (s.k + 1)]
    | some (.doo nm) => [⟨s.way ++ [(s.part, s.k)], ix P nm, 0, false⟩]
    | some _ => [goTo s (s.k + 1)]
def fst_ : Spt := ⟨[], 0, 0, false⟩
structure Good (P : Pg) : Prop where
  len : P.length = 1 ∨ P.length = 2
  nd : (P.map (·.1)).Nodup
  wf : ∀ i, wfK ((lines P i).map Ln.kd) = true
  bd : ∀ i, (lines P i).length ≤ 8
  dos : ∀ (i j : Nat) (nm : Str), (lines P i)[j]? = some (Ln.doo nm) → i = 0 ∧ ∃ q, P[1]? = some (nm, q)
  tx : ∃ ws : List Str, ws.length ≤ 3 ∧ ∀ (i j : Nat) (l : Ln) (w : Str), (lines P i)[j]? = some l → l.word = some w → w ∈ ws ∧ PyData.strOk w = true
structure Vld (P : Pg) (s : Spt) : Prop where
  k : s.k ≤ (lines P s.part).length
  hd : s.hd = true → (lines P s.part)[s.k]? = some .agn
  at_ : (s.way = [] ∧ s.part = 0) ∨ (∃ (j : Nat) (nm : Str), s.way = [(0, j)] ∧ s.part = 1 ∧ (lines P 0)[j]? = some (.doo nm) ∧ ∃ q, P[1]? = some (nm, q))
theorem kd_of {L : List Ln} {k : Nat} {l : Ln} (h : L[k]? = some l) : (L.map Ln.kd)[k]? = some l.kd := by rw [List.getElem?_map, h]; rfl
theorem agn_of {L : List Ln} {k : Nat} (h : (L.map Ln.kd)[k]? = some .agn) : L[k]? = some .agn := by
  obtain ⟨l, hl, e⟩ := kd_at h
  cases l <;> first | exact hl | cases e
theorem part_lt {P : Pg} {s : Spt} (G : Good P) (v : Vld P s) : ∃ p, P[s.part]? = some p ∧ lines P s.part = p.2 := by
  rcases v.at_ with ⟨_, e⟩ | ⟨j, nm, _, e, _, q, hq⟩
  · have : 0 < P.length := by rcases G.len with h | h <;> omega
    exact ⟨P[0], by rw [e]; exact List.getElem?_eq_getElem this, by unfold lines; rw [e, List.getElem?_eq_getElem this]; rfl⟩
  · exact ⟨_, by rw [e]; exact hq, by unfold lines; rw [e, hq]; rfl⟩
theorem idx_nd : ∀ {l : List Str} {i : Nat} {x : Str}, l.Nodup → l[i]? = some x → l.idxOf x = i
  | [], _, _, _, h => by (simp at h)
  | y :: l, 0, x, _, h => by
    have e : y = x := Option.some.inj h
    rw [e, List.idxOf_cons]
    simp
  | y :: l, i + 1, x, nd, h => by
    obtain ⟨n1, n2⟩ := List.nodup_cons.1 nd
    simp only [List.getElem?_cons_succ] at h; have hm : x ∈ l := List.mem_of_getElem? h
    have ne : y ≠ x := fun e => n1 (e ▸ hm)
    have hb : (y == x) = false := beq_eq_false_iff_ne.mpr ne
    rw [List.idxOf_cons, idx_nd n2 h, hb]
    rfl
theorem ix_one {P : Pg} (G : Good P) {nm : Str} {q : List Ln} (h : P[1]? = some (nm, q)) : ix P nm = 1 := idx_nd G.nd (by rw [List.getElem?_map, h]; rfl)
theorem nx_vld {P : Pg} {s t : Spt} (G : Good P) (v : Vld P s) (h : t ∈ nx P s) : Vld P t := by
  have hw := G.wf s.part
  have go : ∀ k, k ≤ (lines P s.part).length → Vld P (goTo s k) := fun k hk => ⟨hk, fun z => (nomatch z), v.at_⟩
  have ll : ((lines P s.part).map Ln.kd).length = (lines P s.part).length := List.length_map ..
  unfold nx at h
  split at h
  · rename_i hh
    have ha := v.hd hh
    obtain ⟨_, _, h3⟩ := wf_agn hw (kd_of ha)
    have hk := (List.getElem?_eq_some_iff.mp ha).1
    rcases List.mem_cons.1 h with e | h
    · rw [e]
      exact go _ (by rw [ll] at h3; unfold rowOf; omega)
    · rw [List.mem_singleton.mp h]
      exact go _ (by omega)
  · split at h
    · rename_i hn
      rcases v.at_ with ⟨e, _⟩ | ⟨j, nm, e, e2, hj, _⟩
      · rw [e] at h
        cases h
      · rw [e] at h
        rw [List.mem_singleton.mp h]
        have hk := (List.getElem?_eq_some_iff.mp hj).1
        exact ⟨by show j + 1 ≤ (lines P 0).length; omega, fun z => (nomatch z), .inl ⟨rfl, rfl⟩⟩
    · rename_i he
      obtain ⟨_, _, h3⟩ := wf_eit hw (kd_of he)
      have hk := (List.getElem?_eq_some_iff.mp he).1
      rcases List.mem_cons.1 h with e | h
      · rw [e]
        exact go _ (by omega)
      · rw [List.mem_singleton.mp h]
        exact go _ (by rw [ll] at h3; unfold rowOf; omega)
    · rename_i he
      obtain ⟨_, _, _, h3⟩ := wf_orr hw (kd_of he)
      rw [List.mem_singleton.mp h]
      exact go _ (by rw [ll] at h3; unfold rowOf; omega)
    · rename_i he
      rw [List.mem_singleton.mp h]
      exact ⟨v.k, fun _ => he, v.at_⟩
    · rename_i he
      obtain ⟨_, _, h3, _⟩ := wf_fin hw (kd_of he)
      have hk := (List.getElem?_eq_some_iff.mp he).1
      split at h
      · rename_i ha
        rw [List.mem_singleton.mp h]
        exact ⟨by show (rowOf P s).1 ≤ (lines P s.part).length; unfold rowOf; omega, fun _ => agn_of ha, v.at_⟩
      · rw [List.mem_singleton.mp h]
        exact go _ (by omega)
    · rename_i nm he
      obtain ⟨e0, q, hq⟩ := G.dos _ _ _ he
      rw [List.mem_singleton.mp h]
      have e1 := ix_one G hq
      rcases v.at_ with ⟨ew, _⟩ | ⟨j, nm', _, e2, _⟩
      · refine ⟨Nat.zero_le _, fun z => (nomatch z), .inr ⟨s.k, nm, ?_, e1, ?_, q, hq⟩⟩
        · show s.way ++ [(s.part, s.k)] = _
          rw [ew, e0]; rfl
        · rw [← e0]; exact he
      · rw [e0] at e2
        cases e2
    · rename_i l _ _ _ _ _ he
      have hk := (List.getElem?_eq_some_iff.mp he).1
      rw [List.mem_singleton.mp h]
      exact go _ (by omega)
theorem vld_fst {P : Pg} : Vld P fst_ := ⟨Nat.zero_le _, fun z => (nomatch z), .inl ⟨rfl, rfl⟩⟩
theorem nx_len (P : Pg) (s : Spt) : (nx P s).length ≤ 2 := by
  unfold nx
  repeat' split
  all_goals simp
end L3
end
section
set_option maxRecDepth 10000
set_option maxHeartbeats 4200000
/-! L4Next: the next spots. -/
namespace L3
open PySem
def optD : Option Str → D
  | none => .non
  | some x => .str x
def placeD (s : Spt) : D := if s.hd = true then .non else plD (s.part, s.k)
def lineAt (P : Pg) (s : Spt) : Option Ln := if s.hd = true then none else (lines P s.part)[s.k]?
def lineD (P : Pg) (s : Spt) : D := match lineAt P s with
  | none => .non
  | some l => lnD l
def mk (P : Pg) (s : Spt) : Option Str := (lineAt P s).bind Ln.word
def backOf (w : List (Nat × Nat)) : List Spt := match w.getLast? with
  | none => []
  | some p => [⟨w.dropLast, p.1, p.2 + 1, false⟩]
def p_number_of : F3 := fun ds S Q => ∃ (P : Pg) (nm : Str), ds = [pgD P, .str nm] ∧ nm ∈ P.map (·.1) ∧ Q (.int (ix P nm : Nat)) S
def p_first_spot : F3 := fun ds S Q => ds = [] ∧ Q (spD fst_) S
def p_place_of : F3 := fun ds S Q => ∃ s : Spt, ds = [spD s] ∧ Q (placeD s) S
def p_line_of : F3 := fun ds S Q => ∃ (P : Pg) (s : Spt), ds = [pgD P, spD s] ∧ Good P ∧ Vld P s ∧ Q (lineD P s) S
def p_made_at : F3 := fun ds S Q => ∃ (P : Pg) (s : Spt), ds = [pgD P, spD s] ∧ Good P ∧ Vld P s ∧ Q (optD (mk P s)) S
def p_behind_part : F3 := fun ds S Q => ∃ w : List (Nat × Nat), ds = [wyD w] ∧ ∀ p, S p = none → Q (.ref p) (S.put p (.lst ((backOf w).map spD)))
def p_behind_end : F3 := fun ds S Q => ∃ (w : List (Nat × Nat)) (part k f o : Nat) (L : List Ln) (l : Ln), ds = [wyD w, .int (part : Nat), lsD L, .int (k : Nat)] ∧ goHead (L.map Ln.kd) f 0 k = some o ∧ L[o]? = some l ∧
  ∀ p, S p = none → Q (.ref p) (S.put p (.lst [if l.kd = .agn then spD ⟨w, part, o, true⟩ else spD ⟨w, part, k + 1, false⟩]))
def p_next_spots : F3 := fun ds S Q => ∃ (P : Pg) (s : Spt), ds = [pgD P, spD s] ∧ Good P ∧ Vld P s ∧ ∀ p, S p = none → Q (.ref p) (S.put p (.lst ((nx P s).map spD)))

theorem idx_app {x : Str} : ∀ {l r : List Str}, x ∉ l → (l ++ x :: r).idxOf x = l.length
  | [], r, _ => by rw [List.nil_append, List.idxOf_cons]; simp
  | y :: l, r, h => by
    have hb : (y == x) = false := beq_eq_false_iff_ne.mpr fun e => h (e ▸ List.mem_cons_self)
    rw [List.cons_append, List.idxOf_cons, hb, idx_app fun q => h (List.mem_cons_of_mem _ q)]
    rfl
theorem ix_at {P : Pg} {l r : Pg} {p : Str × List Ln} {nm : Str} (e : P = l ++ p :: r) (hn : nm ∉ l.map (·.1)) (hp : p.1 = nm) : ix P nm = l.length := by
  unfold ix
  rw [e, List.map_append, List.map_cons, hp, idx_app hn, List.length_map]
theorem k_number_of : Keeps 4 2 b_number_of p_number_of := by
  refine ⟨fun ds S Q ⟨P, nm, h, _⟩ => by rw [h]; rfl, fun ds S Q ⟨P, nm, h, hm, hQ⟩ => ?_⟩
  subst h
  refine for_num (f := ptD) (fun l δ S' => (∃ v2 v3, δ = [some (pgD P), some (.str nm), v2, v3]) ∧ S' = S ∧ nm ∉ l.map (·.1)) P ⟨⟨_, _, rfl⟩, rfl, by simp⟩ (fun _ _ _ _ => trivial) ?_ ?_
  · rintro l x r δ S' e ⟨⟨v2, v3, rfl⟩, rfl, hn⟩ k hk
    refine ⟨rfl, rfl, _, at0, .inl ⟨rfl, itB (fun h => ?_) (fun h => ?_)⟩⟩
    · rw [bne_f (str_eqb _ _), decide_eq_true_eq] at h
      rw [ix_at e hn h] at hQ
      exact ⟨S', Sub.refl _, hQ⟩
    · rw [bne_f (str_eqb _ _), decide_eq_false_iff_not] at h
      refine hk _ _ ⟨⟨_, _, rfl⟩, rfl, ?_⟩
      rw [List.map_append, List.mem_append]
      rintro (q | q)
      · exact hn q
      · exact h (List.mem_singleton.mp q).symm
  · rintro δ S' ⟨_, _, hn⟩
    exact absurd hm hn
theorem k_first_spot : Keeps 0 0 b_first_spot p_first_spot := by
  refine ⟨fun ds S Q ⟨h, _⟩ => by rw [h]; rfl, fun ds S Q ⟨h, hQ⟩ => ?_⟩
  subst h
  exact ⟨by decide, by decide, S, Sub.refl _, hQ⟩
theorem k_place_of : Keeps 1 1 b_place_of p_place_of := by
  refine ⟨fun ds S Q ⟨s, h, _⟩ => by rw [h]; rfl, fun ds S Q ⟨s, h, hQ⟩ => ?_⟩
  subst h
  refine ⟨_, rfl, itB (fun h => ?_) (fun h => ?_)⟩
  · unfold placeD at hQ
    rw [if_pos h] at hQ
    exact ⟨S, Sub.refl _, hQ⟩
  · unfold placeD at hQ
    rw [if_neg (by rw [h]; simp)] at hQ
    exact ⟨_, rfl, _, rfl, by show 2 ≤ 1000; decide, S, Sub.refl _, hQ⟩
theorem pg_at {P : Pg} {s : Spt} (G : Good P) (v : Vld P s) : ∃ p, L2.atI (P.map ptD) ((s.part : Nat) : Int) = some (ptD p) ∧ lines P s.part = p.2 := by
  obtain ⟨p, h1, h2⟩ := part_lt G v
  exact ⟨p, atI_map h1, h2⟩
theorem k_line_of : Keeps 3 2 b_line_of p_line_of := by
  refine ⟨fun ds S Q ⟨P, s, h, _⟩ => by rw [h]; rfl, fun ds S Q ⟨P, s, h, G, v, hQ⟩ => ?_⟩
  subst h
  obtain ⟨p, h1, h2⟩ := pg_at G v
  have hk := v.k
  rw [h2] at hk
  unfold lineD lineAt at hQ
  rw [h2] at hQ
  refine ⟨_, rfl, _, h1, _, rfl, ?_⟩
  have back : (s.hd = true ∨ s.k = p.2.length) → ∃ S'', Sub S'' S ∧ Q .non S'' := fun h => by
    have hq : (if s.hd = true then (none : Option Ln) else p.2[s.k]?) = none := by
      rcases h with q | q
      · rw [if_pos q]
      · rw [List.getElem?_eq_none (by omega)]
        simp
    rw [hq] at hQ
    exact ⟨S, Sub.refl _, hQ⟩
  refine ⟨_, rfl, itB (fun h => back (.inl h)) (fun hf => ⟨_, rfl, .inl ⟨rfl, itB (fun h => ?_) (fun h => ?_)⟩⟩)⟩
  · rw [bne_f (int_eqb _ _), decide_eq_true_eq, List.length_map] at h
    exact back (.inr (by omega))
  · rw [bne_f (int_eqb _ _), decide_eq_false_iff_not, List.length_map] at h
    have hlt : s.k < p.2.length := by omega
    rw [if_neg (by rw [hf]; simp), List.getElem?_eq_getElem hlt] at hQ
    exact ⟨_, rfl, _, atI_map (List.getElem?_eq_getElem hlt), S, Sub.refl _, hQ⟩
theorem k_made_at : Keeps 3 2 (b_made_at p_line_of) p_made_at := by
  refine ⟨fun ds S Q ⟨P, s, h, _⟩ => by rw [h]; rfl, fun ds S Q ⟨P, s, h, G, v, hQ⟩ => ?_⟩
  subst h
  refine ⟨P, s, rfl, G, v, ?_⟩
  unfold mk at hQ
  unfold lineD
  cases e : lineAt P s with
  | none =>
    rw [e] at hQ
    exact ⟨S, Sub.refl _, hQ⟩
  | some l =>
    rw [e] at hQ
    refine ⟨_, at0, .inl ⟨rfl, itB (fun h => ?_) (fun h => ?_)⟩⟩
    · rw [bne_t (eqb_pair l)] at h
      have w : l.isPair = false := by simpa using h
      rw [show (some l).bind Ln.word = none from word_none w] at hQ
      exact ⟨S, Sub.refl _, hQ⟩
    · rw [bne_t (eqb_pair l)] at h
      have w : l.isPair = true := by simpa using h
      obtain ⟨x, h1, h2⟩ := word_pair w
      rw [show (some l).bind Ln.word = some x from h1] at hQ
      exact ⟨_, h2, S, Sub.refl _, hQ⟩
theorem cut_last (ds : List D) : cut ds none (some (-1)) = ds.dropLast := by
  show (ds.drop 0).take ((if (-1 : Int) < 0 then ((-1 : Int) + (ds.length : Int)).toNat else min (-1 : Int).toNat ds.length) - 0) = ds.dropLast
  rw [if_pos (by omega), List.drop_zero, List.dropLast_eq_take]
  congr 1
  omega
theorem last_snoc {α : Type} {l : List α} (h : l ≠ []) : ∃ r x, l = r ++ [x] := ⟨l.dropLast, l.getLast h, (List.dropLast_concat_getLast h).symm⟩
theorem k_behind_part : Keeps 3 1 b_behind_part p_behind_part := by
  refine ⟨fun ds S Q ⟨w, h, _⟩ => by rw [h]; rfl, fun ds S Q ⟨w, h, hQ⟩ => ?_⟩
  subst h
  refine ⟨by decide, .inr (.inl ⟨ok_wy w 58, rfl, ?_⟩)⟩
  have e : D.eqb (wyD w) (.tup []) = decide (w = []) := inj_wy.eqb w []
  refine itB (fun h => ?_) (fun h => ?_)
  · rw [bne_f e, decide_eq_true_eq] at h
    subst h
    exact ⟨by decide, fun p hp => ⟨_, Sub.refl _, hQ p hp⟩⟩
  · rw [bne_f e, decide_eq_false_iff_not] at h
    obtain ⟨r, x, rfl⟩ := last_snoc h
    have hb : backOf (r ++ [x]) = [⟨r, x.1, x.2 + 1, false⟩] := by
      unfold backOf
      rw [List.getLast?_concat, List.dropLast_concat]
    rw [hb] at hQ
    have hw : (r ++ [x]).map plD = r.map plD ++ [plD x] := by rw [List.map_append]; rfl
    unfold wyD
    rw [hw]
    refine ⟨_, atI_last, rfl, rfl, ?_⟩
    refine ⟨Nat.le_of_ble_eq_true rfl, Nat.le_of_ble_eq_true rfl, fun p hp => ⟨_, Sub.refl _, ?_⟩⟩
    have q := hQ p hp
    rw [cut_last, List.dropLast_concat]
    exact q
theorem k_behind_end : Keeps 5 4 (b_behind_end p_head_of) p_behind_end := by
  refine ⟨fun ds S Q ⟨w, part, k, f, o, L, l, h, _⟩ => by rw [h]; rfl, fun ds S Q ⟨w, part, k, f, o, L, l, h, hg, hl, hQ⟩ => ?_⟩
  subst h
  refine ⟨L, k, f, o, rfl, hg, ?_⟩
  refine ⟨_, ln_at hl, _, at0, .inl ⟨rfl, itB (fun h => ?_) (fun h => ?_)⟩⟩
  · rw [bne_f (eqb_agn l), decide_eq_true_eq] at h
    rw [if_pos h] at hQ
    exact ⟨Nat.le_of_ble_eq_true rfl, Nat.le_of_ble_eq_true rfl, fun p hp => ⟨_, Sub.refl _, hQ p hp⟩⟩
  · rw [bne_f (eqb_agn l), decide_eq_false_iff_not] at h
    rw [if_neg h] at hQ
    exact ⟨Nat.le_of_ble_eq_true rfl, Nat.le_of_ble_eq_true rfl, fun p hp => ⟨_, Sub.refl _, hQ p hp⟩⟩

theorem kd_eit {l : Ln} (h : l.kd = .eit) : l = .eit := by cases l <;> first | rfl | cases h
theorem kd_agn {l : Ln} (h : l.kd = .agn) : l = .agn := by cases l <;> first | rfl | cases h
theorem kd_orr {l : Ln} (h : l.kd = .orr) : l = .orr := by cases l <;> first | rfl | cases h
theorem kd_fin {l : Ln} (h : l.kd = .fin) : l = .fin := by cases l <;> first | rfl | cases h
theorem kd_doo {l : Ln} (h : l.kd = .doo) : ∃ nm, l = .doo nm := by cases l <;> first | exact ⟨_, rfl⟩ | cases h
theorem kd_ne {l : Ln} {c : Kd} (h : decide (l.kd = c) = false) : l.kd ≠ c := of_decide_eq_false h
theorem k_next_spots : Keeps 8 2 (b_next_spots p_behind_part p_behind_end p_number_of p_end_of p_or_of) p_next_spots := by
  refine ⟨fun ds S Q ⟨P, s, h, _⟩ => by rw [h]; rfl, fun ds S Q ⟨P, s, h, G, v, hQ⟩ => ?_⟩
  subst h
  obtain ⟨pt, h1, h2⟩ := pg_at G v
  have hk := v.k
  have hw := G.wf s.part
  have out : ∀ (ts : List Spt), nx P s = ts → ∀ p, S p = none → ∃ S'', Sub S'' (S.put p (.lst (ts.map spD))) ∧ Q (.ref p) S'' := fun ts e p hp => by
    rw [e] at hQ
    exact ⟨_, Sub.refl _, hQ p hp⟩
  rw [h2] at hk hw
  have lk : ∀ l, pt.2[s.k]? = some l → L2.atI (pt.2.map lnD) ((s.k : Nat) : Int) = some (lnD l) := fun l hl => atI_map hl
  -- way, part, k, head = spot; lines = program[part][1]
  refine ⟨rfl, rfl, _, h1, _, rfl, itB (fun hh => ?_) (fun hh => ?_)⟩
  · -- a head
    have ha := v.hd hh
    rw [h2] at ha
    obtain ⟨_, w2, w3⟩ := wf_agn hw (kd_of ha)
    refine ⟨pt.2, s.k, 40, _, rfl, w2, ?_⟩
    refine ⟨Nat.le_of_ble_eq_true rfl, Nat.le_of_ble_eq_true rfl, Nat.le_of_ble_eq_true rfl, fun p hp => ?_⟩
    refine out [goTo s ((rowOf P s).2.2 + 1), goTo s (s.k + 1)] (by unfold nx; rw [if_pos hh]) p hp |>.imp fun S'' q => ?_
    refine ⟨?_, q.2⟩
    have q1 := q.1
    unfold rowOf at q1
    rw [h2] at q1
    exact q1
  · have nh : ¬ s.hd = true := by rw [hh]; simp
    refine .inl ⟨rfl, itB (fun he => ?_) (fun he => ?_)⟩
    · -- the part's end
      rw [bne_f (int_eqb _ _), decide_eq_true_eq, List.length_map] at he
      refine ⟨s.way, rfl, fun p hp => ?_⟩
      refine out (backOf s.way) ?_ p hp
      unfold nx backOf
      rw [if_neg nh, h2, List.getElem?_eq_none (by omega)]
      try rfl
    · rw [bne_f (int_eqb _ _), decide_eq_false_iff_not, List.length_map] at he
      have hlt : s.k < pt.2.length := by omega
      obtain ⟨l, hl⟩ : ∃ l, pt.2[s.k]? = some l := ⟨_, List.getElem?_eq_getElem hlt⟩
      have hl' : (lines P s.part)[s.k]? = some l := by rw [h2]; exact hl
      have one : ∀ t, nx P s = [t] → ∀ p, S p = none → ∃ S'', Sub S'' (S.put p (.lst [spD t])) ∧ Q (.ref p) S'' := fun t e p hp => out [t] e p hp
      have nxl : nx P s = (match some l with
        | none => (match s.way.getLast? with
          | none => []
          | some p => [⟨s.way.dropLast, p.1, p.2 + 1, false⟩])
        | some .eit => [goTo s (s.k + 1), goTo s ((rowOf P s).2.1 + 1)]
        | some .orr => [goTo s ((rowOf P s).2.2 + 1)]
        | some .agn => [⟨s.way, s.part, s.k, true⟩]
        | some .fin => if ((lines P s.part).map Ln.kd)[(rowOf P s).1]? = some .agn then [⟨s.way, s.part, (rowOf P s).1, true⟩] else [goTo s (s.k + 1)]
        | some (.doo nm) => [⟨s.way ++ [(s.part, s.k)], ix P nm, 0, false⟩]
        | some _ => [goTo s (s.k + 1)]) := by
        unfold nx
        rw [if_neg nh, hl']
        try rfl
      have rw2 : rowOf P s = row (pt.2.map Ln.kd) s.k := by unfold rowOf; rw [h2]
      rw [rw2] at nxl
      refine ⟨_, lk l hl, _, at0, .inl ⟨rfl, itB (fun t1 => ?_) (fun t1 => ?_)⟩⟩
      · rw [bne_f (eqb_eit l), decide_eq_true_eq] at t1
        cases kd_eit t1
        obtain ⟨_, w2, w3⟩ := wf_eit hw (kd_of hl)
        refine ⟨Nat.le_of_ble_eq_true rfl, pt.2, s.k, 40, _, rfl, w2, Nat.le_of_ble_eq_true rfl, Nat.le_of_ble_eq_true rfl, fun p hp => ?_⟩
        exact out [goTo s (s.k + 1), goTo s ((row (pt.2.map Ln.kd) s.k).2.1 + 1)] nxl p hp
      rw [bne_f (eqb_eit l), decide_eq_false_iff_not] at t1
      refine .inl ⟨rfl, itB (fun t2 => ?_) (fun t2 => ?_)⟩
      · rw [bne_f (eqb_orr l), decide_eq_true_eq] at t2
        cases kd_orr t2
        obtain ⟨_, w2, _⟩ := wf_orr hw (kd_of hl)
        exact ⟨pt.2, s.k, 40, _, rfl, w2, Nat.le_of_ble_eq_true rfl, Nat.le_of_ble_eq_true rfl, fun p hp => one (goTo s ((row (pt.2.map Ln.kd) s.k).2.2 + 1)) nxl p hp⟩
      rw [bne_f (eqb_orr l), decide_eq_false_iff_not] at t2
      refine .inl ⟨rfl, itB (fun t3 => ?_) (fun t3 => ?_)⟩
      · rw [bne_f (eqb_agn l), decide_eq_true_eq] at t3
        cases kd_agn t3
        exact ⟨Nat.le_of_ble_eq_true rfl, Nat.le_of_ble_eq_true rfl, fun p hp => one ⟨s.way, s.part, s.k, true⟩ nxl p hp⟩
      rw [bne_f (eqb_agn l), decide_eq_false_iff_not] at t3
      refine .inl ⟨rfl, itB (fun t4 => ?_) (fun t4 => ?_)⟩
      · rw [bne_f (eqb_fin l), decide_eq_true_eq] at t4
        cases kd_fin t4
        obtain ⟨_, w2, w3, w4⟩ := wf_fin hw (kd_of hl)
        obtain ⟨lo, hlo, elo⟩ : ∃ lo, pt.2[(row (pt.2.map Ln.kd) s.k).1]? = some lo ∧ (pt.2.map Ln.kd)[(row (pt.2.map Ln.kd) s.k).1]? = some lo.kd := by
          rcases w4 with q | q
          · obtain ⟨x, e1, e2⟩ := kd_at q
            exact ⟨x, e1, by rw [q, e2]⟩
          · obtain ⟨x, e1, e2⟩ := kd_at q
            exact ⟨x, e1, by rw [q, e2]⟩
        refine ⟨s.way, s.part, s.k, 40, _, pt.2, lo, rfl, w2, hlo, fun p hp => ?_⟩
        dsimp only at nxl
        rw [h2, elo] at nxl
        by_cases ha : lo.kd = .agn
        · rw [if_pos ha]
          rw [if_pos (by rw [ha])] at nxl
          exact one _ nxl p hp
        · rw [if_neg ha]
          rw [if_neg (fun q => ha (Option.some.inj q))] at nxl
          exact one _ nxl p hp
      rw [bne_f (eqb_fin l), decide_eq_false_iff_not] at t4
      refine .inl ⟨rfl, itB (fun t5 => ?_) (fun t5 => ?_)⟩
      · rw [bne_f (eqb_doo l), decide_eq_true_eq] at t5
        obtain ⟨nm, rfl⟩ := kd_doo t5
        obtain ⟨e0, q, hq⟩ := G.dos _ _ _ hl'
        have hw0 : s.way = [] := by
          rcases v.at_ with ⟨e, _⟩ | ⟨_, _, _, e2, _⟩
          · exact e
          · rw [e0] at e2
            cases e2
        have hm : nm ∈ P.map (·.1) := List.mem_map.mpr ⟨_, List.mem_of_getElem? hq, rfl⟩
        dsimp only at nxl
        rw [hw0] at nxl
        have nxl' := one _ nxl
        refine ⟨Nat.le_of_ble_eq_true rfl, Nat.le_of_ble_eq_true rfl, ?_⟩
        refine ⟨by rw [hw0]; exact Nat.le_of_ble_eq_true rfl, _, lk _ hl, _, rfl, P, nm, rfl, hm, ?_⟩
        rw [hw0]
        exact ⟨Nat.le_of_ble_eq_true rfl, Nat.le_of_ble_eq_true rfl, fun p hp => nxl' p hp⟩
      rw [bne_f (eqb_doo l), decide_eq_false_iff_not] at t5
      have nxo : nx P s = [goTo s (s.k + 1)] := by
        cases l with
        | pair => exact nxl
        | pl => exact nxl
        | eit => exact absurd rfl t1
        | orr => exact absurd rfl t2
        | agn => exact absurd rfl t3
        | fin => exact absurd rfl t4
        | doo => exact absurd rfl t5
      exact ⟨Nat.le_of_ble_eq_true rfl, Nat.le_of_ble_eq_true rfl, fun p hp => one _ nxo p hp⟩
end L3
end
section
set_option maxRecDepth 10000
set_option maxHeartbeats 4200000
/-! L4Own: what a def has made in the store; the spots that can be reached. -/
namespace L3
open PySem
/-- S' is S and the new objects ps (and things that no one asks for) -/
structure Own (S S' : Sto) (ps : List (Addr × AO)) : Prop where
  sub : Sub S S'
  none : ∀ x ∈ ps, S x.1 = Option.none
  at_ : ∀ x ∈ ps, S' x.1 = some x.2
  nd : (ps.map (·.1)).Nodup
section
variable {S S' : Sto} {ps : List (Addr × AO)}
theorem Own.start (S : Sto) : Own S S [] := ⟨Sub.refl S, (fun _ h => nomatch h), (fun _ h => nomatch h), List.nodup_nil⟩
theorem Own.at (O : Own S S' ps) (i : Nat) {a : Addr} {o : AO} (h : ps[i]? = some (a, o) := by rfl) : S' a = some o := O.at_ (a, o) (List.mem_of_getElem? h)
theorem Own.mem (O : Own S S' ps) {a : Addr} {o : AO} (h : (a, o) ∈ ps) : S' a = some o := O.at_ (a, o) h
theorem Own.free (O : Own S S' ps) (i : Nat) {a : Addr} {o : AO} (h : ps[i]? = some (a, o) := by rfl) : S a = Option.none := O.none (a, o) (List.mem_of_getElem? h)
theorem Own.old (O : Own S S' ps) {a : Addr} {o : AO} (h : S a = some o) : S' a = some o := O.sub a o h
theorem Own.fresh (O : Own S S' ps) {q : Addr} (h : S' q = Option.none) : S q = Option.none := O.sub.none h
theorem Own.junk (O : Own S S' ps) {q : Addr} {o : AO} (h : S' q = Option.none) : Own S (S'.put q o) ps where
  sub := O.sub.new h
  none := O.none
  at_ := fun x hx => put_old (O.at_ x hx) h
  nd := O.nd
theorem Own.new (O : Own S S' ps) {q : Addr} {o : AO} (h : S' q = Option.none) : Own S (S'.put q o) ((q, o) :: ps) where
  sub := O.sub.new h
  none := fun x hx => by
    rcases List.mem_cons.1 hx with e | hx
    · rw [e]; exact O.fresh h
    · exact O.none x hx
  at_ := fun x hx => by
    rcases List.mem_cons.1 hx with e | hx
    · rw [e]; exact put_same
    · exact put_old (O.at_ x hx) h
  nd := by
    refine List.nodup_cons.mpr ⟨fun hm => ?_, O.nd⟩
    obtain ⟨x, hx, e⟩ := List.mem_map.mp hm
    have := O.at_ x hx
    rw [e, h] at this
    cases this
/-- the same, behind the others -/
theorem Own.add (O : Own S S' ps) {q : Addr} {o : AO} (h : S' q = Option.none) : Own S (S'.put q o) (ps ++ [(q, o)]) where
  sub := O.sub.new h
  none := fun x hx => by
    rcases List.mem_append.mp hx with hx | e
    · exact O.none x hx
    · rw [List.mem_singleton.mp e]; exact O.fresh h
  at_ := fun x hx => by
    rcases List.mem_append.mp hx with hx | e
    · exact put_old (O.at_ x hx) h
    · rw [List.mem_singleton.mp e]; exact put_same
  nd := by
    rw [List.map_append]
    refine List.nodup_append.mpr ⟨O.nd, List.nodup_cons.mpr ⟨by simp, List.nodup_nil⟩, fun a ha b hb => ?_⟩
    obtain ⟨x, hx, rfl⟩ := List.mem_map.mp ha
    have e := List.mem_singleton.mp hb
    intro q
    have := O.at_ x hx
    rw [q, e, h] at this
    cases this
theorem Own.set (O : Own S S' ps) (i : Nat) {a : Addr} {o o' : AO} (h : ps[i]? = some (a, o) := by rfl) : Own S (S'.put a o') (ps.set i (a, o')) where
  sub := O.sub.putN (O.free i h)
  none := fun x hx => by
    rcases List.mem_or_eq_of_mem_set hx with hx | e
    · exact O.none x hx
    · rw [e]; exact O.free i h
  at_ := fun x hx => by
    (obtain ⟨j, hj⟩ := List.getElem?_of_mem hx)
    by_cases e : i = j
    · subst e
      have hl : i < ps.length := (List.getElem?_eq_some_iff.mp h).1
      rw [List.getElem?_set_self hl] at hj
      cases hj
      exact put_same
    · rw [List.getElem?_set_ne e] at hj
      have hm := List.mem_of_getElem? hj
      refine (put_ne fun q => e ?_).trans (O.at_ x hm)
      have n1 : (ps.map (·.1))[i]? = some a := by rw [List.getElem?_map, h]; rfl
      have n2 : (ps.map (·.1))[j]? = some a := by rw [List.getElem?_map, hj]; show some x.1 = some a; rw [q]
      have hi := (List.getElem?_eq_some_iff.mp n1).1
      exact (List.getElem?_inj hi O.nd).mp (n1.trans n2.symm)
  nd := by
    have e : (ps.set i (a, o')).map (·.1) = ps.map (·.1) := by
      rw [List.map_set]
      (have n1 : (ps.map (·.1))[i]? = some a := by rw [List.getElem?_map, h]; rfl); refine List.ext_getElem? fun j => ?_
      by_cases q : i = j
      · subst q
        rw [List.getElem?_set_self (List.getElem?_eq_some_iff.mp n1).1, n1]
      · rw [List.getElem?_set_ne q]
    rw [e]
    exact O.nd
theorem Own.put_sub (O : Own S S' ps) (i : Nat) {a : Addr} {o : AO} (h : ps[i]? = some (a, o) := by rfl) : Sub (S.put a o) S' := O.sub.at (O.at i h)
theorem Own.keep (O : Own S S' ps) {qs : List (Addr × AO)} (h : qs.Sublist ps) : Own S S' qs := ⟨O.sub, fun x hx => O.none x (h.subset hx), fun x hx => O.at_ x (h.subset hx), O.nd.sublist (h.map _)⟩
theorem Own.perm (O : Own S S' ps) {qs : List (Addr × AO)} (h : qs.Perm ps) : Own S S' qs := ⟨O.sub, fun x hx => O.none x (h.mem_iff.mp hx), fun x hx => O.at_ x (h.mem_iff.mp hx), (h.map _).nodup_iff.mpr O.nd⟩
theorem Own.sub' (O : Own S S' ps) {S0 : Sto} (h : Sub S0 S) : Own S0 S' ps := ⟨h.trans O.sub, fun x hx => h.none (O.none x hx), O.at_, O.nd⟩
end
theorem nodup_le {α : Type} [DecidableEq α] : ∀ {l u : List α}, l.Nodup → (∀ x ∈ l, x ∈ u) → l.length ≤ u.length
  | [], _, _, _ => (Nat.zero_le _)
  | x :: l, u, nd, h => by
    obtain ⟨n1, n2⟩ := List.nodup_cons.1 nd
    have hx := h x List.mem_cons_self
    have := nodup_le (u := u.erase x) n2 fun y hy => (List.mem_erase_of_ne fun e : y = x => n1 (e ▸ hy)).mpr (h y (List.mem_cons_of_mem _ hy))
    rw [List.length_erase_of_mem hx] at this
    have : 0 < u.length := List.length_pos_of_mem hx
    rw [List.length_cons]
    omega

/-! ### reachable spots -/
inductive Reach (P : Pg) : Spt → Prop
  | fst : Reach P fst_
  | step {s t : Spt} : Reach P s → t ∈ nx P s → Reach P t
theorem Reach.vld {P : Pg} (G : Good P) {s : Spt} (h : Reach P s) : Vld P s := by
  induction h with
  | fst => exact vld_fst
  | step _ h ih => exact nx_vld G ih h
def uni : List Spt := (List.range 9).flatMap fun k => [⟨[], 0, k, false⟩, ⟨[], 0, k, true⟩] ++ (List.range 8).flatMap fun j => [⟨[(0, j)], 1, k, false⟩, ⟨[(0, j)], 1, k, true⟩]
theorem uni_len : uni.length = 162 := by decide +kernel
theorem vld_uni {P : Pg} (G : Good P) {s : Spt} (v : Vld P s) : s ∈ uni := by
  obtain ⟨w, pa, k, h⟩ := s
  have hk : k < 9 := by
    have := v.k
    have := G.bd pa
    dsimp only at *
    omega
  unfold uni
  refine List.mem_flatMap.mpr ⟨k, List.mem_range.mpr hk, ?_⟩
  rcases v.at_ with ⟨e1, e2⟩ | ⟨j, nm, e1, e2, hj, _⟩
  · dsimp only at e1 e2
    subst e1 e2
    cases h <;> simp
  · dsimp only at e1 e2
    subst e1 e2
    have : j < 8 := by
      have := (List.getElem?_eq_some_iff.mp hj).1
      have := G.bd 0
      omega
    refine List.mem_append_right _ (List.mem_flatMap.mpr ⟨j, List.mem_range.mpr this, ?_⟩)
    cases h <;> simp
theorem few_spots {P : Pg} (G : Good P) {l : List Spt} (nd : l.Nodup) (h : ∀ x ∈ l, Vld P x) : l.length ≤ 162 := by
  rw [← uni_len]
  exact nodup_le nd fun x hx => vld_uni G (h x hx)
theorem nodup_snoc {α : Type} {l : List α} {x : α} (h : l.Nodup) (hx : x ∉ l) : (l ++ [x]).Nodup := by
  refine List.nodup_append.mpr ⟨h, List.nodup_cons.mpr ⟨by simp, List.nodup_nil⟩, fun a ha b hb e => ?_⟩
  rw [List.mem_singleton.mp hb] at e
  exact hx (e ▸ ha)
end L3
end
section
set_option maxRecDepth 10000
set_option maxHeartbeats 4200000
/-! L4Spots: the spots. -/
namespace L3
open PySem
def p_spots : F3 := fun ds S Q => ∃ P : Pg, ds = [pgD P] ∧ Good P ∧ ∀ L : List Spt, (∀ s, s ∈ L ↔ Reach P s) → L.Nodup → L.length ≤ 162 → ∀ p, S p = none → Q (.ref p) (S.put p (.lst (L.map spD)))
theorem eqv_nil (xs : List D) : PyData.eqvAll (D.pys xs) (D.pys []) = decide (xs = []) := by
  cases xs <;> simp [D.pys, PyData.eqvAll]
theorem all_sp (l : List Spt) : (l.map spD).all (D.ok 60) = true := all_map fun s _ => ok_sp60 s
theorem last_map {α : Type} {f : α → D} {r : List α} {x : α} : ((r ++ [x]).map f)[((r ++ [x]).map f).length - 1]? = some (f x) := by
  rw [List.length_map, List.length_append, List.length_singleton, List.getElem?_map, List.getElem?_append_right (by omega)]
  simp
theorem drop_map {α : Type} {f : α → D} {r : List α} {x : α} : ((r ++ [x]).map f).dropLast = r.map f := by
  rw [List.map_append, List.map_singleton, List.dropLast_concat]
theorem snoc_map {α : Type} {f : α → D} {r : List α} {x : α} : r.map f ++ [f x] = (r ++ [x]).map f := by rw [List.map_append, List.map_singleton]
theorem hasT_sp {F : List Spt} {f : Spt → D} {x : Spt} {b : Bool} (h : (true != hasT (dm spD F f) (spD x)) = b) : b = true ↔ x ∉ F := by
  rw [bne_t (hasT_dm inj_sp F f x)] at h
  rw [← h]
  simp
theorem k_spots : Keeps 6 1 (b_spots p_first_spot p_next_spots) p_spots := by
  refine ⟨fun ds S Q ⟨P, h, _⟩ => by rw [h]; rfl, fun ds S Q ⟨P, h, G, hQ⟩ => ?_⟩
  subst h
  refine ⟨Nat.zero_le _, fun pf hf => ?_⟩
  have O1 := (Own.start S).add (o := .lst []) hf
  intro pm hm
  have O2 := O1.add (o := .dT []) hm
  refine ⟨rfl, Nat.le_of_ble_eq_true rfl, fun pw hw => ?_⟩
  have O3 := O2.add (o := .lst [spD fst_]) hw
  refine ⟨fun m δ S' => ∃ (F W : List Spt) (v4 v5 : Option D), δ = [some (pgD P), some (.ref pf), some (.ref pm), some (.ref pw), v4, v5] ∧
    Own S S' [(pf, .lst (F.map spD)), (pm, .dT (dm spD F fun _ => .bl true)), (pw, .lst (W.map spD))] ∧ F.Nodup ∧ (∀ x ∈ F, Reach P x) ∧ (∀ x ∈ W, Reach P x) ∧ (fst_ ∈ F ∨ fst_ ∈ W) ∧
    (∀ x ∈ F, ∀ t ∈ nx P x, t ∈ F ∨ t ∈ W) ∧ m = (162 - F.length) * 3 + W.length ∧ m ≤ 487, ⟨487, [], [fst_], none, none, rfl, O3, List.nodup_nil, (fun x h => nomatch h), (fun x h => by rw [List.mem_singleton.mp h]; exact .fst), .inr List.mem_cons_self, (fun x h => nomatch h), rfl, Nat.le_refl _⟩, ?_⟩
  rintro m δ S' ⟨F, W, v4, v5, rfl, O, nd, rF, rW, ini, cl, hm1, hm2⟩
  refine ⟨Nat.zero_le _, fun q hq => ?_⟩
  have O := O.junk (o := .lst []) hq
  refine .inr (.inr ⟨pw, q, W.map spD, [], rfl, rfl, O.at 2, put_same, all_sp W, rfl, itB (fun h => ?_) (fun h => ?_)⟩)
  · rw [bne_t (eqv_nil _)] at h
    have hne : W ≠ [] := by
      rintro rfl
      simp at h
    obtain ⟨r, x, rfl⟩ := last_snoc hne
    refine ⟨_, spD x, O.at 2, last_map, ?_⟩
    rw [drop_map]
    have O := O.set (o' := .lst (r.map spD)) 2
    have hx : Reach P x := rW x (by simp)
    have lF := few_spots G nd fun y hy => (rF y hy).vld G
    rw [List.length_append, List.length_singleton] at hm1
    refine ⟨pm, _, rfl, .inl (O.at 1), rfl, kok_sp x 5, itB (fun h2 => ?_) (fun h2 => ?_)⟩
    · have hn : x ∉ F := (hasT_sp rfl).mp h2
      have nd' := nodup_snoc nd hn
      have lF' := few_spots G nd' fun y hy => by
        rcases List.mem_append.1 hy with hy | hy
        · exact (rF y hy).vld G
        · rw [List.mem_singleton.mp hy]; exact hx.vld G
      rw [List.length_append, List.length_singleton] at lF'
      refine ⟨pm, _, rfl, O.at 1, rfl, kok_sp x 5, by rw [dm_len]; omega, ?_⟩
      rw [putT_dm inj_sp, if_neg hn, show upd1 (fun _ : Spt => D.bl true) x (.bl true) = fun _ => .bl true from funext fun j => by unfold upd1; split <;> rfl]
      have O := O.set (o' := .dT (dm spD (F ++ [x]) fun _ => .bl true)) 1
      refine ⟨⟨pf, _, rfl, O.at 0⟩, _, O.at 0, by rw [List.length_map]; omega, ?_⟩
      rw [snoc_map]
      have O := O.set (o' := .lst ((F ++ [x]).map spD)) 0
      refine ⟨P, x, rfl, G, hx.vld G, fun p hp => ⟨_, put_same, ?_⟩⟩
      have O := O.add (o := .lst ((nx P x).map spD)) hp
      rw [← List.map_reverse]
      refine for_pre (f := spD) (fun l δ S2 => ∃ v5, δ = [some (pgD P), some (.ref pf), some (.ref pm), some (.ref pw), some (spD x), v5] ∧
        Own S S2 [(pf, .lst ((F ++ [x]).map spD)), (pm, .dT (dm spD (F ++ [x]) fun _ => .bl true)), (pw, .lst ((r ++ l).map spD)), (p, .lst ((nx P x).map spD))]) (nx P x).reverse ⟨_, rfl, by rw [List.append_nil]; exact O⟩ (fun l δ S2 ⟨_, _, O⟩ => O.at 3) ?_ ?_
      · rintro l y r2 δ S2 e ⟨v5, rfl, O⟩ k hk
        have hl : l.length ≤ 2 := by
          have := congrArg List.length e
          rw [List.length_reverse, List.length_append] at this
          have := nx_len P x
          omega
        refine ⟨⟨pw, _, rfl, O.at 2⟩, _, O.at 2, by rw [List.length_map, List.length_append]; omega, hk _ _ ⟨_, rfl, ?_⟩⟩
        rw [snoc_map, List.append_assoc]
        exact O.set 2
      · rintro δ S2 ⟨v5, rfl, O⟩
        have ln := nx_len P x
        refine ⟨(162 - (F ++ [x]).length) * 3 + (r ++ (nx P x).reverse).length, ?_, F ++ [x], r ++ (nx P x).reverse, _, _, rfl, O.keep (List.sublist_append_left [_, _, _] [_]), nd', ?_, ?_, ?_, ?_, rfl, ?_⟩
        · rw [List.length_append, List.length_append, List.length_reverse, List.length_singleton]
          omega
        · intro y hy
          rcases List.mem_append.1 hy with hy | hy
          · exact rF y hy
          · rw [List.mem_singleton.mp hy]; exact hx
        · intro y hy
          rcases List.mem_append.1 hy with hy | hy
          · exact rW y (List.mem_append_left _ hy)
          · exact hx.step (List.mem_reverse.mp hy)
        · rcases ini with h | h
          · exact .inl (List.mem_append_left _ h)
          · rcases List.mem_append.1 h with h | h
            · exact .inr (List.mem_append_left _ h)
            · exact .inl (List.mem_append_right _ h)
        · intro y hy t ht
          rcases List.mem_append.1 hy with hy | hy
          · rcases cl y hy t ht with h | h
            · exact .inl (List.mem_append_left _ h)
            · rcases List.mem_append.1 h with h | h
              · exact .inr (List.mem_append_left _ h)
              · exact .inl (List.mem_append_right _ h)
          · rw [List.mem_singleton.mp hy] at ht
            exact .inr (List.mem_append_right _ (List.mem_reverse.mpr ht))
        · rw [List.length_append, List.length_append, List.length_reverse, List.length_singleton]
          omega
    · have hn : x ∈ F := by
        refine Classical.byContradiction fun q => ?_
        have := (hasT_sp (f := fun _ => D.bl true) rfl).mpr q
        rw [h2] at this
        cases this
      have sw : ∀ t, t ∈ r ++ [x] → t ∈ F ∨ t ∈ r := fun t ht => by
        rcases List.mem_append.mp ht with h | h
        · exact .inr h
        · rw [List.mem_singleton.mp h]; exact .inl hn
      refine ⟨(162 - F.length) * 3 + r.length, by omega, F, r, _, _, rfl, O, nd, rF, fun y hy => rW y (List.mem_append_left _ hy), ?_, fun y hy t ht => ?_, rfl, by omega⟩
      · rcases ini with h | h
        · exact .inl h
        · exact sw _ h
      · rcases cl y hy t ht with h | h
        · exact .inl h
        · exact sw _ h
  · rw [bne_t (eqv_nil _)] at h
    have hW : W = [] := by
      cases W with
      | nil => rfl
      | cons a b => simp at h
    subst hW
    refine ⟨_, O.put_sub 0, hQ F (fun s => ⟨rF s, fun hr => ?_⟩) nd (few_spots G nd fun y hy => (rF y hy).vld G) pf hf⟩
    induction hr with
    | fst => exact ini.elim id fun h => nomatch h
    | step _ h2 ih => exact (cl _ ih _ h2).elim id fun h => nomatch h
end L3
end
section
set_option maxRecDepth 10000
set_option maxHeartbeats 4200000
/-! L4Counts: words given, spots of a place, makers. -/
namespace L3
open PySem
abbrev Mn := List (Str × Nat × Nat)
def mnD (m : Str × Nat × Nat) : D := .tup [.str m.1, plD m.2]
def gv (M : Mn) (s : Spt) : List Str := if s.hd = true then [] else (M.filter fun m => decide (m.2 = (s.part, s.k))).map (·.1)
theorem mem_gv {M : Mn} {s : Spt} {w : Str} : w ∈ gv M s ↔ s.hd = false ∧ (w, s.part, s.k) ∈ M := by
  unfold gv
  cases h : s.hd
  · rw [if_neg (by simp), List.mem_map]
    constructor
    · rintro ⟨⟨a, b⟩, hm, rfl⟩
      obtain ⟨h1, h2⟩ := List.mem_filter.mp hm
      have h2 := of_decide_eq_true h2
      dsimp only at h2
      exact ⟨rfl, by rw [← h2]; exact h1⟩
    · rintro ⟨_, hm⟩
      exact ⟨_, List.mem_filter.mpr ⟨hm, by simp⟩, rfl⟩
  · rw [if_pos rfl]
    simp
def p_given_at : F3 := fun ds S Q => ∃ (M : Mn) (s : Spt) (a : Addr), ds = [.ref a, spD s] ∧ S a = some (.lst (M.map mnD)) ∧ M.length ≤ 1000 ∧ ∀ p, S p = none → Q (.ref p) (S.put p (.lst ((gv M s).map D.str)))
def p_spots_at : F3 := fun ds S Q => ∃ (P : Pg) (a : Addr) (ps : List (Nat × Nat)), ds = [pgD P, .ref a] ∧ Good P ∧ S a = some (.lst (ps.map plD)) ∧
  ∀ L : List Spt, (∀ s, s ∈ L ↔ Reach P s ∧ s.hd = false ∧ (s.part, s.k) ∈ ps) → ∀ p, S p = none → Q (.ref p) (S.put p (.lst (L.map spD)))
def p_makings : F3 := fun ds S Q => ∃ (P : Pg) (w : Str), ds = [pgD P, .str w] ∧ Good P ∧
  ∀ L : List Spt, (∀ s, s ∈ L ↔ Reach P s ∧ mk P s = some w) → L.length ≤ 162 → ∀ p, S p = none → Q (.ref p) (S.put p (.lst (L.map spD)))

theorem eqb_place (p : Nat × Nat) (s : Spt) : D.eqb (plD p) (placeD s) = decide (s.hd = false ∧ p = (s.part, s.k)) := by
  unfold placeD
  cases h : s.hd
  · rw [if_neg (by simp), inj_pl.eqb, Bool.eq_iff_iff]
    simp
  · rw [if_pos rfl, eqb_nk, Bool.eq_iff_iff]
    simp [plD, D.nk]
theorem ok_place (s : Spt) : D.ok 60 (placeD s) = true := by
  unfold placeD
  split
  · rfl
  · exact ok_pl _ 59
theorem k_given_at : Keeps 5 2 (b_given_at p_place_of) p_given_at := by
  refine ⟨fun ds S Q ⟨M, s, a, h, _⟩ => by rw [h]; rfl, fun ds S Q ⟨M, s, a, h, hS, hl, hQ⟩ => ?_⟩
  subst h
  refine ⟨s, rfl, _, hS, ?_⟩
  refine lc_pure (f := mnD) (· = S) (fun m => if s.hd = false ∧ m.2 = (s.part, s.k) then some (.str m.1) else none) M [] S _ rfl (fun S' e => by rw [e]; exact hS) (by simpa using Nat.le_trans hl (by decide)) ?_ ?_
  · rintro m hm S' rfl k1 k2 hk
    refine ⟨rfl, rfl, .inr (.inl ⟨ok_pl _ 59, ok_place s, itB (fun h => ?_) (fun h => ?_)⟩)⟩
    · rw [bne_f (eqb_place _ _), decide_eq_true_eq] at h
      rw [if_pos h] at hk
      exact hk _ rfl
    · rw [bne_f (eqb_place _ _), decide_eq_false_iff_not] at h
      rw [if_neg h] at hk
      exact hk _ rfl
  · rintro S' rfl p hp
    refine ⟨_, Sub.refl _, ?_⟩
    have e : ([] : List D) ++ M.filterMap (fun m => if s.hd = false ∧ m.2 = (s.part, s.k) then some (D.str m.1) else none) = (gv M s).map D.str := by
      rw [List.nil_append]
      unfold gv
      cases h : s.hd
      · rw [if_neg (by simp)]
        clear hQ hS hl
        induction M with
        | nil => rfl
        | cons m M ih =>
          rw [List.filterMap_cons, List.filter_cons]
          by_cases q : m.2 = (s.part, s.k)
          · rw [if_pos ⟨rfl, q⟩, if_pos (by simpa using q), List.map_cons, List.map_cons, ← ih]
          · rw [if_neg (fun z => q z.2), if_neg (by simpa using q), ← ih]
      · rw [if_pos rfl]
        simp
    rw [e]
    exact hQ p hp
theorem any_place (ps : List (Nat × Nat)) (s : Spt) : ((ps.map plD).any fun z => D.eqb z (placeD s)) = decide (s.hd = false ∧ (s.part, s.k) ∈ ps) := by
  (rw [Bool.eq_iff_iff, List.any_eq_true, decide_eq_true_eq])
  constructor
  · rintro ⟨z, hz, e⟩
    obtain ⟨y, hy, rfl⟩ := List.mem_map.mp hz
    rw [eqb_place, decide_eq_true_eq] at e
    exact ⟨e.1, e.2 ▸ hy⟩
  · rintro ⟨h1, h2⟩
    exact ⟨_, List.mem_map.mpr ⟨_, h2, rfl⟩, by rw [eqb_place]; simp [h1]⟩
theorem fm_filter {α β : Type} (p : α → Bool) (g : α → β) : ∀ l : List α, l.filterMap (fun x => if p x = true then some (g x) else none) = (l.filter p).map g
  | [] => rfl
  | x :: l => by
    rw [List.filterMap_cons, List.filter_cons, fm_filter p g l]
    cases h : p x <;> simp
theorem k_spots_at : Keeps 3 2 (b_spots_at p_spots p_place_of) p_spots_at := by
  refine ⟨fun ds S Q ⟨P, a, ps, h, _⟩ => by rw [h]; rfl, fun ds S Q ⟨P, a, ps, h, G, hS, hQ⟩ => ?_⟩
  subst h
  refine ⟨P, rfl, G, fun L hL nd few q hq => ⟨_, put_same, ?_⟩⟩
  have O := (Own.start S).add (o := .lst (L.map spD)) hq
  refine lc_pure (f := spD) (· = S.put q (.lst (L.map spD))) (fun s => if decide (s.hd = false ∧ (s.part, s.k) ∈ ps) = true then some (spD s) else none) L [] _ _ rfl (fun S' e => by rw [e]; exact put_same) (by show 0 + _ ≤ _; omega) ?_ ?_
  · rintro s hs S' rfl k1 k2 hk
    refine ⟨s, rfl, _, O.old hS, .inr ⟨ok_place s, all_map fun p _ => ok_pl p 59⟩, itB (fun h => ?_) (fun h => ?_)⟩
    · rw [bne_f (any_place ps s)] at h
      rw [if_pos h] at hk
      exact hk _ rfl
    · rw [bne_f (any_place ps s)] at h
      rw [if_neg (by rw [h]; simp)] at hk
      exact hk _ rfl
  · rintro S' rfl p hp
    rw [List.nil_append, fm_filter]
    have O2 := O.add (o := .lst ((L.filter fun s => decide (s.hd = false ∧ (s.part, s.k) ∈ ps)).map spD)) hp
    refine ⟨_, O2.put_sub 1, hQ _ (fun s => ?_) p (O2.free 1)⟩
    rw [List.mem_filter, hL s, decide_eq_true_eq]
theorem k_makings : Keeps 5 2 (b_makings p_spots p_line_of) p_makings := by
  refine ⟨fun ds S Q ⟨P, w, h, _⟩ => by rw [h]; rfl, fun ds S Q ⟨P, w, h, G, hQ⟩ => ?_⟩
  subst h
  refine ⟨Nat.zero_le _, fun pf hf => ?_⟩
  have O := (Own.start S).add (o := .lst []) hf
  refine ⟨P, rfl, G, fun L hL nd few q hq => ⟨_, put_same, ?_⟩⟩
  have O := O.add (o := .lst (L.map spD)) hq
  refine for_pre (f := spD) (fun l δ S' => ∃ v3 v4, δ = [some (pgD P), some (.str w), some (.ref pf), v3, v4] ∧ Own S S' [(pf, .lst ((l.filter fun s => decide (mk P s = some w)).map spD)), (q, .lst (L.map spD))]) L ⟨_, _, rfl, O⟩ (fun l δ S' ⟨_, _, _, O⟩ => O.at 1) ?_ ?_
  · rintro l s r δ S' e ⟨v3, v4, rfl, O⟩ k hk
    have hs : Reach P s := (hL s).mp (by rw [e]; simp)
    have ll : l.length ≤ 162 := by
      have := congrArg List.length e
      rw [List.length_append] at this
      omega
    have lf : (l.filter fun s => decide (mk P s = some w)).length ≤ 162 := Nat.le_trans (List.length_filter_le ..) ll
    have no : mk P s ≠ some w → (l ++ [s]).filter (fun s => decide (mk P s = some w)) = l.filter fun s => decide (mk P s = some w) := fun h => by
      rw [List.filter_append, List.filter_cons, if_neg (by simpa using h)]
      simp
    have yes : mk P s = some w → (l ++ [s]).filter (fun s => decide (mk P s = some w)) = (l.filter fun s => decide (mk P s = some w)) ++ [s] := fun h => by
      rw [List.filter_append, List.filter_cons, if_pos (by simpa using h)]
      simp
    refine ⟨P, s, rfl, G, hs.vld G, ?_⟩
    have skip : mk P s ≠ some w → ∀ v, k [some (pgD P), some (.str w), some (.ref pf), some (spD s), some v] S' := fun h v => hk _ _ ⟨_, _, rfl, by rw [no h]; exact O⟩
    unfold mk at no yes skip
    unfold lineD
    cases hln : lineAt P s with
    | none =>
      rw [hln] at skip
      exact skip (by simp) _
    | some ln =>
      rw [hln] at skip no yes
      refine ⟨_, at0, .inl ⟨rfl, itB (fun h => ?_) (fun h => ?_)⟩⟩
      · rw [bne_f (eqb_pair ln)] at h
        obtain ⟨x, h1, h2⟩ := word_pair h
        refine ⟨_, h2, .inl ⟨rfl, itB (fun h3 => ?_) (fun h3 => ?_)⟩⟩
        · rw [bne_f (str_eqb _ _), decide_eq_true_eq] at h3
          refine ⟨⟨pf, _, rfl, O.at 0⟩, _, O.at 0, by rw [List.length_map]; omega, hk _ _ ⟨_, _, rfl, ?_⟩⟩
          rw [snoc_map]
          have O := O.set (o' := .lst (((l.filter fun s => decide (mk P s = some w)) ++ [s]).map spD)) 0
          have z := yes (show (some ln).bind Ln.word = some w by rw [← h3]; exact h1)
          unfold mk at O ⊢
          rw [z]
          exact O
        · rw [bne_f (str_eqb _ _), decide_eq_false_iff_not] at h3
          refine skip (fun z => h3 ?_) _
          have z' : ln.word = some w := z
          rw [h1] at z'
          exact Option.some.inj z'
      · rw [bne_f (eqb_pair ln)] at h
        refine skip (fun z => ?_) _
        have z' : ln.word = some w := z
        rw [word_none h] at z'
        cases z'
  · rintro δ S' ⟨v3, v4, rfl, O⟩
    refine ⟨_, O.put_sub 0, hQ _ (fun s => ?_) (Nat.le_trans (List.length_filter_le ..) few) pf hf⟩
    rw [List.mem_filter, hL s, decide_eq_true_eq]
end L3
end
section
set_option maxRecDepth 10000
set_option maxHeartbeats 4200000
/-! L4Road: roads. -/
namespace L3
open PySem
inductive Bk (kvs : List (D × D)) : Spt → List Spt → Prop
  | one {s : Spt} : getT kvs (spD s) = some .non → Bk kvs s [s]
  | more {s t : Spt} {l : List Spt} : getT kvs (spD s) = some (spD t) → Bk kvs t l → Bk kvs s (l ++ [s])
def p_way_back : F3 := fun ds S Q => ∃ (a : Addr) (kvs : List (D × D)) (s : Spt) (l : List Spt), ds = [.ref a, spD s] ∧ S a = some (.dT kvs) ∧ Bk kvs s l ∧ l.length ≤ 1000 ∧ ∀ p, S p = none → Q (.ref p) (S.put p (.lst (l.map spD)))
/-- a path: from st, past nothing of bar but its end -/
inductive Pth (P : Pg) (st bar : Spt → Prop) : List Spt → Spt → Prop
  | one {s : Spt} : st s → Pth P st bar [s] s
  | more {s t : Spt} {l : List Spt} : Pth P st bar l s → ¬ bar s → t ∈ nx P s → Pth P st bar (l ++ [t]) t
def p_road : F3 := fun ds S Q => ∃ (P : Pg) (a b c : Addr) (st go ba : List Spt), ds = [pgD P, .ref a, .ref b, .ref c] ∧ Good P ∧ S a = some (.lst (st.map spD)) ∧ S b = some (.lst (go.map spD)) ∧ S c = some (.lst (ba.map spD)) ∧ (∀ s ∈ st, Vld P s) ∧
  ((∀ r s, Pth P (· ∈ st) (· ∈ ba) r s → s ∉ go) → Q .non S) ∧ ∀ r s, Pth P (· ∈ st) (· ∈ ba) r s → s ∈ go → r.length ≤ 162 → ∀ p, S p = none → Q (.ref p) (S.put p (.lst (r.map spD)))
def p_run_to : F3 := fun ds S Q => ∃ (P : Pg) (s : Spt), ds = [pgD P, spD s] ∧ Good P ∧ Reach P s ∧ ∀ r, Pth P (· = fst_) (fun _ => False) r s → r.length ≤ 162 → ∀ p, S p = none → Q (.ref p) (S.put p (.lst (r.map spD)))
/-- a round at s: back to s past nothing that gives w -/
def Round (P : Pg) (M : Mn) (w : Str) (s : Spt) (r : List Spt) : Prop := Reach P s ∧ mk P s = some w ∧ w ∉ gv M s ∧ Pth P (· ∈ nx P s) (fun x => Reach P x ∧ w ∈ gv M x) r s
def p_growing_round : F3 := fun ds S Q => ∃ (P : Pg) (M : Mn) (a : Addr) (w : Str), ds = [pgD P, .ref a, .str w] ∧ Good P ∧ S a = some (.lst (M.map mnD)) ∧ M.length ≤ 1000 ∧
  ((∀ s r, ¬ Round P M w s r) → Q .non S) ∧ ∀ s r, Round P M w s r → r.length ≤ 162 → ∀ p, S p = none → Q (.ref p) (S.put p (.lst ((s :: r).map spD)))
theorem k_way_back : Keeps 3 2 b_way_back p_way_back := by
  refine ⟨fun ds S Q ⟨a, kvs, s, l, h, _⟩ => by rw [h]; rfl, fun ds S Q ⟨a, kvs, s, l, h, hS, hb, hl, hQ⟩ => ?_⟩
  subst h
  refine ⟨Nat.zero_le _, fun pr hr => ?_⟩
  have O := (Own.start S).add (o := .lst []) hr
  refine ⟨fun m δ S' => ∃ (R : List Spt) (v : D), δ = [some (.ref a), some v, some (.ref pr)] ∧ Own S S' [(pr, .lst (R.map spD))] ∧ ((v = .non ∧ R.reverse = l) ∨ ∃ c l', v = spD c ∧ Bk kvs c l' ∧ l' ++ R.reverse = l ∧ m = l'.length),
    ⟨_, [], spD s, rfl, O, .inr ⟨s, l, rfl, hb, by simp, rfl⟩⟩, ?_⟩
  rintro m δ S' ⟨R, v, rfl, O, hv⟩
  rcases hv with ⟨rfl, hR⟩ | ⟨c, l', rfl, hb, e, hm⟩
  · refine ⟨_, O.at 0, ?_⟩
    rw [← List.map_reverse]
    have O := O.set (o' := .lst (R.reverse.map spD)) 0
    rw [hR] at O ⊢
    exact ⟨_, O.put_sub 0, hQ pr hr⟩
  · have hR : R.length < 100000 := by
      have := congrArg List.length e
      rw [List.length_append, List.length_reverse] at this
      omega
    refine ⟨⟨pr, _, rfl, O.at 0⟩, _, O.at 0, by rw [List.length_map]; exact hR, ?_⟩
    rw [snoc_map]
    have hne : a ≠ pr := ne_new hS (O.free 0)
    have O := O.set (o' := .lst ((R ++ [c]).map spD)) 0
    cases hb with
    | one h =>
      refine ⟨a, kvs, _, rfl, .inl (O.old hS), rfl, kok_sp c 5, h, 0, by rw [hm]; exact Nat.zero_lt_succ _, R ++ [c], .non, rfl, O, .inl ⟨rfl, ?_⟩⟩
      rw [List.reverse_append]
      exact e
    | @more _ t l2 h hb =>
      refine ⟨a, kvs, _, rfl, .inl (O.old hS), rfl, kok_sp c 5, h, l2.length, by rw [hm, List.length_append]; exact Nat.lt_succ_self _, R ++ [c], spD t, rfl, O, .inr ⟨t, l2, rfl, hb, ?_, rfl⟩⟩
      rw [List.reverse_append, ← e, List.append_assoc]
      rfl
/-! ### the search -/
structure Bfs (P : Pg) (st ba R : List Spt) (f : Spt → D) : Prop where
  nd : R.Nodup
  vld : ∀ x ∈ R, Vld P x
  back : ∀ (i : Nat) (x : Spt), R[i]? = some x → (f x = .non ∧ x ∈ st) ∨ ∃ (j : Nat) (y : Spt), j < i ∧ R[j]? = some y ∧ f x = spD y ∧ y ∉ ba ∧ x ∈ nx P y
section
variable {P : Pg} {st ba R : List Spt} {f : Spt → D}
theorem Bfs.put (B : Bfs P st ba R f) {t : Spt} {v : D} (ht : t ∉ R) (vt : Vld P t) (h : (v = .non ∧ t ∈ st) ∨ ∃ (j : Nat) (y : Spt), j < R.length ∧ R[j]? = some y ∧ v = spD y ∧ y ∉ ba ∧ t ∈ nx P y) : Bfs P st ba (R ++ [t]) (upd1 f t v) where
  nd := nodup_snoc B.nd ht
  vld := fun x hx => by
    rcases List.mem_append.1 hx with hx | hx
    · exact B.vld x hx
    · rw [List.mem_singleton.mp hx]; exact vt
  back := fun i x hx => by
    by_cases hi : i < R.length
    · rw [List.getElem?_append_left hi] at hx
      have ne : x ≠ t := fun e => ht (e ▸ List.mem_of_getElem? hx)
      rw [upd1_ne ne]
      rcases B.back i x hx with q | ⟨j, y, h1, h2, q⟩
      · exact .inl q
      · exact .inr ⟨j, y, h1, by rw [List.getElem?_append_left (by omega)]; exact h2, q⟩
    · rw [List.getElem?_append_right (by omega)] at hx
      have e0 : i - R.length = 0 := by
        have := (List.getElem?_eq_some_iff.mp hx).1
        rw [List.length_singleton] at this
        omega
      rw [e0] at hx
      have e : t = x := Option.some.inj hx
      subst e
      rw [upd1_same]
      rcases h with q | ⟨j, y, h1, h2, q⟩
      · exact .inl q
      · exact .inr ⟨j, y, by omega, by rw [List.getElem?_append_left h1]; exact h2, q⟩
theorem Bfs.bk (B : Bfs P st ba R f) : ∀ (n i : Nat) (x : Spt), i < n → R[i]? = some x → ∃ l, Bk (dm spD R f) x l ∧ Pth P (· ∈ st) (· ∈ ba) l x ∧ l.length ≤ i + 1
  | 0, _, _, h, _ => absurd h (Nat.not_lt_zero _)
  | n + 1, i, x, hn, hx => by
    have hm : x ∈ R := List.mem_of_getElem? hx
    have hg := getT_dm inj_sp R f x hm
    rcases B.back i x hx with ⟨e, hs⟩ | ⟨j, y, h1, h2, e, hb, ht⟩
    · rw [e] at hg
      exact ⟨[x], .one hg, .one hs, by rw [List.length_singleton]; omega⟩
    · rw [e] at hg
      obtain ⟨l, g1, g2, g3⟩ := B.bk n j y (by omega) h2
      exact ⟨l ++ [x], .more hg g1, .more g2 hb ht, by rw [List.length_append, List.length_singleton]; omega⟩
theorem Bfs.few (B : Bfs P st ba R f) (G : Good P) : R.length ≤ 162 := few_spots G B.nd B.vld
end
theorem any_sp (l : List Spt) (x : Spt) : ((l.map spD).any fun z => D.eqb z (spD x)) = decide (x ∈ l) := inj_sp.any l x
theorem k_road : Keeps 9 4 (b_road p_way_back p_next_spots) p_road := by
  refine ⟨fun ds S Q ⟨P, a, b, c, st, go, ba, h, _⟩ => by rw [h]; rfl, fun ds S Q ⟨P, a, b, c, st, go, ba, h, G, ha, hb, hc, vst, hN, hR⟩ => ?_⟩
  subst h
  intro pc hpc
  have O := (Own.start S).add (o := .dT []) hpc
  refine ⟨Nat.zero_le _, fun pr hpr => ?_⟩
  have O := O.add (o := .lst []) hpr
  refine ⟨_, O.old ha, ?_⟩
  refine for_pre (f := spD) (fun l δ S' => ∃ (v6 : Option D) (R : List Spt) (f : Spt → D), δ = [some (pgD P), some (.ref a), some (.ref b), some (.ref c), some (.ref pc), some (.ref pr), v6, none, none] ∧
    Own S S' [(pc, .dT (dm spD R f)), (pr, .lst (R.map spD))] ∧ Bfs P st ba R f ∧ ∀ x ∈ l, x ∈ R) st ⟨none, [], fun _ => .non, rfl, O, ⟨List.nodup_nil, (fun x h => nomatch h), (fun i x h => by simp at h)⟩, (fun x h => nomatch h)⟩
    (fun l δ S' ⟨_, _, _, _, O, _⟩ => O.old ha) ?_ ?_
  · rintro l x r δ S' e ⟨v6, R, f, rfl, O, B, hl⟩ k hk
    have hx : x ∈ st := by rw [e]; simp
    refine ⟨pc, _, rfl, .inl (O.at 0), rfl, kok_sp x 5, itB (fun h => ?_) (fun h => ?_)⟩
    · have hn : x ∉ R := (hasT_sp rfl).mp h
      have B' := B.put (f := f) hn (vst x hx) (.inl ⟨rfl, hx⟩)
      have fw := B.few G
      refine ⟨pc, _, rfl, O.at 0, rfl, kok_sp x 5, by rw [dm_len]; omega, ?_⟩
      rw [putT_dm inj_sp, if_neg hn]
      have O := O.set (o' := .dT (dm spD (R ++ [x]) (upd1 f x .non))) 0
      refine ⟨⟨pr, _, rfl, O.at 1⟩, _, O.at 1, by rw [List.length_map]; omega, hk _ _ ⟨_, _, _, rfl, ?_, B', ?_⟩⟩
      · rw [snoc_map]
        exact O.set 1
      · intro y hy
        rcases List.mem_append.1 hy with hy | hy
        · exact List.mem_append_left _ (hl y hy)
        · exact List.mem_append_right _ hy
    · have hn : x ∈ R := by
        refine Classical.byContradiction fun q => ?_
        have := (hasT_sp (f := f) rfl).mpr q
        rw [h] at this
        cases this
      refine hk _ _ ⟨_, R, f, rfl, O, B, fun y hy => ?_⟩
      rcases List.mem_append.1 hy with hy | hy
      · exact hl y hy
      · rw [List.mem_singleton.mp hy]; exact hn
  rintro δ S1 ⟨v6, R1, f1, rfl, O, B1, sR1⟩
  -- at = 0; while at < len(row)
  refine ⟨fun m δ S' => ∃ (v6 v8 : Option D) (at_ : Nat) (R : List Spt) (f : Spt → D), δ = [some (pgD P), some (.ref a), some (.ref b), some (.ref c), some (.ref pc), some (.ref pr), v6, some (.int (at_ : Nat)), v8] ∧
    Own S S' [(pc, .dT (dm spD R f)), (pr, .lst (R.map spD))] ∧ Bfs P st ba R f ∧ (∀ x ∈ st, x ∈ R) ∧ at_ ≤ R.length ∧ m = 163 - at_ ∧ ∀ (i : Nat) (x : Spt), i < at_ → R[i]? = some x → x ∉ go ∧ (x ∉ ba → ∀ t ∈ nx P x, t ∈ R),
    ⟨163, _, _, 0, R1, f1, rfl, O, B1, sR1, Nat.zero_le _, rfl, fun i x h => absurd h (Nat.not_lt_zero _)⟩, ?_⟩
  rintro m δ S' ⟨v6, v8, at_, R, f, rfl, O, B, sR, hle, hm, dn⟩
  have fw := B.few G
  refine ⟨_, O.at 1, itB (fun h => ?_) (fun h => ?_)⟩
  · rw [decide_eq_true_eq, List.length_map] at h
    have hlt : at_ < R.length := by omega
    obtain ⟨x, hx⟩ : ∃ x, R[at_]? = some x := ⟨_, List.getElem?_eq_getElem hlt⟩
    have hxm : x ∈ R := List.mem_of_getElem? hx
    have vx := B.vld x hxm
    obtain ⟨l, bk1, bk2, bk3⟩ := B.bk (at_ + 1) at_ x (Nat.lt_succ_self _) hx
    refine ⟨_, _, O.at 1, atI_map hx, ?_⟩
    refine ⟨_, O.old hb, .inr ⟨ok_sp60 x, all_sp go⟩, itB (fun h2 => ?_) (fun h2 => ?_)⟩
    · rw [bne_f (any_sp go x), decide_eq_true_eq] at h2
      refine ⟨pc, _, x, l, rfl, O.at 0, bk1, by omega, fun p hp => ?_⟩
      exact ⟨_, (O.add (o := .lst (l.map spD)) hp).put_sub 2, hR l x bk2 h2 (by omega) p (O.fresh hp)⟩
    · rw [bne_f (any_sp go x), decide_eq_false_iff_not] at h2
      refine ⟨_, O.old hc, .inr ⟨ok_sp60 x, all_sp ba⟩, itB (fun h3 => ?_) (fun h3 => ?_)⟩
      · rw [bne_t (any_sp ba x)] at h3
        have hnb : x ∉ ba := by simpa using h3
        refine ⟨P, x, rfl, G, vx, fun q hq => ⟨_, put_same, ?_⟩⟩
        have O := O.add (o := .lst ((nx P x).map spD)) hq
        refine for_pre (f := spD) (fun l δ S2 => ∃ (v8 : Option D) (R' : List Spt) (f' : Spt → D), δ = [some (pgD P), some (.ref a), some (.ref b), some (.ref c), some (.ref pc), some (.ref pr), some (spD x), some (.int ((at_ : Nat) + 1)), v8] ∧
          Own S S2 [(pc, .dT (dm spD R' f')), (pr, .lst (R'.map spD)), (q, .lst ((nx P x).map spD))] ∧ Bfs P st ba R' f' ∧ (∃ e, R' = R ++ e) ∧ ∀ y ∈ l, y ∈ R') (nx P x) ⟨_, R, f, rfl, O, B, ⟨[], by simp⟩, (fun x h => nomatch h)⟩
          (fun l δ S2 ⟨_, _, _, _, O, _⟩ => O.at 2) ?_ ?_
        · rintro l y r δ S2 e ⟨v8, R', f', rfl, O, B', ⟨e1, he1⟩, hl⟩ k hk
          have hy : y ∈ nx P x := by rw [e]; simp
          refine ⟨pc, _, rfl, .inl (O.at 0), rfl, kok_sp y 5, itB (fun h4 => ?_) (fun h4 => ?_)⟩
          · have hn : y ∉ R' := (hasT_sp rfl).mp h4
            have hx' : R'[at_]? = some x := by rw [he1, List.getElem?_append_left hlt]; exact hx
            have B2 := B'.put (f := f') hn (nx_vld G vx hy) (.inr ⟨at_, x, by rw [he1, List.length_append]; omega, hx', rfl, hnb, hy⟩)
            have fw' := B'.few G
            refine ⟨pc, _, rfl, O.at 0, rfl, kok_sp y 5, by rw [dm_len]; omega, ?_⟩
            rw [putT_dm inj_sp, if_neg hn]
            have O := O.set (o' := .dT (dm spD (R' ++ [y]) (upd1 f' y (spD x)))) 0
            refine ⟨⟨pr, _, rfl, O.at 1⟩, _, O.at 1, by rw [List.length_map]; omega, hk _ _ ⟨_, _, _, rfl, ?_, B2, ⟨e1 ++ [y], by rw [he1, List.append_assoc]⟩, ?_⟩⟩
            · rw [snoc_map]
              exact O.set 1
            · intro z hz
              rcases List.mem_append.1 hz with hz | hz
              · exact List.mem_append_left _ (hl z hz)
              · exact List.mem_append_right _ hz
          · have hn : y ∈ R' := by
              refine Classical.byContradiction fun q => ?_
              have := (hasT_sp (f := f') rfl).mpr q
              rw [h4] at this
              cases this
            refine hk _ _ ⟨_, R', f', rfl, O, B', ⟨e1, he1⟩, fun z hz => ?_⟩
            rcases List.mem_append.1 hz with hz | hz
            · exact hl z hz
            · rw [List.mem_singleton.mp hz]; exact hn
        · rintro δ S2 ⟨v8, R', f', rfl, O, B', ⟨e1, he1⟩, hl⟩
          refine ⟨163 - (at_ + 1), by omega, _, _, at_ + 1, R', f', rfl, O.keep (List.sublist_append_left [_, _] [_]), B', fun y hy => by rw [he1]; exact List.mem_append_left _ (sR y hy), by rw [he1, List.length_append]; omega, rfl, fun i y hi hy => ?_⟩
          rw [he1, List.getElem?_append_left (by omega)] at hy
          by_cases hia : i < at_
          · obtain ⟨d1, d2⟩ := dn i y hia hy
            exact ⟨d1, fun h t ht => by rw [he1]; exact List.mem_append_left _ (d2 h t ht)⟩
          · obtain rfl : i = at_ := by omega
            rw [hx] at hy
            cases hy
            exact ⟨h2, fun _ t ht => hl t ht⟩
      · rw [bne_t (any_sp ba x)] at h3
        have hb2 : x ∈ ba := by simpa using h3
        refine ⟨163 - (at_ + 1), by omega, _, _, at_ + 1, R, f, rfl, O, B, sR, by omega, rfl, fun i y hi hy => ?_⟩
        by_cases hia : i < at_
        · exact dn i y hia hy
        · obtain rfl : i = at_ := by omega
          rw [hx] at hy
          cases hy
          exact ⟨h2, fun h => absurd hb2 h⟩
  · rw [decide_eq_false_iff_not, List.length_map] at h
    have hat : at_ = R.length := by omega
    refine ⟨S, O.sub, hN fun r s hp => ?_⟩
    have all : ∀ x, x ∈ R → x ∉ go ∧ (x ∉ ba → ∀ t ∈ nx P x, t ∈ R) := fun x hx => by
      obtain ⟨i, hi⟩ := List.getElem?_of_mem hx
      exact dn i x (by rw [hat]; exact (List.getElem?_eq_some_iff.mp hi).1) hi
    have : s ∈ R := by
      induction hp with
      | one h => exact sR _ h
      | more _ h1 h2 ih => exact (all _ ih).2 h1 _ h2
    exact (all s this).1

theorem Pth.mono {P : Pg} {st st' bar bar' : Spt → Prop} (h1 : ∀ x, st x → st' x) (h2 : ∀ x, bar' x → bar x) {r : List Spt} {s : Spt} (h : Pth P st bar r s) : Pth P st' bar' r s := by
  induction h with
  | one h => exact .one (h1 _ h)
  | more _ a b ih => exact .more ih (fun z => a (h2 _ z)) b
theorem Reach.pth {P : Pg} {s : Spt} (h : Reach P s) : ∃ r, Pth P (· = fst_) (fun _ => False) r s := by
  induction h with
  | fst => exact ⟨_, .one rfl⟩
  | step _ h ih =>
    obtain ⟨r, hr⟩ := ih
    exact ⟨_, .more hr (fun z => z) h⟩
theorem k_run_to : Keeps 2 2 (b_run_to p_road p_first_spot) p_run_to := by
  refine ⟨fun ds S Q ⟨P, s, h, _⟩ => by rw [h]; rfl, fun ds S Q ⟨P, s, h, G, hr, hQ⟩ => ?_⟩
  subst h
  refine ⟨rfl, Nat.le_of_ble_eq_true rfl, fun n1 h1 => ⟨Nat.le_of_ble_eq_true rfl, fun n2 h2 => ⟨Nat.zero_le _, fun n3 h3 => ?_⟩⟩⟩
  have O := (((Own.start S).add (o := .lst [spD fst_]) h1).add (o := .lst [spD s]) h2).add (o := .lst []) h3
  refine ⟨P, n1, n2, n3, [fst_], [s], [], rfl, G, O.at 0, O.at 1, O.at 2, fun x hx => ?_, fun hN => ?_, fun r x hp hx hl p hp2 => ?_⟩
  · rw [List.mem_singleton.mp hx]; exact vld_fst
  · obtain ⟨r, hr⟩ := hr.pth
    exact absurd List.mem_cons_self (hN r s (hr.mono (fun x h => by rw [h]; exact List.mem_cons_self) (fun x h => nomatch h)))
  · obtain rfl := List.mem_singleton.mp hx
    refine ⟨_, (O.add (o := .lst (r.map spD)) hp2).put_sub 3, hQ r (hp.mono (fun x h => List.mem_singleton.mp h) fun x h => h.elim) hl p (O.fresh hp2)⟩
theorem k_growing_round : Keeps 8 3 (b_growing_round p_spots_at p_makings p_road p_next_spots) p_growing_round := by
  refine ⟨fun ds S Q ⟨P, M, a, w, h, _⟩ => by rw [h]; rfl, fun ds S Q ⟨P, M, a, w, h, G, hS, hl, hN, hR⟩ => ?_⟩
  subst h
  refine ⟨_, hS, ?_⟩
  refine lc_pure (f := mnD) (· = S) (fun m => if decide (m.1 = w) = true then some (plD m.2) else none) M [] S _ rfl (fun S' e => by rw [e]; exact hS) (by simpa using Nat.le_trans hl (by decide)) ?_ ?_
  · rintro m hm S' rfl k1 k2 hk
    refine ⟨rfl, rfl, .inl ⟨rfl, itB (fun h => ?_) (fun h => ?_)⟩⟩
    · rw [bne_f (str_eqb _ _)] at h
      rw [if_pos h] at hk
      exact hk _ rfl
    · rw [bne_f (str_eqb _ _)] at h
      rw [if_neg (by rw [h]; simp)] at hk
      exact hk _ rfl
  rintro S' rfl q hq
  rw [List.nil_append, fm_filter]
  have O := (Own.start S').add (o := .lst ((M.filter fun m : Str × Nat × Nat => decide (m.1 = w)).map fun m : Str × Nat × Nat => plD m.2)) hq
  refine ⟨P, q, (M.filter fun m => decide (m.1 = w)).map (·.2), rfl, G, by rw [List.map_map]; exact put_same, fun L hL p hp => ?_⟩
  have O := O.add (o := .lst (L.map spD)) hp
  have eL : (fun x => x ∈ L) = fun x => Reach P x ∧ w ∈ gv M x := by
    funext x
    rw [hL x, mem_gv, List.mem_map]
    refine propext ⟨fun ⟨h1, h2, m, hm, e⟩ => ⟨h1, h2, ?_⟩, fun ⟨h1, h2, hm⟩ => ⟨h1, h2, _, List.mem_filter.mpr ⟨hm, by simp⟩, rfl⟩⟩
    obtain ⟨m1, m2⟩ := List.mem_filter.mp hm
    have m2 := of_decide_eq_true m2
    obtain ⟨x1, x2⟩ := m
    dsimp only at e m2
    rw [← e, ← m2]
    exact m1
  refine ⟨P, w, rfl, G, fun L2 hL2 few pm hpm => ⟨_, put_same, ?_⟩⟩
  have O := O.add (o := .lst (L2.map spD)) hpm
  refine for_pre (f := spD) (fun l δ S2 => ∃ v4 v5 : Option D, δ = [some (pgD P), some (.ref a), some (.str w), some (.ref p), v4, v5, none, none] ∧
    Own S' S2 [(q, .lst ((M.filter fun m : Str × Nat × Nat => decide (m.1 = w)).map fun m : Str × Nat × Nat => plD m.2)), (p, .lst (L.map spD)), (pm, .lst (L2.map spD))] ∧ ∀ s ∈ l, ∀ r, ¬ Round P M w s r) L2 ⟨_, _, rfl, O, fun x h => nomatch h⟩ (fun l δ S2 ⟨_, _, _, O, _⟩ => O.at 2) ?_ ?_
  · rintro l s r δ S2 e ⟨v4, v5, rfl, O, no⟩ k hk
    obtain ⟨hs1, hs2⟩ := (hL2 s).mp (by rw [e]; simp)
    have vs := hs1.vld G
    have go : (∀ r, ¬ Round P M w s r) → ∀ x ∈ l ++ [s], ∀ r, ¬ Round P M w x r := fun h x hx => by
      rcases List.mem_append.1 hx with hx | hx
      · exact no x hx
      · rw [List.mem_singleton.mp hx]; exact h
    refine ⟨_, O.at 1, .inr ⟨ok_sp60 s, all_sp L⟩, itB (fun h => ?_) (fun h => ?_)⟩
    · rw [bne_t (any_sp L s)] at h
      have hn : s ∉ L := by simpa using h
      have hn' : w ∉ gv M s := fun z => hn (by
        have := congrFun eL s
        exact this.mpr ⟨hs1, z⟩)
      refine ⟨P, s, rfl, G, vs, fun n1 h1 => ⟨Nat.le_of_ble_eq_true rfl, fun n2 h2 => ?_⟩⟩
      have O2 := (O.add (o := .lst ((nx P s).map spD)) h1).add (o := .lst [spD s]) h2
      refine ⟨P, n1, n2, p, nx P s, [s], L, rfl, G, O2.at 3, O2.at 4, O2.at 1, fun x hx => nx_vld G vs hx, fun hno => ?_, fun r x hp2 hx hlr p2 hp2' => ?_⟩
      · refine hk _ _ ⟨_, _, rfl, O2.keep (List.sublist_append_left [_, _, _] [_, _]), go fun r hr => ?_⟩
        have := hr.2.2.2
        rw [← eL] at this
        exact hno r s this List.mem_cons_self
      · obtain rfl := List.mem_singleton.mp hx
        rw [eL] at hp2
        have O3 := O2.add (o := .lst (r.map spD)) hp2'
        refine ⟨Nat.le_of_ble_eq_true rfl, fun n3 h3 => ?_⟩
        have O4 := O3.add (o := .lst [spD x]) h3
        refine ⟨[spD x], r.map spD, O4.at 6, O4.at 5, by rw [List.length_map, List.length_singleton]; omega, fun n4 h4 => ?_⟩
        exact ⟨_, (O4.add (o := .lst ([spD x] ++ r.map spD)) h4).put_sub 7, hR x r ⟨hs1, hs2, hn', hp2⟩ hlr n4 (O4.fresh h4)⟩
    · rw [bne_t (any_sp L s)] at h
      have hn : s ∈ L := by simpa using h
      have hg : w ∈ gv M s := by
        have := congrFun eL s
        exact (this.mp hn).2
      exact hk _ _ ⟨_, _, rfl, O, go fun r hr => hr.2.2.1 hg⟩
  · rintro δ S2 ⟨v4, v5, rfl, O, no⟩
    exact ⟨S', O.sub, hN fun s r hr => no s ((hL2 s).mpr ⟨hr.1, hr.2.1⟩) r hr⟩
end L3
end
section
set_option maxRecDepth 10000
set_option maxHeartbeats 4200000
/-! L4Words: the words of a program. -/
namespace L3
open PyProof.Rows PySem.Spec PySem
theorem lt_tri : ∀ a b : List Nat, ltCps a b = false → ltCps b a = false → a = b
  | [], [], _, _ => rfl
  | [], _ :: _, h, _ => by simp [ltCps] at h
  | _ :: _, [], _, h => by simp [ltCps] at h
  | a :: r, b :: t, h1, h2 => by
    simp only [ltCps, Bool.or_eq_false_iff, decide_eq_false_iff_not, Bool.and_eq_false_iff, beq_eq_false_iff_ne] at h1 h2
    have e : a = b := by omega
    subst e
    rw [lt_tri r t (h1.2.resolve_left (fun z => z rfl)) (h2.2.resolve_left (fun z => z rfl))]
theorem lt_tr : ∀ a b c : List Nat, ltCps a b = true → ltCps b c = true → ltCps a c = true
  | [], _, [], h1, h2 => by
    rename_i b
    cases b <;> simp [ltCps] at h1 h2
  | [], _, _ :: _, _, _ => rfl
  | _ :: _, [], _, h1, _ => by simp [ltCps] at h1
  | _ :: _, _ :: _, [], _, h2 => by simp [ltCps] at h2
  | a :: r, b :: t, c :: u, h1, h2 => by
    simp only [ltCps, Bool.or_eq_true, decide_eq_true_eq, Bool.and_eq_true, beq_iff_eq] at h1 h2 ⊢
    rcases h1 with h1 | ⟨h1, k1⟩
    · rcases h2 with h2 | ⟨h2, k2⟩
      · exact .inl (by omega)
      · exact .inl (by omega)
    · rcases h2 with h2 | ⟨h2, k2⟩
      · exact .inl (by omega)
      · exact .inr ⟨by omega, lt_tr r t u k1 k2⟩
def leS (x y : Str) : Prop := ltCps y.cps.toList x.cps.toList = false
theorem leS_trans {x y z : Str} (h1 : leS x y) (h2 : leS y z) : leS x z := by
  unfold leS at *
  cases c : ltCps z.cps.toList x.cps.toList with
  | false => rfl
  | true =>
    cases d : ltCps x.cps.toList y.cps.toList with
    | false =>
      rw [lt_tri _ _ d h1, h2] at c
      exact c.symm
    | true =>
      rw [lt_tr _ _ _ c d] at h2
      exact h2
theorem leS_anti {x y : Str} (h1 : leS x y) (h2 : leS y x) : x = y := by
  have e := lt_tri _ _ h2 h1
  obtain ⟨a⟩ := x
  obtain ⟨b⟩ := y
  exact congrArg Str.mk (Array.toList_inj.mp e)
theorem rising_pw : ∀ (l : List Str) (x : Str), risingS x l = true → (x :: l).Pairwise leS
  | [], x, _ => List.pairwise_singleton ..
  | y :: l, x, h => by
    simp only [risingS, Bool.and_eq_true, Bool.not_eq_true'] at h
    have ih := rising_pw l y h.2
    refine List.pairwise_cons.mpr ⟨fun z hz => ?_, ih⟩
    rcases List.mem_cons.1 hz with e | hz
    · rw [e]; exact h.1
    · exact leS_trans h.1 ((List.pairwise_cons.mp ih).1 z hz)
theorem sorted_pw {l : List Str} (h : sortedS l = true) : l.Pairwise leS := by
  cases l with
  | nil => exact List.Pairwise.nil
  | cons x l => exact rising_pw l x h
theorem sorted_one : ∀ {l m : List Str}, l.Pairwise leS → m.Pairwise leS → l.Nodup → m.Nodup → (∀ x, x ∈ l ↔ x ∈ m) → l = m
  | [], [], _, _, _, _, _ => (rfl)
  | [], y :: m, _, _, _, _, h => absurd ((h y).mpr List.mem_cons_self) (by simp)
  | x :: l, [], _, _, _, _, h => absurd ((h x).mp List.mem_cons_self) (by simp)
  | x :: l, y :: m, pl, pm, nl, nm, h => by
    obtain ⟨p1, p2⟩ := List.pairwise_cons.mp pl
    obtain ⟨q1, q2⟩ := List.pairwise_cons.mp pm
    obtain ⟨n1, n2⟩ := List.nodup_cons.mp nl
    obtain ⟨m1, m2⟩ := List.nodup_cons.mp nm
    have e : x = y := by
      rcases List.mem_cons.mp ((h x).mp List.mem_cons_self) with a | a
      · exact a
      rcases List.mem_cons.mp ((h y).mpr List.mem_cons_self) with b | b
      · exact b.symm
      exact leS_anti (p1 y b) (q1 x a)
    subst e
    rw [sorted_one p2 q2 n2 m2 fun z => ?_]
    constructor
    · intro hz
      rcases List.mem_cons.mp ((h z).mp (List.mem_cons_of_mem _ hz)) with e | hz'
      · exact absurd (e ▸ hz) n1
      · exact hz'
    · intro hz
      rcases List.mem_cons.mp ((h z).mpr (List.mem_cons_of_mem _ hz)) with e | hz'
      · exact absurd (e ▸ hz) m1
      · exact hz'
/-- w is a pair's word -/
def Wd (P : Pg) (w : Str) : Prop := ∃ (i j : Nat) (l : Ln), (lines P i)[j]? = some l ∧ l.word = some w
structure IsWords (P : Pg) (ys : List Str) : Prop where
  nd : ys.Nodup
  mem : ∀ w, w ∈ ys ↔ Wd P w
  up : sortedS ys = true
theorem IsWords.one {P : Pg} {ys zs : List Str} (a : IsWords P ys) (b : IsWords P zs) : ys = zs := sorted_one (sorted_pw a.up) (sorted_pw b.up) a.nd b.nd fun x => (a.mem x).trans (b.mem x).symm
theorem IsWords.few {P : Pg} (G : Good P) {ys : List Str} (a : IsWords P ys) : ys.length ≤ 3 ∧ ∀ w ∈ ys, PyData.strOk w = true := by
  obtain ⟨ws, hl, h⟩ := G.tx
  refine ⟨Nat.le_trans (nodup_le a.nd fun x hx => ?_) hl, fun x hx => ?_⟩
  · obtain ⟨i, j, l, h1, h2⟩ := (a.mem x).mp hx
    exact (h i j l x h1 h2).1
  · obtain ⟨i, j, l, h1, h2⟩ := (a.mem x).mp hx
    exact (h i j l x h1 h2).2
def lnsOf (P : Pg) : List Ln := P.flatMap (·.2)
theorem lines_at {P : Pg} {i : Nat} {p : Str × List Ln} (h : P[i]? = some p) : lines P i = p.2 := by unfold lines; rw [h]; rfl
theorem mem_lns {P : Pg} {l : Ln} : l ∈ lnsOf P ↔ ∃ (i j : Nat), (lines P i)[j]? = some l := by
  unfold lnsOf
  rw [List.mem_flatMap]
  constructor
  · rintro ⟨p, hp, hl⟩
    obtain ⟨i, hi⟩ := List.getElem?_of_mem hp
    obtain ⟨j, hj⟩ := List.getElem?_of_mem hl
    exact ⟨i, j, by rw [lines_at hi]; exact hj⟩
  · rintro ⟨i, j, h⟩
    cases e : P[i]? with
    | none =>
      unfold lines at h
      rw [e] at h
      simp at h
    | some p =>
      rw [lines_at e] at h
      exact ⟨p, List.mem_of_getElem? e, List.mem_of_getElem? h⟩
theorem lns_len {P : Pg} (G : Good P) : (lnsOf P).length ≤ 16 := by
  have b : ∀ p ∈ P, p.2.length ≤ 8 := fun p hp => by
    obtain ⟨i, hi⟩ := List.getElem?_of_mem hp
    have := G.bd i
    rw [lines_at hi] at this
    exact this
  unfold lnsOf
  match P, G.len, b with
  | [p], _, b =>
    have := b p List.mem_cons_self
    simp only [List.flatMap_cons, List.flatMap_nil, List.append_nil]
    omega
  | [p, q], _, b =>
    have := b p List.mem_cons_self
    have := b q (List.mem_cons_of_mem _ List.mem_cons_self)
    simp only [List.flatMap_cons, List.flatMap_nil, List.append_nil, List.length_append]
    omega
  | [], h, _ => rcases h with h | h <;> cases h
  | _ :: _ :: _ :: _, h, _ => rcases h with h | h <;> cases h
def p_all_lines : F3 := fun ds S Q => ∃ P : Pg, ds = [pgD P] ∧ Good P ∧ ∀ p, S p = none → Q (.ref p) (S.put p (.lst ((lnsOf P).map lnD)))
def p_words_of : F3 := fun ds S Q => ∃ P : Pg, ds = [pgD P] ∧ Good P ∧ ∀ ys, IsWords P ys → ∀ p, S p = none → Q (.ref p) (S.put p (.lst (ys.map D.str)))
theorem k_all_lines : Keeps 3 1 b_all_lines p_all_lines := by
  refine ⟨fun ds S Q ⟨P, h, _⟩ => by rw [h]; rfl, fun ds S Q ⟨P, h, G, hQ⟩ => ?_⟩
  subst h
  refine ⟨Nat.zero_le _, fun pf hf => ?_⟩
  have O := (Own.start S).add (o := .lst []) hf
  refine for_pre (f := ptD) (fun l δ S' => ∃ v2 : Option D, δ = [some (pgD P), some (.ref pf), v2] ∧ Own S S' [(pf, .lst ((lnsOf l).map lnD))]) P ⟨_, rfl, O⟩ (fun l δ S' _ => trivial) ?_ ?_
  · rintro l x r δ S' e ⟨v2, rfl, O⟩ k hk
    have hl : (lnsOf l).length + x.2.length ≤ 16 := by
      have := lns_len G
      unfold lnsOf at this ⊢
      rw [e, List.flatMap_append, List.flatMap_cons, List.length_append, List.length_append] at this
      omega
    refine ⟨⟨pf, _, rfl, O.at 0⟩, _, rfl, _, O.at 0, by rw [List.length_map, List.length_map]; omega, hk _ _ ⟨_, rfl, ?_⟩⟩
    have e2 : (lnsOf l).map lnD ++ x.2.map lnD = (lnsOf (l ++ [x])).map lnD := by
      unfold lnsOf
      rw [List.flatMap_append, List.map_append]
      simp
    rw [e2]
    exact O.set 0
  · rintro δ S' ⟨v2, rfl, O⟩
    exact ⟨_, O.put_sub 0, hQ pf hf⟩
theorem hasK_map (ks : List Str) (f : Str → D) (k : Str) : hasK (ks.map fun x => (x, f x)) k = decide (k ∈ ks) := by
  unfold hasK; rw [Bool.eq_iff_iff, List.any_eq_true, decide_eq_true_eq]
  constructor
  · rintro ⟨z, hz, e⟩
    obtain ⟨y, hy, rfl⟩ := List.mem_map.mp hz
    have e' : y = k := of_decide_eq_true e
    exact e' ▸ hy
  · intro h
    exact ⟨_, List.mem_map.mpr ⟨k, h, rfl⟩, by simp⟩
theorem putK_map (ks : List Str) (k : Str) : putK (ks.map fun x => (x, D.bl true)) k (.bl true) = (if k ∈ ks then ks else ks ++ [k]).map fun x => (x, D.bl true) := by
  unfold putK
  rw [hasK_map]
  by_cases h : k ∈ ks
  · rw [if_pos (by simpa using h), if_pos h, List.map_map]
    refine List.map_congr_left fun x _ => ?_; show (if x = k then (x, D.bl true) else (x, D.bl true)) = (x, D.bl true)
    split <;> rfl
  · rw [if_neg (by simpa using h), if_neg h, List.map_append]
    rfl
theorem k_words_of : Keeps 3 1 (b_words_of p_all_lines) p_words_of := by
  refine ⟨fun ds S Q ⟨P, h, _⟩ => by rw [h]; rfl, fun ds S Q ⟨P, h, G, hQ⟩ => ?_⟩
  subst h
  intro pf hf
  have O := (Own.start S).add (o := .dK []) hf
  refine ⟨P, rfl, G, fun q hq => ⟨_, put_same, ?_⟩⟩
  have O := O.add (o := .lst ((lnsOf P).map lnD)) hq
  refine for_pre (f := lnD) (fun l δ S' => ∃ (v2 : Option D) (ks : List Str), δ = [some (pgD P), some (.ref pf), v2] ∧ Own S S' [(pf, .dK (ks.map fun x => (x, D.bl true))), (q, .lst ((lnsOf P).map lnD))] ∧ ks.Nodup ∧ ks.length ≤ l.length ∧ ∀ w, w ∈ ks ↔ ∃ x ∈ l, x.word = some w)
    (lnsOf P) ⟨_, [], rfl, O, List.nodup_nil, Nat.le_refl _, fun w => by simp⟩ (fun l δ S' ⟨_, _, _, O, _⟩ => O.at 1) ?_ ?_
  · rintro l x r δ S' e ⟨v2, ks, rfl, O, nd, hl, hm⟩ k hk
    have ll : l.length < 16 := by
      have := lns_len G
      rw [e, List.length_append, List.length_cons] at this
      omega
    refine ⟨_, at0, .inl ⟨rfl, itB (fun h => ?_) (fun h => ?_)⟩⟩
    · rw [bne_f (eqb_pair x)] at h
      obtain ⟨w, h1, h2⟩ := word_pair h
      refine ⟨_, h2, pf, _, _, rfl, rfl, O.at 0, by rw [List.length_map]; omega, ?_⟩
      rw [putK_map]
      refine hk _ _ ⟨_, _, rfl, O.set 0, ?_, ?_, fun z => ?_⟩
      · split
        · exact nd
        · rename_i hn
          exact nodup_snoc nd hn
      · split
        · rw [List.length_append]; omega
        · rw [List.length_append, List.length_append, List.length_singleton, List.length_singleton]; omega
      · have : (∃ y ∈ l ++ [x], y.word = some z) ↔ (z ∈ ks ∨ z = w) := by
          rw [hm z]
          constructor
          · rintro ⟨y, hy, hz⟩
            rcases List.mem_append.1 hy with hy | hy
            · exact .inl ⟨y, hy, hz⟩
            · rw [List.mem_singleton.mp hy, h1] at hz
              exact .inr (Option.some.inj hz).symm
          · rintro (⟨y, hy, hz⟩ | rfl)
            · exact ⟨y, List.mem_append_left _ hy, hz⟩
            · exact ⟨x, by simp, h1⟩
        rw [this]
        split
        · rename_i hin
          constructor
          · exact .inl
          · rintro (h | rfl)
            · exact h
            · exact hin
        · rw [List.mem_append, List.mem_singleton]
    · rw [bne_f (eqb_pair x)] at h
      refine hk _ _ ⟨_, ks, rfl, O, nd, by rw [List.length_append]; omega, fun z => ?_⟩
      rw [hm z]
      constructor
      · rintro ⟨y, hy, hz⟩
        exact ⟨y, List.mem_append_left _ hy, hz⟩
      · rintro ⟨y, hy, hz⟩
        rcases List.mem_append.1 hy with hy | hy
        · exact ⟨y, hy, hz⟩
        · rw [List.mem_singleton.mp hy, word_none h] at hz
          cases hz
  · rintro δ S' ⟨v2, ks, rfl, O, nd, hl, hm⟩
    have := lns_len G
    refine ⟨_, O.at 0, by rw [List.length_map]; omega, fun ys pm up p hp => ?_⟩
    rw [List.map_map] at pm
    have pm' : ys.Perm ks := by
      have e : ks.map ((fun kv : Str × D => kv.1) ∘ fun x => (x, D.bl true)) = ks := List.map_id' ks
      rw [e] at pm
      exact pm
    refine ⟨_, (O.add (o := .lst (ys.map D.str)) hp).put_sub 2, hQ ys ⟨pm'.nodup_iff.mpr nd, fun w => ?_, up⟩ p (O.fresh hp)⟩
    rw [pm'.mem_iff, hm w]
    constructor
    · rintro ⟨x, hx, hw⟩
      obtain ⟨i, j, h⟩ := mem_lns.mp hx
      exact ⟨i, j, x, h, hw⟩
    · rintro ⟨i, j, x, h, hw⟩
      exact ⟨x, mem_lns.mpr ⟨i, j, h⟩, hw⟩
end L3
end
section
set_option maxRecDepth 10000
set_option maxHeartbeats 4200000
/-! L4Ahead: the spots ahead, what is given at them. -/
namespace L3
open PySem
section
variable {κ : Type} [DecidableEq κ] {S S' : Sto} {ps : List (Addr × AO)} {L : List κ} {A : κ → Addr} {F : κ → AO}
/-- a family of objects: one of them changed -/
theorem Own.setF (O : Own S S' (ps ++ L.map fun s => (A s, F s))) {s : κ} (hs : s ∈ L) (o : AO) (nd : L.Nodup) : Own S (S'.put (A s) o) (ps ++ L.map fun x => (A x, upd1 F s o x)) := by
  have e : (ps ++ L.map fun x => (A x, upd1 F s o x)).map (·.1) = (ps ++ L.map fun s => (A s, F s)).map (·.1) := by
    rw [List.map_append, List.map_append, List.map_map, List.map_map]
    rfl
  have ndA := O.nd
  rw [List.map_append, List.map_map] at ndA
  have n2 := (List.nodup_append.mp ndA)
  have injA : ∀ x ∈ L, A x = A s → x = s := fun x hx q => by
    obtain ⟨i, hi⟩ := List.getElem?_of_mem hx
    obtain ⟨j, hj⟩ := List.getElem?_of_mem hs
    have a1 : (L.map A)[i]? = some (A s) := by rw [List.getElem?_map, hi]; show some (A x) = _; rw [q]
    have a2 : (L.map A)[j]? = some (A s) := by rw [List.getElem?_map, hj]; rfl
    have ndL : (L.map A).Nodup := n2.2.1
    have := (List.getElem?_inj (List.getElem?_eq_some_iff.mp a1).1 ndL).mp (a1.trans a2.symm)
    rw [this, hj] at hi
    exact (Option.some.inj hi).symm
  refine ⟨O.sub.putN (O.none (A s, F s) (List.mem_append_right _ (List.mem_map.mpr ⟨s, hs, rfl⟩))), fun x hx => ?_, fun x hx => ?_, by rw [e]; exact O.nd⟩
  · rcases List.mem_append.1 hx with hx | hx
    · exact O.none x (List.mem_append_left _ hx)
    · obtain ⟨y, hy, rfl⟩ := List.mem_map.mp hx
      exact O.none (A y, F y) (List.mem_append_right _ (List.mem_map.mpr ⟨y, hy, rfl⟩))
  · rcases List.mem_append.1 hx with hx | hx
    · have ne : x.1 ≠ A s := fun q => n2.2.2 x.1 (List.mem_map.mpr ⟨x, hx, rfl⟩) (A s) (List.mem_map.mpr ⟨s, hs, rfl⟩) q
      exact (put_ne ne).trans (O.at_ x (List.mem_append_left _ hx))
    · obtain ⟨y, hy, rfl⟩ := List.mem_map.mp hx
      by_cases q : y = s
      · subst q
        show S'.put (A y) o (A y) = some (upd1 F y o y)
        rw [upd1_same]
        exact put_same
      · show S'.put (A s) o (A y) = some (upd1 F s o y)
        rw [upd1_ne q]
        exact (put_ne fun z => q (injA y hy z)).trans (O.at_ (A y, F y) (List.mem_append_right _ (List.mem_map.mpr ⟨y, hy, rfl⟩)))
/-- the ones ahead of the family -/
theorem Own.setL {F : List (Addr × AO)} (O : Own S S' (ps ++ F)) (i : Nat) {a : Addr} {o o' : AO} (h : ps[i]? = some (a, o) := by rfl) : Own S (S'.put a o') (ps.set i (a, o') ++ F) := by
  have hi : i < ps.length := (List.getElem?_eq_some_iff.mp h).1
  have q := O.set (o' := o') i (by rw [List.getElem?_append_left hi]; exact h)
  rw [List.set_append_left _ _ hi] at q
  exact q
/-- a family of objects: one more -/
theorem Own.addF (O : Own S S' (ps ++ L.map fun s => (A s, F s))) {s : κ} (hs : s ∉ L) {q : Addr} {o : AO} (hq : S' q = Option.none) : Own S (S'.put q o) (ps ++ (L ++ [s]).map fun x => (upd1 A s q x, upd1 F s o x)) := by
  have e : (ps ++ (L ++ [s]).map fun x => (upd1 A s q x, upd1 F s o x)) = (ps ++ L.map fun s => (A s, F s)) ++ [(q, o)] := by
    rw [List.map_append, ← List.append_assoc]
    congr 1
    · congr 1
      refine List.map_congr_left fun x hx => ?_
      have ne : x ≠ s := fun z => hs (z ▸ hx)
      rw [upd1_ne ne, upd1_ne ne]
    · show [(upd1 A s q s, upd1 F s o s)] = _
      rw [upd1_same, upd1_same]
  rw [e]
  exact O.add hq
theorem Own.atF (O : Own S S' (ps ++ L.map fun s => (A s, F s))) {s : κ} (hs : s ∈ L) : S' (A s) = some (F s) := O.at_ (A s, F s) (List.mem_append_right _ (List.mem_map.mpr ⟨s, hs, rfl⟩))
end
structure Ahd (P : Pg) (S : Sto) (a : Addr) (L : List Spt) (A : Spt → Addr) (pr : Spt → List Spt) : Prop where
  at_ : S a = some (.dT (dm spD L fun s => .ref (A s)))
  mem : ∀ s, s ∈ L ↔ Reach P s
  nd : L.Nodup
  few : L.length ≤ 162
  lst : ∀ s ∈ L, S (A s) = some (.lst ((pr s).map spD))
  pre : ∀ s ∈ L, ∀ t, t ∈ pr s ↔ Reach P t ∧ s ∈ nx P t
  sz : ∀ s ∈ L, (pr s).length ≤ 324
theorem Ahd.sub {P : Pg} {S S' : Sto} {a : Addr} {L : List Spt} {A : Spt → Addr} {pr : Spt → List Spt} (h : Ahd P S a L A pr) (k : Sub S S') : Ahd P S' a L A pr :=
  ⟨k _ _ h.at_, h.mem, h.nd, h.few, fun s hs => k _ _ (h.lst s hs), h.pre, h.sz⟩
structure Gon (P : Pg) (M : Mn) (S : Sto) (a : Addr) (L : List Spt) (A : Spt → Addr) : Prop where
  at_ : S a = some (.dT (dm spD L fun s => .ref (A s)))
  mem : ∀ s, s ∈ L ↔ Reach P s
  lst : ∀ s ∈ L, S (A s) = some (.lst ((gv M s).map D.str))
theorem Gon.sub {P : Pg} {M : Mn} {S S' : Sto} {a : Addr} {L : List Spt} {A : Spt → Addr} (h : Gon P M S a L A) (k : Sub S S') : Gon P M S' a L A := ⟨k _ _ h.at_, h.mem, fun s hs => k _ _ (h.lst s hs)⟩
def p_spots_ahead : F3 := fun ds S Q => ∃ P : Pg, ds = [pgD P] ∧ Good P ∧ ∀ S' a L A pr, Sub S S' → S a = none → Ahd P S' a L A pr → Q (.ref a) S'
def p_givings : F3 := fun ds S Q => ∃ (P : Pg) (M : Mn) (m : Addr), ds = [pgD P, .ref m] ∧ Good P ∧ S m = some (.lst (M.map mnD)) ∧ M.length ≤ 1000 ∧ ∀ S' a L A, Sub S S' → S a = none → Gon P M S' a L A → Q (.ref a) S'
theorem dm_snoc {κ : Type} [DecidableEq κ] {enc : κ → D} (h : Inj enc) {l : List κ} {A : κ → Addr} {s : κ} {n : Addr} (hs : s ∉ l) :
    putT (dm enc l fun x => .ref (A x)) (enc s) (.ref n) = dm enc (l ++ [s]) fun x => .ref (upd1 A s n x) := by
  rw [putT_dm h, if_neg hs]
  refine dm_congr fun x _ => ?_
  unfold upd1
  split <;> rfl
theorem nodup_mid {α : Type} {L l r : List α} {x : α} (nd : L.Nodup) (e : L = l ++ x :: r) : x ∉ l := fun hx => by
  rw [e] at nd
  exact (List.nodup_append.mp nd).2.2 x hx x List.mem_cons_self rfl
theorem k_givings : Keeps 4 2 (b_givings p_spots p_given_at) p_givings := by
  refine ⟨fun ds S Q ⟨P, M, m, h, _⟩ => by rw [h]; rfl, fun ds S Q ⟨P, M, m, h, G, hM, hl, hQ⟩ => ?_⟩
  subst h
  intro pd hpd
  have O := (Own.start S).add (o := .dT []) hpd
  refine ⟨P, rfl, G, fun L hL nd few q hq => ⟨_, put_same, ?_⟩⟩
  have O := O.add (o := .lst (L.map spD)) hq
  refine for_pre (f := spD) (fun l δ S' => ∃ (v3 : Option D) (A : Spt → Addr), δ = [some (pgD P), some (.ref m), some (.ref pd), v3] ∧
    Own S S' ([(pd, .dT (dm spD l fun x => .ref (A x))), (q, .lst (L.map spD))] ++ l.map fun s => (A s, .lst ((gv M s).map D.str)))) L ⟨_, fun _ => 0, rfl, O⟩ (fun l δ S' ⟨_, _, _, O⟩ => O.at 1) ?_ ?_
  · rintro l s r δ S' e ⟨v3, A, rfl, O⟩ k hk
    have hs : s ∉ l := nodup_mid nd e
    have ll : l.length ≤ 162 := by
      rw [e, List.length_append] at few
      omega
    refine ⟨M, s, m, rfl, O.old hM, hl, fun n hn => ?_⟩
    have O2 := O.addF hs (o := .lst ((gv M s).map D.str)) hn
    refine ⟨pd, _, rfl, O2.at 0, rfl, kok_sp s 5, by rw [dm_len]; omega, ?_⟩
    rw [dm_snoc inj_sp hs]
    refine hk _ _ ⟨_, upd1 A s n, rfl, ?_⟩
    have O3 := O2.set (o' := .dT (dm spD (l ++ [s]) fun x => .ref (upd1 A s n x))) 0
    have e2 : (fun x : Spt => ((upd1 A s n x, upd1 (fun s => AO.lst ((gv M s).map D.str)) s (.lst ((gv M s).map D.str)) x) : Addr × AO)) = fun x => (upd1 A s n x, .lst ((gv M x).map D.str)) := by
      funext x
      unfold upd1
      split
      · rename_i h
        rw [h]
      · rfl
    rw [e2] at O3
    exact O3
  · rintro δ S' ⟨v3, A, rfl, O⟩
    exact ⟨S', Sub.refl _, hQ S' pd L A O.sub (O.free 0) ⟨O.at 0, hL, fun s hs => O.atF hs⟩⟩
theorem k_spots_ahead : Keeps 4 1 (b_spots_ahead p_spots p_next_spots) p_spots_ahead := by
  refine ⟨fun ds S Q ⟨P, h, _⟩ => by rw [h]; rfl, fun ds S Q ⟨P, h, G, hQ⟩ => ?_⟩
  subst h
  intro pd hpd
  have O := (Own.start S).add (o := .dT []) hpd
  refine ⟨P, rfl, G, fun L hL nd few q hq => ⟨_, put_same, ?_⟩⟩
  have O := O.add (o := .lst (L.map spD)) hq
  refine for_pre (f := spD) (fun l δ S' => ∃ (v2 : Option D) (A : Spt → Addr), δ = [some (pgD P), some (.ref pd), v2, none] ∧
    Own S S' ([(pd, .dT (dm spD l fun x => .ref (A x))), (q, .lst (L.map spD))] ++ l.map fun s => (A s, .lst []))) L ⟨_, fun _ => 0, rfl, O⟩ (fun l δ S' ⟨_, _, _, O⟩ => O.at 1) ?_ ?_
  · rintro l s r δ S' e ⟨v2, A, rfl, O⟩ k hk
    have hs : s ∉ l := nodup_mid nd e
    have ll : l.length ≤ 162 := by
      rw [e, List.length_append] at few
      omega
    refine ⟨Nat.zero_le _, fun n hn => ?_⟩
    have O2 := O.addF hs (o := .lst []) hn
    refine ⟨pd, _, rfl, O2.at 0, rfl, kok_sp s 5, by rw [dm_len]; omega, ?_⟩
    rw [dm_snoc inj_sp hs]
    refine hk _ _ ⟨_, upd1 A s n, rfl, ?_⟩
    have O3 := O2.set (o' := .dT (dm spD (l ++ [s]) fun x => .ref (upd1 A s n x))) 0
    have e2 : (fun x : Spt => ((upd1 A s n x, upd1 (fun _ => AO.lst []) s (.lst []) x) : Addr × AO)) = fun x => (upd1 A s n x, .lst []) := by
      funext x
      unfold upd1
      split <;> rfl
    rw [e2] at O3
    exact O3
  rintro δ S1 ⟨v2, A, rfl, O⟩
  refine ⟨_, O.at 0, fun q2 hq2 => ⟨_, put_same, ?_⟩⟩
  rw [dm_keys]
  have O := O.new (o := .lst (L.map spD)) hq2
  refine for_pre (f := spD) (fun l δ S' => ∃ (v2 v3 : Option D) (pr : Spt → List Spt), δ = [some (pgD P), some (.ref pd), v2, v3] ∧
    Own S S' ([(q2, .lst (L.map spD)), (pd, .dT (dm spD L fun x => .ref (A x))), (q, .lst (L.map spD))] ++ L.map fun s => (A s, .lst ((pr s).map spD))) ∧ ∀ s ∈ L, (∀ t, t ∈ pr s ↔ t ∈ l ∧ s ∈ nx P t) ∧ (pr s).length ≤ 2 * l.length) L
    ⟨_, none, fun _ => [], rfl, O, fun s _ => ⟨fun t => by simp, Nat.le_refl _⟩⟩ (fun l δ S' ⟨_, _, _, _, O, _⟩ => O.at 0) ?_ ?_
  · rintro l t r δ S' e ⟨v2, v3, pr, rfl, O, hpr⟩ k hk
    have ht : Reach P t := (hL t).mp (by rw [e]; simp)
    have htl : t ∉ l := nodup_mid nd e
    have ll : l.length ≤ 162 := by
      rw [e, List.length_append] at few
      omega
    refine ⟨P, t, rfl, G, ht.vld G, fun n hn => ⟨_, put_same, ?_⟩⟩
    have O := O.new (o := .lst ((nx P t).map spD)) hn
    refine for_pre (f := spD) (fun l2 δ S2 => ∃ (v3 : Option D) (pr2 : Spt → List Spt), δ = [some (pgD P), some (.ref pd), some (spD t), v3] ∧
      Own S S2 ([(n, .lst ((nx P t).map spD)), (q2, .lst (L.map spD)), (pd, .dT (dm spD L fun x => .ref (A x))), (q, .lst (L.map spD))] ++ L.map fun s => (A s, .lst ((pr2 s).map spD))) ∧
      ∀ s ∈ L, (∀ u, u ∈ pr2 s ↔ (u ∈ l ∧ s ∈ nx P u) ∨ (u = t ∧ s ∈ l2)) ∧ (pr2 s).length ≤ 2 * l.length + l2.length) (nx P t)
      ⟨_, pr, rfl, O, fun s hs => ⟨fun u => by rw [(hpr s hs).1 u]; simp, (hpr s hs).2⟩⟩ (fun l δ S' ⟨_, _, _, O, _⟩ => O.at 0) ?_ ?_
    · rintro l2 y r2 δ S2 e2 ⟨v3, pr2, rfl, O, hp2⟩ k2 hk2
      have hy : y ∈ L := (hL y).mpr (ht.step (by rw [e2]; simp))
      have l2l : l2.length ≤ 2 := by
        have := nx_len P t
        rw [e2, List.length_append] at this
        omega
      have sz := (hp2 y hy).2
      refine ⟨pd, _, _, rfl, .inl (O.at 2), rfl, kok_sp y 5, getT_dm inj_sp L (fun x => D.ref (A x)) y hy, ⟨A y, _, rfl, O.atF hy⟩, _, O.atF hy, by rw [List.length_map]; omega, ?_⟩
      have O3 := O.setF hy (.lst ((pr2 y).map spD ++ [spD t])) nd
      have e3 : (fun x : Spt => ((A x, upd1 (fun s => AO.lst ((pr2 s).map spD)) y (.lst ((pr2 y).map spD ++ [spD t])) x) : Addr × AO)) = fun x => (A x, .lst ((upd1 pr2 y (pr2 y ++ [t]) x).map spD)) := by
        funext x
        unfold upd1
        split
        · rw [snoc_map]
        · rfl
      rw [e3] at O3
      refine hk2 _ _ ⟨_, upd1 pr2 y (pr2 y ++ [t]), rfl, O3, fun s hs => ?_⟩
      by_cases q : s = y
      · subst q
        rw [upd1_same]
        refine ⟨fun u => ?_, ?_⟩
        · rw [List.mem_append, (hp2 s hs).1 u, List.mem_singleton]
          constructor
          · rintro ((h | ⟨h1, h2⟩) | h)
            · exact .inl h
            · exact .inr ⟨h1, List.mem_append_left _ h2⟩
            · exact .inr ⟨h, by simp⟩
          · rintro (h | ⟨h1, h2⟩)
            · exact .inl (.inl h)
            · exact .inr h1
        · rw [List.length_append, List.length_append, List.length_singleton, List.length_singleton]
          omega
      · rw [upd1_ne q]
        refine ⟨fun u => ?_, ?_⟩
        · rw [(hp2 s hs).1 u, List.mem_append, List.mem_singleton]
          constructor
          · rintro (h | ⟨h1, h2⟩)
            · exact .inl h
            · exact .inr ⟨h1, .inl h2⟩
          · rintro (h | ⟨h1, h2 | h2⟩)
            · exact .inl h
            · exact .inr ⟨h1, h2⟩
            · exact absurd h2 q
        · have := (hp2 s hs).2
          rw [List.length_append]
          omega
    · rintro δ S2 ⟨v3, pr2, rfl, O, hp2⟩
      refine hk _ _ ⟨_, _, pr2, rfl, O.keep (List.sublist_cons_self ..), fun s hs => ⟨fun u => ?_, ?_⟩⟩
      · rw [(hp2 s hs).1 u, List.mem_append, List.mem_singleton]
        constructor
        · rintro (⟨h1, h2⟩ | ⟨h1, h2⟩)
          · exact ⟨.inl h1, h2⟩
          · exact ⟨.inr h1, h1 ▸ h2⟩
        · rintro ⟨h1 | h1, h2⟩
          · exact .inl ⟨h1, h2⟩
          · exact .inr ⟨h1, h1 ▸ h2⟩
      · have := (hp2 s hs).2
        have := nx_len P t; rw [List.length_append, List.length_singleton]
        omega
  · rintro δ S' ⟨v2, v3, pr, rfl, O, hpr⟩
    refine ⟨S', Sub.refl _, hQ S' pd L A pr O.sub (O.free 1) ⟨O.at 1, hL, nd, few, fun s hs => O.atF hs, fun s hs t => ?_, fun s hs => ?_⟩⟩
    · rw [(hpr s hs).1 t, hL t]
    · have := (hpr s hs).2
      omega
end L3
end
section
set_option maxRecDepth 10000
set_option maxHeartbeats 4200000
/-! L4Rests: the entries. -/
namespace L3
open PySem
def rwD (x : Ent × Nat) : D := .tup [enD x.1, .int (x.2 : Nat)]
/-- one step back, from t with the words W behind it -/
def bk1 (P : Pg) (M : Mn) (W : List Str) (t : Spt) : Ent × Nat := ((t, W.filter fun w => decide (w ∉ gv M t)), match mk P t with
  | none => 0
  | some w => if w ∈ W then 1 else 0)
def p_rests : F3 := fun ds S Q => ∃ (P : Pg) (M : Mn) (g a : Addr) (L L2 : List Spt) (A A2 : Spt → Addr) (pr : Spt → List Spt) (e : Ent), ds = [pgD P, .ref g, .ref a, enD e] ∧ Good P ∧ Gon P M S g L2 A2 ∧ Ahd P S a L A pr ∧ Reach P e.1 ∧ e.2.length ≤ 1000 ∧
  ∀ p, S p = none → Q (.ref p) (S.put p (.lst (((pr e.1).map (bk1 P M e.2)).map rwD)))
theorem any_word (W : List Str) (x : Option Str) : ((W.map D.str).any fun z => D.eqb z (optD x)) = match x with
    | none => false
    | some w => decide (w ∈ W) := by
  cases x with
  | none =>
    rw [Bool.eq_iff_iff, List.any_eq_true]
    constructor
    · rintro ⟨z, hz, e⟩
      obtain ⟨y, hy, rfl⟩ := List.mem_map.mp hz
      rw [eqb_nk] at e
      simp [optD, D.nk] at e
    · intro h
      cases h
  | some w => exact inj_str.any W w
theorem flat_strs (W : List Str) : (W.map D.str).all D.flat = true := all_map fun _ _ => rfl
theorem k_rests : Keeps 10 4 (b_rests p_made_at) p_rests := by
  refine ⟨fun ds S Q ⟨P, M, g, a, L, L2, A, A2, pr, e, h, _⟩ => by rw [h]; rfl, fun ds S Q ⟨P, M, g, a, L, L2, A, A2, pr, e, h, G, hg, ha, hr, hw, hQ⟩ => ?_⟩
  subst h
  obtain ⟨s, W⟩ := e
  dsimp only at hr hw hQ
  have hs : s ∈ L := (ha.mem s).mpr hr
  refine ⟨rfl, rfl, Nat.zero_le _, fun pf hf => ?_⟩
  have O := (Own.start S).add (o := .lst []) hf
  refine ⟨a, _, _, rfl, .inl (O.old ha.at_), rfl, kok_sp s 5, getT_dm inj_sp L (fun x => D.ref (A x)) s hs, _, O.old (ha.lst s hs), ?_⟩
  refine for_pre (f := spD) (fun l δ S' => ∃ v7 v8 : Option D, δ = [some (pgD P), some (.ref g), some (.ref a), some (enD (s, W)), some (spD s), some (.tup (W.map .str)), some (.ref pf), v7, v8, none] ∧
    Own S S' [(pf, .lst ((l.map (bk1 P M W)).map rwD))]) (pr s) ⟨_, _, rfl, O⟩ (fun l δ S' ⟨_, _, _, O⟩ => O.old (ha.lst s hs)) ?_ ?_
  · rintro l t r δ S' e ⟨v7, v8, rfl, O⟩ k hk
    have ht : Reach P t := ((ha.pre s hs t).mp (by rw [e]; simp)).1
    have ht2 : t ∈ L2 := (hg.mem t).mpr ht
    have ll : l.length ≤ 324 := by
      have := ha.sz s hs
      rw [e, List.length_append] at this
      omega
    have hgt := O.old (hg.lst t ht2)
    refine lc_pure (f := D.str) (· = S') (fun w => if decide (w ∉ gv M t) = true then some (.str w) else none) W [] S' _ rfl (fun _ _ => trivial) (by show 0 + _ ≤ _; omega) ?_ ?_
    · rintro w hw S2 rfl k1 k2 hk2
      refine ⟨g, _, _, rfl, .inl (O.old hg.at_), rfl, kok_sp t 5, getT_dm inj_sp L2 (fun x => D.ref (A2 x)) t ht2, _, hgt, .inl ⟨rfl, flat_strs _⟩, itB (fun h => ?_) (fun h => ?_)⟩
      · rw [bne_t (inj_str.any (gv M t) w)] at h
        rw [if_pos (by simpa using h)] at hk2
        exact hk2 _ rfl
      · rw [bne_t (inj_str.any (gv M t) w)] at h
        rw [if_neg (by simpa using h)] at hk2
        exact hk2 _ rfl
    · rintro S2 rfl n hn
      rw [List.nil_append, fm_filter]
      have O := O.junk (o := .lst ((W.filter fun w => decide (w ∉ gv M t)).map D.str)) hn
      refine ⟨_, put_same, ⟨pf, _, rfl, O.at 0⟩, Nat.le_of_ble_eq_true rfl, ?_⟩
      refine ⟨P, t, rfl, G, ht.vld G, ?_⟩
      refine ⟨by cases mk P t <;> rfl, flat_strs W, Nat.le_of_ble_eq_true rfl, _, O.at 0, by rw [List.length_map, List.length_map]; omega, ?_⟩
      refine hk _ _ ⟨_, _, rfl, ?_⟩
      have e2 : (l.map (bk1 P M W)).map rwD ++ [.tup [enD (t, W.filter fun w => decide (w ∉ gv M t)), .int (if (false != ((W.map D.str).any fun z => D.eqb z (optD (mk P t)))) = true then 1 else 0)]] = ((l ++ [t]).map (bk1 P M W)).map rwD := by
        rw [List.map_append, List.map_append]
        congr 1
        rw [bne_f (any_word W (mk P t))]
        show [_] = [rwD (bk1 P M W t)]
        unfold rwD bk1
        congr 3
        cases mk P t with
        | none => rfl
        | some w =>
          dsimp only
          by_cases h : w ∈ W
          · rw [if_pos (by simpa using h), if_pos h]; rfl
          · rw [if_neg (by simpa using h), if_neg h]; rfl
      have O := O.set (o' := .lst ((l.map (bk1 P M W)).map rwD ++ [.tup [enD (t, W.filter fun w => decide (w ∉ gv M t)), .int (if (false != ((W.map D.str).any fun z => D.eqb z (optD (mk P t)))) = true then 1 else 0)]])) 0
      rw [← e2]
      exact O
  · rintro δ S' ⟨v7, v8, rfl, O⟩
    exact ⟨_, O.put_sub 0, hQ pf hf⟩
end L3
end
section
set_option maxRecDepth 10000
set_option maxHeartbeats 4200000
/-! L4Want: all entries. -/
namespace L3
open PySem
structure Rws (P : Pg) (M : Mn) (ws : List Str) (S : Sto) (r : Addr) (Es : List Ent) (A : Ent → Addr) (es : Ent → List (Ent × Nat)) : Prop where
  at_ : S r = some (.dT (dm enD Es fun e => .ref (A e)))
  nd : Es.Nodup
  few : Es.length ≤ 1296
  lst : ∀ e ∈ Es, S (A e) = some (.lst ((es e).map rwD))
  cl : ∀ e ∈ Es, ∀ x ∈ es e, x.1 ∈ Es
  reach : ∀ e ∈ Es, Reach P e.1
  step : ∀ e ∈ Es, ∀ x, x ∈ es e ↔ ∃ t, Reach P t ∧ e.1 ∈ nx P t ∧ x = bk1 P M e.2 t
  all : ∀ s, Reach P s → (s, ws) ∈ Es
  ok : ∀ e ∈ Es, ∀ w ∈ e.2, PyData.strOk w = true
  sz : ∀ e ∈ Es, (es e).length ≤ 324
theorem Rws.sub {P : Pg} {M : Mn} {ws : List Str} {S S' : Sto} {r : Addr} {Es : List Ent} {A : Ent → Addr} {es : Ent → List (Ent × Nat)} (h : Rws P M ws S r Es A es) (k : Sub S S') : Rws P M ws S' r Es A es :=
  ⟨k _ _ h.at_, h.nd, h.few, fun e he => k _ _ (h.lst e he), h.cl, h.reach, h.step, h.all, h.ok, h.sz⟩
def p_wanted_entries : F3 := fun ds S Q => ∃ (P : Pg) (M : Mn) (m : Addr), ds = [pgD P, .ref m] ∧ Good P ∧ S m = some (.lst (M.map mnD)) ∧ M.length ≤ 1000 ∧
  ∀ ws S' r Es A es, IsWords P ws → Sub S S' → S r = none → Rws P M ws S' r Es A es → Q (.ref r) S'
/-! ### a finite stock of entries -/
def subs : List Str → List (List Str)
  | [] => [[]]
  | x :: l => subs l ++ (subs l).map (x :: ·)
theorem subs_len : ∀ l : List Str, (subs l).length = 2 ^ l.length
  | [] => rfl
  | x :: l => by
    rw [subs, List.length_append, List.length_map, subs_len l, List.length_cons, Nat.pow_succ]
    omega
theorem mem_subs {l W : List Str} (h : W.Sublist l) : W ∈ subs l := by
  induction h with
  | slnil => exact List.mem_singleton.mpr rfl
  | cons x _ ih => exact List.mem_append_left _ ih
  | cons_cons x _ ih => exact List.mem_append_right _ (List.mem_map.mpr ⟨_, ih, rfl⟩)
def uniE (ws : List Str) : List Ent := (subs ws).flatMap fun W => uni.map fun s => (s, W)
theorem fm_len {α β : Type} (f : α → List β) (n : Nat) : ∀ l : List α, (∀ a ∈ l, (f a).length = n) → (l.flatMap f).length = l.length * n
  | [], _ => by simp
  | a :: l, h => by
    rw [List.flatMap_cons, List.length_append, h a List.mem_cons_self, fm_len f n l fun b hb => h b (List.mem_cons_of_mem _ hb), List.length_cons, Nat.succ_mul]
    omega
theorem uniE_len {ws : List Str} (h : ws.length ≤ 3) : (uniE ws).length ≤ 1296 := by
  unfold uniE
  rw [fm_len _ 162 _ fun W _ => by rw [List.length_map, uni_len], subs_len]
  have : 2 ^ ws.length ≤ 2 ^ 3 := Nat.pow_le_pow_right (by decide) h
  omega
structure InU (P : Pg) (ws : List Str) (e : Ent) : Prop where
  reach : Reach P e.1
  sub : e.2.Sublist ws
theorem InU.mem {P : Pg} (G : Good P) {ws : List Str} {e : Ent} (h : InU P ws e) : e ∈ uniE ws := by
  unfold uniE
  exact List.mem_flatMap.mpr ⟨e.2, mem_subs h.sub, List.mem_map.mpr ⟨e.1, vld_uni G (h.reach.vld G), rfl⟩⟩
theorem relock {S : Sto} {a n : Addr} {o l X : AO} (h : S a = some o) (hn : n ≠ a) : ((S.put a l).put n X).put a o = S.put n X := by
  funext b
  unfold Sto.put
  by_cases e : b = a
  · subst e
    rw [if_pos rfl, if_neg hn.symm, h]
  · rw [if_neg e]
    by_cases e2 : b = n
    · rw [if_pos e2, if_pos e2]
    · rw [if_neg e2, if_neg e2, if_neg e]
theorem hasT_en {F : List Ent} {f : Ent → D} {x : Ent} {b : Bool} (h : (true != hasT (dm enD F f) (enD x)) = b) : b = true ↔ x ∉ F := by
  rw [bne_t (hasT_dm inj_en F f x)] at h
  rw [← h]
  simp
theorem all_en {l : List Ent} (h : ∀ e ∈ l, ∀ w ∈ e.2, PyData.strOk w = true) : (l.map enD).all (D.ok 60) = true := all_map fun e he => ok_en e 56 (h e he)
theorem k_wanted_entries : Keeps 11 2 (b_wanted_entries p_spots_ahead p_givings p_words_of p_rests) p_wanted_entries := by
  refine ⟨fun ds S Q ⟨P, M, m, h, _⟩ => by rw [h]; rfl, fun ds S Q ⟨P, M, m, h, G, hM, hl, hQ⟩ => ?_⟩
  subst h
  refine ⟨P, rfl, G, fun S1 a L A pr s1 ha0 ha => ?_⟩
  refine ⟨P, M, m, rfl, G, s1 _ _ hM, hl, fun S2 g L2 A2 s2 hg0 hg => ?_⟩
  refine ⟨P, rfl, G, fun ws hws n hn => ⟨_, put_same, ?_⟩⟩
  obtain ⟨wf, wok⟩ := hws.few G
  have s3 : Sub S2 (S2.put n (.lst (ws.map D.str))) := (Sub.refl S2).new hn
  generalize S2.put n (.lst (ws.map D.str)) = S3 at s3
  have hg := hg.sub s3
  have ha := ha.sub (s2.trans s3)
  have s03 : Sub S S3 := s1.trans (s2.trans s3)
  intro r hr
  have O := (Own.start S3).add (o := .dT []) hr
  have hra : a ≠ r := ne_new ha.at_ hr
  refine ⟨a, _, rfl, O.old ha.at_, ?_⟩
  refine ⟨a, _, rfl, put_same, ?_⟩
  rw [dm_keys]
  refine lc_pure (f := spD) (· = (S3.put r (.dT [])).put a (.lk (dm spD L fun s => .ref (A s)))) (fun s => some (enD (s, ws))) L [] _ _ rfl (fun S' e => by rw [e]; exact put_same) (by have := ha.few; show 0 + _ ≤ _; omega) ?_ ?_
  · rintro s hs S' rfl k1 k2 hk
    exact ⟨Nat.le_of_ble_eq_true rfl, hk _ rfl⟩
  rintro S' rfl n2 hn2
  have hn2a : n2 ≠ a := (put_none hn2).2
  have hn2' := (put_none hn2).1
  refine ⟨(put_ne hn2a.symm).trans put_same, ?_⟩
  rw [relock (O.old ha.at_) hn2a, List.nil_append, show L.filterMap (fun s => some (enD (s, ws))) = (L.map fun s => ((s, ws) : Ent)).map enD by rw [List.filterMap_eq_map', List.map_map]; rfl]
  have O := O.add (o := .lst ((L.map fun s => ((s, ws) : Ent)).map enD)) hn2'
  refine ⟨fun mm δ S' => ∃ (Es Wt : List Ent) (Ae : Ent → Addr) (v7 : Option D), δ = [some (pgD P), some (.ref m), some (.ref a), some (.ref g), some (.tup (ws.map D.str)), some (.ref r), some (.ref n2), v7, none, none, none] ∧
    Own S3 S' ([(r, .dT (dm enD Es fun e => .ref (Ae e))), (n2, .lst (Wt.map enD))] ++ Es.map fun e => (Ae e, .lst (((pr e.1).map (bk1 P M e.2)).map rwD))) ∧ Es.Nodup ∧ (∀ e ∈ Es, InU P ws e) ∧ (∀ e ∈ Wt, InU P ws e) ∧
    (∀ e ∈ Es, ∀ x ∈ (pr e.1).map (bk1 P M e.2), x.1 ∈ Es ∨ x.1 ∈ Wt) ∧ (∀ s ∈ L, (s, ws) ∈ Es ∨ (s, ws) ∈ Wt) ∧ Wt.length ≤ 162 + 324 * Es.length ∧ mm = (1296 - Es.length) * 400 + Wt.length,
    ⟨_, [], L.map fun s => (s, ws), fun _ => 0, none, rfl, O, List.nodup_nil, (fun e h => nomatch h), fun e he => ?_, (fun e h => nomatch h), fun s hs => .inr (List.mem_map.mpr ⟨s, hs, rfl⟩), by rw [List.length_map]; have := ha.few; omega, rfl⟩, ?_⟩
  · obtain ⟨s, hs, rfl⟩ := List.mem_map.mp he
    exact ⟨(ha.mem s).mp hs, List.Sublist.refl _⟩
  rintro mm δ S' ⟨Es, Wt, Ae, v7, rfl, O, nd, uE, uW, cl, al, hW, hm⟩
  have okW : ∀ e ∈ Wt, ∀ w ∈ e.2, PyData.strOk w = true := fun e he w hw => wok w ((uW e he).sub.subset hw)
  have fE : ∀ F : List Ent, F.Nodup → (∀ e ∈ F, InU P ws e) → F.length ≤ 1296 := fun F nd h => Nat.le_trans (nodup_le nd fun e he => (h e he).mem G) (uniE_len wf)
  have lE := fE Es nd uE
  refine ⟨Nat.zero_le _, fun q hq => ?_⟩
  have O := O.junk (o := .lst []) hq
  refine .inr (.inr ⟨n2, q, Wt.map enD, [], rfl, rfl, O.at 1, put_same, all_en okW, rfl, itB (fun h => ?_) (fun h => ?_)⟩)
  · rw [bne_t (eqv_nil _)] at h
    have hne : Wt ≠ [] := by
      rintro rfl
      simp at h
    obtain ⟨rs, e, rfl⟩ := last_snoc hne
    refine ⟨_, enD e, O.at 1, last_map, ?_⟩
    rw [drop_map]
    have O := O.setL (o' := .lst (rs.map enD)) 1
    have ue : InU P ws e := uW e (by simp)
    rw [List.length_append, List.length_singleton] at hW hm
    refine ⟨r, _, rfl, .inl (O.at 0), rfl, kok_en e 4, itB (fun h2 => ?_) (fun h2 => ?_)⟩
    · have hn : e ∉ Es := (hasT_en rfl).mp h2
      have nd' := nodup_snoc nd hn
      have uE' : ∀ x ∈ Es ++ [e], InU P ws x := fun x hx => by
        rcases List.mem_append.1 hx with hx | hx
        · exact uE x hx
        · rw [List.mem_singleton.mp hx]; exact ue
      have lE' := fE _ nd' uE'
      rw [List.length_append, List.length_singleton] at lE'
      have hel : e.2.length ≤ 1000 := by have := ue.sub.length_le; omega
      refine ⟨P, M, g, a, L, L2, A, A2, pr, e, rfl, G, hg.sub O.sub, ha.sub O.sub, ue.reach, hel, fun p hp => ?_⟩
      have O := O.addF hn (o := .lst (((pr e.1).map (bk1 P M e.2)).map rwD)) hp
      refine ⟨r, _, rfl, O.at 0, rfl, kok_en e 4, by rw [dm_len]; omega, ?_⟩
      rw [dm_snoc inj_en hn]
      have O := O.setL (o' := .dT (dm enD (Es ++ [e]) fun x => .ref (upd1 Ae e p x))) 0
      have e2 : (fun x : Ent => ((upd1 Ae e p x, upd1 (fun e => AO.lst (((pr e.1).map (bk1 P M e.2)).map rwD)) e (.lst (((pr e.1).map (bk1 P M e.2)).map rwD)) x) : Addr × AO)) = fun x => (upd1 Ae e p x, .lst (((pr x.1).map (bk1 P M x.2)).map rwD)) := by
        funext x
        unfold upd1
        split
        · rename_i h
          rw [h]
        · rfl
      rw [e2] at O
      have hmem : e ∈ Es ++ [e] := by simp
      have hpr : (pr e.1).length ≤ 324 := ha.sz e.1 ((ha.mem e.1).mpr ue.reach)
      refine ⟨⟨n2, _, rfl, O.at 1⟩, r, _, _, rfl, .inl (O.at 0), rfl, kok_en e 4, getT_dm inj_en (Es ++ [e]) (fun x => D.ref (upd1 Ae e p x)) e hmem, _, O.atF hmem, ?_⟩
      refine lc_pure (f := rwD) (· = _) (fun x => some (enD x.1)) ((pr e.1).map (bk1 P M e.2)) [] _ _ rfl (fun S' e => by rw [e]; exact O.atF hmem) (by rw [List.length_map]; show 0 + _ ≤ _; omega) ?_ ?_
      · rintro x hx S5 rfl k1 k2 hk
        exact ⟨rfl, rfl, hk _ rfl⟩
      rintro S5 rfl n3 hn3
      rw [List.nil_append, show ((pr e.1).map (bk1 P M e.2)).filterMap (fun x => some (enD x.1)) = (((pr e.1).map (bk1 P M e.2)).map (·.1)).map enD by rw [List.filterMap_eq_map', List.map_map, List.map_map, List.map_map]; rfl]
      have O := O.junk (o := .lst ((((pr e.1).map (bk1 P M e.2)).map (·.1)).map enD)) hn3
      refine ⟨_, _, O.at 1, put_same, by simp only [List.length_map]; omega, ?_⟩
      rw [← List.map_append]
      have O := O.setL (o' := .lst ((rs ++ ((pr e.1).map (bk1 P M e.2)).map (·.1)).map enD)) 1
      refine ⟨(1296 - (Es ++ [e]).length) * 400 + (rs ++ ((pr e.1).map (bk1 P M e.2)).map (·.1)).length, ?_, Es ++ [e], rs ++ ((pr e.1).map (bk1 P M e.2)).map (·.1), upd1 Ae e p, _, rfl, O, nd', uE', ?_, ?_, ?_, ?_, rfl⟩
      · simp only [List.length_append, List.length_map, List.length_singleton]
        omega
      · intro x hx
        rcases List.mem_append.1 hx with hx | hx
        · exact uW x (List.mem_append_left _ hx)
        · obtain ⟨y, hy, rfl⟩ := List.mem_map.mp hx
          obtain ⟨t, ht, rfl⟩ := List.mem_map.mp hy
          refine ⟨((ha.pre e.1 ((ha.mem e.1).mpr ue.reach) t).mp ht).1, ?_⟩
          exact List.filter_sublist.trans ue.sub
      · intro x hx y hy
        rcases List.mem_append.1 hx with hx | hx
        · rcases cl x hx y hy with h | h
          · exact .inl (List.mem_append_left _ h)
          · rcases List.mem_append.1 h with h | h
            · exact .inr (List.mem_append_left _ h)
            · exact .inl (List.mem_append_right _ h)
        · rw [List.mem_singleton.mp hx] at hy
          exact .inr (List.mem_append_right _ (List.mem_map.mpr ⟨y, hy, rfl⟩))
      · intro s hs
        rcases al s hs with h | h
        · exact .inl (List.mem_append_left _ h)
        · rcases List.mem_append.1 h with h | h
          · exact .inr (List.mem_append_left _ h)
          · exact .inl (List.mem_append_right _ h)
      · simp only [List.length_append, List.length_map, List.length_singleton]
        omega
    · have hn : e ∈ Es := by
        refine Classical.byContradiction fun q => ?_
        have := (hasT_en (f := fun e => D.ref (Ae e)) rfl).mpr q
        rw [h2] at this
        cases this
      have sw : ∀ t, t ∈ rs ++ [e] → t ∈ Es ∨ t ∈ rs := fun t ht => by
        rcases List.mem_append.mp ht with h | h
        · exact .inr h
        · rw [List.mem_singleton.mp h]; exact .inl hn
      refine ⟨(1296 - Es.length) * 400 + rs.length, by omega, Es, rs, Ae, _, rfl, O, nd, uE, fun x hx => uW x (List.mem_append_left _ hx), fun x hx y hy => ?_, fun s hs => ?_, by omega, rfl⟩
      · rcases cl x hx y hy with h | h
        · exact .inl h
        · exact sw _ h
      · rcases al s hs with h | h
        · exact .inl h
        · exact sw _ h
  · rw [bne_t (eqv_nil _)] at h
    have hWt : Wt = [] := by
      cases Wt with
      | nil => rfl
      | cons a b => simp at h
    subst hWt
    refine ⟨_, Sub.refl _, hQ ws _ r Es Ae (fun e => (pr e.1).map (bk1 P M e.2)) hws (s03.trans O.sub) (s03.none (O.free 0)) ⟨O.at 0, nd, lE, fun e he => O.atF he, fun e he x hx => (cl e he x hx).elim id (fun h => nomatch h), fun e he => (uE e he).reach, fun e he x => ?_, fun s hs => (al s ((ha.mem s).mpr hs)).elim id (fun h => nomatch h), fun e he w hw => wok w ((uE e he).sub.subset hw), fun e he => ?_⟩⟩
    · have hs := (ha.mem e.1).mpr (uE e he).reach
      rw [List.mem_map]
      constructor
      · rintro ⟨t, ht, rfl⟩
        obtain ⟨h1, h2⟩ := (ha.pre e.1 hs t).mp ht
        exact ⟨t, h1, h2, rfl⟩
      · rintro ⟨t, h1, h2, rfl⟩
        exact ⟨t, (ha.pre e.1 hs t).mpr ⟨h1, h2⟩, rfl⟩
    · rw [List.length_map]
      exact ha.sz e.1 ((ha.mem e.1).mpr (uE e he).reach)
end L3
end
section
set_option maxRecDepth 10000
/-! L4Runs: runs, what is live on them; numbers that are too small or fixed. No readings here. -/
namespace L3
open PySem
/-- r: the spots ahead of t on a way from the first -/
inductive Rn (P : Pg) : List Spt → Spt → Prop
  | fst : Rn P [] fst_
  | step {r : List Spt} {s t : Spt} : Rn P r s → t ∈ nx P s → Rn P (r ++ [s]) t
theorem Rn.reach {P : Pg} {r : List Spt} {s : Spt} (h : Rn P r s) : Reach P s := by
  induction h with
  | fst => exact .fst
  | step _ h ih => exact ih.step h
theorem Reach.rn {P : Pg} {s : Spt} (h : Reach P s) : ∃ r, Rn P r s := by
  induction h with
  | fst => exact ⟨_, .fst⟩
  | step _ h ih =>
    obtain ⟨r, hr⟩ := ih
    exact ⟨_, hr.step h⟩
/-- the words that are live behind the spots r -/
def liv (P : Pg) (M : Mn) (r : List Spt) : List Str := r.foldl (fun l s => l.filter (fun w => decide (w ∉ gv M s)) ++ (mk P s).toList) []
theorem liv_snoc (P : Pg) (M : Mn) (r : List Spt) (s : Spt) : liv P M (r ++ [s]) = (liv P M r).filter (fun w => decide (w ∉ gv M s)) ++ (mk P s).toList := by
  unfold liv
  rw [List.foldl_append]
  rfl
def cnt (P : Pg) (M : Mn) (r : List Spt) (W : List Str) : Nat := ((liv P M r).filter fun w => decide (w ∈ W)).length
theorem cnt_snoc (P : Pg) (M : Mn) (r : List Spt) (s : Spt) (W : List Str) : cnt P M (r ++ [s]) W = cnt P M r (bk1 P M W s).1.2 + (bk1 P M W s).2 := by
  unfold cnt
  rw [liv_snoc, List.filter_append, List.length_append, List.filter_filter]
  congr 1
  · congr 1
    refine List.filter_congr fun w _ => ?_
    rw [Bool.eq_iff_iff]
    simp [bk1]
  · unfold bk1
    cases mk P s with
    | none => rfl
    | some w =>
      show (List.filter (fun w => decide (w ∈ W)) [w]).length = if w ∈ W then 1 else 0
      by_cases h : w ∈ W <;> simp [h]
theorem cnt_le (P : Pg) (M : Mn) (r : List Spt) (W : List Str) : cnt P M r W ≤ (liv P M r).length := List.length_filter_le ..
/-! ### gains -/
def Up (P : Pg) (M : Mn) (a b : Ent) (n : Nat) : Prop := ∀ r, Rn P r a.1 → ∃ r', Rn P r' b.1 ∧ cnt P M r a.2 + n ≤ cnt P M r' b.2
theorem Up.trans {P : Pg} {M : Mn} {a b c : Ent} {n m : Nat} (h1 : Up P M a b n) (h2 : Up P M b c m) : Up P M a c (n + m) := fun r hr => by
  obtain ⟨r1, g1, l1⟩ := h1 r hr
  obtain ⟨r2, g2, l2⟩ := h2 r1 g1
  exact ⟨r2, g2, by omega⟩
theorem up_edge {P : Pg} {M : Mn} {e : Ent} {t : Spt} (h : e.1 ∈ nx P t) : Up P M (bk1 P M e.2 t).1 e (bk1 P M e.2 t).2 := fun r hr => ⟨r ++ [t], Rn.step (s := t) hr h, by rw [cnt_snoc]; exact Nat.le_refl _⟩
theorem Up.no_cycle {P : Pg} {M : Mn} {e : Ent} {n B : Nat} (hb : ∀ r t, Rn P r t → (liv P M r).length ≤ B) (hr : Reach P e.1) (h : Up P M e e n) : n = 0 := by
  cases n with
  | zero => rfl
  | succ n =>
    have go : ∀ k, ∃ r, Rn P r e.1 ∧ k ≤ cnt P M r e.2 := by
      intro k
      induction k with
      | zero =>
        obtain ⟨r, hr⟩ := hr.rn
        exact ⟨r, hr, Nat.zero_le _⟩
      | succ k ih =>
        obtain ⟨r, h1, h2⟩ := ih
        obtain ⟨r', g1, g2⟩ := h r h1
        exact ⟨r', g1, by omega⟩
    obtain ⟨r, h1, h2⟩ := go (B + 1)
    have := cnt_le P M r e.2
    have := hb r _ h1
    omega
inductive Chn (C : Ent → Option Ent) : Ent → Prop
  | nil {e : Ent} : C e = none → Chn C e
  | step {e y : Ent} : C e = some y → Chn C y → Chn C e
/-- what holds of numbers and came all the while -/
structure Nums (P : Pg) (M : Mn) (Es : List Ent) (es : Ent → List (Ent × Nat)) (N : Ent → Nat) (C : Ent → Option Ent) : Prop where
  ach : ∀ e ∈ Es, ∃ r, Rn P r e.1 ∧ N e ≤ cnt P M r e.2
  back : ∀ e ∈ Es, ∀ y, C e = some y → ∃ w, (y, w) ∈ es e ∧ N e ≤ N y + w
  chn : ∀ e ∈ Es, Chn C e
section
variable {P : Pg} {M : Mn} {ws : List Str} {S : Sto} {r : Addr} {Es : List Ent} {A : Ent → Addr} {es : Ent → List (Ent × Nat)} {N : Ent → Nat} {C : Ent → Option Ent} {B : Nat}
theorem Nums.put (R : Rws P M ws S r Es A es) (hb : ∀ r t, Rn P r t → (liv P M r).length ≤ B) (H : Nums P M Es es N C) {e : Ent} {x : Ent × Nat} (he : e ∈ Es) (hx : x ∈ es e) (hlt : N e < N x.1 + x.2) :
    Nums P M Es es (upd1 N e (N x.1 + x.2)) (upd1 C e (some x.1)) := by
  obtain ⟨t, ht, hn, hxe⟩ := (R.step e he x).mp hx
  have hx1 := R.cl e he x hx
  have up : Up P M x.1 e x.2 := by rw [hxe]; exact up_edge hn
  have edge : ∀ a ∈ Es, ∀ (y : Ent) (w : Nat), (y, w) ∈ es a → Up P M y a w := fun a ha y w h => by
    obtain ⟨t2, h1, h2, h3⟩ := (R.step a ha (y, w)).mp h
    have e1 : y = (bk1 P M a.2 t2).1 := congrArg Prod.fst h3
    have e2 : w = (bk1 P M a.2 t2).2 := congrArg Prod.snd h3
    rw [e1, e2]
    exact up_edge h2
  have le1 : ∀ a, N a ≤ upd1 N e (N x.1 + x.2) a := fun a => by
    unfold upd1
    split
    · rename_i q
      rw [q]
      omega
    · exact Nat.le_refl _
  -- the chain from y: free of e, or it gains
  have alt : ∀ y, Chn C y → y ∈ Es → Chn (upd1 C e (some x.1)) y ∨ ∃ n, Up P M e y n ∧ N y ≤ N e + n := by
    intro y hy
    induction hy with
    | @nil y h =>
      intro hm
      by_cases q : y = e
      · subst q
        exact .inr ⟨0, fun r hr => ⟨r, hr, by omega⟩, by omega⟩
      · exact .inl (.nil (by rw [upd1_ne q]; exact h))
    | @step y z h hz ih =>
      intro hm
      by_cases q : y = e
      · subst q
        exact .inr ⟨0, fun r hr => ⟨r, hr, by omega⟩, by omega⟩
      · obtain ⟨w, h1, h2⟩ := H.back y hm z h
        rcases ih (R.cl y hm _ h1) with c | ⟨n, u, l⟩
        · exact .inl (.step (by rw [upd1_ne q]; exact h) c)
        · exact .inr ⟨n + w, u.trans (edge y hm z w h1), by omega⟩
  have c1 : Chn (upd1 C e (some x.1)) x.1 := by
    rcases alt x.1 (H.chn _ hx1) hx1 with c | ⟨n, u, l⟩
    · exact c
    · have := (u.trans up).no_cycle hb (R.reach e he)
      omega
  have c0 : Chn (upd1 C e (some x.1)) e := .step upd1_same c1
  have call : ∀ y, Chn C y → Chn (upd1 C e (some x.1)) y := by
    intro y hy
    induction hy with
    | @nil y h =>
      by_cases q : y = e
      · rw [q]; exact c0
      · exact .nil (by rw [upd1_ne q]; exact h)
    | @step y z h hz ih =>
      by_cases q : y = e
      · rw [q]; exact c0
      · exact .step (by rw [upd1_ne q]; exact h) ih
  refine ⟨fun a ha => ?_, fun a ha y hy => ?_, fun a ha => call a (H.chn a ha)⟩
  · by_cases q : a = e
    · subst q
      rw [upd1_same]
      obtain ⟨r0, g1, g2⟩ := H.ach x.1 hx1
      obtain ⟨r1, k1, k2⟩ := up r0 g1
      exact ⟨r1, k1, by omega⟩
    · rw [upd1_ne q]
      exact H.ach a ha
  · by_cases q : a = e
    · subst q
      rw [upd1_same] at hy ⊢
      cases hy
      exact ⟨x.2, hx, Nat.add_le_add_right (le1 _) _⟩
    · rw [upd1_ne q] at hy ⊢
      obtain ⟨w, h1, h2⟩ := H.back a ha y hy
      exact ⟨w, h1, Nat.le_trans h2 (Nat.add_le_add_right (le1 _) _)⟩
theorem Nums.le (hb : ∀ r t, Rn P r t → (liv P M r).length ≤ B) (H : Nums P M Es es N C) {e : Ent} (he : e ∈ Es) : N e ≤ B := by
  obtain ⟨r, h1, h2⟩ := H.ach e he
  have := cnt_le P M r e.2
  have := hb r _ h1
  omega
end
def smm (B : Nat) (Es : List Ent) (N : Ent → Nat) : Nat := (Es.map fun e => B - N e).sum
theorem smm_congr {B : Nat} {Es : List Ent} {N N' : Ent → Nat} (h : ∀ e ∈ Es, N e = N' e) : smm B Es N = smm B Es N' := by
  unfold smm
  congr 1
  exact List.map_congr_left fun e he => by rw [h e he]
theorem smm_lt {B : Nat} {N : Ent → Nat} {v : Nat} : ∀ {Es : List Ent} {e : Ent}, Es.Nodup → e ∈ Es → N e < v → v ≤ B → smm B Es (upd1 N e v) < smm B Es N
  | [], _, _, h, _, _ => nomatch h
  | a :: Es, e, nd, h, h1, h2 => by
    obtain ⟨n1, n2⟩ := List.nodup_cons.1 nd
    have c : ∀ N : Ent → Nat, smm B (a :: Es) N = (B - N a) + smm B Es N := fun N => by
      unfold smm; rw [List.map_cons, List.sum_cons]
    rw [c, c]
    by_cases q : a = e
    · subst q
      rw [upd1_same, smm_congr (N := upd1 N a v) (N' := N) fun y hy => upd1_ne fun z : y = a => n1 (z ▸ hy)]
      omega
    · rw [upd1_ne q]
      have hm : e ∈ Es := (List.mem_cons.mp h).resolve_left fun z => q z.symm
      have := smm_lt n2 hm h1 h2
      omega
end L3
end
section
set_option maxRecDepth 10000
set_option maxHeartbeats 4200000
/-! L4Bet: bettered. -/
namespace L3
open PySem
def optE : Option Ent → D
  | none => .non
  | some e => enD e
/-- what bettered hands back -/
structure Bet (P : Pg) (M : Mn) (Es : List Ent) (es : Ent → List (Ent × Nat)) (N : Ent → Nat) (C : Ent → Option Ent) : Prop where
  nums : Nums P M Es es N C
  fix : ∀ e ∈ Es, ∀ x ∈ es e, N x.1 + x.2 ≤ N e
def p_bettered : F3 := fun ds S Q => ∃ (P : Pg) (M : Mn) (ws : List Str) (r : Addr) (Es : List Ent) (A : Ent → Addr) (es : Ent → List (Ent × Nat)) (B : Nat), ds = [.ref r] ∧ Rws P M ws S r Es A es ∧ (∀ r t, Rn P r t → (liv P M r).length ≤ B) ∧
  ∀ N C p1 p2 S', Bet P M Es es N C → Own S S' [(p1, .dT (dm enD Es fun e => .int (N e : Nat))), (p2, .dT (dm enD Es fun e => optE (C e)))] → Q (.tup [.ref p1, .ref p2]) S'
theorem Own.relock {S S' : Sto} {ps : List (Addr × AO)} {r : Addr} {o l : AO} (hr : S r = some o) (O : Own (S.put r l) S' ps) : Own S (S'.put r o) ps := by
  have ne : ∀ x ∈ ps, x.1 ≠ r := fun x hx => (put_none (O.none x hx)).2
  refine ⟨fun a u e => ?_, fun x hx => (put_none (O.none x hx)).1, fun x hx => (put_ne (ne x hx)).trans (O.at_ x hx), O.nd⟩
  by_cases q : a = r
  · subst q
    rw [put_same, ← e, hr]
  · rw [put_ne q]
    exact O.sub a u (by rw [put_ne q]; exact e)
theorem dm_put {Es : List Ent} {N : Ent → Nat} {e : Ent} {v : Nat} (he : e ∈ Es) : putT (dm enD Es fun e => .int (N e : Nat)) (enD e) (.int (v : Nat)) = dm enD Es fun a => .int ((upd1 N e v a : Nat)) := by
  rw [putT_dm inj_en, if_pos he]
  refine dm_congr fun a _ => ?_
  unfold upd1
  split <;> rfl
theorem dm_putC {Es : List Ent} {C : Ent → Option Ent} {e y : Ent} (he : e ∈ Es) : putT (dm enD Es fun e => optE (C e)) (enD e) (enD y) = dm enD Es fun a => optE (upd1 C e (some y) a) := by
  rw [putT_dm inj_en, if_pos he]
  refine dm_congr fun a _ => ?_
  unfold upd1
  split <;> rfl
theorem k_bettered : Keeps 7 1 b_bettered p_bettered := by
  refine ⟨fun ds S Q ⟨P, M, ws, r, Es, A, es, B, h, _⟩ => by rw [h]; rfl, fun ds S Q ⟨P, M, ws, r, Es, A, es, B, h, R, hb, hQ⟩ => ?_⟩
  subst h
  intro p1 hp1
  have O := (Own.start S).add (o := .dT []) hp1
  intro p2 hp2
  have O := O.add (o := .dT []) hp2
  have n1 : r ≠ p1 := ne_new R.at_ (O.free 0)
  have n2 : r ≠ p2 := ne_new R.at_ (O.free 1)
  refine ⟨r, _, rfl, O.old R.at_, ?_⟩
  refine ⟨r, _, rfl, put_same, ?_⟩
  rw [dm_keys]
  have eS : ((S.put p1 (.dT [])).put p2 (.dT [])).put r (.lk (dm enD Es fun e => .ref (A e))) = ((S.put r (.lk (dm enD Es fun e => .ref (A e)))).put p1 (.dT [])).put p2 (.dT []) := by
    rw [put_comm n2.symm, put_comm n1.symm]
  rw [eS]
  have f1 : (S.put r (.lk (dm enD Es fun e => .ref (A e)))) p1 = none := (put_ne n1.symm).trans (O.free 0)
  have OL := (Own.start (S.put r (.lk (dm enD Es fun e => .ref (A e))))).add (o := .dT []) f1
  have f2 : ((S.put r (.lk (dm enD Es fun e => .ref (A e)))).put p1 (.dT [])) p2 = none := by
    have n12 : p2 ≠ p1 := (put_none hp2).2
    rw [put_ne n12, put_ne n2.symm]
    exact (put_none hp2).1
  have OL := OL.add (o := .dT []) f2
  refine for_pre (f := enD) (fun l δ S' => ∃ v3 : Option D, δ = [some (.ref r), some (.ref p1), some (.ref p2), v3, none, none, none] ∧
    Own (S.put r (.lk (dm enD Es fun e => .ref (A e)))) S' [(p1, .dT (dm enD l fun _ => .int (0 : Nat))), (p2, .dT (dm enD l fun _ => .non))]) Es ⟨_, rfl, OL⟩ (fun l δ S' ⟨_, _, O⟩ => O.old put_same) ?_ ?_
  · rintro l e rs δ S' ee ⟨v3, rfl, O⟩ k hk
    have hn : e ∉ l := nodup_mid R.nd ee
    have ll : l.length ≤ 1296 := by
      have := R.few
      rw [ee, List.length_append] at this
      omega
    refine ⟨p1, _, rfl, O.at 0, rfl, kok_en e 4, by rw [dm_len]; omega, ?_⟩
    rw [putT_dm inj_en, if_neg hn, show upd1 (fun _ : Ent => D.int (0 : Nat)) e (.int 0) = fun _ => .int (0 : Nat) from funext fun j => by unfold upd1; split <;> rfl]
    have O := O.set (o' := .dT (dm enD (l ++ [e]) fun _ => .int (0 : Nat))) 0
    refine ⟨p2, _, rfl, O.at 1, rfl, kok_en e 4, by rw [dm_len]; omega, ?_⟩
    rw [putT_dm inj_en, if_neg hn, show upd1 (fun _ : Ent => D.non) e .non = fun _ => .non from funext fun j => by unfold upd1; split <;> rfl]
    have O := O.set (o' := .dT (dm enD (l ++ [e]) fun _ => .non)) 1
    exact hk _ _ ⟨_, rfl, O⟩
  rintro δ S1 ⟨v3, rfl, OL⟩
  refine ⟨OL.old put_same, ?_⟩
  have O := Own.relock R.at_ OL
  generalize S1.put r (.dT (dm enD Es fun e => .ref (A e))) = S2 at O
  -- changed = True; while changed
  have H0 : Nums P M Es es (fun _ => 0) (fun _ => none) := ⟨fun e he => by
    obtain ⟨r0, h0⟩ := (R.reach e he).rn
    exact ⟨r0, h0, Nat.zero_le _⟩, (fun e he y h => nomatch h), fun e he => .nil rfl⟩
  refine ⟨fun m δ S' => ∃ (N : Ent → Nat) (C : Ent → Option Ent) (c : Bool) (v3 v5 v6 : Option D), δ = [some (.ref r), some (.ref p1), some (.ref p2), v3, some (.bl c), v5, v6] ∧
    Own S S' [(p1, .dT (dm enD Es fun e => .int (N e : Nat))), (p2, .dT (dm enD Es fun e => optE (C e)))] ∧ Nums P M Es es N C ∧ (c = false → ∀ e ∈ Es, ∀ x ∈ es e, N x.1 + x.2 ≤ N e) ∧ m = 2 * smm B Es N + (if c = true then 1 else 0),
    ⟨_, fun _ => 0, fun _ => none, true, _, none, none, rfl, O, H0, (fun h => nomatch h), rfl⟩, ?_⟩
  rintro m δ S' ⟨N, C, c, v3, v5, v6, rfl, O, H, hf, hm⟩
  refine itB (fun hc => ?_) (fun hc => ?_)
  · rw [if_pos hc] at hm
    refine ⟨_, O.old R.at_, fun q hq => ⟨_, put_same, ?_⟩⟩
    rw [dm_keys, ← List.map_reverse]
    have O := O.add (o := .lst (Es.map enD)) hq
    refine for_pre (f := enD) (fun l δ S' => ∃ (N' : Ent → Nat) (C' : Ent → Option Ent) (c' : Bool) (v3 v5 v6 : Option D), δ = [some (.ref r), some (.ref p1), some (.ref p2), v3, some (.bl c'), v5, v6] ∧
      Own S S' [(p1, .dT (dm enD Es fun e => .int (N' e : Nat))), (p2, .dT (dm enD Es fun e => optE (C' e))), (q, .lst (Es.map enD))] ∧ Nums P M Es es N' C' ∧
      ((c' = false ∧ N' = N ∧ ∀ e ∈ l, ∀ x ∈ es e, N x.1 + x.2 ≤ N e) ∨ (c' = true ∧ smm B Es N' < smm B Es N))) Es.reverse ⟨N, C, false, _, _, _, rfl, O, H, .inl ⟨rfl, rfl, (fun e h => nomatch h)⟩⟩ (fun l δ S' ⟨_, _, _, _, _, _, _, O, _⟩ => O.at 2) ?_ ?_
    · rintro l e rs δ S' ee ⟨N', C', c', v3, v5, v6, rfl, O, H, alt⟩ k hk
      have he : e ∈ Es := List.mem_reverse.mp (by rw [ee]; simp)
      refine ⟨r, _, _, rfl, .inl (O.old R.at_), rfl, kok_en e 4, getT_dm inj_en Es (fun e => D.ref (A e)) e he, _, O.old (R.lst e he), ?_⟩
      refine for_pre (f := rwD) (fun l2 δ S' => ∃ (N' : Ent → Nat) (C' : Ent → Option Ent) (c' : Bool) (v5 v6 : Option D), δ = [some (.ref r), some (.ref p1), some (.ref p2), some (enD e), some (.bl c'), v5, v6] ∧
        Own S S' [(p1, .dT (dm enD Es fun e => .int (N' e : Nat))), (p2, .dT (dm enD Es fun e => optE (C' e))), (q, .lst (Es.map enD))] ∧ Nums P M Es es N' C' ∧
        ((c' = false ∧ N' = N ∧ (∀ e ∈ l, ∀ x ∈ es e, N x.1 + x.2 ≤ N e) ∧ ∀ x ∈ l2, N x.1 + x.2 ≤ N e) ∨ (c' = true ∧ smm B Es N' < smm B Es N))) (es e) ⟨N', C', c', _, _, rfl, O, H, ?_⟩ (fun l δ S' ⟨_, _, _, _, _, _, O, _⟩ => O.old (R.lst e he)) ?_ ?_
      · rcases alt with ⟨a1, a2, a3⟩ | a
        · exact .inl ⟨a1, a2, a3, (fun x h => nomatch h)⟩
        · exact .inr a
      · rintro l2 x rs2 δ S' ex ⟨N', C', c', v5, v6, rfl, O, H, alt⟩ k2 hk2
        have hx : x ∈ es e := by rw [ex]; simp
        have hx1 : x.1 ∈ Es := R.cl e he x hx
        refine ⟨rfl, rfl, ?_⟩
        refine ⟨p1, _, _, rfl, .inl (O.at 0), rfl, kok_en x.1 4, getT_dm inj_en Es (fun e => D.int (N' e : Nat)) x.1 hx1, ?_⟩
        refine ⟨p1, _, _, rfl, .inl (O.at 0), rfl, kok_en e 4, getT_dm inj_en Es (fun e => D.int (N' e : Nat)) e he, itB (fun h => ?_) (fun h => ?_)⟩
        · rw [decide_eq_true_eq] at h
          have hlt : N' e < N' x.1 + x.2 := by omega
          have H' := H.put R hb he hx hlt
          have hle := H'.le hb he
          rw [upd1_same] at hle
          refine ⟨p1, _, _, rfl, .inl (O.at 0), rfl, kok_en x.1 4, getT_dm inj_en Es (fun e => D.int (N' e : Nat)) x.1 hx1, ?_⟩
          refine ⟨p1, _, rfl, O.at 0, rfl, kok_en e 4, by rw [dm_len]; have := R.few; omega, ?_⟩
          have e1 : ((N' x.1 : Nat) : Int) + ((x.2 : Nat) : Int) = ((N' x.1 + x.2 : Nat) : Int) := by omega
          rw [e1, dm_put he]
          have O := O.set (o' := .dT (dm enD Es fun a => .int ((upd1 N' e (N' x.1 + x.2) a : Nat)))) 0
          refine ⟨p2, _, rfl, O.at 1, rfl, kok_en e 4, by rw [dm_len]; have := R.few; omega, ?_⟩
          rw [dm_putC he]
          have O := O.set (o' := .dT (dm enD Es fun a => optE (upd1 C' e (some x.1) a))) 1
          refine hk2 _ _ ⟨_, _, true, _, _, rfl, O, H', .inr ⟨rfl, ?_⟩⟩
          have := smm_lt R.nd he hlt hle
          rcases alt with ⟨_, a2, _⟩ | ⟨_, a2⟩
          · rw [a2] at this
            rw [a2]
            exact this
          · omega
        · rw [decide_eq_false_iff_not] at h
          refine hk2 _ _ ⟨N', C', c', _, _, rfl, O, H, ?_⟩
          rcases alt with ⟨a1, a2, a3, a4⟩ | a
          · refine .inl ⟨a1, a2, a3, fun y hy => ?_⟩
            rcases List.mem_append.1 hy with hy | hy
            · exact a4 y hy
            · rw [List.mem_singleton.mp hy]
              rw [a2] at h
              omega
          · exact .inr a
      · rintro δ S' ⟨N', C', c', v5, v6, rfl, O, H, alt⟩
        refine hk _ _ ⟨N', C', c', _, _, _, rfl, O, H, ?_⟩
        rcases alt with ⟨a1, a2, a3, a4⟩ | a
        · refine .inl ⟨a1, a2, fun a ha => ?_⟩
          rcases List.mem_append.1 ha with ha | ha
          · exact a3 a ha
          · rw [List.mem_singleton.mp ha]; exact a4
        · exact .inr a
    · rintro δ S' ⟨N', C', c', v3, v5, v6, rfl, O, H, alt⟩
      have O := O.keep (List.sublist_append_left [_, _] [_])
      rcases alt with ⟨a1, a2, a3⟩ | ⟨a1, a2⟩
      · exact ⟨2 * smm B Es N' + 0, by rw [a2]; omega, N', C', c', _, _, _, rfl, O, H, (fun _ e he => by rw [a2]; exact a3 e (List.mem_reverse.mpr he)), by rw [a1]; rfl⟩
      · exact ⟨2 * smm B Es N' + 1, by omega, N', C', c', _, _, _, rfl, O, H, (fun h => by rw [a1] at h; cases h), by rw [a1]; rfl⟩
  · exact ⟨Nat.le_of_ble_eq_true rfl, S', Sub.refl _, hQ N C p1 p2 S' ⟨H, hf hc⟩ O⟩
end L3
end
section
set_option maxRecDepth 10000
/-! L4Grow: no round, no growth. No readings here. -/
namespace L3
open PySem
theorem mk_wd {P : Pg} {s : Spt} {w : Str} (h : mk P s = some w) : Wd P w := by
  unfold mk lineAt at h
  split at h
  · cases h
  · cases e : (lines P s.part)[s.k]? with
    | none => (rw [e] at h; cases h)
    | some l => rw [e] at h; exact ⟨_, _, l, e, h⟩
/-- the live rooms: where made, their words -/
def livS (P : Pg) (M : Mn) (r : List Spt) : List (Spt × Str) := r.foldl (fun l s => l.filter (fun x => decide (x.2 ∉ gv M s)) ++ ((mk P s).map fun w => (s, w)).toList) []
theorem livS_snoc (P : Pg) (M : Mn) (r : List Spt) (s : Spt) : livS P M (r ++ [s]) = (livS P M r).filter (fun x => decide (x.2 ∉ gv M s)) ++ ((mk P s).map fun w => (s, w)).toList := by
  unfold livS
  rw [List.foldl_append]
  rfl
theorem livS_map {P : Pg} {M : Mn} {r : List Spt} {t : Spt} (h : Rn P r t) : (livS P M r).map (·.2) = liv P M r := by
  induction h with
  | fst => rfl
  | @step r s t _ _ ih =>
    rw [livS_snoc, liv_snoc, List.map_append, ← ih, List.filter_map]
    congr 1
    cases mk P s <;> rfl
def NoGrow (P : Pg) (M : Mn) : Prop := ∀ w s r, ¬ Round P M w s r
theorem livS_inv {P : Pg} {M : Mn} (ng : NoGrow P M) {r : List Spt} {t : Spt} (h : Rn P r t) :
    ((livS P M r).map (·.1)).Nodup ∧ ∀ x ∈ livS P M r, Reach P x.1 ∧ mk P x.1 = some x.2 ∧ ∃ q, Pth P (· ∈ nx P x.1) (fun y => Reach P y ∧ x.2 ∈ gv M y) q t := by
  induction h with
  | fst => exact ⟨List.nodup_nil, fun x h => nomatch h⟩
  | @step r t t' hr ht ih =>
    obtain ⟨nd, hx⟩ := ih
    rw [livS_snoc]
    have sub : ((livS P M r).filter fun x => decide (x.2 ∉ gv M t)).Sublist (livS P M r) := List.filter_sublist
    have old : ∀ x ∈ (livS P M r).filter (fun x => decide (x.2 ∉ gv M t)), Reach P x.1 ∧ mk P x.1 = some x.2 ∧ ∃ q, Pth P (· ∈ nx P x.1) (fun y => Reach P y ∧ x.2 ∈ gv M y) q t' := fun x hm => by
      obtain ⟨m1, m2⟩ := List.mem_filter.mp hm
      obtain ⟨h1, h2, q, hq⟩ := hx x m1
      exact ⟨h1, h2, q ++ [t'], .more hq (fun z => (of_decide_eq_true m2) z.2) ht⟩
    cases e : mk P t with
    | none =>
      rw [show ((none : Option Str).map fun w => (t, w)).toList = [] from rfl, List.append_nil]
      exact ⟨nd.sublist (sub.map _), old⟩
    | some w =>
      rw [show ((some w).map fun w => (t, w)).toList = [(t, w)] from rfl, List.map_append]
      refine ⟨nodup_snoc (nd.sublist (sub.map _)) fun hm => ?_, fun x hm => ?_⟩
      · obtain ⟨y, hy, ey⟩ := List.mem_map.mp hm
        obtain ⟨m1, m2⟩ := List.mem_filter.mp hy
        obtain ⟨h1, h2, q, hq⟩ := hx y m1
        have ey' : y.1 = t := ey
        rw [ey', e] at h2
        have e2 : w = y.2 := Option.some.inj h2
        rw [ey'] at hq
        rw [← e2] at hq m2
        exact ng w t q ⟨hr.reach, e, of_decide_eq_true m2, hq⟩
      · rcases List.mem_append.1 hm with hm | hm
        · exact old x hm
        · rw [List.mem_singleton.1 hm]
          exact ⟨hr.reach, e, [t'], .one ht⟩
theorem liv_few {P : Pg} {M : Mn} (G : Good P) (ng : NoGrow P M) (r : List Spt) (t : Spt) (h : Rn P r t) : (liv P M r).length ≤ 162 := by
  obtain ⟨nd, hx⟩ := livS_inv ng h
  rw [← livS_map h, List.length_map, ← List.length_map (f := (·.1))]
  refine few_spots G nd fun s hs => ?_
  obtain ⟨x, hm, rfl⟩ := List.mem_map.mp hs
  exact (hx x hm).1.vld G
theorem liv_wd {P : Pg} {M : Mn} {r : List Spt} {t : Spt} (h : Rn P r t) : ∀ w ∈ liv P M r, Wd P w := by
  induction h with
  | fst => exact fun w h => nomatch h
  | @step r s t _ _ ih =>
    intro w hw
    rw [liv_snoc] at hw
    rcases List.mem_append.mp hw with hw | hw
    · exact ih w (List.mem_filter.mp hw).1
    · cases e : mk P s with
      | none => rw [e] at hw; cases hw
      | some x =>
        rw [e] at hw
        rw [List.mem_singleton.mp hw]
        exact mk_wd e
section
variable {P : Pg} {M : Mn} {ws : List Str} {S : Sto} {r : Addr} {Es : List Ent} {A : Ent → Addr} {es : Ent → List (Ent × Nat)} {N : Ent → Nat} {C : Ent → Option Ent}
/-- numbers is above every run -/
theorem Bet.above (R : Rws P M ws S r Es A es) (H : Bet P M Es es N C) {q : List Spt} {t : Spt} (h : Rn P q t) : ∀ W, (t, W) ∈ Es → cnt P M q W ≤ N (t, W) := by
  induction h with
  | fst => exact fun W _ => Nat.zero_le _
  | @step q s t hq ht ih =>
    intro W hW
    have hx : bk1 P M W s ∈ es (t, W) := (R.step (t, W) hW _).mpr ⟨s, hq.reach, ht, rfl⟩
    have h1 := R.cl _ hW _ hx
    have h2 := H.fix _ hW _ hx
    have h3 := ih (bk1 P M W s).1.2 h1
    rw [cnt_snoc]
    have h4 : N ((bk1 P M W s).1) = N (s, (bk1 P M W s).1.2) := rfl
    omega
theorem liv_cnt (hws : IsWords P ws) {q : List Spt} {t : Spt} (h : Rn P q t) : cnt P M q ws = (liv P M q).length := by
  unfold cnt
  rw [List.filter_eq_self.mpr]
  intro w hw
  exact decide_eq_true ((hws.mem w).mpr (liv_wd h w hw))
end
end L3
end
section
set_option maxRecDepth 10000
set_option maxHeartbeats 4200000
/-! L4Most: run_back, table_of, most. -/
namespace L3
open PySem
inductive ChL (C : Ent → Option Ent) : Ent → List Ent → Prop
  | nil {e : Ent} : C e = none → ChL C e [e]
  | step {e y : Ent} {l : List Ent} : C e = some y → ChL C y l → ChL C e (e :: l)
theorem Chn.list {C : Ent → Option Ent} {e : Ent} (h : Chn C e) : ∃ l, ChL C e l := by
  induction h with
  | nil h => exact ⟨_, .nil h⟩
  | step h _ ih =>
    obtain ⟨l, hl⟩ := ih
    exact ⟨_, .step h hl⟩
theorem ChL.det {C : Ent → Option Ent} {e : Ent} {l l' : List Ent} (h : ChL C e l) : ChL C e l' → l = l' := by
  induction h generalizing l' with
  | nil h =>
    intro g
    cases g with
    | nil => rfl
    | step g _ => rw [h] at g; cases g
  | step h _ ih =>
    intro g
    cases g with
    | nil g => rw [h] at g; cases g
    | step g g2 =>
      rw [h] at g
      cases g
      rw [ih g2]
theorem ChL.tail {C : Ent → Option Ent} {e : Ent} {l : List Ent} (h : ChL C e l) : ∀ x ∈ l, ∃ l2, ChL C x l2 ∧ l2.length ≤ l.length := by
  induction h with
  | nil h => exact fun x hx => ⟨_, by rw [List.mem_singleton.mp hx]; exact .nil h, Nat.le_refl _⟩
  | step h hl ih =>
    intro x hx
    rcases List.mem_cons.1 hx with e | hx
    · rw [e]
      exact ⟨_, .step h hl, Nat.le_refl _⟩
    · obtain ⟨l2, h1, h2⟩ := ih x hx
      exact ⟨l2, h1, Nat.le_trans h2 (Nat.le_succ _)⟩
theorem ChL.nodup {C : Ent → Option Ent} {e : Ent} {l : List Ent} (h : ChL C e l) : l.Nodup := by
  induction h with
  | nil => exact List.nodup_cons.mpr ⟨by simp, List.nodup_nil⟩
  | step h hl ih =>
    refine List.nodup_cons.mpr ⟨fun hm => ?_, ih⟩
    obtain ⟨l2, h1, h2⟩ := hl.tail _ hm
    have := (ChL.step h hl).det h1
    rw [← this, List.length_cons] at h2
    omega
theorem ChL.mem {C : Ent → Option Ent} {Es : List Ent} (cl : ∀ a ∈ Es, ∀ y, C a = some y → y ∈ Es) {e : Ent} {l : List Ent} (h : ChL C e l) (he : e ∈ Es) : ∀ x ∈ l, x ∈ Es := by
  induction h with
  | nil => exact fun x hx => by rw [List.mem_singleton.mp hx]; exact he
  | step h hl ih =>
    intro x hx
    rcases List.mem_cons.mp hx with q | hx
    · rw [q]; exact he
    · exact ih (cl _ he _ h) x hx
def p_run_back : F3 := fun ds S Q => ∃ (P : Pg) (c : Addr) (Es : List Ent) (C : Ent → Option Ent) (e : Ent), ds = [pgD P, .ref c, enD e] ∧ Good P ∧ S c = some (.dT (dm enD Es fun e => optE (C e))) ∧ e ∈ Es ∧ Es.length ≤ 1296 ∧
  (∀ a ∈ Es, ∀ y, C a = some y → y ∈ Es) ∧ (∀ a ∈ Es, Reach P a.1) ∧ Chn C e ∧ ∀ l p, S p = none → Q (.ref p) (S.put p (.lst l))
def p_table_of : F3 := fun ds S Q => ∃ (P : Pg) (c : Addr) (Es : List Ent) (N : Ent → Nat), ds = [pgD P, .ref c] ∧ Good P ∧ S c = some (.dT (dm enD Es fun e => .int (N e : Nat))) ∧ Es.length ≤ 1296 ∧ (∀ a ∈ Es, Reach P a.1) ∧
  (∀ e ∈ Es, ∀ w ∈ e.2, PyData.strOk w = true) ∧ ∀ l p, S p = none → Q (.ref p) (S.put p (.lst l))
theorem k_run_back : Keeps 4 3 (b_run_back p_run_to) p_run_back := by
  refine ⟨fun ds S Q ⟨P, c, Es, C, e, h, _⟩ => by rw [h]; rfl, fun ds S Q ⟨P, c, Es, C, e, h, G, hc, he, few, cl, rc, hch, hQ⟩ => ?_⟩
  subst h
  obtain ⟨ch, hl⟩ := hch.list
  have hm := hl.mem cl he
  have hlen : ch.length ≤ 1296 := Nat.le_trans (nodup_le hl.nodup hm) few
  refine ⟨Nat.zero_le _, fun pr hr => ?_⟩
  have O := (Own.start S).add (o := .lst []) hr
  refine ⟨fun m δ S' => ∃ (R : List Spt) (v : Option Ent), δ = [some (pgD P), some (.ref c), some (optE v), some (.ref pr)] ∧ Own S S' [(pr, .lst (R.map spD))] ∧ (∀ x ∈ R, Reach P x) ∧
    ((v = none ∧ R ≠ [] ∧ R.length ≤ 1296) ∨ ∃ x l, v = some x ∧ x ∈ Es ∧ ChL C x l ∧ R.length + l.length ≤ 1296 ∧ m = l.length), ⟨_, [], some e, rfl, O, (fun x h => nomatch h), .inr ⟨e, ch, rfl, he, hl, by show 0 + _ ≤ _; omega, rfl⟩⟩, ?_⟩
  rintro m δ S' ⟨R, v, rfl, O, rR, hv⟩
  rcases hv with ⟨rfl, hne, hR⟩ | ⟨x, l, rfl, hx, hl, hR, hm⟩
  · refine ⟨_, O.at 0, ?_⟩
    rw [← List.map_reverse]
    have O := O.set (o' := .lst (R.reverse.map spD)) 0
    obtain ⟨r0, x0, rfl⟩ := last_snoc hne
    rw [List.reverse_append] at O ⊢
    have hx0 : Reach P x0 := rR x0 (by simp)
    refine ⟨_, spD x0, O.at 0, at0, P, x0, rfl, G, hx0, fun q hq hql n hn => ?_⟩
    have O := O.add (o := .lst (q.map spD)) hn
    refine ⟨_, put_same, fun n2 hn2 => ?_⟩
    have O := O.add (o := .lst (cut (q.map spD) none (some (-1)))) hn2
    refine ⟨_, _, put_same, O.at 0, ?_, fun n3 hn3 => ?_⟩
    · rw [cut_last, List.length_dropLast]
      simp only [List.length_map, List.length_append, List.length_reverse, List.length_singleton] at hR ⊢
      omega
    · exact ⟨_, (O.add (o := .lst (cut (q.map spD) none (some (-1)) ++ ([x0].reverse ++ r0.reverse).map spD)) hn3).put_sub 3, hQ _ n3 (O.fresh hn3)⟩
  · refine ⟨⟨pr, _, rfl, O.at 0⟩, spD x.1, rfl, _, O.at 0, by rw [List.length_map]; omega, ?_⟩
    rw [snoc_map]
    have O := O.set (o' := .lst ((R ++ [x.1]).map spD)) 0
    have rR' : ∀ y ∈ R ++ [x.1], Reach P y := fun y hy => by
      rcases List.mem_append.1 hy with hy | hy
      · exact rR y hy
      · rw [List.mem_singleton.mp hy]; exact rc x hx
    refine ⟨c, _, _, rfl, .inl (O.old hc), rfl, kok_en x 4, getT_dm inj_en Es (fun e => optE (C e)) x hx, ?_⟩
    cases hl with
    | nil h =>
      rw [h]
      exact ⟨0, by rw [hm]; exact Nat.zero_lt_succ _, R ++ [x.1], none, rfl, O, rR', .inl ⟨rfl, by simp, by rw [List.length_append]; exact hR⟩⟩
    | @step _ y l2 h hl2 =>
      rw [h]
      refine ⟨l2.length, by rw [hm]; exact Nat.lt_succ_self _, R ++ [x.1], some y, rfl, O, rR', .inr ⟨y, l2, rfl, cl x hx y h, hl2, ?_, rfl⟩⟩
      rw [List.length_append, List.length_singleton]; rw [List.length_cons] at hR
      omega
theorem Own.lock {S S' : Sto} {ps : List (Addr × AO)} {c : Addr} {o l : AO} (hc : S c = some o) (O : Own S S' ps) : Own (S.put c l) (S'.put c l) ps := by
  have ne : ∀ x ∈ ps, x.1 ≠ c := fun x hx q => by
    have := O.none x hx
    rw [q, hc] at this
    cases this
  exact ⟨O.sub.put, fun x hx => (put_ne (ne x hx)).trans (O.none x hx), fun x hx => (put_ne (ne x hx)).trans (O.at_ x hx), O.nd⟩
theorem num_snoc {l : List Spt} {f : Spt → Nat} {s : Spt} (hs : s ∉ l) (v : Nat) : putT (dm spD l fun x => .int (f x : Nat)) (spD s) (.int (v : Nat)) = dm spD (l ++ [s]) fun x => .int ((upd1 f s v x : Nat)) := by
  rw [putT_dm inj_sp, if_neg hs]
  refine dm_congr fun x _ => ?_
  unfold upd1
  split <;> rfl
theorem k_table_of : Keeps 6 2 (b_table_of p_spots) p_table_of := by
  refine ⟨fun ds S Q ⟨P, c, Es, N, h, _⟩ => by rw [h]; rfl, fun ds S Q ⟨P, c, Es, N, h, G, hc, few, rc, hok, hQ⟩ => ?_⟩
  subst h
  intro pl hpl
  have O := (Own.start S).add (o := .dT []) hpl
  refine ⟨P, rfl, G, fun L hL nd fewL q hq => ⟨_, put_same, ?_⟩⟩
  have O := O.add (o := .lst (L.map spD)) hq
  refine for_num (f := spD) (fun l δ S' => ∃ (v3 v4 : Option D) (f : Spt → Nat), δ = [some (pgD P), some (.ref c), some (.ref pl), v3, v4, none] ∧ Own S S' [(pl, .dT (dm spD l fun x => .int (f x : Nat))), (q, .lst (L.map spD))]) L
    ⟨_, _, fun _ => 0, rfl, O⟩ (fun l δ S' ⟨_, _, _, _, O⟩ => O.at 1) ?_ ?_
  · rintro l s r δ S' e ⟨v3, v4, f, rfl, O⟩ k hk
    have hs : s ∉ l := nodup_mid nd e
    have ll : l.length ≤ 162 := by
      rw [e, List.length_append] at fewL
      omega
    refine ⟨rfl, rfl, ?_⟩
    refine ⟨pl, _, rfl, O.at 0, rfl, kok_sp s 5, by rw [dm_len]; omega, ?_⟩
    rw [num_snoc hs]
    exact hk _ _ ⟨_, _, upd1 f s l.length, rfl, O.set 0⟩
  rintro δ S1 ⟨v3, v4, f, rfl, O⟩
  refine ⟨c, _, rfl, O.old hc, ?_⟩
  have OL := Own.lock (l := .lk (dm enD Es fun e => .int (N e : Nat))) hc O
  refine ⟨c, _, rfl, put_same, ?_⟩
  rw [dm_keys]
  refine lc_pure (f := enD) (· = S1.put c (.lk (dm enD Es fun e => .int (N e : Nat)))) (fun e => some (.tup [.int (f e.1 : Nat), .tup (e.2.map D.str), .int (N e : Nat)])) Es [] _ _ rfl (fun S' e => by rw [e]; exact put_same) (by show 0 + _ ≤ _; omega) ?_ ?_
  · rintro e he S' rfl k1 k2 hk
    have hs : e.1 ∈ L := (hL e.1).mpr (rc e he)
    refine ⟨rfl, rfl, ?_⟩
    refine ⟨pl, _, _, rfl, .inl (OL.at 0), rfl, kok_sp e.1 5, getT_dm inj_sp L (fun x => D.int (f x : Nat)) e.1 hs, ?_⟩
    refine ⟨Nat.le_of_ble_eq_true rfl, c, _, _, rfl, .inr put_same, rfl, kok_en e 4, getT_dm inj_en Es (fun e => D.int (N e : Nat)) e he, ?_⟩
    exact ⟨Nat.le_of_ble_eq_true rfl, hk _ rfl⟩
  rintro S' rfl n hn
  rw [List.nil_append, List.filterMap_eq_map']
  have OL2 := OL.add (o := .lst (Es.map fun e => .tup [.int (f e.1 : Nat), .tup (e.2.map D.str), .int (N e : Nat)])) hn
  refine ⟨_, put_same, by rw [List.length_map]; omega, all_map fun e he => ?_, all_map fun e he => ?_, fun ys n2 hn2 => ⟨?_, ?_⟩⟩
  · show (e.2.map D.str).all _ = true
    exact all_map fun w _ => rfl
  · show (true && (D.oks 18 (e.2.map D.str) && (true && true))) = true
    rw [oks_map (f := D.str) (n := 18) e.2 fun w hw => by show PyData.strOk w = true; exact hok e he w hw]
    rfl
  · have OL3 := OL2.add (o := .lst ys) hn2
    exact OL3.old put_same
  · have OL3 := OL2.add (o := .lst ys) hn2
    exact ⟨_, (OL3.relock hc).put_sub 3, hQ ys n2 ((OL3.relock hc).free 3)⟩

def p_most : F3 := fun ds S Q => ∃ (P : Pg) (M : Mn) (m : Addr), ds = [pgD P, .ref m] ∧ Good P ∧ S m = some (.lst (M.map mnD)) ∧ M.length ≤ 1000 ∧
  (∀ w s r pre, Round P M w s r → Pth P (· = fst_) (fun _ => False) pre s → r.length ≤ 162 → pre.length ≤ 162 → ∀ q1 q2 S', Own S S' [(q1, .lst (pre.map spD)), (q2, .lst ((s :: r).map spD))] → Q (.tup [.str "grows", .str w, .ref q1, .ref q2]) S') ∧
  ∀ n : Nat, (∀ r t, Rn P r t → (liv P M r).length ≤ n) → (∃ r t, Rn P r t ∧ n ≤ (liv P M r).length) → ∀ d1 d2 S', Sub S S' → Q (.tup [.str "most", .int (n : Nat), d1, d2]) S'
theorem k_most : Keeps 9 2 (b_most p_words_of p_bettered p_spots p_growing_round p_wanted_entries p_first_spot p_run_back p_table_of p_run_to) p_most := by
  refine ⟨fun ds S Q ⟨P, M, m, h, _⟩ => by rw [h]; rfl, fun ds S Q ⟨P, M, m, h, G, hM, hl, hG, hN⟩ => ?_⟩
  subst h
  refine ⟨P, rfl, G, fun ys hys q hq => ⟨_, put_same, ?_⟩⟩
  have O := (Own.start S).add (o := .lst (ys.map D.str)) hq
  refine for_pre (f := D.str) (fun l δ S' => ∃ v2 v3 : Option D, δ = [some (pgD P), some (.ref m), v2, v3, none, none, none, none, none] ∧ Own S S' [(q, .lst (ys.map D.str))] ∧ ∀ w ∈ l, ∀ s r, ¬ Round P M w s r) ys ⟨_, _, rfl, O, (fun w h => nomatch h)⟩
    (fun l δ S' ⟨_, _, _, O, _⟩ => O.at 0) ?_ ?_
  · rintro l w r δ S' e ⟨v2, v3, rfl, O, no⟩ k hk
    refine ⟨P, M, m, w, rfl, G, O.old hM, hl, fun hno => ?_, fun s rr hr hlr n1 h1 => ?_⟩
    · refine hk _ _ ⟨_, _, rfl, O, fun x hx => ?_⟩
      rcases List.mem_append.1 hx with hx | hx
      · exact no x hx
      · rw [List.mem_singleton.mp hx]; exact hno
    · have O := O.add (o := .lst ((s :: rr).map spD)) h1
      refine ⟨_, spD s, O.at 1, at0, P, s, rfl, G, hr.1, fun pre hp hlp n2 h2 => ?_⟩
      have O := O.add (o := .lst (pre.map spD)) h2
      refine ⟨Nat.le_of_ble_eq_true rfl, _, Sub.refl _, hG w s rr pre hr hp hlr hlp n2 n1 _ (O.perm (qs := [(n2, .lst (pre.map spD)), (n1, .lst ((s :: rr).map spD)), (q, .lst (ys.map D.str))]) ?_ |>.keep (List.sublist_append_left [_, _] [_]))⟩
      exact (List.reverse_perm [(q, AO.lst (ys.map D.str)), (n1, .lst ((s :: rr).map spD)), (n2, .lst (pre.map spD))])
  rintro δ S1 ⟨v2, v3, rfl, O, no⟩
  have ng : NoGrow P M := fun w s r hr => no w ((hys.mem w).mpr (mk_wd hr.2.1)) s r hr
  have hb := liv_few G ng
  refine ⟨P, M, m, rfl, G, O.old hM, hl, fun ws S2 rr Es A es hws s2 hr0 R => ?_⟩
  refine ⟨P, M, ws, rr, Es, A, es, 162, rfl, R, hb, fun N C p1 p2 S3 H O3 => ?_⟩
  refine ⟨rfl, rfl, ?_⟩
  refine ⟨P, rfl, G, fun ys2 hys2 n1 h1 => ⟨_, put_same, ?_⟩⟩
  obtain rfl := hys2.one hws
  have O4 := O3.add (o := .lst (ys2.map D.str)) h1
  refine ⟨rfl, Nat.le_of_ble_eq_true rfl, ?_⟩
  refine ⟨P, rfl, G, fun L hL nd fewL n2 h2 => ⟨_, put_same, ?_⟩⟩
  have O5 := O4.add (o := .lst (L.map spD)) h2
  refine for_pre (f := spD) (fun l δ S' => ∃ (b : Spt) (v8 : Option D), δ = [some (pgD P), some (.ref m), v2, v3, some (.ref p1), some (.ref p2), some (.tup (ys2.map D.str)), some (enD (b, ys2)), v8] ∧
    Own S2 S' [(p1, .dT (dm enD Es fun e => .int (N e : Nat))), (p2, .dT (dm enD Es fun e => optE (C e))), (n1, .lst (ys2.map D.str)), (n2, .lst (L.map spD))] ∧ Reach P b ∧ ∀ s ∈ l, N (s, ys2) ≤ N (b, ys2)) L ⟨fst_, _, rfl, O5, .fst, (fun s h => nomatch h)⟩
    (fun l δ S' ⟨_, _, _, O, _⟩ => O.at 3) ?_ ?_
  · rintro l s r δ S' e ⟨b, v8, rfl, O, rb, hb⟩ k hk
    have hs : Reach P s := (hL s).mp (by rw [e]; simp)
    have me := R.all s hs
    have mb := R.all b rb
    refine ⟨Nat.le_of_ble_eq_true rfl, p1, _, _, rfl, .inl (O.at 0), rfl, kok_en (s, ys2) 4, getT_dm inj_en Es (fun e => D.int (N e : Nat)) (s, ys2) me, ?_⟩
    refine ⟨p1, _, _, rfl, .inl (O.at 0), rfl, kok_en (b, ys2) 4, getT_dm inj_en Es (fun e => D.int (N e : Nat)) (b, ys2) mb, itB (fun h => ?_) (fun h => ?_)⟩
    · rw [decide_eq_true_eq] at h
      refine ⟨Nat.le_of_ble_eq_true rfl, hk _ _ ⟨s, _, rfl, O, hs, fun x hx => ?_⟩⟩
      rcases List.mem_append.1 hx with hx | hx
      · have := hb x hx
        omega
      · rw [List.mem_singleton.mp hx]
        exact Nat.le_refl _
    · rw [decide_eq_false_iff_not] at h
      refine hk _ _ ⟨b, _, rfl, O, rb, fun x hx => ?_⟩
      rcases List.mem_append.1 hx with hx | hx
      · exact hb x hx
      · rw [List.mem_singleton.mp hx]
        omega
  rintro δ S6 ⟨b, v8, rfl, O, rb, hbest⟩
  have mb := R.all b rb
  have cl : ∀ a ∈ Es, ∀ y, C a = some y → y ∈ Es := fun a ha y hy => by
    obtain ⟨w, h1, _⟩ := H.nums.back a ha y hy
    exact R.cl a ha _ h1
  refine ⟨p1, _, _, rfl, .inl (O.at 0), rfl, kok_en (b, ys2) 4, getT_dm inj_en Es (fun e => D.int (N e : Nat)) (b, ys2) mb, ?_⟩
  refine ⟨P, p2, Es, C, (b, ys2), rfl, G, O.at 1, mb, R.few, cl, R.reach, H.nums.chn _ mb, fun l n3 h3 => ?_⟩
  have O := O.junk (o := .lst l) h3
  refine ⟨P, p1, Es, N, rfl, G, O.at 0, R.few, R.reach, R.ok, fun l2 n4 h4 => ?_⟩
  have O := O.junk (o := .lst l2) h4
  refine ⟨Nat.le_of_ble_eq_true rfl, _, Sub.refl _, hN _ (fun r t ht => ?_) ?_ _ _ _ ?_⟩
  · rw [← liv_cnt hws ht]
    exact Nat.le_trans (H.above R ht ys2 (R.all t ht.reach)) (hbest t ((hL t).mpr ht.reach))
  · obtain ⟨r, h1, h2⟩ := H.nums.ach _ mb
    exact ⟨r, b, h1, Nat.le_trans h2 (cnt_le ..)⟩
  · exact (‹Own S S1 _›.sub.trans s2).trans O.sub
end L3
end
section
set_option maxRecDepth 10000
set_option maxHeartbeats 4200000
/-! L5Feed: what is drawn. -/
namespace L3
open PySem
def fdl (a b : Int) : AO := .lst [.int a, .int b]
structure Fdok (a b : Int) : Prop where
  a0 : 0 ≤ a
  b0 : 0 ≤ b
  b1 : b < 2 ^ 40
theorem Own.feed {S S' : Sto} {ps : List (Addr × AO)} {f : Addr} {o o' : AO} (O : Own (S.put f o) S' ps) : Own (S.put f o') (S'.put f o') ps := by
  have q := Own.lock (l := o') put_same O
  rw [put_put] at q
  exact q
/-- a comprehension, what is made kept in sight -/
theorem lc_inv {α : Type} {f : α → D} {G : Sto → Prop} {g : G3} {c : B3} {e : T3} {δ : E3} (I : List α → List D → Sto → Prop) (xs : List α) {S : Sto} {Q : List D → Sto → Prop} (h0 : I [] [] S) (hG : ∀ l acc S, I l acc S → G S)
    (hl : ∀ l acc S, I l acc S → acc.length < 100000)
    (hs : ∀ l x r acc S, xs = l ++ x :: r → I l acc S → ∀ (k1 : D → Sto → Prop) (k2 : Sto → Prop), (∀ d S', I (l ++ [x]) (acc ++ [d]) S' → k1 d S') → (∀ S', I (l ++ [x]) acc S' → k2 S') →
      g (f x) δ S fun δ1 S1 => c δ1 S1 fun k S2 => if k = true then e δ1 S2 k1 else k2 S2)
    (hE : ∀ acc S, I xs acc S → Q acc S) : lcD G g c e δ (xs.map f) [] S Q := by
  have go : ∀ (r l : List α) (acc : List D) (S : Sto), xs = l ++ r → I l acc S → lcD G g c e δ (r.map f) acc S Q := by
    intro r
    induction r with
    | nil =>
      intro l acc S e h
      rw [List.append_nil] at e
      subst e
      exact ⟨hG _ _ _ h, hE _ _ h⟩
    | cons x r ih =>
      intro l acc S e h
      have e2 : xs = (l ++ [x]) ++ r := by rw [e, List.append_assoc]; rfl
      exact ⟨hG _ _ _ h, hs l x r acc S e h _ _ (fun d S' h' => ⟨hl _ _ _ h, ih (l ++ [x]) (acc ++ [d]) S' e2 h'⟩) fun S' h' => ih (l ++ [x]) acc S' e2 h'⟩
  exact go xs [] [] S rfl h0
theorem rangeD_map : ∀ (n lo : Nat), rangeD (lo : Int) n = (List.range' lo n).map fun i => .int (i : Nat)
  | 0, _ => rfl
  | n + 1, lo => by
    show D.int (lo : Int) :: rangeD ((lo : Int) + 1) n = _
    rw [show ((lo : Nat) : Int) + 1 = ((lo + 1 : Nat) : Int) by omega, rangeD_map n (lo + 1)]
    rfl
theorem range0 (n : Nat) : rangeD 0 n = (List.range n).map fun i => .int (i : Nat) := by
  rw [List.range_eq_range']
  exact rangeD_map n 0
def p_law_take : F3 := fun ds S Q => ∃ (f : Addr) (a b : Int) (m : Nat), ds = [.ref f, .int (m : Nat)] ∧ S f = some (fdl a b) ∧ Fdok a b ∧ 0 < m ∧ m < 1000000 ∧ ∀ (v : Nat) a' b', v < m → Fdok a' b' → Q (.int (v : Nat)) (S.put f (fdl a' b'))
def p_law_feed : F3 := fun ds S Q => ∃ (ns : List Int) (k : Nat), ds = [.src ns, .int (k : Nat)] ∧ k < 1000 ∧ ∀ a b p, Fdok a b → S p = none → Q (.ref p) (S.put p (fdl a b))
theorem k_law_take : Keeps 3 2 b_law_take p_law_take := by
  refine ⟨fun ds S Q ⟨f, a, b, m, h, _⟩ => by rw [h]; rfl, fun ds S Q ⟨f, a, b, m, h, hf, ok, m0, m1, hQ⟩ => ?_⟩
  subst h
  have em : ∀ x : Int, x % (m : Int) = ((x % (m : Int)).toNat : Nat) := fun x => by
    have := Int.emod_nonneg x (show (m : Int) ≠ 0 by omega)
    omega
  have lm : ∀ x : Int, (x % (m : Int)).toNat < m := fun x => by
    have := Int.emod_lt_of_pos x (show (0 : Int) < m by omega)
    have := Int.emod_nonneg x (show (m : Int) ≠ 0 by omega)
    omega
  refine ⟨_, _, hf, at0, itB (fun h => ?_) (fun h => ?_)⟩
  · refine ⟨_, _, hf, at0, by show (0 : Int) < m; omega, ?_⟩
    refine ⟨_, _, hf, at0, by show (0 : Int) < m; omega, by show (m : Int) < 1073741824; omega, ?_⟩
    refine ⟨f, 0, _, 0, rfl, rfl, hf, rfl, ?_⟩
    refine ⟨_, Sub.refl _, ?_⟩
    rw [em a]
    exact hQ _ _ b (lm a) ⟨Int.ediv_nonneg ok.a0 (by omega), ok.b0, ok.b1⟩
  · refine ⟨_, _, hf, rfl, ?_⟩
    have b0 := ok.b0
    have b1 := ok.b1
    refine ⟨by omega, by omega, by decide, ?_⟩
    refine ⟨f, 1, _, 1, rfl, rfl, hf, rfl, ?_⟩
    refine ⟨_, _, put_same, rfl, by decide, by decide, by show (0 : Int) < m; omega, _, Sub.refl _, ?_⟩
    rw [em _]
    exact hQ _ a _ (lm _) ⟨ok.a0, Int.emod_nonneg _ (by decide), by
      have := Int.emod_lt_of_pos (b * 69621 + 12345) (show (0 : Int) < 2147483647 by decide)
      omega⟩
theorem k_law_feed : Keeps 4 2 b_law_feed p_law_feed := by
  refine ⟨fun ds S Q ⟨ns, k, h, _⟩ => by rw [h]; rfl, fun ds S Q ⟨ns, k, h, hk, hQ⟩ => ?_⟩
  subst h
  -- from the cell on
  have fin : ∀ cell dg : Int, 0 ≤ dg → ∀ p, S p = none → ∃ S'', Sub S'' (S.put p (.lst [.int dg, .int (cell % 2147483647 * 48271 % 2147483647 + (k : Nat))])) ∧ Q (.ref p) S'' := fun cell dg h p hp => by
    refine ⟨_, Sub.refl _, hQ _ _ p ⟨h, ?_, ?_⟩ hp⟩
    · have := Int.emod_nonneg (cell % 2147483647 * 48271) (show (2147483647 : Int) ≠ 0 by decide)
      omega
    · have := Int.emod_lt_of_pos (cell % 2147483647 * 48271) (show (0 : Int) < 2147483647 by decide)
      omega
  have mid : ∀ cell : Int, (sSeq (sAsg (xC (.int 0)) (gN 3)) (sSeq (sIf (bT (xOp rGe (xVar 2) (xOp rPow (xC (.int 10)) (xC (.int 18))))) (sAsg (xOp rSub (xVar 2) (xOp rPow (xC (.int 10)) (xC (.int 18)))) (gN 3)) sNil)
      (sRet (xLst (aCons (xVar 3) (aCons (xOp rAdd (xOp rMod (xOp rMul (xOp rMod (xVar 2) (xC (.int 2147483647))) (xC (.int 48271))) (xC (.int 2147483647))) (xVar 1)) aNil))))))
      ⟨fun _ S' => ∃ S'', Sub S'' S' ∧ Q .non S'', fun d S' => ∃ S'', Sub S'' S' ∧ Q d S''⟩ [some (.src ns), some (.int (k : Nat)), some (.int cell), none] S := fun cell => by
    have bnd : -(2 ^ 64) < cell % 2147483647 ∧ cell % 2147483647 < 2 ^ 64 := by
      have := Int.emod_nonneg cell (show (2147483647 : Int) ≠ 0 by decide)
      have := Int.emod_lt_of_pos cell (show (0 : Int) < 2147483647 by decide)
      omega
    refine ⟨⟨by decide, by decide, by decide⟩, itB (fun h => ?_) (fun h => ?_)⟩
    · refine ⟨⟨by decide, by decide, by decide⟩, ?_⟩
      rw [decide_eq_true_eq] at h
      exact ⟨by decide, bnd.1, bnd.2, by decide, Nat.le_of_ble_eq_true rfl, fun p hp => fin cell _ (by omega) p hp⟩
    · exact ⟨by decide, bnd.1, bnd.2, by decide, Nat.le_of_ble_eq_true rfl, fun p hp => fin cell 0 (by omega) p hp⟩
  refine itB (fun h => ?_) (fun h => ?_)
  · rw [decide_eq_true_eq] at h
    have hlt : k < ns.length := by omega
    exact ⟨_, atI_nat (List.getElem?_eq_getElem hlt), mid _⟩
  · exact mid 0
end L3
end
section
set_option maxRecDepth 10000
set_option maxHeartbeats 4200000
/-! L5Names: names. -/
namespace L3
open PySem
structure NmOk (xs : List Str) (m : Nat) : Prop where
  len : xs.length = m
  nd : xs.Nodup
  ok : ∀ x ∈ xs, PyData.strOk x = true
def p_law_names : F3 := fun ds S Q => ∃ (f : Addr) (a b : Int) (m : Nat), ds = [.ref f, .int (m : Nat)] ∧ S f = some (fdl a b) ∧ Fdok a b ∧ m ≤ 3 ∧
  ∀ xs a' b' p, NmOk xs m → Fdok a' b' → (S.put f (fdl a' b')) p = none → Q (.ref p) ((S.put f (fdl a' b')).put p (.lst (xs.map D.str)))
def low (x : Str) : Prop := ∀ c ∈ x.cps.toList, c < 128
theorem low.ok {x : Str} (h : low x) : PyData.strOk x = true := by
  show x.cps.all (fun c => decide (c < 0x110000)) = true
  rw [← Array.all_toList, List.all_eq_true]; intro c hc
  have := h c hc; exact decide_eq_true (by omega)
theorem app_list (x y : Str) : (x ++ y).cps.toList = x.cps.toList ++ y.cps.toList := by
  show (x.cps ++ y.cps).toList = _
  exact Array.toList_append
theorem rep_list (c n : Nat) : (strRep ⟨#[c]⟩ n).cps.toList = List.replicate n c := by
  unfold strRep
  show (List.replicate n [c]).flatten = List.replicate n c
  induction n with
  | zero => rfl
  | succ n ih => rw [List.replicate_succ, List.replicate_succ, List.flatten_cons, ih]; rfl
theorem low_app {x y : Str} (hx : low x) (hy : low y) : low (x ++ y) := fun c hc => by
  rw [app_list] at hc
  rcases List.mem_append.1 hc with h | h
  · exact hx c h
  · exact hy c h
theorem low_rep {c n : Nat} (h : c < 128) : low (strRep ⟨#[c]⟩ n) := fun d hd => by
  rw [rep_list] at hd
  rw [(List.mem_replicate.mp hd).2]
  exact h
theorem low_one {c : Nat} (h : c < 128) : low ⟨#[c]⟩ := fun d hd => by
  rw [List.mem_singleton.mp hd]
  exact h
theorem letters_list : ("abcdefghijklmnopqrstuvwxyz" : Str).cps.toList = (List.range 26).map (97 + ·) := by decide +kernel
theorem letters_at {v : Nat} (h : v < 26) : L2.atI ("abcdefghijklmnopqrstuvwxyz" : Str).cps.toList (v : Int) = some (97 + v) := by
  rw [letters_list]
  exact atI_nat (by rw [List.getElem?_map, List.getElem?_range h]; rfl)
theorem rep_len (c n : Nat) : (strRep ⟨#[c]⟩ n).length = n := by
  show (strRep ⟨#[c]⟩ n).cps.size = n
  rw [← Array.length_toList, rep_list, List.length_replicate]
theorem app_len (x y : Str) : (x ++ y).length = x.length + y.length := by
  show (x ++ y).cps.size = x.cps.size + y.cps.size
  rw [← Array.length_toList, app_list, List.length_append, Array.length_toList, Array.length_toList]
theorem nm_of {m : Nat} (h : Nat → Str) (inj : ∀ i j, i < m → j < m → h i = h j → i = j) (lo : ∀ i, i < m → low (h i)) : NmOk ((List.range m).map h) m where
  len := by rw [List.length_map, List.length_range]
  nd := by
    refine List.pairwise_map.mpr (List.Pairwise.imp_of_mem (fun {i j} hi hj hne e => hne (inj i j (List.mem_range.mp hi) (List.mem_range.mp hj) e)) List.nodup_range)
  ok := fun x hx => by
    obtain ⟨i, hi, rfl⟩ := List.mem_map.mp hx
    exact (lo i (List.mem_range.mp hi)).ok
theorem step_inj {m fi st i j : Nat} (hm : m ≤ 3) (h : st = 1 ∨ st = 3 ∨ st = 5 ∨ st = 7 ∨ st = 9 ∨ st = 11) (hi : i < m) (hj : j < m) (e : (fi + st * i) % 26 = (fi + st * j) % 26) : i = j := by
  rcases h with rfl | rfl | rfl | rfl | rfl | rfl <;> omega
theorem letters_len : ("abcdefghijklmnopqrstuvwxyz" : Str).length ≤ 100000 := Nat.le_of_ble_eq_true (by decide +kernel)
theorem six_at {v : Nat} (h : v < 6) : ∃ st : Nat, L2.atI [D.int 1, .int 3, .int 5, .int 7, .int 9, .int 11] (v : Int) = some (.int (st : Nat)) ∧ (st = 1 ∨ st = 3 ∨ st = 5 ∨ st = 7 ∨ st = 9 ∨ st = 11) := by
  match v, h with
  | 0, _ => exact ⟨1, rfl, by decide⟩
  | 1, _ => exact ⟨3, rfl, by decide⟩
  | 2, _ => exact ⟨5, rfl, by decide⟩
  | 3, _ => exact ⟨7, rfl, by decide⟩
  | 4, _ => exact ⟨9, rfl, by decide⟩
  | 5, _ => exact ⟨11, rfl, by decide⟩
  | n + 6, h => exact absurd h (by omega)
theorem eight_at {v : Nat} (h : v < 8) : ∃ sz : Nat, L2.atI [D.int 1, .int 3, .int 4, .int 5, .int 6, .int 7, .int 8, .int 1] (v : Int) = some (.int (sz : Nat)) ∧ 1 ≤ sz ∧ sz ≤ 8 := by
  match v, h with
  | 0, _ => exact ⟨1, rfl, by decide, by decide⟩
  | 1, _ => exact ⟨3, rfl, by decide, by decide⟩
  | 2, _ => exact ⟨4, rfl, by decide, by decide⟩
  | 3, _ => exact ⟨5, rfl, by decide, by decide⟩
  | 4, _ => exact ⟨6, rfl, by decide, by decide⟩
  | 5, _ => exact ⟨7, rfl, by decide, by decide⟩
  | 6, _ => exact ⟨8, rfl, by decide, by decide⟩
  | 7, _ => exact ⟨1, rfl, by decide, by decide⟩
  | n + 8, h => exact absurd h (by omega)
theorem k_law_names : Keeps 10 2 (b_law_names p_law_take) p_law_names := by
  refine ⟨fun ds S Q ⟨f, a, b, m, h, _⟩ => by rw [h]; rfl, fun ds S Q ⟨f, a, b, m, h, hf, ok, hm, hQ⟩ => ?_⟩
  subst h
  have S0 : S = S.put f (fdl a b) := (put_self hf).symm
  have O : Own (S.put f (fdl a b)) S [] := by
    rw [← S0]
    exact Own.start S
  have lat := @letters_at
  have llen := letters_len
  unfold b_law_names
  generalize ("abcdefghijklmnopqrstuvwxyz" : Str) = LT at lat llen ⊢
  refine ⟨f, a, b, 26, rfl, hf, ok, by decide, by decide, fun v a1 b1 hv ok1 => ?_⟩
  have O := O.feed (o' := fdl a1 b1)
  refine ⟨97 + v, llen, lat hv, ?_⟩
  refine ⟨f, a1, b1, 3, rfl, put_same, ok1, by decide, by decide, fun v3 a2 b2 hv3 ok2 => ?_⟩
  have O := O.feed (o' := fdl a2 b2)
  rw [put_put] at O ⊢
  refine .inl ⟨rfl, itB (fun h => ?_) (fun h => ?_)⟩
  · refine ⟨by omega, by omega, ?_⟩
    rw [Int.toNat_natCast, range0]
    refine lc_pure (f := fun i : Nat => .int (i : Nat)) (· = S.put f (fdl a2 b2)) (fun i => some (.str (strRep ⟨#[97 + v]⟩ (i + 1)))) (List.range m) [] _ _ rfl (fun _ _ => trivial) (by rw [List.length_range]; show 0 + _ ≤ _; omega) ?_ ?_
    · rintro i hi S' rfl k1 k2 hk
      have := List.mem_range.mp hi
      refine ⟨by omega, by omega, Nat.le_of_ble_eq_true rfl, ?_⟩
      rw [show (((i : Nat) : Int) + 1).toNat = i + 1 by omega]
      exact hk _ rfl
    · rintro S' rfl p hp
      rw [List.nil_append, List.filterMap_eq_map', show (List.range m).map (fun i => D.str (strRep ⟨#[97 + v]⟩ (i + 1))) = ((List.range m).map fun i => strRep ⟨#[97 + v]⟩ (i + 1)).map D.str by rw [List.map_map]; rfl]
      refine ⟨_, Sub.refl _, hQ _ a2 b2 p (nm_of _ (fun i j _ _ e => ?_) fun i _ => low_rep (by omega)) ok2 hp⟩
      have := congrArg Str.length e
      rw [rep_len, rep_len] at this
      omega
  · refine ⟨f, a2, b2, 26, rfl, put_same, ok2, by decide, by decide, fun fi a3 b3 hfi ok3 => ?_⟩
    have O := O.feed (o' := fdl a3 b3)
    rw [put_put] at O ⊢
    refine ⟨Nat.le_of_ble_eq_true rfl, fun q1 hq1 => ?_⟩
    have O := O.add (o := .lst [.int 1, .int 3, .int 5, .int 7, .int 9, .int 11]) hq1
    refine ⟨f, a3, b3, 6, rfl, O.old put_same, ok3, by decide, by decide, fun v5 a4 b4 hv5 ok4 => ?_⟩
    have O := O.feed (o' := fdl a4 b4)
    obtain ⟨st, hst, hst2⟩ := six_at hv5
    refine ⟨_, _, O.at 0, hst, ?_⟩
    refine ⟨Nat.le_of_ble_eq_true rfl, fun q2 hq2 => ?_⟩
    have O := O.add (o := .lst [.int 1, .int 3, .int 4, .int 5, .int 6, .int 7, .int 8, .int 1]) hq2
    refine ⟨f, a4, b4, 8, rfl, O.old put_same, ok4, by decide, by decide, fun v6 a5 b5 hv6 ok5 => ?_⟩
    have O := O.feed (o' := fdl a5 b5)
    obtain ⟨sz, hsz, hsz1, hsz2⟩ := eight_at hv6
    refine ⟨_, _, O.at 1, hsz, ?_⟩
    refine ⟨f, a5, b5, sz, rfl, O.old put_same, ok5, by omega, by omega, fun pl a6 b6 hpl ok6 => ?_⟩
    have O := O.feed (o' := fdl a6 b6)
    refine ⟨by omega, by omega, Nat.le_of_ble_eq_true rfl, ?_⟩
    (refine ⟨by omega, by omega, ?_⟩); rw [Int.toNat_natCast, range0]
    have hv128 : 97 + v < 128 := by omega
    refine lc_pure (f := fun i : Nat => .int (i : Nat)) (· = _) (fun i => some (.str ((strRep ⟨#[97 + v]⟩ pl ++ (⟨#[97 + (fi + st * i) % 26]⟩ : Str)) ++ strRep ⟨#[97 + v]⟩ (sz - 1 - pl)))) (List.range m) [] _ _ rfl (fun _ _ => trivial) (by rw [List.length_range]; show 0 + _ ≤ _; omega) ?_ ?_
    · rintro i hi S' rfl k1 k2 hk
      refine ⟨by omega, by omega, Nat.le_of_ble_eq_true rfl, ?_⟩
      refine ⟨by omega, by omega, by decide, 97 + (fi + st * i) % 26, llen, ?_, ?_⟩
      · rw [show (((fi : Nat) : Int) + ((st : Nat) : Int) * ((i : Nat) : Int)) % 26 = (((fi + st * i) % 26 : Nat) : Int) by rw [Int.natCast_emod, Int.natCast_add, Int.natCast_mul]; rfl]
        exact lat (Nat.mod_lt _ (by decide))
      · rw [show (((pl : Nat) : Int)).toNat = pl from Int.toNat_natCast _, show (((sz : Nat) : Int) - 1 - ((pl : Nat) : Int)).toNat = sz - 1 - pl by omega]
        refine ⟨?_, ?_, hk _ rfl⟩
        · rw [rep_len]
          show pl + 1 ≤ _
          omega
        · rw [app_len, rep_len, rep_len]
          show pl + 1 + _ ≤ _
          omega
    · rintro S' rfl p hp
      rw [List.nil_append, List.filterMap_eq_map', show (List.range m).map (fun i => D.str ((strRep ⟨#[97 + v]⟩ pl ++ (⟨#[97 + (fi + st * i) % 26]⟩ : Str)) ++ strRep ⟨#[97 + v]⟩ (sz - 1 - pl))) = ((List.range m).map fun i => (strRep ⟨#[97 + v]⟩ pl ++ (⟨#[97 + (fi + st * i) % 26]⟩ : Str)) ++ strRep ⟨#[97 + v]⟩ (sz - 1 - pl)).map D.str by rw [List.map_map]; rfl]
      have O := O.add (o := .lst (((List.range m).map fun i => (strRep ⟨#[97 + v]⟩ pl ++ (⟨#[97 + (fi + st * i) % 26]⟩ : Str)) ++ strRep ⟨#[97 + v]⟩ (sz - 1 - pl)).map D.str)) hp
      refine ⟨_, O.put_sub 2, hQ _ a6 b6 p (nm_of _ (fun i j hi hj e => ?_) fun i _ => low_app (low_app (low_rep hv128) (low_one ?_)) (low_rep hv128)) ok6 (O.free 2)⟩
      · have e1 := congrArg (fun x : Str => x.cps.toList) e
        simp only [app_list] at e1
        have e2 := List.append_cancel_left (List.append_cancel_right e1)
        have e3 : 97 + (fi + st * i) % 26 = 97 + (fi + st * j) % 26 := (List.cons.inj e2).1
        exact step_inj hm hst2 hi hj (Nat.add_left_cancel e3)
      · have := Nat.mod_lt (fi + st * i) (show 0 < 26 by decide)
        omega
end L3
end
section
set_option maxRecDepth 10000
set_option maxHeartbeats 4200000
/-! L5Part: lines drawn. -/
namespace L3
open PySem
theorem ne_fd {S : Sto} {f x : Addr} {a b : Int} {xs : List Str} (hf : S f = some (fdl a b)) (hx : S x = some (.lst (xs.map D.str))) : x ≠ f := fun e => by
  rw [e, hf] at hx
  have h : ([D.int a, .int b] : List D) = xs.map D.str := by
    have := Option.some.inj hx
    unfold fdl at this
    injection this
  cases xs with
  | nil => cases h
  | cons y ys =>
    have := (List.cons.inj h).1
    cases this
def p_law_plain : F3 := fun ds S Q => ∃ (f bx wd : Addr) (a b : Int) (xs ws : List Str), ds = [.ref f, .ref bx, .ref wd] ∧ S f = some (fdl a b) ∧ Fdok a b ∧ S bx = some (.lst (xs.map D.str)) ∧ S wd = some (.lst (ws.map D.str)) ∧
  (0 < xs.length ∧ xs.length < 1000) ∧ (0 < ws.length ∧ ws.length < 1000) ∧ ∀ (l : Ln) a' b', Fdok a' b' → l.kd = .oth → (∀ w, l.word = some w → w ∈ ws) → Q (lnD l) (S.put f (fdl a' b'))
theorem str_at {xs : List Str} {v : Nat} (h : v < (xs.map D.str).length) : ∃ x, L2.atI (xs.map D.str) (v : Int) = some (.str x) ∧ x ∈ xs := by
  rw [List.length_map] at h
  exact ⟨_, atI_map (List.getElem?_eq_getElem h), List.getElem_mem h⟩
theorem k_law_plain : Keeps 7 3 (b_law_plain p_law_take) p_law_plain := by
  refine ⟨fun ds S Q ⟨f, bx, wd, a, b, xs, ws, h, _⟩ => by rw [h]; rfl, fun ds S Q ⟨f, bx, wd, a, b, xs, ws, h, hf, ok, hbx, hwd, hx, hw, hQ⟩ => ?_⟩
  subst h
  have nb := ne_fd hf hbx
  have nw := ne_fd hf hwd
  have kb : ∀ o, (S.put f o) bx = some (.lst (xs.map D.str)) := fun o => (put_ne nb).trans hbx
  have kw : ∀ o, (S.put f o) wd = some (.lst (ws.map D.str)) := fun o => (put_ne nw).trans hwd
  have lx : 0 < (xs.map D.str).length ∧ (xs.map D.str).length < 1000000 := by rw [List.length_map]; omega
  have lw : 0 < (ws.map D.str).length ∧ (ws.map D.str).length < 1000000 := by rw [List.length_map]; omega
  refine ⟨f, a, b, 10, rfl, hf, ok, by decide, by decide, fun way a1 b1 hv1 ok1 => ?_⟩
  refine ⟨_, kb _, f, a1, b1, _, rfl, put_same, ok1, lx.1, lx.2, fun v2 a2 b2 hv2 ok2 => ?_⟩
  rw [put_put]
  obtain ⟨x, hx1, hx2⟩ := str_at hv2
  refine ⟨_, _, kb _, hx1, ?_⟩
  refine ⟨_, kb _, f, a2, b2, _, rfl, put_same, ok2, lx.1, lx.2, fun v3 a3 b3 hv3 ok3 => ?_⟩
  rw [put_put]
  obtain ⟨y, hy1, hy2⟩ := str_at hv3
  refine ⟨_, _, kb _, hy1, itB (fun h => ?_) (fun h => ?_)⟩
  · refine ⟨_, kb _, f, a3, b3, _, rfl, put_same, ok3, lx.1, lx.2, fun v4 a4 b4 hv4 ok4 => ?_⟩
    rw [put_put]
    obtain ⟨z, hz1, hz2⟩ := str_at hv4
    refine ⟨_, _, kb _, hz1, ?_⟩
    refine ⟨_, kw _, f, a4, b4, _, rfl, put_same, ok4, lw.1, lw.2, fun v5 a5 b5 hv5 ok5 => ?_⟩
    rw [put_put]
    obtain ⟨w, hw1, hw2⟩ := str_at hv5
    refine ⟨_, _, kw _, hw1, Nat.le_of_ble_eq_true rfl, _, Sub.refl _, ?_⟩
    exact hQ (.pair x w y z) a5 b5 ok5 rfl fun u hu => by
      have : w = u := Option.some.inj hu
      rw [← this]; exact hw2
  · rw [decide_eq_false_iff_not] at h
    obtain ⟨j, rfl⟩ : ∃ j, way = 4 + j := ⟨way - 4, by omega⟩
    have hj : j < 6 := by omega
    have ej : ((4 + j : Nat) : Int) - 4 = (j : Nat) := by omega
    refine ⟨Nat.le_of_ble_eq_true rfl, Nat.le_of_ble_eq_true rfl, Nat.le_of_ble_eq_true rfl, Nat.le_of_ble_eq_true rfl, Nat.le_of_ble_eq_true rfl, Nat.le_of_ble_eq_true rfl, Nat.le_of_ble_eq_true rfl, fun q hq => ?_⟩
    have O := (Own.start (S.put f (fdl a3 b3))).add (o := .lst [.tup [.str "first", .str x, .str y], .tup [.str "second", .str x, .str y], .tup [.str "same", .str x, .str y], .tup [.str "none", .str x], .tup [.str "tell", .str y], .tup [.str "tell", .str x]]) hq
    have fin : ∀ l : Ln, l.kd = .oth → l.word = none → ∃ S'', Sub S'' ((S.put f (fdl a3 b3)).put q (.lst [.tup [.str "first", .str x, .str y], .tup [.str "second", .str x, .str y], .tup [.str "same", .str x, .str y], .tup [.str "none", .str x], .tup [.str "tell", .str y], .tup [.str "tell", .str x]])) ∧ Q (lnD l) S'' :=
      fun l h1 h2 => ⟨_, O.sub, hQ l a3 b3 ok3 h1 fun w hw => by rw [h2] at hw; cases hw⟩
    obtain ⟨l, l1, l2, l3⟩ : ∃ l : Ln, l.kd = .oth ∧ l.word = none ∧ L2.atI [D.tup [.str "first", .str x, .str y], .tup [.str "second", .str x, .str y], .tup [.str "same", .str x, .str y], .tup [.str "none", .str x], .tup [.str "tell", .str y], .tup [.str "tell", .str x]] (((4 + j : Nat) : Int) - 4) = some (lnD l) := by
      rw [ej]
      match j, hj with
      | 0, _ => exact ⟨.pl .first [x, y], rfl, rfl, rfl⟩
      | 1, _ => exact ⟨.pl .second [x, y], rfl, rfl, rfl⟩
      | 2, _ => exact ⟨.pl .same [x, y], rfl, rfl, rfl⟩
      | 3, _ => exact ⟨.pl .none [x], rfl, rfl, rfl⟩
      | 4, _ => exact ⟨.pl .tell [y], rfl, rfl, rfl⟩
      | 5, _ => exact ⟨.pl .tell [x], rfl, rfl, rfl⟩
      | n + 6, h => exact absurd h (by omega)
    exact ⟨_, _, O.at 0, l3, fin l l1 l2⟩
/-! ### open blocks -/
def okD : Kd → D
  | .eit => .str "either"
  | .agn => .str "again"
  | _ => .str "or"
def p_law_step_on : F3 := fun ds S Q => ∃ (l o : Addr) (L : List Ln) (op : List Kd) (c : Kd), ds = [.ref l, .ref o] ∧ S l = some (.lst (L.map lnD)) ∧ S o = some (.lst ((op ++ [c]).map okD)) ∧ (c = .eit ∨ c = .agn ∨ c = .orr) ∧ l ≠ o ∧ L.length < 1000 ∧
  (c = .eit → Q .non ((S.put l (.lst ((L ++ [Ln.orr]).map lnD))).put o (.lst ((op ++ [Kd.orr]).map okD)))) ∧ (c ≠ .eit → Q .non ((S.put l (.lst ((L ++ [Ln.fin]).map lnD))).put o (.lst (op.map okD))))
theorem ix_last (n : Nat) : L2.ixN (n + 1) (-1) = some n := by
  unfold L2.ixN
  rw [if_neg (by omega), if_pos (by omega)]
  congr 1
  omega
theorem set_last {α : Type} (xs : List α) (x y : α) : (xs ++ [x]).set xs.length y = xs ++ [y] := by
  rw [List.set_append_right _ _ (Nat.le_refl _), Nat.sub_self]
  rfl
theorem k_law_step_on : Keeps 2 2 b_law_step_on p_law_step_on := by
  refine ⟨fun ds S Q ⟨l, o, L, op, c, h, _⟩ => by rw [h]; rfl, fun ds S Q ⟨l, o, L, op, c, h, hl, ho, hc, ne, len, h1, h2⟩ => ?_⟩
  subst h
  rw [List.map_append] at ho
  have ho' : S o = some (.lst (op.map okD ++ [okD c])) := ho
  have ol : ∀ X, (S.put l X) o = some (.lst (op.map okD ++ [okD c])) := fun X => (put_ne ne.symm).trans ho'
  refine ⟨_, _, ho', atI_last, ?_⟩
  have e1 : D.scal (okD c) (.str "either") = true := by rcases hc with rfl | rfl | rfl <;> rfl
  have e2 : D.eqb (okD c) (.str "either") = decide (c = .eit) := by
    rcases hc with rfl | rfl | rfl
    · exact (str_eqb _ _).trans (by decide +kernel)
    · exact (str_eqb _ _).trans (by decide +kernel)
    · exact (str_eqb _ _).trans (by decide +kernel)
  refine .inl ⟨e1, itB (fun h => ?_) (fun h => ?_)⟩
  · rw [bne_f e2, decide_eq_true_eq] at h
    refine ⟨⟨l, _, rfl, hl⟩, Nat.le_of_ble_eq_true rfl, _, hl, by rw [List.length_map]; omega, ?_⟩
    rw [show L.map lnD ++ [D.tup [.str "or"]] = (L ++ [Ln.orr]).map lnD by rw [List.map_append]; rfl]
    refine ⟨o, -1, _, op.length, rfl, rfl, ol _, by rw [List.length_append, List.length_map]; exact ix_last _, ?_⟩
    rw [show (op.map okD ++ [okD c]).set op.length (D.str "or") = (op ++ [Kd.orr]).map okD by
      have := set_last (op.map okD) (okD c) (.str "or")
      rw [List.length_map] at this
      rw [this, List.map_append]
      rfl]
    exact ⟨_, Sub.refl _, h1 h⟩
  · rw [bne_f e2, decide_eq_false_iff_not] at h
    refine ⟨⟨l, _, rfl, hl⟩, Nat.le_of_ble_eq_true rfl, _, hl, by rw [List.length_map]; omega, ?_⟩
    rw [show L.map lnD ++ [D.tup [.str "end"]] = (L ++ [Ln.fin]).map lnD by rw [List.map_append]; rfl]
    refine ⟨_, okD c, ol _, by rw [List.length_append, List.length_singleton, List.getElem?_append_right (by omega)]; simp, ?_⟩
    rw [List.dropLast_concat]
    exact ⟨_, Sub.refl _, h2 h⟩
end L3
end
section
set_option maxRecDepth 10000
set_option maxHeartbeats 4200000
/-! L5Prog: parts and programs drawn. -/
namespace L3
open PySem
structure PartOk (L : List Ln) (ws lts : List Str) : Prop where
  wf : wfK (L.map Ln.kd) = true
  len : L.length ≤ 8
  wd : ∀ l ∈ L, ∀ w, l.word = some w → w ∈ ws
  doo : ∀ l ∈ L, ∀ nm, l = .doo nm → nm ∈ lts
def p_law_part : F3 := fun ds S Q => ∃ (f bx wd lt : Addr) (a b : Int) (xs ws lts : List Str) (size opens dos : Nat), ds = [.ref f, .int (size : Nat), .tup [.ref bx, .ref wd], .ref lt, .int (opens : Nat), .int (dos : Nat)] ∧ S f = some (fdl a b) ∧ Fdok a b ∧
  S bx = some (.lst (xs.map D.str)) ∧ S wd = some (.lst (ws.map D.str)) ∧ S lt = some (.lst (lts.map D.str)) ∧ (0 < xs.length ∧ xs.length < 1000) ∧ (0 < ws.length ∧ ws.length < 1000) ∧ lts.length < 1000 ∧ size ≤ 4 ∧ opens ≤ 2 ∧
  ∀ (L : List Ln) a' b', Fdok a' b' → PartOk L ws lts → Q (lsD L) (S.put f (fdl a' b'))
def GK (n o : Nat) (op acc : List Kd) : Prop := ∀ K ∈ genK n o op acc, wfK K = true ∧ K.length ≤ 8
theorem gk_start {n o : Nat} (hn : n ≤ 4) (ho : o ≤ 2) : GK n o [] [] := by
  have h := gen_wf
  rw [List.all_eq_true] at h
  have h1 := h n (by
    have : n = 0 ∨ n = 1 ∨ n = 2 ∨ n = 3 ∨ n = 4 := by omega
    rcases this with rfl | rfl | rfl | rfl | rfl <;> simp)
  rw [List.all_eq_true] at h1
  have h2 := h1 o (by
    have : o = 0 ∨ o = 1 ∨ o = 2 := by omega
    rcases this with rfl | rfl | rfl <;> simp)
  rw [List.all_eq_true] at h2
  intro K hK
  have h3 := h2 K hK
  rw [Bool.and_eq_true, decide_eq_true_eq] at h3
  exact h3
section
variable {n o : Nat} {op acc : List Kd}
theorem gk_eit (h : GK (n + 1) o op acc) (ho : 0 < o) : GK n (o - 1) (.eit :: op) (acc ++ [.eit]) := fun K hK => h K (by
  unfold genK
  rw [if_neg (by omega)]
  exact List.mem_append_left _ (List.mem_append_left _ (List.mem_append_left _ (List.mem_append_left _ hK))))
theorem gk_agn (h : GK (n + 1) o op acc) (ho : 0 < o) : GK n (o - 1) (.agn :: op) (acc ++ [.agn]) := fun K hK => h K (by
  unfold genK
  rw [if_neg (by omega)]
  exact List.mem_append_left _ (List.mem_append_left _ (List.mem_append_left _ (List.mem_append_right _ hK))))
theorem gk_orr {r : List Kd} (h : GK (n + 1) o (.eit :: r) acc) : GK n o (.orr :: r) (acc ++ [.orr]) := fun K hK => h K (by
  unfold genK
  exact List.mem_append_left _ (List.mem_append_left _ (List.mem_append_right _ hK)))
theorem gk_fin {c : Kd} {r : List Kd} (hc : c ≠ .eit) (h : GK (n + 1) o (c :: r) acc) : GK n o r (acc ++ [.fin]) := fun K hK => h K (by
  unfold genK
  refine List.mem_append_left _ (List.mem_append_left _ (List.mem_append_right _ ?_))
  cases c <;> first | exact hK | exact absurd rfl hc)
theorem gk_doo (h : GK (n + 1) o op acc) : GK n o op (acc ++ [.doo]) := fun K hK => h K (by
  unfold genK
  exact List.mem_append_left _ (List.mem_append_right _ hK))
theorem gk_oth (h : GK (n + 1) o op acc) : GK n o op (acc ++ [.oth]) := fun K hK => h K (by
  unfold genK
  exact List.mem_append_right _ hK)
theorem gk_end (h : GK 0 o op acc) : wfK (closeK acc op) = true ∧ (closeK acc op).length ≤ 8 := h _ (List.mem_singleton.mpr rfl)
theorem close_eit {r : List Kd} : closeK acc (.eit :: r) = closeK (acc ++ [.orr]) (.orr :: r) := by
  show closeK (acc ++ [.orr, .fin]) r = closeK ((acc ++ [.orr]) ++ [.fin]) r
  rw [List.append_assoc]
  rfl
theorem close_fin {c : Kd} {r : List Kd} (hc : c ≠ .eit) : closeK acc (c :: r) = closeK (acc ++ [.fin]) r := by
  cases c <;> first | rfl | exact absurd rfl hc
end
/-- how long the closing takes -/
def clen : List Kd → Nat
  | [] => 0
  | .eit :: r => 2 + clen r
  | _ :: r => 1 + clen r
def Opk (c : Kd) : Prop := c = .eit ∨ c = .agn ∨ c = .orr
structure LnsOk (L : List Ln) (ws lts : List Str) : Prop where
  wd : ∀ l ∈ L, ∀ w, l.word = some w → w ∈ ws
  doo : ∀ l ∈ L, ∀ nm, l = .doo nm → nm ∈ lts
theorem LnsOk.snoc {L : List Ln} {ws lts : List Str} (h : LnsOk L ws lts) {l : Ln} (h1 : ∀ w, l.word = some w → w ∈ ws) (h2 : ∀ nm, l = .doo nm → nm ∈ lts) : LnsOk (L ++ [l]) ws lts := by
  refine ⟨fun x hx => ?_, fun x hx => ?_⟩
  · rcases List.mem_append.1 hx with hx | hx
    · exact h.wd x hx
    · rw [List.mem_singleton.mp hx]; exact h1
  · rcases List.mem_append.1 hx with hx | hx
    · exact h.doo x hx
    · rw [List.mem_singleton.mp hx]; exact h2
theorem ne_own {S S' : Sto} {x l : Addr} {o o' : AO} {ps : List (Addr × AO)} (O : Own S S' ps) (i : Nat) (hx : S x = some o) (h : ps[i]? = some (l, o') := by rfl) : x ≠ l := ne_new hx (O.free i h)
theorem sif_and {a b : B3} {u v : S3} {N : N3} {δ : E3} {S : Sto} (va vb : Bool) (ha : ∀ R : Bool → Sto → Prop, R va S → a δ S R) (hb : va = true → ∀ R : Bool → Sto → Prop, R vb S → b δ S R) (h : if (va && vb) = true then u N δ S else v N δ S) : sIf (bAnd a b) u v N δ S :=
  and_step va vb ha hb h
theorem k_law_part : Keeps 10 6 (b_law_part p_law_take p_law_step_on p_law_plain) p_law_part := by
  refine ⟨fun ds S Q ⟨f, bx, wd, lt, a, b, xs, ws, lts, size, opens, dos, h, _⟩ => by rw [h]; rfl, fun ds S Q ⟨f, bx, wd, lt, a, b, xs, ws, lts, size, opens, dos, h, hf, ok, hbx, hwd, hlt, hx, hw, hl, hsz, hop, hQ⟩ => ?_⟩
  subst h
  have nb := ne_fd hf hbx
  have nw := ne_fd hf hwd
  have nl := ne_fd hf hlt
  have O : Own (S.put f (fdl a b)) S [] := by
    rw [put_self hf]
    exact Own.start S
  refine ⟨Nat.zero_le _, fun pl hpl => ?_⟩
  have O := O.add (o := .lst []) hpl
  refine ⟨Nat.zero_le _, fun po hpo => ?_⟩
  have O := O.add (o := .lst []) hpo
  (refine ⟨by omega, by omega, ?_⟩); rw [Int.toNat_natCast, range0]
  refine for_pre (f := fun i : Nat => D.int (i : Nat)) (fun l δ S' => ∃ (a b : Int) (L : List Ln) (op : List Kd) (o' : Nat) (d' : Int) (v8 v9 : Option D), δ = [some (.ref f), some (.int (size : Nat)), some (.tup [.ref bx, .ref wd]), some (.ref lt), some (.int (o' : Nat)), some (.int d'), some (.ref pl), some (.ref po), v8, v9] ∧ Fdok a b ∧
    Own (S.put f (fdl a b)) S' [(pl, .lst (L.map lnD)), (po, .lst (op.map okD))] ∧ LnsOk L ws lts ∧ (∀ c ∈ op, Opk c) ∧ GK (size - l.length) o' op.reverse (L.map Ln.kd) ∧ L.length ≤ l.length ∧ op.length ≤ l.length) (List.range size)
    ⟨a, b, [], [], opens, dos, none, none, rfl, ok, O, ⟨(fun x h => nomatch h), (fun x h => nomatch h)⟩, (fun x h => nomatch h), gk_start hsz hop, Nat.le_refl _, Nat.le_refl _⟩ (fun _ _ _ _ => trivial) ?_ ?_
  · rintro l i r δ S' e ⟨a, b, L, op, o', d', v8, v9, rfl, ok, O, hL, hopk, gk, lL, lo⟩ k hk
    have ll : l.length < size := by
      have := congrArg List.length e
      rw [List.length_range, List.length_append, List.length_cons] at this
      omega
    obtain ⟨n, hn⟩ : ∃ n, size - l.length = n + 1 := ⟨size - l.length - 1, by omega⟩
    have hn' : size - (l ++ [i]).length = n := by rw [List.length_append, List.length_singleton]; omega
    rw [hn] at gk
    have hl1 : (l ++ [i]).length = l.length + 1 := by rw [List.length_append, List.length_singleton]
    refine ⟨f, a, b, 14, rfl, O.old put_same, ok, by decide, by decide, fun way a1 b1 hv ok1 => ?_⟩
    have O := O.feed (o' := fdl a1 b1)
    dsimp only [gN]
    refine sif_and (decide ((way : Int) < 3)) (decide ((0 : Int) < (o' : Nat))) (fun R h => h) (fun _ R h => h) (itB (fun h => ?_) (fun h => ?_))
    · -- a block opens
      rw [Bool.and_eq_true, decide_eq_true_eq, decide_eq_true_eq] at h
      refine ⟨⟨po, _, rfl, O.at 1⟩, Nat.le_of_ble_eq_true rfl, fun q hq => ?_⟩
      have O := O.add (o := .lst [.str "either", .str "again", .str "either"]) hq
      obtain ⟨c, hc1, hc2, ln, hln1, hln2⟩ : ∃ c : Kd, (c = .eit ∨ c = .agn) ∧ L2.atI [D.str "either", .str "again", .str "either"] (way : Int) = some (okD c) ∧ ∃ ln : Ln, lnD ln = .tup [okD c] ∧ ((c = .eit ∧ ln = .eit) ∨ (c = .agn ∧ ln = .agn)) := by
        have hw3 : way < 3 := by omega
        match way, hw3 with
        | 0, _ => exact ⟨.eit, .inl rfl, rfl, .eit, rfl, .inl ⟨rfl, rfl⟩⟩
        | 1, _ => exact ⟨.agn, .inr rfl, rfl, .agn, rfl, .inr ⟨rfl, rfl⟩⟩
        | 2, _ => exact ⟨.eit, .inl rfl, rfl, .eit, rfl, .inl ⟨rfl, rfl⟩⟩
        | n + 3, h => exact absurd h (by omega)
      refine ⟨_, _, O.at 2, hc2, _, O.at 1, by rw [List.length_map]; omega, ?_⟩
      rw [snoc_map]
      have O := O.set (o' := .lst ((op ++ [c]).map okD)) 1
      refine ⟨⟨pl, _, rfl, O.at 0⟩, _, okD c, O.at 1, by rw [List.map_append]; exact atI_last, Nat.le_of_ble_eq_true rfl, _, O.at 0, by rw [List.length_map]; omega, ?_⟩
      rw [← hln1, snoc_map]
      have O := O.set (o' := .lst ((L ++ [ln]).map lnD)) 0
      refine hk _ _ ⟨a1, b1, L ++ [ln], op ++ [c], o' - 1, d', some (.int (i : Nat)), some (.int (way : Nat)), ?_, ok1, O.keep (List.sublist_append_left [_, _] [_]), hL.snoc ?_ ?_, ?_, ?_, by rw [List.length_append, List.length_singleton, hl1]; omega, by rw [List.length_append, List.length_singleton, hl1]; omega⟩
      · rw [show (((o' - 1 : Nat)) : Int) = (o' : Int) - 1 by omega]
        rfl
      · rcases hln2 with ⟨_, rfl⟩ | ⟨_, rfl⟩ <;> (intro w hw; cases hw)
      · rcases hln2 with ⟨_, rfl⟩ | ⟨_, rfl⟩ <;> (intro w hw; cases hw)
      · intro x hx
        rcases List.mem_append.1 hx with hx | hx
        · exact hopk x hx
        · rw [List.mem_singleton.mp hx]
          rcases hc1 with q | q
          · exact .inl q
          · exact .inr (.inl q)
      · rw [hn', List.reverse_append, List.map_append]
        rcases hln2 with ⟨q1, q2⟩ | ⟨q1, q2⟩
        · rw [q1, q2]; exact gk_eit gk (by omega)
        · rw [q1, q2]; exact gk_agn gk (by omega)
    · refine sif_and (decide ((way : Int) < 6)) (decide (0 < op.length)) (fun R h => h) (fun _ R h => ⟨_, O.at 1, trB (by rw [List.length_map, Bool.eq_iff_iff, decide_eq_true_eq, decide_eq_true_eq]; omega) h⟩) (itB (fun h2 => ?_) (fun h2 => ?_))
      · -- a block goes on
        rw [Bool.and_eq_true, decide_eq_true_eq, decide_eq_true_eq] at h2
        obtain ⟨r0, c, rfl⟩ := last_snoc (List.ne_nil_of_length_pos h2.2)
        have hc : Opk c := hopk c (by simp)
        rw [List.reverse_append] at gk
        refine ⟨pl, po, L, r0, c, rfl, O.at 0, O.at 1, hc, ?_, by omega, fun q => ?_, fun q => ?_⟩
        · intro q
          have := O.nd
          rw [q] at this
          simp at this
        · have O := (O.set (o' := .lst ((L ++ [Ln.orr]).map lnD)) 0).set (o' := .lst ((r0 ++ [Kd.orr]).map okD)) 1
          refine hk _ _ ⟨a1, b1, L ++ [Ln.orr], r0 ++ [Kd.orr], o', d', _, _, rfl, ok1, O, hL.snoc (fun w hw => nomatch hw) (fun w hw => nomatch hw), fun x hx => ?_, ?_, by rw [List.length_append, List.length_singleton, hl1]; omega, by rw [List.length_append, List.length_singleton] at lo ⊢; rw [hl1]; omega⟩
          · rcases List.mem_append.1 hx with hx | hx
            · exact hopk x (List.mem_append_left _ hx)
            · rw [List.mem_singleton.mp hx]; exact .inr (.inr rfl)
          · rw [hn', List.reverse_append, List.map_append]
            rw [q] at gk
            exact gk_orr gk
        · have O := (O.set (o' := .lst ((L ++ [Ln.fin]).map lnD)) 0).set (o' := .lst (r0.map okD)) 1
          refine hk _ _ ⟨a1, b1, L ++ [Ln.fin], r0, o', d', _, _, rfl, ok1, O, hL.snoc (fun w hw => nomatch hw) (fun w hw => nomatch hw), fun x hx => hopk x (List.mem_append_left _ hx), ?_, by rw [List.length_append, List.length_singleton, hl1]; omega, by rw [List.length_append, List.length_singleton] at lo; rw [hl1]; omega⟩
          rw [hn', List.map_append]
          exact gk_fin q gk
      · -- do, or a plain line
        have plain : ∀ S2, Own (S.put f (fdl a1 b1)) S2 [(pl, .lst (L.map lnD)), (po, .lst (op.map okD))] →
            (sDrop (xMth mAppend (xVar 6) (xCall p_law_plain (aCons (xVar 0) (aCons (xOp rIx (xVar 2) (xC (.int 0))) (aCons (xOp rIx (xVar 2) (xC (.int 1))) aNil))))))
              ⟨k, fun d S' => ∃ S'', Sub S'' S' ∧ Q d S''⟩ [some (.ref f), some (.int (size : Nat)), some (.tup [.ref bx, .ref wd]), some (.ref lt), some (.int (o' : Nat)), some (.int d'), some (.ref pl), some (.ref po), some (.int (i : Nat)), some (.int (way : Nat))] S2 := fun S2 O => by
          refine ⟨⟨pl, _, rfl, O.at 0⟩, _, rfl, _, rfl, ?_⟩
          refine ⟨f, bx, wd, a1, b1, xs, ws, rfl, O.old put_same, ok1, O.old ((put_ne nb).trans hbx), O.old ((put_ne nw).trans hwd), hx, hw, fun ln a2 b2 ok2 hkd hwd2 => ?_⟩
          have O := O.feed (o' := fdl a2 b2)
          refine ⟨_, O.at 0, by rw [List.length_map]; omega, ?_⟩
          rw [snoc_map]
          have O := O.set (o' := .lst ((L ++ [ln]).map lnD)) 0
          refine hk _ _ ⟨a2, b2, L ++ [ln], op, o', d', _, _, rfl, ok2, O, hL.snoc hwd2 (fun nm q => by rw [q] at hkd; cases hkd), hopk, ?_, by rw [List.length_append, List.length_singleton, hl1]; omega, by rw [hl1]; omega⟩
          rw [hn', List.map_append, List.map_singleton, hkd]
          exact gk_oth gk
        refine ⟨Nat.le_of_ble_eq_true rfl, fun q hq => ?_⟩
        have O := O.junk (o := .lst [.int 6, .int 7]) hq
        refine ⟨_, put_same, .inl ⟨rfl, rfl⟩, itB (fun h3 => ?_) (fun h3 => plain _ O)⟩
        refine itB (fun h4 => ?_) (fun h4 => plain _ O)
        have hlt' := O.old ((put_ne nl).trans hlt)
        refine ⟨_, hlt', itB (fun h5 => ?_) (fun h5 => plain _ O)⟩
        rw [decide_eq_true_eq] at h5
        have lp : 0 < (lts.map D.str).length := by omega
        refine ⟨⟨pl, _, rfl, O.at 0⟩, _, hlt', f, a1, b1, _, rfl, O.old put_same, ok1, lp, by rw [List.length_map]; omega, fun v a2 b2 hv2 ok2 => ?_⟩
        have O := O.feed (o' := fdl a2 b2)
        obtain ⟨nm, hn1, hn2⟩ := str_at hv2
        refine ⟨_, _, O.old ((put_ne nl).trans hlt), hn1, Nat.le_of_ble_eq_true rfl, _, O.at 0, by rw [List.length_map]; omega, ?_⟩
        rw [show L.map lnD ++ [D.tup [.str "do", .str nm]] = (L ++ [Ln.doo nm]).map lnD by rw [List.map_append]; rfl]
        have O := O.set (o' := .lst ((L ++ [Ln.doo nm]).map lnD)) 0
        refine hk _ _ ⟨a2, b2, L ++ [Ln.doo nm], op, o', d' - 1, _, _, rfl, ok2, O, hL.snoc (fun w hw => nomatch hw) (fun x q => by cases q; exact hn2), hopk, ?_, by rw [List.length_append, List.length_singleton, hl1]; omega, by rw [hl1]; omega⟩
        rw [hn', List.map_append]
        exact gk_doo gk
  · rintro δ S' ⟨a, b, L, op, o', d', v8, v9, rfl, ok, O, hL, hopk, gk, lL, lo⟩
    rw [List.length_range, Nat.sub_self] at gk
    rw [List.length_range] at lL lo
    have ge := gk_end gk
    have lc : ∀ l : List Kd, clen l ≤ 2 * l.length := by
      intro l
      induction l with
      | nil => exact Nat.le_refl _
      | cons c l ih => cases c <;> simp only [clen, List.length_cons] <;> omega
    refine ⟨fun m δ S' => ∃ (L : List Ln) (op : List Kd), δ = [some (.ref f), some (.int (size : Nat)), some (.tup [.ref bx, .ref wd]), some (.ref lt), some (.int (o' : Nat)), some (.int d'), some (.ref pl), some (.ref po), v8, v9] ∧
      Own (S.put f (fdl a b)) S' [(pl, .lst (L.map lnD)), (po, .lst (op.map okD))] ∧ LnsOk L ws lts ∧ (∀ c ∈ op, Opk c) ∧ (wfK (closeK (L.map Ln.kd) op.reverse) = true ∧ (closeK (L.map Ln.kd) op.reverse).length ≤ 8) ∧ L.length + clen op.reverse ≤ 20 ∧ m = clen op.reverse,
      ⟨_, L, op, rfl, O, hL, hopk, ge, by have := lc op.reverse; rw [List.length_reverse] at this; omega, rfl⟩, ?_⟩
    rintro m δ S' ⟨L, op, rfl, O, hL, hopk, ge, hlen, hm⟩
    refine ⟨_, O.at 1, itB (fun h => ?_) (fun h => ?_)⟩
    · rw [decide_eq_true_eq, List.length_map] at h
      obtain ⟨r0, c, rfl⟩ := last_snoc (List.ne_nil_of_length_pos (by omega : 0 < op.length))
      have hc : Opk c := hopk c (by simp)
      rw [List.reverse_append] at ge hlen hm
      refine ⟨pl, po, L, r0, c, rfl, O.at 0, O.at 1, hc, ?_, by omega, fun q => ?_, fun q => ?_⟩
      · intro q
        have := O.nd
        rw [q] at this
        simp at this
      · have O := (O.set (o' := .lst ((L ++ [Ln.orr]).map lnD)) 0).set (o' := .lst ((r0 ++ [Kd.orr]).map okD)) 1
        rw [q] at ge hlen hm
        have e2 : ([Kd.eit].reverse ++ r0.reverse) = Kd.eit :: r0.reverse := rfl
        rw [e2] at ge hlen hm
        simp only [clen] at hlen hm
        refine ⟨1 + clen r0.reverse, by omega, L ++ [Ln.orr], r0 ++ [Kd.orr], rfl, O, hL.snoc (fun w hw => nomatch hw) (fun w hw => nomatch hw), fun x hx => ?_, ?_, ?_, ?_⟩
        · rcases List.mem_append.1 hx with hx | hx
          · exact hopk x (List.mem_append_left _ hx)
          · rw [List.mem_singleton.mp hx]; exact .inr (.inr rfl)
        · rw [List.reverse_append, List.map_append]
          rw [close_eit] at ge
          exact ge
        · rw [List.reverse_append, List.length_append]
          show L.length + 1 + (1 + clen r0.reverse) ≤ 20
          omega
        · rw [List.reverse_append]
          rfl
      · have O := (O.set (o' := .lst ((L ++ [Ln.fin]).map lnD)) 0).set (o' := .lst (r0.map okD)) 1
        have e2 : ([c].reverse ++ r0.reverse) = c :: r0.reverse := rfl
        rw [e2] at ge hlen hm
        have e3 : clen (c :: r0.reverse) = 1 + clen r0.reverse := by cases c <;> first | rfl | exact absurd rfl q
        rw [e3] at hlen hm
        rw [close_fin q] at ge
        refine ⟨clen r0.reverse, by omega, L ++ [Ln.fin], r0, rfl, O, hL.snoc (fun w hw => nomatch hw) (fun w hw => nomatch hw), fun x hx => hopk x (List.mem_append_left _ hx), ?_, ?_, rfl⟩
        · rw [List.map_append]
          exact ge
        · (rw [List.length_append, List.length_singleton])
          omega
    · rw [decide_eq_false_iff_not, List.length_map] at h
      have hop0 : op = [] := List.length_eq_zero_iff.mp (by omega)
      subst hop0
      refine ⟨_, O.at 0, S.put f (fdl a b), O.sub, hQ L a b ok ⟨ge.1, ?_, hL.wd, hL.doo⟩⟩
      have := ge.2
      rw [show ([] : List Kd).reverse = [] from rfl] at this
      show L.length ≤ 8
      have e : (closeK (L.map Ln.kd) []).length = L.length := List.length_map ..
      omega
end L3
end
section
set_option maxRecDepth 10000
set_option maxHeartbeats 4200000
/-! L5Pgm: a program drawn. -/
namespace L3
open PySem
def p_law_program : F3 := fun ds S Q => ∃ (f bd : Addr) (a b : Int), ds = [.ref f, .ref bd] ∧ S f = some (fdl a b) ∧ Fdok a b ∧ S bd = some (.lst [.int 2, .int 3, .int 2, .int 4]) ∧ ∀ (P : Pg) a' b', Fdok a' b' → Good P → Q (pgD P) (S.put f (fdl a' b'))
theorem cut_from {ds : List D} {n : Nat} (h : n ≤ ds.length) : cut ds (some (n : Int)) none = ds.drop n := by
  unfold cut HT.sIx
  show (ds.drop (if (n : Int) < 0 then ((n : Int) + (ds.length : Int)).toNat else min (n : Int).toNat ds.length)).take (ds.length - (if (n : Int) < 0 then ((n : Int) + (ds.length : Int)).toNat else min (n : Int).toNat ds.length)) = ds.drop n
  (rw [if_neg (by omega), Int.toNat_natCast, Nat.min_eq_left h]); exact List.take_of_length_le (by rw [List.length_drop]; omega)
theorem wf_nil : wfK [] = true := by decide
theorem good_one {n0 : Str} {L0 : List Ln} {ws : List Str} (h0 : PartOk L0 ws []) (hw : ws.length ≤ 3) (ok : ∀ w ∈ ws, PyData.strOk w = true) : Good [(n0, L0)] := by
  have ln : ∀ i, lines [(n0, L0)] i = if i = 0 then L0 else [] := fun i => by
    cases i with
    | zero => rfl
    | succ i => simp [lines]
  refine ⟨.inl rfl, List.nodup_cons.mpr ⟨by simp, List.nodup_nil⟩, fun i => ?_, fun i => ?_, fun i j nm h => ?_, ⟨ws, hw, fun i j l w h hl => ?_⟩⟩
  · rw [ln]
    split
    · exact h0.wf
    · exact wf_nil
  · rw [ln]
    split
    · exact h0.len
    · exact Nat.zero_le _
  · rw [ln] at h
    split at h
    · exact nomatch h0.doo _ (List.mem_of_getElem? h) nm rfl
    · simp at h
  · rw [ln] at h
    split at h
    · have := h0.wd l (List.mem_of_getElem? h) w hl
      exact ⟨this, ok w this⟩
    · simp at h
theorem good_two {n0 n1 : Str} {L0 L1 : List Ln} {ws : List Str} (ne : n0 ≠ n1) (h0 : PartOk L0 ws [n1]) (h1 : PartOk L1 ws []) (hw : ws.length ≤ 3) (ok : ∀ w ∈ ws, PyData.strOk w = true) : Good [(n0, L0), (n1, L1)] := by
  have ln : ∀ i, lines [(n0, L0), (n1, L1)] i = if i = 0 then L0 else if i = 1 then L1 else [] := fun i => by
    match i with
    | 0 => rfl
    | 1 => rfl
    | i + 2 => simp [lines]
  refine ⟨.inr rfl, List.nodup_cons.mpr ⟨by simpa using ne, List.nodup_cons.mpr ⟨by simp, List.nodup_nil⟩⟩, fun i => ?_, fun i => ?_, fun i j nm h => ?_, ⟨ws, hw, fun i j l w h hl => ?_⟩⟩
  · rw [ln]
    split
    · exact h0.wf
    · split
      · exact h1.wf
      · exact wf_nil
  · rw [ln]
    split
    · exact h0.len
    · split
      · exact h1.len
      · exact Nat.zero_le _
  · rw [ln] at h
    split at h
    · rename_i hi
      have := List.mem_singleton.mp (h0.doo _ (List.mem_of_getElem? h) nm rfl)
      exact ⟨hi, L1, by rw [this]; rfl⟩
    · split at h
      · exact nomatch h1.doo _ (List.mem_of_getElem? h) nm rfl
      · simp at h
  · rw [ln] at h
    split at h
    · have := h0.wd l (List.mem_of_getElem? h) w hl
      exact ⟨this, ok w this⟩
    · split at h
      · have := h1.wd l (List.mem_of_getElem? h) w hl
        exact ⟨this, ok w this⟩
      · simp at h
theorem k_law_program : Keeps 7 2 (b_law_program p_law_names p_law_take p_law_part) p_law_program := by
  refine ⟨fun ds S Q ⟨f, bd, a, b, h, _⟩ => by rw [h]; rfl, fun ds S Q ⟨f, bd, a, b, h, hf, ok, hbd, hQ⟩ => ?_⟩
  subst h
  have nd : bd ≠ f := fun e => by
    rw [e, hf] at hbd
    have := Option.some.inj hbd
    unfold fdl at this
    injection this with this
    cases this
  have O : Own (S.put f (fdl a b)) S [] := by
    rw [put_self hf]
    exact Own.start S
  have hb : ∀ o, (S.put f o) bd = some (.lst [.int 2, .int 3, .int 2, .int 4]) := fun o => (put_ne nd).trans hbd
  -- menus
  refine ⟨_, _, O.old (hb _), rfl, f, a, b, 2, rfl, O.old put_same, ok, by decide, by decide, fun v1 a1 b1 hv1 ok1 => ?_⟩
  have O := O.feed (o' := fdl a1 b1)
  refine ⟨f, a1, b1, 1 + v1, by rw [Int.natCast_add]; rfl, O.old put_same, ok1, by omega, fun xs a2 b2 bx hxs ok2 hbx => ?_⟩
  have O := (O.feed (o' := fdl a2 b2)).add (o := .lst (xs.map D.str)) hbx
  refine ⟨_, _, O.old (hb _), rfl, f, a2, b2, 3, rfl, O.old put_same, ok2, by decide, by decide, fun v2 a3 b3 hv2 ok3 => ?_⟩
  have O := O.feed (o' := fdl a3 b3)
  refine ⟨f, a3, b3, 1 + v2, by rw [Int.natCast_add]; rfl, O.old put_same, ok3, by omega, fun ws a4 b4 wd hws ok4 hwd => ?_⟩
  have O := (O.feed (o' := fdl a4 b4)).add (o := .lst (ws.map D.str)) hwd
  refine ⟨Nat.le_of_ble_eq_true rfl, ?_⟩
  -- names
  refine ⟨_, _, O.old (hb _), rfl, f, a4, b4, 2, rfl, O.old put_same, ok4, by decide, by decide, fun v3 a5 b5 hv3 ok5 => ?_⟩
  have O := O.feed (o' := fdl a5 b5)
  refine ⟨f, a5, b5, 1 + v3, by rw [Int.natCast_add]; rfl, O.old put_same, ok5, by omega, fun nms a6 b6 pn hnm ok6 hpn => ?_⟩
  have O := (O.feed (o' := fdl a6 b6)).add (o := .lst (nms.map D.str)) hpn
  -- size
  refine ⟨_, _, O.old (hb _), rfl, f, a6, b6, 3, rfl, O.old put_same, ok6, by decide, by decide, fun v4 a7 b7 hv4 ok7 => ?_⟩
  have O := O.feed (o' := fdl a7 b7)
  have hxl : 0 < xs.length ∧ xs.length < 1000 := by rw [hxs.len]; omega
  have hwl : 0 < ws.length ∧ ws.length < 1000 := by rw [hws.len]; omega
  have hw3 : ws.length ≤ 3 := by rw [hws.len]; omega
  -- from the size on
  have rest : ∀ (sz : Nat) (v6 : Option D) S2 a b, sz ≤ 4 → Fdok a b → Own (S.put f (fdl a b)) S2 [(bx, .lst (xs.map D.str)), (wd, .lst (ws.map D.str)), (pn, .lst (nms.map D.str))] →
      (sSeq (sAsg (xLst (aCons (xTup (aCons (xOp rIx (xVar 3) (xC (.int 0))) (aCons (xCall p_law_part (aCons (xVar 0) (aCons (xVar 4) (aCons (xVar 2) (aCons (xSl (xVar 3) (oSome (xC (.int 1))) oNone) (aCons (xC (.int 2)) (aCons (xC (.int 2)) aNil))))))) aNil))) aNil)) (gN 5))
        (sSeq (sFor (iBi jRange2 (aCons (xC (.int 1)) (aCons (xBi cLen (aCons (xVar 3) aNil)) aNil))) (gN 6) (sDrop (xMth mAppend (xVar 5) (xTup (aCons (xOp rIx (xVar 3) (xVar 6)) (aCons (xCall p_law_part (aCons (xVar 0) (aCons (xCall p_law_take (aCons (xVar 0) (aCons (xC (.int 4)) aNil))) (aCons (xVar 2) (aCons (xSl (xVar 3) (oSome (xOp rAdd (xVar 6) (xC (.int 1)))) oNone) (aCons (xC (.int 1)) (aCons (xC (.int 1)) aNil))))))) aNil))))))
          (sRet (xBi cTuple (aCons (xVar 5) aNil)))))
        ⟨fun _ S' => ∃ S'', Sub S'' S' ∧ Q .non S'', fun d S' => ∃ S'', Sub S'' S' ∧ Q d S''⟩ [some (.ref f), some (.ref bd), some (.tup [.ref bx, .ref wd]), some (.ref pn), some (.int (sz : Nat)), none, v6] S2 := by
    intro sz v6 S2 a b hsz ok O
    obtain ⟨n0, nr, rfl⟩ : ∃ n0 nr, nms = n0 :: nr := by
      cases nms with
      | nil => have := hnm.len; simp at this; omega
      | cons n0 nr => exact ⟨n0, nr, rfl⟩
    have hnr : nr.length ≤ 1 := by have := hnm.len; rw [List.length_cons] at this; omega
    refine ⟨_, _, O.at 2, at0, _, O.at 2, fun q hq => ?_⟩
    have O := O.add (o := .lst (cut ((n0 :: nr).map D.str) (some 1) none)) hq
    have ec : cut ((n0 :: nr).map D.str) (some 1) none = nr.map D.str := cut_from (n := 1) (by simp)
    rw [ec] at O ⊢
    refine ⟨f, bx, wd, q, a, b, xs, ws, nr, sz, 2, 2, rfl, O.old put_same, ok, O.at 0, O.at 1, O.at 3, hxl, hwl, by omega, hsz, by decide, fun L0 a1 b1 ok1 h0 => ?_⟩
    have O := O.feed (o' := fdl a1 b1)
    refine ⟨Nat.le_of_ble_eq_true rfl, Nat.le_of_ble_eq_true rfl, fun pf hpf => ?_⟩
    have O := O.add (o := .lst [ptD (n0, L0)]) hpf
    refine ⟨_, O.at 2, by omega, by omega, by rw [List.length_map, List.length_cons]; omega, by omega, ?_⟩
    cases nr with
    | nil =>
      refine ⟨trivial, _, O.at 4, _, O.sub, ?_⟩
      exact hQ [(n0, L0)] a1 b1 ok1 (good_one h0 hw3 hws.ok)
    | cons n1 nr2 =>
      obtain rfl : nr2 = [] := by
        rw [List.length_cons] at hnr
        exact List.length_eq_zero_iff.1 (by omega)
      have ne : n0 ≠ n1 := by
        have := hnm.nd
        simp at this
        exact this
      refine ⟨trivial, ⟨pf, _, rfl, O.at 4⟩, _, _, O.at 2, rfl, ?_⟩
      refine ⟨f, a1, b1, 4, rfl, O.old put_same, ok1, by decide, by decide, fun v a2 b2 hv ok2 => ?_⟩
      have O := O.feed (o' := fdl a2 b2)
      refine ⟨_, O.at 2, fun q2 hq2 => ?_⟩
      have O := O.add (o := .lst (cut ([n0, n1].map D.str) (some 2) none)) hq2
      refine ⟨f, bx, wd, q2, a2, b2, xs, ws, [], v, 1, 1, rfl, O.old put_same, ok2, O.at 0, O.at 1, O.at 5, hxl, hwl, by decide, by omega, by decide, fun L1 a3 b3 ok3 h1 => ?_⟩
      have O := O.feed (o' := fdl a3 b3)
      refine ⟨Nat.le_of_ble_eq_true rfl, _, O.at 4, Nat.le_of_ble_eq_true rfl, ?_⟩
      have O := O.set (o' := .lst [ptD (n0, L0), ptD (n1, L1)]) 4
      refine ⟨trivial, _, put_same, _, O.sub, ?_⟩
      exact hQ [(n0, L0), (n1, L1)] a3 b3 ok3 (good_two ne h0 h1 hw3 hws.ok)
  refine ⟨f, a7, b7, 4, rfl, O.old put_same, ok7, by decide, by decide, fun v5 a8 b8 hv5 ok8 => ?_⟩
  have O := O.feed (o' := fdl a8 b8)
  have e4 : (4 : Int) - ((v4 : Nat) : Int) = ((4 - v4 : Nat) : Int) := by omega
  refine .inl ⟨rfl, itB (fun h => ?_) (fun h => ?_)⟩
  · rw [e4]
    refine ⟨f, a8, b8, 4 - v4 + 1, rfl, O.old put_same, ok8, by omega, by omega, fun v6 a9 b9 hv6 ok9 => ?_⟩
    have O := O.feed (o' := fdl a9 b9)
    exact rest v6 none _ a9 b9 (by omega) ok9 O
  · rw [e4]
    exact rest (4 - v4) none _ a8 b8 (by omega) ok8 O
end L3
end
section
set_option maxRecDepth 10000
set_option maxHeartbeats 4200000
/-! L5Blk: the law's blocks. -/
namespace L3
open PySem
/-- rows as the law's blocks, in the store -/
def BlkRows (S : Sto) (L : List Ln) (rws : List D) : Prop := ∀ (k o : Nat), (bscan (L.map Ln.kd)).rows[k]? = some (some o) → ∃ q, rws[k]? = some (.ref q) ∧ S q = some (.lst [.int (o : Nat), .int ((row (L.map Ln.kd) k).2.1 : Nat), .int ((row (L.map Ln.kd) k).2.2 : Nat)])
theorem BlkRows.sub {S S' : Sto} {L : List Ln} {rws : List D} (h : BlkRows S L rws) (s : Sub S S') : BlkRows S' L rws := fun k o e => by
  obtain ⟨q, h1, h2⟩ := h k o e
  exact ⟨q, h1, s _ _ h2⟩
def p_law_blocks : F3 := fun ds S Q => ∃ L : List Ln, ds = [lsD L] ∧ wfK (L.map Ln.kd) = true ∧ L.length ≤ 8 ∧ ∀ S' p rws, Sub S S' → S p = none → S' p = some (.lst rws) → BlkRows S' L rws → Q (.ref p) S'
theorem range_mid {n x : Nat} {l r : List Nat} (e : List.range n = l ++ x :: r) : x = l.length ∧ l.length < n := by
  have h1 : (List.range n)[l.length]? = some x := by rw [e, List.getElem?_append_right (Nat.le_refl _), Nat.sub_self]; rfl
  have h2 := (List.getElem?_eq_some_iff.mp h1).1
  rw [List.length_range] at h2
  rw [List.getElem?_range h2] at h1
  exact ⟨(Option.some.inj h1).symm, h2⟩
def rd (A : Nat → Addr) : Option Nat → D
  | none => .non
  | some o => .ref (A o)
def bo (o : Nat) (x : Nat × Nat) : AO := .lst [.int (o : Nat), .int (x.1 : Nat), .int (x.2 : Nat)]
theorem bend_ok {s : BS} {c : Kd} (h : (bend s c).ok = true) : s.ok = true := by
  unfold bend at h
  cases c <;> first | exact h | (cases e : s.op with | nil => (rw [e] at h; cases h) | cons o r => (rw [e] at h; exact h))
theorem bstep_ok {s : BS} {c : Kd} (h : (bstep s c).ok = true) : s.ok = true := by
  have := bend_ok h
  unfold bput bopen at this
  split at this <;> exact this
theorem scan_ok : ∀ (K : List Kd) (s : BS), (K.foldl bstep s).ok = true → s.ok = true
  | [], _, h => h
  | c :: K, s, h => bstep_ok (scan_ok K (bstep s c) h)
theorem scan_take {K : List Kd} {k : Nat} {c : Kd} (h : K[k]? = some c) : bscan (K.take (k + 1)) = bstep (bscan (K.take k)) c := by
  unfold bscan; rw [List.take_add_one, h, List.foldl_append]
  rfl
theorem scan_ok_take {K : List Kd} (h : (bscan K).ok = true) (k : Nat) : (bscan (K.take k)).ok = true := by
  have e : bscan K = (K.drop k).foldl bstep (bscan (K.take k)) := by
    unfold bscan
    rw [← List.foldl_append, List.take_append_drop]
  rw [e] at h
  exact scan_ok _ _ h
theorem rep_set {A : Nat → Addr} {rs : List (Option Nat)} {m : Nat} (v : D) : (rs.map (rd A) ++ List.replicate (m + 1) D.non).set rs.length v = rs.map (rd A) ++ v :: List.replicate m D.non := by
  rw [List.set_append_right _ _ (by rw [List.length_map]; exact Nat.le_refl _), List.length_map, Nat.sub_self, List.replicate_succ]
  rfl
theorem rd_upd {A : Nat → Addr} {k : Nat} {n : Addr} {rs : List (Option Nat)} (h : ∀ o, some o ∈ rs → o ≠ k) : rs.map (rd (upd1 A k n)) = rs.map (rd A) := List.map_congr_left fun x hx => by
  cases x with
  | none => rfl
  | some o =>
    show D.ref (upd1 A k n o) = D.ref (A o)
    rw [upd1_ne (h o hx)]
theorem op_upd {A : Nat → Addr} {k : Nat} {n : Addr} {rs : List Nat} (h : ∀ o ∈ rs, o ≠ k) : rs.map (fun o => D.ref (upd1 A k n o)) = rs.map fun o => D.ref (A o) := List.map_congr_left fun x hx => by rw [upd1_ne (h x hx)]
/-- what stands in the store while the lines are read: s the scan, j the rows that are written, n all rows -/
structure Blk (S S' : Sto) (pr po : Addr) (n j : Nat) (s : BS) (A : Nat → Addr) (OL : List Nat) : Prop where
  own : Own S S' ([(pr, .lst (s.rows.map (rd A) ++ List.replicate (n - j) D.non)), (po, .lst (s.op.reverse.map fun o => D.ref (A o)))] ++ OL.map fun o => (A o, bo o (s.tb o)))
  len : s.rows.length = j
  nd : OL.Nodup
  op : ∀ o ∈ s.op, o ∈ OL
  rows : ∀ o, some o ∈ s.rows → o ∈ OL
theorem op_step (s : BS) (c : Kd) : (bstep s c).op.length ≤ s.op.length + 1 := by
  have a : (bput (bopen s c)).op.length ≤ s.op.length + 1 := by
    unfold bput bopen
    split
    · exact Nat.le_refl _
    · exact Nat.le_succ _
  unfold bstep
  generalize bput (bopen s c) = t at a
  have b : (bend t c).op.length ≤ t.op.length := by
    unfold bend
    cases c with
    | orr => cases eo : t.op <;> exact Nat.le_refl _
    | fin => cases eo : t.op with
      | nil => exact Nat.le_refl _
      | cons o r => exact Nat.le_succ _
    | _ => exact Nat.le_refl _
  omega
theorem op_fold : ∀ (K : List Kd) (s : BS), (K.foldl bstep s).op.length ≤ s.op.length + K.length
  | [], s => Nat.le_refl _
  | c :: K, s => by
    have h1 := op_fold K (bstep s c)
    have h2 := op_step s c; rw [List.foldl_cons, List.length_cons]
    omega
theorem k_law_blocks : Keeps 5 1 b_law_blocks p_law_blocks := by
  refine ⟨fun ds S Q ⟨L, h, _⟩ => by rw [h]; rfl, fun ds S Q ⟨L, h, wf, hlen, hQ⟩ => ?_⟩
  subst h
  have wok := (Bool.and_eq_true_iff.mp wf).1
  refine lc_pure (f := lnD) (· = S) (fun _ => some .non) L [] S _ rfl (fun _ _ => trivial) (by show 0 + _ ≤ _; omega) ?_ ?_
  · rintro l hl S' rfl k1 k2 hk
    exact hk _ rfl
  rintro S' rfl pr hpr
  rw [List.nil_append, show L.filterMap (fun _ => some D.non) = List.replicate L.length D.non by rw [List.filterMap_eq_map', List.map_const']]
  have O := (Own.start S').add (o := .lst (List.replicate L.length D.non)) hpr
  refine ⟨Nat.zero_le _, fun po hpo => ?_⟩
  have O := O.add (o := .lst []) hpo
  refine ⟨by omega, by rw [List.length_map]; omega, ?_⟩
  rw [List.length_map, Int.toNat_natCast, range0]
  refine for_pre (f := fun i : Nat => D.int (i : Nat)) (fun l δ S2 => ∃ (v3 : Option D) (A : Nat → Addr) (OL : List Nat), δ = [some (lsD L), some (.ref pr), some (.ref po), v3, none] ∧ Blk S' S2 pr po L.length l.length (bscan ((L.map Ln.kd).take l.length)) A OL ∧ ∀ o ∈ OL, o < l.length) (List.range L.length)
    ⟨none, fun _ => 0, [], rfl, ⟨O, rfl, List.nodup_nil, (fun o h => nomatch h), (fun o h => nomatch h)⟩, (fun o h => nomatch h)⟩ (fun _ _ _ _ => trivial) ?_ ?_
  · rintro l i r δ S2 e ⟨v3, A, OL, rfl, B, hOL⟩ k hk
    obtain ⟨rfl, hlt⟩ := range_mid e
    obtain ⟨ln, hln⟩ : ∃ ln, L[l.length]? = some ln := ⟨_, List.getElem?_eq_getElem hlt⟩
    have hk2 := kd_of hln
    have ok1 := scan_ok_take wok (l.length + 1)
    rw [scan_take hk2] at ok1
    have l1 : (l ++ [l.length]).length = l.length + 1 := by rw [List.length_append, List.length_singleton]
    obtain ⟨m, hm⟩ : ∃ m, L.length - l.length = m + 1 := ⟨L.length - l.length - 1, by omega⟩
    have hm' : L.length - (l.length + 1) = m := by omega
    generalize hs : bscan ((L.map Ln.kd).take l.length) = s at B ok1
    -- the end of the turn
    have fin : ∀ (S3 : Sto) (A : Nat → Addr) (OL : List Nat), Blk S' S3 pr po L.length (l.length + 1) (bstep s ln.kd) A OL → (∀ o ∈ OL, o < l.length + 1) → k [some (lsD L), some (.ref pr), some (.ref po), some (.int (l.length : Nat)), none] S3 := fun S3 A OL B h => by
      refine hk _ _ ⟨_, A, OL, rfl, ?_, ?_⟩
      · rw [l1, scan_take hk2, hs]
        exact B
      · rw [l1]; exact h
    -- or, end
    have tail : ∀ (S3 : Sto) (A : Nat → Addr) (OL : List Nat), Blk S' S3 pr po L.length (l.length + 1) (bput (bopen s ln.kd)) A OL → (∀ o ∈ OL, o < l.length + 1) →
        (sSeq (sIf (bT (xOp (rEq false) (xOp rIx (xOp rIx (xVar 0) (xVar 3)) (xC (.int 0))) (xC (.str "or")))) (sAsg (xVar 3) (gSubL (xOp rIx (xVar 2) (xC (.int (-1)))) (xC (.int 1)))) sNil)
          (sIf (bT (xOp (rEq false) (xOp rIx (xOp rIx (xVar 0) (xVar 3)) (xC (.int 0))) (xC (.str "end")))) (sSeq (sAsg (xVar 3) (gSubL (xOp rIx (xVar 2) (xC (.int (-1)))) (xC (.int 2)))) (sDrop (xM0 mPop (xVar 2)))) sNil))
          ⟨k, fun d S' => ∃ S'', Sub S'' S' ∧ Q d S''⟩ [some (lsD L), some (.ref pr), some (.ref po), some (.int (l.length : Nat)), none] S3 := by
      intro S3 A OL B hO
      have fin' := fin
      unfold bstep at fin' ok1
      generalize bput (bopen s ln.kd) = t at B fin' ok1
      have tl : t.rows.length - 1 = l.length := by rw [B.len]; omega
      refine ⟨_, ln_at hln, _, at0, .inl ⟨rfl, itB (fun h1 => ?_) (fun h1 => ?_)⟩⟩
      · rw [bne_f (eqb_orr ln), decide_eq_true_eq] at h1
        rw [h1] at fin' ok1
        cases eo : t.op with
        | nil =>
          unfold bend at ok1
          rw [eo] at ok1
          cases ok1
        | cons o rs =>
          have ho : o ∈ OL := B.op o (by rw [eo]; exact List.mem_cons_self)
          have O := B.own
          rw [eo] at O
          have hlast : L2.atI ((o :: rs).reverse.map fun o => D.ref (A o)) (-1) = some (.ref (A o)) := by rw [List.reverse_cons, List.map_append]; exact atI_last
          refine ⟨_, _, O.at 1, hlast, A o, 1, _, 1, rfl, rfl, O.atF ho, rfl, ?_⟩
          have O2 := O.setF ho (bo o (l.length, (t.tb o).2)) B.nd
          -- end? no
          refine ⟨_, ln_at hln, _, at0, .inl ⟨rfl, itB (fun h2 => ?_) (fun h2 => ?_)⟩⟩
          · rw [bne_f (eqb_fin ln), decide_eq_true_eq, h1] at h2
            cases h2
          · refine fin' _ A OL ?_ hO
            have eb : bend t .orr = { t with tb := upd1 t.tb o (l.length, (t.tb o).2) } := by
              unfold bend
              rw [eo, tl]
            rw [eb]
            refine ⟨?_, B.len, B.nd, B.op, B.rows⟩
            show Own S' _ ([(pr, .lst (t.rows.map (rd A) ++ List.replicate (L.length - (l.length + 1)) D.non)), (po, .lst (t.op.reverse.map fun o => D.ref (A o)))] ++ OL.map fun x => (A x, bo x (upd1 t.tb o (l.length, (t.tb o).2) x)))
            rw [eo]
            have e3 : (fun x => ((A x, bo x (upd1 t.tb o (l.length, (t.tb o).2) x)) : Addr × AO)) = fun x => (A x, upd1 (fun o => bo o (t.tb o)) o (bo o (l.length, (t.tb o).2)) x) := by
              funext x
              unfold upd1
              split
              · rename_i q; rw [q]
              · rfl
            rw [e3]
            exact O2
      · rw [bne_f (eqb_orr ln), decide_eq_false_iff_not] at h1
        refine ⟨_, ln_at hln, _, at0, .inl ⟨rfl, itB (fun h2 => ?_) (fun h2 => ?_)⟩⟩
        · rw [bne_f (eqb_fin ln), decide_eq_true_eq] at h2
          rw [h2] at fin' ok1
          cases eo : t.op with
          | nil =>
            unfold bend at ok1
            rw [eo] at ok1
            cases ok1
          | cons o rs =>
            have ho : o ∈ OL := B.op o (by rw [eo]; exact List.mem_cons_self)
            have O := B.own
            rw [eo] at O
            have hlast : L2.atI ((o :: rs).reverse.map fun o => D.ref (A o)) (-1) = some (.ref (A o)) := by rw [List.reverse_cons, List.map_append]; exact atI_last
            refine ⟨_, _, O.at 1, hlast, A o, 2, _, 2, rfl, rfl, O.atF ho, rfl, ?_⟩
            have O2 := O.setF ho (bo o ((t.tb o).1, l.length)) B.nd
            refine ⟨_, .ref (A o), O2.at 1, ?_, ?_⟩
            · rw [List.reverse_cons]
              exact last_map (f := fun o => D.ref (A o))
            have O3 := O2.setL (o' := .lst (rs.reverse.map fun o => D.ref (A o))) 1
            rw [List.reverse_cons, drop_map]
            refine fin' _ A OL ?_ hO
            have eb : bend t .fin = { t with op := rs, tb := upd1 t.tb o ((t.tb o).1, l.length) } := by
              unfold bend
              rw [eo, tl]
            rw [eb]
            refine ⟨?_, B.len, B.nd, fun x hx => B.op x (by rw [eo]; exact List.mem_cons_of_mem _ hx), B.rows⟩
            show Own S' _ ([(pr, .lst (t.rows.map (rd A) ++ List.replicate (L.length - (l.length + 1)) D.non)), (po, .lst (rs.reverse.map fun o => D.ref (A o)))] ++ OL.map fun x => (A x, bo x (upd1 t.tb o ((t.tb o).1, l.length) x)))
            have e3 : (fun x => ((A x, bo x (upd1 t.tb o ((t.tb o).1, l.length) x)) : Addr × AO)) = fun x => (A x, upd1 (fun o => bo o (t.tb o)) o (bo o ((t.tb o).1, l.length)) x) := by
              funext x
              unfold upd1
              split
              · rename_i q; rw [q]
              · rfl
            rw [e3]
            exact O3
        · rw [bne_f (eqb_fin ln), decide_eq_false_iff_not] at h2
          refine fin' _ A OL ?_ hO
          have eb : bend t ln.kd = t := by
            unfold bend
            cases hkd : ln.kd <;> first | rfl | exact absurd hkd h1 | exact absurd hkd h2
          rw [eb]
          exact B
    -- the row
    have mid : ∀ (S3 : Sto) (A : Nat → Addr) (OL : List Nat), Blk S' S3 pr po L.length l.length (bopen s ln.kd) A OL → (∀ o ∈ OL, o < l.length + 1) →
        (sSeq (sIf (bT (xOp rGt (xBi cLen (aCons (xVar 2) aNil)) (xC (.int 0)))) (sAsg (xOp rIx (xVar 2) (xC (.int (-1)))) (gSubL (xVar 1) (xVar 3))) sNil)
          (sSeq (sIf (bT (xOp (rEq false) (xOp rIx (xOp rIx (xVar 0) (xVar 3)) (xC (.int 0))) (xC (.str "or")))) (sAsg (xVar 3) (gSubL (xOp rIx (xVar 2) (xC (.int (-1)))) (xC (.int 1)))) sNil)
          (sIf (bT (xOp (rEq false) (xOp rIx (xOp rIx (xVar 0) (xVar 3)) (xC (.int 0))) (xC (.str "end")))) (sSeq (sAsg (xVar 3) (gSubL (xOp rIx (xVar 2) (xC (.int (-1)))) (xC (.int 2)))) (sDrop (xM0 mPop (xVar 2)))) sNil)))
          ⟨k, fun d S' => ∃ S'', Sub S'' S' ∧ Q d S''⟩ [some (lsD L), some (.ref pr), some (.ref po), some (.int (l.length : Nat)), none] S3 := by
      intro S3 A OL B hO
      have tail' := tail
      generalize bopen s ln.kd = t at B tail'
      have O := B.own
      rw [hm] at O
      have fin2 : ∀ v S4, t.op.head? = v → Own S' S4 ([(pr, .lst ((t.rows ++ [v]).map (rd A) ++ List.replicate (L.length - (l.length + 1)) D.non)), (po, .lst (t.op.reverse.map fun o => D.ref (A o)))] ++ OL.map fun o => (A o, bo o (t.tb o))) → (∀ o, v = some o → o ∈ OL) →
          Blk S' S4 pr po L.length (l.length + 1) (bput t) A OL := fun v S4 hv O hvo => by
        subst hv
        refine ⟨O, ?_, B.nd, B.op, fun o ho => ?_⟩
        · show (t.rows ++ [t.op.head?]).length = _
          rw [List.length_append, List.length_singleton, B.len]
        · rcases List.mem_append.mp (show some o ∈ t.rows ++ [t.op.head?] from ho) with ho | ho
          · exact B.rows o ho
          · exact hvo o (List.mem_singleton.mp ho).symm
      refine ⟨_, O.at 1, itB (fun h => ?_) (fun h => ?_)⟩
      · rw [decide_eq_true_eq, List.length_map, List.length_reverse] at h
        cases eo : t.op with
        | nil => rw [eo] at h; simp at h
        | cons o rs =>
          rw [eo] at O
          have hlast : L2.atI ((o :: rs).reverse.map fun o => D.ref (A o)) (-1) = some (.ref (A o)) := by rw [List.reverse_cons, List.map_append]; exact atI_last
          refine ⟨_, _, O.at 1, hlast, pr, ((l.length : Nat) : Int), _, l.length, rfl, rfl, O.at 0, ?_, ?_⟩
          · unfold L2.ixN
            rw [if_pos (by omega), List.length_append, List.length_map, List.length_replicate, B.len, if_pos (by omega), Int.toNat_natCast]
          · have er := rep_set (A := A) (rs := t.rows) (m := m) (.ref (A o))
            rw [B.len] at er
            rw [er]
            have O2 := O.setL (o' := .lst (t.rows.map (rd A) ++ D.ref (A o) :: List.replicate m D.non)) 0
            refine tail' _ A OL (fin2 (some o) _ (by rw [eo]; rfl) ?_ (fun x hx => by cases hx; exact B.op o (by rw [eo]; exact List.mem_cons_self))) hO
            rw [hm', List.map_append, List.append_assoc, eo]
            exact O2
      · rw [decide_eq_false_iff_not, List.length_map, List.length_reverse] at h
        have eo : t.op = [] := List.length_eq_zero_iff.mp (by omega)
        refine tail' _ A OL (fin2 none _ (by rw [eo]; rfl) ?_ (fun x hx => nomatch hx)) hO
        rw [hm', List.map_append, List.append_assoc]
        exact O
    -- opens?
    have open_ : isOp ln.kd = true → ∀ kk : E3 → Sto → Prop, (∀ (S3 : Sto) (A : Nat → Addr) (OL : List Nat), Blk S' S3 pr po L.length l.length (bopen s ln.kd) A OL → (∀ o ∈ OL, o < l.length + 1) → kk [some (lsD L), some (.ref pr), some (.ref po), some (.int (l.length : Nat)), none] S3) →
        sDrop (xMth mAppend (xVar 2) (xLst (aCons (xVar 3) (aCons (xVar 3) (aCons (xVar 3) aNil))))) ⟨kk, fun d S' => ∃ S'', Sub S'' S' ∧ Q d S''⟩ [some (lsD L), some (.ref pr), some (.ref po), some (.int (l.length : Nat)), none] S2 := by
      intro hop kk hkk
      have O := B.own
      have hnew : l.length ∉ OL := fun h => Nat.lt_irrefl _ (hOL _ h)
      refine ⟨⟨po, _, rfl, O.at 1⟩, Nat.le_of_ble_eq_true rfl, fun n hn => ?_⟩
      have O2 := O.addF hnew (o := bo l.length (l.length, l.length)) hn
      refine ⟨_, O2.at 1, ?_, ?_⟩
      · rw [List.length_map, List.length_reverse]
        have h1 := op_fold ((L.map Ln.kd).take l.length) bs0
        have h2 : bscan ((L.map Ln.kd).take l.length) = ((L.map Ln.kd).take l.length).foldl bstep bs0 := rfl
        rw [← h2, hs] at h1
        have h3 : ((L.map Ln.kd).take l.length).length ≤ L.length := by rw [List.length_take, List.length_map]; omega
        have h4 : bs0.op.length = 0 := rfl
        omega
      · have O3 := O2.setL (o' := .lst (s.op.reverse.map (fun o => D.ref (A o)) ++ [.ref n])) 1
        refine hkk _ (upd1 A l.length n) (OL ++ [l.length]) ?_ ?_
        · have eb : bopen s ln.kd = { s with op := l.length :: s.op, tb := upd1 s.tb l.length (l.length, l.length) } := by
            unfold bopen
            rw [if_pos hop, B.len]
          rw [eb]
          have n1 : ∀ o ∈ s.op, o ≠ l.length := fun o ho q => hnew (q ▸ B.op o ho)
          have n2 : ∀ o, some o ∈ s.rows → o ≠ l.length := fun o ho q => hnew (q ▸ B.rows o ho)
          refine ⟨?_, B.len, nodup_snoc B.nd hnew, fun o ho => ?_, fun o ho => List.mem_append_left _ (B.rows o ho)⟩
          · show Own S' _ ([(pr, .lst (s.rows.map (rd (upd1 A l.length n)) ++ List.replicate (L.length - l.length) D.non)), (po, .lst ((l.length :: s.op).reverse.map fun o => D.ref (upd1 A l.length n o)))] ++ (OL ++ [l.length]).map fun x => (upd1 A l.length n x, bo x (upd1 s.tb l.length (l.length, l.length) x)))
            rw [rd_upd n2, List.reverse_cons, List.map_append, op_upd (fun o ho => n1 o (List.mem_reverse.mp ho))]
            have e3 : (fun x => ((upd1 A l.length n x, bo x (upd1 s.tb l.length (l.length, l.length) x)) : Addr × AO)) = fun x => (upd1 A l.length n x, upd1 (fun o => bo o (s.tb o)) l.length (bo l.length (l.length, l.length)) x) := by
              funext x
              unfold upd1
              split
              · rename_i q; rw [q]
              · rfl
            rw [e3]
            have e4 : [l.length].map (fun o => D.ref (upd1 A l.length n o)) = [.ref n] := by
              show [D.ref (upd1 A l.length n l.length)] = _
              rw [upd1_same]
            rw [e4]
            exact O3
          · rcases List.mem_cons.mp (show o ∈ l.length :: s.op from ho) with q | q
            · rw [q]; simp
            · exact List.mem_append_left _ (B.op o q)
        · intro o ho
          rcases List.mem_append.mp ho with ho | ho
          · have := hOL o ho
            omega
          · rw [List.mem_singleton.mp ho]
            omega
    have e1 : isOp ln.kd = true → ln.kd = .eit ∨ ln.kd = .agn := fun h => of_decide_eq_true h
    refine ⟨_, ln_at hln, _, at0, .inl ⟨rfl, itB (fun h1 => ?_) (fun h1 => ?_)⟩⟩
    · rw [bne_f (eqb_eit ln), decide_eq_true_eq] at h1
      exact open_ (decide_eq_true (.inl h1)) _ mid
    · rw [bne_f (eqb_eit ln), decide_eq_false_iff_not] at h1
      refine ⟨_, ln_at hln, _, at0, .inl ⟨rfl, itB (fun h2 => ?_) (fun h2 => ?_)⟩⟩
      · rw [bne_f (eqb_agn ln), decide_eq_true_eq] at h2
        exact open_ (decide_eq_true (.inr h2)) _ mid
      · rw [bne_f (eqb_agn ln), decide_eq_false_iff_not] at h2
        refine mid S2 A OL ?_ fun o ho => Nat.lt_succ_of_lt (hOL o ho)
        have eb : bopen s ln.kd = s := by
          unfold bopen
          rw [if_neg fun h => (e1 h).elim h1 h2]
        rw [eb]
        exact B
  · rintro δ S2 ⟨v3, A, OL, rfl, B, hOL⟩
    rw [List.length_range] at B hOL
    have O := B.own
    have e1 : (L.map Ln.kd).take L.length = L.map Ln.kd := by rw [List.take_of_length_le]; rw [List.length_map]; exact Nat.le_refl _
    rw [e1] at O B
    refine ⟨S2, Sub.refl _, hQ S2 pr _ O.sub (O.free 0) (O.at 0) fun k o hk => ?_⟩
    have hm : some o ∈ (bscan (L.map Ln.kd)).rows := List.mem_of_getElem? hk
    refine ⟨A o, ?_, ?_⟩
    · rw [Nat.sub_self, List.replicate_zero, List.append_nil, List.getElem?_map, hk]
      rfl
    · have := O.atF (B.rows o hm)
      rw [this]
      unfold bo row
      rw [hk]
end L3
end
section
set_option maxRecDepth 10000
set_option maxHeartbeats 8000000
/-! L5Nx: the law's next. -/
namespace L3
open PySem
/-- the blocks of all parts -/
def RowsAll (P : Pg) (S : Sto) (rw : Addr) : Prop := ∃ rfs : List Addr, S rw = some (.lst (rfs.map D.ref)) ∧ ∀ (i : Nat) p, P[i]? = some p → ∃ q rws, rfs[i]? = some q ∧ S q = some (.lst rws) ∧ BlkRows S p.2 rws
theorem RowsAll.sub {P : Pg} {S S' : Sto} {rw : Addr} (h : RowsAll P S rw) (s : Sub S S') : RowsAll P S' rw := by
  obtain ⟨rfs, h1, h2⟩ := h
  refine ⟨rfs, s _ _ h1, fun i p hp => ?_⟩
  obtain ⟨q, rws, g1, g2, g3⟩ := h2 i p hp
  exact ⟨q, rws, g1, s _ _ g2, g3.sub s⟩
def p_law_next : F3 := fun ds S Q => ∃ (P : Pg) (rw : Addr) (s : Spt), ds = [pgD P, .ref rw, spD s] ∧ Good P ∧ Vld P s ∧ RowsAll P S rw ∧ ∀ p, S p = none → Q (.ref p) (S.put p (.lst ((nx P s).map spD)))
theorem k_law_next : Keeps 11 3 b_law_next p_law_next := by
  refine ⟨fun ds S Q ⟨P, rw, s, h, _⟩ => by rw [h]; rfl, fun ds S Q ⟨P, rw, s, h, G, v, hR, hQ⟩ => ?_⟩
  subst h
  obtain ⟨pt, h1, h2⟩ := pg_at G v
  obtain ⟨pt', h1', h2'⟩ := part_lt G v
  have ept : pt = pt' ∨ True := .inr trivial
  have hk := v.k
  have hw := G.wf s.part
  obtain ⟨rfs, hr1, hr2⟩ := hR
  obtain ⟨q, rws, hq1, hq2, hq3⟩ := hr2 s.part pt' h1'
  have out : ∀ (ts : List Spt), nx P s = ts → ∀ p, S p = none → ∃ S'', Sub S'' (S.put p (.lst (ts.map spD))) ∧ Q (.ref p) S'' := fun ts e p hp => by
    rw [e] at hQ
    exact ⟨_, Sub.refl _, hQ p hp⟩
  rw [h2] at hk hw
  rw [← h2', h2] at hq3
  have lk : ∀ l, pt.2[s.k]? = some l → L2.atI (pt.2.map lnD) ((s.k : Nat) : Int) = some (lnD l) := fun l hl => atI_map hl
  have rq : L2.atI (rfs.map D.ref) ((s.part : Nat) : Int) = some (.ref q) := atI_map hq1
  -- rows[part][k]
  have blk : ∀ o, (bscan (pt.2.map Ln.kd)).rows[s.k]? = some (some o) → ∃ b, L2.atI rws ((s.k : Nat) : Int) = some (.ref b) ∧ S b = some (.lst [.int (o : Nat), .int ((row (pt.2.map Ln.kd) s.k).2.1 : Nat), .int ((row (pt.2.map Ln.kd) s.k).2.2 : Nat)]) := fun o ho => by
    obtain ⟨b, b1, b2⟩ := hq3 s.k o ho
    exact ⟨b, atI_nat b1, b2⟩
  refine ⟨rfl, rfl, _, h1, _, rfl, itB (fun hh => ?_) (fun hh => ?_)⟩
  · have ha := v.hd hh
    rw [h2] at ha
    obtain ⟨w1, w2, w3⟩ := wf_agn hw (kd_of ha)
    obtain ⟨b, b1, b2⟩ := blk _ w1
    refine ⟨_, _, hr1, rq, _, _, hq2, b1, _, _, b2, rfl, ?_⟩
    refine ⟨Nat.le_of_ble_eq_true rfl, Nat.le_of_ble_eq_true rfl, Nat.le_of_ble_eq_true rfl, fun p hp => ?_⟩
    refine out [goTo s ((rowOf P s).2.2 + 1), goTo s (s.k + 1)] (by unfold nx; rw [if_pos hh]) p hp |>.imp fun S'' z => ?_
    refine ⟨?_, z.2⟩
    have z1 := z.1
    unfold rowOf at z1
    rw [h2] at z1
    exact z1
  have nh : ¬ s.hd = true := by rw [hh]; simp
  refine .inl ⟨rfl, itB (fun he => ?_) (fun he => ?_)⟩
  · rw [bne_f (int_eqb _ _), decide_eq_true_eq, List.length_map] at he
    have en : pt.2[s.k]? = none := List.getElem?_eq_none (by omega)
    have nxe : nx P s = backOf s.way := by
      unfold nx backOf
      rw [if_neg nh, h2, en]
      try rfl
    refine itB (fun hwl => ?_) (fun hwl => ?_)
    · rw [decide_eq_true_eq, List.length_map] at hwl
      obtain ⟨r, x, hwx⟩ := last_snoc (List.ne_nil_of_length_pos (by omega : 0 < s.way.length))
      rw [hwx] at nxe
      have hb : backOf (r ++ [x]) = [⟨r, x.1, x.2 + 1, false⟩] := by
        unfold backOf
        rw [List.getLast?_concat, List.dropLast_concat]
      rw [hb] at nxe
      have hwm : s.way.map plD = r.map plD ++ [plD x] := by rw [hwx, List.map_append]; rfl
      unfold spD wyD
      rw [hwm]
      refine ⟨_, atI_last, _, rfl, _, atI_last, _, rfl, Nat.le_of_ble_eq_true rfl, Nat.le_of_ble_eq_true rfl, fun p hp => ?_⟩
      rw [cut_last, List.dropLast_concat]
      exact out _ nxe p hp
    · rw [decide_eq_false_iff_not, List.length_map] at hwl
      have hw0 : s.way = [] := List.length_eq_zero_iff.mp (by omega)
      refine .inl ⟨rfl, itT ?_ ?_⟩
      · rw [bne_f (int_eqb _ _), decide_eq_true_eq, List.length_map]
        exact he
      · refine ⟨Nat.zero_le _, fun p hp => ?_⟩
        rw [hw0] at nxe
        exact out [] nxe p hp
  · have he' := he
    rw [bne_f (int_eqb _ _), decide_eq_false_iff_not, List.length_map] at he
    refine .inl ⟨rfl, itF he' ?_⟩
    have hlt : s.k < pt.2.length := by omega
    obtain ⟨l, hl⟩ : ∃ l, pt.2[s.k]? = some l := ⟨_, List.getElem?_eq_getElem hlt⟩
    have hl' : (lines P s.part)[s.k]? = some l := by rw [h2]; exact hl
    have one : ∀ t, nx P s = [t] → ∀ p, S p = none → ∃ S'', Sub S'' (S.put p (.lst [spD t])) ∧ Q (.ref p) S'' := fun t e p hp => out [t] e p hp
    have nxl : nx P s = (match some l with
      | none => (match s.way.getLast? with
        | none => []
        | some p => [⟨s.way.dropLast, p.1, p.2 + 1, false⟩])
      | some .eit => [goTo s (s.k + 1), goTo s ((rowOf P s).2.1 + 1)]
      | some .orr => [goTo s ((rowOf P s).2.2 + 1)]
      | some .agn => [⟨s.way, s.part, s.k, true⟩]
      | some .fin => if ((lines P s.part).map Ln.kd)[(rowOf P s).1]? = some .agn then [⟨s.way, s.part, (rowOf P s).1, true⟩] else [goTo s (s.k + 1)]
      | some (.doo nm) => [⟨s.way ++ [(s.part, s.k)], ix P nm, 0, false⟩]
      | some _ => [goTo s (s.k + 1)]) := by
      unfold nx
      rw [if_neg nh, hl']
      try rfl
    have rw2 : rowOf P s = row (pt.2.map Ln.kd) s.k := by unfold rowOf; rw [h2]
    rw [rw2] at nxl
    refine ⟨_, lk l hl, _, at0, .inl ⟨rfl, itB (fun t1 => ?_) (fun t1 => ?_)⟩⟩
    · rw [bne_f (eqb_eit l), decide_eq_true_eq] at t1
      cases kd_eit t1
      obtain ⟨w1, _, _⟩ := wf_eit hw (kd_of hl)
      obtain ⟨b, b1, b2⟩ := blk _ w1
      refine ⟨Nat.le_of_ble_eq_true rfl, _, _, hr1, rq, _, _, hq2, b1, _, _, b2, rfl, Nat.le_of_ble_eq_true rfl, Nat.le_of_ble_eq_true rfl, fun p hp => ?_⟩
      exact out [goTo s (s.k + 1), goTo s ((row (pt.2.map Ln.kd) s.k).2.1 + 1)] nxl p hp
    rw [bne_f (eqb_eit l), decide_eq_false_iff_not] at t1
    refine .inl ⟨rfl, itB (fun t2 => ?_) (fun t2 => ?_)⟩
    · rw [bne_f (eqb_orr l), decide_eq_true_eq] at t2
      cases kd_orr t2
      obtain ⟨w1, _, _⟩ := wf_orr hw (kd_of hl)
      obtain ⟨b, b1, b2⟩ := blk _ w1
      exact ⟨_, _, hr1, rq, _, _, hq2, b1, _, _, b2, rfl, Nat.le_of_ble_eq_true rfl, Nat.le_of_ble_eq_true rfl, fun p hp => one (goTo s ((row (pt.2.map Ln.kd) s.k).2.2 + 1)) nxl p hp⟩
    rw [bne_f (eqb_orr l), decide_eq_false_iff_not] at t2
    refine .inl ⟨rfl, itB (fun t3 => ?_) (fun t3 => ?_)⟩
    · rw [bne_f (eqb_agn l), decide_eq_true_eq] at t3
      cases kd_agn t3
      exact ⟨Nat.le_of_ble_eq_true rfl, Nat.le_of_ble_eq_true rfl, fun p hp => one ⟨s.way, s.part, s.k, true⟩ nxl p hp⟩
    rw [bne_f (eqb_agn l), decide_eq_false_iff_not] at t3
    refine .inl ⟨rfl, itB (fun t4 => ?_) (fun t4 => ?_)⟩
    · rw [bne_f (eqb_fin l), decide_eq_true_eq] at t4
      cases kd_fin t4
      obtain ⟨w1, _, _, w4⟩ := wf_fin hw (kd_of hl)
      obtain ⟨b, b1, b2⟩ := blk _ w1
      obtain ⟨lo, hlo, elo⟩ : ∃ lo, pt.2[(row (pt.2.map Ln.kd) s.k).1]? = some lo ∧ (pt.2.map Ln.kd)[(row (pt.2.map Ln.kd) s.k).1]? = some lo.kd := by
        rcases w4 with z | z
        · obtain ⟨x, e1, e2⟩ := kd_at z
          exact ⟨x, e1, by rw [z, e2]⟩
        · obtain ⟨x, e1, e2⟩ := kd_at z
          exact ⟨x, e1, by rw [z, e2]⟩
      dsimp only at nxl
      rw [h2, elo] at nxl
      refine ⟨_, _, hr1, rq, _, _, hq2, b1, _, _, b2, rfl, _, atI_map hlo, _, at0, .inl ⟨rfl, itB (fun t5 => ?_) (fun t5 => ?_)⟩⟩
      · rw [bne_f (eqb_agn lo), decide_eq_true_eq] at t5
        rw [if_pos (by rw [t5])] at nxl
        exact ⟨_, _, hr1, rq, _, _, hq2, b1, _, _, b2, rfl, Nat.le_of_ble_eq_true rfl, Nat.le_of_ble_eq_true rfl, fun p hp => one _ nxl p hp⟩
      · rw [bne_f (eqb_agn lo), decide_eq_false_iff_not] at t5
        rw [if_neg (fun z => t5 (Option.some.inj z))] at nxl
        refine .inl ⟨rfl, itF ?_ ?_⟩
        · exact (bne_f (eqb_doo Ln.fin)).trans rfl
        · exact ⟨Nat.le_of_ble_eq_true rfl, Nat.le_of_ble_eq_true rfl, fun p hp => one _ nxl p hp⟩
    rw [bne_f (eqb_fin l), decide_eq_false_iff_not] at t4
    refine .inl ⟨rfl, itB (fun t5 => ?_) (fun t5 => ?_)⟩
    · rw [bne_f (eqb_doo l), decide_eq_true_eq] at t5
      obtain ⟨nm, rfl⟩ := kd_doo t5
      obtain ⟨e0, qq, hqq⟩ := G.dos _ _ _ hl'
      have hw0 : s.way = [] := by
        rcases v.at_ with ⟨e, _⟩ | ⟨_, _, _, e2, _⟩
        · exact e
        · rw [e0] at e2
          cases e2
      have e1 := ix_one G hqq
      dsimp only at nxl
      rw [hw0] at nxl
      have nxl' := one _ nxl
      refine ⟨Nat.le_of_ble_eq_true rfl, Nat.le_of_ble_eq_true rfl, ?_⟩
      refine ⟨by rw [hw0]; exact Nat.le_of_ble_eq_true rfl, ?_⟩
      refine lc_pure (f := ptD) (· = S) (fun p => some (.str p.1)) P [] S _ rfl (fun _ _ => trivial) (by have := G.len; show 0 + _ ≤ _; omega) ?_ ?_
      · rintro p hp S' rfl k1 k2 hk
        exact ⟨rfl, rfl, hk _ rfl⟩
      rintro S' rfl n hn
      rw [List.nil_append, List.filterMap_eq_map', show P.map (fun p => D.str p.1) = (P.map (·.1)).map D.str by rw [List.map_map]; rfl]
      have O := (Own.start S').add (o := .lst ((P.map (·.1)).map D.str)) hn
      refine ⟨⟨n, _, rfl, O.at 0⟩, _, lk _ hl, _, rfl, ?_⟩
      have hnm : (P.map (·.1))[1]? = some nm := by rw [List.getElem?_map, hqq]; rfl
      refine ⟨P.map (·.1), 1, O.at 0, hnm, fun m z hm hz q0 => ?_, ?_⟩
      · obtain rfl : m = 0 := by omega
        rw [q0] at hz
        have := (List.getElem?_inj (List.getElem?_eq_some_iff.mp hz).1 G.nd).mp (hz.trans hnm.symm)
        cases this
      · rw [hw0]
        rw [e1] at nxl'
        refine ⟨Nat.le_of_ble_eq_true rfl, Nat.le_of_ble_eq_true rfl, fun p hp => ?_⟩
        have hpS : S' p = none := O.fresh hp
        obtain ⟨S'', z1, z2⟩ := nxl' p hpS
        have O2 := O.add (o := .lst [spD ⟨[] ++ [(s.part, s.k)], 1, 0, false⟩]) hp
        exact ⟨S'', z1.trans (O2.put_sub 1), z2⟩
    rw [bne_f (eqb_doo l), decide_eq_false_iff_not] at t5
    have nxo : nx P s = [goTo s (s.k + 1)] := by
      cases l with
      | pair => exact nxl
      | pl => exact nxl
      | eit => exact absurd rfl t1
      | orr => exact absurd rfl t2
      | agn => exact absurd rfl t3
      | fin => exact absurd rfl t4
      | doo => exact absurd rfl t5
    exact ⟨Nat.le_of_ble_eq_true rfl, Nat.le_of_ble_eq_true rfl, fun p hp => one _ nxo p hp⟩
end L3
end
section
set_option maxRecDepth 10000
set_option maxHeartbeats 4200000
/-! L5Small: the law's words, manner, made, given. -/
namespace L3
open PySem
def p_law_words : F3 := fun ds S Q => ∃ P : Pg, ds = [pgD P] ∧ Good P ∧ ∀ ys : List Str, ys.length ≤ 16 → ∀ p, S p = none → Q (.ref p) (S.put p (.lst (ys.map D.str)))
def p_law_made : F3 := fun ds S Q => ∃ (P : Pg) (s : Spt), ds = [pgD P, spD s] ∧ Good P ∧ Vld P s ∧ Q (optD (mk P s)) S
def p_law_given : F3 := fun ds S Q => ∃ (M : Mn) (s : Spt) (a : Addr), ds = [.ref a, spD s] ∧ S a = some (.lst (M.map mnD)) ∧ M.length ≤ 1000 ∧ ∀ p, S p = none → Q (.ref p) (S.put p (.lst ((gv M s).map D.str)))
def p_law_manner : F3 := fun ds S Q => ∃ (P : Pg) (f : Addr) (a b : Int), ds = [pgD P, .ref f] ∧ Good P ∧ S f = some (fdl a b) ∧ Fdok a b ∧
  ∀ (M : Mn) a' b' p, M.length ≤ 1000 → Fdok a' b' → (S.put f (fdl a' b')) p = none → Q (.ref p) ((S.put f (fdl a' b')).put p (.lst (M.map mnD)))
theorem lns_pre {P l r : Pg} {x : Str × List Ln} (G : Good P) (e : P = l ++ x :: r) : (lnsOf l).length + x.2.length ≤ 16 := by
  have := lns_len G
  unfold lnsOf at this ⊢
  rw [e, List.flatMap_append, List.flatMap_cons, List.length_append, List.length_append] at this
  omega
theorem k_law_words : Keeps 5 1 b_law_words p_law_words := by
  refine ⟨fun ds S Q ⟨P, h, _⟩ => by rw [h]; rfl, fun ds S Q ⟨P, h, G, hQ⟩ => ?_⟩
  subst h
  refine ⟨Nat.zero_le _, fun pf hf => ?_⟩
  have O := (Own.start S).add (o := .lst []) hf
  refine for_pre (f := ptD) (fun l δ S' => ∃ (v2 v3 : Option D) (wl : List Str), δ = [some (pgD P), some (.ref pf), v2, v3, none] ∧ Own S S' [(pf, .lst (wl.map D.str))] ∧ wl.length ≤ (lnsOf l).length) P ⟨_, _, [], rfl, O, Nat.le_refl _⟩ (fun _ _ _ _ => trivial) ?_ ?_
  · rintro l x r δ S' e ⟨v2, v3, wl, rfl, O, hl⟩ k hk
    have lp := lns_pre G e
    refine ⟨rfl, rfl, ⟨pf, _, rfl, O.at 0⟩, ?_⟩
    refine lc_pure (f := lnD) (· = S') (fun ln => ln.word.map D.str) x.2 [] S' _ rfl (fun _ _ => trivial) (by show 0 + _ ≤ _; omega) ?_ ?_
    · rintro ln hln S2 rfl k1 k2 hk2
      refine ⟨_, at0, .inl ⟨rfl, itB (fun h => ?_) (fun h => ?_)⟩⟩
      · rw [bne_f (eqb_pair ln)] at h
        obtain ⟨w, w1, w2⟩ := word_pair h
        rw [w1] at hk2
        exact ⟨_, w2, hk2 _ rfl⟩
      · rw [bne_f (eqb_pair ln)] at h
        rw [word_none h] at hk2
        exact hk2 _ rfl
    · rintro S2 rfl n hn
      rw [List.nil_append, show x.2.filterMap (fun ln => ln.word.map D.str) = (x.2.filterMap Ln.word).map D.str by rw [List.map_filterMap]]
      have O := O.junk (o := .lst ((x.2.filterMap Ln.word).map D.str)) hn
      have lf : (x.2.filterMap Ln.word).length ≤ x.2.length := List.length_filterMap_le ..
      refine ⟨_, _, O.at 0, put_same, by rw [List.length_map, List.length_map]; omega, ?_⟩
      rw [← List.map_append]
      refine hk _ _ ⟨_, _, wl ++ x.2.filterMap Ln.word, rfl, O.set 0, ?_⟩
      rw [List.length_append]
      unfold lnsOf at hl ⊢
      rw [List.flatMap_append, List.length_append, List.flatMap_cons, List.flatMap_nil, List.append_nil]
      omega
  · rintro δ S' ⟨v2, v3, wl, rfl, O, hl⟩
    have := lns_len G
    refine ⟨wl, O.at 0, by omega, fun ys _ hy p hp => ?_⟩
    exact ⟨_, (O.add (o := .lst (ys.map D.str)) hp).put_sub 1, hQ ys (by omega) p (O.fresh hp)⟩
theorem k_law_made : Keeps 3 2 b_law_made p_law_made := by
  refine ⟨fun ds S Q ⟨P, s, h, _⟩ => by rw [h]; rfl, fun ds S Q ⟨P, s, h, G, v, hQ⟩ => ?_⟩
  subst h
  obtain ⟨p, h1, h2⟩ := pg_at G v
  unfold mk lineAt at hQ
  rw [h2] at hQ
  refine ⟨_, rfl, _, h1, _, rfl, _, rfl, itB (fun h => ?_) (fun h => ?_)⟩
  · have hh : s.hd = false := by simpa using h
    rw [if_neg (by rw [hh]; simp)] at hQ
    refine ⟨_, rfl, itB (fun h3 => ?_) (fun h3 => ?_)⟩
    · rw [decide_eq_true_eq, List.length_map] at h3
      have hlt : s.k < p.2.length := by omega
      rw [List.getElem?_eq_getElem hlt] at hQ
      have hat : L2.atI (p.2.map lnD) ((s.k : Nat) : Int) = some (lnD p.2[s.k]) := atI_map (List.getElem?_eq_getElem hlt)
      refine ⟨_, rfl, _, hat, _, at0, .inl ⟨rfl, itB (fun h4 => ?_) (fun h4 => ?_)⟩⟩
      · rw [bne_f (eqb_pair _)] at h4
        obtain ⟨w, w1, w2⟩ := word_pair h4
        rw [show (some p.2[s.k]).bind Ln.word = some w from w1] at hQ
        exact ⟨_, rfl, _, hat, _, w2, S, Sub.refl _, hQ⟩
      · rw [bne_f (eqb_pair _)] at h4
        rw [show (some p.2[s.k]).bind Ln.word = none from word_none h4] at hQ
        exact ⟨S, Sub.refl _, hQ⟩
    · rw [decide_eq_false_iff_not, List.length_map] at h3
      rw [List.getElem?_eq_none (by omega)] at hQ
      exact ⟨S, Sub.refl _, hQ⟩
  · have hh : s.hd = true := by simpa using h
    rw [if_pos hh] at hQ
    exact ⟨S, Sub.refl _, hQ⟩
theorem k_law_given : Keeps 4 2 b_law_given p_law_given := by
  refine ⟨fun ds S Q ⟨M, s, a, h, _⟩ => by rw [h]; rfl, fun ds S Q ⟨M, s, a, h, hS, hl, hQ⟩ => ?_⟩
  subst h
  refine ⟨_, rfl, itB (fun h => ?_) (fun h => ?_)⟩
  · refine ⟨Nat.zero_le _, fun p hp => ?_⟩
    have e : gv M s = [] := by unfold gv; rw [if_pos h]
    rw [e] at hQ
    exact ⟨_, Sub.refl _, hQ p hp⟩
  · have hh : ¬ s.hd = true := by rw [h]; simp
    refine ⟨_, hS, ?_⟩
    refine lc_pure (f := mnD) (· = S) (fun m => if decide (m.2 = (s.part, s.k)) = true then some (.str m.1) else none) M [] S _ rfl (fun S' e => by rw [e]; exact hS) (by simpa using Nat.le_trans hl (by decide)) ?_ ?_
    · rintro m hm S' rfl k1 k2 hk
      have e : D.eqb (plD m.2) (.tup (cut [wyD s.way, .int (s.part : Nat), .int (s.k : Nat), .bl s.hd] (some 1) (some 3))) = decide (m.2 = (s.part, s.k)) := inj_pl.eqb m.2 (s.part, s.k)
      refine ⟨rfl, rfl, .inr (.inl ⟨ok_pl _ 59, ok_pl (s.part, s.k) 59, itB (fun h => ?_) (fun h => ?_)⟩)⟩
      · rw [bne_f e] at h
        rw [if_pos h] at hk
        exact hk _ rfl
      · rw [bne_f e] at h
        rw [if_neg (by rw [h]; simp)] at hk
        exact hk _ rfl
    · rintro S' rfl p hp
      rw [List.nil_append, fm_filter]
      have e : gv M s = (M.filter fun m => decide (m.2 = (s.part, s.k))).map (·.1) := by unfold gv; rw [if_neg hh]
      rw [e, List.map_map] at hQ
      exact ⟨_, Sub.refl _, hQ p hp⟩
theorem k_law_manner : Keeps 12 2 (b_law_manner p_law_words p_law_take) p_law_manner := by
  refine ⟨fun ds S Q ⟨P, f, a, b, h, _⟩ => by rw [h]; rfl, fun ds S Q ⟨P, f, a, b, h, G, hf, ok, hQ⟩ => ?_⟩
  subst h
  have O : Own (S.put f (fdl a b)) S [] := by
    rw [put_self hf]
    exact Own.start S
  refine ⟨Nat.zero_le _, fun pp hpp => ?_⟩
  have O := O.add (o := .lst []) hpp
  refine for_num (f := ptD) (fun l δ S' => ∃ (v3 v4 : Option D) (ps : List (Nat × Nat)), δ = [some (pgD P), some (.ref f), some (.ref pp), v3, v4, none, none, none, none, none, none, none] ∧ Own (S.put f (fdl a b)) S' [(pp, .lst (ps.map plD))] ∧ ps.length = (lnsOf l).length + l.length) P
    ⟨_, _, [], rfl, O, rfl⟩ (fun _ _ _ _ => trivial) ?_ ?_
  · rintro l x r δ S' e ⟨v3, v4, ps, rfl, O, hl⟩ k hk
    have lp := lns_pre G e
    have lP : l.length ≤ 2 := by
      have := G.len
      rw [e, List.length_append, List.length_cons] at this
      omega
    have lm : (x.2.map lnD).length = x.2.length := List.length_map ..
    refine ⟨rfl, rfl, ⟨pp, _, rfl, O.at 0⟩, _, rfl, by omega, by omega, ?_⟩
    rw [show (((x.2.map lnD).length : Nat) : Int) + 1 = ((x.2.length + 1 : Nat) : Int) by omega, Int.toNat_natCast, range0]
    refine lc_pure (f := fun i : Nat => D.int (i : Nat)) (· = S') (fun i => some (plD (l.length, i))) (List.range (x.2.length + 1)) [] S' _ rfl (fun _ _ => trivial) (by rw [List.length_range]; show 0 + _ ≤ _; omega) ?_ ?_
    · rintro i hi S2 rfl k1 k2 hk2
      exact ⟨Nat.le_of_ble_eq_true rfl, hk2 _ rfl⟩
    · rintro S2 rfl n hn
      rw [List.nil_append, List.filterMap_eq_map', show (List.range (x.2.length + 1)).map (fun i => plD (l.length, i)) = ((List.range (x.2.length + 1)).map fun i => (l.length, i)).map plD by rw [List.map_map]; rfl]
      have O := O.junk (o := .lst (((List.range (x.2.length + 1)).map fun i => (l.length, i)).map plD)) hn
      refine ⟨_, _, O.at 0, put_same, by simp only [List.length_map, List.length_range]; omega, ?_⟩
      rw [← List.map_append]
      refine hk _ _ ⟨_, _, ps ++ (List.range (x.2.length + 1)).map fun i => (l.length, i), rfl, O.set 0, ?_⟩
      unfold lnsOf at hl ⊢
      rw [List.length_append, List.length_map, List.length_range, List.flatMap_append, List.length_append, List.flatMap_cons, List.flatMap_nil, List.append_nil, List.length_append, List.length_singleton]
      omega
  rintro δ S1 ⟨v3, v4, ps, rfl, O, hl⟩
  have lns := lns_len G
  have lP : 1 ≤ P.length ∧ P.length ≤ 2 := by have := G.len; omega
  have lps : 1 ≤ ps.length ∧ ps.length ≤ 18 := by omega
  refine ⟨P, rfl, G, fun ys hy pw hpw => ?_⟩
  have O := O.add (o := .lst (ys.map D.str)) hpw
  refine ⟨f, a, b, 6, rfl, O.old put_same, ok, by decide, by decide, fun way a1 b1 hway ok1 => ?_⟩
  have O := O.feed (o' := fdl a1 b1)
  refine ⟨_, O.at 0, f, a1, b1, (ps.map plD).length, rfl, O.old put_same, ok1, by rw [List.length_map]; omega, by rw [List.length_map]; omega, fun v2 a2 b2 hv2 ok2 => ?_⟩
  have O := O.feed (o' := fdl a2 b2)
  rw [List.length_map] at hv2
  obtain ⟨on, hon⟩ : ∃ on, ps[v2]? = some on := ⟨_, List.getElem?_eq_getElem hv2⟩
  refine ⟨_, _, O.at 0, atI_map hon, ?_⟩
  refine ⟨Nat.zero_le _, fun pf hpf => ?_⟩
  have O := O.add (o := .lst []) hpf
  refine ⟨_, O.at 1, ?_⟩
  refine for_pre (f := D.str) (fun l δ S' => ∃ (a b : Int) (v9 v10 : Option D) (M : Mn), δ = [some (pgD P), some (.ref f), some (.ref pp), v3, v4, some (.ref pw), some (.int (way : Nat)), some (plD on), some (.ref pf), v9, v10, none] ∧ Fdok a b ∧
    Own (S.put f (fdl a b)) S' [(pp, .lst (ps.map plD)), (pw, .lst (ys.map D.str)), (pf, .lst (M.map mnD))] ∧ M.length ≤ l.length * 18) ys ⟨a2, b2, _, _, [], rfl, ok2, O, Nat.zero_le _⟩ (fun l δ S' ⟨_, _, _, _, _, _, _, O, _⟩ => O.at 1) ?_ ?_
  · rintro l w r δ S' e ⟨a, b, v9, v10, M, rfl, ok, O, hM⟩ k hk
    have ll : l.length < 16 := by
      rw [e, List.length_append, List.length_cons] at hy
      omega
    refine ⟨_, O.at 0, ?_⟩
    refine for_pre (f := plD) (fun l2 δ S' => ∃ (a b : Int) (v10 : Option D) (M : Mn), δ = [some (pgD P), some (.ref f), some (.ref pp), v3, v4, some (.ref pw), some (.int (way : Nat)), some (plD on), some (.ref pf), some (.str w), v10, none] ∧ Fdok a b ∧
      Own (S.put f (fdl a b)) S' [(pp, .lst (ps.map plD)), (pw, .lst (ys.map D.str)), (pf, .lst (M.map mnD))] ∧ M.length ≤ l.length * 18 + l2.length) ps ⟨a, b, _, M, rfl, ok, O, hM⟩ (fun l δ S' ⟨_, _, _, _, _, _, O, _⟩ => O.at 0) ?_ ?_
    · rintro l2 pl r2 δ S' e2 ⟨a, b, v10, M, rfl, ok, O, hM⟩ k2 hk2
      have l2l : l2.length < 18 := by
        have := lps.2
        rw [e2, List.length_append, List.length_cons] at this
        omega
      -- kept or not
      have no : ∀ S2 a b, Fdok a b → Own (S.put f (fdl a b)) S2 [(pp, .lst (ps.map plD)), (pw, .lst (ys.map D.str)), (pf, .lst (M.map mnD))] → k2 [some (pgD P), some (.ref f), some (.ref pp), v3, v4, some (.ref pw), some (.int (way : Nat)), some (plD on), some (.ref pf), some (.str w), some (plD pl), none] S2 := fun S2 a b ok O => hk2 _ _ ⟨a, b, _, M, rfl, ok, O, by rw [List.length_append]; omega⟩
      have yes : ∀ S2 a b, Fdok a b → Own (S.put f (fdl a b)) S2 [(pp, .lst (ps.map plD)), (pw, .lst (ys.map D.str)), (pf, .lst (M.map mnD))] →
          sDrop (xMth mAppend (xVar 8) (xTup (aCons (xVar 9) (aCons (xVar 10) aNil)))) ⟨k2, fun d S' => ∃ S'', Sub S'' S' ∧ Q d S''⟩ [some (pgD P), some (.ref f), some (.ref pp), v3, v4, some (.ref pw), some (.int (way : Nat)), some (plD on), some (.ref pf), some (.str w), some (plD pl), none] S2 := fun S2 a b ok O => by
        refine ⟨⟨pf, _, rfl, O.at 2⟩, Nat.le_of_ble_eq_true rfl, _, O.at 2, by rw [List.length_map]; omega, ?_⟩
        rw [show M.map mnD ++ [D.tup [.str w, plD pl]] = (M ++ [(w, pl)]).map mnD by rw [List.map_append]; rfl]
        exact hk2 _ _ ⟨a, b, _, M ++ [(w, pl)], rfl, ok, O.set 2, by rw [List.length_append, List.length_append, List.length_singleton, List.length_singleton]; omega⟩
      have second : ∀ (T : Bool → Sto → Prop), (∀ S2 a b, Fdok a b → Own (S.put f (fdl a b)) S2 [(pp, .lst (ps.map plD)), (pw, .lst (ys.map D.str)), (pf, .lst (M.map mnD))] → ∀ c, T c S2) →
          bAnd (bT (xOp rGt (xVar 6) (xC (.int 1)))) (bT (xOp (rEq false) (xCall p_law_take (aCons (xVar 1) (aCons (xOp rAdd (xC (.int 2)) (xVar 6)) aNil))) (xC (.int 0)))) [some (pgD P), some (.ref f), some (.ref pp), v3, v4, some (.ref pw), some (.int (way : Nat)), some (plD on), some (.ref pf), some (.str w), some (plD pl), none] S' T := fun T hT => by
        refine itB (fun h => ?_) (fun h => hT S' a b ok O false)
        refine ⟨f, a, b, 2 + way, by rw [Int.natCast_add]; rfl, O.old put_same, ok, by omega, by omega, fun v a3 b3 hv ok3 => ?_⟩
        have O := O.feed (o' := fdl a3 b3)
        exact .inl ⟨rfl, hT _ a3 b3 ok3 O _⟩
      have all : ∀ S2 a b, Fdok a b → Own (S.put f (fdl a b)) S2 [(pp, .lst (ps.map plD)), (pw, .lst (ys.map D.str)), (pf, .lst (M.map mnD))] → ∀ c : Bool, (if c = true then sDrop (xMth mAppend (xVar 8) (xTup (aCons (xVar 9) (aCons (xVar 10) aNil)))) ⟨k2, fun d S' => ∃ S'', Sub S'' S' ∧ Q d S''⟩ [some (pgD P), some (.ref f), some (.ref pp), v3, v4, some (.ref pw), some (.int (way : Nat)), some (plD on), some (.ref pf), some (.str w), some (plD pl), none] S2
          else sNil ⟨k2, fun d S' => ∃ S'', Sub S'' S' ∧ Q d S''⟩ [some (pgD P), some (.ref f), some (.ref pp), v3, v4, some (.ref pw), some (.int (way : Nat)), some (plD on), some (.ref pf), some (.str w), some (plD pl), none] S2) := fun S2 a b ok O c => itB (fun _ => yes S2 a b ok O) (fun _ => no S2 a b ok O)
      refine .inl ⟨rfl, itB (fun h1 => ?_) (fun h1 => second _ all)⟩
      refine .inr (.inl ⟨ok_pl pl 59, ok_pl on 59, itB (fun h2 => ?_) (fun h2 => second _ all)⟩)
      exact yes S' a b ok O
    · rintro δ S' ⟨a, b, v10, M, rfl, ok, O, hM⟩
      refine hk _ _ ⟨a, b, _, _, M, rfl, ok, O, ?_⟩; rw [List.length_append, List.length_singleton]
      omega
  · rintro δ S' ⟨a, b, v9, v10, M, rfl, ok, O, hM⟩
    exact ⟨_, O.put_sub 2, hQ M a b pf (by omega) ok (O.free 2)⟩
end L3
end
section
set_option maxRecDepth 10000
set_option maxHeartbeats 8000000
/-! L5Book: the book of a run. -/
namespace L3
open PySem
abbrev Bk3 := Addr × Addr × List (Addr × Str)
def bkD (x : Bk3) : D := .tup [.ref x.1, .ref x.2.1]
def bkO (x : Bk3) : Addr × AO := (x.1, .lst (x.2.2.map fun y => D.ref y.1))
def BookOk (P : Pg) (M : Mn) (S : Sto) (p : Addr) (run : List Spt) : Prop := ∃ bk : List Bk3, S p = some (.lst (bk.map bkD)) ∧ bk.length = run.length ∧ ∀ (i : Nat) x, bk[i]? = some x → S x.1 = some (.lst (x.2.2.map fun y => D.ref y.1)) ∧ x.2.2.map (·.2) = liv P M (run.take i) ∧
  ∀ y ∈ x.2.2, ∃ d2 d3, S y.1 = some (.lst [.str y.2, d2, d3])
def p_law_book : F3 := fun ds S Q => ∃ (P : Pg) (M : Mn) (m rn : Addr) (run : List Spt), ds = [pgD P, .ref m, .ref rn] ∧ Good P ∧ S m = some (.lst (M.map mnD)) ∧ M.length ≤ 1000 ∧ S rn = some (.lst (run.map spD)) ∧ (∀ s ∈ run, Vld P s) ∧ run.length ≤ 50000 ∧
  ∀ S' p, Sub S S' → S p = none → BookOk P M S' p run → Q (.ref p) S'
theorem Own.rot {S S' : Sto} {x g : Addr × AO} {X B R : List (Addr × AO)} (O : Own S S' ((x :: g :: (X ++ B)) ++ R)) : Own S S' ((X ++ (B ++ [x])) ++ R) := by
  have h1 : ((x :: (X ++ B)) ++ R).Sublist ((x :: g :: (X ++ B)) ++ R) := ((List.sublist_cons_self g (X ++ B)).cons_cons x).append (List.Sublist.refl R)
  refine (O.keep h1).perm ?_
  rw [← List.append_assoc]
  exact (List.perm_append_singleton x (X ++ B)).append_right R
def rmF (W : Nat → Str) (Sp : Nat → Spt) (Lv : Nat → Bool) (j : Nat) : AO := .lst [.str (W j), spD (Sp j), .bl (Lv j)]
theorem k_law_book : Keeps 10 3 (b_law_book p_law_given p_law_made) p_law_book := by
  refine ⟨fun ds S Q ⟨P, M, m, rn, run, h, _⟩ => by rw [h]; rfl, fun ds S Q ⟨P, M, m, rn, run, h, G, hM, lM, hrn, vr, lr, hQ⟩ => ?_⟩
  subst h
  refine ⟨Nat.zero_le _, fun pr hpr => ?_⟩
  have O := (Own.start S).add (o := .lst []) hpr
  refine ⟨Nat.zero_le _, fun pf hpf => ?_⟩
  have O := O.add (o := .lst []) hpf
  refine ⟨_, O.old hrn, ?_⟩
  refine for_pre (f := spD) (fun l δ S' => ∃ (v5 v6 v7 v8 v9 : Option D) (n : Nat) (A : Nat → Addr) (W : Nat → Str) (Sp : Nat → Spt) (Lv : Nat → Bool) (bk : List Bk3), δ = [some (pgD P), some (.ref m), some (.ref rn), some (.ref pr), some (.ref pf), v5, v6, v7, v8, v9] ∧
    Own S S' (([(pr, .lst ((List.range n).map fun j => D.ref (A j))), (pf, .lst (bk.map bkD))] ++ bk.map bkO) ++ (List.range n).map fun j => (A j, rmF W Sp Lv j)) ∧
    ((List.range n).filter Lv).map W = liv P M l ∧ n ≤ l.length ∧ bk.length = l.length ∧ ∀ (i : Nat) x, bk[i]? = some x → x.2.2.map (·.2) = liv P M (l.take i) ∧ ∀ y ∈ x.2.2, ∃ j, j < n ∧ A j = y.1 ∧ W j = y.2) run
    ⟨none, none, none, none, none, 0, fun _ => 0, fun _ => Str.empty, fun _ => fst_, fun _ => false, [], rfl, O, rfl, Nat.le_refl _, rfl, (fun i x h => by simp at h)⟩ (fun l δ S' ⟨_, _, _, _, _, _, _, _, _, _, _, _, O, _⟩ => O.old hrn) ?_ ?_
  · rintro l s r δ S' e ⟨v5, v6, v7, v8, v9, n, A, W, Sp, Lv, bk, rfl, O, hlv, hn, hbl, hbk⟩ k hk
    have vs := vr s (by rw [e]; simp)
    have ll : l.length < 50000 := by
      rw [e, List.length_append, List.length_cons] at lr
      omega
    refine ⟨M, s, m, rfl, O.old hM, lM, fun g hg => ?_⟩
    have O : Own S (S'.put g (.lst ((gv M s).map D.str))) (([(g, .lst ((gv M s).map D.str)), (pr, .lst ((List.range n).map fun j => D.ref (A j))), (pf, .lst (bk.map bkD))] ++ bk.map bkO) ++ (List.range n).map fun j => (A j, rmF W Sp Lv j)) := O.new hg
    generalize S'.put g (.lst ((gv M s).map D.str)) = S1 at O
    -- ahead
    refine ⟨_, O.at 1, ?_⟩
    refine lc_pure (f := fun j => D.ref (A j)) (· = S1) (fun j => if Lv j = true then some (D.ref (A j)) else none) (List.range n) [] S1 _ rfl (fun S' e => by rw [e]; exact O.at 1) (by rw [List.length_range]; show 0 + _ ≤ _; omega) ?_ ?_
    · rintro j hj S' rfl k1 k2 hk2
      refine ⟨_, _, O.atF hj, rfl, itB (fun h => ?_) (fun h => ?_)⟩
      · rw [if_pos h] at hk2
        exact hk2 _ rfl
      · rw [if_neg (by rw [h]; simp)] at hk2
        exact hk2 _ rfl
    rintro S' rfl x hx
    rw [List.nil_append, fm_filter Lv (fun j => D.ref (A j))]
    have O : Own S (S'.put x (.lst (((List.range n).filter Lv).map fun j => D.ref (A j)))) (([(x, .lst (((List.range n).filter Lv).map fun j => D.ref (A j))), (g, .lst ((gv M s).map D.str)), (pr, .lst ((List.range n).map fun j => D.ref (A j))), (pf, .lst (bk.map bkD))] ++ bk.map bkO) ++ (List.range n).map fun j => (A j, rmF W Sp Lv j)) := O.new hx
    generalize S'.put x (.lst (((List.range n).filter Lv).map fun j => D.ref (A j))) = S2 at O
    have hjs : ∀ j ∈ (List.range n).filter Lv, j ∈ List.range n := fun j hj => (List.mem_filter.mp hj).1
    -- each room ahead
    refine ⟨_, O.at 0, ?_⟩
    refine for_pre (f := fun j => D.ref (A j)) (fun dn δ S' => ∃ (v8 : Option D) (Lv' : Nat → Bool), δ = [some (pgD P), some (.ref m), some (.ref rn), some (.ref pr), some (.ref pf), some (spD s), some (.ref g), some (.ref x), v8, v9] ∧
      Own S S' (([(x, .lst (((List.range n).filter Lv).map fun j => D.ref (A j))), (g, .lst ((gv M s).map D.str)), (pr, .lst ((List.range n).map fun j => D.ref (A j))), (pf, .lst (bk.map bkD))] ++ bk.map bkO) ++ (List.range n).map fun j => (A j, rmF W Sp Lv' j)) ∧
      ∀ j, Lv' j = if j ∈ dn then decide (W j ∉ gv M s) else Lv j) ((List.range n).filter Lv) ⟨_, Lv, rfl, O, fun j => by simp⟩ (fun l δ S' ⟨_, _, _, O, _⟩ => O.at 0) ?_ ?_
    · rintro dn j r2 δ S' e2 ⟨v8, Lv', rfl, O, hL⟩ k2 hk2
      have hj : j ∈ List.range n := hjs j (by rw [e2]; simp)
      refine ⟨_, _, O.atF hj, rfl, _, O.at 1, .inl ⟨rfl, flat_strs _⟩, ?_⟩
      refine ⟨A j, 2, _, 2, rfl, rfl, O.atF hj, rfl, ?_⟩
      rw [bne_t (inj_str.any (gv M s) (W j))]
      have O2 := O.setF hj (.lst [.str (W j), spD (Sp j), .bl (!decide (W j ∈ gv M s))]) List.nodup_range
      refine hk2 _ _ ⟨_, upd1 Lv' j (!decide (W j ∈ gv M s)), rfl, ?_, fun i => ?_⟩
      · have e3 : (fun i => ((A i, rmF W Sp (upd1 Lv' j (!decide (W j ∈ gv M s))) i) : Addr × AO)) = fun i => (A i, upd1 (rmF W Sp Lv') j (.lst [.str (W j), spD (Sp j), .bl (!decide (W j ∈ gv M s))]) i) := by
          funext i
          unfold rmF upd1
          split
          · rename_i q
            rw [q]
          · rfl
        rw [e3]
        exact O2
      · unfold upd1
        by_cases q : i = j
        · rw [if_pos q, if_pos (by rw [q]; simp), q, Bool.eq_iff_iff]
          simp
        · rw [if_neg q, hL i]
          have : i ∈ dn ++ [j] ↔ i ∈ dn := by
            rw [List.mem_append, List.mem_singleton]
            exact ⟨fun h => h.resolve_right q, .inl⟩
          by_cases h : i ∈ dn
          · rw [if_pos h, if_pos (this.mpr h)]
          · rw [if_neg h, if_neg fun z => h (this.mp z)]
    rintro δ S3 ⟨v8', Lv2, rfl, O, hL2⟩
    have hlv2 : ((List.range n).filter Lv2).map W = (liv P M l).filter fun w => decide (w ∉ gv M s) := by
      rw [← hlv, List.filter_map, List.filter_filter]
      congr 1
      refine List.filter_congr fun j hj => ?_
      rw [hL2 j, Bool.eq_iff_iff]
      by_cases q : Lv j = true
      · rw [if_pos (List.mem_filter.mpr ⟨hj, q⟩)]
        simp [q]
      · rw [if_neg fun z => q (List.mem_filter.mp z).2]
        simp [q]
    -- found.append
    refine ⟨⟨pf, _, rfl, O.at 3⟩, ?_⟩
    refine ⟨_, O.at 0, ?_⟩
    refine lc_pure (f := fun j => D.ref (A j)) (· = S3) (fun j => if Lv2 j = true then some (D.ref (A j)) else none) ((List.range n).filter Lv) [] S3 _ rfl (fun S' e => by rw [e]; exact O.at 0) (by have := List.length_filter_le Lv (List.range n); rw [List.length_range] at this; show 0 + _ ≤ _; omega) ?_ ?_
    · rintro j hj S' rfl k1 k2 hk2
      refine ⟨_, _, O.atF (hjs j hj), rfl, itB (fun h => ?_) (fun h => ?_)⟩
      · rw [if_pos h] at hk2
        exact hk2 _ rfl
      · rw [if_neg (by rw [h]; simp)] at hk2
        exact hk2 _ rfl
    rintro S' rfl y hy
    have O := O.junk (o := .lst ([] ++ ((List.range n).filter Lv).filterMap fun j => if Lv2 j = true then some (D.ref (A j)) else none)) hy
    refine ⟨Nat.le_of_ble_eq_true rfl, _, O.at 3, by rw [List.length_map]; omega, ?_⟩
    have ebk : bk.map bkD ++ [D.tup [.ref x, .ref y]] = (bk ++ [(x, y, ((List.range n).filter Lv).map fun j => (A j, W j))]).map bkD := by rw [List.map_append]; rfl
    rw [ebk]
    have O := O.set (o' := .lst ((bk ++ [(x, y, ((List.range n).filter Lv).map fun j => (A j, W j))]).map bkD)) 3
    generalize S'.put y _ = S4 at O
    generalize S4.put pf _ = S5 at O
    -- the shape behind it
    have O : Own S S5 (([(pr, .lst ((List.range n).map fun j => D.ref (A j))), (pf, .lst ((bk ++ [(x, y, ((List.range n).filter Lv).map fun j => (A j, W j))]).map bkD))] ++ (bk ++ [(x, y, ((List.range n).filter Lv).map fun j => (A j, W j))]).map bkO) ++ (List.range n).map fun j => (A j, rmF W Sp Lv2 j)) := by
      have e6 : (bk ++ [(x, y, ((List.range n).filter Lv).map fun j => (A j, W j))]).map bkO = bk.map bkO ++ [(x, .lst (((List.range n).filter Lv).map fun j => D.ref (A j)))] := by
        rw [List.map_append]
        congr 1
        show [bkO _] = _
        unfold bkO
        dsimp only
        rw [List.map_map]
        rfl
      rw [e6]
      exact Own.rot (X := [(pr, .lst ((List.range n).map fun j => D.ref (A j))), (pf, .lst ((bk ++ [(x, y, ((List.range n).filter Lv).map fun j => (A j, W j))]).map bkD))]) (g := (g, .lst ((gv M s).map D.str))) O
    have l1 : (l ++ [s]).length = l.length + 1 := by rw [List.length_append, List.length_singleton]
    have hbk2 : ∀ (n' : Nat) (A' : Nat → Addr) (W' : Nat → Str), n ≤ n' → (∀ j, j < n → A' j = A j ∧ W' j = W j) → ∀ (i : Nat) z, (bk ++ [(x, y, ((List.range n).filter Lv).map fun j => (A j, W j))])[i]? = some z →
        z.2.2.map (·.2) = liv P M ((l ++ [s]).take i) ∧ ∀ y ∈ z.2.2, ∃ j, j < n' ∧ A' j = y.1 ∧ W' j = y.2 := by
      intro n' A' W' hnn hAW i z hz
      by_cases hi : i < bk.length
      · rw [List.getElem?_append_left hi] at hz
        obtain ⟨h1, h2⟩ := hbk i z hz
        rw [List.take_append_of_le_length (by omega)]
        refine ⟨h1, fun u hu => ?_⟩
        obtain ⟨j, j1, j2, j3⟩ := h2 u hu
        exact ⟨j, by omega, by rw [(hAW j j1).1]; exact j2, by rw [(hAW j j1).2]; exact j3⟩
      · rw [List.getElem?_append_right (by omega)] at hz
        have e0 : i - bk.length = 0 := by
          have := (List.getElem?_eq_some_iff.mp hz).1
          rw [List.length_singleton] at this
          omega
        rw [e0] at hz
        have ez := (Option.some.inj hz).symm
        rw [ez]
        have hil : i = l.length := by omega
        rw [hil, List.take_left']
        · refine ⟨?_, fun u hu => ?_⟩
          · rw [List.map_map, ← hlv]
            rfl
          · obtain ⟨j, hj, rfl⟩ := List.mem_map.mp hu
            have jn : j < n := List.mem_range.mp (hjs j hj)
            exact ⟨j, by omega, (hAW j jn).1, (hAW j jn).2⟩
        · rfl
    -- word
    refine ⟨P, s, rfl, G, vs, ?_⟩
    have lsn := liv_snoc P M l s
    cases hmk : mk P s with
    | none =>
      rw [hmk] at lsn
      refine hk _ _ ⟨_, _, _, _, _, n, A, W, Sp, Lv2, _, rfl, O, ?_, by rw [l1]; omega, by rw [List.length_append, List.length_singleton, l1, hbl], hbk2 n A W (Nat.le_refl _) fun j _ => ⟨rfl, rfl⟩⟩
      rw [hlv2, lsn]
      simp
    | some w =>
      rw [hmk] at lsn
      refine ⟨⟨pr, _, rfl, O.at 0⟩, Nat.le_of_ble_eq_true rfl, fun a ha => ?_⟩
      have hnn : n ∉ List.range n := by simp
      have O2 := O.addF hnn (o := .lst [.str w, spD s, .bl true]) ha
      refine ⟨_, O2.at 0, by rw [List.length_map, List.length_range]; omega, ?_⟩
      have O3 := O2.set (o' := .lst ((List.range n).map (fun j => D.ref (A j)) ++ [.ref a])) 0
      have hAW : ∀ j, j < n → upd1 A n a j = A j ∧ upd1 W n w j = W j := fun j hj => ⟨upd1_ne (by omega), upd1_ne (by omega)⟩
      refine hk _ _ ⟨_, _, _, _, _, n + 1, upd1 A n a, upd1 W n w, upd1 Sp n s, upd1 Lv2 n true, _, rfl, ?_, ?_, by rw [l1]; omega, by rw [List.length_append, List.length_singleton, l1, hbl], hbk2 (n + 1) _ _ (Nat.le_succ _) hAW⟩
      · have er : (List.range (n + 1)).map (fun j => D.ref (upd1 A n a j)) = (List.range n).map (fun j => D.ref (A j)) ++ [.ref a] := by
          rw [List.range_succ, List.map_append]
          congr 1
          · refine List.map_congr_left fun j hj => ?_
            rw [(hAW j (List.mem_range.mp hj)).1]
          · show [D.ref (upd1 A n a n)] = _
            rw [upd1_same]
        have e3 : (fun j => ((upd1 A n a j, rmF (upd1 W n w) (upd1 Sp n s) (upd1 Lv2 n true) j) : Addr × AO)) = fun j => (upd1 A n a j, upd1 (rmF W Sp Lv2) n (.lst [.str w, spD s, .bl true]) j) := by
          funext j
          unfold rmF upd1
          split <;> rfl
        rw [er, e3, List.range_succ]
        exact O3
      · rw [lsn, List.range_succ, List.filter_append, List.map_append]
        congr 1
        · rw [← hlv2]
          have ef : (List.range n).filter (upd1 Lv2 n true) = (List.range n).filter Lv2 := List.filter_congr fun j hj => upd1_ne (by have := List.mem_range.mp hj; omega)
          rw [ef]
          refine List.map_congr_left fun j hj => ?_
          exact (hAW j (List.mem_range.mp (List.mem_filter.mp hj).1)).2
        · have : [n].filter (upd1 Lv2 n true) = [n] := by
            rw [List.filter_cons, if_pos upd1_same]
            rfl
          rw [this]
          show [upd1 W n w n] = [w]
          rw [upd1_same]
  · rintro δ S' ⟨v5, v6, v7, v8, v9, n, A, W, Sp, Lv, bk, rfl, O, hlv, hn, hbl, hbk⟩
    refine ⟨S', Sub.refl _, hQ S' pf O.sub (O.free 1) ⟨bk, O.at 1, hbl, fun i x hx => ?_⟩⟩
    obtain ⟨h1, h2⟩ := hbk i x hx
    refine ⟨?_, h1, fun y hy => ?_⟩
    · exact O.mem (List.mem_append_left _ (List.mem_append_right _ (List.mem_map.mpr ⟨x, List.mem_of_getElem? hx, rfl⟩)))
    · obtain ⟨j, j1, j2, j3⟩ := h2 y hy
      refine ⟨spD (Sp j), .bl (Lv j), ?_⟩
      rw [← j2, ← j3]
      exact O.atF (List.mem_range.mpr j1)
end L3
end
section
set_option maxRecDepth 10000
set_option maxHeartbeats 4200000
/-! L5Run: a run by a number. -/
namespace L3
open PySem
inductive RB (P : Pg) : Nat → Nat → Spt → List Spt → Bool → Prop
  | fin {n l : Nat} {s : Spt} : nx P s = [] → RB P n l s [s] true
  | stop {n : Nat} {s a b : Spt} : nx P s = [a, b] → RB P n 0 s [s] false
  | one {n l : Nat} {s a : Spt} {r : List Spt} {d : Bool} : nx P s = [a] → RB P n l a r d → RB P n l s (s :: r) d
  | two {n l : Nat} {s a b : Spt} {r : List Spt} {d : Bool} : nx P s = [a, b] → RB P (n / 2) l (if n % 2 = 0 then a else b) r d → RB P n (l + 1) s (s :: r) d
theorem RB.det {P : Pg} {n l : Nat} {s : Spt} {r r' : List Spt} {d d' : Bool} (h : RB P n l s r d) : RB P n l s r' d' → r = r' ∧ d = d' := by
  induction h generalizing r' d' with
  | fin h =>
    intro g
    cases g with
    | fin => exact ⟨rfl, rfl⟩
    | stop g => rw [h] at g; cases g
    | one g _ => rw [h] at g; cases g
    | two g _ => rw [h] at g; cases g
  | stop h =>
    intro g
    cases g with
    | fin g => rw [h] at g; cases g
    | stop => exact ⟨rfl, rfl⟩
    | one g _ => rw [h] at g; cases g
  | one h _ ih =>
    intro g
    cases g with
    | fin g => rw [h] at g; cases g
    | stop g => rw [h] at g; cases g
    | one g g2 =>
      rw [h] at g
      cases g
      obtain ⟨e1, e2⟩ := ih g2
      exact ⟨by rw [e1], e2⟩
    | two g _ => rw [h] at g; cases g
  | two h _ ih =>
    intro g
    cases g with
    | fin g => rw [h] at g; cases g
    | one g _ => rw [h] at g; cases g
    | two g g2 =>
      rw [h] at g
      cases g
      obtain ⟨e1, e2⟩ := ih g2
      exact ⟨by rw [e1], e2⟩
theorem RB.head {P : Pg} {n l : Nat} {s : Spt} {r : List Spt} {d : Bool} (h : RB P n l s r d) : ∃ r', r = s :: r' := by
  cases h <;> exact ⟨_, rfl⟩
/-! ### every way is the beginning of a run, where all runs end -/
inductive Pc (P : Pg) : Spt → List Spt → Prop
  | nil (s : Spt) : Pc P s [s]
  | cons {s t : Spt} {l : List Spt} : t ∈ nx P s → Pc P t l → Pc P s (s :: l)
theorem Pc.snoc {P : Pg} {s u t : Spt} {l : List Spt} : ∀ {m : List Spt}, Pc P s m → m = l ++ [u] → t ∈ nx P u → Pc P s (m ++ [t]) := by
  intro m h
  induction h generalizing l with
  | nil s =>
    intro e ht
    cases l with
    | nil => cases e; exact .cons ht (.nil t)
    | cons a l => simp at e
  | cons h hl ih =>
    intro e ht
    cases l with
    | nil =>
      rw [List.nil_append] at e
      have := (List.cons.inj e).2
      subst this
      cases hl
    | cons a l => exact .cons h (ih (List.cons.inj e).2 ht)
theorem Rn.pc {P : Pg} {r : List Spt} {t : Spt} (h : Rn P r t) : Pc P fst_ (r ++ [t]) := by
  induction h with
  | fst => exact .nil _
  | step _ h ih => exact ih.snoc rfl h
theorem two_cases (P : Pg) (s : Spt) : nx P s = [] ∨ (∃ a, nx P s = [a]) ∨ ∃ a b, nx P s = [a, b] := by
  have := nx_len P s
  match h : nx P s with
  | [] => exact .inl rfl
  | [a] => exact .inr (.inl ⟨a, rfl⟩)
  | [a, b] => exact .inr (.inr ⟨a, b, rfl⟩)
  | _ :: _ :: _ :: _ => rw [h] at this; simp at this
theorem cover {P : Pg} {s : Spt} {L : List Spt} (h : Pc P s L) : ∀ l, (∀ n, n < 2 ^ l → ∃ r, RB P n l s r true) → ∃ n r, n < 2 ^ l ∧ RB P n l s r true ∧ L <+: r := by
  induction h with
  | nil s =>
    intro l hl
    obtain ⟨r, hr⟩ := hl 0 (Nat.two_pow_pos l)
    obtain ⟨r', e⟩ := hr.head
    exact ⟨0, r, Nat.two_pow_pos l, hr, by rw [e]; exact ⟨r', rfl⟩⟩
  | @cons s t L ht _ ih =>
    intro l hl
    rcases two_cases P s with e | ⟨a, e⟩ | ⟨a, b, e⟩
    · rw [e] at ht
      cases ht
    · rw [e] at ht
      obtain rfl := List.mem_singleton.mp ht
      obtain ⟨n, r, h1, h2, h3⟩ := ih l fun n hn => by
        obtain ⟨r, hr⟩ := hl n hn
        cases hr with
        | fin g => rw [e] at g; cases g
        | one g g2 => rw [e] at g; cases g; exact ⟨_, g2⟩
        | two g _ => rw [e] at g; cases g
      exact ⟨n, s :: r, h1, .one e h2, List.cons_prefix_cons.mpr ⟨rfl, h3⟩⟩
    · cases l with
      | zero =>
        obtain ⟨r, hr⟩ := hl 0 (Nat.two_pow_pos 0)
        cases hr with
        | fin g => rw [e] at g; cases g
        | one g _ => rw [e] at g; cases g
      | succ l =>
        rw [e] at ht
        obtain ⟨c, hc, hct⟩ : ∃ c, c < 2 ∧ (if c = 0 then a else b) = t := by
          rcases List.mem_cons.mp ht with q | q
          · exact ⟨0, by decide, by rw [q]; rfl⟩
          · exact ⟨1, by decide, by rw [List.mem_singleton.mp q]; rfl⟩
        obtain ⟨n, r, h1, h2, h3⟩ := ih l fun n hn => by
          obtain ⟨r, hr⟩ := hl (2 * n + c) (by rw [Nat.pow_succ]; omega)
          cases hr with
          | fin g => rw [e] at g; cases g
          | one g _ => rw [e] at g; cases g
          | two g g2 =>
            rw [e] at g
            cases g
            rw [show (2 * n + c) / 2 = n by omega, show (2 * n + c) % 2 = c by omega, hct] at g2
            exact ⟨_, g2⟩
        refine ⟨2 * n + c, s :: r, by rw [Nat.pow_succ]; omega, .two e ?_, List.cons_prefix_cons.mpr ⟨rfl, h3⟩⟩
        rw [show (2 * n + c) / 2 = n by omega, show (2 * n + c) % 2 = c by omega, hct]
        exact h2
/-! ### how far a spot is from the next choice -/
def mu (P : Pg) (s : Spt) : Nat := if s.hd = true then 0 else match s.way with
  | [] => ((lines P 0).length - s.k) * 20 + 1
  | (_, j) :: _ => ((lines P 0).length - j - 1) * 20 + ((lines P 1).length - s.k) + 2
theorem mu_le {P : Pg} (G : Good P) (s : Spt) : mu P s ≤ 170 := by
  have h0 := G.bd 0
  have h1 := G.bd 1
  unfold mu
  split
  · omega
  · split <;> omega
theorem mu_one {P : Pg} {s t : Spt} (G : Good P) (v : Vld P s) (h : nx P s = [t]) : mu P t < mu P s := by
  have hw := G.wf s.part
  have b1 := G.bd 1
  have ll : ((lines P s.part).map Ln.kd).length = (lines P s.part).length := List.length_map ..
  have nh : ¬ s.hd = true := fun hh => by
    unfold nx at h
    rw [if_pos hh] at h
    cases h
  have pos : 0 < mu P s := by
    unfold mu
    rw [if_neg nh]
    split <;> omega
  have go : ∀ k, s.k < k → k ≤ (lines P s.part).length → mu P (goTo s k) < mu P s := fun k h1 h2 => by
    unfold mu goTo
    rw [if_neg nh, if_neg (by simp)]
    dsimp only
    rcases v.at_ with ⟨e1, e2⟩ | ⟨j, nm, e1, e2, _⟩
    · rw [e1]
      rw [e2] at h2
      dsimp only
      omega
    · rw [e1]
      rw [e2] at h2
      dsimp only
      omega
  unfold nx at h
  rw [if_neg nh] at h
  split at h
  · rename_i hn
    rcases v.at_ with ⟨e, _⟩ | ⟨j, nm, e, e2, hj, _⟩
    · rw [e] at h
      cases h
    · rw [e] at h
      have et := (List.cons.inj h).1
      rw [← et]
      unfold mu
      rw [if_neg nh, if_neg (by simp), e]
      have := (List.getElem?_eq_some_iff.mp hj).1
      show ((lines P 0).length - (j + 1)) * 20 + 1 < ((lines P 0).length - j - 1) * 20 + ((lines P 1).length - s.k) + 2
      omega
  · cases h
  · rename_i he
    obtain ⟨_, _, h3, h4⟩ := wf_orr hw (kd_of he)
    rw [← (List.cons.inj h).1]
    exact go _ (by unfold rowOf; omega) (by rw [ll] at h4; unfold rowOf; omega)
  · rw [← (List.cons.inj h).1]
    have : mu P ⟨s.way, s.part, s.k, true⟩ = 0 := if_pos rfl
    rw [this]
    exact pos
  · rename_i he
    have hk := (List.getElem?_eq_some_iff.mp he).1
    split at h
    · rw [← (List.cons.inj h).1]
      have : mu P ⟨s.way, s.part, (rowOf P s).1, true⟩ = 0 := if_pos rfl
      rw [this]
      exact pos
    · rw [← (List.cons.inj h).1]
      exact go _ (Nat.lt_succ_self _) hk
  · rename_i nm he
    obtain ⟨e0, q, hq⟩ := G.dos _ _ _ he
    have hk := (List.getElem?_eq_some_iff.mp he).1
    rw [← (List.cons.inj h).1]
    rcases v.at_ with ⟨ew, _⟩ | ⟨j, nm', _, e2, _⟩
    · unfold mu
      rw [if_neg nh, if_neg (by simp), ew]
      rw [e0] at hk
      show ((lines P 0).length - s.k - 1) * 20 + ((lines P 1).length - 0) + 2 < ((lines P 0).length - s.k) * 20 + 1
      omega
    · rw [e0] at e2
      cases e2
  · rename_i l _ _ _ _ _ he
    have hk := (List.getElem?_eq_some_iff.mp he).1
    rw [← (List.cons.inj h).1]
    exact go _ (Nat.lt_succ_self _) hk
def p_law_run_by : F3 := fun ds S Q => ∃ (P : Pg) (rw : Addr) (n : Nat), ds = [pgD P, .ref rw, .int (n : Nat)] ∧ Good P ∧ RowsAll P S rw ∧ ∀ r d, RB P n 6 fst_ r d → (∀ s ∈ r, Vld P s) → r.length ≤ 7000 → ∀ p, S p = none → Q (.tup [.ref p, .bl d]) (S.put p (.lst (r.map spD)))
theorem k_law_run_by : Keeps 6 3 (b_law_run_by p_law_next) p_law_run_by := by
  refine ⟨fun ds S Q ⟨P, rw, n, h, _⟩ => by rw [h]; rfl, fun ds S Q ⟨P, rw, n, h, G, hR, hQ⟩ => ?_⟩
  subst h
  refine ⟨Nat.zero_le _, Nat.le_of_ble_eq_true rfl, Nat.le_of_ble_eq_true rfl, fun pr hpr => ?_⟩
  have O := (Own.start S).add (o := .lst [spD fst_]) hpr
  refine ⟨_, spD fst_, O.at 0, rfl, P, rw, fst_, rfl, G, vld_fst, hR.sub O.sub, fun po hpo => ?_⟩
  have O := O.add (o := .lst ((nx P fst_).map spD)) hpo
  refine ⟨fun m δ S' => ∃ (n' l : Nat) (pre : List Spt) (s : Spt) (po : Addr), δ = [some (pgD P), some (.ref rw), some (.int (n' : Nat)), some (.ref pr), some (.int (l : Nat)), some (.ref po)] ∧ Own S S' [(pr, .lst ((pre ++ [s]).map spD)), (po, .lst ((nx P s).map spD))] ∧
    Vld P s ∧ (∀ x ∈ pre, Vld P x) ∧ (∀ r d, RB P n' l s r d → RB P n 6 fst_ (pre ++ r) d) ∧ m = l * 1000 + mu P s ∧ pre.length + 1 + m ≤ 7000, ⟨_, n, 6, [], fst_, po, rfl, O, vld_fst, (fun x h => nomatch h), (fun r d h => h), rfl, by have := mu_le G fst_; show 0 + 1 + (6 * 1000 + mu P fst_) ≤ 7000; omega⟩, ?_⟩
  rintro m δ S' ⟨n', l, pre, s, po, rfl, O, vs, vp, rb, hm, hlen⟩
  -- one step on
  have step : ∀ (n2 l2 : Nat) (t : Spt), t ∈ nx P s → (∀ r d, RB P n2 l2 t r d → RB P n' l s (s :: r) d) → l2 * 1000 + mu P t < m → ∀ S2, Own S S2 [(pr, .lst (((pre ++ [s]) ++ [t]).map spD)), (po, .lst ((nx P s).map spD))] →
      (sAsg (xCall p_law_next (aCons (xVar 0) (aCons (xVar 1) (aCons (xOp rIx (xVar 3) (xC (.int (-1)))) aNil)))) (gN 5)) ⟨fun δ' S' => ∃ m', m' < m ∧ ∃ (n' l : Nat) (pre : List Spt) (s : Spt) (po : Addr), δ' = [some (pgD P), some (.ref rw), some (.int (n' : Nat)), some (.ref pr), some (.int (l : Nat)), some (.ref po)] ∧ Own S S' [(pr, .lst ((pre ++ [s]).map spD)), (po, .lst ((nx P s).map spD))] ∧
        Vld P s ∧ (∀ x ∈ pre, Vld P x) ∧ (∀ r d, RB P n' l s r d → RB P n 6 fst_ (pre ++ r) d) ∧ m' = l * 1000 + mu P s ∧ pre.length + 1 + m' ≤ 7000, fun d S' => ∃ S'', Sub S'' S' ∧ Q d S''⟩ [some (pgD P), some (.ref rw), some (.int (n2 : Nat)), some (.ref pr), some (.int (l2 : Nat)), some (.ref po)] S2 := by
    intro n2 l2 t ht hrb hlt S2 O
    have vt := nx_vld G vs ht
    refine ⟨_, spD t, O.at 0, by rw [List.map_append]; exact atI_last, P, rw, t, rfl, G, vt, hR.sub O.sub, fun p2 hp2 => ?_⟩
    have O := O.add (o := .lst ((nx P t).map spD)) hp2
    refine ⟨_, hlt, n2, l2, pre ++ [s], t, p2, rfl, O.keep ((List.Sublist.refl [(p2, AO.lst ((nx P t).map spD))] |>.cons (po, AO.lst ((nx P s).map spD))).cons_cons (pr, AO.lst (((pre ++ [s]) ++ [t]).map spD))), vt, fun x hx => ?_, fun r d h => ?_, rfl, ?_⟩
    · rcases List.mem_append.1 hx with hx | hx
      · exact vp x hx
      · rw [List.mem_singleton.mp hx]; exact vs
    · rw [List.append_assoc]
      exact rb _ _ (hrb r d h)
    · (rw [List.length_append, List.length_singleton])
      omega
  have lenp : (pre ++ [s]).length < 100000 := by rw [List.length_append, List.length_singleton]; omega
  have vall : ∀ x ∈ pre ++ [s], Vld P x := fun x hx => by
    rcases List.mem_append.1 hx with hx | hx
    · exact vp x hx
    · rw [List.mem_singleton.mp hx]; exact vs
  have ln7 : (pre ++ [s]).length ≤ 7000 := by rw [List.length_append, List.length_singleton]; omega
  rcases two_cases P s with e | ⟨a, e⟩ | ⟨a, b, e⟩
  · -- the end
    have O' := O
    rw [e] at O'
    refine ⟨_, O'.at 1, .inl ⟨rfl, itF ?_ ⟨_, O'.at 1, itF (by decide) ?_⟩⟩⟩
    · exact (bne_f (int_eqb _ _)).trans (by decide)
    · refine ⟨_, O'.at 1, .inl ⟨rfl, Nat.le_of_ble_eq_true rfl, _, O.put_sub 0, ?_⟩⟩
      have z : (false != D.eqb (.int ((([] : List Spt).map spD).length : Nat)) (.int 0)) = true := (bne_f (int_eqb _ _)).trans (by decide)
      rw [z]
      exact hQ _ true (rb _ _ (.fin e)) vall ln7 pr (O.free 0)
  · have O' := O
    rw [e] at O'
    refine ⟨_, O'.at 1, .inl ⟨rfl, itT ?_ ?_⟩⟩
    · exact (bne_f (int_eqb _ _)).trans (by show decide (((1 : Nat) : Int) = 1) = true; decide)
    refine ⟨_, O'.at 1, .inl ⟨rfl, itT ?_ ?_⟩⟩
    · exact (bne_f (int_eqb _ _)).trans (by show decide (((1 : Nat) : Int) = 1) = true; decide)
    refine ⟨⟨pr, _, rfl, O.at 0⟩, _, spD a, O'.at 1, rfl, _, O.at 0, by rw [List.length_map]; exact lenp, ?_⟩
    rw [snoc_map]
    have O2 := O.set (o' := .lst (((pre ++ [s]) ++ [a]).map spD)) 0
    exact step n' l a (by rw [e]; exact List.mem_cons_self) (fun r d h => .one e h) (by have := mu_one G vs e; omega) _ O2
  · have O' := O
    rw [e] at O'
    refine ⟨_, O'.at 1, .inl ⟨rfl, itF ?_ ⟨_, O'.at 1, itT (by show decide ((1 : Int) < (2 : Nat)) = true; decide) ?_⟩⟩⟩
    · exact (bne_f (int_eqb _ _)).trans (by show decide (((2 : Nat) : Int) = 1) = false; decide)
    cases l with
    | zero =>
      refine ⟨_, O'.at 1, .inl ⟨rfl, Nat.le_of_ble_eq_true rfl, _, O.put_sub 0, ?_⟩⟩
      have z : (false != D.eqb (.int ((([a, b] : List Spt).map spD).length : Nat)) (.int 0)) = false := (bne_f (int_eqb _ _)).trans (by show decide (((2 : Nat) : Int) = 0) = false; decide)
      rw [z]
      exact hQ _ false (rb _ _ (.stop e)) vall ln7 pr (O.free 0)
    | succ l =>
      refine itT (by rw [decide_eq_true_eq]; omega) ?_
      refine ⟨_, O'.at 1, .inl ⟨rfl, itF ?_ ?_⟩⟩
      · exact (bne_f (int_eqb _ _)).trans (by show decide (((2 : Nat) : Int) = 1) = false; decide)
      have hix : L2.atI ([a, b].map spD) (((n' : Nat) : Int) % 2) = some (spD (if n' % 2 = 0 then a else b)) := by
        have e2 : ((n' : Nat) : Int) % 2 = ((n' % 2 : Nat) : Int) := by omega
        rw [e2]
        have : n' % 2 = 0 ∨ n' % 2 = 1 := by omega
        rcases this with q | q
        · rw [q, if_pos rfl]; rfl
        · rw [q, if_neg (by decide)]; rfl
      refine ⟨⟨pr, _, rfl, O.at 0⟩, by decide, _, _, O'.at 1, hix, _, O.at 0, by rw [List.length_map]; exact lenp, ?_⟩
      rw [snoc_map]
      have O2 := O.set (o' := .lst (((pre ++ [s]) ++ [if n' % 2 = 0 then a else b]).map spD)) 0
      refine ⟨by decide, by decide, ?_⟩
      have q1 : ((n' : Nat) : Int) / 2 = ((n' / 2 : Nat) : Int) := by omega
      have q2 : ((l + 1 : Nat) : Int) - 1 = ((l : Nat) : Int) := by omega
      have key := step (n' / 2) l (if n' % 2 = 0 then a else b) (by rw [e]; split <;> simp) (fun r d h => .two e h) (by have := mu_le G (if n' % 2 = 0 then a else b); omega) _ O2
      rw [← q1, ← q2] at key
      exact key
end L3
end
section
set_option maxRecDepth 10000
set_option maxHeartbeats 4200000
/-! L5Show: the text of a run tells the run. -/
namespace L3
open PySem
def txt (s : Spt) : Str := PyData.shown (spD s).py
def tf (b : Bool) : List Nat := if b = true then [84, 114, 117, 101] else [70, 97, 108, 115, 101]
def codeM (k : Nat) (h : Bool) : List Nat := [40, 40, 41, 44, 32, 48, 44, 32, 48 + k, 44, 32] ++ tf h ++ [41]
def codeS (j k : Nat) (h : Bool) : List Nat := [40, 40, 40, 48, 44, 32, 48 + j, 41, 44, 41, 44, 32, 49, 44, 32, 48 + k, 44, 32] ++ tf h ++ [41]
def code (s : Spt) : List Nat := match s.way with
  | [] => codeM s.k s.hd
  | (_, j) :: _ => codeS j s.k s.hd
theorem txt_uni : (uni.all fun s => decide ((txt s).cps.toList = code s)) = true := by decide +kernel
theorem txt_code {s : Spt} (h : s ∈ uni) : (txt s).cps.toList = code s := of_decide_eq_true (List.all_eq_true.mp txt_uni s h)
theorem code_len {s : Spt} : (code s).length ≤ 40 := by
  obtain ⟨w, p, k, h⟩ := s
  unfold code
  cases w with
  | nil => cases h <;> exact Nat.le_of_ble_eq_true rfl
  | cons x w => obtain ⟨a, b⟩ := x; cases h <;> exact Nat.le_of_ble_eq_true rfl
/-- two spots whose texts begin two equal texts -/
theorem code_pre {s t : Spt} (hs : s ∈ uni) (ht : t ∈ uni) {x y : List Nat} (e : code s ++ x = code t ++ y) : s = t ∧ x = y := by
  have shape : ∀ s ∈ uni, (∃ k h, s = ⟨[], 0, k, h⟩) ∨ ∃ j k h, s = ⟨[(0, j)], 1, k, h⟩ := by
    intro s hs
    unfold uni at hs
    obtain ⟨k, _, hs⟩ := List.mem_flatMap.mp hs
    rcases List.mem_append.mp hs with hs | hs
    · rcases List.mem_cons.mp hs with q | hs
      · exact .inl ⟨k, false, q⟩
      · exact .inl ⟨k, true, List.mem_singleton.mp hs⟩
    · obtain ⟨j, _, hs⟩ := List.mem_flatMap.mp hs
      rcases List.mem_cons.mp hs with q | hs
      · exact .inr ⟨j, k, false, q⟩
      · exact .inr ⟨j, k, true, List.mem_singleton.mp hs⟩
  rcases shape s hs with ⟨k, h, rfl⟩ | ⟨j, k, h, rfl⟩ <;> rcases shape t ht with ⟨k', h', rfl⟩ | ⟨j', k', h', rfl⟩
  · unfold code codeM tf at e
    cases h <;> cases h' <;> simp at e
    · obtain ⟨e1, e2⟩ := e; subst e1 e2; exact ⟨rfl, rfl⟩
    · obtain ⟨e1, e2⟩ := e; subst e1 e2; exact ⟨rfl, rfl⟩
  · unfold code codeM codeS at e
    simp at e
  · unfold code codeM codeS at e
    simp at e
  · unfold code codeS tf at e
    cases h <;> cases h' <;> simp at e
    · obtain ⟨e0, e1, e2⟩ := e; subst e0 e1 e2; exact ⟨rfl, rfl⟩
    · obtain ⟨e0, e1, e2⟩ := e; subst e0 e1 e2; exact ⟨rfl, rfl⟩
def runT (r : List Spt) : Str := PyData.shown (.list (D.pys (r.map spD)))
theorem shownAll_map : ∀ r : List Spt, PyData.shownAll (D.pys (r.map spD)) = r.map txt
  | [] => rfl
  | s :: r => by
    show PyData.shownAll ((spD s).py :: D.pys (r.map spD)) = txt s :: r.map txt
    rw [PyData.shownAll, shownAll_map r]
    rfl
/-- behind the first bracket -/
def tailC : List Spt → List Nat
  | [] => [93]
  | [s] => code s ++ [93]
  | s :: r => code s ++ [44, 32] ++ tailC r
theorem join_code : ∀ r : List Spt, (∀ s ∈ r, s ∈ uni) → (Str.join ", " (r.map txt)).cps.toList ++ [93] = tailC r
  | [], _ => rfl
  | [s], h => by
    show (txt s).cps.toList ++ [93] = _
    rw [txt_code (h s List.mem_cons_self)]
    rfl
  | s :: t :: r, h => by
    show ((txt s ++ (", " : Str)) ++ Str.join ", " ((t :: r).map txt)).cps.toList ++ [93] = code s ++ [44, 32] ++ tailC (t :: r)
    rw [app_list, app_list, txt_code (h s List.mem_cons_self), List.append_assoc, join_code (t :: r) fun x hx => h x (List.mem_cons_of_mem _ hx)]
    rfl
theorem runT_code {r : List Spt} (h : ∀ s ∈ r, s ∈ uni) : (runT r).cps.toList = 91 :: tailC r := by
  unfold runT
  rw [PyData.shown_list, shownAll_map, app_list, app_list, List.append_assoc]
  rw [show ("]" : Str).cps.toList = [93] by decide +kernel, join_code r h]
  rw [show ("[" : Str).cps.toList = [91] by decide +kernel]
  rfl
theorem tailC_ne {s : Spt} {r : List Spt} (hs : s ∈ uni) : tailC [] ≠ tailC (s :: r) := by
  have : ∃ x, tailC (s :: r) = 40 :: x := by
    have c : ∃ x, code s = 40 :: x := by
      unfold code
      split <;> exact ⟨_, rfl⟩
    obtain ⟨x, hx⟩ := c
    cases r with
    | nil => exact ⟨_, by show code s ++ [93] = _; rw [hx]; rfl⟩
    | cons t r => exact ⟨_, by show code s ++ [44, 32] ++ tailC (t :: r) = _; rw [hx]; rfl⟩
  obtain ⟨x, hx⟩ := this
  rw [hx]
  intro q
  have := (List.cons.inj q).1
  cases this
theorem tailC_inj : ∀ r r' : List Spt, (∀ s ∈ r, s ∈ uni) → (∀ s ∈ r', s ∈ uni) → tailC r = tailC r' → r = r'
  | [], [], _, _, _ => rfl
  | [], s :: r, _, h, e => absurd e (tailC_ne (h s List.mem_cons_self))
  | s :: r, [], h, _, e => absurd e.symm (tailC_ne (h s List.mem_cons_self))
  | s :: r, t :: r', h, h', e => by
    have hs := h s List.mem_cons_self
    have ht := h' t List.mem_cons_self
    have cut : ∀ (s : Spt) (r : List Spt), ∃ x, tailC (s :: r) = code s ++ x ∧ (r = [] → x = [93]) ∧ (r ≠ [] → x = 44 :: 32 :: tailC r) := fun s r => by
      cases r with
      | nil => exact ⟨[93], rfl, fun _ => rfl, fun q => absurd rfl q⟩
      | cons u r => exact ⟨[44, 32] ++ tailC (u :: r), by show code s ++ [44, 32] ++ tailC (u :: r) = _; rw [List.append_assoc], (fun q => nomatch q), fun _ => rfl⟩
    obtain ⟨x, x1, x2, x3⟩ := cut s r
    obtain ⟨y, y1, y2, y3⟩ := cut t r'
    rw [x1, y1] at e
    obtain ⟨e1, e2⟩ := code_pre hs ht e
    subst e1
    by_cases q : r = [] <;> by_cases q' : r' = []
    · rw [q, q']
    · rw [x2 q, y3 q'] at e2
      have := (List.cons.inj e2).1
      cases this
    · rw [x3 q, y2 q'] at e2
      have := (List.cons.inj e2).1
      cases this
    · rw [x3 q, y3 q'] at e2
      rw [tailC_inj r r' (fun z hz => h z (List.mem_cons_of_mem _ hz)) (fun z hz => h' z (List.mem_cons_of_mem _ hz)) (List.cons.inj (List.cons.inj e2).2).2]
theorem runT_inj {r r' : List Spt} (h : ∀ s ∈ r, s ∈ uni) (h' : ∀ s ∈ r', s ∈ uni) (e : runT r = runT r') : r = r' := by
  have : (runT r).cps.toList = (runT r').cps.toList := by rw [e]
  rw [runT_code h, runT_code h'] at this
  exact tailC_inj r r' h h' (List.cons.inj this).2
theorem tailC_len : ∀ r : List Spt, (tailC r).length ≤ 42 * r.length + 1
  | [] => Nat.le_refl _
  | [s] => by
    show (code s ++ [93]).length ≤ _
    have := code_len (s := s)
    rw [List.length_append, List.length_singleton, List.length_singleton]
    omega
  | s :: t :: r => by
    have ih := tailC_len (t :: r)
    show (code s ++ [44, 32] ++ tailC (t :: r)).length ≤ _
    have := code_len (s := s)
    rw [List.length_append, List.length_append, List.length_cons (a := s)]
    have : ([44, 32] : List Nat).length = 2 := rfl
    omega
theorem runT_len {r : List Spt} (h : ∀ s ∈ r, s ∈ uni) (hl : r.length ≤ 7000) : (runT r).length ≤ 10000000 := by
  show (runT r).cps.size ≤ _
  rw [← Array.length_toList, runT_code h, List.length_cons]
  have := tailC_len r
  omega
theorem show_uni : (uni.all fun s => PyData.showable (spD s).py && decide (PyData.depth (spD s).py ≤ 10)) = true := by decide +kernel
theorem run_showable : ∀ {r : List Spt}, (∀ s ∈ r, s ∈ uni) → PyData.showableAll (D.pys (r.map spD)) = true
  | [], _ => rfl
  | s :: r, h => by
    show PyData.showableAll ((spD s).py :: D.pys (r.map spD)) = true
    have := List.all_eq_true.mp show_uni s (h s List.mem_cons_self)
    rw [Bool.and_eq_true] at this
    rw [PyData.showableAll, this.1, run_showable fun x hx => h x (List.mem_cons_of_mem _ hx)]
    rfl
theorem run_depth : ∀ {r : List Spt}, (∀ s ∈ r, s ∈ uni) → PyData.depthAll (D.pys (r.map spD)) ≤ 10
  | [], _ => Nat.zero_le _
  | s :: r, h => by
    show PyData.depthAll ((spD s).py :: D.pys (r.map spD)) ≤ 10
    have := List.all_eq_true.mp show_uni s (h s List.mem_cons_self)
    rw [Bool.and_eq_true, decide_eq_true_eq] at this
    have ih := run_depth (r := r) fun x hx => h x (List.mem_cons_of_mem _ hx)
    rw [PyData.depthAll]
    omega
end L3
end
section
set_option maxRecDepth 10000
set_option maxHeartbeats 8000000
/-! L5Great: the greatest over all runs. -/
namespace L3
open PySem
theorem Own.ext {S S1 S2 : Sto} {ps : List (Addr × AO)} (O : Own S S1 ps) (s : Sub S1 S2) : Own S S2 ps := ⟨O.sub.trans s, O.none, fun x hx => s _ _ (O.at_ x hx), O.nd⟩
theorem RB.vld {P : Pg} (G : Good P) {n l : Nat} {s : Spt} {r : List Spt} {d : Bool} (h : RB P n l s r d) : Vld P s → ∀ x ∈ r, Vld P x := by
  induction h with
  | fin _ => exact fun v x hx => by rw [List.mem_singleton.mp hx]; exact v
  | stop _ => exact fun v x hx => by rw [List.mem_singleton.mp hx]; exact v
  | one e _ ih =>
    intro v x hx
    rcases List.mem_cons.mp hx with q | hx
    · rw [q]; exact v
    · exact ih (nx_vld G v (by rw [e]; exact List.mem_cons_self)) x hx
  | two e _ ih =>
    intro v x hx
    rcases List.mem_cons.mp hx with q | hx
    · rw [q]; exact v
    · exact ih (nx_vld G v (by rw [e]; split <;> simp)) x hx
structure Great (P : Pg) (M : Mn) (k fo : Nat) (en : Bool) : Prop where
  up : ∀ (n : Nat) r d, n < k → RB P n 6 fst_ r d → ∀ i, i < r.length → (liv P M (r.take i)).length ≤ fo
  low : fo = 0 ∨ ∃ (n : Nat) (r : List Spt) (d : Bool) (i : Nat), n < k ∧ RB P n 6 fst_ r d ∧ i < r.length ∧ fo = (liv P M (r.take i)).length
  en : en = true → ∀ (n : Nat) r d, n < k → RB P n 6 fst_ r d → d = true
  ex : ∀ n, n < k → ∃ r d, RB P n 6 fst_ r d
def p_law_greatest : F3 := fun ds S Q => ∃ (P : Pg) (M : Mn) (rw m : Addr), ds = [pgD P, .ref rw, .ref m] ∧ Good P ∧ RowsAll P S rw ∧ S m = some (.lst (M.map mnD)) ∧ M.length ≤ 1000 ∧ ∀ fo en, Great P M 64 fo en → Q (.tup [.int (fo : Nat), .bl en]) S
theorem ok_run {r : List Spt} : (r.map spD).all (D.ok 20) = true := all_map fun s _ => ok_sp s 17
theorem k_law_greatest : Keeps 11 3 (b_law_greatest p_law_run_by p_law_book) p_law_greatest := by
  refine ⟨fun ds S Q ⟨P, M, rw, m, h, _⟩ => by rw [h]; rfl, fun ds S Q ⟨P, M, rw, m, h, G, hR, hM, lM, hQ⟩ => ?_⟩
  subst h
  intro ps hps
  have O := (Own.start S).add (o := .dK []) hps
  refine ⟨by decide, by decide, ?_⟩
  rw [show (64 : Int).toNat = 64 from rfl, range0]
  refine for_pre (f := fun i : Nat => D.int (i : Nat)) (fun l δ S' => ∃ (fo : Nat) (en : Bool) (v6 v7 v8 : Option D) (ks : List Str), δ = [some (pgD P), some (.ref rw), some (.ref m), some (.int (fo : Nat)), some (.bl en), some (.ref ps), v6, v7, v8, none, none] ∧
    Own S S' [(ps, .dK (ks.map fun x => (x, D.bl true)))] ∧ Great P M l.length fo en ∧ ks.length ≤ l.length ∧ ∀ x ∈ ks, ∃ (n : Nat) (r : List Spt) (d : Bool), n < l.length ∧ RB P n 6 fst_ r d ∧ x = runT r) (List.range 64)
    ⟨0, true, none, none, none, [], rfl, O, ⟨(fun n r d h => absurd h (Nat.not_lt_zero _)), .inl rfl, (fun _ n r d h => absurd h (Nat.not_lt_zero _)), (fun n h => absurd h (Nat.not_lt_zero _))⟩, Nat.le_refl _, (fun x h => nomatch h)⟩ (fun _ _ _ _ => trivial) ?_ ?_
  · rintro l i rr δ S1 e ⟨fo, en, v6, v7, v8, ks, rfl, O, H, lk, hks⟩ k hk
    obtain ⟨rfl, hlt⟩ := range_mid e
    have l1 : (l ++ [l.length]).length = l.length + 1 := by rw [List.length_append, List.length_singleton]
    refine ⟨P, rw, l.length, rfl, G, hR.sub O.sub, fun r d hrb hv hlen p hp => ?_⟩
    refine ⟨rfl, rfl, ?_⟩
    have hu : ∀ s ∈ r, s ∈ uni := fun s hs => vld_uni G (hv s hs)
    have O := O.add (o := .lst (r.map spD)) hp
    generalize S1.put p (.lst (r.map spD)) = S2 at O
    -- what the run adds
    have grow : ∀ (fo' : Nat) (en' : Bool), (en' = true → en = true ∧ d = true) → fo ≤ fo' → (∀ i, i < r.length → (liv P M (r.take i)).length ≤ fo') → (fo' = fo ∨ ∃ i, i < r.length ∧ fo' = (liv P M (r.take i)).length) → Great P M (l ++ [l.length]).length fo' en' := by
      intro fo' en' he hle hup hlow
      rw [l1]
      refine ⟨fun n r2 d2 hn h2 => ?_, ?_, fun hen n r2 d2 hn h2 => ?_, fun n hn => ?_⟩
      · by_cases q : n = l.length
        · subst q
          obtain ⟨e1, _⟩ := hrb.det h2
          rw [← e1]
          exact hup
        · exact fun i hi => Nat.le_trans (H.up n r2 d2 (by omega) h2 i hi) hle
      · rcases hlow with q | ⟨i, hi, q⟩
        · rcases H.low with z | ⟨n, r2, d2, i, h1, h2, h3, h4⟩
          · exact .inl (q.trans z)
          · exact .inr ⟨n, r2, d2, i, by omega, h2, h3, q.trans h4⟩
        · exact .inr ⟨l.length, r, d, i, Nat.lt_succ_self _, hrb, hi, q⟩
      · obtain ⟨a1, a2⟩ := he hen
        by_cases q : n = l.length
        · subst q
          obtain ⟨_, e2⟩ := hrb.det h2
          rw [← e2]
          exact a2
        · exact H.en a1 n r2 d2 (by omega) h2
      · by_cases q : n = l.length
        · subst q
          exact ⟨r, d, hrb⟩
        · exact H.ex n (by omega)
    have t2 : PyData.showable (.list (D.pys (r.map spD))) = true := by
      rw [PyData.showable]
      exact run_showable hu
    have t3 : PyData.depth (.list (D.pys (r.map spD))) ≤ 50 := by
      rw [PyData.depth]
      have := run_depth hu
      omega
    have t4 := runT_len hu hlen
    have rest : ∀ e2 : Bool, (e2 = true → en = true ∧ d = true) →
        (sIf (bT (xOp (rInK true) (xBi cStr (aCons (xVar 7) aNil)) (xVar 5))) (sSeq (sAsg (xC (.bl true)) (gSubK (xVar 5) (xBi cStr (aCons (xVar 7) aNil)))) (sAsg (xBi cMax2 (aCons (xVar 3) (aCons (xBi cMaxL (aCons (xLc (iSeq (xCall p_law_book (aCons (xVar 0) (aCons (xVar 2) (aCons (xVar 7) aNil))))) [9, 10] (gTup 2 (gCons (gN 9) (gCons (gN 10) gNil))) bYes (xBi cLen (aCons (xVar 9) aNil))) aNil)) aNil))) (gN 3))) sNil)
          ⟨k, fun d S' => ∃ S'', Sub S'' S' ∧ Q d S''⟩ [some (pgD P), some (.ref rw), some (.ref m), some (.int (fo : Nat)), some (.bl e2), some (.ref ps), some (.int (l.length : Nat)), some (.ref p), some (.bl d), none, none] S2 := by
      intro e2 he2
      refine ⟨_, O.at 1, ok_run, t2, t3, t4, ?_⟩
      refine ⟨ps, _, _, rfl, rfl, O.at 0, itB (fun h => ?_) (fun h => ?_)⟩
      · rw [bne_t (hasK_map ks (fun _ => D.bl true) (PyData.shown (.list (D.pys (r.map spD)))))] at h
        have hn : PyData.shown (.list (D.pys (r.map spD))) ∉ ks := by simpa using h
        refine ⟨_, O.at 1, ok_run, t2, t3, t4, ?_⟩
        refine ⟨ps, _, _, rfl, rfl, O.at 0, by rw [List.length_map]; omega, ?_⟩
        rw [putK_map, if_neg hn]
        have O := O.set (o' := .dK ((ks ++ [runT r]).map fun x => (x, D.bl true))) 0
        refine ⟨P, M, m, p, r, rfl, G, O.old hM, lM, O.at 1, hv, by omega, fun S3 b s3 hb0 hbk => ?_⟩
        have O := O.ext s3
        obtain ⟨bk, hb1, hb2, hb3⟩ := hbk
        refine ⟨_, hb1, ?_⟩
        have hr0 : 0 < r.length := by
          obtain ⟨r', q⟩ := hrb.head
          rw [q]
          exact Nat.zero_lt_succ _
        refine lc_pure (f := bkD) (· = S3) (fun x => some (.int (x.2.2.length : Nat))) bk [] S3 _ rfl (fun S' e => by rw [e]; exact hb1) (by show 0 + _ ≤ _; omega) ?_ ?_
        · rintro x hx S' rfl k1 k2 hk2
          obtain ⟨i, hi⟩ := List.getElem?_of_mem hx
          have h1 := (hb3 i x hi).1
          refine ⟨rfl, rfl, _, h1, ?_⟩
          rw [List.length_map]
          exact hk2 _ rfl
        rintro S' rfl n hn2
        rw [List.nil_append, List.filterMap_eq_map']
        have O := O.add (o := .lst (bk.map fun x => .int (x.2.2.length : Nat))) hn2
        refine ⟨bk.map fun x => ((x.2.2.length : Nat) : Int), ?_, ?_, fun mx hmx hge => ?_⟩
        · rw [List.map_map]
          exact O.at 2
        · intro q
          have := congrArg List.length q
          rw [List.length_map, List.length_nil] at this
          omega
        · obtain ⟨x, hx, rfl⟩ := List.mem_map.mp hmx
          obtain ⟨i, hi⟩ := List.getElem?_of_mem hx
          have hil : i < r.length := by rw [← hb2]; exact (List.getElem?_eq_some_iff.mp hi).1
          have vx : (x.2.2.length : Nat) = (liv P M (r.take i)).length := by rw [← (hb3 i x hi).2.1, List.length_map]
          have all : ∀ j, j < r.length → (liv P M (r.take j)).length ≤ x.2.2.length := fun j hj => by
            obtain ⟨y, hy⟩ : ∃ y, bk[j]? = some y := ⟨_, List.getElem?_eq_getElem (by rw [hb2]; exact hj)⟩
            have := hge _ (List.mem_map.mpr ⟨y, List.mem_of_getElem? hy, rfl⟩)
            rw [← (hb3 j y hy).2.1, List.length_map]
            omega
          have fin : ∀ fo' : Nat, (fo ≤ fo') → (x.2.2.length ≤ fo') → (fo' = fo ∨ fo' = x.2.2.length) → k [some (pgD P), some (.ref rw), some (.ref m), some (.int (fo' : Nat)), some (.bl e2), some (.ref ps), some (.int (l.length : Nat)), some (.ref p), some (.bl d), none, none] (S'.put n (.lst (bk.map fun x => .int (x.2.2.length : Nat)))) := fun fo' h1 h2 h3 => by
            refine hk _ _ ⟨fo', e2, _, _, _, ks ++ [runT r], rfl, O.keep (List.sublist_append_left [_] [_, _]), grow fo' e2 he2 h1 (fun j hj => Nat.le_trans (all j hj) h2) ?_, by rw [List.length_append, List.length_singleton, l1]; omega, fun z hz => ?_⟩
            · rcases h3 with q | q
              · exact .inl q
              · exact .inr ⟨i, hil, q.trans vx⟩
            · rcases List.mem_append.mp hz with hz | hz
              · obtain ⟨n2, r2, d2, g1, g2, g3⟩ := hks z hz
                exact ⟨n2, r2, d2, by omega, g2, g3⟩
              · exact ⟨l.length, r, d, by omega, hrb, List.mem_singleton.mp hz⟩
          show k [some (pgD P), some (.ref rw), some (.ref m), some (.int (if ((x.2.2.length : Nat) : Int) > ((fo : Nat) : Int) then ((x.2.2.length : Nat) : Int) else ((fo : Nat) : Int))), some (.bl e2), some (.ref ps), some (.int (l.length : Nat)), some (.ref p), some (.bl d), none, none] _
          by_cases q : ((x.2.2.length : Nat) : Int) > ((fo : Nat) : Int)
          · rw [if_pos q]
            exact fin x.2.2.length (by omega) (Nat.le_refl _) (.inr rfl)
          · rw [if_neg q]
            exact fin fo (Nat.le_refl _) (by omega) (.inl rfl)
      · rw [bne_t (hasK_map ks (fun _ => D.bl true) (PyData.shown (.list (D.pys (r.map spD)))))] at h
        have hin0 : PyData.shown (.list (D.pys (r.map spD))) ∈ ks := by simpa using h
        have hin : runT r ∈ ks := hin0
        obtain ⟨n2, r2, d2, g1, g2, g3⟩ := hks _ hin
        have er : r = r2 := runT_inj hu (fun s hs => vld_uni G (g2.vld G vld_fst s hs)) g3
        refine hk _ _ ⟨fo, e2, _, _, _, ks, rfl, O.keep (List.sublist_append_left [_] [_]), grow fo e2 he2 (Nat.le_refl _) (fun j hj => ?_) (.inl rfl), by rw [l1]; omega, fun z hz => ?_⟩
        · have := H.up n2 r2 d2 g1 g2 j (by rw [← er]; exact hj)
          rw [← er] at this
          exact this
        · obtain ⟨n3, r3, d3, q1, q2, q3⟩ := hks z hz
          exact ⟨n3, r3, d3, by omega, q2, q3⟩
    cases en with
    | true => exact rest d fun q => ⟨rfl, q⟩
    | false => exact rest false fun q => nomatch q
  · rintro δ S' ⟨fo, en, v6, v7, v8, ks, rfl, O, H, lk, hks⟩
    rw [List.length_range] at H
    exact ⟨Nat.le_of_ble_eq_true rfl, S, O.sub, hQ fo en H⟩
end L3
end
section
set_option maxRecDepth 10000
set_option maxHeartbeats 8000000
/-! L5Law: the law. -/
namespace L3
open PySem
/-! ### runs -/
theorem RB.rn {P : Pg} {n l : Nat} {s : Spt} {r : List Spt} {d : Bool} (h : RB P n l s r d) : ∀ q, Rn P q s → ∀ (i : Nat) x, r[i]? = some x → Rn P (q ++ r.take i) x := by
  induction h with
  | fin _ =>
    intro q hq i x hx
    cases i with
    | zero => cases hx; simpa using hq
    | succ i => simp at hx
  | stop _ =>
    intro q hq i x hx
    cases i with
    | zero => cases hx; simpa using hq
    | succ i => simp at hx
  | @one n l s a r d e _ ih =>
    intro q hq i x hx
    cases i with
    | zero => cases hx; simpa using hq
    | succ i =>
      simp only [List.getElem?_cons_succ] at hx; have := ih (q ++ [s]) (hq.step (by rw [e]; exact List.mem_cons_self)) i x hx
      rw [List.append_assoc] at this; exact this
  | @two n l s a b r d e _ ih =>
    intro q hq i x hx
    cases i with
    | zero => cases hx; simpa using hq
    | succ i =>
      simp only [List.getElem?_cons_succ] at hx; have := ih (q ++ [s]) (hq.step (by rw [e]; split <;> simp)) i x hx
      rw [List.append_assoc] at this; exact this
theorem RB.len {P : Pg} (G : Good P) {n l : Nat} {s : Spt} {r : List Spt} {d : Bool} (h : RB P n l s r d) : Vld P s → r.length ≤ l * 1000 + mu P s + 1 := by
  induction h with
  | fin _ => exact fun _ => by rw [List.length_singleton]; omega
  | stop _ => exact fun _ => by rw [List.length_singleton]; omega
  | @one n l s a r d e _ ih =>
    intro v
    have := ih (nx_vld G v (by rw [e]; exact List.mem_cons_self))
    have := mu_one G v e
    rw [List.length_cons]
    omega
  | @two n l s a b r d e _ ih =>
    intro v
    have := ih (nx_vld G v (by rw [e]; split <;> simp))
    have := mu_le G (if n % 2 = 0 then a else b)
    rw [List.length_cons]
    omega
theorem Great.all {P : Pg} {M : Mn} {fo : Nat} (H : Great P M 64 fo true) {r : List Spt} {t : Spt} (h : Rn P r t) : ∃ n R, n < 64 ∧ RB P n 6 fst_ R true ∧ (r ++ [t]) <+: R :=
  cover h.pc 6 fun n hn => by
    obtain ⟨R, d, hR⟩ := H.ex n hn
    have := H.en rfl n R d hn hR
    subst this
    exact ⟨R, hR⟩
theorem Great.le {P : Pg} {M : Mn} {fo N : Nat} {en : Bool} (H : Great P M 64 fo en) (h1 : ∀ r t, Rn P r t → (liv P M r).length ≤ N) : fo ≤ N := by
  rcases H.low with q | ⟨n, r, d, i, hn, hr, hi, q⟩
  · omega
  · rw [q]
    have := hr.rn [] .fst i _ (List.getElem?_eq_getElem hi)
    exact h1 _ _ this
theorem Great.ge {P : Pg} {M : Mn} {fo N : Nat} (H : Great P M 64 fo true) (h2 : ∃ r t, Rn P r t ∧ N ≤ (liv P M r).length) : N ≤ fo := by
  obtain ⟨r, t, hr, hN⟩ := h2
  obtain ⟨n, R, hn, hR, hp⟩ := H.all hr
  obtain ⟨x, hx⟩ := hp
  have hl : r.length < R.length := by
    rw [← hx, List.length_append, List.length_append, List.length_singleton]
    omega
  have := H.up n R true hn hR r.length hl
  have e : R.take r.length = r := by rw [← hx, List.append_assoc, List.take_left']; rfl
  rw [e] at this
  omega
section
variable {P : Pg} {st bar : Spt → Prop} {r : List Spt} {t : Spt}
theorem Pth.last (h : Pth P st bar r t) : r = r.dropLast ++ [t] := by
  cases h with
  | one _ => rfl
  | more _ _ _ => rw [List.dropLast_concat]
theorem Pth.reach (h : Pth P st bar r t) (hs : ∀ x, st x → Reach P x) : ∀ y ∈ r, Reach P y := by
  induction h with
  | one h => exact fun y hy => by rw [List.mem_singleton.mp hy]; exact hs _ h
  | more h1 _ h3 ih =>
    intro y hy
    rcases List.mem_append.1 hy with hy | hy
    · exact ih y hy
    · rw [List.mem_singleton.mp hy]
      refine (ih _ ?_).step h3
      rw [h1.last]
      simp
theorem Pth.free (h : Pth P st bar r t) : ∀ y ∈ r.dropLast, ¬ bar y := by
  induction h with
  | one _ => exact fun y hy => nomatch hy
  | more h1 h2 _ ih =>
    intro y hy
    rw [List.dropLast_concat, h1.last] at hy
    rcases List.mem_append.1 hy with hy | hy
    · exact ih y hy
    · rw [List.mem_singleton.mp hy]; exact h2
theorem Pth.rn (h : Pth P st bar r t) {q : List Spt} (hs : ∀ x, st x → Rn P q x) : Rn P (q ++ r.dropLast) t := by
  induction h with
  | one h => simpa using hs _ h
  | @more s t l h1 _ h3 ih =>
    rw [List.dropLast_concat, h1.last, ← List.append_assoc]
    exact ih.step h3
end
/-- a round: no end of all runs -/
theorem Round.endless {P : Pg} {M : Mn} {w : Str} {s : Spt} {r : List Spt} (G : Good P) (h : Round P M w s r) {fo : Nat} (H : Great P M 64 fo true) : False := by
  have go : ∀ k, ∃ q, Rn P q s ∧ k ≤ q.length := by
    intro k
    induction k with
    | zero =>
      obtain ⟨q, hq⟩ := h.1.rn
      exact ⟨q, hq, Nat.zero_le _⟩
    | succ k ih =>
      obtain ⟨q, hq, hk⟩ := ih
      refine ⟨(q ++ [s]) ++ r.dropLast, h.2.2.2.rn fun x hx => hq.step hx, ?_⟩
      rw [List.length_append, List.length_append, List.length_singleton]
      omega
  obtain ⟨q, hq, hk⟩ := go 7000
  obtain ⟨n, R, hn, hR, x, hx⟩ := H.all hq
  have := mu_le G fst_
  have := hR.len G vld_fst
  rw [← hx, List.length_append, List.length_append, List.length_singleton] at this
  omega
/-- the rooms of the word w -/
def cw (P : Pg) (M : Mn) (w : Str) (r : List Spt) : Nat := ((liv P M r).filter fun z => decide (z = w)).length
theorem cw_snoc {P : Pg} {M : Mn} {w : Str} {r : List Spt} {s : Spt} (h : w ∉ gv M s) : cw P M w (r ++ [s]) = cw P M w r + (if mk P s = some w then 1 else 0) := by
  unfold cw
  rw [liv_snoc, List.filter_append, List.length_append, List.filter_filter]
  congr 1
  · congr 1
    refine List.filter_congr fun z _ => ?_
    rw [Bool.eq_iff_iff]
    simp only [Bool.and_eq_true, decide_eq_true_eq]; exact ⟨fun q => q.1, fun q => ⟨q, q ▸ h⟩⟩
  · cases mk P s with
    | none => rfl
    | some x =>
      show (List.filter (fun z => decide (z = w)) [x]).length = if some x = some w then 1 else 0
      by_cases q : x = w
      · rw [q]; simp
      · rw [if_neg fun z => q (Option.some.inj z), List.filter_cons, if_neg (by simpa using q)]; rfl
theorem cw_app {P : Pg} {M : Mn} {w : Str} : ∀ (m r : List Spt), (∀ y ∈ m, w ∉ gv M y) → cw P M w r ≤ cw P M w (r ++ m)
  | [], r, _ => by rw [List.append_nil]; exact Nat.le_refl _
  | y :: m, r, h => by
    have h1 := cw_snoc (P := P) (r := r) (h y List.mem_cons_self)
    have h2 := cw_app (P := P) m (r ++ [y]) fun z hz => h z (List.mem_cons_of_mem _ hz)
    rw [List.append_assoc] at h2
    have e : r ++ ([y] ++ m) = r ++ y :: m := rfl
    rw [e] at h2
    omega
theorem Round.more {P : Pg} {M : Mn} {w : Str} {s : Spt} {r pre : List Spt} (h : Round P M w s r) (hp : Pth P (· = fst_) (fun _ => False) pre s) : cw P M w pre.dropLast < cw P M w ((pre ++ r ++ r).dropLast) := by
  obtain ⟨h1, h2, h3, h4⟩ := h
  have lr := h4.last
  have lp := hp.last
  have hre : ∀ y ∈ r, Reach P y := h4.reach fun x hx => h1.step hx
  have fr : ∀ y ∈ r.dropLast, w ∉ gv M y := fun y hy z => h4.free y hy ⟨hre y ((List.dropLast_sublist r).subset hy), z⟩
  have e : (pre ++ r ++ r).dropLast = (((pre.dropLast ++ [s]) ++ r.dropLast) ++ [s]) ++ r.dropLast := by
    have e1 : pre ++ r ++ r = ((((pre.dropLast ++ [s]) ++ r.dropLast) ++ [s]) ++ r.dropLast) ++ [s] := by
      conv => lhs; rw [lp, lr]
      simp only [List.append_assoc]
    rw [e1, List.dropLast_concat]
  rw [e]
  have c1 := cw_app (P := P) (M := M) (w := w) r.dropLast (((pre.dropLast ++ [s]) ++ r.dropLast) ++ [s]) fr
  have c2 := cw_snoc (P := P) (M := M) (r := (pre.dropLast ++ [s]) ++ r.dropLast) h3
  have c3 := cw_app (P := P) (M := M) (w := w) r.dropLast (pre.dropLast ++ [s]) fr
  have c4 := cw_snoc (P := P) (M := M) (r := pre.dropLast) h3
  rw [if_pos h2] at c2 c4
  omega
end L3
end
section
set_option maxRecDepth 10000
set_option maxHeartbeats 16000000
/-! L5End: the law's def. -/
namespace L3
open PySem
def p_law : F3 := fun ds S Q => ∃ ns : List Int, ds = [.src ns] ∧ ns.length ≤ 63 ∧ ∀ S', Sub S S' → Q (.bl true) S'
theorem evens_map : ∀ (n lo : Nat), evens (lo : Int) n = (List.range n).map fun i => .int ((lo + 2 * i : Nat) : Int)
  | 0, _ => rfl
  | n + 1, lo => by
    show D.int (lo : Int) :: evens ((lo : Int) + 2) n = _
    rw [show ((lo : Nat) : Int) + 2 = ((lo + 2 : Nat) : Int) by omega, evens_map n (lo + 2), List.range_succ_eq_map, List.map_cons, List.map_map]
    congr 1
    refine List.map_congr_left fun i _ => ?_; show D.int ((lo + 2 + 2 * i : Nat) : Int) = D.int ((lo + 2 * (i + 1) : Nat) : Int)
    rw [show lo + 2 + 2 * i = lo + 2 * (i + 1) by omega]
theorem good_part {P : Pg} (G : Good P) {l r : Pg} {x : Str × List Ln} (e : P = l ++ x :: r) : wfK (x.2.map Ln.kd) = true ∧ x.2.length ≤ 8 := by
  have hi : P[l.length]? = some x := by rw [e, List.getElem?_append_right (Nat.le_refl _), Nat.sub_self]; rfl
  have h1 := G.wf l.length
  have h2 := G.bd l.length
  rw [lines_at hi] at h1 h2
  exact ⟨h1, h2⟩
theorem k_law : Keeps 14 1 (b_law p_law_program p_law_manner p_most p_law_greatest p_law_feed p_law_blocks p_law_book) p_law := by
  refine ⟨fun ds S Q ⟨ns, h, _⟩ => by rw [h]; rfl, fun ds S Q ⟨ns, h, hns, hQ⟩ => ?_⟩
  subst h
  -- the bound of the range
  obtain ⟨m, hm1, hm2, hme⟩ : ∃ m : Nat, 2 ≤ m ∧ m ≤ 4 ∧ (if (if ((ns.length : Nat) : Int) < 4 then ((ns.length : Nat) : Int) else 4) > 2 then (if ((ns.length : Nat) : Int) < 4 then ((ns.length : Nat) : Int) else 4) else 2) = ((m : Nat) : Int) := by
    by_cases h1 : ((ns.length : Nat) : Int) < 4
    · rw [if_pos h1]
      by_cases h2 : ((ns.length : Nat) : Int) > 2
      · rw [if_pos h2]
        exact ⟨ns.length, by omega, by omega, rfl⟩
      · rw [if_neg h2]
        exact ⟨2, by decide, by decide, rfl⟩
    · rw [if_neg h1, if_pos (by decide)]
      exact ⟨4, by decide, by decide, rfl⟩
  refine ⟨rfl, rfl, by rw [hme]; omega, by rw [hme]; omega, ?_⟩
  rw [hme]
  rw [show ((((m : Nat) : Int) + 1) / 2).toNat = (m + 1) / 2 by omega, show evens 0 ((m + 1) / 2) = (List.range ((m + 1) / 2)).map fun i => D.int ((0 + 2 * i : Nat) : Int) from evens_map _ 0]
  refine for_pre (f := fun i : Nat => D.int ((0 + 2 * i : Nat) : Int)) (fun l δ S' => ∃ (v1 v2 v3 v4 v5 v6 v7 v8 v9 v10 : Option D), δ = [some (.src ns), v1, v2, v3, v4, v5, v6, v7, v8, v9, v10, none, none, none] ∧ Sub S S') (List.range ((m + 1) / 2))
    ⟨none, none, none, none, none, none, none, none, none, none, rfl, Sub.refl S⟩ (fun _ _ _ _ => trivial) ?_ ?_
  · rintro l i rr δ S1 e ⟨v1, v2, v3, v4, v5, v6, v7, v8, v9, v10, rfl, s1⟩ k hk
    obtain ⟨hi, hlt⟩ := range_mid e
    have hk1000 : 0 + 2 * i < 900 := by omega
    generalize hkk : 0 + 2 * i = kk at hk1000
    -- program
    refine ⟨ns, kk, rfl, by omega, fun a b f ok hf => ?_⟩
    have O := (Own.start S1).add (o := fdl a b) hf
    refine ⟨Nat.le_of_ble_eq_true rfl, fun bd hbd => ?_⟩
    have O := O.add (o := .lst [.int 2, .int 3, .int 2, .int 4]) hbd
    refine ⟨f, bd, a, b, rfl, O.at 0, ok, O.at 1, fun P a1 b1 ok1 G => ?_⟩
    have O := O.set (o' := fdl a1 b1) 0
    have s2 := O.sub
    generalize Sto.put _ f (fdl a1 b1) = S2 at s2
    -- rows
    refine lc_inv (f := ptD) (fun l acc S' => ∃ rfs : List Addr, acc = rfs.map D.ref ∧ Sub S2 S' ∧ rfs.length = l.length ∧ l.length ≤ 2 ∧ ∀ (i : Nat) p, l[i]? = some p → ∃ q rws, rfs[i]? = some q ∧ S' q = some (.lst rws) ∧ BlkRows S' p.2 rws) P
      ⟨[], rfl, Sub.refl S2, rfl, Nat.zero_le _, fun i p h => by simp at h⟩ (fun _ _ _ _ => trivial) (fun l acc S' ⟨rfs, h1, _, h2, h3, _⟩ => by rw [h1, List.length_map]; omega) ?_ ?_
    · rintro l x r acc S3 e2 ⟨rfs, rfl, s3, hl, hl2, hrf⟩ k1 k2 hk1 hk2
      obtain ⟨wf, ln⟩ := good_part G e2
      have hP : l.length + 1 ≤ 2 := by
        have := G.len
        rw [e2, List.length_append, List.length_cons] at this
        omega
      refine ⟨_, rfl, x.2, rfl, wf, ln, fun S4 p rws s4 hp0 hpr hbl => hk1 _ _ ⟨rfs ++ [p], by rw [List.map_append]; rfl, s3.trans s4, by rw [List.length_append, List.length_append, hl]; rfl, by rw [List.length_append]; exact hP, fun i z hz => ?_⟩⟩
      by_cases hi : i < l.length
      · rw [List.getElem?_append_left hi] at hz
        obtain ⟨q, rw2, g1, g2, g3⟩ := hrf i z hz
        exact ⟨q, rw2, by rw [List.getElem?_append_left (by omega)]; exact g1, s4 _ _ g2, g3.sub s4⟩
      · rw [List.getElem?_append_right (by omega)] at hz
        have e0 : i - l.length = 0 := by
          have := (List.getElem?_eq_some_iff.mp hz).1
          rw [List.length_singleton] at this
          omega
        rw [e0] at hz
        have ez : x = z := Option.some.inj hz
        refine ⟨p, rws, by rw [List.getElem?_append_right (by omega), show i - rfs.length = 0 by omega]; rfl, hpr, ?_⟩
        rw [← ez]
        exact hbl
    rintro acc S3 ⟨rfs, rfl, s3, hl, hl2, hrf⟩ rw hrw
    have s4 : Sub S3 (S3.put rw (.lst (rfs.map D.ref))) := (Sub.refl S3).new hrw
    have hR : RowsAll P (S3.put rw (.lst (rfs.map D.ref))) rw := ⟨rfs, put_same, fun i p hp => by
      obtain ⟨q, rws, g1, g2, g3⟩ := hrf i p hp
      exact ⟨q, rws, g1, s4 _ _ g2, g3.sub s4⟩⟩
    have s14 := (s1.trans s2).trans (s3.trans s4)
    generalize S3.put rw (.lst (rfs.map D.ref)) = S4 at hR s14
    -- manner
    refine ⟨ns, kk + 1, by rw [Int.natCast_add]; rfl, by omega, fun a2 b2 f2 ok2 hf2 => ?_⟩
    have O := (Own.start S4).add (o := fdl a2 b2) hf2
    refine ⟨P, f2, a2, b2, rfl, G, O.at 0, ok2, fun M a3 b3 mm lM ok3 hmm => ?_⟩
    have O := (O.set (o' := fdl a3 b3) 0).add (o := .lst (M.map mnD)) hmm
    have hM := O.at 1
    have hR := hR.sub O.sub
    have s15 := s14.trans O.sub
    generalize Sto.put _ mm (.lst (M.map mnD)) = S5 at hM hR s15
    clear O
    -- most
    refine ⟨_, hM, fun m2 hm2 => ?_⟩
    have O := (Own.start S5).add (o := .lst (M.map mnD)) hm2
    have hM := O.sub _ _ hM
    have hR := hR.sub O.sub
    have hm3 := O.at 0
    have s16 := s15.trans O.sub
    generalize S5.put m2 (.lst (M.map mnD)) = S6 at hM hR hm3 s16
    clear O
    refine ⟨P, M, m2, rfl, G, hm3, lM, fun w s r pre hrd hp lr lp q1 q2 S7 O => ?_, fun N hN1 hN2 d1 d2 S7 s7 => ?_⟩
    · -- grows
      have hM := O.old hM
      have hR := hR.sub O.sub
      have s17 := s16.trans O.sub
      refine ⟨P, M, rw, mm, rfl, G, hR, hM, lM, fun fo en H => ?_⟩
      have t1 : (false != D.eqb (.str "grows") (.str "most")) = false := (bne_f (str_eqb _ _)).trans (by decide +kernel)
      have t2 : (false != D.eqb (.str "grows") (.str "grows")) = true := (bne_f (str_eqb _ _)).trans (by decide +kernel)
      refine ⟨rfl, rfl, _, rfl, .inl ⟨rfl, itF t1 ⟨_, rfl, .inl ⟨rfl, itT t2 ?_⟩⟩⟩⟩
      have hre : ∀ y ∈ r, Reach P y := hrd.2.2.2.reach fun x hx => hrd.1.step hx
      have hpe : ∀ y ∈ pre, Reach P y := hp.reach fun x hx => by rw [hx]; exact .fst
      have ec : cut ((s :: r).map spD) (some 1) none = r.map spD := cut_from (n := 1) (by simp)
      refine ⟨_, rfl, _, rfl, _, O.at 1, fun n1 h1 => ?_⟩
      rw [ec]
      have O := O.add (o := .lst (r.map spD)) h1
      refine ⟨_, _, O.at 0, O.at 2, by rw [List.length_map, List.length_map]; omega, fun n2 h2 => ?_⟩
      have O := O.add (o := .lst (pre.map spD ++ r.map spD)) h2
      refine ⟨_, rfl, _, O.at 1, fun n3 h3 => ?_⟩
      rw [ec]
      have O := O.add (o := .lst (r.map spD)) h3
      refine ⟨_, _, O.at 3, O.at 4, by rw [List.length_append, List.length_map, List.length_map]; omega, fun n4 h4 => ?_⟩
      rw [show pre.map spD ++ r.map spD ++ r.map spD = (pre ++ r ++ r).map spD by rw [List.map_append, List.map_append]]
      have O := O.add (o := .lst ((pre ++ r ++ r).map spD)) h4
      have s18 := s16.trans O.sub
      have hM := (O.sub _ _ ‹S6 mm = some (.lst (M.map mnD))›)
      refine ⟨P, M, mm, n4, pre ++ r ++ r, rfl, G, hM, lM, O.at 5, fun y hy => ?_, by rw [List.length_append, List.length_append]; omega, fun S9 b s9 hb0 hbk => ?_⟩
      · rcases List.mem_append.mp hy with hy | hy
        · rcases List.mem_append.mp hy with hy | hy
          · exact (hpe y hy).vld G
          · exact (hre y hy).vld G
        · exact (hre y hy).vld G
      have hq1 := s9 _ _ (O.at 0)
      have s19 := s18.trans s9
      obtain ⟨bk, hb1, hb2, hb3⟩ := hbk
      refine ⟨_, hb1, ?_⟩
      refine lc_pure (f := bkD) (fun S' => Sub S9 S') (fun x => some (.int ((x.2.2.filter fun y => decide (y.2 = w)).length : Nat))) bk [] S9 _ (Sub.refl S9) (fun S' e => e _ _ hb1) (by rw [hb2, List.length_append, List.length_append]; show 0 + _ ≤ _; omega) ?_ ?_
      · rintro x hx S10 s10 k1 k2 hk2
        obtain ⟨j, hj⟩ := List.getElem?_of_mem hx; obtain ⟨x1, x2, x3⟩ := hb3 j x hj
        have xl : x.2.2.length ≤ 100000 := by
          have := congrArg List.length x2
          rw [List.length_map] at this
          rw [this]
          have h1 : ∀ q : List Spt, (liv P M q).length ≤ q.length := fun q => by
            have : ∀ (q acc : List Spt) (a : List Str), a.length ≤ acc.length → (q.foldl (fun l s => l.filter (fun w => decide (w ∉ gv M s)) ++ (mk P s).toList) a).length ≤ acc.length + q.length := by
              intro q
              induction q with
              | nil => exact fun acc a h => h
              | cons y q ih =>
                intro acc a h
                have := ih (acc ++ [y]) (a.filter (fun w => decide (w ∉ gv M y)) ++ (mk P y).toList) (by
                  rw [List.length_append, List.length_append, List.length_singleton]
                  have h2 := List.length_filter_le (fun w => decide (w ∉ gv M y)) a
                  have h3 : (mk P y).toList.length ≤ 1 := by cases mk P y <;> simp
                  omega)
                rw [List.length_append, List.length_singleton] at this
                rw [List.length_cons]
                exact Nat.le_trans this (by omega)
            have := this q [] [] (Nat.le_refl _)
            rw [List.length_nil, Nat.zero_add] at this
            exact this
          have h2 := h1 ((pre ++ r ++ r).take j)
          rw [List.length_take, List.length_append, List.length_append] at h2
          omega
        refine ⟨_, rfl, _, s10 _ _ x1, ?_⟩
        refine lc_pure (f := fun y : Addr × Str => D.ref y.1) (· = S10) (fun y => if decide (y.2 = w) = true then some (.ref y.1) else none) x.2.2 [] S10 _ rfl (fun S' e => by rw [e]; exact s10 _ _ x1) (by show 0 + _ ≤ _; omega) ?_ ?_
        · rintro y hy S' rfl k3 k4 hk4
          obtain ⟨d3, d4, hd⟩ := x3 y hy
          refine ⟨_, _, s10 _ _ hd, at0, _, rfl, .inl ⟨rfl, itB (fun h => ?_) (fun h => ?_)⟩⟩
          · rw [bne_f (str_eqb _ _)] at h
            rw [if_pos h] at hk4
            exact hk4 _ rfl
          · rw [bne_f (str_eqb _ _)] at h
            rw [if_neg (by rw [h]; simp)] at hk4
            exact hk4 _ rfl
        · rintro S' rfl n hn
          rw [List.nil_append, fm_filter]
          refine ⟨_, put_same, ?_⟩
          rw [List.length_map]
          exact hk2 _ (s10.new hn)
      rintro S10 s10 n5 hn5
      rw [List.nil_append, List.filterMap_eq_map']
      cases en with
      | true => exact (hrd.endless G H).elim
      | false =>
        -- the counts at the two places
        have cnt_at : ∀ (j : Nat), j < (pre ++ r ++ r).length → ∃ x, bk[j]? = some x ∧ (x.2.2.filter fun y => decide (y.2 = w)).length = cw P M w ((pre ++ r ++ r).take j) := fun j hj => by
          obtain ⟨x, hx⟩ : ∃ x, bk[j]? = some x := ⟨_, List.getElem?_eq_getElem (by rw [hb2]; exact hj)⟩
          refine ⟨x, hx, ?_⟩
          unfold cw
          rw [← (hb3 j x hx).2.1, List.filter_map, List.length_map]
          rfl
        have lpos : 0 < pre.length := by rw [hp.last]; simp
        obtain ⟨x1, hx1, c1⟩ := cnt_at (pre.length - 1) (by rw [List.length_append, List.length_append]; omega)
        obtain ⟨x2, hx2, c2⟩ := cnt_at ((pre ++ r ++ r).length - 1) (by rw [List.length_append, List.length_append]; omega)
        have e1 : (pre ++ r ++ r).take (pre.length - 1) = pre.dropLast := by
          rw [List.append_assoc, List.take_append_of_le_length (by omega), List.dropLast_eq_take]
        have e2 : (pre ++ r ++ r).take ((pre ++ r ++ r).length - 1) = (pre ++ r ++ r).dropLast := (List.dropLast_eq_take).symm
        rw [e1] at c1
        rw [e2] at c2
        have lt := hrd.more hp
        rw [← c1, ← c2] at lt
        have i1 : ((((pre.map spD).length : Nat) : Int) - 1) = ((pre.length - 1 : Nat) : Int) := by rw [List.length_map]; omega
        have a1 : L2.atI (bk.map fun x => D.int ((x.2.2.filter fun y => decide (y.2 = w)).length : Nat)) (((pre.map spD).length : Nat) - 1 : Int) = some (.int ((x1.2.2.filter fun y => decide (y.2 = w)).length : Nat)) := by
          rw [i1]
          exact atI_map hx1
        have bne : bk ≠ [] := fun q => by rw [q] at hx1; simp at hx1
        obtain ⟨bk0, z, hz⟩ := last_snoc bne
        have ez : z = x2 := by
          have hl : (pre ++ r ++ r).length - 1 = bk0.length := by rw [← hb2, hz, List.length_append, List.length_singleton]; omega
          rw [hl, hz, List.getElem?_append_right (Nat.le_refl _), Nat.sub_self] at hx2
          exact Option.some.inj hx2
        have a2 : L2.atI (bk.map fun x => D.int ((x.2.2.filter fun y => decide (y.2 = w)).length : Nat)) (-1) = some (.int ((x2.2.2.filter fun y => decide (y.2 = w)).length : Nat)) := by
          rw [hz, List.map_append, ez]
          exact atI_last
        have O10 := (Own.start S10).add (o := .lst (bk.map fun x => D.int ((x.2.2.filter fun y => decide (y.2 = w)).length : Nat))) hn5
        refine ⟨_, rfl, _, O10.sub _ _ (s10 _ _ hq1), _, _, O10.at 0, a1, _, _, O10.at 0, a2, itF ?_ ?_⟩
        · rw [decide_eq_true (by omega : (((x1.2.2.filter fun y => decide (y.2 = w)).length : Nat) : Int) < (((x2.2.2.filter fun y => decide (y.2 = w)).length : Nat) : Int))]
          rfl
        · exact hk _ _ ⟨_, _, _, _, _, _, _, _, _, _, rfl, s19.trans (s10.trans O10.sub)⟩
    · -- most
      have hM := s7 _ _ hM
      have hR := hR.sub s7
      refine ⟨P, M, rw, mm, rfl, G, hR, hM, lM, fun fo en H => ?_⟩
      have t1 : (false != D.eqb (.str "most") (.str "most")) = true := (bne_f (str_eqb _ _)).trans (by decide +kernel)
      have t2 : (false != D.eqb (.str "most") (.str "grows")) = false := (bne_f (str_eqb _ _)).trans (by decide +kernel)
      have done : k [some (.src ns), some (.int (kk : Nat)), some (pgD P), some (.ref rw), some (.ref mm), some (.tup [.str "most", .int (N : Nat), d1, d2]), some (.int (fo : Nat)), some (.bl en), v8, v9, v10, none, none, none] S7 := hk _ _ ⟨_, _, _, _, _, _, _, _, _, _, rfl, s16.trans s7⟩
      refine ⟨rfl, rfl, _, rfl, .inl ⟨rfl, itT t1 ⟨_, rfl, itF ?_ ?_⟩⟩⟩
      · exact decide_eq_false (by have := H.le hN1; omega)
      cases en with
      | false => exact ⟨_, rfl, .inl ⟨rfl, itF t2 done⟩⟩
      | true =>
        have e1 := H.le hN1
        have e2 := H.ge hN2
        refine ⟨_, rfl, .inl ⟨rfl, itF ?_ ⟨_, rfl, .inl ⟨rfl, itF t2 done⟩⟩⟩⟩
        rw [bne_t (int_eqb _ _), decide_eq_true (by omega : ((N : Nat) : Int) = ((fo : Nat) : Int))]
        rfl
  · rintro δ S' ⟨v1, v2, v3, v4, v5, v6, v7, v8, v9, v10, rfl, s⟩
    exact ⟨S', Sub.refl _, hQ S' s⟩
end L3
end
set_option maxRecDepth 100000
set_option maxHeartbeats 0
open PySem PySem.W PySem.Calls PyProof.Rows in
theorem PySem.Challenge.cw_doneroom_k55_whole_most_by_all_runs_holds : PySem.Challenge.rw_doneroom_k55_whole_most_by_all_runs.Holds := by
  w_on; o_law
  refine HandSHeadRun.head_any (r := L3.row3) (q := view L3.row3.prog [54]) (H := L3.hook3) (ob := L3.ob3) (M := 4000) (loose := L3.names3) (d := HandSHeadRun.topDef L3.row3.prog 54) (kwd := []) L3.ob3_eq
    (by kernel_rfl) (fun s => by kernel_rfl) L3.headRun (by kernel_rfl) (by kernel_rfl) (by kernel_rfl) (by rfl) (by first | assumption | decide +kernel) (by decide +kernel) ⟨rfl, rfl, rfl, rfl, rfl, by decide +kernel⟩ ?hw ?hc
  case hw => w_witness2
  case hc =>
    refine L3.walk3 (l := PySem.Challenge.rw_doneroom_k55_whole_most_by_all_runs) (k := 8) (x := "script") rfl (by kernel_rfl) ⟨rfl, by decide, by decide⟩ ?F
    intro w mg fa h Y G hmg0
    obtain ⟨K, KX, c⟩ := Y; have hmg : mg ("law" : PySem.Str) = some (.ref fa) := by
      have e : (HandSHeadRun.topDef L3.row3.prog 54).name = ("law" : PySem.Str) := by kernel_rfl
      rw [← e]
      exact hmg0
    obtain ⟨fd, hb, hF⟩ := L3.facts3 L3.k_end_of L3.k_or_of L3.k_head_of L3.k_number_of L3.k_all_lines L3.k_words_of L3.k_first_spot L3.k_place_of L3.k_line_of L3.k_behind_part L3.k_behind_end L3.k_next_spots L3.k_spots L3.k_given_at L3.k_made_at L3.k_spots_ahead L3.k_givings L3.k_rests L3.k_makings L3.k_spots_at L3.k_way_back L3.k_road L3.k_run_to L3.k_growing_round L3.k_wanted_entries L3.k_bettered L3.k_run_back L3.k_table_of L3.k_most L3.k_law_feed L3.k_law_take L3.k_law_names L3.k_law_plain L3.k_law_step_on L3.k_law_part L3.k_law_program L3.k_law_blocks L3.k_law_next L3.k_law_words L3.k_law_manner L3.k_law_made L3.k_law_given L3.k_law_book L3.k_law_run_by L3.k_law_greatest L3.k_law (P := (PySem.Challenge.rw_doneroom_k55_whole_most_by_all_runs).prog) (w := w) KX G hmg c
    exact ⟨K, fd, KX, hb, hF⟩
